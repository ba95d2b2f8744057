import PyProof.Rows.All
import Wide.All
import OpenK.AllK
import Wide.FinOn
import HandS.CallSlots
import HandS.ExcIs
import HandS.ExcSuper
import HandS.ExcValue
import HandS.ForExc
import HandS.ForMost
import HandS.IsInst
import HandS.More
import HandS.Star
import HandS.WideBits
import HandS.Zip
import KE.KExcIs
import KE.KExcSuper
import KE.OsGo
import KE.SortData
import Open.SpecLaws
import PyProof.NeKinds
import PySem.Challenge.RW_groupmemory_k62_whole_formulas
set_option Elab.async false
set_option linter.all false
set_option maxRecDepth 100000
set_option maxHeartbeats 4000000
/-! GM: a shallow embedding of Python's defs in plain Lean (values as trees, D), and its rules over the layer L2. -/
namespace GM
open PySem PySem.Spec L2
/-! ### values as trees -/
inductive D where
  | non | bl (b : Bool) | int (i : Int) | str (s : Str)
  | lst (xs : List D) | tup (xs : List D) | dic (t : Nat) (kvs : List (D × D))
  | obj (c : Str) (fs : List (Str × D))
  | exn (c : Str) (fs : List (Str × D))
  | cls (n : Str)
  | cel (n : Nat)
  | scr (xs : List D)
/-- a value with what of it nobody else holds: lists (ol), dicts (od) -/
inductive O where
  | fz (d : D) | ol (os : List O) | od (t : Nat) (kvs : List (D × D))
/-- what stands in a cell: things that are changed in place, shared -/
inductive Cell where
  | lst (xs : List D) | dic (t : Nat) (kvs : List (D × D)) | ins (c : Str) (fs : List (Str × D))
abbrev Ev := List (Option O)
abbrev Cells := List Cell
mutual
def frz : O → D
  | .fz d => d
  | .ol os => .lst (frzL os)
  | .od t kvs => .dic t kvs
def frzL : List O → List D
  | [] => []
  | o :: r => frz o :: frzL r
end
theorem frzL_map : ∀ os : List O, frzL os = os.map frz
  | [] => rfl
  | o :: r => by rw [frzL, frzL_map r]; rfl
theorem frzL_fz (ds : List D) : frzL (ds.map O.fz) = ds := by
  rw [frzL_map, List.map_map]
  induction ds with
  | nil => rfl
  | cons d r ih => rw [List.map_cons, ih]; rfl
inductive FRes where | ok (o : O) (cs : Cells) | exc (x : D) (cs : Cells) | bad
inductive XRes where | ok (o : O) (env : Ev) (cs : Cells) | exc (x : D) (env : Ev) (cs : Cells) | bad
inductive LRes where | ok (ds : List D) (env : Ev) (cs : Cells) | exc (x : D) (env : Ev) (cs : Cells) | bad
inductive SRes where | nx (env : Ev) (cs : Cells) | ret (o : O) (env : Ev) (cs : Cells) | brk (env : Ev) (cs : Cells) | cnt (env : Ev) (cs : Cells) | exc (x : D) (env : Ev) (cs : Cells) | bad
abbrev FM := List D → Cells → FRes
abbrev XM := Ev → Cells → XRes
abbrev LM := Ev → Cells → LRes
abbrev SM := Ev → Cells → SRes
def XRes.bind (r : XRes) (k : D → Ev → Cells → XRes) : XRes := match r with
  | .ok o env cs => k (frz o) env cs
  | .exc x env cs => .exc x env cs
  | .bad => .bad
def XRes.bindL (r : XRes) (k : D → Ev → Cells → LRes) : LRes := match r with
  | .ok o env cs => k (frz o) env cs
  | .exc x env cs => .exc x env cs
  | .bad => .bad
def LRes.bind (r : LRes) (k : List D → Ev → Cells → XRes) : XRes := match r with
  | .ok ds env cs => k ds env cs
  | .exc x env cs => .exc x env cs
  | .bad => .bad
def LRes.bindL (r : LRes) (k : List D → Ev → Cells → LRes) : LRes := match r with
  | .ok ds env cs => k ds env cs
  | .exc x env cs => .exc x env cs
  | .bad => .bad
/-- the module's names, the written part -/
structure Mg where
  f : Str → Option Value
  K : PySem.W.Frag
instance : CoeFun Mg fun _ => Str → Option Value := ⟨Mg.f⟩
abbrev md (X : Cx) : Mg := ⟨X.mg, X.K⟩
/-- a list of the written part -/
def KL (K : PySem.W.Frag) (a : Addr) (xs : List V) : Prop := ∃ (o : Obj) (its : Array Value) (n : Nat), K.lookup a = some o ∧ o.cls = .type "list" ∧ o.dict = none ∧ o.data = .seq its n ∧ its.size ≤ sizeLine ∧ Vals xs its.toList
/-! ### ghosts: the frozen objects, the cells' addresses -/
structure Gh where
  F : Hp
  L : List Addr
  mg : Mg
/-- a dict's keys -/
def keyD : Key → D
  | .inl i => .int i
  | .inr s => .str s
abbrev exH (a : Addr) (C d : Addr) : HO := .ext fun h => ∃ (ox : Obj) (vs : Array Value), h.get? a = some ox ∧ ox.cls = .ref C ∧ ox.dict = some d ∧ ox.data = .fields vs
mutual
inductive Rep (g : Gh) : D → V → Prop where
  | non : Rep g .non .non
  | bl {b : Bool} : Rep g (.bl b) (.bl b)
  | int {i : Int} : Rep g (.int i) (.int i)
  | str {s : Str} : Rep g (.str s) (.str s)
  | lst {a : Addr} {vs : List V} {ds : List D} : g.F a = some (.lst vs) → RepL g ds vs → Rep g (.lst ds) (.ref a)
  | tup {a : Addr} {vs : List V} {ds : List D} : g.F a = some (.tup vs) → RepL g ds vs → Rep g (.tup ds) (.ref a)
  | dK {a : Addr} {kvs : List (Key × V)} {ds : List (D × D)} : g.F a = some (.dK kvs) → RepK g ds kvs → Rep g (.dic 0 ds) (.ref a)
  | dT {a : Addr} {kvs : List (List Key × V)} {ds : List (D × D)} : g.F a = some (.dT kvs) → RepT g ds kvs → Rep g (.dic 1 ds) (.ref a)
  | obj {a C dx : Addr} {c : Str} {fs : List (Str × V)} {ds : List (Str × D)} : g.F a = some (.ins C dx fs) → g.mg c = some (.ref C) → RepF g ds fs → Rep g (.obj c ds) (.ref a)
  | exn {a C dx : Addr} {c : Str} {fs : List (Str × V)} {ds : List (Str × D)} : g.F a = some (exH a C dx) → g.F dx = some (.xd fs) → g.mg c = some (.ref C) → RepF g ds fs → Rep g (.exn c ds) (.ref a)
  | cls {n : Str} {a : Addr} : g.mg n = some (.ref a) → Rep g (.cls n) (.ref a)
  | cel {n : Nat} {a : Addr} : g.L[n]? = some a → Rep g (.cel n) (.ref a)
  | scr {a : Addr} {o : Obj} {vs : List V} {ds : List D} : g.F a = some (.frz o (.lst vs)) → RepL g ds vs → Rep g (.scr ds) (.ref a)
  | scK {a : Addr} {vs : List V} {ds : List D} : KL g.mg.K a vs → RepL g ds vs → Rep g (.scr ds) (.ref a)
inductive RepL (g : Gh) : List D → List V → Prop where
  | nil : RepL g [] []
  | cons {d : D} {v : V} {ds : List D} {vs : List V} : Rep g d v → RepL g ds vs → RepL g (d :: ds) (v :: vs)
inductive RepK (g : Gh) : List (D × D) → List (Key × V) → Prop where
  | nil : RepK g [] []
  | cons {k : Key} {d : D} {v : V} {ds : List (D × D)} {vs : List (Key × V)} : Rep g d v → RepK g ds vs → RepK g ((keyD k, d) :: ds) ((k, v) :: vs)
inductive RepT (g : Gh) : List (D × D) → List (List Key × V) → Prop where
  | nil : RepT g [] []
  | cons {k : List Key} {d : D} {v : V} {ds : List (D × D)} {vs : List (List Key × V)} : Rep g d v → RepT g ds vs → RepT g ((.tup (k.map keyD), d) :: ds) ((k, v) :: vs)
inductive RepF (g : Gh) : List (Str × D) → List (Str × V) → Prop where
  | nil : RepF g [] []
  | cons {k : Str} {d : D} {v : V} {ds : List (Str × D)} {vs : List (Str × V)} : Rep g d v → RepF g ds vs → RepF g ((k, d) :: ds) ((k, v) :: vs)
end
mutual
inductive RepO (g : Gh) (H : Hp) : O → V → List Addr → Prop where
  | fz {d : D} {v : V} : Rep g d v → RepO g H (.fz d) v []
  | ol {a : Addr} {vs : List V} {os : List O} {as : List Addr} : H a = some (.lst vs) → RepOL g H os vs as → RepO g H (.ol os) (.ref a) (a :: as)
  | odK {a : Addr} {kvs : List (Key × V)} {ds : List (D × D)} : H a = some (.dK kvs) → RepK g ds kvs → RepO g H (.od 0 ds) (.ref a) [a]
  | odT {a : Addr} {kvs : List (List Key × V)} {ds : List (D × D)} : H a = some (.dT kvs) → RepT g ds kvs → RepO g H (.od 1 ds) (.ref a) [a]
inductive RepOL (g : Gh) (H : Hp) : List O → List V → List Addr → Prop where
  | nil : RepOL g H [] [] []
  | cons {o : O} {v : V} {os : List O} {vs : List V} {as bs : List Addr} : RepO g H o v as → RepOL g H os vs bs → RepOL g H (o :: os) (v :: vs) (as ++ bs)
end
inductive EnvR (g : Gh) (H : Hp) : Ev → St → List Addr → Prop where
  | nil : EnvR g H [] [] []
  | emp {x : Option V} {es : Ev} {σ : St} {as : List Addr} : EnvR g H es σ as → EnvR g H (none :: es) (x :: σ) as
  | val {o : O} {v : V} {es : Ev} {σ : St} {as bs : List Addr} : RepO g H o v bs → EnvR g H es σ as → EnvR g H (some o :: es) (some v :: σ) (bs ++ as)
inductive CellR (g : Gh) (H : Hp) : Cell → Addr → Prop where
  | lst {a : Addr} {vs : List V} {ds : List D} : H a = some (.lst vs) → RepL g ds vs → CellR g H (.lst ds) a
  | dK {a : Addr} {kvs : List (Key × V)} {ds : List (D × D)} : H a = some (.dK kvs) → RepK g ds kvs → CellR g H (.dic 0 ds) a
  | dT {a : Addr} {kvs : List (List Key × V)} {ds : List (D × D)} : H a = some (.dT kvs) → RepT g ds kvs → CellR g H (.dic 1 ds) a
  | ins {a C dx : Addr} {c : Str} {fs : List (Str × V)} {ds : List (Str × D)} : H a = some (.ins C dx fs) → g.mg c = some (.ref C) → RepF g ds fs → CellR g H (.ins c ds) a
def isDic : HO → Prop
  | .dK _ => True
  | .dT _ => True
  | _ => False
/-- it stands there (a dict may be locked) -/
def Seen (H : Hp) (a : Addr) (u : HO) : Prop := H a = some u ∨ (isDic u ∧ ∃ o, H a = some (.frz o u))
structure Wf (mg : Mg) (g : Gh) (cs : Cells) (H : Hp) (as : List Addr) : Prop where
  mg : g.mg = mg
  see : ∀ a u, g.F a = some u → Seen H a u
  len : g.L.length = cs.length
  ndL : g.L.Nodup
  sepL : ∀ a ∈ g.L, g.F a = none
  cell : ∀ (i : Nat) (c : Cell) (a : Addr), cs[i]? = some c → g.L[i]? = some a → CellR g H c a
  nd : as.Nodup
  sep : ∀ a ∈ as, g.F a = none ∧ a ∉ g.L ∧ H a ≠ none
/-- from one moment to a later one; as: what the earlier frame owned -/
structure Adv (g g' : Gh) (H H' : Hp) (as : List Addr) : Prop where
  F : ∀ a u, g.F a = some u → g'.F a = some u
  L : ∃ l, g'.L = g.L ++ l ∧ ∀ a ∈ l, H a = none
  mg : g'.mg = g.mg
  keep : ∀ a u, H a = some u → a ∉ g.L → a ∉ as → H' a = some u
  new : ∀ a u, g'.F a = some u → g.F a = some u ∨ a ∈ as ∨ H a = none
  dom : ∀ a, H a ≠ none → H' a ≠ none
/-- what is owned later was owned, or is new -/
def Sub (as' as : List Addr) (H : Hp) : Prop := ∀ a ∈ as', a ∈ as ∨ H a = none
theorem Seen.rd {H : Hp} {a : Addr} {u : HO} (r : Seen H a u) : Rd H a u := by
  rcases r with r | ⟨_, o, r⟩
  · exact .inl r
  · exact .inr ⟨o, r⟩
theorem rd_dom {H : Hp} {a : Addr} {u : HO} (r : Seen H a u) : H a ≠ none := by
  rcases r with r | ⟨_, o, r⟩ <;> (rw [r]; exact fun z => nomatch z)
theorem Wf.fdom {mg : Mg} {g : Gh} {cs : Cells} {H : Hp} {as : List Addr} (w : Wf mg g cs H as) {a : Addr} (h : H a = none) : g.F a = none := by
  cases q : g.F a with
  | none => rfl
  | some u => exact absurd h (rd_dom (w.see a u q))
theorem CellR.dom {g : Gh} {H : Hp} {c : Cell} {a : Addr} (r : CellR g H c a) : H a ≠ none := by
  cases r with
  | lst h _ => rw [h]; exact fun z => nomatch z
  | dK h _ => rw [h]; exact fun z => nomatch z
  | dT h _ => rw [h]; exact fun z => nomatch z
  | ins h _ _ => rw [h]; exact fun z => nomatch z
theorem Wf.ldom {mg : Mg} {g : Gh} {cs : Cells} {H : Hp} {as : List Addr} (w : Wf mg g cs H as) {a : Addr} (h : a ∈ g.L) : H a ≠ none := by
  obtain ⟨i, hi, e⟩ := List.mem_iff_getElem.mp h
  have hc : i < cs.length := by rw [← w.len]; exact hi
  exact (w.cell i cs[i] a (List.getElem?_eq_getElem hc) (by rw [List.getElem?_eq_getElem hi, e])).dom
theorem Wf.newL {mg : Mg} {g : Gh} {cs : Cells} {H : Hp} {as : List Addr} (w : Wf mg g cs H as) {a : Addr} (h : H a = none) : a ∉ g.L := fun z => w.ldom z h
theorem Wf.newA {mg : Mg} {g : Gh} {cs : Cells} {H : Hp} {as : List Addr} (w : Wf mg g cs H as) {a : Addr} (h : H a = none) : a ∉ as := fun z => (w.sep a z).2.2 h
theorem Adv.refl (g : Gh) (H : Hp) (as : List Addr) : Adv g g H H as := ⟨fun _ _ h => h, ⟨[], by simp, fun _ h => nomatch h⟩, rfl, fun _ _ h _ _ => h, fun _ _ h => .inl h, fun _ h => h⟩
theorem Sub.refl (as : List Addr) (H : Hp) : Sub as as H := fun _ h => .inl h
theorem none_of_dom {H H' : Hp} (d : ∀ a, H a ≠ none → H' a ≠ none) {a : Addr} (h : H' a = none) : H a = none := by
  cases q : H a with
  | none => rfl
  | some u => exact absurd h (d a (by rw [q]; exact fun z => nomatch z))
theorem Adv.none {g g' : Gh} {H H' : Hp} {as : List Addr} (a : Adv g g' H H' as) {b : Addr} (h : H' b = none) : H b = none := none_of_dom a.dom h
theorem Sub.trans {as as' as'' : List Addr} {H H' : Hp} (d : ∀ a, H' a = none → H a = none) (s1 : Sub as' as H) (s2 : Sub as'' as' H') : Sub as'' as H := fun a h => by
  rcases s2 a h with h | h
  · exact s1 a h
  · exact .inr (d a h)
theorem Adv.trans {g g' g'' : Gh} {H H' H'' : Hp} {as as' : List Addr} (a : Adv g g' H H' as) (s : Sub as' as H) (b : Adv g' g'' H' H'' as') : Adv g g'' H H'' as where
  F := fun x u h => b.F x u (a.F x u h)
  L := by
    obtain ⟨l, e, n⟩ := a.L
    obtain ⟨l', e', n'⟩ := b.L
    refine ⟨l ++ l', by rw [e', e, List.append_assoc], fun x h => ?_⟩
    rcases List.mem_append.mp h with h | h
    · exact n x h
    · exact a.none (n' x h)
  mg := b.mg.trans a.mg
  keep := fun x u h h1 h2 => by
    refine b.keep x u (a.keep x u h h1 h2) (fun z => ?_) fun z => ?_
    · obtain ⟨l, e, n⟩ := a.L
      rw [e] at z
      rcases List.mem_append.mp z with z | z
      · exact h1 z
      · have := n x z
        rw [h] at this; cases this
    · rcases s x z with z | z
      · exact h2 z
      · rw [h] at z; cases z
  new := fun x u h => by
    rcases b.new x u h with h | h | h
    · exact a.new x u h
    · rcases s x h with h | h
      · exact .inr (.inl h)
      · exact .inr (.inr h)
    · exact .inr (.inr (a.none h))
  dom := fun x h => b.dom x (a.dom x h)
/-- an expression's advance: what is owned keeps its content -/
structure AdvE (g g' : Gh) (H H' : Hp) (as : List Addr) : Prop extends Adv g g' H H' as where
  own : ∀ a u, H a = some u → a ∉ g.L → H' a = some u
theorem AdvE.refl (g : Gh) (H : Hp) (as : List Addr) : AdvE g g H H as := ⟨.refl _ _ _, fun _ _ h _ => h⟩
theorem AdvE.none {g g' : Gh} {H H' : Hp} {as : List Addr} (a : AdvE g g' H H' as) {b : Addr} (h : H' b = none) : H b = none := a.toAdv.none h
theorem AdvE.trans {g g' g'' : Gh} {H H' H'' : Hp} {as as' : List Addr} (a : AdvE g g' H H' as) (s : Sub as' as H) (b : AdvE g' g'' H' H'' as') : AdvE g g'' H H'' as where
  toAdv := a.toAdv.trans s b.toAdv
  own := fun x u h h1 => by
    refine b.own x u (a.own x u h h1) (fun z => ?_)
    obtain ⟨l, e, n⟩ := a.L
    rw [e] at z
    rcases List.mem_append.mp z with z | z
    · exact h1 z
    · have := n x z
      rw [h] at this; cases this
/-- nothing owned is touched -/
theorem Adv.weak {g g' : Gh} {H H' : Hp} {as : List Addr} (a : Adv g g' H H' []) : Adv g g' H H' as :=
  ⟨a.F, a.L, a.mg, fun x u h h1 _ => a.keep x u h h1 (by simp), fun x u h => by
    rcases a.new x u h with h | h | h
    · exact .inl h
    · simp at h
    · exact .inr (.inr h), a.dom⟩
theorem Adv.weakE {g g' : Gh} {H H' : Hp} {as : List Addr} (a : Adv g g' H H' []) : AdvE g g' H H' as := ⟨a.weak, fun x u h h1 => a.keep x u h h1 (by simp)⟩
/-! ### monotone -/
structure Gh.Le (g g' : Gh) : Prop where
  F : ∀ a u, g.F a = some u → g'.F a = some u
  L : ∃ l, g'.L = g.L ++ l
  mg : g'.mg = g.mg
theorem Adv.le {g g' : Gh} {H H' : Hp} {as : List Addr} (a : Adv g g' H H' as) : g.Le g' := ⟨a.F, let ⟨l, e, _⟩ := a.L; ⟨l, e⟩, a.mg⟩
theorem AdvE.le {g g' : Gh} {H H' : Hp} {as : List Addr} (a : AdvE g g' H H' as) : g.Le g' := a.toAdv.le
theorem Gh.Le.refl (g : Gh) : g.Le g := ⟨fun _ _ h => h, ⟨[], by simp⟩, rfl⟩
theorem Gh.Le.at {g g' : Gh} (l : g.Le g') {n : Nat} {a : Addr} (h : g.L[n]? = some a) : g'.L[n]? = some a := by
  obtain ⟨k, e⟩ := l.L
  rw [e]
  exact List.getElem?_append_left (List.getElem?_eq_some_iff.mp h).1 |>.trans h
mutual
theorem Rep.mono {g g' : Gh} (l : g.Le g') : ∀ {d : D} {v : V}, Rep g d v → Rep g' d v
  | _, _, .non => .non
  | _, _, .bl => .bl
  | _, _, .int => .int
  | _, _, .str => .str
  | _, _, .lst h r => .lst (l.F _ _ h) (RepL.mono l r)
  | _, _, .tup h r => .tup (l.F _ _ h) (RepL.mono l r)
  | _, _, .dK h r => .dK (l.F _ _ h) (RepK.mono l r)
  | _, _, .dT h r => .dT (l.F _ _ h) (RepT.mono l r)
  | _, _, .obj h m r => .obj (l.F _ _ h) (by rw [l.mg]; exact m) (RepF.mono l r)
  | _, _, .exn h h2 m r => .exn (l.F _ _ h) (l.F _ _ h2) (by rw [l.mg]; exact m) (RepF.mono l r)
  | _, _, .cls m => .cls (by rw [l.mg]; exact m)
  | _, _, .cel h => .cel (l.at h)
  | _, _, .scr h r => .scr (l.F _ _ h) (RepL.mono l r)
  | _, _, .scK h r => .scK (by rw [l.mg]; exact h) (RepL.mono l r)
theorem RepL.mono {g g' : Gh} (l : g.Le g') : ∀ {d : List D} {v : List V}, RepL g d v → RepL g' d v
  | _, _, .nil => .nil
  | _, _, .cons h r => .cons (Rep.mono l h) (RepL.mono l r)
theorem RepK.mono {g g' : Gh} (l : g.Le g') : ∀ {d : List (D × D)} {v : List (Key × V)}, RepK g d v → RepK g' d v
  | _, _, .nil => .nil
  | _, _, .cons h r => .cons (Rep.mono l h) (RepK.mono l r)
theorem RepT.mono {g g' : Gh} (l : g.Le g') : ∀ {d : List (D × D)} {v : List (List Key × V)}, RepT g d v → RepT g' d v
  | _, _, .nil => .nil
  | _, _, .cons h r => .cons (Rep.mono l h) (RepT.mono l r)
theorem RepF.mono {g g' : Gh} (l : g.Le g') : ∀ {d : List (Str × D)} {v : List (Str × V)}, RepF g d v → RepF g' d v
  | _, _, .nil => .nil
  | _, _, .cons h r => .cons (Rep.mono l h) (RepF.mono l r)
end
mutual
theorem RepO.mono {g g' : Gh} (l : g.Le g') {H H' : Hp} : ∀ {o : O} {v : V} {as : List Addr}, (∀ a ∈ as, H' a = H a) → RepO g H o v as → RepO g' H' o v as
  | _, _, _, _, .fz r => .fz (r.mono l)
  | _, _, _, k, .ol h r => .ol ((k _ (by simp)).trans h) (RepOL.mono l (fun a ha => k a (by simp [ha])) r)
  | _, _, _, k, .odK h r => .odK ((k _ (by simp)).trans h) (r.mono l)
  | _, _, _, k, .odT h r => .odT ((k _ (by simp)).trans h) (r.mono l)
theorem RepOL.mono {g g' : Gh} (l : g.Le g') {H H' : Hp} : ∀ {o : List O} {v : List V} {as : List Addr}, (∀ a ∈ as, H' a = H a) → RepOL g H o v as → RepOL g' H' o v as
  | _, _, _, _, .nil => .nil
  | _, _, _, k, .cons h r => .cons (RepO.mono l (fun a ha => k a (by simp [ha])) h) (RepOL.mono l (fun a ha => k a (by simp [ha])) r)
end
theorem EnvR.mono {g g' : Gh} (l : g.Le g') {H H' : Hp} {es : Ev} {σ : St} {as : List Addr} (k : ∀ a ∈ as, H' a = H a) (r : EnvR g H es σ as) : EnvR g' H' es σ as := by
  induction r with
  | nil => exact .nil
  | emp _ ih => exact .emp (ih k)
  | val h _ ih => exact .val (h.mono l fun a ha => k a (by simp [ha])) (ih fun a ha => k a (by simp [ha]))
mutual
theorem RepO.dom {g : Gh} {H : Hp} : ∀ {o : O} {v : V} {as : List Addr}, RepO g H o v as → ∀ a ∈ as, H a ≠ none
  | _, _, _, .fz _ => fun a h => nomatch h
  | _, _, _, .ol h r => fun a ha => by
    rcases List.mem_cons.mp ha with e | ha
    · rw [e, h]; exact fun z => nomatch z
    · exact RepOL.dom r a ha
  | _, _, _, .odK h r => fun a ha => by
    rw [List.mem_singleton.mp ha, h]; exact fun z => nomatch z
  | _, _, _, .odT h r => fun a ha => by
    rw [List.mem_singleton.mp ha, h]; exact fun z => nomatch z
theorem RepOL.dom {g : Gh} {H : Hp} : ∀ {o : List O} {v : List V} {as : List Addr}, RepOL g H o v as → ∀ a ∈ as, H a ≠ none
  | _, _, _, .nil => fun a h => nomatch h
  | _, _, _, .cons h r => fun a ha => by
    rcases List.mem_append.mp ha with ha | ha
    · exact RepO.dom h a ha
    · exact RepOL.dom r a ha
end
/-! ### freezing -/
def frzG (g : Gh) (H : Hp) (bs : List Addr) : Gh := { g with F := fun a => if a ∈ bs then H a else g.F a }
mutual
theorem RepO.frozen {g g' : Gh} {H : Hp} (l : g.Le g') : ∀ {o : O} {v : V} {as : List Addr}, (∀ a ∈ as, g'.F a = H a) → RepO g H o v as → Rep g' (frz o) v
  | _, _, _, _, .fz r => r.mono l
  | _, _, _, k, .ol h r => .lst ((k _ (by simp)).trans h) (RepOL.frozen l (fun a ha => k a (by simp [ha])) r)
  | _, _, _, k, .odK h r => .dK ((k _ (by simp)).trans h) (r.mono l)
  | _, _, _, k, .odT h r => .dT ((k _ (by simp)).trans h) (r.mono l)
theorem RepOL.frozen {g g' : Gh} {H : Hp} (l : g.Le g') : ∀ {o : List O} {v : List V} {as : List Addr}, (∀ a ∈ as, g'.F a = H a) → RepOL g H o v as → RepL g' (frzL o) v
  | _, _, _, _, .nil => .nil
  | _, _, _, k, .cons h r => .cons (RepO.frozen l (fun a ha => k a (by simp [ha])) h) (RepOL.frozen l (fun a ha => k a (by simp [ha])) r)
end
theorem CellR.mono {g g' : Gh} (l : g.Le g') {H H' : Hp} {c : Cell} {a : Addr} (k : H' a = H a) (r : CellR g H c a) : CellR g' H' c a := by
  cases r with
  | lst h r => exact .lst (k.trans h) (r.mono l)
  | dK h r => exact .dK (k.trans h) (r.mono l)
  | dT h r => exact .dT (k.trans h) (r.mono l)
  | ins h m r => exact .ins (k.trans h) (by rw [l.mg]; exact m) (r.mono l)
theorem freeze {mg : Mg} {g : Gh} {cs : Cells} {H : Hp} {as bs : List Addr} {o : O} {v : V} (w : Wf mg g cs H (bs ++ as)) (r : RepO g H o v bs) :
    ∃ g', g.Le g' ∧ AdvE g g' H H bs ∧ Wf mg g' cs H as ∧ Rep g' (frz o) v := by
  have hF : ∀ a u, g.F a = some u → (frzG g H bs).F a = some u := fun a u h => by
    show (if a ∈ bs then H a else g.F a) = some u
    rw [if_neg fun z => ?_]
    · exact h
    · have := (w.sep a (List.mem_append_left _ z)).1
      rw [h] at this; cases this
  have le : g.Le (frzG g H bs) := ⟨hF, ⟨[], (List.append_nil _).symm⟩, rfl⟩
  have nd := List.nodup_append.mp w.nd
  refine ⟨frzG g H bs, le, ⟨⟨hF, ⟨[], (List.append_nil _).symm, fun _ z => nomatch z⟩, rfl, fun _ _ h _ _ => h, fun a u h => ?_, fun _ h => h⟩, fun _ _ h _ => h⟩, ⟨w.mg, fun a u h => ?_, w.len, w.ndL, fun a h => ?_, fun i c a h1 h2 => (w.cell i c a h1 h2).mono le rfl, nd.2.1, fun a h => ?_⟩, r.frozen le fun a h => ?_⟩
  · have h : (if a ∈ bs then H a else g.F a) = some u := h
    by_cases z : a ∈ bs
    · exact .inr (.inl z)
    · rw [if_neg z] at h; exact .inl h
  · have h : (if a ∈ bs then H a else g.F a) = some u := h
    by_cases z : a ∈ bs
    · rw [if_pos z] at h; exact .inl h
    · rw [if_neg z] at h; exact w.see a u h
  · show (if a ∈ bs then H a else g.F a) = none
    rw [if_neg fun z => ?_]
    · exact w.sepL a h
    · exact (w.sep a (List.mem_append_left _ z)).2.1 h
  · obtain ⟨h1, h2, h3⟩ := w.sep a (List.mem_append_right _ h)
    refine ⟨?_, h2, h3⟩
    show (if a ∈ bs then H a else g.F a) = none
    rw [if_neg fun z => ?_]
    · exact h1
    · exact nd.2.2 a z a h rfl
  · show (if a ∈ bs then H a else g.F a) = H a
    rw [if_pos h]
end GM
namespace GM
open PySem PySem.Spec L2
/-! ### an env's slot -/
theorem EnvR.at {g : Gh} {H : Hp} {env : Ev} {σ : St} {as : List Addr} (r : EnvR g H env σ as) : ∀ {i : Nat} {o : O}, env[i]? = some (some o) →
    ∃ v bs as1 as2, as = as1 ++ (bs ++ as2) ∧ σ[i]? = some (some v) ∧ RepO g H o v bs ∧
      ∀ {g' : Gh} {H' : Hp} {o' : O} {v' : V} {bs' : List Addr}, g.Le g' → (∀ a ∈ as1 ++ as2, H' a = H a) → RepO g' H' o' v' bs' → EnvR g' H' (env.set i (some o')) (σ.set i (some v')) (as1 ++ (bs' ++ as2)) := by
  induction r with
  | nil => intro i o h; simp at h
  | @emp x es σ as r ih =>
    intro i o h
    cases i with
    | zero => simp at h
    | succ i =>
      obtain ⟨v, bs, as1, as2, e, hs, ro, k⟩ := ih (i := i) (o := o) (by simpa using h)
      exact ⟨v, bs, as1, as2, e, by simpa using hs, ro, fun l hk r' => .emp (k l hk r')⟩
  | @val o0 v0 es σ as bs0 r0 r ih =>
    intro i o h
    cases i with
    | zero =>
      have e : o0 = o := by simpa using h
      subst e
      exact ⟨v0, bs0, [], as, rfl, rfl, r0, fun l hk r' => (show EnvR _ _ _ _ ([] ++ (_ ++ _)) from by rw [List.nil_append]; exact .val r' (r.mono l fun a ha => hk a (by simpa using ha)))⟩
    | succ i =>
      obtain ⟨v, bs, as1, as2, e, hs, ro, k⟩ := ih (i := i) (o := o) (by simpa using h)
      refine ⟨v, bs, bs0 ++ as1, as2, by rw [e, List.append_assoc], by simpa using hs, ro, fun l hk r' => ?_⟩
      rw [List.append_assoc]
      exact .val (r0.mono l fun a ha => hk a (by simp [ha])) (k l (fun a ha => hk a (by simp only [List.mem_append] at ha ⊢; rcases ha with ha | ha <;> simp [ha])) r')
theorem EnvR.len {g : Gh} {H : Hp} {env : Ev} {σ : St} {as : List Addr} (r : EnvR g H env σ as) : env.length = σ.length := by
  induction r with
  | nil => rfl
  | emp _ ih => simp [ih]
  | val _ _ ih => simp [ih]
theorem EnvR.store {g : Gh} {H : Hp} {env : Ev} {σ : St} {as : List Addr} (r : EnvR g H env σ as) : ∀ {i : Nat}, i < env.length →
    ∃ bs as1 as2, as = as1 ++ (bs ++ as2) ∧
      ∀ {g' : Gh} {H' : Hp} {o' : O} {v' : V} {bs' : List Addr}, g.Le g' → (∀ a ∈ as1 ++ as2, H' a = H a) → RepO g' H' o' v' bs' → EnvR g' H' (env.set i (some o')) (σ.set i (some v')) (as1 ++ (bs' ++ as2)) := by
  induction r with
  | nil => intro i h; simp at h
  | @emp x es σ as r ih =>
    intro i h
    cases i with
    | zero => exact ⟨[], [], as, rfl, fun l hk r' => (show EnvR _ _ _ _ ([] ++ (_ ++ _)) from by rw [List.nil_append]; exact .val r' (r.mono l fun a ha => hk a (by simpa using ha)))⟩
    | succ i =>
      obtain ⟨bs, as1, as2, e, k⟩ := ih (i := i) (by simpa using h)
      exact ⟨bs, as1, as2, e, fun l hk r' => .emp (k l hk r')⟩
  | @val o0 v0 es σ as bs0 r0 r ih =>
    intro i h
    cases i with
    | zero => exact ⟨bs0, [], as, rfl, fun l hk r' => (show EnvR _ _ _ _ ([] ++ (_ ++ _)) from by rw [List.nil_append]; exact .val r' (r.mono l fun a ha => hk a (by simpa using ha)))⟩
    | succ i =>
      obtain ⟨bs, as1, as2, e, k⟩ := ih (i := i) (by simpa using h)
      refine ⟨bs, bs0 ++ as1, as2, by rw [e, List.append_assoc], fun l hk r' => ?_⟩
      rw [List.append_assoc]
      exact .val (r0.mono l fun a ha => hk a (by simp [ha])) (k l (fun a ha => hk a (by simp only [List.mem_append] at ha ⊢; rcases ha with ha | ha <;> simp [ha])) r')
theorem Wf.sub {mg : Mg} {g : Gh} {cs : Cells} {H : Hp} {as as' : List Addr} (w : Wf mg g cs H as) (nd : as'.Nodup) (s : ∀ a ∈ as', a ∈ as) : Wf mg g cs H as' :=
  ⟨w.mg, w.see, w.len, w.ndL, w.sepL, w.cell, nd, fun a h => w.sep a (s a h)⟩
theorem nodup_mid {α : Type} {a b c : List α} (h : (a ++ (b ++ c)).Nodup) : (b ++ (a ++ c)).Nodup := by
  have p : (a ++ (b ++ c)).Perm (b ++ (a ++ c)) := by
    rw [← List.append_assoc, ← List.append_assoc]
    exact List.Perm.append_right c List.perm_append_comm
  exact p.nodup_iff.mp h
theorem EnvR.frz {mg : Mg} {g : Gh} {cs : Cells} {H : Hp} {env : Ev} {σ : St} {as : List Addr} {i : Nat} {o : O} (r : EnvR g H env σ as) (w : Wf mg g cs H as) (h : env[i]? = some (some o)) :
    ∃ v g' as', σ[i]? = some (some v) ∧ g.Le g' ∧ AdvE g g' H H as ∧ (∀ a ∈ as', a ∈ as) ∧ Wf mg g' cs H as' ∧ Rep g' (GM.frz o) v ∧ EnvR g' H (env.set i (some (.fz (GM.frz o)))) σ as' := by
  obtain ⟨v, bs, as1, as2, e, hs, ro, k⟩ := r.at h
  subst e
  have w' : Wf mg g cs H (bs ++ (as1 ++ as2)) := w.sub (nodup_mid w.nd) fun a h => by
    simp only [List.mem_append] at h ⊢
    rcases h with h | h | h <;> simp [h]
  obtain ⟨g', le, ad, w2, rp⟩ := freeze w' ro
  have hσ : σ.set i (some v) = σ := by
    apply List.ext_getElem?
    intro j
    by_cases hj : i = j
    · subst hj
      have hl : i < σ.length := (List.getElem?_eq_some_iff.mp hs).1
      rw [List.getElem?_set_self hl, hs]
    · rw [List.getElem?_set_ne hj]
  have q := k (o' := .fz (GM.frz o)) (v' := v) le (fun a _ => rfl) (.fz rp)
  rw [hσ] at q
  refine ⟨v, g', as1 ++ ([] ++ as2), hs, le, ⟨⟨ad.F, ad.L, ad.mg, fun a u h _ _ => h, fun a u h => ?_, fun _ h => h⟩, fun _ _ h _ => h⟩, fun a h => ?_, by simpa using w2, rp, q⟩
  · rcases ad.new a u h with h | h | h
    · exact .inl h
    · exact .inr (.inl (by simp [h]))
    · exact .inr (.inr h)
  · simp only [List.nil_append, List.mem_append] at h ⊢
    rcases h with h | h <;> simp [h]
/-! ### an exception in flight -/
inductive ExR (g : Gh) : D → Value → Option Addr → Prop where
  | mk {c : Str} {C dd : Addr} {ds : List (Str × D)} {fs : List (Str × V)} : g.mg c = some (.ref C) → g.F dd = some (.xd fs) → RepF g ds fs → ExR g (.exn c ds) (.ref C) (some dd)
theorem ExR.mono {g g' : Gh} (l : g.Le g') {x : D} {c : Value} {d : Option Addr} (r : ExR g x c d) : ExR g' x c d := by
  cases r with
  | mk m f r => exact .mk (by rw [l.mg]; exact m) (l.F _ _ f) (r.mono l)
/-! ### expressions -/
def Fin (mg : Mg) (g0 : Gh) (H0 : Hp) (as0 : List Addr) (W : WX) (σ : St) (Q : VK) : XRes → Prop
  | .ok o env cs => ∀ (v : V) (H : Hp) (g : Gh) (as bs : List Addr), AdvE g0 g H0 H as0 → Sub as as0 H0 → Wf mg g cs H (bs ++ as) → EnvR g H env σ as → RepO g H o v bs → (∀ b ∈ bs, H0 b = none) → Q v H
  | .exc x env cs => ∀ (cls : Value) (d : Option Addr) (H : Hp) (g : Gh) (as : List Addr), AdvE g0 g H0 H as0 → Sub as as0 H0 → Wf mg g cs H as → EnvR g H env σ as → ExR g x cls d → W cls d σ H
  | .bad => False
def FinL (mg : Mg) (g0 : Gh) (H0 : Hp) (as0 : List Addr) (W : WX) (σ : St) (Q : List V → Hp → Prop) : LRes → Prop
  | .ok ds env cs => ∀ (vs : List V) (H : Hp) (g : Gh) (as : List Addr), AdvE g0 g H0 H as0 → Sub as as0 H0 → Wf mg g cs H as → EnvR g H env σ as → RepL g ds vs → Q vs H
  | .exc x env cs => ∀ (cls : Value) (d : Option Addr) (H : Hp) (g : Gh) (as : List Addr), AdvE g0 g H0 H as0 → Sub as as0 H0 → Wf mg g cs H as → EnvR g H env σ as → ExR g x cls d → W cls d σ H
  | .bad => False
def tX (mg : Mg) (m : XM) (W : WX) : TE := fun σ H Q => ∃ g cs env as, Wf mg g cs H as ∧ EnvR g H env σ as ∧ Fin mg g H as W σ Q (m env cs)
def tA (mg : Mg) (m : LM) (W : WX) : TA := fun σ H Q => ∃ g cs env as, Wf mg g cs H as ∧ EnvR g H env σ as ∧ FinL mg g H as W σ Q (m env cs)
structure Em (X : Cx) (e : Expr) (m : XM) : Prop where
  run : ∀ W, Takes X W → PE X e (tX (md X) m W)
/-- as a test -/
structure Tm (X : Cx) (e : Expr) (m : XM) : Prop where
  run : ∀ W, Takes X W → PT X e (tB (tX (md X) m W))
structure Am (X : Cx) (es : List Expr) (m : LM) : Prop where
  run : ∀ W, Takes X W → PA X es (tA (md X) m W)
theorem pe_imp {X : Cx} {e : Expr} {t t' : TE} (h : PE X e t) (i : ∀ σ H Q, t' σ H Q → t σ H Q) : PE X e t' := ⟨fun pins s σ H Q I q => h.run pins s σ H Q I (i _ _ _ q)⟩
theorem pt_imp {X : Cx} {e : Expr} {t t' : TT} (h : PT X e t) (i : ∀ σ H Q, t' σ H Q → t σ H Q) : PT X e t' := ⟨fun pins s σ H Q I q => h.run pins s σ H Q I (i _ _ _ q)⟩
theorem pw_imp {X : Cx} {e : Expr} {t t' : TT} (h : PW X e t) (i : ∀ σ H Q, t' σ H Q → t σ H Q) : PW X e t' := ⟨fun wh pins s σ H Q I q => h.run wh pins s σ H Q I (i _ _ _ q)⟩
theorem pa_imp {X : Cx} {e : List Expr} {t t' : TA} (h : PA X e t) (i : ∀ σ H Q, t' σ H Q → t σ H Q) : PA X e t' := ⟨fun pos pins s σ H Q I q => h.run pos pins s σ H Q I (i _ _ _ q)⟩
theorem ps_imp {X : Cx} {e : Stmt} {t t' : TS} (h : PS X e t) (i : ∀ D σ H, t' D σ H → t D σ H) : PS X e t' := ⟨fun pins s σ H D I q => h.run pins s σ H D I (i _ _ _ q)⟩
theorem pss_imp {X : Cx} {e : List Stmt} {t t' : TS} (h : PSs X e t) (i : ∀ D σ H, t' D σ H → t D σ H) : PSs X e t' := ⟨fun pins s σ H D I q => h.run pins s σ H D I (i _ _ _ q)⟩
section
variable {mg : Mg} {g g0 g1 : Gh} {H H0 H1 : Hp} {as as0 as1 : List Addr} {W : WX} {σ : St} {Q Q' : VK} {R R' : List V → Hp → Prop} {cs : Cells} {env : Ev}
theorem Fin.rebase {r : XRes} (a : AdvE g0 g1 H0 H1 as0) (s : Sub as1 as0 H0) (h : Fin mg g0 H0 as0 W σ Q r) : Fin mg g1 H1 as1 W σ Q r := by
  cases r with
  | ok o env cs => exact fun v H g as bs a' s' w e r n => h v H g as bs (a.trans s a') (s.trans (fun _ => a.none) s') w e r fun b hb => a.none (n b hb)
  | exc x env cs => exact fun c d H g as a' s' w e r => h c d H g as (a.trans s a') (s.trans (fun _ => a.none) s') w e r
  | bad => exact h
theorem FinL.rebase {r : LRes} (a : AdvE g0 g1 H0 H1 as0) (s : Sub as1 as0 H0) (h : FinL mg g0 H0 as0 W σ R r) : FinL mg g1 H1 as1 W σ R r := by
  cases r with
  | ok o env cs => exact fun v H g as a' s' w e r => h v H g as (a.trans s a') (s.trans (fun _ => a.none) s') w e r
  | exc x env cs => exact fun c d H g as a' s' w e r => h c d H g as (a.trans s a') (s.trans (fun _ => a.none) s') w e r
  | bad => exact h
theorem Fin.imp {r : XRes} (h : Fin mg g0 H0 as0 W σ Q r) (i : ∀ v H, Q v H → Q' v H) : Fin mg g0 H0 as0 W σ Q' r := by
  cases r with
  | ok o env cs => exact fun v H g as bs a' s' w e r n => i _ _ (h v H g as bs a' s' w e r n)
  | exc x env cs => exact h
  | bad => exact h
theorem FinL.imp {r : LRes} (h : FinL mg g0 H0 as0 W σ R r) (i : ∀ v H, R v H → R' v H) : FinL mg g0 H0 as0 W σ R' r := by
  cases r with
  | ok o env cs => exact fun v H g as a' s' w e r => i _ _ (h v H g as a' s' w e r)
  | exc x env cs => exact h
  | bad => exact h
/-- where an expression's value has come, frozen -/
structure Got (mg : Mg) (g0 : Gh) (H0 : Hp) (as0 : List Addr) (σ : St) (g1 : Gh) (cs1 : Cells) (env1 : Ev) (as1 : List Addr) (H1 : Hp) : Prop where
  adv : AdvE g0 g1 H0 H1 as0
  sub : Sub as1 as0 H0
  wf : Wf mg g1 cs1 H1 as1
  env : EnvR g1 H1 env1 σ as1
theorem got_freeze {env : Ev} {cs : Cells} {v : V} {o : O} {as bs : List Addr} (a : AdvE g0 g H0 H as0) (s : Sub as as0 H0) (w : Wf mg g cs H (bs ++ as)) (e : EnvR g H env σ as) (r : RepO g H o v bs) (n : ∀ b ∈ bs, H0 b = none) :
    ∃ g1, Got mg g0 H0 as0 σ g1 cs env as H ∧ Rep g1 (frz o) v := by
  obtain ⟨g1, le, ad, w1, rp⟩ := freeze w r
  exact ⟨g1, ⟨a.trans (as' := bs) (fun b hb => .inr (n b hb)) ad, s, w1, e.mono le fun _ _ => rfl⟩, rp⟩
theorem Fin.bind {r : XRes} {k : D → Ev → Cells → XRes} (h : Fin mg g0 H0 as0 W σ Q (r.bind k)) :
    Fin mg g0 H0 as0 W σ (fun v H1 => ∃ g1 cs1 env1 as1 d, Got mg g0 H0 as0 σ g1 cs1 env1 as1 H1 ∧ Rep g1 d v ∧ Fin mg g1 H1 as1 W σ Q (k d env1 cs1)) r := by
  cases r with
  | ok o env cs =>
    intro v H g as bs a s w e r n
    obtain ⟨g1, G, rp⟩ := got_freeze a s w e r n
    exact ⟨g1, cs, env, as, frz o, G, rp, Fin.rebase G.adv G.sub h⟩
  | exc x env cs => exact h
  | bad => exact h
theorem Fin.bindL {r : XRes} {k : D → Ev → Cells → LRes} (h : FinL mg g0 H0 as0 W σ R (r.bindL k)) :
    Fin mg g0 H0 as0 W σ (fun v H1 => ∃ g1 cs1 env1 as1 d, Got mg g0 H0 as0 σ g1 cs1 env1 as1 H1 ∧ Rep g1 d v ∧ FinL mg g1 H1 as1 W σ R (k d env1 cs1)) r := by
  cases r with
  | ok o env cs =>
    intro v H g as bs a s w e r n
    obtain ⟨g1, G, rp⟩ := got_freeze a s w e r n
    exact ⟨g1, cs, env, as, frz o, G, rp, FinL.rebase G.adv G.sub h⟩
  | exc x env cs => exact h
  | bad => exact h
theorem FinL.bind {r : LRes} {k : List D → Ev → Cells → XRes} (h : Fin mg g0 H0 as0 W σ Q (r.bind k)) :
    FinL mg g0 H0 as0 W σ (fun v H1 => ∃ g1 cs1 env1 as1 d, Got mg g0 H0 as0 σ g1 cs1 env1 as1 H1 ∧ RepL g1 d v ∧ Fin mg g1 H1 as1 W σ Q (k d env1 cs1)) r := by
  cases r with
  | ok o env cs => exact fun v H g as a s w e r => ⟨g, cs, env, as, o, ⟨a, s, w, e⟩, r, Fin.rebase a s h⟩
  | exc x env cs => exact h
  | bad => exact h
theorem FinL.bindL {r : LRes} {k : List D → Ev → Cells → LRes} (h : FinL mg g0 H0 as0 W σ R (r.bindL k)) :
    FinL mg g0 H0 as0 W σ (fun v H1 => ∃ g1 cs1 env1 as1 d, Got mg g0 H0 as0 σ g1 cs1 env1 as1 H1 ∧ RepL g1 d v ∧ FinL mg g1 H1 as1 W σ R (k d env1 cs1)) r := by
  cases r with
  | ok o env cs => exact fun v H g as a s w e r => ⟨g, cs, env, as, o, ⟨a, s, w, e⟩, r, FinL.rebase a s h⟩
  | exc x env cs => exact h
  | bad => exact h
/-- what a built-in operation leaves -/
def Post (mg : Mg) (g : Gh) (cs : Cells) (H : Hp) (as : List Addr) (o : O) (Q : VK) : Prop :=
  ∀ (v : V) (H' : Hp) (g' : Gh) (bs : List Addr), Adv g g' H H' [] → Wf mg g' cs H' (bs ++ as) → RepO g' H' o v bs → (∀ b ∈ bs, H b = none) → Q v H'
theorem Fin.post {o : O} (w : Wf mg g cs H as) (e : EnvR g H env σ as) (h : Fin mg g H as W σ Q (.ok o env cs)) : Post mg g cs H as o Q := fun v H' g' bs a w' r n => by
  refine h v H' g' as bs a.weakE (.refl _ _) w' (e.mono a.le fun x hx => ?_) r n
  cases q : H x with
  | none => exact absurd q (w.sep x hx).2.2
  | some u => exact a.keep x u q (w.sep x hx).2.1 (by simp)
/-- a scalar: nothing changes -/
theorem Post.fz {d : D} {v : V} (h : Post mg g cs H as (.fz d) Q) (w : Wf mg g cs H as) (r : Rep g d v) : Q v H := h v H g [] (.refl _ _ _) w (.fz r) (fun _ z => nomatch z)
end
/-! ### combinators and their rules -/
def xC (d : D) : XM := fun env cs => .ok (.fz d) env cs
def xNm (i : Nat) : XM := fun env cs => match env[i]? with
  | some (some (.fz d)) => .ok (.fz d) env cs
  | some (some o) => .ok (.fz (frz o)) (env.set i (some (.fz (frz o)))) cs
  | _ => .bad
def ofO (r : Option O) (env : Ev) (cs : Cells) : XRes := match r with
  | some o => .ok o env cs
  | none => .bad
def xOp1 (p : D → Cells → Option O) (ma : XM) : XM := fun env cs => (ma env cs).bind fun d env cs => ofO (p d cs) env cs
def xOp2 (p : D → D → Cells → Option O) (ma mb : XM) : XM := fun env cs => (ma env cs).bind fun d env cs => (mb env cs).bind fun e env cs => ofO (p d e cs) env cs
def xOpL (p : List D → Cells → Option O) (ma : LM) : XM := fun env cs => (ma env cs).bind fun ds env cs => ofO (p ds cs) env cs
def lNil : LM := fun env cs => .ok [] env cs
def lCons (m : XM) (l : LM) : LM := fun env cs => (m env cs).bindL fun d env cs => (l env cs).bindL fun ds env cs => .ok (d :: ds) env cs
def xAnd (ma mb : XM) : XM := fun env cs => (ma env cs).bind fun d env cs => match d with
  | .bl true => mb env cs
  | .bl false => .ok (.fz (.bl false)) env cs
  | _ => .bad
def xOr (ma mb : XM) : XM := fun env cs => (ma env cs).bind fun d env cs => match d with
  | .bl false => mb env cs
  | .bl true => .ok (.fz (.bl true)) env cs
  | _ => .bad
def xNot (ma : XM) : XM := fun env cs => (ma env cs).bind fun d env cs => match d with
  | .bl b => .ok (.fz (.bl (!b))) env cs
  | _ => .bad
def xIf (mc ma mb : XM) : XM := fun env cs => (mc env cs).bind fun d env cs => match d with
  | .bl true => ma env cs
  | .bl false => mb env cs
  | _ => .bad
structure Op1 (mg : Mg) (p : D → Cells → Option O) (r : V → Hp → VK → Prop) : Prop where
  run : ∀ (g : Gh) (cs : Cells) (H : Hp) (as : List Addr) (d : D) (x : V) (o : O) (Q : VK), Wf mg g cs H as → Rep g d x → p d cs = some o → Post mg g cs H as o Q → r x H Q
structure Op2 (mg : Mg) (p : D → D → Cells → Option O) (r : R2) : Prop where
  run : ∀ (g : Gh) (cs : Cells) (H : Hp) (as : List Addr) (d e : D) (x y : V) (o : O) (Q : VK), Wf mg g cs H as → Rep g d x → Rep g e y → p d e cs = some o → Post mg g cs H as o Q → r x y H Q
structure OpL (mg : Mg) (p : List D → Cells → Option O) (r : List V → Hp → VK → Prop) : Prop where
  run : ∀ (g : Gh) (cs : Cells) (H : Hp) (as : List Addr) (ds : List D) (xs : List V) (o : O) (Q : VK), Wf mg g cs H as → RepL g ds xs → p ds cs = some o → Post mg g cs H as o Q → r xs H Q
section
variable {X : Cx} {a b c e : Expr} {es : List Expr} {pos : Pos} {ma mb mc : XM} {ml : LM}
theorem em_c {d : D} {v : V} (h : PE X e (tC v)) (r : ∀ g : Gh, g.mg = md X → Rep g d v) : Em X e (xC d) := ⟨fun W tk => pe_imp h fun σ H Q ⟨g, cs, env, as, w, ev, f⟩ =>
  f v H g as [] (.refl _ _ _) (.refl _ _) w ev (.fz (r g w.mg)) fun _ z => nomatch z⟩
theorem em_int {i : Int} {j} : Em X (.Constant (.int i) j pos) (xC (.int i)) := em_c pe_int fun _ _ => .int
theorem em_bl {i : Bool} {j} : Em X (.Constant (.bool i) j pos) (xC (.bl i)) := em_c pe_bl fun _ _ => .bl
theorem em_non {j} : Em X (.Constant .none j pos) (xC .non) := em_c pe_non fun _ _ => .non
theorem em_str {x : Str} {j} : Em X (.Constant (.str x) j pos) (xC (.str x)) := em_c pe_str fun _ _ => .str
theorem em_nm (i : Nat) {x : Str} (hN : X.N[i]? = some x := by rfl) (hv : Vis X.env.scope x := by first | exact Or.inl rfl | exact Or.inr (Or.inl rfl) | exact Or.inr (Or.inr rfl)) (hd : (x == ("__debug__" : Str)) = false := by decide)
    (hcd : (x == ("__classdict__" : Str)) = false := by decide) : Em X (.Name x pos) (xNm i) := ⟨fun W tk => pe_imp (pe_var hN hv hd hcd) fun σ H Q ⟨g, cs, env, as, w, ev, f⟩ => by
  unfold xNm at f
  split at f
  · rename_i d h
    obtain ⟨v, bs, as1, as2, e, hs, ro, k⟩ := ev.at h
    refine ⟨v, hs, f v H g as [] (.refl _ _ _) (.refl _ _) w ev ?_ fun _ z => nomatch z⟩
    cases ro with
    | fz r => exact .fz r
  · rename_i o _ h
    obtain ⟨v, g', as', hs, le, ad, sb, w', rp, ev'⟩ := ev.frz w h
    exact ⟨v, hs, f v H g' as' [] ad (fun x hx => .inl (sb x hx)) w' ev' (.fz rp) fun _ z => nomatch z⟩
  · exact f.elim⟩
theorem op1_red {p : D → Cells → Option O} {r : V → Hp → VK → Prop} {W : WX} {σ : St} {H : Hp} {Q : VK} {mg : Mg} (P : Op1 mg p r) (h : tX mg (xOp1 p ma) W σ H Q) : tX mg ma W σ H fun x H1 => r x H1 Q := by
  obtain ⟨g, cs, env, as, w, ev, f⟩ := h
  refine ⟨g, cs, env, as, w, ev, f.bind.imp fun v H1 ⟨g1, cs1, env1, as1, d, G, rp, f⟩ => ?_⟩
  cases q : p d cs1 with
  | none => rw [q] at f; exact f.elim
  | some o => rw [q] at f; exact P.run g1 cs1 H1 as1 d v o Q G.wf rp q (f.post G.wf G.env)
theorem op2_red {p : D → D → Cells → Option O} {r : R2} {W : WX} {σ : St} {H : Hp} {Q : VK} {mg : Mg} (P : Op2 mg p r) (h : tX mg (xOp2 p ma mb) W σ H Q) : tOp r (tX mg ma W) (tX mg mb W) σ H Q := by
  obtain ⟨g, cs, env, as, w, ev, f⟩ := h
  refine ⟨g, cs, env, as, w, ev, f.bind.imp fun v H1 ⟨g1, cs1, env1, as1, d, G, rp, f⟩ => ?_⟩
  refine ⟨g1, cs1, env1, as1, G.wf, G.env, f.bind.imp fun u H2 ⟨g2, cs2, env2, as2, e, G2, rp2, f⟩ => ?_⟩
  cases q : p d e cs2 with
  | none => rw [q] at f; exact f.elim
  | some o => rw [q] at f; exact P.run g2 cs2 H2 as2 d e v u o Q G2.wf (rp.mono G2.adv.le) rp2 q (f.post G2.wf G2.env)
theorem opL_red {p : List D → Cells → Option O} {r : List V → Hp → VK → Prop} {W : WX} {σ : St} {H : Hp} {Q : VK} {mg : Mg} (P : OpL mg p r) (h : tX mg (xOpL p ml) W σ H Q) : tCB r (tA mg ml W) σ H Q := by
  obtain ⟨g, cs, env, as, w, ev, f⟩ := h
  refine ⟨g, cs, env, as, w, ev, (FinL.bind f).imp fun v H1 ⟨g1, cs1, env1, as1, d, G, rp, f⟩ => ?_⟩
  cases q : p d cs1 with
  | none => rw [q] at f; exact f.elim
  | some o => rw [q] at f; exact P.run g1 cs1 H1 as1 d v o Q G.wf rp q (f.post G.wf G.env)
theorem am_nil : Am X [] lNil := ⟨fun W tk => pa_imp pa_nil fun σ H Q ⟨g, cs, env, as, w, ev, f⟩ => f [] H g as (.refl _ _ _) (.refl _ _) w ev .nil⟩
theorem am_cons (ha : Em X a ma) (hr : Am X es ml) (hs : starEach (a :: es) X.env = (false, eval a X.env) :: starEach es X.env := by rfl) : Am X (a :: es) (lCons ma ml) :=
  ⟨fun W tk => pa_imp (pa_cons (ha.run W tk) (hr.run W tk) hs) fun σ H Q ⟨g, cs, env, as, w, ev, f⟩ => by
    refine ⟨g, cs, env, as, w, ev, (Fin.bindL f).imp fun v H1 ⟨g1, cs1, env1, as1, d, G, rp, f⟩ => ?_⟩
    refine ⟨g1, cs1, env1, as1, G.wf, G.env, (FinL.bindL f).imp fun u H2 ⟨g2, cs2, env2, as2, e, G2, rp2, f⟩ => ?_⟩
    exact f (v :: u) H2 g2 as2 (.refl _ _ _) (.refl _ _) G2.wf G2.env (.cons (rp.mono G2.adv.le) rp2)⟩
theorem em_bin {op : Operator} {p : D → D → Cells → Option O} {r : R2} (ho : OpR X (binaryOp op) r) (P : Op2 (md X) p r) (ha : Em X a ma) (hb : Em X b mb) : Em X (.BinOp a op b pos) (xOp2 p ma mb) :=
  ⟨fun W tk => pe_imp (pe_op ho (ha.run W tk) (hb.run W tk)) fun _ _ _ h => op2_red P h⟩
theorem em_un {op : UnaryOp} {p : D → Cells → Option O} {r : V → Hp → VK → Prop} (ho : UnR X (unaryOp op) r) (P : Op1 (md X) p r) (ha : Em X a ma) : Em X (.UnaryOp op a pos) (xOp1 p ma) :=
  ⟨fun W tk => pe_imp (pe_un ho (ha.run W tk)) fun _ _ _ h => op1_red P h⟩
theorem em_cmp {op : CmpOp} {p : D → D → Cells → Option O} {r : R2} (ho : OpR X (compareOp op) r) (P : Op2 (md X) p r) (ha : Em X a ma) (hb : Em X b mb) (hm : behindInMarks op b = false := by first | rfl | exact nomark _) : Em X (.Compare a [op] [b] pos) (xOp2 p ma mb) :=
  ⟨fun W tk => pe_imp (pe_cmpR ho (ha.run W tk) (hb.run W tk) hm) fun _ _ _ h => op2_red P h⟩
theorem tm_cmp {op : CmpOp} {p : D → D → Cells → Option O} {r : R2} (ho : OpR X (compareOp op) r) (P : Op2 (md X) p r) (ha : Em X a ma) (hb : Em X b mb) (hm : behindInMarks op b = false := by first | rfl | exact nomark _) : Tm X (.Compare a [op] [b] pos) (xOp2 p ma mb) :=
  ⟨fun W tk => pt_imp (pt_cmpR ho (ha.run W tk) (hb.run W tk) hm) fun _ _ _ h => op2_red P h⟩
theorem tm_val (h : Em X e ma) (he : ∀ whole, isTrue e X.env whole = (do let v ← whole; standAt e.pos; holding [v] (truthy v)) := by intro _; rfl) : Tm X e ma := ⟨fun W tk => pt_val (h.run W tk) he⟩
theorem em_one {op} (h : Em X a ma) : Em X (.BoolOp op [a] pos) ma := ⟨fun W tk => pe_one (h.run W tk)⟩
theorem and_red {mg : Mg} {W : WX} {σ : St} {H : Hp} {Q : VK} (h : tX mg (xAnd ma mb) W σ H Q) : tX mg ma W σ H fun x H1 => ∃ c, x = .bl c ∧ if c = true then tX mg mb W σ H1 Q else Q (.bl false) H1 := by
  obtain ⟨g, cs, env, as, w, ev, f⟩ := h
  refine ⟨g, cs, env, as, w, ev, f.bind.imp fun v H1 ⟨g1, cs1, env1, as1, d, G, rp, f⟩ => ?_⟩
  cases rp with
  | @bl k =>
    refine ⟨k, rfl, ?_⟩
    cases k with
    | true => rw [if_pos rfl]; exact ⟨g1, cs1, env1, as1, G.wf, G.env, f⟩
    | false => rw [if_neg Bool.false_ne_true]; exact (f.post G.wf G.env).fz G.wf .bl
  | _ => exact f.elim
theorem or_red {mg : Mg} {W : WX} {σ : St} {H : Hp} {Q : VK} (h : tX mg (xOr ma mb) W σ H Q) : tX mg ma W σ H fun x H1 => ∃ c, x = .bl c ∧ if c = true then Q (.bl true) H1 else tX mg mb W σ H1 Q := by
  obtain ⟨g, cs, env, as, w, ev, f⟩ := h
  refine ⟨g, cs, env, as, w, ev, f.bind.imp fun v H1 ⟨g1, cs1, env1, as1, d, G, rp, f⟩ => ?_⟩
  cases rp with
  | @bl k =>
    refine ⟨k, rfl, ?_⟩
    cases k with
    | false => rw [if_neg Bool.false_ne_true]; exact ⟨g1, cs1, env1, as1, G.wf, G.env, f⟩
    | true => rw [if_pos rfl]; exact (f.post G.wf G.env).fz G.wf .bl
  | _ => exact f.elim
theorem em_and {rest : List Expr} (ha : Em X a ma) (hb : Em X (.BoolOp .And (b :: rest) pos) mb) : Em X (.BoolOp .And (a :: b :: rest) pos) (xAnd ma mb) :=
  ⟨fun W tk => pe_imp (pe_and (ha.run W tk) (hb.run W tk)) fun _ _ _ h => and_red h⟩
theorem em_or {rest : List Expr} (ha : Em X a ma) (hb : Em X (.BoolOp .Or (b :: rest) pos) mb) : Em X (.BoolOp .Or (a :: b :: rest) pos) (xOr ma mb) :=
  ⟨fun W tk => pe_imp (pe_or (ha.run W tk) (hb.run W tk)) fun _ _ _ h => or_red h⟩
theorem not_red {mg : Mg} {W : WX} {σ : St} {H : Hp} {Q : VK} (h : tX mg (xNot ma) W σ H Q) : tX mg ma W σ H fun x H1 => ∃ c, x = .bl c ∧ Q (.bl (!c)) H1 := by
  obtain ⟨g, cs, env, as, w, ev, f⟩ := h
  refine ⟨g, cs, env, as, w, ev, f.bind.imp fun v H1 ⟨g1, cs1, env1, as1, d, G, rp, f⟩ => ?_⟩
  cases rp with
  | @bl k => exact ⟨k, rfl, (f.post G.wf G.env).fz G.wf .bl⟩
  | _ => exact f.elim
theorem em_not (ha : Em X a ma) : Em X (.UnaryOp .Not a pos) (xNot ma) := ⟨fun W tk => pe_imp (pe_not (ha.run W tk)) fun _ _ _ h => not_red h⟩
theorem tm_not (ha : Tm X a ma) : Tm X (.UnaryOp .Not a pos) (xNot ma) := ⟨fun W tk => pt_imp (pt_not (ha.run W tk)) fun σ H Q h => by
  obtain ⟨g, cs, env, as, w, ev, f⟩ := not_red h
  exact ⟨g, cs, env, as, w, ev, f.imp fun v H1 ⟨c, e, d, e2, q⟩ => ⟨c, e, by cases e2; exact q⟩⟩⟩
/-- and, or as tests -/
structure Wm (X : Cx) (e : Expr) (m : XM) : Prop where
  run : ∀ W, Takes X W → PW X e (tB (tX (md X) m W))
theorem tm_w (h : Wm X e ma) : Tm X e ma := ⟨fun W tk => (h.run W tk).pt⟩
theorem wm_and1 (ha : Tm X a ma) : Wm X (.BoolOp .And [a] pos) ma := ⟨fun W tk => pw_and1 (ha.run W tk)⟩
theorem wm_or1 (ha : Tm X a ma) : Wm X (.BoolOp .Or [a] pos) ma := ⟨fun W tk => pw_or1 (ha.run W tk)⟩
theorem wm_and {rest : List Expr} (ha : Tm X a ma) (hb : Wm X (.BoolOp .And (b :: rest) pos) mb) : Wm X (.BoolOp .And (a :: b :: rest) pos) (xAnd ma mb) :=
  ⟨fun W tk => pw_imp (pw_and (ha.run W tk) (hb.run W tk)) fun σ H Q h => by
    obtain ⟨g, cs, env, as, w, ev, f⟩ := and_red h
    refine ⟨g, cs, env, as, w, ev, f.imp fun v H1 ⟨c, e, q⟩ => ⟨c, e, ?_⟩⟩
    cases c with
    | true => exact q
    | false =>
      rw [if_neg Bool.false_ne_true] at q ⊢
      obtain ⟨d, e2, q⟩ := q
      cases e2; exact q⟩
theorem wm_or {rest : List Expr} (ha : Tm X a ma) (hb : Wm X (.BoolOp .Or (b :: rest) pos) mb) : Wm X (.BoolOp .Or (a :: b :: rest) pos) (xOr ma mb) :=
  ⟨fun W tk => pw_imp (pw_or (ha.run W tk) (hb.run W tk)) fun σ H Q h => by
    obtain ⟨g, cs, env, as, w, ev, f⟩ := or_red h
    refine ⟨g, cs, env, as, w, ev, f.imp fun v H1 ⟨c, e, q⟩ => ⟨c, e, ?_⟩⟩
    cases c with
    | false => exact q
    | true =>
      rw [if_pos rfl] at q ⊢
      obtain ⟨d, e2, q⟩ := q
      cases e2; exact q⟩
theorem em_if (hc : Tm X c mc) (ha : Em X a ma) (hb : Em X b mb) : Em X (.IfExp c a b pos) (xIf mc ma mb) := ⟨fun W tk => pe_imp (pe_ifExp (hc.run W tk) (ha.run W tk) (hb.run W tk)) fun σ H Q ⟨g, cs, env, as, w, ev, f⟩ => by
  refine ⟨g, cs, env, as, w, ev, f.bind.imp fun v H1 ⟨g1, cs1, env1, as1, d, G, rp, f⟩ => ?_⟩
  cases rp with
  | @bl k =>
    refine ⟨k, rfl, ?_⟩
    cases k with
    | true => rw [if_pos rfl]; exact ⟨g1, cs1, env1, as1, G.wf, G.env, f⟩
    | false => rw [if_neg Bool.false_ne_true]; exact ⟨g1, cs1, env1, as1, G.wf, G.env, f⟩
  | _ => exact f.elim⟩
end
end GM
namespace GM
open PySem PySem.Spec L2
/-! ### statements -/
def XRes.bindS (r : XRes) (k : D → Ev → Cells → SRes) : SRes := match r with
  | .ok o env cs => k (frz o) env cs
  | .exc x env cs => .exc x env cs
  | .bad => .bad
def XRes.bindO (r : XRes) (k : O → Ev → Cells → SRes) : SRes := match r with
  | .ok o env cs => k o env cs
  | .exc x env cs => .exc x env cs
  | .bad => .bad
def LRes.bindS (r : LRes) (k : List D → Ev → Cells → SRes) : SRes := match r with
  | .ok o env cs => k o env cs
  | .exc x env cs => .exc x env cs
  | .bad => .bad
def FinS (mg : Mg) (g0 : Gh) (H0 : Hp) (as0 : List Addr) (W : WX) (D : Ends) : SRes → Prop
  | .nx env cs => ∀ (σ : St) (H : Hp) (g : Gh) (as : List Addr), Adv g0 g H0 H as0 → Sub as as0 H0 → Wf mg g cs H as → EnvR g H env σ as → D.nx σ H
  | .brk env cs => ∀ (σ : St) (H : Hp) (g : Gh) (as : List Addr), Adv g0 g H0 H as0 → Sub as as0 H0 → Wf mg g cs H as → EnvR g H env σ as → D.bk σ H
  | .cnt env cs => ∀ (σ : St) (H : Hp) (g : Gh) (as : List Addr), Adv g0 g H0 H as0 → Sub as as0 H0 → Wf mg g cs H as → EnvR g H env σ as → D.ct σ H
  | .ret o env cs => ∀ (v : V) (H : Hp) (g : Gh) (bs : List Addr), Adv g0 g H0 H as0 → Sub bs as0 H0 → Wf mg g cs H bs → RepO g H o v bs → D.rt v H
  | .exc x env cs => ∀ (cls : Value) (d : Option Addr) (σ : St) (H : Hp) (g : Gh) (as : List Addr), Adv g0 g H0 H as0 → Sub as as0 H0 → Wf mg g cs H as → EnvR g H env σ as → ExR g x cls d → W cls d σ H
  | .bad => False
def tS (mg : Mg) (m : SM) (W : WX) : TS := fun D σ H => ∃ g cs env as, Wf mg g cs H as ∧ EnvR g H env σ as ∧ FinS mg g H as W D (m env cs)
structure Sm (X : Cx) (st : Stmt) (m : SM) : Prop where
  run : ∀ W, Takes X W → PS X st (tS (md X) m W)
structure Bm (X : Cx) (st : List Stmt) (m : SM) : Prop where
  run : ∀ W, Takes X W → PSs X st (tS (md X) m W)
section
variable {mg : Mg} {g g0 g1 : Gh} {H H0 H1 : Hp} {as as0 as1 : List Addr} {W : WX} {σ : St} {D D' : Ends} {cs : Cells} {env : Ev}
theorem FinS.rebase {r : SRes} (a : Adv g0 g1 H0 H1 as0) (s : Sub as1 as0 H0) (h : FinS mg g0 H0 as0 W D r) : FinS mg g1 H1 as1 W D r := by
  cases r with
  | nx env cs => exact fun σ H g as a' s' w e => h σ H g as (a.trans s a') (s.trans (fun _ => a.none) s') w e
  | brk env cs => exact fun σ H g as a' s' w e => h σ H g as (a.trans s a') (s.trans (fun _ => a.none) s') w e
  | cnt env cs => exact fun σ H g as a' s' w e => h σ H g as (a.trans s a') (s.trans (fun _ => a.none) s') w e
  | ret o env cs => exact fun v H g bs a' s' w r => h v H g bs (a.trans s a') (s.trans (fun _ => a.none) s') w r
  | exc x env cs => exact fun c d σ H g as a' s' w e r => h c d σ H g as (a.trans s a') (s.trans (fun _ => a.none) s') w e r
  | bad => exact h
theorem Fin.bindS {r : XRes} {k : GM.D → Ev → Cells → SRes} (h : FinS mg g0 H0 as0 W D (r.bindS k)) :
    Fin mg g0 H0 as0 W σ (fun v H1 => ∃ g1 cs1 env1 as1 d, Got mg g0 H0 as0 σ g1 cs1 env1 as1 H1 ∧ Rep g1 d v ∧ FinS mg g1 H1 as1 W D (k d env1 cs1)) r := by
  cases r with
  | ok o env cs =>
    intro v H g as bs a s w e r n
    obtain ⟨g1, G, rp⟩ := got_freeze a s w e r n
    exact ⟨g1, cs, env, as, frz o, G, rp, FinS.rebase G.adv.toAdv G.sub h⟩
  | exc x env cs => exact fun c d H g as a s w e r => h c d σ H g as a.toAdv s w e r
  | bad => exact h
theorem Fin.bindO {r : XRes} {k : O → Ev → Cells → SRes} (h : FinS mg g0 H0 as0 W D (r.bindO k)) :
    Fin mg g0 H0 as0 W σ (fun v H1 => ∃ g1 cs1 env1 as1 bs o, Got mg g0 H0 as0 σ g1 cs1 env1 as1 H1 ∧ Wf mg g1 cs1 H1 (bs ++ as1) ∧ RepO g1 H1 o v bs ∧ (∀ b ∈ bs, H0 b = none) ∧ FinS mg g1 H1 (bs ++ as1) W D (k o env1 cs1)) r := by
  cases r with
  | ok o env cs =>
    intro v H g as bs a s w e r n
    refine ⟨g, cs, env, as, bs, o, ⟨a, s, w.sub (List.nodup_append.mp w.nd).2.1 fun x h => List.mem_append_right _ h, e⟩, w, r, n, FinS.rebase a.toAdv (fun x h => ?_) h⟩
    rcases List.mem_append.mp h with h | h
    · exact .inr (n x h)
    · exact s x h
  | exc x env cs => exact fun c d H g as a s w e r => h c d σ H g as a.toAdv s w e r
  | bad => exact h
theorem FinL.bindS {r : LRes} {k : List GM.D → Ev → Cells → SRes} (h : FinS mg g0 H0 as0 W D (r.bindS k)) :
    FinL mg g0 H0 as0 W σ (fun v H1 => ∃ g1 cs1 env1 as1 d, Got mg g0 H0 as0 σ g1 cs1 env1 as1 H1 ∧ RepL g1 d v ∧ FinS mg g1 H1 as1 W D (k d env1 cs1)) r := by
  cases r with
  | ok o env cs => exact fun v H g as a s w e r => ⟨g, cs, env, as, o, ⟨a, s, w, e⟩, r, FinS.rebase a.toAdv s h⟩
  | exc x env cs => exact fun c d H g as a s w e r => h c d σ H g as a.toAdv s w e r
  | bad => exact h
/-- the end as it stands now -/
theorem FinS.now (h : FinS mg g H as W D (.nx env cs)) (w : Wf mg g cs H as) (e : EnvR g H env σ as) : D.nx σ H := h σ H g as (.refl _ _ _) (.refl _ _) w e
end
def sNil : SM := fun env cs => .nx env cs
def sSeq (m1 m2 : SM) : SM := fun env cs => match m1 env cs with
  | .nx env cs => m2 env cs
  | r => r
def sAsg (i : Nat) (m : XM) : SM := fun env cs => (m env cs).bindO fun o env cs => if i < env.length then .nx (env.set i (some o)) cs else .bad
def sRet (m : XM) : SM := fun env cs => (m env cs).bindO fun o env cs => .ret o env cs
def sRetV (i : Nat) : SM := fun env cs => match env[i]? with
  | some (some o) => .ret o env cs
  | _ => .bad
def sExpr (m : XM) : SM := fun env cs => (m env cs).bindS fun _ env cs => .nx env cs
def sIf (c : XM) (a b : SM) : SM := fun env cs => (c env cs).bindS fun d env cs => match d with
  | .bl true => a env cs
  | .bl false => b env cs
  | _ => .bad
section
variable {X : Cx} {st : Stmt} {rest a b : List Stmt} {m m1 m2 ma mb : SM} {e c : Expr} {me mc : XM} {pos : Pos}
theorem bm_nil : Bm X [] sNil := ⟨fun W tk => pss_imp pss_nil fun D σ H ⟨g, cs, env, as, w, ev, f⟩ => f.now w ev⟩
theorem bm_cons (h1 : Sm X st m1) (h2 : Bm X rest m2) : Bm X (st :: rest) (sSeq m1 m2) := ⟨fun W tk => pss_imp (pss_cons (h1.run W tk) (h2.run W tk)) fun D σ H ⟨g, cs, env, as, w, ev, f⟩ => by
  refine ⟨g, cs, env, as, w, ev, ?_⟩
  unfold sSeq at f
  cases q : m1 env cs with
  | nx env1 cs1 =>
    rw [q] at f
    exact fun σ1 H1 g1 as1 a1 s1 w1 e1 => ⟨g1, cs1, env1, as1, w1, e1, FinS.rebase a1 s1 f⟩
  | brk env1 cs1 => rw [q] at f; exact f
  | cnt env1 cs1 => rw [q] at f; exact f
  | ret o env1 cs1 => rw [q] at f; exact f
  | exc o env1 cs1 => rw [q] at f; exact f
  | bad => rw [q] at f; exact f⟩
theorem bm_one (h1 : Sm X st m1) : Bm X [st] m1 := ⟨fun W tk => pss_one (h1.run W tk)⟩
theorem sm_pass : Sm X (.Pass pos) sNil := ⟨fun W tk => ps_imp ps_pass fun D σ H ⟨g, cs, env, as, w, ev, f⟩ => f.now w ev⟩
theorem sm_doc {x j pos'} : Sm X (.Expr (.Constant (.str x) j pos) pos') sNil := ⟨fun W tk => ps_imp ps_doc fun D σ H ⟨g, cs, env, as, w, ev, f⟩ => f.now w ev⟩
theorem sm_brk : Sm X (.Break pos) (fun env cs => .brk env cs) := ⟨fun W tk => ps_imp ps_break fun D σ H ⟨g, cs, env, as, w, ev, f⟩ => f σ H g as (.refl _ _ _) (.refl _ _) w ev⟩
theorem sm_cnt : Sm X (.Continue pos) (fun env cs => .cnt env cs) := ⟨fun W tk => ps_imp ps_continue fun D σ H ⟨g, cs, env, as, w, ev, f⟩ => f σ H g as (.refl _ _ _) (.refl _ _) w ev⟩
/-- a new value in a slot -/
theorem put_slot {mg : Mg} {g : Gh} {H : Hp} {env : Ev} {σ : St} {as bs : List Addr} {cs : Cells} {o : O} {v : V} {i : Nat} {W : WX} {D : Ends} (w : Wf mg g cs H (bs ++ as)) (ev : EnvR g H env σ as) (r : RepO g H o v bs)
    (f : FinS mg g H (bs ++ as) W D (if i < env.length then .nx (env.set i (some o)) cs else .bad)) : D.nx (σ.set i (some v)) H := by
  by_cases hi : i < env.length
  · rw [if_pos hi] at f
    obtain ⟨b0, as1, as2, e, k⟩ := ev.store hi
    have p : (as1 ++ (bs ++ as2)).Nodup := by
      have q : (bs ++ (as1 ++ (b0 ++ as2))).Nodup := by rw [← e]; exact w.nd
      have s : (as1 ++ (bs ++ as2)).Sublist (as1 ++ (bs ++ (b0 ++ as2))) := (List.Sublist.refl as1).append ((List.Sublist.refl bs).append (List.sublist_append_right b0 as2))
      exact List.Nodup.sublist s (nodup_mid q)
    have su : ∀ x ∈ as1 ++ (bs ++ as2), x ∈ bs ++ as := fun x hx => by
      rw [e]
      simp only [List.mem_append] at hx ⊢
      rcases hx with h | h | h <;> simp [h]
    exact f _ H g _ (.refl _ _ _) (fun x hx => .inl (su x hx)) (w.sub p su) (k (.refl g) (fun _ _ => rfl) r)
  · rw [if_neg hi] at f; exact f.elim
theorem sm_asg {i : Nat} {x : Str} {pos' : Pos} (hN : X.N.Nodup) (he : Em X e me) (hi : X.N[i]? = some x := by rfl) (hx : Loc X.env.scope x := by first | exact Or.inl rfl | exact Or.inr rfl) (hs : swapsWith e (some (.Name x pos')) pos.line X.env = pure false := by rfl)
    (hf : X.fn x = true ∨ X.env.scope.names.lookup x = some .local := by first | exact .inl rfl | exact .inr rfl | assumption) : Sm X (.Assign [.Name x pos'] e pos) (sAsg i me) := ⟨fun W tk => ps_imp (ps_set hN hi hx (he.run W tk) hs hf) fun D σ H ⟨g, cs, env, as, w, ev, f⟩ => by
  refine ⟨g, cs, env, as, w, ev, (Fin.bindO f).imp fun v H1 ⟨g1, cs1, env1, as1, bs, o, G, w1, r, n, f⟩ => ?_⟩
  exact put_slot w1 G.env r f⟩
theorem sm_ret (he : Em X e me) : Sm X (.Return (some e) pos) (sRet me) := ⟨fun W tk => ps_imp (ps_ret (he.run W tk)) fun D σ H ⟨g, cs, env, as, w, ev, f⟩ => by
  refine ⟨g, cs, env, as, w, ev, (Fin.bindO f).imp fun v H1 ⟨g1, cs1, env1, as1, bs, o, G, w1, r, n, f⟩ => ?_⟩
  exact f v H1 g1 bs (.refl _ _ _) (fun x hx => .inl (List.mem_append_left _ hx)) (w1.sub (List.nodup_append.mp w1.nd).1 fun x h => List.mem_append_left _ h) r⟩
theorem sm_retV (i : Nat) {x : Str} {p : Pos} (hN : X.N[i]? = some x := by rfl) (hv : Vis X.env.scope x := by first | exact Or.inl rfl | exact Or.inr (Or.inl rfl) | exact Or.inr (Or.inr rfl)) (hd : (x == ("__debug__" : Str)) = false := by decide)
    (hcd : (x == ("__classdict__" : Str)) = false := by decide) : Sm X (.Return (some (.Name x p)) pos) (sRetV i) := ⟨fun W tk => ps_imp (ps_ret (pe_var hN hv hd hcd)) fun D σ H ⟨g, cs, env, as, w, ev, f⟩ => by
  unfold sRetV at f
  split at f
  · rename_i o h
    obtain ⟨v, bs, as1, as2, e, hs, ro, k⟩ := ev.at h
    have su : ∀ x ∈ bs, x ∈ as := fun x hx => by rw [e]; simp [hx]
    have nd : bs.Nodup := by
      have q := w.nd
      rw [e] at q
      exact (List.nodup_append.mp (List.nodup_append.mp q).2.1).1
    exact ⟨v, hs, f v H g bs (.refl _ _ _) (fun x hx => .inl (su x hx)) (w.sub nd su) ro⟩
  · exact f.elim⟩
theorem sm_retN : Sm X (.Return none pos) (fun env cs => .ret (.fz .non) env cs) := ⟨fun W tk => ps_imp ps_retN fun D σ H ⟨g, cs, env, as, w, ev, f⟩ =>
  f .non H g [] (.refl _ _ _) (fun _ z => nomatch z) (w.sub List.nodup_nil fun _ z => nomatch z) (.fz .non)⟩
theorem sm_expr (he : Em X e me) (hs : swapsWith e none pos.line X.env = pure false := by rfl) : Sm X (.Expr e pos) (sExpr me) := ⟨fun W tk => ps_imp (ps_expr (he.run W tk) hs) fun D σ H ⟨g, cs, env, as, w, ev, f⟩ =>
  ⟨g, cs, env, as, w, ev, (Fin.bindS f).imp fun v H1 ⟨g1, cs1, env1, as1, d, G, rp, f⟩ => f.now G.wf G.env⟩⟩
theorem sm_if (hc : Tm X c mc) (ha : Bm X a ma) (hb : Bm X b mb) : Sm X (.If c a b pos) (sIf mc ma mb) := ⟨fun W tk => ps_imp (ps_if (hc.run W tk) (ha.run W tk) (hb.run W tk)) fun D σ H ⟨g, cs, env, as, w, ev, f⟩ => by
  refine ⟨g, cs, env, as, w, ev, (Fin.bindS f).imp fun v H1 ⟨g1, cs1, env1, as1, d, G, rp, f⟩ => ?_⟩
  cases rp with
  | @bl k =>
    refine ⟨k, rfl, ?_⟩
    cases k with
    | true => rw [if_pos rfl]; exact ⟨g1, cs1, env1, as1, G.wf, G.env, f⟩
    | false => rw [if_neg Bool.false_ne_true]; exact ⟨g1, cs1, env1, as1, G.wf, G.env, f⟩
  | _ => exact f.elim⟩
end
/-! ### defs and their calls -/
def FinF (mg : Mg) (g0 : Gh) (H0 : Hp) (Q : VK) (E : XK) : FRes → Prop
  | .ok o cs => ∀ (v : V) (H : Hp) (g : Gh) (bs : List Addr), Adv g0 g H0 H [] → Wf mg g cs H bs → RepO g H o v bs → (∀ b ∈ bs, H0 b = none) → Q v H
  | .exc x cs => ∀ (cls : Value) (d : Option Addr) (H : Hp) (g : Gh), Adv g0 g H0 H [] → Wf mg g cs H [] → ExR g x cls d → E cls d H
  | .bad => False
def spM (mg : Mg) (n : Nat) (m : FM) : Sp := fun vs H Q E => vs.length = n ∧ ∃ g cs ds, Wf mg g cs H [] ∧ RepL g ds vs ∧ FinF mg g H Q E (m ds cs)
def fnM (n np : Nat) (b : SM) : FM := fun ds cs => if ds.length = np then
    match b (ds.map (fun d => some (O.fz d)) ++ List.replicate (n - np) none) cs with
    | .ret o _ cs => .ok o cs
    | .nx _ cs => .ok (.fz .non) cs
    | .exc x _ cs => .exc x cs
    | _ => .bad
  else .bad
theorem RepL.len {g : Gh} : ∀ {ds : List D} {vs : List V}, RepL g ds vs → ds.length = vs.length
  | _, _, .nil => rfl
  | _, _, .cons _ r => congrArg Nat.succ r.len
theorem envR_start {g : Gh} {H : Hp} : ∀ {ds : List D} {vs : List V}, RepL g ds vs → ∀ n : Nat, EnvR g H (ds.map (fun d => some (O.fz d)) ++ List.replicate n none) (vs.map some ++ List.replicate n none) []
  | _, _, .nil, 0 => .nil
  | _, _, .nil, n + 1 => .emp (envR_start .nil n)
  | _, _, .cons h r, n => EnvR.val (bs := []) (.fz h) (envR_start r n)
section
variable {P : Program} {w : World} {K : PySem.W.Frag} {mg : Str → Option Value} {base : Heap}
theorem fn_body {x qual : Str} {st : Stmt} {f : Addr} {fd : FuncData} {N ps : List Str} {k : Nat} {b : SM} (F : Fun K x qual st f fd) (S : FnScope N ps (defScope st))
    (hb : ∀ (cdv : Value) (A : Around) (outer : List Env) (s : Shared) (H : Hp) (E : XK), Room k (A.deeper (PyProof.Rows.envOfC qual (defScope st) s.heap.objs.size f cdv)) → Bm (cxOf (L2.CX P w) P w K mg base N qual (defScope st) f cdv A outer s H E) (defBody st) b) :
    FnOk P w K mg base (L2.CX P w) (k + 1) f fd ps (spM ⟨mg, K⟩ ps.length (fnM N.length ps.length b)) := by
  refine F.okX S (fun vs H Q E h => h.1) fun cdv A outer s H vs Q E hr h => ?_
  obtain ⟨hl, g, cs, ds, wf, rl, fin⟩ := h
  refine ⟨_, (hb cdv A outer s H E hr).run (fun cls d _ H => E cls d H) (takes_of rfl rfl rfl rfl), ?_⟩
  have hd : ds.length = ps.length := rl.len.trans hl
  have hn : N.length - vs.length = N.length - ps.length := by rw [hl]
  unfold fnM at fin
  rw [if_pos hd] at fin
  refine ⟨g, cs, _, [], wf, (by unfold L2.start; rw [hn]; exact envR_start rl (N.length - ps.length)), ?_⟩
  cases q : b (ds.map (fun d => some (O.fz d)) ++ List.replicate (N.length - ps.length) none) cs with
  | nx env1 cs1 =>
    rw [q] at fin
    exact fun σ H g as a s w e => fin .non H g [] a (w.sub List.nodup_nil fun _ z => nomatch z) (.fz .non) fun _ z => nomatch z
  | ret o env1 cs1 =>
    rw [q] at fin
    exact fun v H g bs a s w r => fin v H g bs a w r fun b hb => by
      rcases s b hb with z | z
      · simp at z
      · exact z
  | exc o env1 cs1 =>
    rw [q] at fin
    exact fun c d σ H g as a s w e r => fin c d H g a (w.sub List.nodup_nil fun _ z => nomatch z) r
  | brk env1 cs1 => rw [q] at fin; exact False.elim fin
  | cnt env1 cs1 => rw [q] at fin; exact False.elim fin
  | bad => rw [q] at fin; exact fin
/-- the function's object stands there -/
def Lk (K : PySem.W.Frag) (f : Addr) (fd : FuncData) : Prop := ∃ oc od osl, K.lookup f = some (⟨oc, od, .func fd, osl⟩ : Obj)
/-- a def of the text that computes m, by at most k calls in one another -/
structure Fn (P : Program) (w : World) (K : PySem.W.Frag) (mg : Str → Option Value) (base : Heap) (k : Nat) (x : Str) (ps : List Str) (m : FM) : Prop where
  len : ∀ ds cs, ds.length ≠ ps.length → m ds cs = .bad
  ex : ∃ f fd, mg x = some (.ref f) ∧ PySem.W.keepIn K (.ref f) = true ∧ Binds K fd ps [] ∧ FnOk P w K mg base (L2.CX P w) k f fd ps (spM ⟨mg, K⟩ ps.length m) ∧ Lk K f fd
theorem Fn.mono {j k : Nat} {x : Str} {ps : List Str} {m : FM} (F : Fn P w K mg base j x ps m) (h : j ≤ k) : Fn P w K mg base k x ps m := by
  obtain ⟨f, fd, a, b, c, e, l⟩ := F.ex
  exact ⟨F.len, f, fd, a, b, c, e.mono h, l⟩
end
theorem Wf.join {mg : Mg} {g g' : Gh} {cs cs' : Cells} {H H' : Hp} {as bs : List Addr} (w : Wf mg g cs H as) (a : Adv g g' H H' []) (w' : Wf mg g' cs' H' bs) (n : ∀ b ∈ bs, H b = none) : Wf mg g' cs' H' (bs ++ as) :=
  ⟨w'.mg, w'.see, w'.len, w'.ndL, w'.sepL, w'.cell, List.nodup_append.mpr ⟨w'.nd, w.nd, fun x hx y hy e => by subst e; exact (w.sep x hy).2.2 (n x hx)⟩, fun x hx => by
    rcases List.mem_append.mp hx with hx | hx
    · exact w'.sep x hx
    · obtain ⟨h1, h2, h3⟩ := w.sep x hx
      refine ⟨?_, fun z => ?_, a.dom x h3⟩
      · cases q : g'.F x with
        | none => rfl
        | some u =>
          rcases a.new x u q with z | z | z
          · rw [h1] at z; cases z
          · simp at z
          · exact absurd z h3
      · obtain ⟨l, e, nl⟩ := a.L
        rw [e] at z
        rcases List.mem_append.mp z with z | z
        · exact h2 z
        · exact h3 (nl x z)⟩
theorem EnvR.keep {mg : Mg} {g g' : Gh} {cs : Cells} {H H' : Hp} {env : Ev} {σ : St} {as : List Addr} (e : EnvR g H env σ as) (w : Wf mg g cs H as) (a : Adv g g' H H' []) : EnvR g' H' env σ as := e.mono a.le fun x hx => by
  cases q : H x with
  | none => exact absurd q (w.sep x hx).2.2
  | some u => exact a.keep x u q (w.sep x hx).2.1 (by simp)
def xCall (m : FM) (ml : LM) : XM := fun env cs => (ml env cs).bind fun ds env cs => match m ds cs with
  | .ok o cs => .ok o env cs
  | .exc x cs => .exc x env cs
  | .bad => .bad
theorem call_fin {mg : Mg} {g : Gh} {H : Hp} {env : Ev} {σ : St} {as : List Addr} {cs : Cells} {W : WX} {Q : VK} {r : FRes} (w : Wf mg g cs H as) (ev : EnvR g H env σ as)
    (f : Fin mg g H as W σ Q (match r with | .ok o cs => .ok o env cs | .exc x cs => .exc x env cs | .bad => .bad)) : FinF mg g H Q (WE W σ) r := by
  cases r with
  | ok o cs' => exact fun v H' g' bs a w' r n => f v H' g' as bs a.weakE (.refl _ _) (w.join a w' n) (ev.keep w a) r n
  | exc x cs' => exact fun c d H' g' a w' r => f c d H' g' as a.weakE (.refl _ _) (by simpa using w.join a w' (fun _ z => nomatch z)) (ev.keep w a) r
  | bad => exact f
section
variable {X : Cx} {k : Nat} {ps : List Str} {x : Str} {p pos : Pos} {e : Expr} {es : List Expr} {m : FM} {ml : LM}
theorem em_call (F : Fn X.prog X.w X.K X.mg X.base k x ps m) (hr : Room k X.A) (ha : Am X (e :: es) ml) (hg : Gl X x := by rfl) (hdb : (x == ("__debug__" : Str)) = false := by decide)
    (he : starEach (e :: es) X.env = (false, eval e X.env) :: starEach es X.env := by rfl) (hpl : (backTo pos (starEach es X.env)).any (·.1) = false := by rfl) : Em X (.Call (.Name x p) (e :: es) [] pos) (xCall m ml) := ⟨fun W tk => by
  have flen := F.len
  obtain ⟨f, fd, hm, hk, hb, F, _⟩ := F.ex
  refine pe_imp (pe_callS (E := fun σ => WE W σ) F hr hg hm hk hb (fun σ => passAt tk σ) (ha.run W tk) hdb he hpl) fun σ H Q ⟨g, cs, env, as, w, ev, f⟩ => ?_
  refine ⟨g, cs, env, as, w, ev, (FinL.bind f).imp fun vs H1 ⟨g1, cs1, env1, as1, ds, G, rl, f⟩ => ?_⟩
  have fin : FinF (md X) g1 H1 Q (WE W σ) (m ds cs1) := call_fin G.wf G.env f
  refine ⟨?_, g1, cs1, ds, G.wf.sub List.nodup_nil (fun _ z => nomatch z), rl, fin⟩
  rw [← rl.len]
  by_cases q : ds.length = ps.length
  · exact q
  · rw [flen ds cs1 q] at fin
    exact fin.elim⟩
end
end GM
namespace GM
open PySem PySem.Spec L2
/-! ### targets -/
abbrev TgM := D → Ev → Option Ev
def tgNm (i : Nat) : TgM := fun d env => if i < env.length then some (env.set i (some (.fz d))) else none
def tgTup (ts : List D → Ev → Option Ev) : TgM := fun d env => match d with
  | .tup ds => ts ds env
  | _ => none
def tgNil : List D → Ev → Option Ev := fun ds env => match ds with
  | [] => some env
  | _ => none
def tgCons (t : TgM) (ts : List D → Ev → Option Ev) : List D → Ev → Option Ev := fun ds env => match ds with
  | d :: r => match t d env with
    | some env => ts r env
    | none => none
  | [] => none
/-- the same but for some slots -/
def Off (vs : List Nat) (σ σ' : St) : Prop := σ'.length = σ.length ∧ ∀ j, j ∉ vs → σ'[j]? = σ[j]?
theorem Off.refl (vs : List Nat) (σ : St) : Off vs σ σ := ⟨rfl, fun _ _ => rfl⟩
def tG (mg : Mg) (t : TgM) (vs : List Nat) : TG := fun v σ H Q => ∃ g cs env as d env', Wf mg g cs H as ∧ EnvR g H env σ as ∧ Rep g d v ∧ t d env = some env' ∧
  ∀ σ' as', Wf mg g cs H as' → EnvR g H env' σ' as' → (∀ a ∈ as', a ∈ as) → Off vs σ σ' → Q σ' H
def tGs (mg : Mg) (t : List D → Ev → Option Ev) (vs : List Nat) : TGs := fun v σ H Q => ∃ g cs env as d env', Wf mg g cs H as ∧ EnvR g H env σ as ∧ RepL g d v ∧ t d env = some env' ∧
  ∀ σ' as', Wf mg g cs H as' → EnvR g H env' σ' as' → (∀ a ∈ as', a ∈ as) → Off vs σ σ' → Q σ' H
structure Gm (X : Cx) (e : Expr) (t : TgM) (vs : List Nat) : Prop where
  run : PG X e (tG (md X) t vs)
structure Gsm (X : Cx) (e : List Expr) (t : List D → Ev → Option Ev) (vs : List Nat) : Prop where
  run : PGs X e (tGs (md X) t vs)
theorem pg_imp {X : Cx} {e : Expr} {t t' : TG} (h : PG X e t) (i : ∀ v σ H Q, t' v σ H Q → t v σ H Q) : PG X e t' := ⟨fun pins s σ H v u Q I r q => h.run pins s σ H v u Q I r (i _ _ _ _ q)⟩
theorem pgs_imp {X : Cx} {e : List Expr} {t t' : TGs} (h : PGs X e t) (i : ∀ v σ H Q, t' v σ H Q → t v σ H Q) : PGs X e t' := ⟨fun pins s σ H v u Q I r q => h.run pins s σ H v u Q I r (i _ _ _ _ q)⟩
theorem set_fz {mg : Mg} {g : Gh} {H : Hp} {env : Ev} {σ : St} {as : List Addr} {cs : Cells} {d : D} {v : V} {i : Nat} (w : Wf mg g cs H as) (ev : EnvR g H env σ as) (r : Rep g d v) (hi : i < env.length) :
    ∃ as', Wf mg g cs H as' ∧ EnvR g H (env.set i (some (.fz d))) (σ.set i (some v)) as' ∧ ∀ a ∈ as', a ∈ as := by
  obtain ⟨b0, as1, as2, e, k⟩ := ev.store hi
  have p : (as1 ++ ([] ++ as2)).Nodup := by
    have q := w.nd
    rw [e] at q
    exact List.Nodup.sublist ((List.Sublist.refl as1).append (List.sublist_append_right b0 as2)) q
  have su : ∀ x ∈ as1 ++ ([] ++ as2), x ∈ as := fun x hx => by
    rw [e]
    simp only [List.nil_append, List.mem_append] at hx ⊢
    rcases hx with h | h <;> simp [h]
  exact ⟨_, w.sub p su, k (.refl g) (fun _ _ => rfl) (.fz r), su⟩
section
variable {X : Cx} {pos : Pos} {e : Expr} {es : List Expr} {t : TgM} {ts : List D → Ev → Option Ev} {vs ws : List Nat}
theorem gm_nm {i : Nat} {x : Str} (hN : X.N.Nodup) (hi : X.N[i]? = some x := by rfl) (hx : Loc X.env.scope x := by first | exact Or.inl rfl | exact Or.inr rfl) (hf : X.fn x = true ∨ X.env.scope.names.lookup x = some .local := by first | exact .inl rfl | exact .inr rfl | assumption) : Gm X (.Name x pos) (tgNm i) [i] :=
  ⟨pg_imp (pg_name hN hi hx hf) fun v σ H Q ⟨g, cs, env, as, d, env', w, ev, r, h, k⟩ => by
    unfold tgNm at h
    split at h
    · rename_i hl
      cases h
      obtain ⟨as', w', ev', su⟩ := set_fz w ev r hl
      exact k _ as' w' ev' su ⟨List.length_set, fun j hj => List.getElem?_set_ne fun z => hj (by simp [z])⟩
    · cases h⟩
theorem gsm_nil : Gsm X [] tgNil [] := ⟨pgs_imp pgs_nil fun v σ H Q ⟨g, cs, env, as, d, env', w, ev, r, h, k⟩ => by
  cases r with
  | nil =>
    cases h
    exact ⟨rfl, k σ as w ev (fun _ z => z) (.refl _ _)⟩
  | cons _ _ => cases h⟩
theorem gsm_cons (h1 : Gm X e t vs) (h2 : Gsm X es ts ws) (hs : (assignEach (e :: es) X.env).map (·.2) = assign e X.env :: (assignEach es X.env).map (·.2) := by rfl) : Gsm X (e :: es) (tgCons t ts) (vs ++ ws) :=
  ⟨pgs_imp (pgs_cons h1.run h2.run hs) fun v σ H Q ⟨g, cs, env, as, d, env', w, ev, r, h, k⟩ => by
    cases r with
    | nil => cases h
    | @cons d v ds vs r rr =>
      have h : (match t d env with | some env => ts ds env | none => none) = some env' := h
      split at h
      · rename_i env1 q
        exact ⟨v, vs, rfl, g, cs, env, as, d, env1, w, ev, r, q, fun σ1 as1 w1 ev1 s1 o1 => ⟨g, cs, env1, as1, ds, env', w1, ev1, rr, h, fun σ2 as2 w2 ev2 s2 o2 => k σ2 as2 w2 ev2 (fun a ha => s1 a (s2 a ha)) ⟨o2.1.trans o1.1, fun j hj => (o2.2 j fun z => hj (List.mem_append_right _ z)).trans (o1.2 j fun z => hj (List.mem_append_left _ z))⟩⟩⟩
      · cases h⟩
/-- a tuple that stands frozen -/
theorem seen_tup {mg : Mg} {K : PySem.W.Frag} {g : Gh} {cs : Cells} {H : Hp} {as : List Addr} {a : Addr} {vs : List V} (w : Wf mg g cs H as) (h : g.F a = some (.tup vs)) : SqT K H a vs := .inl (w.see a _ h).rd
theorem seen_lst {mg : Mg} {K : PySem.W.Frag} {g : Gh} {cs : Cells} {H : Hp} {as : List Addr} {a : Addr} {vs : List V} (w : Wf mg g cs H as) (h : g.F a = some (.lst vs)) : SqL K H a vs := .inl (w.see a _ h).rd
theorem kl_sq {mg : Mg} {g : Gh} {cs : Cells} {H : Hp} {as : List Addr} {a : Addr} {vs : List V} (w : Wf mg g cs H as) (h : KL g.mg.K a vs) : SqL mg.K H a vs := .inr (by rw [← w.mg]; exact h)
theorem gm_tup {k n : Nat} (hc : X.calm = true) (h : Gsm X es ts vs) (hl : ∀ ds env env', ts ds env = some env' → ds.length = n) (hn : (assignEach es X.env).length = n := by rfl) (hst : (assignEach es X.env).findIdx? (·.1) = none := by rfl) : Gm X (.Tuple es k pos) (tgTup ts) vs :=
  ⟨pg_imp (pg_tup hc h.run hn hst) fun v σ H Q ⟨g, cs, env, as, d, env', w, ev, r, h, k⟩ => by
    cases r with
    | @tup a xs ds hF rl => exact ⟨a, xs, rfl, seen_tup w hF, by rw [← rl.len]; exact hl ds env env' h, g, cs, env, as, ds, env', w, ev, rl, h, k⟩
    | _ => cases h⟩
end
theorem tgNil_len : ∀ ds env env', tgNil ds env = some env' → ds.length = 0
  | [], _, _, _ => rfl
  | _ :: _, _, _, h => nomatch h
theorem tgCons_len {t : TgM} {ts : List D → Ev → Option Ev} {n : Nat} (h : ∀ ds env env', ts ds env = some env' → ds.length = n) : ∀ ds env env', tgCons t ts ds env = some env' → ds.length = n + 1
  | [], _, _, h => nomatch h
  | d :: ds, env, env', q => by
    have q : (match t d env with | some env => ts ds env | none => none) = some env' := q
    split at q
    · exact congrArg Nat.succ (h _ _ _ q)
    · cases q
/-! ### what is walked -/
/-- at the turn i: the iterator yields a thing that stands for ds[i] -/
def LkK (g : Gh) (H H1 : Hp) : Prop := ∀ a o u, g.F a = some u → H a = some (.frz o u) → H1 a = some (.frz o u)
theorem LkK.refl (g : Gh) (H : Hp) : LkK g H H := fun _ _ _ _ h => h
theorem LkK.of {mg : Mg} {g g' : Gh} {cs : Cells} {H H' : Hp} {as : List Addr} (w : Wf mg g cs H as) (a : Adv g g' H H' as) : LkK g H H' := fun x o u hF h =>
  a.keep x _ h (fun z => by rw [w.sepL x z] at hF; cases hF) fun z => by rw [(w.sep x z).1] at hF; cases hF
theorem LkK.trans {g g' : Gh} {H H' H'' : Hp} (l : g.Le g') (k : LkK g H H') (k' : LkK g' H' H'') : LkK g H H'' := fun x o u hF h => k' x o u (l.F x u hF) (k x o u hF h)
def WI (mg : Mg) (J : It) (g : Gh) (H : Hp) (ds : List D) : Prop :=
  ∀ (i : Nat) (g1 : Gh) (cs1 : Cells) (H1 : Hp) (as1 : List Addr), g.Le g1 → LkK g H H1 → Wf mg g1 cs1 H1 as1 →
    (∀ d, ds[i]? = some d → J.go i H1 ∧ ∀ x H', J.yld i H1 x H' → ∃ g2, Adv g1 g2 H1 H' [] ∧ Wf mg g2 cs1 H' as1 ∧ Rep g2 d x) ∧ (ds[i]? = none → J.stop i H1)
def tI (mg : Mg) (m : LM) (W : WX) : TI := fun σ H R => ∃ g cs env as, Wf mg g cs H as ∧ EnvR g H env σ as ∧
  (match m env cs with
    | .ok ds env1 cs1 => ∀ (J : It) (H1 : Hp) (g1 : Gh) (as1 : List Addr), AdvE g g1 H H1 as → Sub as1 as H → Wf mg g1 cs1 H1 as1 → EnvR g1 H1 env1 σ as1 → WI mg J g1 H1 ds → R J H1
    | .exc x env1 cs1 => ∀ (cls : Value) (d : Option Addr) (H1 : Hp) (g1 : Gh) (as1 : List Addr), AdvE g g1 H H1 as → Sub as1 as H → Wf mg g1 cs1 H1 as1 → EnvR g1 H1 env1 σ as1 → ExR g1 x cls d → W cls d σ H1
    | .bad => False)
structure Im (X : Cx) (tg iter : Expr) (m : LM) : Prop where
  run : ∀ W, Takes X W → PI X tg iter (tI (md X) m W)
theorem pi_imp {X : Cx} {tg e : Expr} {t t' : TI} (h : PI X tg e t) (i : ∀ σ H Q, t' σ H Q → t σ H Q) : PI X tg e t' := ⟨fun pins s σ H Q I q => h.run pins s σ H Q I (i _ _ _ q)⟩
/-- the items of a list, a tuple -/
def itemsD : D → Option (List D)
  | .lst ds => some ds
  | .tup ds => some ds
  | _ => none
def ofL (r : Option (List D)) (env : Ev) (cs : Cells) : LRes := match r with
  | some ds => .ok ds env cs
  | none => .bad
def lItems (m : XM) : LM := fun env cs => (m env cs).bindL fun d env cs => ofL (itemsD d) env cs
theorem RepL.get {g : Gh} : ∀ {ds : List D} {vs : List V} {i : Nat} {d : D}, RepL g ds vs → ds[i]? = some d → ∃ v, vs[i]? = some v ∧ Rep g d v
  | _, _, i, d, .nil, h => by simp at h
  | _, _, 0, d, .cons r _, h => by simp at h; subst h; exact ⟨_, rfl, r⟩
  | _, _, i + 1, d, .cons _ r, h => by
    obtain ⟨v, h1, h2⟩ := RepL.get (i := i) (d := d) r (by simpa using h)
    exact ⟨v, by simpa using h1, h2⟩
/-- the walk of a list or a tuple -/
def iLT (K : PySem.W.Frag) (tl : TE) : TI := fun σ H R => tl σ H fun x H1 => ∃ a, x = .ref a ∧ (((∃ xs, SqL K H1 a xs) ∧ R (Itl K a) H1) ∨ ((∃ xs, SqT K H1 a xs) ∧ R (Itt K a) H1))
theorem pi_lt {X : Cx} {tg l : Expr} {tl : TE} (hl : PE X l tl) : PI X tg l (iLT X.K tl) := by
  refine ⟨fun pins s σ H R I h => ?_⟩
  refine thn (hl.run pins s σ H _ I h) fun v s1 ⟨x, H1, I1, r1, q1⟩ => ?_
  obtain ⟨a, e, q⟩ := q1
  subst e
  cases r1
  rcases q with ⟨⟨xs, hq⟩, q⟩ | ⟨⟨xs, hq⟩, q⟩
  · obtain ⟨its, rv, p, hz⟩ := I1.list hq
    refine wpAny_pyIter_list p.isList ?_
    refine ⟨s1.heap.objs.size, [s1.heap.objs.size], _, _, H1, rfl, I1.kept (t' := s1.toks) fun b o e => Heap.get?_push_of_some _ e, turn_list a _, ⟨_, Heap.get?_push_size _ rfl, rfl, rfl⟩, fun b hb => ?_, q⟩
    have e : b = s1.heap.objs.size := by simpa using hb
    subst e
    exact I1.fpOk (Nat.le_refl _) (I1.hok.fresh (Nat.le_refl _))
  · obtain ⟨its, rv, p, hz⟩ := I1.tuple hq
    refine wpAny_pyIter_tuple (show s1.heap.IsTuple a its.toArray from p) ?_
    refine ⟨s1.heap.objs.size, [s1.heap.objs.size], _, _, H1, rfl, I1.kept (t' := s1.toks) fun b o e => Heap.get?_push_of_some _ e, turn_tuple a _, ⟨_, Heap.get?_push_size _ rfl, rfl, rfl⟩, fun b hb => ?_, q⟩
    have e : b = s1.heap.objs.size := by simpa using hb
    subst e
    exact I1.fpOk (Nat.le_refl _) (I1.hok.fresh (Nat.le_refl _))
theorem wi_list {mg : Mg} {K : PySem.W.Frag} {g : Gh} {H : Hp} {a : Addr} {vs : List V} {ds : List D} (h : g.F a = some (.lst vs)) (r : RepL g ds vs) : WI mg (Itl K a) g H ds := fun i g1 cs1 H1 as1 le _ w => by
  have hs : SqL K H1 a vs := seen_lst w (le.F _ _ h)
  refine ⟨fun d hd => ?_, fun hd => ⟨vs, hs, by rw [← r.len]; exact List.getElem?_eq_none_iff.mp hd⟩⟩
  obtain ⟨v, hv, rv⟩ := r.get hd
  exact ⟨⟨vs, v, hs, hv⟩, fun x H' ⟨e, hy⟩ => by
    subst e
    have e2 := hy vs hs
    rw [hv] at e2; cases e2
    exact ⟨g1, .refl _ _ _, w, rv.mono le⟩⟩
theorem wi_tup {mg : Mg} {K : PySem.W.Frag} {g : Gh} {H : Hp} {a : Addr} {vs : List V} {ds : List D} (h : g.F a = some (.tup vs)) (r : RepL g ds vs) : WI mg (Itt K a) g H ds := fun i g1 cs1 H1 as1 le _ w => by
  have hs : SqT K H1 a vs := seen_tup w (le.F _ _ h)
  refine ⟨fun d hd => ?_, fun hd => ⟨vs, hs, by rw [← r.len]; exact List.getElem?_eq_none_iff.mp hd⟩⟩
  obtain ⟨v, hv, rv⟩ := r.get hd
  exact ⟨⟨vs, v, hs, hv⟩, fun x H' ⟨e, hy⟩ => by
    subst e
    have e2 := hy vs hs
    rw [hv] at e2; cases e2
    exact ⟨g1, .refl _ _ _, w, rv.mono le⟩⟩
theorem Gh.Le.trans {a b c : Gh} (h : a.Le b) (k : b.Le c) : a.Le c := ⟨fun x u z => k.F x u (h.F x u z), let ⟨l, e⟩ := h.L; let ⟨m, e'⟩ := k.L; ⟨l ++ m, by rw [e', e, List.append_assoc]⟩, k.mg.trans h.mg⟩
section
variable {X : Cx} {tg it : Expr} {m : XM}
theorem im_items (h : Em X it m) : Im X tg it (lItems m) := ⟨fun W tk => pi_imp (pi_lt (h.run W tk)) fun σ H R ⟨g, cs, env, as, w, ev, f⟩ => by
  refine ⟨g, cs, env, as, w, ev, ?_⟩
  unfold lItems at f
  cases q : m env cs with
  | ok o env1 cs1 =>
    rw [q] at f
    intro v H1 g1 as1 bs a s w1 e1 r n
    obtain ⟨g2, G, rp⟩ := got_freeze a s w1 e1 r n
    have f : (match ofL (itemsD (frz o)) env1 cs1 with
      | .ok ds env1 cs1 => ∀ (J : It) (H1 : Hp) (g1 : Gh) (as1 : List Addr), AdvE g g1 H H1 as → Sub as1 as H → Wf (md X) g1 cs1 H1 as1 → EnvR g1 H1 env1 σ as1 → WI (md X) J g1 H1 ds → R J H1
      | .exc x env1 cs1 => ∀ (cls : Value) (d : Option Addr) (H1 : Hp) (g1 : Gh) (as1 : List Addr), AdvE g g1 H H1 as → Sub as1 as H → Wf (md X) g1 cs1 H1 as1 → EnvR g1 H1 env1 σ as1 → ExR g1 x cls d → W cls d σ H1
      | .bad => False) := f
    generalize frz o = dd at rp f
    cases rp with
    | @lst a vs ds hF rl => exact ⟨a, rfl, .inl ⟨⟨vs, seen_lst G.wf hF⟩, f _ H1 g2 as1 G.adv G.sub G.wf G.env (wi_list hF rl)⟩⟩
    | @tup a vs ds hF rl => exact ⟨a, rfl, .inr ⟨⟨vs, seen_tup G.wf hF⟩, f _ H1 g2 as1 G.adv G.sub G.wf G.env (wi_tup hF rl)⟩⟩
    | _ => exact f.elim
  | exc x env1 cs1 => rw [q] at f; exact f
  | bad => rw [q] at f; exact f⟩
end
/-- range(j), range(i, j) -/
def rngD (lo : Int) (n : Nat) : List D := (List.range n).map fun i => .int (lo + (i : Nat))
def lRng1 (m : LM) : LM := fun env cs => (m env cs).bindL fun ds env cs => match ds with
  | [.int j] => if -(2 ^ 62) ≤ j ∧ j < 2 ^ 62 then .ok (rngD 0 j.toNat) env cs else .bad
  | _ => .bad
def lRng2 (m : LM) : LM := fun env cs => (m env cs).bindL fun ds env cs => match ds with
  | [.int i, .int j] => if -(2 ^ 62) ≤ i ∧ i < 2 ^ 62 ∧ -(2 ^ 62) ≤ j ∧ j < 2 ^ 62 then .ok (rngD i (j - i).toNat) env cs else .bad
  | _ => .bad
theorem wi_rng {mg : Mg} {g : Gh} {H : Hp} {lo : Int} {n : Nat} : WI mg (Itr lo n) g H (rngD lo n) := fun i g1 cs1 H1 as1 le _ w => by
  refine ⟨fun d hd => ?_, fun hd => ?_⟩
  · unfold rngD at hd
    rw [List.getElem?_map] at hd
    by_cases hi : i < n
    · rw [List.getElem?_range hi] at hd
      cases hd
      exact ⟨hi, fun x H' ⟨e, hx⟩ => by subst e; subst hx; exact ⟨g1, .refl _ _ _, w, .int⟩⟩
    · rw [List.getElem?_eq_none (by simpa using hi)] at hd; cases hd
  · unfold rngD at hd
    have := List.getElem?_eq_none_iff.mp hd
    exact (by simpa using this : n ≤ i)
section
variable {X : Cx} {tg a b : Expr} {m : LM} {p pos : Pos}
theorem im_rng1 (hm : X.mg "range" = none) (ha : Am X [a] m) (hg : Gl X "range" := by rfl) (hs : starEach [a] X.env = [(false, eval a X.env)] := by rfl) : Im X tg (.Call (.Name "range" p) [a] [] pos) (lRng1 m) :=
  ⟨fun W tk => pi_imp (pi_range1 hg hm (ha.run W tk) hs) fun σ H R ⟨g, cs, env, as, w, ev, f⟩ => by
    refine ⟨g, cs, env, as, w, ev, ?_⟩
    unfold lRng1 at f
    cases q : m env cs with
    | ok ds env1 cs1 =>
      rw [q] at f
      intro vs H1 g1 as1 a s w1 e1 rl
      cases rl with
      | nil => exact f.elim
      | cons r rr =>
        cases r with
        | @int j =>
          cases rr with
          | nil =>
            have f : (match (if -(2 ^ 62) ≤ j ∧ j < 2 ^ 62 then LRes.ok (rngD 0 j.toNat) env1 cs1 else .bad) with
              | .ok ds env1 cs1 => ∀ (J : It) (H1 : Hp) (g1 : Gh) (as1 : List Addr), AdvE g g1 H H1 as → Sub as1 as H → Wf (md X) g1 cs1 H1 as1 → EnvR g1 H1 env1 σ as1 → WI (md X) J g1 H1 ds → R J H1
              | .exc x env1 cs1 => ∀ (cls : Value) (d : Option Addr) (H1 : Hp) (g1 : Gh) (as1 : List Addr), AdvE g g1 H H1 as → Sub as1 as H → Wf (md X) g1 cs1 H1 as1 → EnvR g1 H1 env1 σ as1 → ExR g1 x cls d → W cls d σ H1
              | .bad => False) := f
            by_cases hj : -(2 ^ 62) ≤ j ∧ j < 2 ^ 62
            · rw [if_pos hj] at f
              exact ⟨j, rfl, hj.1, hj.2, f _ H1 g1 as1 a s w1 e1 wi_rng⟩
            · rw [if_neg hj] at f; exact f.elim
          | cons _ _ => exact f.elim
        | _ => exact f.elim
    | exc x env1 cs1 => rw [q] at f; exact f
    | bad => rw [q] at f; exact f⟩
theorem im_rng2 (hm : X.mg "range" = none) (ha : Am X [a, b] m) (hg : Gl X "range" := by rfl) (hs : starEach [a, b] X.env = [(false, eval a X.env), (false, eval b X.env)] := by rfl) (hs2 : starEach [b] X.env = [(false, eval b X.env)] := by rfl) : Im X tg (.Call (.Name "range" p) [a, b] [] pos) (lRng2 m) :=
  ⟨fun W tk => pi_imp (pi_range2 hg hm (ha.run W tk) hs hs2) fun σ H R ⟨g, cs, env, as, w, ev, f⟩ => by
    refine ⟨g, cs, env, as, w, ev, ?_⟩
    unfold lRng2 at f
    cases q : m env cs with
    | ok ds env1 cs1 =>
      rw [q] at f
      intro vs H1 g1 as1 a s w1 e1 rl
      cases rl with
      | nil => exact f.elim
      | cons r rr =>
        cases r with
        | @int i =>
          cases rr with
          | nil => exact f.elim
          | cons r2 rr =>
            cases r2 with
            | @int j =>
              cases rr with
              | nil =>
                have f : (match (if -(2 ^ 62) ≤ i ∧ i < 2 ^ 62 ∧ -(2 ^ 62) ≤ j ∧ j < 2 ^ 62 then LRes.ok (rngD i (j - i).toNat) env1 cs1 else .bad) with
                  | .ok ds env1 cs1 => ∀ (J : It) (H1 : Hp) (g1 : Gh) (as1 : List Addr), AdvE g g1 H H1 as → Sub as1 as H → Wf (md X) g1 cs1 H1 as1 → EnvR g1 H1 env1 σ as1 → WI (md X) J g1 H1 ds → R J H1
                  | .exc x env1 cs1 => ∀ (cls : Value) (d : Option Addr) (H1 : Hp) (g1 : Gh) (as1 : List Addr), AdvE g g1 H H1 as → Sub as1 as H → Wf (md X) g1 cs1 H1 as1 → EnvR g1 H1 env1 σ as1 → ExR g1 x cls d → W cls d σ H1
                  | .bad => False) := f
                by_cases hj : -(2 ^ 62) ≤ i ∧ i < 2 ^ 62 ∧ -(2 ^ 62) ≤ j ∧ j < 2 ^ 62
                · rw [if_pos hj] at f
                  exact ⟨i, j, rfl, hj, f _ H1 g1 as1 a s w1 e1 wi_rng⟩
                · rw [if_neg hj] at f; exact f.elim
              | cons _ _ => exact f.elim
            | _ => exact f.elim
        | _ => exact f.elim
    | exc x env1 cs1 => rw [q] at f; exact f
    | bad => rw [q] at f; exact f⟩
end
/-! ### for, while -/
def forGo (t : TgM) (b : SM) : List D → Ev → Cells → SRes
  | [], env, cs => .nx env cs
  | d :: r, env, cs => match t d env with
    | none => .bad
    | some env1 => match b env1 cs with
      | .nx env2 cs2 => forGo t b r env2 cs2
      | .cnt env2 cs2 => forGo t b r env2 cs2
      | .brk env2 cs2 => .nx env2 cs2
      | x => x
def sFor (mi : LM) (t : TgM) (b : SM) : SM := fun env cs => (mi env cs).bindS fun ds env cs => forGo t b ds env cs
def whileGo (c : XM) (b : SM) : Nat → Ev → Cells → SRes
  | 0, _, _ => .bad
  | n + 1, env, cs => (c env cs).bindS fun d env cs => match d with
    | .bl true => match b env cs with
      | .nx env2 cs2 => whileGo c b n env2 cs2
      | .cnt env2 cs2 => whileGo c b n env2 cs2
      | .brk env2 cs2 => .nx env2 cs2
      | x => x
    | .bl false => .nx env cs
    | _ => .bad
section
variable {X : Cx} {tg it c : Expr} {body : List Stmt} {mi : LM} {t : TgM} {mb : SM} {mc : XM} {pos : Pos}
theorem sm_for (hp : PassesOwn (model X.prog X.w) X.A X.env X.xe) (hc : X.calm = true) (hi : Im X tg it mi) {vs : List Nat} (hg : Gm X tg t vs) (hb : Bm X body mb) (hs : ∀ x, foldedSetIterable it X.env x = pure x := by intro _; rfl) : Sm X (.For tg it body [] pos) (sFor mi t mb) :=
  ⟨fun W tk => ps_imp (ps_for hp hc (hi.run W tk) hg.run (hb.run W tk) hs) fun D σ H ⟨g, cs, env, as, w, ev, f⟩ => by
    refine ⟨g, cs, env, as, w, ev, ?_⟩
    unfold sFor at f
    cases q : mi env cs with
    | exc x env1 cs1 => rw [q] at f; exact fun c d H g as a s w e r => f c d σ H g as a.toAdv s w e r
    | bad => rw [q] at f; exact f
    | ok ds env1 cs1 =>
      rw [q] at f
      intro J H1 g1 as1 a1 s1 w1 e1 wi
      have f0 : FinS (md X) g1 H1 as1 W D (forGo t mb ds env1 cs1) := FinS.rebase a1.toAdv s1 f
      refine ⟨fun i m σ2 H2 => m = ds.length - i ∧ i ≤ ds.length ∧ ∃ g2 cs2 env2 as2, Adv g1 g2 H1 H2 as1 ∧ Sub as2 as1 H1 ∧ Wf (md X) g2 cs2 H2 as2 ∧ EnvR g2 H2 env2 σ2 as2 ∧ FinS (md X) g2 H2 as2 W D (forGo t mb (ds.drop i) env2 cs2),
        ⟨ds.length, by simp, Nat.zero_le _, g1, cs1, env1, as1, .refl _ _ _, .refl _ _, w1, e1, by simpa using f0⟩, ?_⟩
      rintro i m σ2 H2 ⟨rfl, hi, g2, cs2, env2, as2, le, su2, w2, e2, f2⟩
      obtain ⟨k1, k2⟩ := wi i g2 cs2 H2 as2 le.le (.of w1 le) w2
      by_cases hlt : i < ds.length
      · have hd : ds[i]? = some ds[i] := List.getElem?_eq_getElem hlt
        obtain ⟨go, yl⟩ := k1 _ hd
        refine .inr ⟨go, fun σ' H' => ∃ g3 cs3 env3 as3, Adv g1 g3 H1 H' as1 ∧ Sub as3 as1 H1 ∧ Wf (md X) g3 cs3 H' as3 ∧ EnvR g3 H' env3 σ' as3 ∧ FinS (md X) g3 H' as3 W D (forGo t mb (ds.drop (i + 1)) env3 cs3), fun σ' H' z => ⟨ds.length - (i + 1), by omega, rfl, hlt, z⟩, fun x H' y => ?_⟩
        obtain ⟨g3, a3, w3, r3⟩ := yl x H' y
        have e3 := e2.keep w2 a3
        rw [List.drop_eq_getElem_cons hlt] at f2
        unfold forGo at f2
        cases qt : t ds[i] env2 with
        | none => rw [qt] at f2; exact f2.elim
        | some env3 =>
          rw [qt] at f2
          refine ⟨g3, cs2, env2, as2, ds[i], env3, w3, e3, r3, qt, fun σ4 as4 w4 e4 su _ => ?_⟩
          refine ⟨g3, cs2, env3, as4, w4, e4, ?_⟩
          have f4 := FinS.rebase (a3.weak (as := as2)) (as1 := as4) (fun x hx => .inl (su x hx)) f2
          have le3 : Adv g1 g3 H1 H' as1 := le.trans su2 a3.weak
          have su4 : Sub as4 as1 H1 := fun x hx => su2 x (su x hx)
          cases qb : mb env3 cs2 with
          | nx env5 cs5 =>
            dsimp only at f4
            rw [qb] at f4
            exact fun σ5 H5 g5 as5 a5 s5 w5 e5 => ⟨g5, cs5, env5, as5, le3.trans su4 a5, su4.trans (fun _ => le3.none) s5, w5, e5, FinS.rebase a5 s5 f4⟩
          | cnt env5 cs5 =>
            dsimp only at f4
            rw [qb] at f4
            exact fun σ5 H5 g5 as5 a5 s5 w5 e5 => ⟨g5, cs5, env5, as5, le3.trans su4 a5, su4.trans (fun _ => le3.none) s5, w5, e5, FinS.rebase a5 s5 f4⟩
          | brk env5 cs5 => dsimp only at f4; rw [qb] at f4; exact f4
          | ret o env5 cs5 => dsimp only at f4; rw [qb] at f4; exact f4
          | exc o env5 cs5 => dsimp only at f4; rw [qb] at f4; exact f4
          | bad => dsimp only at f4; rw [qb] at f4; exact f4
      · have e : i = ds.length := by omega
        subst e
        rw [List.drop_length] at f2
        exact .inl ⟨k2 (List.getElem?_eq_none (Nat.le_refl _)), f2.now w2 e2⟩⟩
theorem sm_while (fuel : Nat) (hp : PassesOwn (model X.prog X.w) X.A X.env X.xe) (hc : Tm X c mc) (hb : Bm X body mb) : Sm X (.While c body [] pos) (whileGo mc mb fuel) :=
  ⟨fun W tk => ps_imp (ps_while hp (hc.run W tk) (hb.run W tk)) fun D σ H ⟨g, cs, env, as, w, ev, f⟩ => by
    refine ⟨fun n σ H => ∃ g cs env as, Wf (md X) g cs H as ∧ EnvR g H env σ as ∧ FinS (md X) g H as W D (whileGo mc mb n env cs), ⟨fuel, g, cs, env, as, w, ev, f⟩, ?_⟩
    rintro n σ1 H1 ⟨g1, cs1, env1, as1, w1, e1, f1⟩
    cases n with
    | zero => exact f1.elim
    | succ n =>
      unfold whileGo at f1
      refine ⟨g1, cs1, env1, as1, w1, e1, (Fin.bindS f1).imp fun v H2 ⟨g2, cs2, env2, as2, d, G, rp, f2⟩ => ?_⟩
      cases rp with
      | @bl k =>
        refine ⟨k, rfl, ?_⟩
        cases k with
        | false => rw [if_neg Bool.false_ne_true]; exact f2.now G.wf G.env
        | true =>
          rw [if_pos rfl]
          refine ⟨fun σ H => ∃ g cs env as, Wf (md X) g cs H as ∧ EnvR g H env σ as ∧ FinS (md X) g H as W D (whileGo mc mb n env cs), fun σ' H' z => ⟨n, Nat.lt_succ_self n, z⟩, g2, cs2, env2, as2, G.wf, G.env, ?_⟩
          cases qb : mb env2 cs2 with
          | nx env5 cs5 =>
            dsimp only at f2
            rw [qb] at f2
            exact fun σ5 H5 g5 as5 a5 s5 w5 e5 => ⟨g5, cs5, env5, as5, w5, e5, FinS.rebase a5 s5 f2⟩
          | cnt env5 cs5 =>
            dsimp only at f2
            rw [qb] at f2
            exact fun σ5 H5 g5 as5 a5 s5 w5 e5 => ⟨g5, cs5, env5, as5, w5, e5, FinS.rebase a5 s5 f2⟩
          | brk env5 cs5 => dsimp only at f2; rw [qb] at f2; exact f2
          | ret o env5 cs5 => dsimp only at f2; rw [qb] at f2; exact f2
          | exc o env5 cs5 => dsimp only at f2; rw [qb] at f2; exact f2
          | bad => dsimp only at f2; rw [qb] at f2; exact f2
      | _ => exact f2.elim⟩
end
end GM
namespace GM
open PySem PySem.Spec L2
/-! ### a heap that grows by one object; an owned object that changes -/
theorem Wf.alloc {mg : Mg} {g : Gh} {cs : Cells} {H : Hp} {as : List Addr} {p : Addr} {o : HO} (w : Wf mg g cs H as) (h : H p = none) : Wf mg g cs (upd H p o) (p :: as) := by
  have ne : ∀ {a : Addr}, H a ≠ none → a ≠ p := fun {a} z e => z (by rw [e]; exact h)
  refine ⟨w.mg, fun a u q => ?_, w.len, w.ndL, w.sepL, fun i c a h1 h2 => (w.cell i c a h1 h2).mono (.refl g) (upd_ne (ne (w.ldom (List.mem_of_getElem? h2)))), List.nodup_cons.mpr ⟨w.newA h, w.nd⟩, fun a ha => ?_⟩
  · have r := w.see a u q
    have n := ne (rd_dom r)
    rcases r with r | ⟨i, o', r⟩
    · exact .inl (by rw [upd_ne n]; exact r)
    · exact .inr ⟨i, o', by rw [upd_ne n]; exact r⟩
  · rcases List.mem_cons.mp ha with e | ha
    · subst e
      exact ⟨w.fdom h, w.newL h, by rw [upd_same]; exact fun z => nomatch z⟩
    · obtain ⟨h1, h2, h3⟩ := w.sep a ha
      exact ⟨h1, h2, by rw [upd_ne (ne h3)]; exact h3⟩
theorem adv_alloc {g : Gh} {H : Hp} {p : Addr} {o : HO} {as : List Addr} (h : H p = none) : AdvE g g H (upd H p o) as :=
  ⟨⟨fun _ _ q => q, ⟨[], (List.append_nil _).symm, fun _ z => nomatch z⟩, rfl, fun a u q _ _ => by rw [upd_ne fun e => by rw [e, h] at q; cases q]; exact q, fun a u q => .inl q, fun a q => by
    by_cases e : a = p
    · subst e; exact absurd h q
    · rw [upd_ne e]; exact q⟩, fun a u q _ => by rw [upd_ne fun e => by rw [e, h] at q; cases q]; exact q⟩
theorem Wf.put {mg : Mg} {g : Gh} {cs : Cells} {H : Hp} {as : List Addr} {p : Addr} {o : HO} (w : Wf mg g cs H as) (h : p ∈ as) : Wf mg g cs (upd H p o) as := by
  obtain ⟨pF, pL, _⟩ := w.sep p h
  refine ⟨w.mg, fun a u q => ?_, w.len, w.ndL, w.sepL, fun i c a h1 h2 => (w.cell i c a h1 h2).mono (.refl g) (upd_ne fun e => pL (e ▸ List.mem_of_getElem? h2)), w.nd, fun a ha => ?_⟩
  · have n : a ≠ p := fun e => by rw [e, pF] at q; cases q
    rcases w.see a u q with r | ⟨i, o', r⟩
    · exact .inl (by rw [upd_ne n]; exact r)
    · exact .inr ⟨i, o', by rw [upd_ne n]; exact r⟩
  · obtain ⟨h1, h2, h3⟩ := w.sep a ha
    refine ⟨h1, h2, ?_⟩
    by_cases e : a = p
    · subst e; rw [upd_same]; exact fun z => nomatch z
    · rw [upd_ne e]; exact h3
theorem adv_put {g : Gh} {H : Hp} {p : Addr} {o : HO} {as : List Addr} (h : p ∈ as) : Adv g g H (upd H p o) as :=
  ⟨fun _ _ q => q, ⟨[], (List.append_nil _).symm, fun _ z => nomatch z⟩, rfl, fun a u q _ n => by rw [upd_ne fun e => n (by rw [e]; exact h)]; exact q, fun a u q => .inl q, fun a q => by
    by_cases e : a = p
    · subst e; rw [upd_same]; exact fun z => nomatch z
    · rw [upd_ne e]; exact q⟩
/-- things held beside, through a step -/
theorem Wf.carry {mg : Mg} {g g' : Gh} {cs cs' : Cells} {H H' : Hp} {ts as as' : List Addr} (w : Wf mg g cs H (ts ++ as)) (a : Adv g g' H H' as) (s : Sub as' as H) (w' : Wf mg g' cs' H' as') : Wf mg g' cs' H' (ts ++ as') := by
  have nd := List.nodup_append.mp w.nd
  have sep : ∀ t ∈ ts, g.F t = none ∧ t ∉ g.L ∧ H t ≠ none := fun t ht => w.sep t (List.mem_append_left _ ht)
  refine ⟨w'.mg, w'.see, w'.len, w'.ndL, w'.sepL, w'.cell, List.nodup_append.mpr ⟨nd.1, w'.nd, fun x hx y hy e => ?_⟩, fun x hx => ?_⟩
  · subst e
    rcases s x hy with z | z
    · exact nd.2.2 x hx x z rfl
    · exact (sep x hx).2.2 z
  · rcases List.mem_append.mp hx with hx | hx
    · obtain ⟨h1, h2, h3⟩ := sep x hx
      refine ⟨?_, fun z => ?_, a.dom x h3⟩
      · cases q : g'.F x with
        | none => rfl
        | some u =>
          rcases a.new x u q with z | z | z
          · rw [h1] at z; cases z
          · exact absurd rfl (nd.2.2 x hx x z)
          · exact absurd z h3
      · obtain ⟨l, e, nl⟩ := a.L
        rw [e] at z
        rcases List.mem_append.mp z with z | z
        · exact h2 z
        · exact h3 (nl x z)
    · exact w'.sep x hx
theorem carry_keep {mg : Mg} {g g' : Gh} {cs : Cells} {H H' : Hp} {ts as : List Addr} (w : Wf mg g cs H (ts ++ as)) (a : Adv g g' H H' as) : ∀ t ∈ ts, H' t = H t := fun t ht => by
  obtain ⟨h1, h2, h3⟩ := w.sep t (List.mem_append_left _ ht)
  cases q : H t with
  | none => exact absurd q h3
  | some u => exact a.keep t u q h2 fun z => (List.nodup_append.mp w.nd).2.2 t ht t z rfl
/-! ### slots put aside -/
def wipeE (env : Ev) : List Nat → Ev
  | [] => env
  | v :: vs => (wipeE env vs).set v none
theorem EnvR.setNone {mg : Mg} {g : Gh} {cs : Cells} {H : Hp} {env : Ev} {σ : St} {as : List Addr} (r : EnvR g H env σ as) (w : Wf mg g cs H as) (i : Nat) (x : Option V) : ∃ as', EnvR g H (env.set i none) (σ.set i x) as' ∧ Wf mg g cs H as' ∧ ∀ a ∈ as', a ∈ as := by
  have key : ∀ {env : Ev} {σ : St} {as : List Addr}, EnvR g H env σ as → ∀ i, ∃ as', EnvR g H (env.set i none) (σ.set i x) as' ∧ as'.Sublist as := by
    intro env σ as r
    induction r with
    | nil => exact fun i => ⟨[], .nil, .refl _⟩
    | emp r ih =>
      intro i
      cases i with
      | zero => exact ⟨_, .emp r, .refl _⟩
      | succ i => obtain ⟨as', q, s⟩ := ih i; exact ⟨as', .emp q, s⟩
    | @val o v es σ as bs r0 r ih =>
      intro i
      cases i with
      | zero => exact ⟨_, .emp r, List.sublist_append_right _ _⟩
      | succ i => obtain ⟨as', q, s⟩ := ih i; exact ⟨bs ++ as', .val r0 q, (List.Sublist.refl bs).append s⟩
  obtain ⟨as', q, s⟩ := key r i
  exact ⟨as', q, w.sub (w.nd.sublist s) fun a h => s.subset h, fun a h => s.subset h⟩
theorem EnvR.wipe {mg : Mg} {g : Gh} {cs : Cells} {H : Hp} {env : Ev} {σ : St} {as : List Addr} (r : EnvR g H env σ as) (w : Wf mg g cs H as) : ∀ vs : List Nat, ∃ as', EnvR g H (wipeE env vs) (L2.wipe σ vs) as' ∧ Wf mg g cs H as' ∧ ∀ a ∈ as', a ∈ as
  | [] => ⟨as, r, w, fun _ h => h⟩
  | v :: vs => by
    obtain ⟨as1, r1, w1, s1⟩ := r.wipe w vs
    obtain ⟨as2, r2, w2, s2⟩ := r1.setNone w1 v none
    exact ⟨as2, r2, w2, fun a h => s1 a (s2 a h)⟩
theorem EnvR.other {g : Gh} {H : Hp} {env : Ev} {σ : St} {as : List Addr} (r : EnvR g H env σ as) : ∀ {σ' : St}, σ'.length = σ.length → (∀ (j : Nat) (o : O), env[j]? = some (some o) → σ'[j]? = σ[j]?) → EnvR g H env σ' as := by
  induction r with
  | nil => intro σ' hl h; cases σ' with
    | nil => exact .nil
    | cons _ _ => simp at hl
  | @emp x es σ as r ih =>
    intro σ' hl h
    cases σ' with
    | nil => simp at hl
    | cons y σ' => exact .emp (ih (by simpa using hl) fun j o q => by simpa using h (j + 1) o (by simpa using q))
  | @val o v es σ as bs r0 r ih =>
    intro σ' hl h
    cases σ' with
    | nil => simp at hl
    | cons y σ' =>
      have e := h 0 o (by simp)
      simp at e
      subst e
      exact .val r0 (ih (by simpa using hl) fun j o q => by simpa using h (j + 1) o (by simpa using q))
theorem wipeE_at {env : Ev} {j : Nat} {o : O} : ∀ {vs : List Nat}, (wipeE env vs)[j]? = some (some o) → j ∉ vs
  | [], _ => by simp
  | v :: vs, h => by
    have h : ((wipeE env vs).set v none)[j]? = some (some o) := h
    by_cases e : v = j
    · subst e
      rw [List.getElem?_set_self'] at h
      cases q : (wipeE env vs)[v]? with
      | none => rw [q] at h; cases h
      | some _ => rw [q] at h; cases h
    · rw [List.getElem?_set_ne e] at h
      exact fun z => (List.mem_cons.mp z).elim (fun z => e z.symm) (wipeE_at h)
theorem wipe_off {σ : St} {j : Nat} : ∀ {vs : List Nat}, j ∉ vs → (L2.wipe σ vs)[j]? = σ[j]?
  | [], _ => rfl
  | v :: vs, h => by
    show ((L2.wipe σ vs).set v none)[j]? = σ[j]?
    rw [List.getElem?_set_ne fun e => h (by simp [e])]
    exact wipe_off fun z => h (List.mem_cons_of_mem _ z)
theorem wipe_on {σ : St} {j : Nat} : ∀ {vs : List Nat}, j ∈ vs → j < σ.length → (L2.wipe σ vs)[j]? = some none
  | v :: vs, h, hl => by
    show ((L2.wipe σ vs).set v none)[j]? = some none
    by_cases e : v = j
    · subst e
      rw [List.getElem?_set_self (by rw [wipe_length]; exact hl)]
    · rw [List.getElem?_set_ne e]
      rcases List.mem_cons.mp h with z | z
      · exact absurd z.symm e
      · exact wipe_on z hl
theorem wipe_eq {σ σ' : St} {vs ws : List Nat} (o : Off ws (L2.wipe σ vs) σ') (h : ∀ j ∈ ws, j ∈ vs) : L2.wipe σ' vs = L2.wipe σ vs := by
  have hl : σ'.length = σ.length := by rw [o.1, wipe_length]
  apply List.ext_getElem?
  intro j
  by_cases hj : j ∈ vs
  · by_cases hz : j < σ.length
    · rw [wipe_on hj (by rw [hl]; exact hz), wipe_on hj hz]
    · rw [List.getElem?_eq_none (by rw [wipe_length, hl]; omega), List.getElem?_eq_none (by rw [wipe_length]; omega)]
  · rw [wipe_off hj, o.2 j fun z => hj (h j z)]
theorem EnvR.unwipe {g : Gh} {H : Hp} {env : Ev} {σ : St} {as : List Addr} {vs : List Nat} (r : EnvR g H (wipeE env vs) (L2.wipe σ vs) as) : EnvR g H (wipeE env vs) σ as :=
  r.other (wipe_length σ vs).symm fun j o h => (wipe_off (wipeE_at h)).symm
/-! ### comprehensions -/
theorem line_le {n : Nat} (h : n ≤ 1000000) : n < sizeLine := by rw [sizeLine_eq]; omega
inductive ARes where | ok (acc : List O) (env : Ev) (cs : Cells) | bad
def lcGo (vs : List Nat) (t : TgM) (c e : XM) : List D → Ev → Cells → List O → ARes
  | [], env, cs, acc => .ok acc env cs
  | d :: ds, env, cs, acc => match t d (wipeE env vs) with
    | none => .bad
    | some env1 => match c env1 cs with
      | .ok o env2 cs2 => match frz o with
        | .bl true => match e env2 cs2 with
          | .ok y env3 cs3 => lcGo vs t c e ds env3 cs3 (acc ++ [y])
          | _ => .bad
        | .bl false => lcGo vs t c e ds env2 cs2 acc
        | _ => .bad
      | _ => .bad
def xLc (mi : LM) (vs : List Nat) (t : TgM) (c e : XM) : XM := fun env cs => (mi env cs).bind fun ds env cs => if ds.length ≤ 1000000 then match lcGo vs t c e ds env cs [] with
    | .ok acc env cs => .ok (.ol acc) (wipeE env vs) cs
    | .bad => .bad
  else .bad
theorem RepOL.app {g : Gh} {H : Hp} {os : List O} {vs : List V} {as bs : List Addr} {o : O} {v : V} (r : RepOL g H os vs as) (q : RepO g H o v bs) : RepOL g H (os ++ [o]) (vs ++ [v]) (as ++ bs) := by
  have key : ∀ {os : List O} {vs : List V} {as : List Addr}, RepOL g H os vs as → RepOL g H (os ++ [o]) (vs ++ [v]) (as ++ bs) := by
    intro os
    induction os with
    | nil =>
      intro vs as r
      cases r
      have z := RepOL.cons q .nil
      rw [List.append_nil] at z
      exact z
    | cons o' os ih =>
      intro vs as r
      cases r with
      | cons h r =>
        rw [List.append_assoc]
        exact .cons h (ih r)
  exact key r
theorem RepOL.len {g : Gh} {H : Hp} : ∀ {os : List O} {vs : List V} {as : List Addr}, RepOL g H os vs as → os.length = vs.length
  | _, _, _, .nil => rfl
  | _, _, _, .cons _ r => congrArg Nat.succ r.len
/-- tests of a comprehension -/
structure Cm (X : Cx) (ifs : List Expr) (c : XM) : Prop where
  run : PTs X ifs (tB (tX (md X) c (fun _ _ _ _ => False)))
theorem cm_nil {X : Cx} : Cm X [] (xC (.bl true)) := ⟨⟨fun pins s σ H Q I h => pts_nil.run pins s σ H Q I (by
  obtain ⟨g, cs, env, as, w, ev, f⟩ := h
  obtain ⟨c, e, q⟩ := f (.bl true) H g as [] (.refl _ _ _) (.refl _ _) w ev (.fz .bl) fun _ z => nomatch z
  cases e
  exact q)⟩⟩
theorem cm_one {X : Cx} {e : Expr} {c : XM} (h : Tm X e c) : Cm X [e] c := ⟨pts_one (h.run _ takes0)⟩
/-- the heap while a list at p is made: what stands beside -/
structure MkE (mg : Mg) (g0 : Gh) (H0 : Hp) (as0 : List Addr) (p : Addr) (g : Gh) (cs : Cells) (H : Hp) (env : Ev) (σ : St) (as bs : List Addr) (acc : List O) : Prop where
  adv : AdvE g0 g H0 H as0
  sub : Sub as as0 H0
  wf : Wf mg g cs H ((p :: bs) ++ as)
  env : EnvR g H env σ as
  rep : RepO g H (.ol acc) (.ref p) (p :: bs)
  new : ∀ b ∈ p :: bs, H0 b = none
section
variable {mg : Mg} {g0 g g' : Gh} {H0 H H' : Hp} {as0 as as' bs : List Addr} {σ σ' : St} {p : Addr} {cs cs' : Cells} {env env' : Ev} {acc : List O}
theorem MkE.wfa (m : MkE mg g0 H0 as0 p g cs H env σ as bs acc) : Wf mg g cs H as :=
  m.wf.sub (List.nodup_append.mp m.wf.nd).2.1 fun a h => List.mem_append_right _ h
/-- a step of the making: the state moves, the list stays -/
theorem MkE.step (m : MkE mg g0 H0 as0 p g cs H env σ as bs acc) (a : AdvE g g' H H' as) (s : Sub as' as H) (w' : Wf mg g' cs' H' as') (e' : EnvR g' H' env' σ' as') : MkE mg g0 H0 as0 p g' cs' H' env' σ' as' bs acc :=
  ⟨m.adv.trans m.sub a, m.sub.trans (fun _ => m.adv.none) s, Wf.carry m.wf a.toAdv s w', e', m.rep.mono a.le (carry_keep m.wf a.toAdv), m.new⟩
theorem MkE.wipe (m : MkE mg g0 H0 as0 p g cs H env σ as bs acc) (vs : List Nat) : ∃ as', MkE mg g0 H0 as0 p g cs H (wipeE env vs) (L2.wipe σ vs) as' bs acc ∧ ∀ a ∈ as', a ∈ as := by
  obtain ⟨as', e, w, s⟩ := m.env.wipe m.wfa vs
  exact ⟨as', m.step (.refl _ _ _) (fun a h => .inl (s a h)) w e, s⟩
/-- a thing more in the list -/
theorem MkE.more {cs1 : List Addr} {y : V} {o : O} {xs : List V} (m : MkE mg g0 H0 as0 p g cs H env σ as bs acc)
    (w : Wf mg g cs H ((p :: bs) ++ (cs1 ++ as))) (r : RepO g H o y cs1) (n : ∀ b ∈ cs1, H0 b = none) (hp : H p = some (.lst xs)) : MkE mg g0 H0 as0 p g cs (upd H p (.lst (xs ++ [y]))) env σ as (bs ++ cs1) (acc ++ [o]) := by
  have hm : p ∈ (p :: bs) ++ (cs1 ++ as) := by simp
  have nd := List.nodup_append.mp w.nd
  have pnb : p ∉ bs := (List.nodup_cons.mp nd.1).1
  have pn2 : p ∉ cs1 ++ as := fun z => nd.2.2 p (by simp) p z rfl
  have ne : ∀ a, a ∈ bs ∨ a ∈ cs1 ++ as → upd H p (.lst (xs ++ [y])) a = H a := fun a ha => upd_ne fun e => by
    subst e
    rcases ha with z | z
    · exact pnb z
    · exact pn2 z
  have hw := w.put (o := .lst (xs ++ [y])) hm
  have p0 : H0 p = none := m.new p (by simp)
  refine ⟨⟨⟨m.adv.F, m.adv.L, m.adv.mg, fun a u q h1 h2 => ?_, m.adv.new, fun a q => ?_⟩, fun a u q h1 => ?_⟩, m.sub, ?_, m.env.mono (.refl g) fun a ha => ne a (.inr (List.mem_append_right _ ha)), ?_, fun b hb => ?_⟩
  · rw [upd_ne fun e => by rw [e, p0] at q; cases q]
    exact m.adv.keep a u q h1 h2
  · by_cases e : a = p
    · subst e; rw [upd_same]; exact fun z => nomatch z
    · rw [upd_ne e]; exact m.adv.dom a q
  · rw [upd_ne fun e => by rw [e, p0] at q; cases q]
    exact m.adv.own a u q h1
  · have e : (p :: (bs ++ cs1)) ++ as = (p :: bs) ++ (cs1 ++ as) := by simp
    rw [e]; exact hw
  · cases m.rep with
    | ol h rl =>
      rw [hp] at h; cases h
      exact .ol upd_same ((rl.mono (.refl g) fun a ha => ne a (.inl ha)).app (r.mono (.refl g) fun a ha => ne a (.inr (List.mem_append_left _ ha))))
  · simp only [List.mem_cons, List.mem_append] at hb
    rcases hb with e | hb | hb
    · subst e; exact p0
    · exact m.new b (by simp [hb])
    · exact n b hb
theorem mkE_start (w : Wf mg g0 cs H0 as0) (ev : EnvR g0 H0 env σ as0) (hp : H0 p = none) : MkE mg g0 H0 as0 p g0 cs (upd H0 p (.lst [])) env σ as0 [] [] :=
  ⟨adv_alloc hp, .refl _ _, w.alloc hp, ev.mono (.refl g0) fun a ha => upd_ne fun z => w.newA hp (z ▸ ha), .ol upd_same .nil, fun b hb => by simp at hb; subst hb; exact hp⟩
/-- the list goes on growing beside what is locked -/
theorem MkE.lk {xs : List V} {y : V} (m : MkE mg g0 H0 as0 p g cs H env σ as bs acc) {gw : Gh} {Hw : Hp} (l : gw.Le g) (k : LkK gw Hw H) : LkK gw Hw (upd H p (.lst (xs ++ [y]))) := fun x o u hF h => by
  rw [upd_ne fun e => ?_]
  · exact k x o u hF h
  · subst e
    have := (m.wf.sep x (by simp)).1
    rw [l.F x u hF] at this; cases this
end
def FinA (mg : Mg) (g0 : Gh) (H0 : Hp) (as0 : List Addr) (W : WX) (σ : St) (Q : VK) (vs : List Nat) : ARes → Prop
  | .ok acc env cs => Fin mg g0 H0 as0 W σ Q (.ok (.ol acc) (wipeE env vs) cs)
  | .bad => False
section
variable {X : Cx} {elt tg iter : Expr} {ifs : List Expr} {scope : Scope} {pos : Pos} {mi : LM} {t : TgM} {c e : XM} {ws : List Nat}
/-- the walk over one clause, the list at L -/
theorem lc_go {Φ : ARes → Prop} (hbad : ¬ Φ .bad) {vs : List Nat} {σb : St} {H0 H1 Hw : Hp} {mg : Mg} {g0 g1 gw : Gh} {as0 as1 bs0 : List Addr} {L : Addr} {cs1 : Cells} {env1 : Ev} {acc0 : List O} {J : It} {ds : List D} {Fi : Hp → Prop} (hws : ∀ j ∈ ws, j ∈ vs)
    (hdone : ∀ g cs H env as bs acc, MkE mg g0 H0 as0 L g cs H (wipeE env vs) (L2.wipe σb vs) as bs acc → LkK gw Hw H → gw.Le g → Φ (.ok acc env cs) → Fi H)
    (wi : WI mg J gw Hw ds) (m0 : MkE mg g0 H0 as0 L g1 cs1 H1 env1 σb as1 bs0 acc0) (lk0 : LkK gw Hw H1) (le0 : gw.Le g1) (hΦ : Φ (lcGo vs t c e ds env1 cs1 acc0)) (hz : acc0.length + ds.length ≤ 1000000) :
    ∃ W : Nat → Nat → Hp → Prop, (∃ m, W 0 m H1) ∧ ∀ i m H, W i m H → (J.stop i H ∧ Fi H) ∨ (J.go i H ∧ ∃ Nx : Hp → Prop, (∀ H', Nx H' → ∃ m', m' < m ∧ W (i + 1) m' H') ∧ ∀ x H', J.yld i H x H' → tG mg t ws x (L2.wipe σb vs) H' fun σ2 H2 => L2.wipe σ2 vs = L2.wipe σb vs ∧ tB (tX mg c (fun _ _ _ _ => False)) σ2 H2 fun b H3 =>
      if b = true then tX mg e (fun _ _ _ _ => False) σ2 H3 fun y H4 => ∃ acc, H4 L = some (.lst acc) ∧ acc.length < sizeLine ∧ Nx (upd H4 L (.lst (acc ++ [y]))) else Nx H3) := by
  obtain ⟨as2, m1, _⟩ := m0.wipe vs
  refine ⟨fun i n H => n = ds.length - i ∧ i ≤ ds.length ∧ ∃ g cs env as bs acc, MkE mg g0 H0 as0 L g cs H (wipeE env vs) (L2.wipe σb vs) as bs acc ∧ LkK gw Hw H ∧ gw.Le g ∧ acc.length + (ds.length - i) ≤ 1000000 ∧ Φ (lcGo vs t c e (ds.drop i) env cs acc),
    ⟨ds.length, by simp, Nat.zero_le _, g1, cs1, env1, as2, bs0, acc0, m1, lk0, le0, by omega, by simpa using hΦ⟩, ?_⟩
  rintro i n H2 ⟨rfl, hi, g2, cs2, env2, as3, bs, acc, m, lk, le, hacc, f2⟩
  obtain ⟨k1, k2⟩ := wi i g2 cs2 H2 as3 le lk m.wfa
  by_cases hlt : i < ds.length
  · obtain ⟨go, yl⟩ := k1 _ (List.getElem?_eq_getElem hlt)
    refine .inr ⟨go, fun H => ∃ g cs env as bs acc, MkE mg g0 H0 as0 L g cs H (wipeE env vs) (L2.wipe σb vs) as bs acc ∧ LkK gw Hw H ∧ gw.Le g ∧ acc.length + (ds.length - (i + 1)) ≤ 1000000 ∧ Φ (lcGo vs t c e (ds.drop (i + 1)) env cs acc),
      fun H' z => ⟨ds.length - (i + 1), by omega, rfl, hlt, z⟩, fun x H' y => ?_⟩
    obtain ⟨g3, a3, w3, r3⟩ := yl x H' y
    rw [List.drop_eq_getElem_cons hlt] at f2
    unfold lcGo at f2
    cases qt : t ds[i] (wipeE env2 vs) with
    | none => rw [qt] at f2; exact absurd f2 hbad
    | some env3 =>
      rw [qt] at f2
      have e3 := m.env.keep m.wfa a3
      refine ⟨g3, cs2, wipeE env2 vs, as3, ds[i], env3, w3, e3, r3, qt, fun σ4 as4 w4 e4 su off => ?_⟩
      have o4 : L2.wipe σ4 vs = L2.wipe σb vs := wipe_eq off hws
      have st4 : Sub as4 as3 H2 := fun x hx => .inl (su x hx)
      refine ⟨o4, g3, cs2, env3, as4, w4, e4, ?_⟩
      -- the list through a step from here
      have stp : ∀ {g5 : Gh} {H5 : Hp} {as5 : List Addr}, AdvE g3 g5 H' H5 as4 → Sub as5 as4 H' → AdvE g2 g5 H2 H5 as3 ∧ Sub as5 as3 H2 := fun a5 s5 => ⟨(a3.weakE (as := as3)).trans st4 a5, st4.trans (fun _ => a3.none) s5⟩
      cases qc : c env3 cs2 with
      | exc x _ _ => dsimp only at f2; rw [qc] at f2; exact absurd f2 hbad
      | bad => dsimp only at f2; rw [qc] at f2; exact absurd f2 hbad
      | ok o env5 cs5 =>
        dsimp only at f2
        rw [qc] at f2
        intro v H5 g5 as5 bs5 a5 s5 w5 e5 r5 n5
        obtain ⟨g6, G6, rp6⟩ := got_freeze a5 s5 w5 e5 r5 n5
        dsimp only at f2
        generalize frz o = dd at f2 rp6
        cases rp6 with
        | @bl k =>
          refine ⟨k, rfl, ?_⟩
          cases k with
          | false =>
            rw [if_neg Bool.false_ne_true]
            obtain ⟨A, S⟩ := stp G6.adv G6.sub
            obtain ⟨as7, m7, _⟩ := (m.step A S G6.wf G6.env).wipe vs
            rw [o4] at m7
            exact ⟨g6, cs5, env5, as7, bs, acc, m7, lk.trans le (.of m.wfa A.toAdv), le.trans A.le, by omega, f2⟩
          | true =>
            rw [if_pos rfl]
            dsimp only at f2
            refine ⟨g6, cs5, env5, as5, G6.wf, G6.env, ?_⟩
            cases qe : e env5 cs5 with
            | exc x _ _ => rw [qe] at f2; exact absurd f2 hbad
            | bad => rw [qe] at f2; exact absurd f2 hbad
            | ok y env8 cs8 =>
              rw [qe] at f2
              intro u H8 g8 as8 bs8 a8 s8 w8 e8 r8 n8
              obtain ⟨A6, S6⟩ := stp G6.adv G6.sub
              have A8 : AdvE g2 g8 H2 H8 as3 := A6.trans S6 a8
              have S8 : Sub as8 as3 H2 := S6.trans (fun _ => A6.none) s8
              have w8a := w8.sub (List.nodup_append.mp w8.nd).2.1 fun x h => List.mem_append_right _ h
              obtain ⟨as9, m9, s9⟩ := (m.step A8 S8 w8a e8).wipe vs
              rw [o4] at m9
              have nb : ∀ b ∈ bs8, H2 b = none := fun b hb => A6.none (n8 b hb)
              have w9 : Wf mg g8 cs8 H8 (bs8 ++ as9) := w8.sub (List.nodup_append.mpr ⟨(List.nodup_append.mp w8.nd).1, (List.nodup_append.mp m9.wf.nd).2.1, fun x hx y hy z => (List.nodup_append.mp w8.nd).2.2 x hx y (s9 y hy) z⟩) fun x hx => by
                rcases List.mem_append.mp hx with z | z
                · exact List.mem_append_left _ z
                · exact List.mem_append_right _ (s9 x z)
              have wc : Wf mg g8 cs8 H8 ((L :: bs) ++ (bs8 ++ as9)) := Wf.carry m.wf A8.toAdv (fun x hx => by
                rcases List.mem_append.mp hx with z | z
                · exact .inr (nb x z)
                · exact S8 x (s9 x z)) w9
              have le8 := le.trans A8.le
              have lk8 := lk.trans le (.of m.wfa A8.toAdv)
              cases m9.rep with
              | @ol _ xs _ _ hx rl =>
                have := RepOL.len rl
                exact ⟨xs, hx, line_le (by omega), g8, cs8, env8, as9, bs ++ bs8, acc ++ [y], m9.more wc r8 (fun b hb => m.adv.none (nb b hb)) hx, m9.lk le8 lk8, le8, by rw [List.length_append]; simp; omega, f2⟩
        | _ => exact absurd f2 hbad
  · have e : i = ds.length := by omega
    subst e
    rw [List.drop_length] at f2
    exact .inl ⟨k2 (List.getElem?_eq_none (Nat.le_refl _)), hdone _ _ _ _ _ _ _ m lk le f2⟩
def lcRes (vs : List Nat) (t : TgM) (c e : XM) (ds : List D) (env : Ev) (cs : Cells) : XRes := if ds.length ≤ 1000000 then match lcGo vs t c e ds env cs [] with
    | .ok acc env cs => .ok (.ol acc) (wipeE env vs) cs
    | .bad => .bad
  else .bad
theorem lc_at {W : WX} {Q : VK} {vs : List Nat} {σ : St} {H1 : Hp} {mg : Mg} {g1 : Gh} {as1 : List Addr} {cs1 : Cells} {env1 : Ev} {J : It} {ds : List D} (hws : ∀ j ∈ ws, j ∈ vs) (w1 : Wf mg g1 cs1 H1 as1) (e1 : EnvR g1 H1 env1 σ as1) (wi : WI mg J g1 H1 ds)
    (f : Fin mg g1 H1 as1 W σ Q (lcRes vs t c e ds env1 cs1)) :
    ∀ L, H1 L = none → ∃ W : Nat → Nat → Hp → Prop, (∃ m, W 0 m (upd H1 L (.lst []))) ∧ ∀ i m H, W i m H → (J.stop i H ∧ Q (.ref L) H) ∨ (J.go i H ∧ ∃ Nx : Hp → Prop, (∀ H', Nx H' → ∃ m', m' < m ∧ W (i + 1) m' H') ∧ ∀ x H', J.yld i H x H' → tG mg t ws x (L2.wipe σ vs) H' fun σ2 H2 => L2.wipe σ2 vs = L2.wipe σ vs ∧ tB (tX mg c (fun _ _ _ _ => False)) σ2 H2 fun b H3 =>
      if b = true then tX mg e (fun _ _ _ _ => False) σ2 H3 fun y H4 => ∃ acc, H4 L = some (.lst acc) ∧ acc.length < sizeLine ∧ Nx (upd H4 L (.lst (acc ++ [y]))) else Nx H3) := by
  intro L hL
  unfold lcRes at f
  by_cases hz : ds.length ≤ 1000000
  · rw [if_pos hz] at f
    have f1 : FinA mg g1 H1 as1 W σ Q vs (lcGo vs t c e ds env1 cs1 []) := by
      cases q2 : lcGo vs t c e ds env1 cs1 [] with
      | ok acc env cs => rw [q2] at f; exact f
      | bad => rw [q2] at f; exact f
    have lk : LkK g1 H1 (upd H1 L (.lst [])) := fun x o u hF h => by
      rw [upd_ne fun z => by rw [z, hL] at h; cases h]; exact h
    exact lc_go (fun z => z) hws (fun g cs H env as bs acc m _ _ f => f (.ref L) H g as (L :: bs) m.adv m.sub m.wf m.env.unwipe m.rep m.new) wi (mkE_start w1 e1 hL) lk (.refl _) f1 (by simpa using hz)
  · rw [if_neg hz] at f; exact f.elim
theorem lc_red {own : List (Str × Nat)} {W : WX} {σ : St} {H : Hp} {Q : VK} {mg : Mg} (hws : ∀ j ∈ ws, j ∈ own.map (·.2)) (h : tX mg (xLc mi (own.map (·.2)) t c e) W σ H Q) :
    tLc (tI mg mi W) (tG mg t ws) (tB (tX mg c (fun _ _ _ _ => False))) (tX mg e (fun _ _ _ _ => False)) (own.map (·.2)) σ H Q := by
  obtain ⟨g, cs, env, as, w, ev, f⟩ := h
  generalize hvs : own.map (·.2) = vs at *
  refine ⟨g, cs, env, as, w, ev, ?_⟩
  unfold xLc at f
  cases q : mi env cs with
  | exc x env1 cs1 => rw [q] at f; exact f
  | bad => rw [q] at f; exact f
  | ok ds env1 cs1 =>
    rw [q] at f
    intro J H1 g1 as1 a1 s1 w1 e1 wi
    exact lc_at hws w1 e1 wi (Fin.rebase a1 s1 f)
theorem em_lc {own : List (Str × Nat)} (hc : X.calm = true) (hN : X.N.Nodup) (hi : Im X tg iter mi) (ok : BlkOk X.N X.env.scope scope own) (hws : ∀ j ∈ ws, j ∈ own.map (·.2))
    (hg : ∀ (s : Shared) (H : Hp) (C : Addr) (cl : List (Str × Addr)) (fp : List Addr), Gm (X.blk s H scope (compEnvC scope cl C X.env) fp) tg t ws) (ht : ∀ (s : Shared) (H : Hp) (C : Addr) (cl : List (Str × Addr)) (fp : List Addr), Cm (X.blk s H scope (compEnvC scope cl C X.env) fp) ifs c)
    (he : ∀ (s : Shared) (H : Hp) (C : Addr) (cl : List (Str × Addr)) (fp : List Addr), Em (X.blk s H scope (compEnvC scope cl C X.env) fp) elt e) (hs : ∀ x, foldedSetIterable iter X.env x = pure x := by intro _; rfl) :
    Em X (.ListComp elt [⟨tg, iter, ifs, 0⟩] scope pos) (xLc mi (own.map (·.2)) t c e) := ⟨fun W tk =>
  pe_imp (pe_lc hc hN (hi.run W tk) ok (fun s H C cl fp => (hg s H C cl fp).run) (fun s H C cl fp => (ht s H C cl fp).run) (fun s H C cl fp => (he s H C cl fp).run _ takes0) hs) fun σ H Q h => lc_red hws h⟩
theorem sm_asgLc {own : List (Str × Nat)} {i : Nat} {y : Str} {py spos : Pos} (hc : X.calm = true) (hN : X.N.Nodup) (hsw : swapsWith (.ListComp elt [⟨tg, iter, ifs, 0⟩] scope pos) (some (.Name y py)) spos.line X.env = pure true) (hi : Im X tg iter mi) (ok : BlkOk X.N X.env.scope scope own) (hws : ∀ j ∈ ws, j ∈ own.map (·.2))
    (hg : ∀ (s : Shared) (H : Hp) (C : Addr) (cl : List (Str × Addr)) (fp : List Addr), Gm (X.blk s H scope (compEnvC scope cl C X.env) fp) tg t ws) (ht : ∀ (s : Shared) (H : Hp) (C : Addr) (cl : List (Str × Addr)) (fp : List Addr), Cm (X.blk s H scope (compEnvC scope cl C X.env) fp) ifs c)
    (he : ∀ (s : Shared) (H : Hp) (C : Addr) (cl : List (Str × Addr)) (fp : List Addr), Em (X.blk s H scope (compEnvC scope cl C X.env) fp) elt e) (hy : X.N[i]? = some y := by rfl) (hyl : X.env.scope.names.lookup y = some .local := by rfl) (hs : ∀ x, foldedSetIterable iter X.env x = pure x := by intro _; rfl) :
    Sm X (.Assign [.Name y py] (.ListComp elt [⟨tg, iter, ifs, 0⟩] scope pos) spos) (sAsg i (xLc mi (own.map (·.2)) t c e)) := ⟨fun W tk =>
  ps_imp (ps_setLc hc hN hy hyl hsw (hi.run W tk) ok (fun s H C cl fp => (hg s H C cl fp).run) (fun s H C cl fp => (ht s H C cl fp).run) (fun s H C cl fp => (he s H C cl fp).run _ takes0) hs) fun D σ H ⟨g, cs, env, as, w, ev, f⟩ => by
    have h : tX (md X) (xLc mi (own.map (·.2)) t c e) W σ H (fun x H1 => gName i x σ H1 D.nx) := ⟨g, cs, env, as, w, ev, (Fin.bindO f).imp fun v H1 ⟨g1, cs1, env1, as1, bs, o, G, w1, r, n, f⟩ => put_slot w1 G.env r f⟩
    exact lc_red hws h⟩
end
end GM
namespace GM
open PySem PySem.Spec L2
/-! ### == and != -/
mutual
def eqD : D → D → Bool
  | .non, .non => true
  | .bl a, .bl b => a == b
  | .bl a, .int j => (if a then 1 else 0) == j
  | .int i, .bl b => i == (if b then 1 else 0)
  | .int i, .int j => i == j
  | .str x, .str y => x == y
  | .lst xs, .lst ys => eqDL xs ys
  | .tup xs, .tup ys => eqDL xs ys
  | _, _ => false
def eqDL : List D → List D → Bool
  | [], [] => true
  | x :: xs, y :: ys => eqD x y && eqDL xs ys
  | _, _ => false
end
/-- plain data, at most n deep -/
def okD : Nat → D → Bool
  | _, .non => true
  | _, .bl _ => true
  | _, .int _ => true
  | _, .str _ => true
  | n + 1, .lst ds => ds.all (okD n)
  | n + 1, .tup ds => ds.all (okD n)
  | _, _ => false
mutual
inductive DR (s : Shared) : D → Value → Prop where
  | non : DR s .non .none
  | bl {b : Bool} : DR s (.bl b) (.bool b)
  | int {i : Int} {t : Tok} : DR s (.int i) (.int i t)
  | str {x : Str} {t : Tok} : DR s (.str x) (.str x t)
  | lst {a : Addr} {us : List Value} {ds : List D} : s.heap.IsList a us.toArray → DRL s ds us → DR s (.lst ds) (.ref a)
  | tup {a : Addr} {us : List Value} {ds : List D} : s.heap.IsTuple a us.toArray → DRL s ds us → DR s (.tup ds) (.ref a)
inductive DRL (s : Shared) : List D → List Value → Prop where
  | nil : DRL s [] []
  | cons {d : D} {v : Value} {ds : List D} {vs : List Value} : DR s d v → DRL s ds vs → DRL s (d :: ds) (v :: vs)
end
theorem DRL.len {s : Shared} : ∀ {ds : List D} {vs : List Value}, DRL s ds vs → ds.length = vs.length
  | _, _, .nil => rfl
  | _, _, .cons _ r => congrArg Nat.succ r.len
theorem okD_lst {n : Nat} {ds : List D} (h : okD n (.lst ds) = true) : ∃ m, n = m + 1 ∧ ∀ d ∈ ds, okD m d = true := by
  cases n with
  | zero => cases h
  | succ m => exact ⟨m, rfl, fun d hd => List.all_eq_true.mp h d hd⟩
theorem okD_tup {n : Nat} {ds : List D} (h : okD n (.tup ds) = true) : ∃ m, n = m + 1 ∧ ∀ d ∈ ds, okD m d = true := by
  cases n with
  | zero => cases h
  | succ m => exact ⟨m, rfl, fun d hd => List.all_eq_true.mp h d hd⟩
section
variable {X : Cx} {pins : List (Addr × Obj)} {σ : St} {H : Hp} {s : Shared} {mg : Mg} {g : Gh} {cs : Cells} {as : List Addr}
set_option maxHeartbeats 2000000 in
mutual
theorem dr_of (I : Inv X pins σ H s) (w : Wf mg g cs H as) : ∀ {d : D} {x : V} {v : Value} {n : Nat}, Rep g d x → RelV x v → okD n d = true → DR s d v
  | _, _, _, _, .non, r, _ => by cases r; exact .non
  | _, _, _, _, .bl, r, _ => by cases r; exact .bl
  | _, _, _, _, .int, r, _ => by obtain ⟨t, rfl⟩ := r; exact .int
  | _, _, _, _, .str, r, _ => by obtain ⟨t, rfl⟩ := r; exact .str
  | _, _, _, n, .lst h rl, r, k => by
    cases r
    obtain ⟨m, e, k⟩ := okD_lst k
    obtain ⟨its, rv, p, _⟩ := I.list (seen_lst w h)
    exact .lst p.isList (drl_of I w rl rv k)
  | _, _, _, n, .tup h rl, r, k => by
    cases r
    obtain ⟨m, e, k⟩ := okD_tup k
    obtain ⟨its, rv, p, _⟩ := I.tuple (seen_tup w h)
    exact .tup p (drl_of I w rl rv k)
  | _, _, _, n, .dK _ _, _, k => by cases n <;> cases k
  | _, _, _, n, .dT _ _, _, k => by cases n <;> cases k
  | _, _, _, n, .obj _ _ _, _, k => by cases n <;> cases k
  | _, _, _, n, .exn _ _ _ _, _, k => by cases n <;> cases k
  | _, _, _, n, .cls _, _, k => by cases n <;> cases k
  | _, _, _, n, .cel _, _, k => by cases n <;> cases k
  | _, _, _, n, .scr _ _, _, k => by cases n <;> cases k
  | _, _, _, n, .scK _ _, _, k => by cases n <;> cases k
theorem drl_of (I : Inv X pins σ H s) (w : Wf mg g cs H as) : ∀ {d : List D} {x : List V} {v : List Value} {n : Nat}, RepL g d x → Vals x v → (∀ y ∈ d, okD n y = true) → DRL s d v
  | _, _, _, _, .nil, r, _ => by cases r; exact .nil
  | _, _, _, _, .cons h rl, r, k => by
    cases r with
    | cons r rr => exact .cons (dr_of I w h r (k _ (by simp))) (drl_of I w rl rr fun y hy => k y (by simp [hy]))
end
end
theorem list_one {h : Heap} {a : Addr} {xs ys : Array Value} (p : h.IsList a xs) (q : h.IsList a ys) : xs = ys := by
  obtain ⟨o, e, c, n, d⟩ := p
  obtain ⟨o', e', c', n', d'⟩ := q
  rw [e] at e'; cases e'
  rw [d] at d'
  injection d' with d1 _
theorem tuple_one {h : Heap} {a : Addr} {xs ys : Array Value} (p : h.IsTuple a xs) (q : h.IsTuple a ys) : xs = ys := by
  obtain ⟨o, e, c, n, d⟩ := p
  obtain ⟨o', e', c', n', d'⟩ := q
  rw [e] at e'; cases e'
  rw [d] at d'
  injection d' with d1 _
theorem list_not_tuple {h : Heap} {a : Addr} {xs ys : Array Value} (p : h.IsList a xs) (q : h.IsTuple a ys) : False := by
  obtain ⟨o, e, c, _⟩ := p
  obtain ⟨o', e', c', _⟩ := q
  rw [e] at e'; cases e'
  rw [c] at c'
  exact absurd c' (by decide)
mutual
theorem DR.inj {s : Shared} : ∀ {d e : D} {v : Value}, DR s d v → DR s e v → d = e
  | _, _, _, .non, r => by cases r; rfl
  | _, _, _, .bl, r => by cases r; rfl
  | _, _, _, .int, r => by cases r; rfl
  | _, _, _, .str, r => by cases r; rfl
  | _, _, _, .lst h rl, r => by
    cases r with
    | lst h' rl' =>
      have e := congrArg Array.toList (list_one h h')
      simp only [List.toList_toArray] at e
      subst e
      rw [DRL.inj rl rl']
    | tup h' _ => exact (list_not_tuple h h').elim
  | _, _, _, .tup h rl, r => by
    cases r with
    | tup h' rl' =>
      have e := congrArg Array.toList (tuple_one h h')
      simp only [List.toList_toArray] at e
      subst e
      rw [DRL.inj rl rl']
    | lst h' _ => exact (list_not_tuple h' h).elim
theorem DRL.inj {s : Shared} : ∀ {d e : List D} {v : List Value}, DRL s d v → DRL s e v → d = e
  | _, _, _, .nil, r => by cases r; rfl
  | _, _, _, .cons h rl, r => by
    cases r with
    | cons h' rl' => rw [DR.inj h h', DRL.inj rl rl']
end
mutual
theorem eqD_refl {s : Shared} : ∀ {d : D} {v : Value}, DR s d v → eqD d d = true
  | _, _, .non => rfl
  | _, _, .bl => by simp [eqD]
  | _, _, .int => by simp [eqD]
  | _, _, .str => by simp [eqD]
  | _, _, .lst _ r => by simp only [eqD]; exact eqDL_refl r
  | _, _, .tup _ r => by simp only [eqD]; exact eqDL_refl r
theorem eqDL_refl {s : Shared} : ∀ {d : List D} {v : List Value}, DRL s d v → eqDL d d = true
  | _, _, .nil => rfl
  | _, _, .cons h r => by simp only [eqDL]; rw [eqD_refl h, eqDL_refl r]; rfl
end
def pairD (xs ys : List D) (j : Nat) : Bool := eqD (xs.getD j .non) (ys.getD j .non)
theorem pairD_all : ∀ (xs ys : List D), ((List.range (min xs.length ys.length)).all (pairD xs ys) && xs.length == ys.length) = eqDL xs ys
  | [], [] => rfl
  | [], y :: ys => by simp [eqDL]
  | x :: xs, [] => by simp [eqDL]
  | x :: xs, y :: ys => by
    have ih := pairD_all xs ys
    have e : min (x :: xs).length (y :: ys).length = min xs.length ys.length + 1 := by simp only [List.length_cons]; omega
    rw [e, List.range_succ_eq_map, List.all_cons, List.all_map]
    have e2 : (pairD (x :: xs) (y :: ys) ∘ Nat.succ) = pairD xs ys := by
      funext j
      simp [pairD]
    rw [e2]
    have e3 : pairD (x :: xs) (y :: ys) 0 = eqD x y := rfl
    have e4 : ((x :: xs).length == (y :: ys).length) = (xs.length == ys.length) := by simp
    rw [e3, e4, eqDL, Bool.and_assoc, ih]
theorem DRL.get {s : Shared} : ∀ {ds : List D} {vs : List Value}, DRL s ds vs → ∀ (j : Nat) (h : j < vs.length), DR s (ds.getD j .non) vs[j]
  | _, _, .nil, j, h => by simp at h
  | _, _, .cons r _, 0, _ => r
  | _, _, .cons _ r, j + 1, h => by simpa using r.get j (by simpa using h)
theorem getD_mem {ds : List D} {j : Nat} (h : j < ds.length) : ds.getD j .non ∈ ds := by
  rw [List.getD_eq_getElem?_getD, List.getElem?_eq_getElem h]
  exact List.getElem_mem h
/-- a scalar -/
def isSc : D → Bool
  | .non => true
  | .bl _ => true
  | .int _ => true
  | .str _ => true
  | _ => false
open SeqAt in
theorem rc_sc {s : Shared} {A : Around} {d e : D} {v u : Value} (r : DR s d v) (q : DR s e u) (k : isSc d = true) (l : isSc e = true) : RcAt A s v u (eqD d e) ∧ RcNeAt A s v u (!eqD d e) := by
  cases r with
  | non => cases q with
    | non => rw [show eqD .non .non = true by simp only [eqD]]; exact ⟨.none_none, .none_none⟩
    | @bl b => rw [show eqD .non (.bl b) = false by simp only [eqD]]; exact ⟨.none_bool _, .none_bool _⟩
    | @int b => rw [show eqD .non (.int b) = false by simp only [eqD]]; exact ⟨.none_int _ _, .none_int _ _⟩
    | @str b => rw [show eqD .non (.str b) = false by simp only [eqD]]; exact ⟨.none_str _ _, .none_str _ _⟩
    | _ => cases l
  | @bl a => cases q with
    | non => rw [show eqD (.bl a) .non = false by simp only [eqD]]; exact ⟨.bool_none _, .bool_none _⟩
    | @bl b => rw [show eqD (.bl a) (.bl b) = (a == b) by simp only [eqD]]; exact ⟨.bool_bool _ _, .bool_bool _ _⟩
    | @int b => rw [show eqD (.bl a) (.int b) = ((if a then 1 else 0) == b) by simp only [eqD]]; exact ⟨.bool_int _ _ _, .bool_int _ _ _⟩
    | @str b => rw [show eqD (.bl a) (.str b) = false by simp only [eqD]]; exact ⟨.bool_str _ _ _, .bool_str _ _ _⟩
    | _ => cases l
  | @int a => cases q with
    | non => rw [show eqD (.int a) .non = false by simp only [eqD]]; exact ⟨.int_none _ _, .int_none _ _⟩
    | @bl b => rw [show eqD (.int a) (.bl b) = (a == (if b then 1 else 0)) by simp only [eqD]]; exact ⟨.int_bool _ _ _, .int_bool _ _ _⟩
    | @int b => rw [show eqD (.int a) (.int b) = (a == b) by simp only [eqD]]; exact ⟨.int_int _ _ _ _, .int_int _ _ _ _⟩
    | @str b => rw [show eqD (.int a) (.str b) = false by simp only [eqD]]; exact ⟨.int_str _ _ _ _, .int_str _ _ _ _⟩
    | _ => cases l
  | @str a => cases q with
    | non => rw [show eqD (.str a) .non = false by simp only [eqD]]; exact ⟨.str_none _ _, .str_none _ _⟩
    | @bl b => rw [show eqD (.str a) (.bl b) = false by simp only [eqD]]; exact ⟨.str_bool _ _ _, .str_bool _ _ _⟩
    | @int b => rw [show eqD (.str a) (.int b) = false by simp only [eqD]]; exact ⟨.str_int _ _ _ _, .str_int _ _ _ _⟩
    | @str b => rw [show eqD (.str a) (.str b) = (a == b) by simp only [eqD]]; exact ⟨.str_str _ _ _ _, .str_str _ _ _ _⟩
    | _ => cases l
  | _ => cases k
open SeqAt in
theorem rc_mix {s : Shared} {A : Around} {d e : D} {v u : Value} (hz : A.units < cLine) (r : DR s d v) (q : DR s e u) (h : isSc d = true ∧ isSc e = false ∨ isSc d = false ∧ isSc e = true) : RcAt A s v u (eqD d e) ∧ RcNeAt A s v u (!eqD d e) := by
  have e1 : eqD d e = false := by
    rcases h with ⟨h1, h2⟩ | ⟨h1, h2⟩ <;> cases d <;> first | (cases h1; done) | (cases e <;> first | (cases h2; done) | simp only [eqD])
  rw [e1]
  rcases h with ⟨h1, h2⟩ | ⟨h1, h2⟩
  · cases q with
    | lst hq q2 => cases r with
      | non => exact ⟨.none_list hq hz, .none_list hq hz⟩
      | bl => exact ⟨.bool_list _ hq hz, .bool_list _ hq hz⟩
      | int => exact ⟨.int_list _ _ hq hz, .int_list _ _ hq hz⟩
      | str => exact ⟨.str_list _ _ hq hz, .str_list _ _ hq hz⟩
      | _ => cases h1
    | tup hq q2 => cases r with
      | non => exact ⟨.none_tuple hq hz, .none_tuple hq hz⟩
      | bl => exact ⟨.bool_tuple _ hq hz, .bool_tuple _ hq hz⟩
      | int => exact ⟨.int_tuple _ _ hq hz, .int_tuple _ _ hq hz⟩
      | str => exact ⟨.str_tuple _ _ hq hz, .str_tuple _ _ hq hz⟩
      | _ => cases h1
    | _ => cases h2
  · cases r with
    | lst hr r2 => cases q with
      | non => exact ⟨.list_none hr hz, .list_none hr hz⟩
      | bl => exact ⟨.list_bool _ hr hz, .list_bool _ hr hz⟩
      | int => exact ⟨.list_int _ _ hr hz, .list_int _ _ hr hz⟩
      | str => exact ⟨.list_str _ _ hr hz, .list_str _ _ hr hz⟩
      | _ => cases h2
    | tup hr r2 => cases q with
      | non => exact ⟨.tuple_none hr hz, .tuple_none hr hz⟩
      | bl => exact ⟨.tuple_bool _ hr hz, .tuple_bool _ hr hz⟩
      | int => exact ⟨.tuple_int _ _ hr hz, .tuple_int _ _ hr hz⟩
      | str => exact ⟨.tuple_str _ _ hr hz, .tuple_str _ _ hr hz⟩
      | _ => cases h2
    | _ => cases h1
/-- the step from what two things are (RcAt) to how members are compared (EqAt) -/
theorem eq_of_rc {s : Shared} {A : Around} {d e : D} {v u : Value} (r : DR s d v) (q : DR s e u) (rc : SeqAt.RcAt A s v u (eqD d e)) : SeqAt.EqAt A s v u (eqD d e) := by
  by_cases z : v = u
  · subst z
    rw [DR.inj r q, eqD_refl q]
    exact SeqAt.EqAt.same _
  · generalize eqD d e = k at rc ⊢
    intro prog w E Q hq
    cases r <;> cases q <;>
      (unfold eqBool
       refine wpAny_holding (wpAny_ite_split (fun hab => absurd (eq_of_beq hab) z) fun _ => ?_)
       exact wpAny_bind (rc prog w E _ (wpAny_truthy_bool hq)))
theorem okD_sc {d : D} (h : okD 0 d = true) : isSc d = true := by cases d <;> first | rfl | cases h
theorem rcAt_D {s : Shared} : ∀ (n : Nat) (A : Around) (d e : D) (v u : Value), A.units + n < cLine → DR s d v → DR s e u → okD n d = true → okD n e = true → SeqAt.RcAt A s v u (eqD d e) ∧ SeqAt.RcNeAt A s v u (!eqD d e) := by
  intro n
  induction n with
  | zero => exact fun A d e v u hu r q k l => rc_sc r q (okD_sc k) (okD_sc l)
  | succ n ih =>
    intro A d e v u hu r q k l
    have hz : A.units < cLine := by omega
    have eqs : ∀ (d e : D) (v u : Value), DR s d v → DR s e u → okD n d = true → okD n e = true → SeqAt.EqAt A.in1 s v u (eqD d e) := fun d e v u r q k l =>
      eq_of_rc r q (ih A.in1 d e v u (by show A.units + 1 + n < cLine; omega) r q k l).1
    by_cases hd : isSc d = true
    · by_cases he : isSc e = true
      · exact rc_sc r q hd he
      · exact rc_mix hz r q (.inl ⟨hd, by simpa using he⟩)
    · by_cases he : isSc e = true
      · exact rc_mix hz r q (.inr ⟨by simpa using hd, he⟩)
      · cases r with
        | @lst a us ds h1 r1 =>
          cases q with
          | @lst b ws es h2 q2 =>
            obtain ⟨m, e1, k⟩ := okD_lst k
            cases e1
            obtain ⟨m, e1, l⟩ := okD_lst l
            cases e1
            have n1 := r1.len
            have n2 := q2.len
            have hj : ∀ j (j1 : j < us.toArray.size) (j2 : j < ws.toArray.size), SeqAt.EqAt A.in1 s us.toArray[j] ws.toArray[j] (pairD ds es j) := fun j j1 j2 => by
              have i1 : j < us.length := by simpa using j1
              have i2 : j < ws.length := by simpa using j2
              exact eqs _ _ _ _ (r1.get j i1) (q2.get j i2) (k _ (getD_mem (by omega))) (l _ (getD_mem (by omega)))
            have pa := pairD_all ds es
            by_cases hsz : ds.length = es.length
            · have e2 : (List.range us.toArray.size).all (pairD ds es) = eqD (.lst ds) (.lst es) := by
                simp only [eqD]
                rw [← pa, hsz, Nat.min_self]
                simp [← n1, hsz]
              rw [← e2]
              exact ⟨.lists h1 h2 (by simp; omega) hz hj, .lists h1 h2 (by simp; omega) hz hj⟩
            · have e2 : eqD (.lst ds) (.lst es) = false := by
                simp only [eqD]
                rw [← pa]
                simp [hsz]
              rw [e2]
              have hb : (us.toArray.size != ws.toArray.size) = true := by simp; omega
              exact ⟨.lists_lengths h1 h2 hb hz, .lists_lengths h1 h2 hb hz⟩
          | tup h2 q2 =>
            rw [show eqD (.lst _) (.tup _) = false by simp only [eqD]]
            exact ⟨.list_tuple h1 h2 hz, .list_tuple h1 h2 hz⟩
          | _ => exact absurd rfl he
        | @tup a us ds h1 r1 =>
          cases q with
          | @tup b ws es h2 q2 =>
            obtain ⟨m, e1, k⟩ := okD_tup k
            cases e1
            obtain ⟨m, e1, l⟩ := okD_tup l
            cases e1
            have n1 := r1.len
            have n2 := q2.len
            have hj : ∀ j (j1 : j < us.toArray.size) (j2 : j < ws.toArray.size), SeqAt.EqAt A.in1 s us.toArray[j] ws.toArray[j] (pairD ds es j) := fun j j1 j2 => by
              have i1 : j < us.length := by simpa using j1
              have i2 : j < ws.length := by simpa using j2
              exact eqs _ _ _ _ (r1.get j i1) (q2.get j i2) (k _ (getD_mem (by omega))) (l _ (getD_mem (by omega)))
            have e2 : ((List.range (min us.toArray.size ws.toArray.size)).all (pairD ds es) && us.toArray.size == ws.toArray.size) = eqD (.tup ds) (.tup es) := by
              simp only [eqD]
              rw [← pairD_all ds es]
              simp [← n1, ← n2]
            rw [← e2]
            exact ⟨.tuples h1 h2 hz hj, .tuples h1 h2 hz hj⟩
          | lst h2 q2 =>
            rw [show eqD (.tup _) (.lst _) = false by simp only [eqD]]
            exact ⟨.tuple_list h1 h2 hz, .tuple_list h1 h2 hz⟩
          | _ => exact absurd rfl he
        | _ => exact absurd rfl hd
theorem eqAt_D {s : Shared} {n : Nat} {A : Around} {d e : D} {v u : Value} (hu : A.units + n < cLine) (r : DR s d v) (q : DR s e u) (k : okD n d = true) (l : okD n e = true) : SeqAt.EqAt A s v u (eqD d e) := eq_of_rc r q (rcAt_D n A d e v u hu r q k l).1
end GM
namespace GM
open PySem PySem.Spec L2
def bO (b : Bool) : Option O := some (.fz (.bl b))
def iO (i : Int) : Option O := some (.fz (.int i))
section
variable {mg : Mg} {g : Gh} {cs : Cells} {H : Hp} {as : List Addr} {Q : VK}
theorem Post.bl {b : Bool} (w : Wf mg g cs H as) (h : Post mg g cs H as (.fz (.bl b)) Q) : Q (.bl b) H := h.fz w .bl
theorem Post.int {i : Int} (w : Wf mg g cs H as) (h : Post mg g cs H as (.fz (.int i)) Q) : Q (.int i) H := h.fz w .int
theorem Post.str {i : Str} (w : Wf mg g cs H as) (h : Post mg g cs H as (.fz (.str i)) Q) : Q (.str i) H := h.fz w .str
theorem repOL_fz {g : Gh} {H : Hp} : ∀ {ds : List D} {vs : List V}, RepL g ds vs → RepOL g H (ds.map .fz) vs []
  | _, _, .nil => .nil
  | _, _, .cons h r => RepOL.cons (as := []) (.fz h) (repOL_fz r)
theorem Post.lst {ds : List D} {vs : List V} {p : Addr} (w : Wf mg g cs H as) (h : Post mg g cs H as (.ol (ds.map .fz)) Q) (r : RepL g ds vs) (hp : H p = none) : Q (.ref p) (upd H p (.lst vs)) :=
  h (.ref p) _ g [p] (adv_alloc hp).toAdv (w.alloc hp) (.ol upd_same (repOL_fz r)) fun b hb => by rw [List.mem_singleton.mp hb]; exact hp
theorem Post.tup {ds : List D} {vs : List V} {p : Addr} (w : Wf mg g cs H as) (h : Post mg g cs H as (.fz (.tup ds)) Q) (r : RepL g ds vs) (hp : H p = none) : Q (.ref p) (upd H p (.tup vs)) := by
  have ne : ∀ {a : Addr}, H a ≠ none → a ≠ p := fun {a} z e => z (by rw [e]; exact hp)
  have w1 : Wf mg g cs (upd H p (.tup vs)) (p :: as) := w.alloc hp
  let g' : Gh := { g with F := fun a => if a = p then some (.tup vs) else g.F a }
  have hF : ∀ a u, g.F a = some u → g'.F a = some u := fun a u z => by
    show (if a = p then _ else g.F a) = _
    rw [if_neg fun e => by rw [e, w.fdom hp] at z; cases z]
    exact z
  have le : g.Le g' := ⟨hF, ⟨[], (List.append_nil _).symm⟩, rfl⟩
  have nd := List.nodup_cons.mp w1.nd
  have w' : Wf mg g' cs (upd H p (.tup vs)) as := by
    refine ⟨w.mg, fun a u z => ?_, w.len, w.ndL, fun a ha => ?_, fun i c a h1 h2 => (w1.cell i c a h1 h2).mono le rfl, w.nd, fun a ha => ?_⟩
    · have z : (if a = p then some (HO.tup vs) else g.F a) = some u := z
      by_cases e : a = p
      · rw [if_pos e] at z; cases z; rw [e]; exact .inl upd_same
      · rw [if_neg e] at z; exact w1.see a u z
    · show (if a = p then _ else g.F a) = _
      rw [if_neg fun (e : a = p) => w.newL hp (by rw [← e]; exact ha)]
      exact w.sepL a ha
    · obtain ⟨h1, h2, h3⟩ := w1.sep a (List.mem_cons_of_mem _ ha)
      refine ⟨?_, h2, h3⟩
      show (if a = p then _ else g.F a) = _
      rw [if_neg fun (e : a = p) => nd.1 (by rw [← e]; exact ha)]
      exact h1
  refine h (.ref p) _ g' [] ⟨hF, ⟨[], (List.append_nil _).symm, fun _ z => nomatch z⟩, rfl, fun a u z _ _ => by rw [upd_ne (ne (by rw [z]; exact fun y => nomatch y))]; exact z, fun a u z => ?_, fun a z => by rw [upd_ne (ne z)]; exact z⟩ w' (.fz (.tup (show (if p = p then _ else _) = _ from if_pos rfl) (r.mono le))) fun _ z => nomatch z
  have z : (if a = p then some (HO.tup vs) else g.F a) = some u := z
  by_cases e : a = p
  · subst e; exact .inr (.inr hp)
  · rw [if_neg e] at z; exact .inl z
/-- a thing made new that nobody else holds -/
theorem Post.new {o : O} {u : HO} {p : Addr} (w : Wf mg g cs H as) (h : Post mg g cs H as o Q) (hp : H p = none) (r : RepO g (upd H p u) o (.ref p) [p]) : Q (.ref p) (upd H p u) :=
  h (.ref p) _ g [p] (adv_alloc hp).toAdv (w.alloc hp) r fun b hb => by rw [List.mem_singleton.mp hb]; exact hp
end
theorem RepL.app {g : Gh} : ∀ {ds es : List D} {vs ws : List V}, RepL g ds vs → RepL g es ws → RepL g (ds ++ es) (vs ++ ws)
  | _, _, _, _, .nil, s => s
  | _, _, _, _, .cons h r, s => .cons h (r.app s)
theorem RepL.drop {g : Gh} : ∀ {ds : List D} {vs : List V} (n : Nat), RepL g ds vs → RepL g (ds.drop n) (vs.drop n)
  | _, _, 0, r => r
  | _, _, _ + 1, .nil => .nil
  | _, _, n + 1, .cons _ r => r.drop n
theorem RepL.take {g : Gh} : ∀ {ds : List D} {vs : List V} (n : Nat), RepL g ds vs → RepL g (ds.take n) (vs.take n)
  | _, _, 0, r => .nil
  | _, _, _ + 1, .nil => .nil
  | _, _, n + 1, .cons h r => .cons h (r.take n)
theorem RepL.rep {g : Gh} {ds : List D} {vs : List V} (r : RepL g ds vs) : ∀ k : Nat, RepL g (List.replicate k ds).flatten (List.replicate k vs).flatten
  | 0 => .nil
  | k + 1 => by rw [List.replicate_succ, List.replicate_succ, List.flatten_cons, List.flatten_cons]; exact r.app (r.rep k)
def cutD (xs : List D) (lo hi : Option Int) : List D := (xs.drop (HT.sIx xs.length 0 lo)).take (HT.sIx xs.length xs.length hi - HT.sIx xs.length 0 lo)
theorem RepL.cut {g : Gh} {ds : List D} {vs : List V} (r : RepL g ds vs) (lo hi : Option Int) : RepL g (cutD ds lo hi) (cutV vs lo hi) := by
  unfold cutD cutV
  rw [r.len]
  exact (r.drop _).take _
/-! ### arithmetic -/
def pAdd : D → D → Cells → Option O
  | .int i, .int j, _ => iO (i + j)
  | .str x, .str y, _ => if x.length + y.length ≤ 1000000 then some (.fz (.str (x ++ y))) else none
  | .lst xs, .lst ys, _ => if xs.length + ys.length ≤ 1000000 then some (.ol ((xs ++ ys).map .fz)) else none
  | .tup xs, .tup ys, _ => if xs.length + ys.length ≤ 1000000 ∧ 0 < xs.length then some (.fz (.tup (xs ++ ys))) else none
  | _, _, _ => none
def pSub : D → D → Cells → Option O
  | .int i, .int j, _ => iO (i - j)
  | _, _, _ => none
def pMul : D → D → Cells → Option O
  | .int i, .int j, _ => if i.natAbs < 2 ^ 64 ∨ j.natAbs < 2 ^ 64 then iO (i * j) else none
  | .lst xs, .int k, _ => if -(2 ^ 63) ≤ k ∧ k < 2 ^ 63 ∧ xs.length * k.toNat ≤ 1000000 then some (.ol ((List.replicate k.toNat xs).flatten.map .fz)) else none
  | _, _, _ => none
def pMod : D → D → Cells → Option O
  | .int i, .int j, _ => if 0 < j then iO (i % j) else none
  | _, _, _ => none
def pFdiv : D → D → Cells → Option O
  | .int i, .int j, _ => if 0 < j ∧ j < 1073741824 then iO (i / j) else none
  | _, _, _ => none
def pPow : D → D → Cells → Option O
  | .int i, .int j, _ => if 0 ≤ j ∧ (Builtin.Int.intBits i : Int) * j ≤ 2 ^ 27 then iO (i ^ j.toNat) else none
  | _, _, _ => none
def pNeg : D → Cells → Option O
  | .int i, _ => iO (-i)
  | _, _ => none
section
variable {X : Cx} {mg : Mg} {a b : Expr} {pos : Pos} {ma mb : XM}
def rAddG (K : PySem.W.Frag) : R2 := fun x y H Q => rI0 (fun i j => .int (i + j)) x y H Q ∨ (∃ i j, x = .str i ∧ y = .str j ∧ i.length + j.length ≤ sizeLine ∧ Q (.str (i ++ j)) H) ∨ rCat x y H Q ∨ rCatT K x y H Q
theorem op_addG : OpR X (binaryOp .Add) (rAddG X.K) := op_add.or (op_add_str.or (op_cat.or op_catT))
theorem seen_ex {mg : Mg} {g : Gh} {cs : Cells} {H : Hp} {as : List Addr} {a : Addr} {u : HO} (w : Wf mg g cs H as) (h : g.F a = some u) (n : ¬ isDic u) : H a = some u := by
  rcases w.see a u h with z | ⟨z, _⟩
  · exact z
  · exact absurd z n
theorem P_add : Op2 mg pAdd (rAddG X.K) := ⟨fun g cs H as d e x y o Q w r1 r2 h post => by
  cases r1 with
  | @int i => cases r2 with
    | @int j => cases h; exact .inl ⟨i, j, rfl, rfl, post.int w⟩
    | _ => cases h
  | @str i => cases r2 with
    | @str j =>
      have h : (if i.length + j.length ≤ 1000000 then some (O.fz (.str (i ++ j))) else none) = some o := h
      split at h
      · rename_i hz
        cases h
        exact .inr (.inl ⟨i, j, rfl, rfl, Nat.le_of_lt (line_le hz), post.str w⟩)
      · cases h
    | _ => cases h
  | @lst a1 vs1 ds1 h1 l1 => cases r2 with
    | @lst a2 vs2 ds2 h2 l2 =>
      have h : (if ds1.length + ds2.length ≤ 1000000 then some (O.ol ((ds1 ++ ds2).map .fz)) else none) = some o := h
      split at h
      · rename_i hz
        cases h
        exact .inr (.inr (.inl ⟨a1, a2, vs1, vs2, rfl, rfl, seen_ex w h1 (fun z => z), seen_ex w h2 (fun z => z), by rw [← l1.len, ← l2.len]; exact Nat.le_of_lt (line_le hz), fun p hp => post.lst w (l1.app l2) hp⟩))
      · cases h
    | _ => cases h
  | @tup a1 vs1 ds1 h1 l1 => cases r2 with
    | @tup a2 vs2 ds2 h2 l2 =>
      have h : (if ds1.length + ds2.length ≤ 1000000 ∧ 0 < ds1.length then some (O.fz (.tup (ds1 ++ ds2))) else none) = some o := h
      split at h
      · rename_i hz
        cases h
        refine .inr (.inr (.inr ⟨a1, a2, vs1, vs2, rfl, rfl, seen_tup w h1, seen_tup w h2, fun e => ?_, by rw [← l1.len, ← l2.len]; exact Nat.le_of_lt (line_le hz.1), fun e => ?_, fun _ p hp => post.tup w (l1.app l2) hp⟩))
        · have := l1.len
          rw [e] at this
          simp at this
          rw [this] at hz
          simp at hz
        · subst e
          cases l2
          rw [List.append_nil] at post
          exact post.fz w (.tup h1 l1)
      · cases h
    | _ => cases h
  | _ => cases r2 <;> cases h⟩
theorem P_sub : Op2 mg pSub (rI0 fun i j => .int (i - j)) := ⟨fun g cs H as d e x y o Q w r1 r2 h post => by
  cases r1 with
  | @int i => cases r2 with
    | @int j => cases h; exact ⟨i, j, rfl, rfl, post.int w⟩
    | _ => cases h
  | _ => cases r2 <;> cases h⟩
def rMulG : R2 := fun x y H Q => rI CMul (fun i j => .int (i * j)) x y H Q ∨ rRep x y H Q
theorem op_mulG : OpR X (binaryOp .Mult) rMulG := op_mul.or op_rep
theorem cmul_of {i j : Int} (h : i.natAbs < 2 ^ 64 ∨ j.natAbs < 2 ^ 64) : CMul i j := by
  have key : ∀ k : Int, k.natAbs < 2 ^ 64 → -(2 ^ 64) < k ∧ k < 2 ^ 64 := fun k hk => by
    have : (k.natAbs : Int) < 2 ^ 64 := by exact_mod_cast hk
    omega
  rcases h with h | h
  · exact .inl (key i h)
  · exact .inr (key j h)
theorem P_mul : Op2 mg pMul rMulG := ⟨fun g cs H as d e x y o Q w r1 r2 h post => by
  cases r1 with
  | @int i => cases r2 with
    | @int j =>
      have h : (if i.natAbs < 2 ^ 64 ∨ j.natAbs < 2 ^ 64 then iO (i * j) else none) = some o := h
      split at h
      · rename_i hz
        cases h
        exact .inl ⟨i, j, rfl, rfl, cmul_of hz, post.int w⟩
      · cases h
    | _ => cases h
  | @lst a1 vs1 ds1 h1 l1 => cases r2 with
    | @int k =>
      have h : (if -(2 ^ 63) ≤ k ∧ k < 2 ^ 63 ∧ ds1.length * k.toNat ≤ 1000000 then some (O.ol ((List.replicate k.toNat ds1).flatten.map .fz)) else none) = some o := h
      split at h
      · rename_i hz
        cases h
        exact .inr ⟨a1, k, vs1, rfl, rfl, seen_ex w h1 (fun z => z), hz.1, hz.2.1, by rw [← l1.len]; exact Nat.le_of_lt (line_le hz.2.2), fun p hp => post.lst w (l1.rep _) hp⟩
      · cases h
    | _ => cases h
  | _ => cases r2 <;> cases h⟩
theorem P_mod : Op2 mg pMod (rI (fun _ j => 0 < j) fun i j => .int (i % j)) := ⟨fun g cs H as d e x y o Q w r1 r2 h post => by
  cases r1 with
  | @int i => cases r2 with
    | @int j =>
      have h : (if 0 < j then iO (i % j) else none) = some o := h
      split at h
      · rename_i hz
        cases h
        exact ⟨i, j, rfl, rfl, hz, post.int w⟩
      · cases h
    | _ => cases h
  | _ => cases r2 <;> cases h⟩
theorem P_fdiv : Op2 mg pFdiv (rI CDiv fun i j => .int (i / j)) := ⟨fun g cs H as d e x y o Q w r1 r2 h post => by
  cases r1 with
  | @int i => cases r2 with
    | @int j =>
      have h : (if 0 < j ∧ j < 1073741824 then iO (i / j) else none) = some o := h
      split at h
      · rename_i hz
        cases h
        exact ⟨i, j, rfl, rfl, hz, post.int w⟩
      · cases h
    | _ => cases h
  | _ => cases r2 <;> cases h⟩
def CPowG (i j : Int) : Prop := 0 ≤ j ∧ (Builtin.Int.intBits i : Int) * j ≤ 2 ^ 27
theorem op_powG : OpR X (binaryOp .Pow) (rI CPowG fun i j => .int (i ^ j.toNat)) := opI fun _ _ _ _ _ _ _ hc q => PyProof.Rows.pow_int hc.1 hc.2 q
theorem P_pow : Op2 mg pPow (rI CPowG fun i j => .int (i ^ j.toNat)) := ⟨fun g cs H as d e x y o Q w r1 r2 h post => by
  cases r1 with
  | @int i => cases r2 with
    | @int j =>
      have h : (if 0 ≤ j ∧ (Builtin.Int.intBits i : Int) * j ≤ 2 ^ 27 then iO (i ^ j.toNat) else none) = some o := h
      split at h
      · rename_i hz
        cases h
        exact ⟨i, j, rfl, rfl, hz, post.int w⟩
      · cases h
    | _ => cases h
  | _ => cases r2 <;> cases h⟩
theorem P_neg : Op1 mg pNeg (rU fun i => .int (-i)) := ⟨fun g cs H as d x o Q w r1 h post => by
  cases r1 with
  | @int i => cases h; exact ⟨i, rfl, post.int w⟩
  | _ => cases h⟩
/-! ### comparisons -/
def eqT : D → D → Option O
  | .tup ds, .tup [] => bO ds.isEmpty
  | _, _ => none
def pEq : D → D → Cells → Option O := fun d e _ => if okD 60 d = true ∧ okD 60 e = true then bO (eqD d e) else eqT d e
def pNe : D → D → Cells → Option O := fun d e _ => if okD 60 d = true ∧ okD 60 e = true then bO (!eqD d e) else none
def rEqG : R2 := fun x y H Q => (∃ mg g cs as d e, Wf mg g cs H as ∧ Rep g d x ∧ Rep g e y ∧ okD 60 d = true ∧ okD 60 e = true ∧ Q (.bl (eqD d e)) H) ∨ ∃ mg g cs as ds, Wf mg g cs H as ∧ Rep g (.tup ds) x ∧ Rep g (.tup []) y ∧ Q (.bl ds.isEmpty) H
def rNeG : R2 := fun x y H Q => ∃ mg g cs as d e, Wf mg g cs H as ∧ Rep g d x ∧ Rep g e y ∧ okD 60 d = true ∧ okD 60 e = true ∧ Q (.bl (!eqD d e)) H
theorem op_eqG (hu : X.A.units + 64 < cLine) : OpR X (compareOp .Eq) rEqG := by
  intro pins s σ H x y v u Q I rx ry h
  rcases h with ⟨mg, g, cs, as, d, e, w, r1, r2, k, l, q⟩ | ⟨mg, g, cs, as, ds, w, r1, r2, q⟩
  · exact (rcAt_D 60 X.A d e v u (by omega) (dr_of I w r1 rx k) (dr_of I w r2 ry l) k l).1 X.prog X.w _ _ ⟨.bl _, H, I, rfl, q⟩
  · cases r1 with
    | @tup a vs _ hF l =>
      cases r2 with
      | @tup b ws _ hF' l' =>
        cases l'
        cases rx; cases ry
        obtain ⟨its, rv, p, _⟩ := I.tuple (seen_tup (K := X.K) w hF)
        obtain ⟨its2, rv2, p2, _⟩ := I.tuple (seen_tup (K := X.K) w hF')
        cases rv2
        have n1 : ds.length = its.length := l.len.trans rv.length
        have t := SeqAt.RcAt.tuples (A := X.A) (e := fun _ => true) p p2 (by omega) (fun j j1 j2 => absurd j2 (by simp))
        have e : ((List.range (min its.toArray.size ([] : List Value).toArray.size)).all (fun _ => true) && its.toArray.size == ([] : List Value).toArray.size) = ds.isEmpty := by
          cases ds with
          | nil =>
            have : its = [] := List.length_eq_zero_iff.mp n1.symm
            subst this; rfl
          | cons d r =>
            cases its with
            | nil => cases n1
            | cons u us => simp
        rw [e] at t
        exact t X.prog X.w _ _ ⟨.bl _, H, I, rfl, q⟩
theorem op_neG (hu : X.A.units + 64 < cLine) : OpR X (compareOp .NotEq) rNeG := by
  intro pins s σ H x y v u Q I rx ry ⟨mg, g, cs, as, d, e, w, r1, r2, k, l, q⟩
  exact (rcAt_D 60 X.A d e v u (by omega) (dr_of I w r1 rx k) (dr_of I w r2 ry l) k l).2 X.prog X.w _ _ ⟨.bl _, H, I, rfl, q⟩
theorem P_eq : Op2 mg pEq rEqG := ⟨fun g cs H as d e x y o Q w r1 r2 h post => by
  unfold pEq at h
  split at h
  · rename_i hz
    cases h
    exact .inl ⟨mg, g, cs, as, d, e, w, r1, r2, hz.1, hz.2, post.bl w⟩
  · unfold eqT at h
    split at h
    · cases h; exact .inr ⟨mg, g, cs, as, _, w, r1, r2, post.bl w⟩
    · cases h⟩
theorem P_ne : Op2 mg pNe rNeG := ⟨fun g cs H as d e x y o Q w r1 r2 h post => by
  unfold pNe at h
  split at h
  · rename_i hz
    cases h
    exact ⟨mg, g, cs, as, d, e, w, r1, r2, hz.1, hz.2, post.bl w⟩
  · cases h⟩
def pLt : D → D → Cells → Option O
  | .int i, .int j, _ => bO (decide (i < j))
  | _, _, _ => none
def pLe : D → D → Cells → Option O
  | .int i, .int j, _ => bO (decide (i ≤ j))
  | _, _, _ => none
def pGt : D → D → Cells → Option O
  | .int i, .int j, _ => bO (decide (j < i))
  | _, _, _ => none
def pGe : D → D → Cells → Option O
  | .int i, .int j, _ => bO (decide (j ≤ i))
  | _, _, _ => none
theorem P_lt : Op2 mg pLt (rI0 fun i j => .bl (decide (i < j))) := ⟨fun g cs H as d e x y o Q w r1 r2 h post => by
  cases r1 with
  | @int i => cases r2 with
    | @int j => cases h; exact ⟨i, j, rfl, rfl, post.bl w⟩
    | _ => cases h
  | _ => cases r2 <;> cases h⟩
theorem P_le : Op2 mg pLe (rI0 fun i j => .bl (decide (i ≤ j))) := ⟨fun g cs H as d e x y o Q w r1 r2 h post => by
  cases r1 with
  | @int i => cases r2 with
    | @int j => cases h; exact ⟨i, j, rfl, rfl, post.bl w⟩
    | _ => cases h
  | _ => cases r2 <;> cases h⟩
theorem P_gt : Op2 mg pGt (rI0 fun i j => .bl (decide (j < i))) := ⟨fun g cs H as d e x y o Q w r1 r2 h post => by
  cases r1 with
  | @int i => cases r2 with
    | @int j => cases h; exact ⟨i, j, rfl, rfl, post.bl w⟩
    | _ => cases h
  | _ => cases r2 <;> cases h⟩
theorem P_ge : Op2 mg pGe (rI0 fun i j => .bl (decide (j ≤ i))) := ⟨fun g cs H as d e x y o Q w r1 r2 h post => by
  cases r1 with
  | @int i => cases r2 with
    | @int j => cases h; exact ⟨i, j, rfl, rfl, post.bl w⟩
    | _ => cases h
  | _ => cases r2 <;> cases h⟩
/-- is None, is not None -/
def isNonD : D → Bool
  | .non => true
  | _ => false
def pIs : D → D → Cells → Option O
  | d, .non, _ => bO (isNonD d)
  | _, _, _ => none
def pNot : D → D → Cells → Option O
  | d, .non, _ => bO (!isNonD d)
  | _, _, _ => none
theorem isNon_rep {g : Gh} {d : D} {x : V} (r : Rep g d x) : decide (x = .non) = isNonD d := by cases r <;> rfl
theorem P_is : Op2 mg pIs (fun x y H Q => y = .non ∧ Q (.bl (decide (x = .non))) H) := ⟨fun g cs H as d e x y o Q w r1 r2 h post => by
  cases r2 with
  | non =>
    cases h
    rw [isNon_rep r1]
    exact ⟨rfl, post.bl w⟩
  | _ => cases h⟩
theorem P_not : Op2 mg pNot (fun x y H Q => y = .non ∧ Q (.bl (!decide (x = .non))) H) := ⟨fun g cs H as d e x y o Q w r1 r2 h post => by
  cases r2 with
  | non =>
    cases h
    rw [isNon_rep r1]
    exact ⟨rfl, post.bl w⟩
  | _ => cases h⟩
/-! a op b op c -/
def xChain (p q : D → D → Cells → Option O) (ma mb mc : XM) : XM := fun env cs => (ma env cs).bind fun d env cs => (mb env cs).bind fun e env cs => match p d e cs with
  | some (.fz (.bl true)) => (mc env cs).bind fun f env cs => ofO (q e f cs) env cs
  | some (.fz (.bl false)) => .ok (.fz (.bl false)) env cs
  | _ => .bad
theorem chain_red {r r' : R2} {p q : D → D → Cells → Option O} {mc : XM} {W : WX} {σ : St} {H : Hp} {Q : VK} (P : Op2 mg p r) (P' : Op2 mg q r') (h : tX mg (xChain p q ma mb mc) W σ H Q) : tChain r r' (tX mg ma W) (tX mg mb W) (tX mg mc W) σ H Q := by
  obtain ⟨g, cs, env, as, w, ev, f⟩ := h
  refine ⟨g, cs, env, as, w, ev, f.bind.imp fun v H1 ⟨g1, cs1, env1, as1, d, G, rp, f⟩ => ?_⟩
  refine ⟨g1, cs1, env1, as1, G.wf, G.env, f.bind.imp fun u H2 ⟨g2, cs2, env2, as2, e, G2, rp2, f⟩ => ?_⟩
  cases z : p d e cs2 with
  | none => rw [z] at f; exact f.elim
  | some o =>
    refine P.run g2 cs2 H2 as2 d e v u o _ G2.wf (rp.mono G2.adv.le) rp2 z ?_
    rw [z] at f
    split at f
    · rename_i hz
      cases hz
      intro v' H' g' bs a' w' r' n'
      cases r' with
      | fz r' =>
        cases r'
        refine ⟨true, rfl, ?_⟩
        rw [if_pos rfl]
        have w'' : Wf mg g' cs2 H' as2 := by simpa using w'
        have f := Fin.rebase a'.weakE (Sub.refl as2 H2) f
        exact ⟨g', cs2, env2, as2, w'', G2.env.keep G2.wf a', f.bind.imp fun t H3 ⟨g3, cs3, env3, as3, e3, G3, rp3, f⟩ => by
          cases z3 : q e e3 cs3 with
          | none => rw [z3] at f; exact f.elim
          | some o3 => rw [z3] at f; exact P'.run g3 cs3 H3 as3 e e3 u t o3 Q G3.wf ((rp2.mono a'.le).mono G3.adv.le) rp3 z3 (f.post G3.wf G3.env)⟩
    · rename_i hz
      cases hz
      intro v' H' g' bs a' w' r' n'
      cases r' with
      | fz r' =>
        cases r'
        refine ⟨false, rfl, ?_⟩
        rw [if_neg Bool.false_ne_true]
        have w'' : Wf mg g' cs2 H' as2 := by simpa using w'
        have f := Fin.rebase a'.weakE (Sub.refl as2 H2) f
        exact (f.post w'' (G2.env.keep G2.wf a')).bl w''
    · exact f.elim
theorem em_chain {op op' : CmpOp} {r r' : R2} {p q : D → D → Cells → Option O} {c : Expr} {mc : XM} (ho : OpR X (compareOp op) r) (P : Op2 (md X) p r) (ho' : OpR X (compareOp op') r') (P' : Op2 (md X) q r') (ha : Em X a ma) (hb : Em X b mb) (hc : Em X c mc)
    (hm : lastMarks [op, op'] [b, c] = false := by with_unfolding_all rfl) : Em X (.Compare a [op, op'] [b, c] pos) (xChain p q ma mb mc) := ⟨fun W tk => pe_imp (pe_chain ho ho' (ha.run W tk) (hb.run W tk) (hc.run W tk) hm) fun _ _ _ h => chain_red P P' h⟩
theorem tm_chain {op op' : CmpOp} {r r' : R2} {p q : D → D → Cells → Option O} {c : Expr} {mc : XM} (ho : OpR X (compareOp op) r) (P : Op2 (md X) p r) (ho' : OpR X (compareOp op') r') (P' : Op2 (md X) q r') (ha : Em X a ma) (hb : Em X b mb) (hc : Em X c mc)
    (hm : lastMarks [op, op'] [b, c] = false := by with_unfolding_all rfl) : Tm X (.Compare a [op, op'] [b, c] pos) (xChain p q ma mb mc) := ⟨fun W tk => pt_imp (pt_chain ho ho' (ha.run W tk) (hb.run W tk) (hc.run W tk) hm) fun _ _ _ h => chain_red P P' h⟩
end
end GM
namespace GM
open PySem PySem.Spec L2
/-! ### lists of values that nobody else holds -/
inductive ORes where | ok (os : List O) (env : Ev) (cs : Cells) | exc (x : D) (env : Ev) (cs : Cells) | bad
abbrev OM := Ev → Cells → ORes
def oNil : OM := fun env cs => .ok [] env cs
def oCons (m : XM) (l : OM) : OM := fun env cs => match m env cs with
  | .ok o env cs => match l env cs with
    | .ok os env cs => .ok (o :: os) env cs
    | .exc x env cs => .exc x env cs
    | .bad => .bad
  | .exc x env cs => .exc x env cs
  | .bad => .bad
def oStar (m : XM) (l : OM) : OM := fun env cs => match m env cs with
  | .ok o env cs => match itemsD (frz o) with
    | some ds => match l env cs with
      | .ok os env cs => .ok (ds.map .fz ++ os) env cs
      | .exc x env cs => .exc x env cs
      | .bad => .bad
    | none => .bad
  | .exc x env cs => .exc x env cs
  | .bad => .bad
def FinO (mg : Mg) (g0 : Gh) (H0 : Hp) (as0 : List Addr) (W : WX) (σ : St) (Q : List V → Hp → Prop) : ORes → Prop
  | .ok os env cs => ∀ (vs : List V) (H : Hp) (g : Gh) (as bs : List Addr), AdvE g0 g H0 H as0 → Sub as as0 H0 → Wf mg g cs H (bs ++ as) → EnvR g H env σ as → RepOL g H os vs bs → (∀ b ∈ bs, H0 b = none) → Q vs H
  | .exc x env cs => ∀ (cls : Value) (d : Option Addr) (H : Hp) (g : Gh) (as : List Addr), AdvE g0 g H0 H as0 → Sub as as0 H0 → Wf mg g cs H as → EnvR g H env σ as → ExR g x cls d → W cls d σ H
  | .bad => False
def tAO (mg : Mg) (m : OM) (W : WX) : TA := fun σ H Q => ∃ g cs env as, Wf mg g cs H as ∧ EnvR g H env σ as ∧ FinO mg g H as W σ Q (m env cs)
structure Ao (X : Cx) (es : List Expr) (m : OM) : Prop where
  run : ∀ W, Takes X W → PA X es (tAO (md X) m W)
theorem FinO.rebase {mg : Mg} {g0 g1 : Gh} {H0 H1 : Hp} {as0 as1 : List Addr} {W : WX} {σ : St} {R : List V → Hp → Prop} {r : ORes} (a : AdvE g0 g1 H0 H1 as0) (s : Sub as1 as0 H0) (h : FinO mg g0 H0 as0 W σ R r) : FinO mg g1 H1 as1 W σ R r := by
  cases r with
  | ok o env cs => exact fun v H g as bs a' s' w e r n => h v H g as bs (a.trans s a') (s.trans (fun _ => a.none) s') w e r fun b hb => a.none (n b hb)
  | exc x env cs => exact fun c d H g as a' s' w e r => h c d H g as (a.trans s a') (s.trans (fun _ => a.none) s') w e r
  | bad => exact h
theorem RepOL.fzApp {g : Gh} {H : Hp} {os : List O} {ws : List V} {bs : List Addr} (q : RepOL g H os ws bs) : ∀ {ds : List D} {vs : List V}, RepL g ds vs → RepOL g H (ds.map .fz ++ os) (vs ++ ws) bs
  | _, _, .nil => q
  | _, _, .cons h r => RepOL.cons (as := []) (.fz h) (q.fzApp r)
section
variable {X : Cx} {a : Expr} {es : List Expr} {pos : Pos} {ma : XM} {ml : OM} {mm : LM}
theorem ao_nil : Ao X [] oNil := ⟨fun W tk => pa_imp pa_nil fun σ H Q ⟨g, cs, env, as, w, ev, f⟩ => f [] H g as [] (.refl _ _ _) (.refl _ _) w ev .nil fun _ z => nomatch z⟩
theorem ao_cons (ha : Em X a ma) (hr : Ao X es ml) (hs : starEach (a :: es) X.env = (false, eval a X.env) :: starEach es X.env := by rfl) : Ao X (a :: es) (oCons ma ml) :=
  ⟨fun W tk => pa_imp (pa_cons (ha.run W tk) (hr.run W tk) hs) fun σ H Q ⟨g, cs, env, as, w, ev, f⟩ => by
    refine ⟨g, cs, env, as, w, ev, ?_⟩
    unfold oCons at f
    cases q : ma env cs with
    | exc x e1 c1 => rw [q] at f; exact f
    | bad => rw [q] at f; exact f
    | ok o e1 c1 =>
      rw [q] at f
      intro v H1 g1 as1 bs1 a1 s1 w1 ev1 r1 n1
      have w1a := w1.sub (List.nodup_append.mp w1.nd).2.1 fun x h => List.mem_append_right _ h
      refine ⟨g1, c1, e1, as1, w1a, ev1, ?_⟩
      dsimp only at f
      cases q2 : ml e1 c1 with
      | exc x e2 c2 =>
        rw [q2] at f
        exact fun c d H2 g2 as2 a2 s2 w2 ev2 r2 => f c d H2 g2 as2 (a1.trans s1 a2) (s1.trans (fun _ => a1.none) s2) w2 ev2 r2
      | bad => rw [q2] at f; exact f
      | ok os e2 c2 =>
        rw [q2] at f
        intro vs H2 g2 as2 bs2 a2 s2 w2 ev2 r2 n2
        refine f (v :: vs) H2 g2 as2 (bs1 ++ bs2) (a1.trans s1 a2) (s1.trans (fun _ => a1.none) s2) ?_ ev2 (.cons (r1.mono a2.le (carry_keep w1 a2.toAdv)) r2) fun b hb => ?_
        · rw [List.append_assoc]
          refine Wf.carry w1 a2.toAdv (fun x hx => ?_) w2
          rcases List.mem_append.mp hx with z | z
          · exact .inr (n2 x z)
          · exact s2 x z
        · rcases List.mem_append.mp hb with z | z
          · exact n1 b z
          · exact a1.none (n2 b z)⟩
theorem ao_star {p : Pos} (ha : Em X a ma) (hr : Ao X es ml) (hs : starEach (.Starred a p :: es) X.env = (true, eval a X.env) :: starEach es X.env := by rfl) : Ao X (.Starred a p :: es) (oStar ma ml) :=
  ⟨fun W tk => pa_imp (StX.pa_star (ha.run W tk) (hr.run W tk) hs) fun σ H Q ⟨g, cs, env, as, w, ev, f⟩ => by
    refine ⟨g, cs, env, as, w, ev, ?_⟩
    unfold oStar at f
    cases q : ma env cs with
    | exc x e1 c1 => rw [q] at f; exact f
    | bad => rw [q] at f; exact f
    | ok o e1 c1 =>
      rw [q] at f
      intro v H1 g1 as1 bs1 a1 s1 w1 ev1 r1 n1
      obtain ⟨g2, G, rp⟩ := got_freeze a1 s1 w1 ev1 r1 n1
      dsimp only at f
      generalize frz o = dd at f rp
      have fin : ∀ (ds : List D) (xs : List V) (aa : Addr), itemsD dd = some ds → v = .ref aa → (SqT X.K H1 aa xs ∨ SqL X.K H1 aa xs) → RepL g2 ds xs →
          ∃ p xs, v = V.ref p ∧ (SqT X.K H1 p xs ∨ SqL X.K H1 p xs) ∧ tAO (md X) ml W σ H1 fun ys H2 => Q (xs ++ ys) H2 := by
        intro ds xs aa e e2 hs rl
        refine ⟨aa, xs, e2, hs, g2, c1, e1, as1, G.wf, G.env, ?_⟩
        rw [e] at f
        dsimp only at f
        cases q2 : ml e1 c1 with
        | exc x e2 c2 =>
          rw [q2] at f
          exact fun c d H2 g3 as2 a2 s2 w2 ev2 r2 => f c d H2 g3 as2 (G.adv.trans G.sub a2) (G.sub.trans (fun _ => G.adv.none) s2) w2 ev2 r2
        | bad => rw [q2] at f; exact f
        | ok os e2 c2 =>
          rw [q2] at f
          intro vs H2 g3 as2 bs2 a2 s2 w2 ev2 r2 n2
          exact f (xs ++ vs) H2 g3 as2 bs2 (G.adv.trans G.sub a2) (G.sub.trans (fun _ => G.adv.none) s2) w2 ev2 (r2.fzApp (rl.mono a2.le)) fun b hb => G.adv.none (n2 b hb)
      cases rp with
      | @lst aa vs ds hF rl => exact fin ds vs aa rfl rfl (.inr (seen_lst G.wf hF)) rl
      | @tup aa vs ds hF rl => exact fin ds vs aa rfl rfl (.inl (seen_tup G.wf hF)) rl
      | _ => exact f.elim⟩
/-! ### displays -/
def xLst (m : OM) : XM := fun env cs => match m env cs with
  | .ok os env cs => if os.length ≤ 1000000 then .ok (.ol os) env cs else .bad
  | .exc x env cs => .exc x env cs
  | .bad => .bad
def xTup (m : LM) : XM := fun env cs => (m env cs).bind fun ds env cs => if ds.length ≤ 1000000 then .ok (.fz (.tup ds)) env cs else .bad
theorem em_lst (h : Ao X es ml) : Em X (.List es pos) (xLst ml) := ⟨fun W tk => pe_imp (pe_lst (h.run W tk)) fun σ H Q ⟨g, cs, env, as, w, ev, f⟩ => by
  refine ⟨g, cs, env, as, w, ev, ?_⟩
  unfold xLst at f
  cases q : ml env cs with
  | exc x e1 c1 => rw [q] at f; exact f
  | bad => rw [q] at f; exact f
  | ok os e1 c1 =>
    rw [q] at f
    intro vs H1 g1 as1 bs1 a1 s1 w1 ev1 r1 n1
    dsimp only at f
    split at f
    · rename_i hz
      refine ⟨by rw [← RepOL.len r1]; exact Nat.le_of_lt (line_le hz), fun p hp => ?_⟩
      have w2 : Wf (md X) g1 c1 (upd H1 p (.lst vs)) (p :: (bs1 ++ as1)) := w1.alloc hp
      have ne : ∀ x ∈ bs1 ++ as1, upd H1 p (.lst vs) x = H1 x := fun x hx => upd_ne fun e => w1.newA hp (by rw [← e]; exact hx)
      refine f (.ref p) _ g1 as1 (p :: bs1) (a1.trans s1 (adv_alloc hp)) s1 w2 (ev1.mono (.refl _) fun x hx => ne x (List.mem_append_right _ hx)) (.ol upd_same (r1.mono (.refl _) fun x hx => ne x (List.mem_append_left _ hx))) fun b hb => ?_
      rcases List.mem_cons.mp hb with e | hb
      · rw [e]; exact a1.none hp
      · exact n1 b hb
    · exact f.elim⟩
theorem em_tup {k} (h : Am X es mm) : Em X (.Tuple es k pos) (xTup mm) := ⟨fun W tk => pe_imp (pe_tup (h.run W tk)) fun σ H Q ⟨g, cs, env, as, w, ev, f⟩ => by
  refine ⟨g, cs, env, as, w, ev, (FinL.bind f).imp fun vs H1 ⟨g1, cs1, env1, as1, ds, G, rl, f⟩ => ?_⟩
  split at f
  · rename_i hz
    exact ⟨by rw [← rl.len]; exact Nat.le_of_lt (line_le hz), fun p hp => (f.post G.wf G.env).tup G.wf rl hp⟩
  · exact f.elim⟩
/-- {} to be filled by ints and texts, or by tuples -/
theorem em_dnewK : Em X (.Dict [] [] pos) (fun env cs => .ok (.od 0 []) env cs) := ⟨fun W tk => pe_imp pe_dnewK fun σ H Q ⟨g, cs, env, as, w, ev, f⟩ => fun p hp =>
  (Fin.post w ev f).new w hp (.odK upd_same .nil)⟩
theorem em_dnewT : Em X (.Dict [] [] pos) (fun env cs => .ok (.od 1 []) env cs) := ⟨fun W tk => pe_imp pe_dnewT fun σ H Q ⟨g, cs, env, as, w, ev, f⟩ => fun p hp =>
  (Fin.post w ev f).new w hp (.odT upd_same .nil)⟩
end
/-! ### dicts looked up -/
def isKey : D → Bool
  | .int _ => true
  | .str _ => true
  | _ => false
def keyOk (t : Nat) (d : D) : Bool := match t, d with
  | 0, d => isKey d
  | 1, .tup ds => ds.all isKey
  | _, _ => false
def dget (kvs : List (D × D)) (d : D) : Option D := (kvs.find? fun p => eqD p.1 d).map (·.2)
theorem isKey_at {g : Gh} {d : D} {y : V} (r : Rep g d y) (h : isKey d = true) : ∃ k : Key, d = keyD k ∧ y = kV k := by
  cases r with
  | @int i => exact ⟨.inl i, rfl, rfl⟩
  | @str s => exact ⟨.inr s, rfl, rfl⟩
  | _ => cases h
theorem eq_keyD (k l : Key) : eqD (keyD k) (keyD l) = decide (k = l) := by
  cases k <;> cases l <;> simp only [keyD, eqD]
  · rename_i a b
    by_cases e : a = b <;> simp [e]
  · simp
  · simp
  · rename_i a b
    by_cases e : a = b <;> simp [e]
theorem eq_keysD : ∀ (k l : List Key), eqD (.tup (k.map keyD)) (.tup (l.map keyD)) = decide (k = l)
  | [], [] => by simp [eqD, eqDL]
  | [], y :: l => by simp [eqD, eqDL]
  | x :: k, [] => by simp [eqD, eqDL]
  | x :: k, y :: l => by
    have ih := eq_keysD k l
    simp only [eqD, List.map_cons, eqDL] at ih ⊢
    rw [ih, eq_keyD]
    by_cases e : x = y <;> by_cases e2 : k = l <;> simp [e, e2]
theorem dget_K {g : Gh} {k : Key} : ∀ {ds : List (D × D)} {kvs : List (Key × V)}, RepK g ds kvs → (dget ds (keyD k) = none ∧ valV kvs k = none) ∨ ∃ d v, dget ds (keyD k) = some d ∧ valV kvs k = some v ∧ Rep g d v
  | _, _, .nil => .inl ⟨rfl, rfl⟩
  | _, _, @RepK.cons _ k' d v ds vs h r => by
    by_cases e : k' = k
    · subst e
      refine .inr ⟨d, v, ?_, valV_pos rfl, h⟩
      simp [dget, List.find?_cons, eq_keyD]
    · have e1 : dget ((keyD k', d) :: ds) (keyD k) = dget ds (keyD k) := by simp [dget, List.find?_cons, eq_keyD, e]
      rw [e1, valV_neg e]
      exact dget_K r
theorem dget_T {g : Gh} {k : List Key} : ∀ {ds : List (D × D)} {kvs : List (List Key × V)}, RepT g ds kvs → (dget ds (.tup (k.map keyD)) = none ∧ valV kvs k = none) ∨ ∃ d v, dget ds (.tup (k.map keyD)) = some d ∧ valV kvs k = some v ∧ Rep g d v
  | _, _, .nil => .inl ⟨rfl, rfl⟩
  | _, _, @RepT.cons _ k' d v ds vs h r => by
    by_cases e : k' = k
    · subst e
      refine .inr ⟨d, v, ?_, valV_pos rfl, h⟩
      simp [dget, List.find?_cons, eq_keysD]
    · have e1 : dget ((.tup (k'.map keyD), d) :: ds) (.tup (k.map keyD)) = dget ds (.tup (k.map keyD)) := by simp [dget, List.find?_cons, eq_keysD, e]
      rw [e1, valV_neg e]
      exact dget_T r
theorem keys_at {g : Gh} : ∀ {ds : List D} {vs : List V}, RepL g ds vs → ds.all isKey = true → ∃ k : List Key, ds = k.map keyD ∧ vs = k.map kV
  | _, _, .nil, _ => ⟨[], rfl, rfl⟩
  | _, _, .cons h r, z => by
    rw [List.all_cons, Bool.and_eq_true] at z
    obtain ⟨k, e1, e2⟩ := isKey_at h z.1
    obtain ⟨l, e3, e4⟩ := keys_at r z.2
    exact ⟨k :: l, by rw [e1, e3]; rfl, by rw [e2, e4]; rfl⟩
/-- a look-up, by the heap -/
theorem look_d {mg : Mg} {g : Gh} {cs : Cells} {H : Hp} {as : List Addr} {t : Nat} {kvs : List (D × D)} {d : D} {x y : V} (w : Wf mg g cs H as) (r : Rep g (.dic t kvs) x) (ry : Rep g d y) (k : keyOk t d = true) :
    ∃ a o, x = .ref a ∧ DGet H a y o ∧ (o = none ∧ dget kvs d = none ∨ ∃ e v, o = some v ∧ dget kvs d = some e ∧ Rep g e v) := by
  cases r with
  | @dK a ks _ hF rk =>
    have k : isKey d = true := k
    obtain ⟨q, rfl, rfl⟩ := isKey_at ry k
    refine ⟨a, valV ks q, rfl, .inl ⟨ks, q, (w.see a _ hF).rd, rfl, rfl⟩, ?_⟩
    rcases dget_K (k := q) rk with ⟨e1, e2⟩ | ⟨e, v, e1, e2, e3⟩
    · exact .inl ⟨e2, e1⟩
    · exact .inr ⟨e, v, e2, e1, e3⟩
  | @dT a ks _ hF rk =>
    cases ry with
    | @tup b vs ds hb rl =>
      have k : ds.all isKey = true := k
      obtain ⟨q, rfl, rfl⟩ := keys_at rl k
      refine ⟨a, valV ks q, rfl, .inr ⟨ks, q, b, (w.see a _ hF).rd, rfl, seen_ex w hb (fun z => z), rfl⟩, ?_⟩
      rcases dget_T (k := q) rk with ⟨e1, e2⟩ | ⟨e, v, e1, e2, e3⟩
      · exact .inl ⟨e2, e1⟩
      · exact .inr ⟨e, v, e2, e1, e3⟩
    | _ => cases k
/-! ### subscripts -/
def atD (xs : List D) (i : Int) : Option D := atI xs i
theorem atI_rep {g : Gh} {ds : List D} {vs : List V} {i : Int} {d : D} (r : RepL g ds vs) (h : atI ds i = some d) : ∃ v, atI vs i = some v ∧ Rep g d v := by
  unfold atI at h ⊢
  rw [r.len] at h
  cases q : ixN vs.length i with
  | none => rw [q] at h; cases h
  | some j =>
    rw [q] at h
    exact r.get h
def pIx : D → D → Cells → Option O
  | .lst ds, .int i, _ => (atI ds i).map .fz
  | .tup ds, .int i, _ => (atI ds i).map .fz
  | .scr ds, .int i, _ => (atI ds i).map .fz
  | .str z, .int i, _ => if z.length ≤ 1000000 then (atI z.cps.toList i).map fun c => .fz (.str ⟨#[c]⟩) else none
  | .dic t kvs, d, _ => if keyOk t d = true then (dget kvs d).map .fz else none
  | .cel n, d, cs => match cs[n]?, d with
    | some (.lst ds), .int i => (atI ds i).map .fz
    | _, _ => none
  | _, _, _ => none
def rIxG (K : PySem.W.Frag) : R2 := fun x y H Q => rIx K x y H Q ∨ ∃ a v, x = .ref a ∧ DGet H a y (some v) ∧ Q v H
section
variable {X : Cx}
theorem ix_dict (hu : X.A.units + 1 < cLine) : IxR X (fun x y H Q => ∃ a v, x = .ref a ∧ DGet H a y (some v) ∧ Q v H) := by
  intro value slice pins s σ H x y v u Q I rx ry h hs
  obtain ⟨a, z, rfl, gt, q⟩ := h
  cases rx
  exact PyProof.Rows.tail_any (dict_typeIs I gt) PySem.F.slot_dict_getitem.lookup (d_getItem hu I gt ry fun w' s3 I3 rw' => ⟨z, H, I3, rw', q⟩) hs
theorem ix_G (hu : X.A.units + 1 < cLine) : IxR X (rIxG X.K) := ix_seq.or (ix_dict hu)
theorem P_ix {mg : Mg} : Op2 mg pIx (rIxG mg.K) := ⟨fun g cs H as d e x y o Q w r1 r2 h post => by
  have num : ∀ {ds : List D} {i : Int} {vs : List V} {a : Addr}, (atI ds i).map O.fz = some o → RepL g ds vs → (SqL mg.K H a vs ∨ SqT mg.K H a vs) → rIxG mg.K (.ref a) (.int i) H Q := by
    intro ds i vs a h rl hs
    cases q : atI ds i with
    | none => rw [q] at h; cases h
    | some d' =>
      rw [q] at h
      cases h
      obtain ⟨v, hv, rv⟩ := atI_rep rl q
      rcases hs with hs | hs
      · exact .inl (.inl ⟨a, vs, i, v, rfl, rfl, hs, hv, post.fz w rv⟩)
      · exact .inl (.inr (.inl ⟨a, vs, i, v, rfl, rfl, hs, hv, post.fz w rv⟩))
  have dic : ∀ {t : Nat} {kvs : List (D × D)}, Rep g (.dic t kvs) x → (if keyOk t e = true then (dget kvs e).map O.fz else none) = some o → rIxG mg.K x y H Q := by
    intro t kvs r h
    split at h
    · rename_i hk
      obtain ⟨a, ov, rfl, gt, z⟩ := look_d w r r2 hk
      rcases z with ⟨_, z⟩ | ⟨d', v, rfl, z, rv⟩
      · rw [z] at h; cases h
      · rw [z] at h
        cases h
        exact .inr ⟨a, v, rfl, gt, post.fz w rv⟩
    · cases h
  cases r1 with
  | @lst a vs ds h1 rl => cases r2 with
    | @int i => exact num (by simpa [pIx] using h) rl (.inl (seen_lst w h1))
    | _ => cases h
  | @tup a vs ds h1 rl => cases r2 with
    | @int i => exact num (by simpa [pIx] using h) rl (.inr (seen_tup w h1))
    | _ => cases h
  | @scr a ob vs ds h1 rl => cases r2 with
    | @int i => exact num (by simpa [pIx] using h) rl (.inl (.inl (.inr ⟨ob, seen_ex w h1 (fun z => z)⟩)))
    | _ => cases h
  | @scK a vs ds h1 rl => cases r2 with
    | @int i => exact num (by simpa [pIx] using h) rl (.inl (kl_sq w h1))
    | _ => cases h
  | @str z => cases r2 with
    | @int i =>
      have h : (if z.length ≤ 1000000 then (atI z.cps.toList i).map fun c => O.fz (.str ⟨#[c]⟩) else none) = some o := h
      split at h
      · rename_i hz
        cases q : atI z.cps.toList i with
        | none => rw [q] at h; cases h
        | some c =>
          rw [q] at h
          cases h
          exact .inl (.inr (.inr ⟨z, i, c, rfl, rfl, Nat.le_of_lt (line_le hz), q, post.str w⟩))
      · cases h
    | _ => cases h
  | @dK a kvs ds h1 rk => exact dic (.dK h1 rk) h
  | @dT a kvs ds h1 rk => exact dic (.dT h1 rk) h
  | @cel n a h1 => cases r2 with
    | @int i =>
      have h : (match cs[n]?, D.int i with | some (.lst ds), .int i => (atI ds i).map O.fz | _, _ => none) = some o := h
      cases hc : cs[n]? with
      | none => rw [hc] at h; cases h
      | some c =>
        rw [hc] at h
        have cr := w.cell n c a hc h1
        cases cr with
        | lst hH rl => exact num h rl (.inl (SqL.of hH))
        | _ => cases h
    | _ =>
      unfold pIx at h
      dsimp only at h
      split at h
      · rename_i z; cases z
      · cases h
  | _ => cases r2 <;> cases h⟩
theorem em_ix {a b : Expr} {pos : Pos} {ma mb : XM} (hu : X.A.units + 1 < cLine) (ha : Em X a ma) (hb : Em X b mb) (hs : PlainIx b := by exact fun _ _ => rfl) : Em X (.Subscript a b pos) (xOp2 pIx ma mb) :=
  ⟨fun W tk => pe_imp (pe_ix (ix_G hu) (ha.run W tk) (hb.run W tk) hs) fun _ _ _ h => op2_red P_ix h⟩
/-! ### slices -/
structure Pom (X : Cx) (e : Option Expr) (m : LM) : Prop where
  run : ∀ W, Takes X W → ∃ t : TO, PO X e t ∧ ∀ σ H Q, (tA (md X) m W σ H fun vs H' => match vs with | [] => Q none H' | [.int i] => Q (some i) H' | _ => False) → t σ H Q
theorem pom_none : Pom X none lNil := ⟨fun W tk => ⟨_, po_none, fun σ H Q ⟨g, cs, env, as, w, ev, f⟩ => f [] H g as (.refl _ _ _) (.refl _ _) w ev .nil⟩⟩
theorem pom_some {e : Expr} {m : XM} (h : Em X e m) : Pom X (some e) (lCons m lNil) := ⟨fun W tk => ⟨_, po_some (h.run W tk), fun σ H Q ⟨g, cs, env, as, w, ev, f⟩ => by
  refine ⟨g, cs, env, as, w, ev, (Fin.bindL f).imp fun v H1 ⟨g1, cs1, env1, as1, d, G, rp, f⟩ => ?_⟩
  have q := f [v] H1 g1 as1 (.refl _ _ _) (.refl _ _) G.wf G.env (.cons rp .nil)
  cases v with
  | int i => exact ⟨i, rfl, q⟩
  | _ => exact q.elim⟩⟩
def partD : List D → Option (Option Int)
  | [] => some none
  | [.int i] => some (some i)
  | _ => none
def pSl : D → Option Int → Option Int → Option O
  | .lst ds, lo, hi => some (.ol ((cutD ds lo hi).map .fz))
  | .scr ds, lo, hi => some (.ol ((cutD ds lo hi).map .fz))
  | .tup ds, lo, hi => if HT.sIx ds.length 0 lo = 0 ∧ HT.sIx ds.length ds.length hi = ds.length then none else some (.fz (.tup (cutD ds lo hi)))
  | .str z, lo, hi => if z.length ≤ 1000000 then some (.fz (.str (cutS z lo hi))) else none
  | _, _, _ => none
def xSl (m : XM) (lo hi : LM) : XM := fun env cs => (m env cs).bind fun d env cs => (lo env cs).bind fun l env cs => match partD l with
  | none => .bad
  | some l => (hi env cs).bind fun h env cs => match partD h with
    | some h => ofO (pSl d l h) env cs
    | none => .bad
def rSlG (K : PySem.W.Frag) : V → Option Int → Option Int → Hp → VK → Prop := fun x lo hi H Q => rSlL K x lo hi H Q ∨ rSlT K x lo hi H Q ∨ rSlS x lo hi H Q
theorem sl_G : SlR X (rSlG X.K) := sl_list.or (sl_tup.or sl_str)
theorem em_sl {e : Expr} {lo hi : Option Expr} {pos p2 : Pos} {m : XM} {ml mh : LM} (he : Em X e m) (hl : Pom X lo ml) (hh : Pom X hi mh) : Em X (.Subscript e (.Slice lo hi none p2) pos) (xSl m ml mh) := ⟨fun W tk => by
  obtain ⟨tl, pl, il⟩ := hl.run W tk
  obtain ⟨th, ph, ih⟩ := hh.run W tk
  refine pe_imp (pe_slice sl_G (he.run W tk) pl ph) fun σ H Q ⟨g, cs, env, as, w, ev, f⟩ => ?_
  refine ⟨g, cs, env, as, w, ev, f.bind.imp fun v H1 ⟨g1, cs1, env1, as1, d, G, rp, f⟩ => il _ _ _ ?_⟩
  refine ⟨g1, cs1, env1, as1, G.wf, G.env, (FinL.bind f).imp fun us H2 ⟨g2, cs2, env2, as2, l, G2, rl, f⟩ => ?_⟩
  have step : ∀ lo : Option Int, partD l = some lo → th σ H2 fun u H3 => rSlG X.K v lo u H3 Q := fun lo e => ih _ _ _ ⟨g2, cs2, env2, as2, G2.wf, G2.env, by
   rw [e] at f
   exact (FinL.bind f).imp fun ws H3 ⟨g3, cs3, env3, as3, h, G3, rh, f⟩ => by
    have r3 : Rep g3 d v := (rp.mono G2.adv.le).mono G3.adv.le
    have fin : ∀ hi : Option Int, partD h = some hi → rSlG X.K v lo hi H3 Q := fun hi e2 => by
      rw [e2] at f
      dsimp only at f
      cases q : pSl d lo hi with
      | none => rw [q] at f; exact f.elim
      | some o =>
        rw [q] at f
        have post := Fin.post G3.wf G3.env f
        cases r3 with
        | @lst a vs ds hF rl => cases q; exact .inl ⟨a, vs, rfl, seen_lst G3.wf hF, fun p hp => post.lst G3.wf (rl.cut lo hi) hp⟩
        | @scr a ob vs ds hF rl => cases q; exact .inl ⟨a, vs, rfl, .inl (.inr ⟨ob, seen_ex G3.wf hF (fun z => z)⟩), fun p hp => post.lst G3.wf (rl.cut lo hi) hp⟩
        | @scK a vs ds hF rl => cases q; exact .inl ⟨a, vs, rfl, kl_sq G3.wf hF, fun p hp => post.lst G3.wf (rl.cut lo hi) hp⟩
        | @tup a vs ds hF rl =>
          have q : (if HT.sIx ds.length 0 lo = 0 ∧ HT.sIx ds.length ds.length hi = ds.length then none else some (O.fz (.tup (cutD ds lo hi)))) = some o := q
          split at q
          · cases q
          · rename_i hz
            cases q
            exact .inr (.inl ⟨a, vs, rfl, seen_tup G3.wf hF, by rw [← rl.len]; exact hz, fun p hp => post.tup G3.wf (rl.cut lo hi) hp⟩)
        | @str z =>
          have q : (if z.length ≤ 1000000 then some (O.fz (.str (cutS z lo hi))) else none) = some o := q
          split at q
          · rename_i hz
            cases q
            exact .inr (.inr ⟨z, rfl, Nat.le_of_lt (line_le hz), post.str G3.wf⟩)
          · cases q
        | _ => cases q
    cases rh with
    | nil => exact fin none rfl
    | cons r rr =>
      cases rr with
      | cons _ _ => cases r <;> exact f.elim
      | nil => cases r with
        | @int i => exact fin (some i) rfl
        | _ => exact f.elim⟩
  cases rl with
  | nil => exact step none rfl
  | cons r rr =>
    cases rr with
    | cons _ _ => cases r <;> exact f.elim
    | nil => cases r with
      | @int i => exact step (some i) rfl
      | _ => exact f.elim⟩
end
end GM
namespace GM
open PySem PySem.Spec L2
/-! ### members found -/
noncomputable def eU (s : Shared) (x : D) (u : Value) : Bool := @decide (∃ d, DR s d u ∧ eqD d x = true) (Classical.propDecidable _)
theorem eU_of {s : Shared} {x d : D} {u : Value} (r : DR s d u) : eU s x u = eqD d x := by
  unfold eU
  by_cases h : eqD d x = true
  · rw [h]; exact @decide_eq_true _ (Classical.propDecidable _) ⟨d, r, h⟩
  · rw [Bool.not_eq_true _ |>.mp h]
    exact @decide_eq_false _ (Classical.propDecidable _) fun ⟨e, re, he⟩ => h (by rw [DR.inj r re]; exact he)
theorem eU_any {s : Shared} {x : D} : ∀ {ds : List D} {us : List Value}, DRL s ds us → us.any (eU s x) = ds.any fun d => eqD d x
  | _, _, .nil => rfl
  | _, _, .cons h r => by rw [List.any_cons, List.any_cons, eU_of h, eU_any r]
theorem eU_count {s : Shared} {x : D} : ∀ {ds : List D} {us : List Value}, DRL s ds us → us.countP (eU s x) = ds.countP fun d => eqD d x
  | _, _, .nil => rfl
  | _, _, .cons h r => by rw [List.countP_cons, List.countP_cons, eU_of h, eU_count r]
theorem eU_at {s : Shared} {A : Around} {x : D} {v : Value} {n : Nat} (hu : A.units + n < cLine) (rx : DR s x v) (k : okD n x = true) : ∀ {ds : List D} {us : List Value}, DRL s ds us → (∀ d ∈ ds, okD n d = true) → ∀ u ∈ us, SeqAt.EqAt A s u v (eU s x u)
  | _, _, .nil, _ => fun u hu => nomatch hu
  | _, _, .cons h r, l => fun u hm => by
    rcases List.mem_cons.mp hm with e | hm
    · subst e
      rw [eU_of h]
      exact eqAt_D hu h rx (l _ (by simp)) k
    · exact eU_at hu rx k r (fun d hd => l d (by simp [hd])) u hm
def pIn : D → D → Cells → Option O
  | d, .lst es, _ => if okD 60 d = true ∧ es.all (okD 60) = true then bO (es.any fun e => eqD e d) else none
  | d, .tup es, _ => if okD 60 d = true ∧ es.all (okD 60) = true then bO (es.any fun e => eqD e d) else none
  | d, .dic t kvs, _ => if keyOk t d = true then bO (dget kvs d).isSome else none
  | _, _, _ => none
def pNin : D → D → Cells → Option O
  | d, .lst es, _ => if okD 60 d = true ∧ es.all (okD 60) = true then bO (!es.any fun e => eqD e d) else none
  | d, .tup es, _ => if okD 60 d = true ∧ es.all (okD 60) = true then bO (!es.any fun e => eqD e d) else none
  | d, .dic t kvs, _ => if keyOk t d = true then bO (!(dget kvs d).isSome) else none
  | _, _, _ => none
def rInG (neg : Bool) : R2 := fun x y H Q => (∃ mg g cs as d e es, Wf mg g cs H as ∧ Rep g d x ∧ Rep g e y ∧ (e = .lst es ∨ e = .tup es) ∧ okD 60 d = true ∧ es.all (okD 60) = true ∧ Q (.bl (neg != es.any fun e => eqD e d)) H) ∨
  ∃ a o, y = .ref a ∧ DGet H a x o ∧ Q (.bl (neg != o.isSome)) H
theorem okD_more {n : Nat} : ∀ {d : D}, okD n d = true → okD (n + 1) d = true := by
  induction n with
  | zero => intro d h; cases d <;> first | rfl | cases h
  | succ n ih =>
    intro d h
    cases d with
    | lst ds =>
      show ds.all (okD (n + 1)) = true
      have h : ds.all (okD n) = true := h
      rw [List.all_eq_true] at h ⊢
      exact fun x hx => ih (h x hx)
    | tup ds =>
      show ds.all (okD (n + 1)) = true
      have h : ds.all (okD n) = true := h
      rw [List.all_eq_true] at h ⊢
      exact fun x hx => ih (h x hx)
    | _ => first | rfl | cases h
section
variable {X : Cx} {mg : Mg}
theorem units1 {A : Around} (hu : A.units + 64 < cLine) : A.in1.units + 60 < cLine := by show A.units + 1 + 60 < cLine; omega
theorem op_inG (hu : X.A.units + 64 < cLine) : OpR X (compareOp .In) (rInG false) := by
  intro pins s σ H x y v u Q I rx ry h
  rcases h with ⟨mg, g, cs, as, d, e, es, w, r1, r2, he, k, l, q⟩ | ⟨a, o, rfl, gt, q⟩
  · have dx := dr_of I w r1 rx k
    have l' : ∀ d ∈ es, okD 60 d = true := List.all_eq_true.mp l
    rcases he with rfl | rfl
    · have l2 : okD 61 (.lst es) = true := l
      cases dr_of I w r2 ry l2 with
      | lst hl rl =>
        refine SeqAt.in_listAt (eU s d) hl (fun z hz => eU_at (units1 hu) dx k rl l' z (by simpa using hz)) ⟨.bl _, H, I, ?_, q⟩
        show _ = Value.bool _
        rw [List.any_toArray, eU_any rl]
        simp
    · have l2 : okD 61 (.tup es) = true := l
      cases dr_of I w r2 ry l2 with
      | tup hl rl =>
        refine SeqAt.in_tupleAt (eU s d) hl (fun z hz => eU_at (units1 hu) dx k rl l' z (by simpa using hz)) ⟨.bl _, H, I, ?_, q⟩
        show _ = Value.bool _
        rw [List.any_toArray, eU_any rl]
        simp
  · cases ry
    exact d_in (by omega) I gt rx fun s' I' => ⟨.bl _, H, I', by show _ = Value.bool _; simp, q⟩
theorem op_ninG (hu : X.A.units + 64 < cLine) : OpR X (compareOp .NotIn) (rInG true) := by
  intro pins s σ H x y v u Q I rx ry h
  rcases h with ⟨mg, g, cs, as, d, e, es, w, r1, r2, he, k, l, q⟩ | ⟨a, o, rfl, gt, q⟩
  · have dx := dr_of I w r1 rx k
    have l' : ∀ d ∈ es, okD 60 d = true := List.all_eq_true.mp l
    rcases he with rfl | rfl
    · have l2 : okD 61 (.lst es) = true := l
      cases dr_of I w r2 ry l2 with
      | lst hl rl =>
        refine SeqAt.notIn_listAt (eU s d) hl (fun z hz => eU_at (units1 hu) dx k rl l' z (by simpa using hz)) ⟨.bl _, H, I, ?_, q⟩
        show _ = Value.bool _
        rw [List.any_toArray, eU_any rl]
        simp
    · have l2 : okD 61 (.tup es) = true := l
      cases dr_of I w r2 ry l2 with
      | tup hl rl =>
        refine SeqAt.notIn_tupleAt (eU s d) hl (fun z hz => eU_at (units1 hu) dx k rl l' z (by simpa using hz)) ⟨.bl _, H, I, ?_, q⟩
        show _ = Value.bool _
        rw [List.any_toArray, eU_any rl]
        simp
  · cases ry
    exact d_notIn (by omega) I gt rx fun s' I' => ⟨.bl _, H, I', by show _ = Value.bool _; simp, q⟩
theorem P_in : Op2 mg pIn (rInG false) := ⟨fun g cs H as d e x y o Q w r1 r2 h post => by
  cases e with
  | lst es =>
    have h : (if okD 60 d = true ∧ es.all (okD 60) = true then bO (es.any fun e => eqD e d) else none) = some o := h
    split at h
    · rename_i hz
      cases h
      exact .inl ⟨mg, g, cs, as, d, _, es, w, r1, r2, .inl rfl, hz.1, hz.2, by simpa using post.bl w⟩
    · cases h
  | tup es =>
    have h : (if okD 60 d = true ∧ es.all (okD 60) = true then bO (es.any fun e => eqD e d) else none) = some o := h
    split at h
    · rename_i hz
      cases h
      exact .inl ⟨mg, g, cs, as, d, _, es, w, r1, r2, .inr rfl, hz.1, hz.2, by simpa using post.bl w⟩
    · cases h
  | dic t kvs =>
    have h : (if keyOk t d = true then bO (dget kvs d).isSome else none) = some o := h
    split at h
    · rename_i hk
      obtain ⟨a, ov, rfl, gt, z⟩ := look_d w r2 r1 hk
      cases h
      refine .inr ⟨a, ov, rfl, gt, ?_⟩
      have e : (false != ov.isSome) = (dget kvs d).isSome := by
        rcases z with ⟨z1, z2⟩ | ⟨e, v, z1, z2, _⟩ <;> rw [z1, z2] <;> rfl
      rw [e]
      exact post.bl w
    · cases h
  | _ => cases h⟩
theorem P_nin : Op2 mg pNin (rInG true) := ⟨fun g cs H as d e x y o Q w r1 r2 h post => by
  cases e with
  | lst es =>
    have h : (if okD 60 d = true ∧ es.all (okD 60) = true then bO (!es.any fun e => eqD e d) else none) = some o := h
    split at h
    · rename_i hz
      cases h
      exact .inl ⟨mg, g, cs, as, d, _, es, w, r1, r2, .inl rfl, hz.1, hz.2, by simpa using post.bl w⟩
    · cases h
  | tup es =>
    have h : (if okD 60 d = true ∧ es.all (okD 60) = true then bO (!es.any fun e => eqD e d) else none) = some o := h
    split at h
    · rename_i hz
      cases h
      exact .inl ⟨mg, g, cs, as, d, _, es, w, r1, r2, .inr rfl, hz.1, hz.2, by simpa using post.bl w⟩
    · cases h
  | dic t kvs =>
    have h : (if keyOk t d = true then bO (!(dget kvs d).isSome) else none) = some o := h
    split at h
    · rename_i hk
      obtain ⟨a, ov, rfl, gt, z⟩ := look_d w r2 r1 hk
      cases h
      refine .inr ⟨a, ov, rfl, gt, ?_⟩
      have e : (true != ov.isSome) = (!(dget kvs d).isSome) := by
        rcases z with ⟨z1, z2⟩ | ⟨e, v, z1, z2, _⟩ <;> rw [z1, z2] <;> rfl
      rw [e]
      exact post.bl w
    · cases h
  | _ => cases h⟩
/-! ### built-in functions -/
theorem em_callB {id : String} {x : Str} {r : List V → Hp → VK → Prop} {p : List D → Cells → Option O} {pn pos : Pos} {e : Expr} {es : List Expr} {ml : LM} (hc : CallR X (.builtin id) r) (P : OpL (md X) p r) (hm : X.mg x = none) (hv : bootBuiltins x = some (.builtin id)) (ha : Am X (e :: es) ml)
    (hg : Gl X x := by rfl) (hn : x ≠ "__name__" := by decide) (hdb : (x == ("__debug__" : Str)) = false := by decide)
    (he : starEach (e :: es) X.env = (false, eval e X.env) :: starEach es X.env := by rfl) (hpl : (backTo pos (starEach es X.env)).any (·.1) = false := by rfl) : Em X (.Call (.Name x pn) (e :: es) [] pos) (xOpL p ml) :=
  ⟨fun W tk => pe_imp (pe_callB hc hg hm hv (ha.run W tk) hn hdb he hpl) fun _ _ _ h => opL_red P h⟩
theorem em_callTy {T : String} {x : Str} {r : List V → Hp → VK → Prop} {p : List D → Cells → Option O} {pn pos : Pos} {e : Expr} {es : List Expr} {ml : LM} (hc : CallR X (.type T) r) (P : OpL (md X) p r) (hm : X.mg x = none) (hv : bootBuiltins x = some (.type T)) (ha : Am X (e :: es) ml)
    (hg : Gl X x := by rfl) (hn : x ≠ "__name__" := by decide) (hdb : (x == ("__debug__" : Str)) = false := by decide)
    (he : starEach (e :: es) X.env = (false, eval e X.env) :: starEach es X.env := by rfl) (hpl : (backTo pos (starEach es X.env)).any (·.1) = false := by rfl) : Em X (.Call (.Name x pn) (e :: es) [] pos) (xOpL p ml) :=
  ⟨fun W tk => pe_imp (pe_callTy hc hg hm hv (ha.run W tk) hn hdb he hpl) fun _ _ _ h => opL_red P h⟩
theorem one_of {g : Gh} {d : D} {xs : List V} (r : RepL g [d] xs) : ∃ x, xs = [x] ∧ Rep g d x := by
  cases r with
  | cons h r => cases r; exact ⟨_, rfl, h⟩
theorem two_of {g : Gh} {d e : D} {xs : List V} (r : RepL g [d, e] xs) : ∃ x y, xs = [x, y] ∧ Rep g d x ∧ Rep g e y := by
  cases r with
  | cons h r => cases r with
    | cons h2 r => cases r; exact ⟨_, _, rfl, h, h2⟩
/-- len -/
def lenD : D → Cells → Option Nat
  | .lst ds, _ => some ds.length
  | .tup ds, _ => some ds.length
  | .scr ds, _ => some ds.length
  | .str z, _ => if z.length ≤ 1000000 then some z.length else none
  | .dic 0 kvs, _ => some kvs.length
  | .cel n, cs => match cs[n]? with
    | some (.lst ds) => some ds.length
    | _ => none
  | _, _ => none
def pLen : List D → Cells → Option O
  | [d], cs => (lenD d cs).map fun n : Nat => O.fz (.int (n : Int))
  | _, _ => none
theorem RepK.len {g : Gh} : ∀ {ds : List (D × D)} {vs : List (Key × V)}, RepK g ds vs → ds.length = vs.length
  | _, _, .nil => rfl
  | _, _, .cons _ r => congrArg Nat.succ r.len
theorem call_lenG : CallR X (.builtin "len") (fun xs H Q => (∃ x n, xs = [x] ∧ LenV X.K x H n ∧ Q (.int n) H) ∨ ∃ a kvs, xs = [V.ref a] ∧ Rd H a (.dK kvs) ∧ Q (.int kvs.length) H) := by
  intro pins s σ H xs us Q I r h
  rcases h with h | ⟨a, kvs, rfl, ha, q⟩
  · exact call_len pins s σ H xs us Q I r h
  · obtain ⟨u, rfl, ru⟩ := vals1 r
    cases ru
    exact d_len I ha fun t s' I' => ⟨.int kvs.length, H, I', ⟨t, rfl⟩, q⟩
theorem P_len : OpL mg pLen (fun xs H Q => (∃ x n, xs = [x] ∧ LenV mg.K x H n ∧ Q (.int n) H) ∨ ∃ a kvs, xs = [V.ref a] ∧ Rd H a (.dK kvs) ∧ Q (.int kvs.length) H) := ⟨fun g cs H as ds xs o Q w rl h post => by
  match ds, rl, h with
  | [d], rl, h =>
    obtain ⟨x, rfl, r⟩ := one_of rl
    have h : (lenD d cs).map (fun n : Nat => O.fz (.int (n : Int))) = some o := h
    cases r with
    | @lst a vs ds hF l => cases h; exact .inl ⟨_, vs.length, rfl, .inl ⟨vs, seen_lst w hF, rfl⟩, by rw [← l.len]; exact post.int w⟩
    | @tup a vs ds hF l => cases h; exact .inl ⟨_, vs.length, rfl, .inr ⟨vs, seen_tup w hF, rfl⟩, by rw [← l.len]; exact post.int w⟩
    | @scr a ob vs ds hF l => cases h; exact .inl ⟨_, vs.length, rfl, .inl ⟨vs, .inl (.inr ⟨ob, seen_ex w hF (fun z => z)⟩), rfl⟩, by rw [← l.len]; exact post.int w⟩
    | @scK a vs ds hF l => cases h; exact .inl ⟨_, vs.length, rfl, .inl ⟨vs, kl_sq w hF, rfl⟩, by rw [← l.len]; exact post.int w⟩
    | @str z =>
      have h : Option.map (fun n : Nat => O.fz (.int (n : Int))) (if z.length ≤ 1000000 then some z.length else none) = some o := h
      split at h
      · rename_i hz
        cases h
        exact .inl ⟨_, z.length, rfl, ⟨Nat.le_of_lt (line_le hz), rfl⟩, post.int w⟩
      · cases h
    | @dK a kvs ds hF l => cases h; exact .inr ⟨a, kvs, rfl, (w.see a _ hF).rd, by rw [← l.len]; exact post.int w⟩
    | @cel n a hL =>
      cases q : cs[n]? with
      | none => simp [lenD, q] at h
      | some c =>
        have cr := w.cell n c a q hL
        cases cr with
        | @lst _ vs ds hH l =>
          simp only [lenD, q, Option.map_some] at h
          cases h
          exact .inl ⟨_, vs.length, rfl, .inl ⟨vs, SqL.of hH, rfl⟩, by rw [← l.len]; exact post.int w⟩
        | _ => simp [lenD, q] at h
    | _ => cases h⟩
/-- all, any of truth values -/
def toBls : List D → Option (List Bool)
  | [] => some []
  | .bl b :: r => (toBls r).map (b :: ·)
  | _ => none
theorem toBls_rep {g : Gh} : ∀ {ds : List D} {vs : List V} {bs : List Bool}, RepL g ds vs → toBls ds = some bs → vs = bs.map V.bl
  | _, _, _, .nil, h => by cases h; rfl
  | _, _, _, .cons (ds := ds) h r, e => by
    cases h with
    | @bl b =>
      have e : (toBls ds).map (b :: ·) = some _ := e
      cases q : toBls ds with
      | none => rw [q] at e; cases e
      | some l => rw [q] at e; cases e; rw [toBls_rep r q]; rfl
    | _ => cases e
def pAll : List D → Cells → Option O
  | [.lst ds], _ => (toBls ds).map fun bs => .fz (.bl (bs.all id))
  | _, _ => none
def pAny : List D → Cells → Option O
  | [.lst ds], _ => (toBls ds).map fun bs => .fz (.bl (bs.any id))
  | _, _ => none
theorem P_all {K : PySem.W.Frag} : OpL mg pAll (rAll K) := ⟨fun g cs H as ds xs o Q w rl h post => by
  match ds, rl, h with
  | [.lst ds], rl, h =>
    obtain ⟨x, rfl, r⟩ := one_of rl
    cases r with
    | @lst a vs _ hF l =>
      have h : (toBls ds).map (fun bs => O.fz (.bl (bs.all id))) = some o := h
      cases q : toBls ds with
      | none => rw [q] at h; cases h
      | some bs =>
        rw [q] at h
        cases h
        exact ⟨a, bs, rfl, by rw [← toBls_rep l q]; exact seen_lst w hF, post.bl w⟩⟩
theorem P_any {K : PySem.W.Frag} : OpL mg pAny (rAny K) := ⟨fun g cs H as ds xs o Q w rl h post => by
  match ds, rl, h with
  | [.lst ds], rl, h =>
    obtain ⟨x, rfl, r⟩ := one_of rl
    cases r with
    | @lst a vs _ hF l =>
      have h : (toBls ds).map (fun bs => O.fz (.bl (bs.any id))) = some o := h
      cases q : toBls ds with
      | none => rw [q] at h; cases h
      | some bs =>
        rw [q] at h
        cases h
        exact ⟨a, bs, rfl, by rw [← toBls_rep l q]; exact seen_lst w hF, post.bl w⟩⟩
/-- sum, max, min of ints -/
def toInts : List D → Option (List Int)
  | [] => some []
  | .int b :: r => (toInts r).map (b :: ·)
  | _ => none
theorem toInts_rep {g : Gh} : ∀ {ds : List D} {vs : List V} {bs : List Int}, RepL g ds vs → toInts ds = some bs → vs = bs.map V.int
  | _, _, _, .nil, h => by cases h; rfl
  | _, _, _, .cons (ds := ds) h r, e => by
    cases h with
    | @int b =>
      have e : (toInts ds).map (b :: ·) = some _ := e
      cases q : toInts ds with
      | none => rw [q] at e; cases e
      | some l => rw [q] at e; cases e; rw [toInts_rep r q]; rfl
    | _ => cases e
def pSum : List D → Cells → Option O
  | [.lst ds], _ => (toInts ds).map fun ns => .fz (.int ns.sum)
  | _, _ => none
theorem P_sum {K : PySem.W.Frag} : OpL mg pSum (rSum K) := ⟨fun g cs H as ds xs o Q w rl h post => by
  match ds, rl, h with
  | [.lst ds], rl, h =>
    obtain ⟨x, rfl, r⟩ := one_of rl
    cases r with
    | @lst a vs _ hF l =>
      have h : (toInts ds).map (fun ns => O.fz (.int ns.sum)) = some o := h
      cases q : toInts ds with
      | none => rw [q] at h; cases h
      | some ns =>
        rw [q] at h
        cases h
        exact ⟨a, ns, rfl, by rw [← toInts_rep l q]; exact seen_lst w hF, post.int w⟩⟩
/-- the greatest, the least of some -/
def maxI : List Int → Option Int
  | [] => none
  | [x] => some x
  | x :: r => (maxI r).map fun y => if y > x then y else x
def minI : List Int → Option Int
  | [] => none
  | [x] => some x
  | x :: r => (minI r).map fun y => if y < x then y else x
theorem maxI_of : ∀ {ns : List Int} {k : Int}, maxI ns = some k → ∀ m, m ∈ ns → (∀ y, y ∈ ns → y ≤ m) → m = k
  | [x], k, h, m, hm, hy => by cases h; simpa using hm
  | x :: z :: r, k, h, m, hm, hy => by
    have h : (maxI (z :: r)).map (fun y => if y > x then y else x) = some k := h
    cases q : maxI (z :: r) with
    | none => rw [q] at h; cases h
    | some y =>
      rw [q] at h
      have h : (if y > x then y else x) = k := Option.some.inj h
      have ih := maxI_of q
      have yin : ∀ {l : List Int} {y : Int}, maxI l = some y → y ∈ l := by
        intro l
        induction l with
        | nil => intro y h; cases h
        | cons a l ih =>
          intro y h
          cases l with
          | nil => cases h; simp
          | cons b l =>
            have h : (maxI (b :: l)).map (fun y => if y > a then y else a) = some y := h
            cases q : maxI (b :: l) with
            | none => rw [q] at h; cases h
            | some w =>
              rw [q] at h
              have h : (if w > a then w else a) = y := Option.some.inj h
              split at h
              · subst h; exact List.mem_cons_of_mem _ (ih q)
              · subst h; simp
      have h1 := hy x (by simp)
      have h2 := hy y (List.mem_cons_of_mem _ (yin q))
      rcases List.mem_cons.mp hm with e | hm
      · subst e
        rw [← h, if_neg (by omega)]
      · have e := ih m hm fun w hw => hy w (List.mem_cons_of_mem _ hw)
        subst e
        rw [← h]
        split <;> omega
theorem minI_of : ∀ {ns : List Int} {k : Int}, minI ns = some k → ∀ m, m ∈ ns → (∀ y, y ∈ ns → m ≤ y) → m = k
  | [x], k, h, m, hm, hy => by cases h; simpa using hm
  | x :: z :: r, k, h, m, hm, hy => by
    have h : (minI (z :: r)).map (fun y => if y < x then y else x) = some k := h
    cases q : minI (z :: r) with
    | none => rw [q] at h; cases h
    | some y =>
      rw [q] at h
      have h : (if y < x then y else x) = k := Option.some.inj h
      have ih := minI_of q
      have yin : ∀ {l : List Int} {y : Int}, minI l = some y → y ∈ l := by
        intro l
        induction l with
        | nil => intro y h; cases h
        | cons a l ih =>
          intro y h
          cases l with
          | nil => cases h; simp
          | cons b l =>
            have h : (minI (b :: l)).map (fun y => if y < a then y else a) = some y := h
            cases q : minI (b :: l) with
            | none => rw [q] at h; cases h
            | some w =>
              rw [q] at h
              have h : (if w < a then w else a) = y := Option.some.inj h
              split at h
              · subst h; exact List.mem_cons_of_mem _ (ih q)
              · subst h; simp
      have h1 := hy x (by simp)
      have h2 := hy y (List.mem_cons_of_mem _ (yin q))
      rcases List.mem_cons.mp hm with e | hm
      · subst e
        rw [← h, if_neg (by omega)]
      · have e := ih m hm fun w hw => hy w (List.mem_cons_of_mem _ hw)
        subst e
        rw [← h]
        split <;> omega
def pMax : List D → Cells → Option O
  | [.lst ds], _ => ((toInts ds).bind maxI).map fun k => .fz (.int k)
  | [.int i, .int j], _ => iO (if j > i then j else i)
  | _, _ => none
def pMin : List D → Cells → Option O
  | [.lst ds], _ => ((toInts ds).bind minI).map fun k => .fz (.int k)
  | [.int i, .int j], _ => iO (if j < i then j else i)
  | _, _ => none
def rMaxG (K : PySem.W.Frag) : List V → Hp → VK → Prop := fun xs H Q => rMax K xs H Q ∨ ∃ i j, xs = [.int i, .int j] ∧ Q (.int (if j > i then j else i)) H
def rMinG (K : PySem.W.Frag) : List V → Hp → VK → Prop := fun xs H Q => rMin K xs H Q ∨ ∃ i j, xs = [.int i, .int j] ∧ Q (.int (if j < i then j else i)) H
theorem call_maxG (hc : X.calm = true) : CallR X (.builtin "max") (rMaxG X.K) := (cr_max hc).or (call_max2 hc)
theorem call_minG (hc : X.calm = true) : CallR X (.builtin "min") (rMinG X.K) := (cr_min hc).or (call_min2 hc)
theorem P_max {K : PySem.W.Frag} : OpL mg pMax (rMaxG K) := ⟨fun g cs H as ds xs o Q w rl h post => by
  match ds, rl, h with
  | [.lst ds], rl, h =>
    obtain ⟨x, rfl, r⟩ := one_of rl
    cases r with
    | @lst a vs _ hF l =>
      have h : ((toInts ds).bind maxI).map (fun k => O.fz (.int k)) = some o := h
      cases q : toInts ds with
      | none => rw [q] at h; cases h
      | some ns =>
        rw [q, Option.bind_some] at h
        cases q2 : maxI ns with
        | none => rw [q2] at h; cases h
        | some k =>
          rw [q2] at h
          cases h
          refine .inl ⟨a, ns, rfl, by rw [← toInts_rep l q]; exact seen_lst w hF, ?_, fun m hm hy => by rw [maxI_of q2 m hm hy]; exact post.int w⟩
          cases ns with
          | nil => cases q2
          | cons _ _ => simp
  | [.int i, .int j], rl, h =>
    obtain ⟨x, y, rfl, r1, r2⟩ := two_of rl
    cases r1; cases r2; cases h
    exact .inr ⟨i, j, rfl, post.int w⟩⟩
theorem P_min {K : PySem.W.Frag} : OpL mg pMin (rMinG K) := ⟨fun g cs H as ds xs o Q w rl h post => by
  match ds, rl, h with
  | [.lst ds], rl, h =>
    obtain ⟨x, rfl, r⟩ := one_of rl
    cases r with
    | @lst a vs _ hF l =>
      have h : ((toInts ds).bind minI).map (fun k => O.fz (.int k)) = some o := h
      cases q : toInts ds with
      | none => rw [q] at h; cases h
      | some ns =>
        rw [q, Option.bind_some] at h
        cases q2 : minI ns with
        | none => rw [q2] at h; cases h
        | some k =>
          rw [q2] at h
          cases h
          refine .inl ⟨a, ns, rfl, by rw [← toInts_rep l q]; exact seen_lst w hF, ?_, fun m hm hy => by rw [minI_of q2 m hm hy]; exact post.int w⟩
          cases ns with
          | nil => cases q2
          | cons _ _ => simp
  | [.int i, .int j], rl, h =>
    obtain ⟨x, y, rfl, r1, r2⟩ := two_of rl
    cases r1; cases r2; cases h
    exact .inr ⟨i, j, rfl, post.int w⟩⟩
def pInt : List D → Cells → Option O
  | [.int i], _ => iO i
  | [.bl b], _ => iO (if b then 1 else 0)
  | _, _ => none
theorem P_int : OpL mg pInt (fun xs H Q => (∃ i, xs = [.int i] ∧ Q (.int i) H) ∨ ∃ k, xs = [.bl k] ∧ Q (.int (if k then 1 else 0)) H) := ⟨fun g cs H as ds xs o Q w rl h post => by
  match ds, rl, h with
  | [.int i], rl, h =>
    obtain ⟨x, rfl, r⟩ := one_of rl
    cases r; cases h
    exact .inl ⟨i, rfl, post.int w⟩
  | [.bl b], rl, h =>
    obtain ⟨x, rfl, r⟩ := one_of rl
    cases r; cases h
    exact .inr ⟨b, rfl, post.int w⟩⟩
def pAbs : List D → Cells → Option O
  | [.int i], _ => iO (if i < 0 then -i else i)
  | _, _ => none
theorem P_abs : OpL mg pAbs (fun xs H Q => ∃ i, xs = [.int i] ∧ Q (.int (if i < 0 then -i else i)) H) := ⟨fun g cs H as ds xs o Q w rl h post => by
  match ds, rl, h with
  | [.int i], rl, h =>
    obtain ⟨x, rfl, r⟩ := one_of rl
    cases r; cases h
    exact ⟨i, rfl, post.int w⟩⟩
/-- list(..), tuple(..) -/
def pList : List D → Cells → Option O
  | [.lst ds], _ => some (.ol (ds.map .fz))
  | [.tup ds], _ => some (.ol (ds.map .fz))
  | [.scr ds], _ => some (.ol (ds.map .fz))
  | _, _ => none
theorem P_list : OpL mg pList (fun xs H Q => ∃ p ys, xs = [.ref p] ∧ (SqL mg.K H p ys ∨ SqT mg.K H p ys) ∧ ∀ l, H l = none → Q (.ref l) (upd H l (.lst ys))) := ⟨fun g cs H as ds xs o Q w rl h post => by
  match ds, rl, h with
  | [.lst ds], rl, h =>
    obtain ⟨x, rfl, r⟩ := one_of rl
    cases r with
    | @lst a vs _ hF l => cases h; exact ⟨a, vs, rfl, .inl (seen_lst w hF), fun p hp => post.lst w l hp⟩
  | [.tup ds], rl, h =>
    obtain ⟨x, rfl, r⟩ := one_of rl
    cases r with
    | @tup a vs _ hF l => cases h; exact ⟨a, vs, rfl, .inr (seen_tup w hF), fun p hp => post.lst w l hp⟩
  | [.scr ds], rl, h =>
    obtain ⟨x, rfl, r⟩ := one_of rl
    cases r with
    | @scr a ob vs _ hF l => cases h; exact ⟨a, vs, rfl, .inl (.inl (.inr ⟨ob, seen_ex w hF (fun z => z)⟩)), fun p hp => post.lst w l hp⟩
    | @scK a vs _ hF l => cases h; exact ⟨a, vs, rfl, .inl (kl_sq w hF), fun p hp => post.lst w l hp⟩⟩
def pTuple : List D → Cells → Option O
  | [.lst ds], _ => some (.fz (.tup ds))
  | [.tup ds], _ => some (.fz (.tup ds))
  | _, _ => none
theorem P_tuple {K : PySem.W.Frag} : OpL mg pTuple (fun xs H Q => ∃ p ys, xs = [.ref p] ∧ ((SqL K H p ys ∧ ∀ l, H l = none → Q (.ref l) (upd H l (.tup ys))) ∨ (SqT K H p ys ∧ Q (.ref p) H))) := ⟨fun g cs H as ds xs o Q w rl h post => by
  match ds, rl, h with
  | [.lst ds], rl, h =>
    obtain ⟨x, rfl, r⟩ := one_of rl
    cases r with
    | @lst a vs _ hF l => cases h; exact ⟨a, vs, rfl, .inl ⟨seen_lst w hF, fun p hp => post.tup w l hp⟩⟩
  | [.tup ds], rl, h =>
    obtain ⟨x, rfl, r⟩ := one_of rl
    cases r with
    | @tup a vs _ hF l => cases h; exact ⟨a, vs, rfl, .inr ⟨seen_tup w hF, post.fz w (.tup hF l)⟩⟩⟩
end
end GM
namespace GM
open PySem PySem.Spec L2
/-! ### a plain answer gives back what was lent -/
def flatD : D → Bool
  | .non => true
  | .bl _ => true
  | .int _ => true
  | .str _ => true
  | .cls _ => true
  | .cel _ => true
  | _ => false
def flatC : Cell → Bool
  | .lst ds => ds.all flatD
  | .dic _ kvs => kvs.all fun p => flatD p.2
  | .ins _ fs => fs.all fun p => flatD p.2
theorem Rep.flat {g g' : Gh} (hL : g'.L = g.L) (hm : g'.mg = g.mg) {d : D} {v : V} (r : Rep g d v) (h : flatD d = true) : Rep g' d v := by
  cases r with
  | non => exact .non
  | bl => exact .bl
  | int => exact .int
  | str => exact .str
  | cls q => exact .cls (by rw [hm]; exact q)
  | cel q => exact .cel (by rw [hL]; exact q)
  | _ => cases h
theorem RepL.flat {g g' : Gh} (hL : g'.L = g.L) (hm : g'.mg = g.mg) : ∀ {ds : List D} {vs : List V}, RepL g ds vs → ds.all flatD = true → RepL g' ds vs
  | _, _, .nil, _ => .nil
  | _, _, .cons h r, z => by
    rw [List.all_cons, Bool.and_eq_true] at z
    exact .cons (h.flat hL hm z.1) (r.flat hL hm z.2)
theorem RepK.flat {g g' : Gh} (hL : g'.L = g.L) (hm : g'.mg = g.mg) : ∀ {ds : List (D × D)} {vs : List (Key × V)}, RepK g ds vs → (ds.all fun p => flatD p.2) = true → RepK g' ds vs
  | _, _, .nil, _ => .nil
  | _, _, .cons h r, z => by
    rw [List.all_cons, Bool.and_eq_true] at z
    exact .cons (h.flat hL hm z.1) (r.flat hL hm z.2)
theorem RepT.flat {g g' : Gh} (hL : g'.L = g.L) (hm : g'.mg = g.mg) : ∀ {ds : List (D × D)} {vs : List (List Key × V)}, RepT g ds vs → (ds.all fun p => flatD p.2) = true → RepT g' ds vs
  | _, _, .nil, _ => .nil
  | _, _, .cons h r, z => by
    rw [List.all_cons, Bool.and_eq_true] at z
    exact .cons (h.flat hL hm z.1) (r.flat hL hm z.2)
theorem RepF.flat {g g' : Gh} (hL : g'.L = g.L) (hm : g'.mg = g.mg) : ∀ {ds : List (Str × D)} {vs : List (Str × V)}, RepF g ds vs → (ds.all fun p => flatD p.2) = true → RepF g' ds vs
  | _, _, .nil, _ => .nil
  | _, _, .cons h r, z => by
    rw [List.all_cons, Bool.and_eq_true] at z
    exact .cons (h.flat hL hm z.1) (r.flat hL hm z.2)
theorem CellR.flat {g g' : Gh} {H : Hp} (hL : g'.L = g.L) (hm : g'.mg = g.mg) {c : Cell} {a : Addr} (r : CellR g H c a) (h : flatC c = true) : CellR g' H c a := by
  cases r with
  | lst e r => exact .lst e (r.flat hL hm h)
  | dK e r => exact .dK e (r.flat hL hm h)
  | dT e r => exact .dT e (r.flat hL hm h)
  | ins e m r => exact .ins e (by rw [hm]; exact m) (r.flat hL hm h)
/-- back to the earlier ghost -/
theorem Wf.back {mg : Mg} {g g' : Gh} {cs cs' : Cells} {H H' : Hp} {as as' : List Addr} (w : Wf mg g cs H as) (a : AdvE g g' H H' as) (w' : Wf mg g' cs' H' as') (h : cs'.all flatC = true) :
    ∃ g2 : Gh, g2.F = g.F ∧ g2.L = g'.L ∧ g2.mg = g'.mg ∧ g.Le g2 ∧ AdvE g g2 H H' as ∧ Wf mg g2 cs' H' as := by
  refine ⟨{ g' with F := g.F }, rfl, rfl, rfl, ⟨fun _ _ q => q, a.le.L, a.mg⟩, ⟨⟨fun _ _ q => q, a.L, a.mg, a.keep, fun _ _ q => .inl q, a.dom⟩, a.own⟩, ⟨w'.mg, fun x u q => w'.see x u (a.F x u q), w'.len, w'.ndL, fun x q => ?_, fun i c x h1 h2 => ?_, w.nd, fun x hx => ?_⟩⟩
  · show g.F x = none
    cases e : g.F x with
    | none => rfl
    | some u =>
      have := w'.sepL x q
      rw [a.F x u e] at this; cases this
  · exact CellR.flat (g := g') (g' := ⟨g.F, g'.L, g'.mg⟩) rfl rfl (w'.cell i c x h1 h2) (List.all_eq_true.mp h c (List.mem_of_getElem? h1))
  · obtain ⟨h1, h2, h3⟩ := w.sep x hx
    refine ⟨h1, fun z => ?_, a.dom x h3⟩
    obtain ⟨l, e, n⟩ := a.L
    have z : x ∈ g'.L := z
    rw [e] at z
    rcases List.mem_append.mp z with z | z
    · exact h2 z
    · exact h3 (n x z)
theorem EnvR.held {mg : Mg} {g g2 g' : Gh} {cs : Cells} {H H' : Hp} {env : Ev} {σ : St} {as : List Addr} (e : EnvR g H env σ as) (w : Wf mg g cs H as) (a : AdvE g g' H H' as) (l : g.Le g2) : EnvR g2 H' env σ as := e.mono l fun x hx => by
  cases q : H x with
  | none => exact absurd q (w.sep x hx).2.2
  | some u => exact a.own x u q (w.sep x hx).2.1
def backX (env : Ev) : XRes → XRes
  | .ok (.fz d) env1 cs1 => if flatD d = true ∧ cs1.all flatC = true then .ok (.fz d) env cs1 else .ok (.fz d) env1 cs1
  | r => r
def xKeep (m : XM) : XM := fun env cs => backX env (m env cs)
theorem em_keep {X : Cx} {e : Expr} {m : XM} (h : Em X e m) : Em X e (xKeep m) := ⟨fun W tk => pe_imp (h.run W tk) fun σ H Q ⟨g, cs, env, as, w, ev, f⟩ => by
  refine ⟨g, cs, env, as, w, ev, ?_⟩
  have f : Fin (md X) g H as W σ Q (backX env (m env cs)) := f
  cases q : m env cs with
  | exc x e1 c1 => rw [q] at f; exact f
  | bad => rw [q] at f; exact f
  | ok o e1 c1 =>
    rw [q] at f
    cases o with
    | ol os => exact f
    | od t k => exact f
    | fz d =>
      have f : Fin (md X) g H as W σ Q (if flatD d = true ∧ c1.all flatC = true then .ok (.fz d) env c1 else .ok (.fz d) e1 c1) := f
      by_cases hc : flatD d = true ∧ c1.all flatC = true
      · rw [if_pos hc] at f
        intro v H' g' as' bs a s w' ev' r n
        obtain ⟨g2, _, hL, hm, le, a2, w2⟩ := w.back a w' hc.2
        refine f v H' g2 as [] a2 (.refl _ _) w2 (ev.held w a le) (.fz ?_) fun _ z => nomatch z
        cases r with
        | fz r => exact r.flat hL hm hc.1
      · rw [if_neg hc] at f; exact f⟩
/-! ### methods that read -/
structure OpM (mg : Mg) (K : PySem.W.Frag) (T : String) (rd : D → Cells → Bool) (p : D → List D → Cells → Option O) (r : V → List V → Hp → VK → Prop) : Prop where
  ty : ∀ (g : Gh) (cs : Cells) (H : Hp) (as : List Addr) (d : D) (x : V), Wf mg g cs H as → Rep g d x → rd d cs = true → tyV K T x H
  run : ∀ (g : Gh) (cs : Cells) (H : Hp) (as : List Addr) (d : D) (x : V) (ds : List D) (xs : List V) (o : O) (Q : VK), Wf mg g cs H as → Rep g d x → RepL g ds xs → p d ds cs = some o → Post mg g cs H as o Q → r x xs H Q
def xMeth (rd : D → Cells → Bool) (p : D → List D → Cells → Option O) (m : XM) (ml : LM) : XM := fun env cs => (m env cs).bind fun d env cs => if rd d cs = true then (ml env cs).bind fun ds env cs => ofO (p d ds cs) env cs else .bad
section
variable {X : Cx} {o e : Expr} {es : List Expr} {m : XM} {ml : LM} {name : Str} {apos cpos : Pos} {T id : String} {r : V → List V → Hp → VK → Prop} {rd : D → Cells → Bool} {p : D → List D → Cells → Option O}
theorem em_meth (pa : PlainAttrs T) (slot : Slot T name id) (hty : typeOf (.builtin id) = pure (.type "method_descriptor")) (hm : MtR X id r) (P : OpM (md X) X.K T rd p r) (ho : Em X o m) (ha : Am X (e :: es) ml)
    (hbase : attributeBase o name X.env (eval o X.env) = eval o X.env := by rfl)
    (hfew : ((backTo cpos (starEach (e :: es) X.env)).all (fun x => !x.1) && (backToKw cpos (keywordEach [] X.env)).all (fun x => x.1.isSome)
      && decide ((e :: es).length + ([] : List Keyword).length + (if ([] : List Keyword).isEmpty then 0 else 1) < 30)) = true := by rfl)
    (hline : (apos.endLine == cpos.line) = true := by rfl) (hs : starEach (e :: es) X.env = (false, eval e X.env) :: starEach es X.env := by rfl) (hplain : (backTo cpos (starEach es X.env)).any (·.1) = false := by rfl) :
    Em X (.Call (.Attribute o name apos) (e :: es) [] cpos) (xMeth rd p m ml) := ⟨fun W tk => pe_imp (pe_bm pa slot hty hm (ho.run W tk) (ha.run W tk) hbase hfew hline hs hplain) fun σ H Q ⟨g, cs, env, as, w, ev, f⟩ => by
  refine ⟨g, cs, env, as, w, ev, f.bind.imp fun v H1 ⟨g1, cs1, env1, as1, d, G, rp, f⟩ => ?_⟩
  by_cases hr : rd d cs1 = true
  · rw [if_pos hr] at f
    refine ⟨P.ty g1 cs1 H1 as1 d v G.wf rp hr, g1, cs1, env1, as1, G.wf, G.env, (FinL.bind f).imp fun u H2 ⟨g2, cs2, env2, as2, ds, G2, rl, f⟩ => ?_⟩
    cases q : p d ds cs2 with
    | none => rw [q] at f; exact f.elim
    | some o => rw [q] at f; exact P.run g2 cs2 H2 as2 d v ds u o Q G2.wf (rp.mono G2.adv.le) rl q (f.post G2.wf G2.env)
  · rw [if_neg hr] at f; exact f.elim⟩
theorem em_meth0 (pa : PlainAttrs T) (slot : Slot T name id) (hty : typeOf (.builtin id) = pure (.type "method_descriptor")) (hm : MtR X id r) (P : OpM (md X) X.K T rd p r) (ho : Em X o m)
    (hbase : attributeBase o name X.env (eval o X.env) = eval o X.env := by rfl) (hline : (apos.endLine == cpos.line) = true := by rfl) :
    Em X (.Call (.Attribute o name apos) [] [] cpos) (xMeth rd p m lNil) := ⟨fun W tk => pe_imp (pe_bm0 pa slot hty hm (ho.run W tk) hbase hline) fun σ H Q ⟨g, cs, env, as, w, ev, f⟩ => by
  refine ⟨g, cs, env, as, w, ev, f.bind.imp fun v H1 ⟨g1, cs1, env1, as1, d, G, rp, f⟩ => ?_⟩
  by_cases hr : rd d cs1 = true
  · rw [if_pos hr] at f
    refine ⟨P.ty g1 cs1 H1 as1 d v G.wf rp hr, ?_⟩
    cases q : p d [] cs1 with
    | none => rw [show lNil env1 cs1 = .ok [] env1 cs1 from rfl] at f; have f : Fin (md X) g1 H1 as1 W σ Q (ofO (p d [] cs1) env1 cs1) := f; rw [q] at f; exact f.elim
    | some o =>
      have f : Fin (md X) g1 H1 as1 W σ Q (ofO (p d [] cs1) env1 cs1) := f
      rw [q] at f; exact P.run g1 cs1 H1 as1 d v [] [] o Q G.wf rp .nil q (f.post G.wf G.env)
  · rw [if_neg hr] at f; exact f.elim⟩
theorem em_bits {m : XM} (ho : Em X o m) (hbase : attributeBase o "bit_length" X.env (eval o X.env) = eval o X.env := by rfl) (hline : (apos.endLine == cpos.line) = true := by rfl) :
    Em X (.Call (.Attribute o "bit_length" apos) [] [] cpos) (xOp1 (fun d _ => match d with | .int i => iO (Builtin.Int.intBits i : Nat) | _ => none) m) := ⟨fun W tk => pe_imp (pe_bits (ho.run W tk) hbase hline) fun σ H Q h => by
  refine op1_red (r := fun x H Q => ∃ i, x = .int i ∧ Q (.int (Builtin.Int.intBits i : Nat)) H) ⟨fun g cs H as d x o Q w r h post => ?_⟩ h
  cases r with
  | int => cases h; exact ⟨_, rfl, post.int w⟩
  | _ => cases h⟩
/-! #### lists -/
def isLst : D → Cells → Bool
  | .lst _, _ => true
  | .scr _, _ => true
  | _, _ => false
theorem ty_lst {mg : Mg} {g : Gh} {cs : Cells} {H : Hp} {as : List Addr} {d : D} {x : V} (w : Wf mg g cs H as) (r : Rep g d x) (h : isLst d cs = true) : tyV mg.K "list" x H := by
  cases r with
  | lst hF l => exact .inl ⟨rfl, _, seen_lst w hF⟩
  | @scr a ob vs ds hF l => exact .inl ⟨rfl, vs, .inl (.inr ⟨ob, seen_ex w hF (fun z => z)⟩)⟩
  | @scK a vs ds hF l => exact .inl ⟨rfl, vs, kl_sq w hF⟩
  | _ => cases h
def rLstG (f : List D → D → Option Int) : V → List V → Hp → VK → Prop := fun x xs H Q => ∃ mg g cs as es d y i, Wf mg g cs H as ∧ Rep g (.lst es) x ∧ xs = [y] ∧ Rep g d y ∧ okD 60 d = true ∧ es.all (okD 60) = true ∧ f es d = some i ∧ Q (.int i) H
def idxD (es : List D) (d : D) : Option Int := (es.findIdx? fun e => eqD e d).map fun n : Nat => (n : Int)
def cntD (es : List D) (d : D) : Option Int := some ((es.countP fun e => eqD e d : Nat) : Int)
def pMe (f : List D → D → Option Int) : D → List D → Cells → Option O
  | .lst es, [d], _ => if okD 60 d = true ∧ es.all (okD 60) = true then (f es d).map fun i : Int => O.fz (.int i) else none
  | _, _, _ => none
theorem P_me {mg : Mg} {f : List D → D → Option Int} : OpM mg mg.K "list" isLst (pMe f) (rLstG f) := ⟨fun g cs H as d x w r h => ty_lst w r h, fun g cs H as d x ds xs o Q w r rl h post => by
  match d, ds, r, rl, h with
  | .lst es, [d], r, rl, h =>
    have h : (if okD 60 d = true ∧ es.all (okD 60) = true then (f es d).map (fun i : Int => O.fz (.int i)) else none) = some o := h
    by_cases hc : okD 60 d = true ∧ es.all (okD 60) = true
    · rw [if_pos hc] at h
      cases q : f es d with
      | none => rw [q] at h; cases h
      | some i =>
        rw [q] at h; cases h
        cases rl with
        | cons rd rn => cases rn; exact ⟨mg, g, cs, as, es, d, _, i, w, r, rfl, rd, hc.1, hc.2, q, post.int w⟩
    · rw [if_neg hc] at h; cases h⟩
theorem list_at {pins : List (Addr × Obj)} {σ : St} {H : Hp} {s : Shared} {mg : Mg} {g : Gh} {cs : Cells} {as : List Addr} {es : List D} {x : V} {v : Value} (I : Inv X pins σ H s) (w : Wf mg g cs H as) (r : Rep g (.lst es) x) (rx : RelV x v) (k : es.all (okD 60) = true) :
    ∃ (a : Addr) (us : List Value) (n : Nat) (dd : Option Addr) (sl : Array (Option Value)), v = .ref a ∧ DRL s es us ∧ us.length ≤ sizeLine ∧ s.heap.get? a = some { cls := .type "list", dict := dd, data := .seq us.toArray n, slots := sl } := by
  cases r with
  | @lst a vs _ hF l =>
    cases rx
    obtain ⟨its, rv, ⟨⟨cls, dd, data, sls⟩, n, ho, hc, hdn, hdt⟩, hlen⟩ := I.list (seen_lst (K := X.K) w hF)
    simp only at hc hdt
    subst hc hdt
    exact ⟨a, its, n, dd, sls, rfl, drl_of (n := 60) I w l rv (fun y hy => List.all_eq_true.mp k y hy), (by have := rv.length; omega), ho⟩
theorem mt_cntG (hu : X.A.units + 64 < cLine) : MtR X "list.count" (rLstG cntD) := by
  intro pins s σ H x xs v us Q I rx rxs h
  obtain ⟨mg, g, cs, as, es, d, y, i, w, r, rfl, rd, kd, ke, hf, q⟩ := h
  obtain ⟨a, its, n, dd, sl, rfl, l, hl, ho⟩ := list_at I w r rx ke
  cases rxs with
  | cons ry rt =>
    rename_i uy ut
    cases rt
    have dy := dr_of I w rd ry kd
    refine call_meets PySem.F.slot_list_count ⟨_, ho, rfl⟩ PySem.F.entry_list_count (PySem.F.args_list_count_2 _ _)
      (SeqAt.list_countAt a its.toArray n dd sl uy (eU s d)) ⟨ho, fun u hm => eU_at (n := 60) (units1 hu) dy kd l (fun d hd => List.all_eq_true.mp ke d hd) u (by simpa using hm), ?_⟩
    have e : (its.toArray.toList.countP (eU s d)) = es.countP fun e => eqD e d := by simpa using eU_count l
    cases hf
    rw [e]
    exact ⟨.int _, H, I.tok _, ⟨_, rfl⟩, q⟩
theorem eU_find {s : Shared} {x : D} : ∀ {ds : List D} {us : List Value} {n : Nat}, DRL s ds us → ds.findIdx? (fun d => eqD d x) = some n → ∃ h : n < us.length, eU s x us[n] = true ∧ ∀ m (hm : m < us.length), m < n → eU s x us[m] = false
  | _, _, n, .nil, h => by simp at h
  | d :: ds, u :: us, n, .cons r l, h => by
    rw [List.findIdx?_cons] at h
    by_cases hc : eqD d x = true
    · rw [if_pos hc] at h
      cases h
      exact ⟨by simp, by simpa [eU_of r] using hc, fun m _ z => absurd z (Nat.not_lt_zero _)⟩
    · rw [if_neg hc] at h
      cases q : ds.findIdx? (fun d => eqD d x) with
      | none => rw [q] at h; cases h
      | some k =>
        rw [q] at h; cases h
        obtain ⟨h1, h2, h3⟩ := eU_find l q
        refine ⟨by simpa using h1, by simpa using h2, fun m hm hk => ?_⟩
        cases m with
        | zero => simpa [eU_of r] using hc
        | succ m =>
          have hk : m + 1 < k + 1 := hk
          simpa using h3 m (by simpa using hm) (by omega)
theorem mt_idxG (hu : X.A.units + 64 < cLine) : MtR X "list.index" (rLstG idxD) := by
  intro pins s σ H x xs v us Q I rx rxs h
  obtain ⟨mg, g, cs, as, es, d, y, i, w, r, rfl, rd, kd, ke, hf, q⟩ := h
  obtain ⟨a, its, n, dd, sl, rfl, l, hl, ho⟩ := list_at I w r rx ke
  cases rxs with
  | cons ry rt =>
    rename_i uy ut
    cases rt
    have dy := dr_of I w rd ry kd
    unfold idxD at hf
    cases qf : es.findIdx? (fun e => eqD e d) with
    | none => rw [qf] at hf; cases hf
    | some j =>
      rw [qf] at hf; cases hf
      obtain ⟨hj, h2, h3⟩ := eU_find l qf
      have hsl := sizeLine_eq
      refine call_meets PySem.F.slot_list_index ⟨_, ho, rfl⟩ PySem.F.entry_list_index (PySem.F.args_list_index_2 _ _)
        (SeqAt.list_indexAt a its.toArray n dd sl uy (eU s d) j (by simpa using hj) (by omega) (by simpa using h2) fun m hm hk => by simpa using h3 m (by simpa using hm) hk) ⟨ho, fun u hm => eU_at (n := 60) (units1 hu) dy kd l (fun d hd => List.all_eq_true.mp ke d hd) u (by simpa using hm), ?_⟩
      exact ⟨.int (j : Nat), H, I.tok _, ⟨_, rfl⟩, q⟩
end
end GM
namespace GM
open PySem PySem.Spec L2
/-! ### sorted -/
mutual
def toP : D → PyData
  | .bl b => .bool b
  | .int i => .int i
  | .str x => .str x
  | .lst ds => .list (toPL ds)
  | .tup ds => .tuple (toPL ds)
  | _ => .none
def toPL : List D → List PyData
  | [] => []
  | d :: r => toP d :: toPL r
end
theorem toPL_map : ∀ ds : List D, toPL ds = ds.map toP
  | [] => by simp [toPL]
  | d :: r => by simp [toPL, toPL_map r]
mutual
theorem dr_reads {s : Shared} : ∀ {d : D} {v : Value}, DR s d v → ∃ as, PySem.Reads s.heap v (toP d) as
  | _, _, .non => ⟨[], by simp only [toP]; exact .none⟩
  | _, _, .bl => ⟨[], by simp only [toP]; exact .bool _⟩
  | _, _, .int => ⟨[], by simp only [toP]; exact .int _ _⟩
  | _, _, .str => ⟨[], by simp only [toP]; exact .str _ _⟩
  | _, _, @DR.lst _ a us ds h r => by
    obtain ⟨as, q⟩ := drl_reads r
    obtain ⟨o, e, c, n, dt⟩ := h
    exact ⟨a :: as, by simp only [toP]; exact .list e c dt q⟩
  | _, _, @DR.tup _ a us ds h r => by
    obtain ⟨as, q⟩ := drl_reads r
    obtain ⟨o, e, c, n, dt⟩ := h
    exact ⟨as, by simp only [toP]; exact .tuple e c dt q⟩
theorem drl_reads {s : Shared} : ∀ {ds : List D} {vs : List Value}, DRL s ds vs → ∃ as, PySem.ReadsAll s.heap vs (toPL ds) as
  | _, _, .nil => ⟨[], by simp only [toPL]; exact .nil⟩
  | _, _, .cons h r => by
    obtain ⟨as, q⟩ := dr_reads h
    obtain ⟨bs, q2⟩ := drl_reads r
    exact ⟨as ++ bs, by simp only [toPL]; exact .cons q q2⟩
end
mutual
theorem toP_depth : ∀ {n : Nat} {d : D}, okD n d = true → (toP d).depth ≤ n
  | _, .non, _ => by simp [toP, PyData.depth]
  | _, .bl _, _ => by simp [toP, PyData.depth]
  | _, .int _, _ => by simp [toP, PyData.depth]
  | _, .str _, _ => by simp [toP, PyData.depth]
  | n, .lst ds, h => by
    obtain ⟨m, rfl, k⟩ := okD_lst h
    have := toPL_depth k
    simp only [toP, PyData.depth]; omega
  | n, .tup ds, h => by
    obtain ⟨m, rfl, k⟩ := okD_tup h
    have := toPL_depth k
    simp only [toP, PyData.depth]; omega
  | _, .dic _ _, _ => by simp [toP, PyData.depth]
  | _, .obj _ _, _ => by simp [toP, PyData.depth]
  | _, .exn _ _, _ => by simp [toP, PyData.depth]
  | _, .cls _, _ => by simp [toP, PyData.depth]
  | _, .cel _, _ => by simp [toP, PyData.depth]
  | _, .scr _, _ => by simp [toP, PyData.depth]
theorem toPL_depth : ∀ {n : Nat} {ds : List D}, (∀ d ∈ ds, okD n d = true) → PyData.depthAll (toPL ds) ≤ n
  | _, [], _ => by simp [toPL, PyData.depthAll]
  | n, d :: r, h => by
    have h1 := toP_depth (h d (by simp))
    have h2 := toPL_depth (ds := r) (n := n) fun x hx => h x (by simp [hx])
    simp only [toPL, PyData.depthAll]; omega
end
def notTup : PyData → Bool
  | .none => false
  | .tuple _ => false
  | _ => true
def isTup1 : PyData → Bool
  | .tuple (_ :: _) => true
  | _ => false
def sortOk (ds : List D) : Bool := ds.all (okD 60) && (ds.all fun a => ds.all fun b => PySem.W.alike (toP a) (toP b)) && ((ds.all fun a => isTup1 (toP a)) || ds.all fun a => notTup (toP a))
def dLe : D → D → Bool := PySem.W.dataLe false toP
def sortD (ds : List D) : List D := ds.mergeSort dLe
def pSort : List D → Cells → Option O
  | [.lst ds], _ => if ds.length ≤ 1000000 ∧ sortOk ds = true then some (.ol ((sortD ds).map .fz)) else none
  | _, _ => none
def rSortG : List V → Hp → VK → Prop := fun xs H Q => ∃ mg g cs as ds x vs, Wf mg g cs H as ∧ xs = [V.ref x] ∧ g.F x = some (.lst vs) ∧ RepL g ds vs ∧ ds.length ≤ 1000000 ∧ sortOk ds = true ∧ ∀ p ws, H p = none → RepL g (sortD ds) ws → Q (.ref p) (upd H p (.lst ws))
theorem RepL.zipped {g : Gh} : ∀ {ds : List D} {vs : List V}, RepL g ds vs → ∃ zs : List (D × V), zs.map (·.1) = ds ∧ zs.map (·.2) = vs ∧ ∀ z ∈ zs, Rep g z.1 z.2
  | _, _, .nil => ⟨[], rfl, rfl, fun _ h => nomatch h⟩
  | _, _, .cons (d := d) (v := v) h r => by
    obtain ⟨zs, e1, e2, k⟩ := r.zipped
    exact ⟨(d, v) :: zs, by simp [e1], by simp [e2], fun z hz => by
      rcases List.mem_cons.mp hz with e | hz
      · subst e; exact h
      · exact k z hz⟩
theorem RepL.ofZip {g : Gh} : ∀ {zs : List (D × V)}, (∀ z ∈ zs, Rep g z.1 z.2) → RepL g (zs.map (·.1)) (zs.map (·.2))
  | [], _ => .nil
  | z :: zs, h => .cons (h z (by simp)) (ofZip fun y hy => h y (by simp [hy]))
theorem each_of {R : Value → D × V → Prop} : ∀ {zs : List (D × V)} {us : List Value}, Vals (zs.map (·.2)) us → (∀ z ∈ zs, ∀ u, RelV z.2 u → R u z) → PySem.W.EachIs R us zs
  | [], _, .nil, _ => .nil
  | z :: zs, _, .cons r t, h => .cons (h z (by simp) _ r) (each_of t fun y hy => h y (by simp [hy]))
theorem each_vals : ∀ {zs : List (D × V)} {us : List Value}, PySem.W.EachIs (fun u z => RelV z.2 u) us zs → Vals (zs.map (·.2)) us
  | [], _, .nil => .nil
  | _ :: _, _, .cons r t => .cons r (each_vals t)
theorem sortD_zip (zs : List (D × V)) : (zs.mergeSort (PySem.W.dataLe false fun z => toP z.1)).map (·.1) = sortD (zs.map (·.1)) :=
  List.map_mergeSort fun _ _ _ _ => rfl
section
variable {X : Cx} {mg : Mg}
theorem call_sortedG (hu : X.A.units + 64 < cLine) : CallR X (.builtin "sorted") rSortG := by
  intro pins s σ H xs us Q I r h
  obtain ⟨mg, g, cs, as, ds, x, vs, w, rfl, hF, rl, hz, hk, q⟩ := h
  cases r with
  | cons rx rn =>
    cases rn
    cases rx
    obtain ⟨its, rv, pl, hlen⟩ := I.list (seen_lst (K := X.K) w hF)
    simp only [sortOk, Bool.and_eq_true, Bool.or_eq_true] at hk
    obtain ⟨⟨k1, k2⟩, k3⟩ := hk
    obtain ⟨zs, e1, e2, kz⟩ := rl.zipped
    subst e1 e2
    have mem : ∀ z ∈ zs, okD 60 z.1 = true := fun z hz => List.all_eq_true.mp k1 z.1 (List.mem_map.mpr ⟨z, hz, rfl⟩)
    have e0 : PySem.W.EachIs (fun u z => RelV z.2 u) its zs := each_of rv fun z _ u r => r
    have e : PySem.W.EachIs (fun u z => ∃ as, PySem.Reads s.heap u (toP z.1) as) its zs := each_of rv fun z hz u r => dr_reads (dr_of (n := 60) I w (kz z hz) r (mem z hz))
    have hal : PySem.W.AllAlike (zs.map fun z => toP z.1) := fun a ha b hb => by
      obtain ⟨za, hza, rfl⟩ := List.mem_map.mp ha
      obtain ⟨zb, hzb, rfl⟩ := List.mem_map.mp hb
      exact List.all_eq_true.mp (List.all_eq_true.mp k2 za.1 (List.mem_map.mpr ⟨za, hza, rfl⟩)) zb.1 (List.mem_map.mpr ⟨zb, hzb, rfl⟩)
    have hso : PySem.W.Sortable (zs.map fun z => toP z.1) := by
      rcases k3 with k3 | k3
      · refine .inl fun d hd => ?_
        obtain ⟨z, hz, rfl⟩ := List.mem_map.mp hd
        have := List.all_eq_true.mp k3 z.1 (List.mem_map.mpr ⟨z, hz, rfl⟩)
        match q : toP z.1, this with
        | .tuple (x :: r), _ => exact ⟨x, r, rfl⟩
      · refine .inr fun d hd => ?_
        obtain ⟨z, hz, rfl⟩ := List.mem_map.mp hd
        have := List.all_eq_true.mp k3 z.1 (List.mem_map.mpr ⟨z, hz, rfl⟩)
        exact ⟨fun e => (by rw [e] at this; cases this), fun xs e => (by rw [e] at this; cases this)⟩
    have hL : zs.length ≤ sizeLine := by
      have := line_le (by simpa using hz : zs.length ≤ 1000000)
      omega
    refine PySem.W.sorted_data (enc := fun z => toP z.1) pl.isList e0 e hal hso hL (fun z hz => by have := toP_depth (mem z hz); omega) fun out hlo ho => ?_
    have rv2 := each_vals ho
    have hn : H (s.heap.objs.size + 1) = none := I.hok.fresh (Nat.le_succ _)
    obtain ⟨ep, he⟩ := PyProof.Rows.sortedAll_at s.heap its out.toArray
    have hmem : ∀ z ∈ zs.mergeSort (PySem.W.dataLe false fun z => toP z.1), Rep g z.1 z.2 := fun z hz => kz z ((List.mergeSort_perm _ _).mem_iff.mp hz)
    have hvl : ((zs.mergeSort (PySem.W.dataLe false fun z => toP z.1)).map (·.2)).length ≤ sizeLine := by
      have := rv2.length
      rw [this, hlo]; exact hL
    exact ⟨.ref (s.heap.objs.size + 1), _, I.laid (t' := s.toks) (o := .lst ((zs.mergeSort (PySem.W.dataLe false fun z => toP z.1)).map (·.2))) (fun b o e => PyProof.Rows.sortedAll_old e) (Nat.le_succ _) ⟨hvl, out, ep, rv2, he⟩, rfl, q _ _ hn (by rw [← sortD_zip]; exact RepL.ofZip hmem)⟩
theorem P_sort : OpL mg pSort rSortG := ⟨fun g cs H as ds xs o Q w rl h post => by
  match ds, rl, h with
  | [.lst ds], rl, h =>
    obtain ⟨x, rfl, r⟩ := one_of rl
    have h : (if ds.length ≤ 1000000 ∧ sortOk ds = true then some (.ol ((sortD ds).map .fz)) else none) = some o := h
    by_cases hc : ds.length ≤ 1000000 ∧ sortOk ds = true
    · rw [if_pos hc] at h
      cases h
      cases r with
      | @lst a vs _ hF l => exact ⟨mg, g, cs, as, ds, a, vs, w, rfl, hF, l, hc.1, hc.2, fun p ws hp rw => post.lst w rw hp⟩
    · rw [if_neg hc] at h; cases h⟩
end
end GM
namespace GM
open PySem PySem.Spec L2
/-! ### a comprehension of two clauses -/
theorem wipeE_get (env : Ev) (j : Nat) : ∀ vs : List Nat, (wipeE env vs)[j]? = if j ∈ vs then env[j]?.map (fun _ => none) else env[j]?
  | [] => by simp [wipeE]
  | v :: vs => by
    have ih := wipeE_get env j vs
    simp only [wipeE]
    by_cases e : v = j
    · subst e
      rw [List.getElem?_set, if_pos rfl, if_pos (by simp : v ∈ v :: vs)]
      have hl : (wipeE env vs).length = env.length := by
        clear ih
        induction vs with
        | nil => rfl
        | cons a b ih => simp [wipeE, ih]
      rw [hl]
      by_cases h : v < env.length
      · rw [if_pos h, List.getElem?_eq_getElem h]; rfl
      · rw [if_neg h, List.getElem?_eq_none (by omega)]; rfl
    · rw [List.getElem?_set_ne e, ih]
      have : (j ∈ v :: vs) = (j ∈ vs) := by simp; exact fun z => absurd z.symm e
      simp only [this]
theorem wipe_get (σ : St) (j : Nat) : ∀ vs : List Nat, (L2.wipe σ vs)[j]? = if j ∈ vs then σ[j]?.map (fun _ => none) else σ[j]?
  | [] => by simp [L2.wipe]
  | v :: vs => by
    have ih := wipe_get σ j vs
    show ((L2.wipe σ vs).set v none)[j]? = _
    by_cases e : v = j
    · subst e
      rw [List.getElem?_set, if_pos rfl, if_pos (by simp : v ∈ v :: vs), wipe_length]
      by_cases h : v < σ.length
      · rw [if_pos h, List.getElem?_eq_getElem h]; rfl
      · rw [if_neg h, List.getElem?_eq_none (by omega)]; rfl
    · rw [List.getElem?_set_ne e, ih]
      have : (j ∈ v :: vs) = (j ∈ vs) := by simp; exact fun z => absurd z.symm e
      simp only [this]
theorem wipeE_sub {env : Ev} {vs vs1 : List Nat} (h : ∀ j ∈ vs1, j ∈ vs) : wipeE (wipeE env vs1) vs = wipeE env vs := by
  apply List.ext_getElem?
  intro j
  rw [wipeE_get, wipeE_get, wipeE_get]
  by_cases a : j ∈ vs
  · rw [if_pos a, if_pos a]
    by_cases b : j ∈ vs1
    · rw [if_pos b]; cases env[j]? <;> rfl
    · rw [if_neg b]
  · rw [if_neg a, if_neg a, if_neg fun b => a (h j b)]
theorem wipe_sub {σ : St} {vs vs1 : List Nat} (h : ∀ j ∈ vs1, j ∈ vs) : L2.wipe (L2.wipe σ vs1) vs = L2.wipe σ vs := by
  apply List.ext_getElem?
  intro j
  rw [wipe_get, wipe_get, wipe_get]
  by_cases a : j ∈ vs
  · rw [if_pos a, if_pos a]
    by_cases b : j ∈ vs1
    · rw [if_pos b]; cases σ[j]? <;> rfl
    · rw [if_neg b]
  · rw [if_neg a, if_neg a, if_neg fun b => a (h j b)]
def lc2Go (vs : List Nat) (t : TgM) (c : XM) (mi1 : LM) (vs1 : List Nat) (t1 : TgM) (c1 e : XM) : List D → Ev → Cells → List O → ARes
  | [], env, cs, acc => .ok acc env cs
  | d :: ds, env, cs, acc => match t d (wipeE env vs) with
    | none => .bad
    | some env1 => match c env1 cs with
      | .ok o env2 cs2 => match frz o with
        | .bl true => match mi1 env2 cs2 with
          | .ok ds1 env3 cs3 => if acc.length + ds1.length ≤ 1000000 then match lcGo vs1 t1 c1 e ds1 env3 cs3 acc with
              | .ok acc env4 cs4 => lc2Go vs t c mi1 vs1 t1 c1 e ds env4 cs4 acc
              | .bad => .bad
            else .bad
          | _ => .bad
        | .bl false => lc2Go vs t c mi1 vs1 t1 c1 e ds env2 cs2 acc
        | _ => .bad
      | _ => .bad
def xLc2 (mi : LM) (vs : List Nat) (t : TgM) (c : XM) (mi1 : LM) (vs1 : List Nat) (t1 : TgM) (c1 e : XM) : XM := fun env cs => (mi env cs).bind fun ds env cs => match lc2Go vs t c mi1 vs1 t1 c1 e ds env cs [] with
    | .ok acc env cs => .ok (.ol acc) (wipeE env vs) cs
    | .bad => .bad
section
variable {X : Cx} {elt tg iter tg1 iter1 : Expr} {ifs ifs1 : List Expr} {scope : Scope} {pos : Pos} {mi mi1 : LM} {t t1 : TgM} {c c1 e : XM} {ws ws1 vs1 : List Nat}
abbrev W0 : WX := fun _ _ _ _ => False
theorem lc2_red {own : List (Str × Nat)} {W : WX} {σ : St} {H : Hp} {Q : VK} {mg : Mg} (hws : ∀ j ∈ ws, j ∈ own.map (·.2)) (hws1 : ∀ j ∈ ws1, j ∈ vs1) (hv1 : ∀ j ∈ vs1, j ∈ own.map (·.2)) (h : tX mg (xLc2 mi (own.map (·.2)) t c mi1 vs1 t1 c1 e) W σ H Q) :
    tLc2 (tI mg mi W) (tG mg t ws) (tB (tX mg c W0)) (tI mg mi1 W0) (tG mg t1 ws1) (tB (tX mg c1 W0)) (tX mg e W0) (own.map (·.2)) vs1 σ H Q := by
  obtain ⟨g, cs, env, as, w, ev, f⟩ := h
  generalize hvs : own.map (·.2) = vs at *
  refine ⟨g, cs, env, as, w, ev, ?_⟩
  unfold xLc2 at f
  cases q : mi env cs with
  | exc x env1 cs1 => rw [q] at f; exact f
  | bad => rw [q] at f; exact f
  | ok ds env1 cs1 =>
    rw [q] at f
    intro J H1 g1 as1 a1 s1 w1 e1 wi L hL
    have f0 : Fin mg g1 H1 as1 W σ Q (match lc2Go vs t c mi1 vs1 t1 c1 e ds env1 cs1 [] with | .ok acc env cs => .ok (.ol acc) (wipeE env vs) cs | .bad => .bad) := Fin.rebase a1 s1 f
    have f1 : FinA mg g1 H1 as1 W σ Q vs (lc2Go vs t c mi1 vs1 t1 c1 e ds env1 cs1 []) := by
      cases q2 : lc2Go vs t c mi1 vs1 t1 c1 e ds env1 cs1 [] with
      | ok acc env cs => rw [q2] at f0; exact f0
      | bad => rw [q2] at f0; exact f0
    have lk0 : LkK g1 H1 (upd H1 L (.lst [])) := fun x o u hF h => by
      rw [upd_ne fun z => by rw [z, hL] at h; cases h]; exact h
    obtain ⟨as2, m1, _⟩ := (mkE_start w1 e1 hL).wipe vs
    refine ⟨fun i n H => n = ds.length - i ∧ i ≤ ds.length ∧ ∃ g cs env as bs acc, MkE mg g1 H1 as1 L g cs H (wipeE env vs) (L2.wipe σ vs) as bs acc ∧ LkK g1 H1 H ∧ g1.Le g ∧ FinA mg g1 H1 as1 W σ Q vs (lc2Go vs t c mi1 vs1 t1 c1 e (ds.drop i) env cs acc),
      ⟨ds.length, by simp, Nat.zero_le _, g1, cs1, env1, as2, [], [], m1, lk0, .refl _, by simpa using f1⟩, ?_⟩
    rintro i n H2 ⟨rfl, hi, g2, cs2, env2, as3, bs, acc, m, lk, le, f2⟩
    obtain ⟨k1, k2⟩ := wi i g2 cs2 H2 as3 le lk m.wfa
    by_cases hlt : i < ds.length
    · obtain ⟨go, yl⟩ := k1 _ (List.getElem?_eq_getElem hlt)
      refine .inr ⟨go, fun H => ∃ g cs env as bs acc, MkE mg g1 H1 as1 L g cs H (wipeE env vs) (L2.wipe σ vs) as bs acc ∧ LkK g1 H1 H ∧ g1.Le g ∧ FinA mg g1 H1 as1 W σ Q vs (lc2Go vs t c mi1 vs1 t1 c1 e (ds.drop (i + 1)) env cs acc),
        fun H' z => ⟨ds.length - (i + 1), by omega, rfl, hlt, z⟩, fun x H' y => ?_⟩
      obtain ⟨g3, a3, w3, r3⟩ := yl x H' y
      rw [List.drop_eq_getElem_cons hlt] at f2
      unfold lc2Go at f2
      cases qt : t ds[i] (wipeE env2 vs) with
      | none => rw [qt] at f2; exact f2.elim
      | some env3 =>
        rw [qt] at f2
        have e3 := m.env.keep m.wfa a3
        refine ⟨g3, cs2, wipeE env2 vs, as3, ds[i], env3, w3, e3, r3, qt, fun σ4 as4 w4 e4 su off => ?_⟩
        have o4 : L2.wipe σ4 vs = L2.wipe σ vs := wipe_eq off hws
        have st4 : Sub as4 as3 H2 := fun x hx => .inl (su x hx)
        refine ⟨o4, g3, cs2, env3, as4, w4, e4, ?_⟩
        have stp : ∀ {g5 : Gh} {H5 : Hp} {as5 : List Addr}, AdvE g3 g5 H' H5 as4 → Sub as5 as4 H' → AdvE g2 g5 H2 H5 as3 ∧ Sub as5 as3 H2 := fun a5 s5 => ⟨(a3.weakE (as := as3)).trans st4 a5, st4.trans (fun _ => a3.none) s5⟩
        cases qc : c env3 cs2 with
        | exc x _ _ => dsimp only at f2; rw [qc] at f2; exact f2.elim
        | bad => dsimp only at f2; rw [qc] at f2; exact f2.elim
        | ok o env5 cs5 =>
          dsimp only at f2
          rw [qc] at f2
          intro v H5 g5 as5 bs5 a5 s5 w5 e5 r5 n5
          obtain ⟨g6, G6, rp6⟩ := got_freeze a5 s5 w5 e5 r5 n5
          obtain ⟨A6, S6⟩ := stp G6.adv G6.sub
          dsimp only at f2
          generalize frz o = dd at f2 rp6
          cases rp6 with
          | @bl k =>
            refine ⟨k, rfl, ?_⟩
            cases k with
            | false =>
              rw [if_neg Bool.false_ne_true]
              obtain ⟨as7, m7, _⟩ := (m.step A6 S6 G6.wf G6.env).wipe vs
              rw [o4] at m7
              exact ⟨g6, cs5, env5, as7, bs, acc, m7, lk.trans le (.of m.wfa A6.toAdv), le.trans A6.le, f2⟩
            | true =>
              rw [if_pos rfl]
              dsimp only at f2
              refine ⟨g6, cs5, env5, as5, G6.wf, G6.env, ?_⟩
              cases qm : mi1 env5 cs5 with
              | exc x _ _ => rw [qm] at f2; exact f2.elim
              | bad => rw [qm] at f2; exact f2.elim
              | ok ds1 env8 cs8 =>
                rw [qm] at f2
                intro J1 H8 g8 as8 a8 s8 w8 e8 wi1
                dsimp only at f2
                by_cases hz : acc.length + ds1.length ≤ 1000000
                · rw [if_pos hz] at f2
                  have A8 : AdvE g2 g8 H2 H8 as3 := A6.trans S6 a8
                  have S8 : Sub as8 as3 H2 := S6.trans (fun _ => A6.none) s8
                  have m8 := m.step A8 S8 w8 e8
                  have le8 := le.trans A8.le
                  have lk8 := lk.trans le (.of m.wfa A8.toAdv)
                  refine lc_go (Φ := fun r => FinA mg g1 H1 as1 W σ Q vs (match r with | .ok acc env4 cs4 => lc2Go vs t c mi1 vs1 t1 c1 e (ds.drop (i + 1)) env4 cs4 acc | .bad => .bad)) (fun z => z) hws1 (fun g cs H env as bs acc m9 lk9 le9 f9 => ?_) wi1 m8 (.refl _ _) (.refl _) f2 hz
                  obtain ⟨as10, m10, _⟩ := m9.wipe vs
                  rw [wipeE_sub hv1, wipe_sub hv1, o4] at m10
                  exact ⟨g, cs, env, as10, bs, acc, m10, lk8.trans le8 lk9, le8.trans le9, f9⟩
                · rw [if_neg hz] at f2; exact f2.elim
          | _ => exact f2.elim
    · have e : i = ds.length := by omega
      subst e
      rw [List.drop_length] at f2
      exact .inl ⟨k2 (List.getElem?_eq_none (Nat.le_refl _)), f2 (.ref L) H2 g2 as3 (L :: bs) m.adv m.sub m.wf m.env.unwipe m.rep m.new⟩
abbrev BlkAll (X : Cx) (scope : Scope) (P : Cx → Prop) : Prop := ∀ (s : Shared) (H : Hp) (C : Addr) (cl : List (Str × Addr)) (fp : List Addr), P (X.blk s H scope (compEnvC scope cl C X.env) fp)
theorem em_lc2 {own : List (Str × Nat)} (vs1 : List Nat) (hc : X.calm = true) (hN : X.N.Nodup) (hi : Im X tg iter mi) (ok : BlkOk X.N X.env.scope scope own) (hws : ∀ j ∈ ws, j ∈ own.map (·.2)) (hws1 : ∀ j ∈ ws1, j ∈ vs1) (hv1 : ∀ j ∈ vs1, j ∈ own.map (·.2))
    (hg : BlkAll X scope fun Y => Gm Y tg t ws) (ht : BlkAll X scope fun Y => Cm Y ifs c) (hi1 : BlkAll X scope fun Y => Im Y tg1 iter1 mi1) (hg1 : BlkAll X scope fun Y => Gm Y tg1 t1 ws1) (ht1 : BlkAll X scope fun Y => Cm Y ifs1 c1) (he : BlkAll X scope fun Y => Em Y elt e)
    (hs : ∀ x, foldedSetIterable iter X.env x = pure x := by intro _; rfl) (hs1 : ∀ env x, foldedSetIterable iter1 env x = pure x := by intro _ _; rfl) :
    Em X (.ListComp elt [⟨tg, iter, ifs, 0⟩, ⟨tg1, iter1, ifs1, 0⟩] scope pos) (xLc2 mi (own.map (·.2)) t c mi1 vs1 t1 c1 e) := ⟨fun W tk =>
  pe_imp (pe_lc2 hc hN (hi.run W tk) ok hv1 (fun s H C cl fp => (hg s H C cl fp).run) (fun s H C cl fp => (ht s H C cl fp).run) (fun s H C cl fp => (hi1 s H C cl fp).run _ takes0) (fun s H C cl fp => (hg1 s H C cl fp).run) (fun s H C cl fp => (ht1 s H C cl fp).run) (fun s H C cl fp => (he s H C cl fp).run _ takes0) hs hs1) fun σ H Q h => lc2_red hws hws1 hv1 h⟩
theorem sm_asgLc2 {own : List (Str × Nat)} (vs1 : List Nat) {i : Nat} {y : Str} {py spos : Pos} (hc : X.calm = true) (hN : X.N.Nodup) (hsw : swapsWith (.ListComp elt [⟨tg, iter, ifs, 0⟩, ⟨tg1, iter1, ifs1, 0⟩] scope pos) (some (.Name y py)) spos.line X.env = pure true) (hi : Im X tg iter mi) (ok : BlkOk X.N X.env.scope scope own) (hws : ∀ j ∈ ws, j ∈ own.map (·.2)) (hws1 : ∀ j ∈ ws1, j ∈ vs1) (hv1 : ∀ j ∈ vs1, j ∈ own.map (·.2))
    (hg : BlkAll X scope fun Y => Gm Y tg t ws) (ht : BlkAll X scope fun Y => Cm Y ifs c) (hi1 : BlkAll X scope fun Y => Im Y tg1 iter1 mi1) (hg1 : BlkAll X scope fun Y => Gm Y tg1 t1 ws1) (ht1 : BlkAll X scope fun Y => Cm Y ifs1 c1) (he : BlkAll X scope fun Y => Em Y elt e)
    (hy : X.N[i]? = some y := by rfl) (hyl : X.env.scope.names.lookup y = some .local := by rfl) (hs : ∀ x, foldedSetIterable iter X.env x = pure x := by intro _; rfl) (hs1 : ∀ env x, foldedSetIterable iter1 env x = pure x := by intro _ _; rfl) :
    Sm X (.Assign [.Name y py] (.ListComp elt [⟨tg, iter, ifs, 0⟩, ⟨tg1, iter1, ifs1, 0⟩] scope pos) spos) (sAsg i (xLc2 mi (own.map (·.2)) t c mi1 vs1 t1 c1 e)) := ⟨fun W tk =>
  ps_imp (ps_setLc2 hc hN hy hyl hsw (hi.run W tk) ok hv1 (fun s H C cl fp => (hg s H C cl fp).run) (fun s H C cl fp => (ht s H C cl fp).run) (fun s H C cl fp => (hi1 s H C cl fp).run _ takes0) (fun s H C cl fp => (hg1 s H C cl fp).run) (fun s H C cl fp => (ht1 s H C cl fp).run) (fun s H C cl fp => (he s H C cl fp).run _ takes0) hs hs1) fun D σ H ⟨g, cs, env, as, w, ev, f⟩ => by
    have h : tX (md X) (xLc2 mi (own.map (·.2)) t c mi1 vs1 t1 c1 e) W σ H (fun x H1 => gName i x σ H1 D.nx) := ⟨g, cs, env, as, w, ev, (Fin.bindO f).imp fun v H1 ⟨g1, cs1, env1, as1, bs, o, G, w1, r, n, f⟩ => put_slot w1 G.env r f⟩
    exact lc2_red hws hws1 hv1 h⟩
end
end GM
namespace GM
open PySem PySem.Spec L2
/-! ### zip -/
def zipD (xs ys : List D) : List D := List.zipWith (fun a b => D.tup [a, b]) xs ys
def lZip (m : LM) : LM := fun env cs => (m env cs).bindL fun ds env cs => match ds with
  | [.lst xs, .lst ys] => .ok (zipD xs ys) env cs
  | [.tup xs, .tup ys] => .ok (zipD xs ys) env cs
  | _ => .bad
theorem new_pair {mg : Mg} {g : Gh} {cs : Cells} {H : Hp} {as : List Addr} {d e : D} {x y : V} {p : Addr} (w : Wf mg g cs H as) (r : Rep g d x) (q : Rep g e y) (hp : H p = none) :
    ∃ g2, Adv g g2 H (upd H p (.tup [x, y])) [] ∧ Wf mg g2 cs (upd H p (.tup [x, y])) as ∧ Rep g2 (.tup [d, e]) (.ref p) :=
  Post.tup (Q := fun v H' => ∃ g2, Adv g g2 H H' [] ∧ Wf mg g2 cs H' as ∧ Rep g2 (.tup [d, e]) v) w (fun v H' g' bs a w' r n => by
    cases r with
    | fz r => exact ⟨g', a, w', r⟩) (.cons r (.cons q .nil)) hp
theorem zip_get {xs ys : List D} {i : Nat} {d : D} (h : (zipD xs ys)[i]? = some d) : ∃ a b, xs[i]? = some a ∧ ys[i]? = some b ∧ d = .tup [a, b] := by
  unfold zipD at h
  rw [List.getElem?_zipWith] at h
  cases q : xs[i]? with
  | none => rw [q] at h; cases h
  | some a =>
    cases q2 : ys[i]? with
    | none => rw [q, q2] at h; cases h
    | some b => rw [q, q2] at h; cases h; exact ⟨a, b, rfl, rfl, rfl⟩
theorem zip_end {xs ys : List D} {i : Nat} (h : (zipD xs ys)[i]? = none) : xs.length ≤ i ∨ ys.length ≤ i := by
  unfold zipD at h
  have := List.getElem?_eq_none_iff.mp h
  rw [List.length_zipWith] at this
  omega
theorem wi_zip {mg : Mg} {K : PySem.W.Frag} {g : Gh} {H : Hp} {a b : Addr} {vs us : List V} {xs ys : List D} (h : g.F a = some (.lst vs)) (h' : g.F b = some (.lst us)) (r : RepL g xs vs) (r' : RepL g ys us) : WI mg (Itz K a b) g H (zipD xs ys) := fun i g1 cs1 H1 as1 le _ w => by
  have hs : SqL K H1 a vs := seen_lst w (le.F _ _ h)
  have hs' : SqL K H1 b us := seen_lst w (le.F _ _ h')
  refine ⟨fun d hd => ?_, fun hd => ⟨vs, us, hs, hs', by rw [← r.len, ← r'.len]; exact zip_end hd⟩⟩
  obtain ⟨d1, d2, h1, h2, rfl⟩ := zip_get hd
  obtain ⟨v1, e1, q1⟩ := r.get h1
  obtain ⟨v2, e2, q2⟩ := r'.get h2
  refine ⟨⟨vs, us, v1, v2, hs, hs', e1, e2⟩, fun x H' ⟨T, x1, x2, ex, hT, eH, k1, k2⟩ => ?_⟩
  have z1 := k1 vs hs
  have z2 := k2 us hs'
  rw [e1] at z1; rw [e2] at z2
  cases z1; cases z2
  subst ex; subst eH
  exact new_pair w (q1.mono le) (q2.mono le) hT
theorem wi_zipT {mg : Mg} {K : PySem.W.Frag} {g : Gh} {H : Hp} {a b : Addr} {vs us : List V} {xs ys : List D} (h : g.F a = some (.tup vs)) (h' : g.F b = some (.tup us)) (r : RepL g xs vs) (r' : RepL g ys us) : WI mg (RZ.ItzT K a b) g H (zipD xs ys) := fun i g1 cs1 H1 as1 le _ w => by
  have hs : SqT K H1 a vs := seen_tup w (le.F _ _ h)
  have hs' : SqT K H1 b us := seen_tup w (le.F _ _ h')
  refine ⟨fun d hd => ?_, fun hd => ⟨vs, us, hs, hs', by rw [← r.len, ← r'.len]; exact zip_end hd⟩⟩
  obtain ⟨d1, d2, h1, h2, rfl⟩ := zip_get hd
  obtain ⟨v1, e1, q1⟩ := r.get h1
  obtain ⟨v2, e2, q2⟩ := r'.get h2
  refine ⟨⟨vs, us, v1, v2, hs, hs', e1, e2⟩, fun x H' ⟨T, x1, x2, ex, hT, eH, k1, k2⟩ => ?_⟩
  have z1 := k1 vs hs
  have z2 := k2 us hs'
  rw [e1] at z1; rw [e2] at z2
  cases z1; cases z2
  subst ex; subst eH
  exact new_pair w (q1.mono le) (q2.mono le) hT
theorem im_zip {X : Cx} {e e2 : Expr} {p pos tpos : Pos} {elts : List Expr} {kk : Nat} {m : LM} (hm : X.mg "zip" = none) (ha : Am X [e, e2] m) (hg : Gl X "zip" := by rfl) (hs : starEach [e, e2] X.env = (false, eval e X.env) :: starEach [e2] X.env := by rfl) (hpl : (backTo pos (starEach [e2] X.env)).any (·.1) = false := by rfl) :
    Im X (.Tuple elts kk tpos) (.Call (.Name "zip" p) [e, e2] [] pos) (lZip m) := ⟨fun W tk => pi_imp (RZ.pi_zipA hg hm (ha.run W tk) hs hpl) fun σ H R ⟨g, cs, env, as, w, ev, f⟩ => by
  refine ⟨g, cs, env, as, w, ev, ?_⟩
  unfold lZip at f
  cases q : m env cs with
  | exc x env1 cs1 => rw [q] at f; exact f
  | bad => rw [q] at f; exact f
  | ok ds env1 cs1 =>
    rw [q] at f
    intro vs H1 g1 as1 a s w1 e1 rl
    match ds, rl, f with
    | [.lst xs, .lst ys], .cons (.lst hF l) (.cons (.lst hF' l') .nil), f => exact ⟨_, _, _, _, rfl, .inl ⟨seen_lst w1 hF, seen_lst w1 hF', f _ H1 g1 as1 a s w1 e1 (wi_zip hF hF' l l')⟩⟩
    | [.tup xs, .tup ys], .cons (.tup hF l) (.cons (.tup hF' l') .nil), f => exact ⟨_, _, _, _, rfl, .inr ⟨seen_tup w1 hF, seen_tup w1 hF', f _ H1 g1 as1 a s w1 e1 (wi_zipT hF hF' l l')⟩⟩⟩
end GM
namespace GM
open PySem PySem.Spec L2
/-! ### a dict walked: locked meanwhile -/
section
variable {mg : Mg} {g g' : Gh} {cs cs' : Cells} {H H' : Hp} {as as' bs : List Addr} {a : Addr} {u : HO} {o : Obj}
theorem Wf.lock (w : Wf mg g cs H as) (hF : g.F a = some u) (hu : isDic u) (od : Obj) : Wf mg g cs (upd H a (.frz od u)) as := by
  refine ⟨w.mg, fun b v q => ?_, w.len, w.ndL, w.sepL, fun i c b h1 h2 => (w.cell i c b h1 h2).mono (.refl g) (upd_ne fun e => ?_), w.nd, fun b hb => ?_⟩
  · by_cases e : b = a
    · subst e
      rw [hF] at q; cases q
      exact .inr ⟨hu, od, upd_same⟩
    · rcases w.see b v q with r | ⟨i, o', r⟩
      · exact .inl (by rw [upd_ne e]; exact r)
      · exact .inr ⟨i, o', by rw [upd_ne e]; exact r⟩
  · have := w.sepL b (List.mem_of_getElem? h2)
    rw [e, hF] at this; cases this
  · obtain ⟨h1, h2, h3⟩ := w.sep b hb
    exact ⟨h1, h2, by rw [upd_ne fun e => by rw [e, hF] at h1; cases h1]; exact h3⟩
theorem Wf.unlock (w : Wf mg g cs H as) (hF : g.F a = some u) : Wf mg g cs (upd H a u) as := by
  refine ⟨w.mg, fun b v q => ?_, w.len, w.ndL, w.sepL, fun i c b h1 h2 => (w.cell i c b h1 h2).mono (.refl g) (upd_ne fun e => ?_), w.nd, fun b hb => ?_⟩
  · by_cases e : b = a
    · subst e
      rw [hF] at q; cases q
      exact .inl upd_same
    · rcases w.see b v q with r | ⟨i, o', r⟩
      · exact .inl (by rw [upd_ne e]; exact r)
      · exact .inr ⟨i, o', by rw [upd_ne e]; exact r⟩
  · have := w.sepL b (List.mem_of_getElem? h2)
    rw [e, hF] at this; cases this
  · obtain ⟨h1, h2, h3⟩ := w.sep b hb
    exact ⟨h1, h2, by rw [upd_ne fun e => by rw [e, hF] at h1; cases h1]; exact h3⟩
theorem isDic_mut (h : isDic u) : Mut (some u) := by
  cases u <;> first | exact True.intro | exact False.elim h
/-- an advance from the locked heap, the lock taken off -/
theorem AdvE.unlock (h : H a = some u) (w : Wf mg g cs H as) (hF : g.F a = some u) (ad : AdvE g g' (upd H a (.frz o u)) H' as) : AdvE g g' H (upd H' a u) as := by
  have dm : ∀ b, upd H a (.frz o u) b = Option.none → H b = Option.none := fun b z => by
    by_cases e : b = a
    · subst e; rw [upd_same] at z; cases z
    · rw [upd_ne e] at z; exact z
  have own : ∀ b v, H b = some v → b ∉ g.L → upd H' a u b = some v := fun b v q hL => by
    by_cases e : b = a
    · subst e; rw [h] at q; cases q; exact upd_same
    · rw [upd_ne e]; exact ad.own b v (by rw [upd_ne e]; exact q) hL
  refine ⟨⟨ad.F, ?_, ad.mg, fun b v q hL _ => own b v q hL, fun b v q => ?_, fun b q => ?_⟩, own⟩
  · obtain ⟨l, e, n⟩ := ad.L
    exact ⟨l, e, fun b hb => dm b (n b hb)⟩
  · rcases ad.new b v q with z | z | z
    · exact .inl z
    · exact .inr (.inl z)
    · exact .inr (.inr (dm b z))
  · by_cases e : b = a
    · subst e; rw [upd_same]; exact fun z => nomatch z
    · rw [upd_ne e]
      exact ad.dom b (by rw [upd_ne e]; exact q)
end
/-- a value's answer under the lock, told without it -/
theorem Fin.locked {mg : Mg} {g : Gh} {cs : Cells} {H : Hp} {as : List Addr} {W W' : WX} {σ : St} {Q : VK} {r : XRes} {a : Addr} {u : HO} {o : Obj} (w : Wf mg g cs H as) (h : H a = some u) (hF : g.F a = some u) (nx : ∀ x env cs, r ≠ .exc x env cs)
    (f : Fin mg g H as W σ Q r) : Fin mg g (upd H a (.frz o u)) as W' σ (fun v H' => H' a = some (.frz o u) ∧ Q v (upd H' a u)) r := by
  cases r with
  | exc x env cs => exact absurd rfl (nx x env cs)
  | bad => exact f
  | ok o' env1 cs1 =>
    intro v H' g' as' bs ad s w' e' r n
    have hL : a ∉ g.L := fun z => by have := w.sepL a z; rw [hF] at this; cases this
    have hF' := ad.F a u hF
    have ne : ∀ b ∈ bs ++ as', b ≠ a := fun b hb e => by
      have := (w'.sep b hb).1
      rw [e, hF'] at this; cases this
    have dm : ∀ b, upd H a (.frz o u) b = none → H b = none := fun b z => by
      by_cases e : b = a
      · subst e; rw [upd_same] at z; cases z
      · rw [upd_ne e] at z; exact z
    refine ⟨ad.own a _ upd_same hL, f v _ g' as' bs (ad.unlock h w hF) (fun b hb => ?_) (w'.unlock hF') (e'.mono (.refl g') fun b hb => upd_ne (ne b (List.mem_append_right _ hb))) (r.mono (.refl g') fun b hb => upd_ne (ne b (List.mem_append_left _ hb))) fun b hb => dm b (n b hb)⟩
    rcases s b hb with z | z
    · exact .inl z
    · exact .inr (dm b z)
theorem RepK.get {g : Gh} : ∀ {ds : List (D × D)} {vs : List (Key × V)} {i : Nat} {d : D}, RepK g ds vs → (ds.map (·.1))[i]? = some d → ∃ k v, vs[i]? = some (k, v) ∧ d = keyD k
  | _, _, i, d, .nil, h => by simp at h
  | _, _, 0, d, .cons (k := k) (v := v) r _, h => by simp at h; subst h; exact ⟨k, v, rfl, rfl⟩
  | _, _, i + 1, d, .cons _ r, h => by
    obtain ⟨k, v, h1, h2⟩ := RepK.get (i := i) (d := d) r (by simpa using h)
    exact ⟨k, v, by simpa using h1, h2⟩
theorem rep_key {g : Gh} (k : Key) : Rep g (keyD k) (kV k) := by
  cases k with
  | inl i => exact .int
  | inr s => exact .str
theorem wi_keys {mg : Mg} {g : Gh} {H : Hp} {a : Addr} {o : Obj} {kvs : List (Key × V)} {ds : List (D × D)} (hF : g.F a = some (.dK kvs)) (hH : H a = some (.frz o (.dK kvs))) (r : RepK g ds kvs) : WI mg (Itk a o kvs) g H (ds.map (·.1)) := fun i g1 cs1 H1 as1 le lk w => by
  have hl : H1 a = some (.frz o (.dK kvs)) := lk a o _ hF hH
  refine ⟨fun d hd => ?_, fun hd => ⟨hl, ?_⟩⟩
  · obtain ⟨k, v, h1, h2⟩ := r.get hd
    have hi := (List.getElem?_eq_some_iff.mp h1).1
    refine ⟨⟨hl, hi⟩, fun x H' ⟨eH, k', v', e1, ex⟩ => ?_⟩
    rw [h1] at e1
    cases e1
    subst eH; subst ex; subst h2
    exact ⟨g1, .refl _ _ _, w, rep_key k⟩
  · have := List.getElem?_eq_none_iff.mp hd
    rw [List.length_map, r.len] at this
    exact this
/-- [e for t in d if c], d a dict in slot i: its keys -/
def xLcK (i : Nat) (vs : List Nat) (t : TgM) (c e : XM) : XM := fun env cs => match env[i]? with
  | some (some o) => match frz o with
    | .dic 0 kvs => lcRes vs t c e (kvs.map (·.1)) (env.set i (some (.fz (.dic 0 kvs)))) cs
    | _ => .bad
  | _ => .bad
theorem lcRes_nx {vs : List Nat} {t : TgM} {c e : XM} {ds : List D} {env : Ev} {cs : Cells} : ∀ x env' cs', lcRes vs t c e ds env cs ≠ .exc x env' cs' := by
  intro x env' cs' z
  unfold lcRes at z
  split at z
  · split at z <;> cases z
  · cases z
section
variable {X : Cx} {elt tg : Expr} {ifs : List Expr} {scope : Scope} {pos np : Pos} {t : TgM} {c e : XM} {ws : List Nat}
theorem em_lcK {own : List (Str × Nat)} (i : Nat) {x : Str} (hc : X.calm = true) (hN : X.N.Nodup) (ok : BlkOk X.N X.env.scope scope own) (hws : ∀ j ∈ ws, j ∈ own.map (·.2))
    (hg : BlkAll X scope fun Y => Gm Y tg t ws) (ht : BlkAll X scope fun Y => Cm Y ifs c) (he : BlkAll X scope fun Y => Em Y elt e) (hx : X.N[i]? = some x := by rfl) (hv : Vis X.env.scope x := by first | exact Or.inl rfl | exact Or.inr (Or.inl rfl) | exact Or.inr (Or.inr rfl)) (hd : (x == ("__debug__" : Str)) = false := by decide)
    (hcd : (x == ("__classdict__" : Str)) = false := by decide) (hs : ∀ y, foldedSetIterable (.Name x np) X.env y = pure y := by intro _; rfl) :
    Em X (.ListComp elt [⟨tg, .Name x np, ifs, 0⟩] scope pos) (xLcK i (own.map (·.2)) t c e) := ⟨fun W tk => by
  have P := pe_lc (elt := elt) (te := tX (md X) e W0) (tt := tB (tX (md X) c W0)) (g := tG (md X) t ws) hc hN (pi_keys (pe_var (X := X) (pos := np) hx hv hd hcd)) ok (fun s H C cl fp => (hg s H C cl fp).run) (fun s H C cl fp => (ht s H C cl fp).run) (fun s H C cl fp => (he s H C cl fp).run _ takes0) hs (pos := pos)
  refine ⟨fun pins s σ H Q I ⟨g, cs, env, as, w, ev, f⟩ => ?_⟩
  unfold xLcK at f
  split at f
  · rename_i o ho
    obtain ⟨v, g', as', hsl, le, ad, sb, w', rp, ev'⟩ := ev.frz w ho
    generalize frz o = dd at f rp ev'
    cases rp with
    | @dK a kvs ds hF rk =>
      have f1 : Fin (md X) g' H as' W σ Q (lcRes (own.map (·.2)) t c e (ds.map (·.1)) (env.set i (some (.fz (.dic 0 ds)))) cs) := Fin.rebase ad (fun b hb => .inl (sb b hb)) f
      rcases w'.see a _ hF with hH | ⟨_, od, hH⟩
      · refine (pe_lock P).run pins s σ H Q I ⟨a, _, hH, isDic_mut (u := .dK kvs) True.intro, fun od => ?_⟩
        have wl := w'.lock hF True.intro od
        have el : EnvR g' (upd H a (.frz od (.dK kvs))) (env.set i (some (.fz (.dic 0 ds)))) σ as' := ev'.mono (.refl g') fun b hb => upd_ne fun z => by
          have := (w'.sep b hb).1
          rw [z, hF] at this; cases this
        exact ⟨_, hsl, a, od, rfl, .inl ⟨kvs, upd_same, lc_at hws wl el (wi_keys hF upd_same rk) (Fin.locked (W' := W) w' hH hF lcRes_nx f1)⟩⟩
      · exact P.run pins s σ H Q I ⟨_, hsl, a, od, rfl, .inl ⟨kvs, hH, lc_at hws w' ev' (wi_keys hF hH rk) f1⟩⟩
    | _ => exact f.elim
  · exact f.elim⟩
end
end GM
namespace GM
open PySem PySem.Spec L2
/-! ### isinstance -/
def tyN : D → Option String
  | .non => some "NoneType"
  | .bl _ => some "bool"
  | .int _ => some "int"
  | .str _ => some "str"
  | .lst _ => some "list"
  | .scr _ => some "list"
  | .tup _ => some "tuple"
  | .dic _ _ => some "dict"
  | _ => none
def tyNs : List String := ["NoneType", "bool", "int", "str", "list", "tuple", "dict"]
theorem tyN_in {d : D} {t : String} (h : tyN d = some t) : t ∈ tyNs := by
  cases d <;> first | (cases h; decide) | cases h
def subT (a b : String) : Bool := a == b || (a == "bool" && b == "int")
theorem kit_subT {K : PySem.W.Frag} {a b : String} (ha : a ∈ tyNs) (hb : b ∈ tyNs) : PySem.W.kitOne K (.type a) (.type b) = some (subT a b) := by
  refine L2.kit_ty ?_
  have all : (tyNs.all fun a => tyNs.all fun b => decide (L2.kitB a b = some (subT a b))) = true := by decide +kernel
  exact of_decide_eq_true (List.all_eq_true.mp (List.all_eq_true.mp all a ha) b hb)
theorem kit_subTs {K : PySem.W.Frag} {a : String} (ha : a ∈ tyNs) : ∀ {bs : List String}, (∀ b ∈ bs, b ∈ tyNs) → PySem.W.kitAny K (.type a) (bs.map Value.type) = some (bs.any (subT a))
  | [], _ => rfl
  | b :: bs, h => by
    refine L2.kitAny_cons (kit_subT ha (h b (by simp))) (fun e => ?_) fun e => ?_
    · rw [List.any_cons, e, Bool.false_or]; exact kit_subTs ha fun x hx => h x (by simp [hx])
    · rw [List.any_cons, e, Bool.true_or]
/-- what an own class answers: to plain values, to the errors of own classes -/
structure IsF (K : PySem.W.Frag) (mg : Str → Option Value) (n : Str) (bt : List String) (own : List (Str × Bool)) : Prop where
  ok : ∃ C, mg n = some (.ref C) ∧ (∀ t ∈ bt, PySem.W.kitOne K (.type t) (.ref C) = some false) ∧ ∀ p ∈ own, ∀ C', mg p.1 = some (.ref C') → PySem.W.kitOne K (.ref C') (.ref C) = some p.2 ∧ ExcC K C'
section
variable {X : Cx} {pins : List (Addr × Obj)} {σ : St} {H : Hp} {s : Shared} {mg : Mg} {g : Gh} {cs : Cells} {as : List Addr}
theorem kit_D (I : Inv X pins σ H s) (w : Wf (md X) g cs H as) {d : D} {x : V} {v : Value} {t : String} (r : Rep g d x) (rx : RelV x v) (h : tyN d = some t) : ∃ P : Heap → Prop, PySem.W.KitX X.K v (.type t) P ∧ P s.heap ∧ v ≠ .builtin "__main__.__loader__#opaque" := by
  cases r with
  | non => cases h; exact kit_of I rx (.base .non)
  | bl => cases h; exact kit_of I rx (.base (.bl _))
  | int => cases h; exact kit_of I rx (.base (.int _))
  | str => cases h; exact kit_of I rx (.base (.str _))
  | lst hF l => cases h; exact kit_of I rx (.base (.lst (seen_ex w hF fun z => z)))
  | scr hF l => cases h; exact kit_of I rx (.base (.frz (seen_ex w hF fun z => z)))
  | @scK a vs ds hF l =>
    cases h
    have hF : KL X.K a vs := by rw [w.mg] at hF; exact hF
    obtain ⟨o, its, n, hk, hc, _⟩ := hF
    exact kit_of I rx (.kList hk hc)
  | tup hF l => cases h; exact kit_of I rx (.base (.tup (seen_ex w hF fun z => z)))
  | dK hF l =>
    cases h
    rcases w.see _ _ hF with q | ⟨_, o, q⟩
    · exact kit_of I rx (.base (.dK q))
    · exact kit_of I rx (.fDict q)
  | @dT a kvs ds hF l =>
    cases h
    rcases w.see _ _ hF with q | ⟨_, o, q⟩
    · exact kit_of I rx (.base (.dT q))
    · cases rx
      obtain ⟨_, _, _, xs, _, o, es, ep, h1, h2, _⟩ := (show ObjOk X.prog X.w H s.heap a (.frz o (.dT kvs)) from I.hok a _ q)
      exact ⟨_, PySem.W.kitx_dict, ⟨o, h1, h2.1⟩, fun z => nomatch z⟩
  | _ => cases h
theorem kitx_excD {K : PySem.W.Frag} {x D : Addr} {ox : Obj} {od : Option Obj} (C : ExcC K D) : PySem.W.KitX K (.ref x) (.ref D) (fun h => PySem.W.InstAt h x ox D od) where
  ty := fun _ _ _ I => I.type
  it := fun _ _ X _ => by
    obtain ⟨cdD, hcD, _⟩ := PySem.W.any_some C.hd
    unfold PySem.W.clsIn at hcD
    split at hcD
    · rename_i c' d' cd' sl' ho
      intro A' Q' E' s' k q
      unfold isType loadHead
      exact wpAny_bind (wpAny_loadPart (k _ _ (X _ _ ho)) (wpAny_pure q))
    · cases hcD
  ne := fun h tp dd its n sl X htp => by
    obtain ⟨cdD, hcD, _⟩ := PySem.W.any_some C.hd
    refine Bool.eq_false_iff.mpr fun q => ?_
    have e : D = tp := Value.ref.inj (beq_iff_eq.mp q)
    subst e
    unfold PySem.W.clsIn at hcD
    split at hcD
    · rename_i c' d' cd' sl' ho
      have z := (X _ _ ho).symm.trans htp
      cases z
    · cases hcD
  ca := fun X I k => PySem.W.kx_classE X I C.hg C.hk C.hs (PySem.W.findObj_dataE (by obtain ⟨cd, hc, _⟩ := PySem.W.any_some C.hd; rw [hc]; rfl) C.ha C.hn C.ht) C.hm k
/-- what an exception's object is -/
theorem exn_at (I : Inv X pins σ H s) (w : Wf mg g cs H as) {a C dx : Addr} {fs : List (Str × V)} (h : g.F a = some (exH a C dx)) (h2 : g.F dx = some (.xd fs)) :
    ∃ ox od, PySem.W.InstAt s.heap a ox C (some od) ∧ ∃ mA, s.heap.Ns1 dx mA ∧ (∀ f, RelO (fs.lookup f) (mA f)) ∧ s.heap.get? dx = some od := by
  have e1 := seen_ex w h (fun z => z)
  have e2 := seen_ex w h2 (fun z => z)
  have x1 : ObjOk X.prog X.w H s.heap a (exH a C dx) := I.hok a _ e1
  have x2 : ObjOk X.prog X.w H s.heap dx (.xd fs) := I.hok dx _ e2
  obtain ⟨⟨ox, vs, q1, q2, q3, q4⟩, _⟩ := x1
  obtain ⟨mA, hns, hr⟩ := x2
  obtain ⟨od, ho, hl⟩ := lookIn_ns hns
  exact ⟨ox, od, ⟨q1, q2, by unfold PySem.W.notCls; rw [q4] <;> rfl, by rw [q3]; exact ho⟩, mA, hns, hr, ho⟩
end
def pIsT (Ts : List String) : D → Cells → Option O := fun d _ => match tyN d with
  | some t => bO (Ts.any (subT t))
  | none => none
def pIsO (bt : List String) (own : List (Str × Bool)) : D → Cells → Option O := fun d _ => match tyN d, d with
  | some t, _ => if t ∈ bt then bO false else none
  | none, .exn c _ => match own.lookup c with
    | some b => bO b
    | none => none
  | _, _ => none
section
variable {X : Cx} {e : Expr} {m : XM} {p pos np tp : Pos} {kk : Nat}
def rIsD (mg : Mg) (f : D → Cells → Option O) (C : V) : V → Hp → VK → Prop := fun x H Q => ∃ g cs as d b, Wf mg g cs H as ∧ Rep g d x ∧ f d cs = bO b ∧ Q (.bl b) H
theorem P_is1 {mg : Mg} {f : D → Cells → Option O} {C : V} (hf : ∀ d cs o, f d cs = some o → ∃ b, o = .fz (.bl b)) : Op1 mg f (rIsD mg f C) := ⟨fun g cs H as d x o Q w r h post => by
  obtain ⟨b, rfl⟩ := hf d cs o h
  exact ⟨g, cs, as, d, b, w, r, h, post.bl w⟩⟩
theorem isT_bl {Ts : List String} : ∀ d cs o, pIsT Ts d cs = some o → ∃ b, o = .fz (.bl b) := by
  intro d cs o h
  unfold pIsT at h
  split at h
  · cases h; exact ⟨_, rfl⟩
  · cases h
theorem isO_bl {bt : List String} {own : List (Str × Bool)} : ∀ d cs o, pIsO bt own d cs = some o → ∃ b, o = .fz (.bl b) := by
  intro d cs o h
  unfold pIsO at h
  split at h
  · split at h
    · cases h; exact ⟨_, rfl⟩
    · cases h
  · split at h
    · cases h; exact ⟨_, rfl⟩
    · cases h
  · cases h
theorem isT_of {Ts : List String} {d : D} {cs : Cells} {b : Bool} (h : pIsT Ts d cs = bO b) : ∃ t, tyN d = some t ∧ b = Ts.any (subT t) := by
  unfold pIsT at h
  split at h
  · rename_i t q; cases h; exact ⟨t, q, rfl⟩
  · cases h
theorem em_isT (T : String) {y : Str} (hm : X.mg "isinstance" = none) (hT : X.mg y = none) (hv : bootBuiltins y = some (.type T)) (hk : T ∈ tyNs) (he : Em X e m) (hg : Gl X "isinstance" := by rfl) (hgT : Gl X y := by rfl) (hn : y ≠ "__name__" := by decide) (hdb : (y == ("__debug__" : Str)) = false := by decide)
    (hs : starEach [e, .Name y np] X.env = (false, eval e X.env) :: starEach [.Name y np] X.env := by rfl) (hs2 : starEach [.Name y np] X.env = (false, eval (.Name y np) X.env) :: starEach [] X.env := by rfl) (hpl : (backTo pos (starEach [.Name y np] X.env)).any (·.1) = false := by rfl) :
    Em X (.Call (.Name "isinstance" p) [e, .Name y np] [] pos) (xOp1 (pIsT [T]) m) := ⟨fun W tk => by
  have hc : CallR X (.builtin "isinstance") (fun xs H Q => ∃ x, xs = [x, .ty T] ∧ rIsD (md X) (pIsT [T]) (.ty T) x H Q) := by
    intro pins s σ H xs us Q I r h
    obtain ⟨x, rfl, g, cs, as, d, b, w, rp, hb, q⟩ := h
    obtain ⟨u1, u2, rfl, r1, r2⟩ := vals2 r
    obtain rfl : u2 = Value.type T := r2
    obtain ⟨t, ht, rfl⟩ := isT_of hb
    obtain ⟨P, Z, pp, hx⟩ := kit_D I w rp r1 ht
    have e1 := kit_subT (K := X.K) (tyN_in ht) hk
    refine PySem.W.kia_one Z I.kIn pp e1 hx fun tk => ⟨.bl _, H, I.tok tk, rfl, ?_⟩
    simpa using q
  refine pe_imp (pe_callB hc hg hm (by rfl) (pa_cons (he.run W tk) (pa_cons (pe_bltn (v := .ty T) hgT hT hv rfl hn hdb) pa_nil hs2) hs) (by decide) (by decide) hs hpl) fun σ H Q h => ?_
  obtain ⟨g, cs, env, as, w, ev, f⟩ := op1_red (P_is1 (C := .ty T) isT_bl) h
  exact ⟨g, cs, env, as, w, ev, f.imp fun v H1 q => ⟨v, rfl, q⟩⟩⟩
/-- the names of built-in types, as expressions -/
inductive TyEs (X : Cx) : List Expr → List String → Prop where
  | nil : TyEs X [] []
  | cons {y : Str} {np : Pos} {T : String} {es : List Expr} {Ts : List String} : Gl X y → X.mg y = none → bootBuiltins y = some (.type T) → y ≠ "__name__" → (y == ("__debug__" : Str)) = false → T ∈ tyNs →
      starEach (.Name y np :: es) X.env = (false, eval (.Name y np) X.env) :: starEach es X.env → TyEs X es Ts → TyEs X (.Name y np :: es) (T :: Ts)
def tTys (vs : List V) : TA := fun _ H Q => Q vs H
theorem pa_tys : ∀ {es : List Expr} {Ts : List String}, TyEs X es Ts → PA X es (tTys (Ts.map V.ty))
  | _, _, .nil => pa_imp pa_nil fun _ _ _ h => h
  | _, _, .cons hg hm hv hn hd _ hs r => pa_imp (pa_cons (pe_bltn (v := .ty _) hg hm hv rfl hn hd) (pa_tys r) hs) fun _ _ _ h => h
theorem TyEs.mem : ∀ {es : List Expr} {Ts : List String}, TyEs X es Ts → ∀ T ∈ Ts, T ∈ tyNs
  | _, _, .nil => fun _ h => nomatch h
  | _, _, .cons _ _ _ _ _ h _ r => fun T hT => by
    rcases List.mem_cons.mp hT with e | z
    · rw [e]; exact h
    · exact r.mem T z
theorem TyEs.few : ∀ {es : List Expr} {Ts : List String}, TyEs X es Ts → Ts.length = es.length
  | _, _, .nil => rfl
  | _, _, .cons _ _ _ _ _ _ _ r => congrArg Nat.succ r.few
theorem em_isTs {es : List Expr} {Ts : List String} (ht : TyEs X es Ts) (hm : X.mg "isinstance" = none) (he : Em X e m) (hz : es.length ≤ 100) (hg : Gl X "isinstance" := by rfl)
    (hs : starEach [e, .Tuple es kk tp] X.env = (false, eval e X.env) :: starEach [.Tuple es kk tp] X.env := by rfl) (hs2 : starEach [.Tuple es kk tp] X.env = (false, eval (.Tuple es kk tp) X.env) :: starEach [] X.env := by rfl) (hpl : (backTo pos (starEach [.Tuple es kk tp] X.env)).any (·.1) = false := by rfl) :
    Em X (.Call (.Name "isinstance" p) [e, .Tuple es kk tp] [] pos) (xOp1 (pIsT Ts) m) := ⟨fun W tk => by
  have hc : CallR X (.builtin "isinstance") (fun xs H Q => ∃ x tp, xs = [x, .ref tp] ∧ H tp = some (.tup (Ts.map V.ty)) ∧ rIsD (md X) (pIsT Ts) .non x H Q) := by
    intro pins s σ H xs us Q I r h
    obtain ⟨x, tp, rfl, hT, g, cs, as, d, b, w, rp, hb, q⟩ := h
    obtain ⟨u1, u2, rfl, r1, r2⟩ := vals2 r
    obtain rfl : u2 = Value.ref tp := r2
    obtain ⟨t, ht', rfl⟩ := isT_of hb
    obtain ⟨P, Z, pp, hx⟩ := kit_D I w rp r1 ht'
    obtain ⟨hlen, its, rv, o, h1, h2, n, h3⟩ := (show ObjOk X.prog X.w H s.heap tp (.tup (Ts.map V.ty)) from I.hok tp _ hT)
    clear hlen
    have e3 : its = Ts.map Value.type := by
      refine ClsV.all (us := Ts.map Value.type) (cs := Ts.map V.ty) ?_ rv
      clear rv hT hb h1 h2 h3 ht q
      induction Ts with
      | nil => exact .nil
      | cons a l ih => exact .cons (.ty a) ih
    subst e3
    obtain ⟨oc, od, dt, sl⟩ := o
    simp only at h2 h3
    subst h2 h3
    have e1 := kit_subTs (K := X.K) (tyN_in ht') (bs := Ts) (ht.mem)
    exact PySem.W.kia_tup Z I.kIn pp h1 e1 hx fun tk => ⟨.bl _, H, I.tok tk, rfl, q⟩
  refine pe_imp (pe_callB hc hg hm (by rfl) (pa_cons (he.run W tk) (pa_cons (pe_tup (pa_tys ht)) pa_nil hs2) hs) (by decide) (by decide) hs hpl) fun σ H Q h => ?_
  have P : Op1 (md X) (pIsT Ts) (fun x H Q => ∀ tp, H tp = none → rIsD (md X) (pIsT Ts) .non x (upd H tp (.tup (Ts.map V.ty))) Q) := ⟨fun g cs H as d x o Q w r h post tp htp => by
    obtain ⟨b, rfl⟩ := isT_bl d cs o h
    have wa := (w.alloc (o := .tup (Ts.map V.ty)) htp).sub (List.nodup_cons.mp (w.alloc (o := .tup (Ts.map V.ty)) htp).nd).2 fun a h => List.mem_cons_of_mem _ h
    exact ⟨g, cs, as, d, b, wa, r, h, post _ _ g [] (adv_alloc htp).toAdv wa (.fz .bl) fun _ z => nomatch z⟩⟩
  obtain ⟨g, cs, env, as, w, ev, f⟩ := op1_red P h
  refine ⟨g, cs, env, as, w, ev, f.imp fun v H1 q => ⟨?_, fun p hp => ⟨v, p, rfl, upd_same, q p hp⟩⟩⟩
  have := ht.few
  exact Nat.le_of_lt (line_le (by simp; omega))⟩
theorem em_isO {y : Str} {bt : List String} {own : List (Str × Bool)} (F : IsF X.K X.mg y bt own) (hm : X.mg "isinstance" = none) (he : Em X e m) (hg : Gl X "isinstance" := by rfl) (hgT : Gl X y := by rfl) (hdb : (y == ("__debug__" : Str)) = false := by decide)
    (hs : starEach [e, .Name y np] X.env = (false, eval e X.env) :: starEach [.Name y np] X.env := by rfl) (hs2 : starEach [.Name y np] X.env = (false, eval (.Name y np) X.env) :: starEach [] X.env := by rfl) (hpl : (backTo pos (starEach [.Name y np] X.env)).any (·.1) = false := by rfl) :
    Em X (.Call (.Name "isinstance" p) [e, .Name y np] [] pos) (xOp1 (pIsO bt own) m) := ⟨fun W tk => by
  obtain ⟨C, hC, F1, F2⟩ := F.ok
  have hc : CallR X (.builtin "isinstance") (fun xs H Q => ∃ x, xs = [x, .ref C] ∧ rIsD (md X) (pIsO bt own) (.ref C) x H Q) := by
    intro pins s σ H xs us Q I r h
    obtain ⟨x, rfl, g, cs, as, d, b, w, rp, hb, q⟩ := h
    obtain ⟨u1, u2, rfl, r1, r2⟩ := vals2 r
    obtain rfl : u2 = Value.ref C := r2
    unfold pIsO at hb
    split at hb
    · rename_i t ht
      split at hb
      · rename_i hbt
        cases hb
        obtain ⟨P, Z, pp, hx⟩ := kit_D I w rp r1 ht
        exact PySem.W.kia_one Z I.kIn pp (F1 t hbt) hx fun tk => ⟨.bl _, H, I.tok tk, rfl, q⟩
      · cases hb
    · rename_i c fs ht
      cases q2 : own.lookup c with
      | none => rw [q2] at hb; cases hb
      | some b' =>
        rw [q2] at hb
        have eb : b = b' := by cases hb; rfl
        subst eb
        have hmem : (c, b) ∈ own := by
          clear F2 F1 F q hb
          induction own with
          | nil => cases q2
          | cons z l ih =>
            rw [List.lookup_cons] at q2
            by_cases hz : (c == z.1) = true
            · rw [hz] at q2; cases q2
              have : c = z.1 := by simpa using hz
              rw [this]; simp
            · rw [Bool.not_eq_true _ |>.mp hz] at q2
              exact List.mem_cons_of_mem _ (ih q2)
        cases rp with
        | @exn a C' dx _ fs' ds h1 h2 hmg rf =>
          cases r1
          obtain ⟨e1, xc⟩ := F2 _ hmem C' (by rw [w.mg] at hmg; exact hmg)
          obtain ⟨ox, od, ia, _⟩ := exn_at I w h1 h2
          exact PySem.W.kia_one (kitx_excD xc) I.kIn ia e1 (fun z => nomatch z) fun tk => ⟨.bl _, H, I.tok tk, rfl, q⟩
    · cases hb
  refine pe_imp (pe_callB hc hg hm (by rfl) (pa_cons (he.run W tk) (pa_cons (pe_glob (v := .ref C) hgT hC rfl hdb) pa_nil hs2) hs) (by decide) (by decide) hs hpl) fun σ H Q h => ?_
  obtain ⟨g, cs, env, as, w, ev, f⟩ := op1_red (P_is1 (C := .ref C) isO_bl) h
  exact ⟨g, cs, env, as, w, ev, f.imp fun v H1 q => ⟨v, rfl, q⟩⟩⟩
end
end GM
namespace GM
open PySem PySem.Spec L2
open PySem.W PySem.Calls PyProof.Rows PySem.HandSPX
/-! ### an own exception: __init__(self, value=None): super().__init__(); self.value = value -/
def oA (p1 p2 p3 : Pos) : Arguments := { posonlyargs := [], args := [{ arg := "self", annotation := none, pos := p1 }, { arg := "value", annotation := none, pos := p2 }], vararg := none, kwonlyargs := [], kw_defaults := [], kwarg := none, defaults := [.Constant .none 0 p3] }
def oB (q1 q2 q3 q4 q5 r1 r2 r3 r4 : Pos) : List Stmt := [.Expr (.Call (.Attribute (.Call (.Name "super" q1) [] [] q2) "__init__" q3) [] [] q4) q5, .Assign [.Attribute (.Name "self" r1) "value" r2] (.Name "value" r3) r4]
def oS : Scope := { kind := .function, names := [(PySem.Str.ofString "self", .local), (PySem.Str.ofString "value", .local), (PySem.Str.ofString "__class__", .free), (PySem.Str.ofString "super", .globalImplicit)], isGenerator := false, isCoroutine := false, more := [] }
/-- what the written part says of such a class x, at C -/
structure OwnT (P : Program) (K : Frag) (mg : Str → Option Value) (x q : Str) (C fI : Addr) : Prop where
  gC : mg x = some (.ref C)
  cls : ∃ nm q N bs bm sn sub ab col dd k0 k1 k2 k3 k5, K.lookup C = some (excClassObj nm q C N bs bm true sn sub ab col dd k0 k1 k2 k3 k5 "ValueError.__new__") ∧ refsVE bm = true
  sa : findIn K (.ref C) "__setattr__" = some (some (.builtin "object.__setattr__"))
  ga : findIn K (.ref C) "__getattribute__" = some (some (.builtin "BaseException.__getattribute__"))
  gg : findIn K (.ref C) "__getattr__" = some none
  noN : findIn K (.ref C) "value" = some none
  iC : findIn K (.ref C) "__init__" = some (some (.ref fI))
  tC : typeIn K (.ref fI) = some (.type "function")
  kC : keepIn K (.ref C) = true
  exC : subIn K (.ref C) (.type "BaseException") = some true
  veC : subIn K (.ref C) (.type "ValueError") = some true
  tyC : typeIn K (.ref C) = some (.type "type")
  hdC : hasDictIn K C = true
  mrC : mroIn K C (.ref C) = some true
  sup : ks_superIn K C C "__init__" = some (some (.builtin "ValueError.__init__"))
  opq : nsIn K cStatics "thirdparty.any" = some none
  spr : mg "super" = none
  top : (P.main.scope.names.lookup ("super" : Str)).isSome = false
  fn : ∃ (oc : Value) (od : Option Addr) (dt : Addr) (kV doc pm : Value) (an : Option Addr) (cda cc : Addr) (ct : Value) (osl : Array (Option Value)) (p1 p2 p3 q1 q2 q3 q4 q5 r1 r2 r3 r4 : Pos) (ccl : Value) (cdd : Option Addr) (vs : Array Value) (ccs : Array (Option Value)) (file : Str) (tf : Tok) (cl : Value) (cld : Option Addr) (csl : Array (Option Value)) (odt : Obj) (dv : Value) (dn : Nat),
    K.lookup fI = some ⟨oc, od, .func (ksFn "__init__" q (oA p1 p2 p3) (oB q1 q2 q3 q4 q5 r1 r2 r3 r4) oS (.ref dt) kV doc pm an (.ref cda) ct cc), osl⟩ ∧ codeIn K (.ref cda) q = true ∧ K.lookup cda = some ⟨ccl, cdd, .fields vs, ccs⟩ ∧ vs[2]? = some (.str file tf) ∧ ((P.main.file : Str) == file) = true ∧
      K.lookup cc = some ⟨cl, cld, .cell (some (.ref C)), csl⟩ ∧ K.lookup dt = some odt ∧ odt.data = .seq #[dv] dn ∧
      ∀ env : Env, ∃ pl : Sem Bool, eval (.Call (.Attribute (.Call (.Name "super" q1) [] [] q2) "__init__" q3) [] [] q4) env = (do
        let ov ← attributeBase (.Call (.Name "super" q1) [] [] q2) "__init__" env (eval (.Call (.Name "super" q1) [] [] q2) env)
        standAt q3.atName
        let (f, first) ← holding [ov] (getMethod ov "__init__" pl)
        callWith q4 f first (backTo q4 (starEach [] env)) [])
theorem one_size (v : Value) : [v].length ≤ sizeLine := by
  rw [sizeLine_eq]
  exact (by decide : 1 ≤ 16777216)
/-- what __init__ leaves of a fresh exception at x -/
structure InitEnd (h h' : Heap) (x C dx t1 : Addr) (v : Value) : Prop where
  keep : ∀ b o, b ≠ x → h.get? b = some o → h'.get? b = some o
  obj : h'.get? x = some { cls := .ref C, dict := some dx, data := .fields #[.ref t1, .none, .none, .none, .bool false, .none] }
  dbig : h.objs.size ≤ dx
  dne : dx ≠ x
  ns : h'.Ns1 dx (fun y => if y = "value" then some v else none)
/-- a made one -/
structure OwnMade (h h' : Heap) (e C d : Addr) (v : Value) : Prop where
  keep : ∀ b o, h.get? b = some o → h'.get? b = some o
  new : h.objs.size ≤ e
  obj : ∃ oe vs, h'.get? e = some oe ∧ oe.cls = .ref C ∧ oe.dict = some d ∧ oe.data = .fields vs ∧ vs[1]? = some .none
  dbig : h.objs.size ≤ d
  dne : d ≠ e
  ns : h'.Ns1 d (fun y => if y = "value" then some v else none)
theorem ldC {M : Model} {s : Shared} {env : Env} {L : Addr} {m : Str → Option Value} {x : Str} {pos : Pos} {v : Value} {Q : Value → Shared → Prop} {A : Around} {E : Value → Shared → Prop} (hn : s.heap.Ns env.locals m) (hv : m x = some v) (h : Q v s)
    (hk : env.scope.kind = .function := by rfl) (hl : env.kindOf x = some .local := by rfl) (hd : (x == ("__debug__" : Str)) = false := by decide) :
    wpAny M A (eval (.Name x pos) env) Q E s := wpAny_Name (wpAny_loadName_local hk hl hn hv h) hd
/-- ValueError.__init__ bound to e, called with nothing -/
theorem call_bwV {prog : Program} {w : World} {A : Around} {E : Value → Shared → Prop} {h : Heap} {g : Array GenState} {d : Drawn} {t : Nat} {os : OsState} {nm q : Str} {C N : Addr} {bs bm : List Value} {hdct : Bool} {sn : List Str} {sub : List Value} {ab : Bool} {col : Option Bool} {dd : Option Addr} {k0 k1 k2 k3 k5 : Option Value} {u e t0 : Addr} {Q : Value → Shared → Prop}
    (hC : h.get? C = some (excClassObj nm q C N bs bm hdct sn sub ab col dd k0 k1 k2 k3 k5 "ValueError.__new__")) (he : h.get? e = some (HandSPX.excO C t0)) (hu : h.get? u = some (kxs_mw "ValueError.__init__" e))
    (hq : ∀ h' t1, (∀ b o, b ≠ e → h.get? b = some o → h'.get? b = some o) → h'.get? e = some (HandSPX.excO C t1) → Q .none ⟨h', g, d, t, os⟩) :
    wpAny (model prog w) A (call (.ref u) []) Q E ⟨h, g, d, t, os⟩ := by
  refine wpAny_call (codeAny_of_tree ?_)
  show wpAny _ A.in1 (callAny (.ref u) ⟨[], []⟩) _ _ _
  simp only [callAny]
  refine wpAny_bind (wpAny_load hu ?_)
  simp only [kxs_mw, show (Value.type "method-wrapper" == Value.type "method" || Value.type "method-wrapper" == Value.type "builtin_function_or_method" || Value.type "method-wrapper" == Value.type "method-wrapper") = true by decide, if_true]
  refine W.KFB.if_so (by decide) ?_
  refine wpAny_bind (ESX.check_bound F.excBase_ValueError hC he rfl ?_)
  refine wpAny_bind (wpAny_pure (wpAny_pure ?_))
  refine ⟨Code.quiet_builtin _ (by decide +kernel), codeAny_builtin F.excBase_ValueError.initEntry ?_⟩
  rw [Around.under_plainId F.excBase_ValueError.init.plain _]
  wp_walk
  refine hq _ h.objs.size (fun b o hb ho => ?_) ?_
  · rw [Heap.get?_update_other _ _ (Ne.symm hb)]
    exact Heap.get?_push_of_some _ ho
  · rw [Heap.get?_update_self _ (Heap.get?_push_of_some _ he) rfl]
    rfl
section
variable {prog : Program} {w : World} {A : Around} {E : Value → Shared → Prop} {R : Result → Shared → Prop} {s : Shared} {K : Frag} {mg : Str → Option Value} {C fI : Addr} {x q : Str} {base : Heap}
theorem own_init (T : OwnT prog K mg x q C fI) (Md : Mod K mg base) (kb : ∀ b o, base.get? b = some o → s.heap.get? b = some o) {a t0 : Addr} {v : Value} (hx : s.heap.get? a = some (excO C t0)) (hnx : K.lookup a = none) (hroom : A.depth < recursionLimit)
    (hq : ∀ h' tk dx t1, InitEnd s.heap h' a C dx t1 v → R (.ok (.ret .none)) { s with heap := h', toks := tk }) :
    codeAny (model prog w) A (.call (.ref fI) ⟨[.ref a, v], []⟩) R s := by
  obtain ⟨oc, od, dt, kV, doc, pm, an, cda, cc, ct, osl, p1, p2, p3, q1, q2, q3, q4, q5, r1, r2, r3, r4, ccl, cdd, vs, ccs, file, tf, cl, cld, csl, odt, dv, dn, ho, hcd, hcda, hvs, hfile, hcc, hdt, hdd, hev⟩ := T.fn
  obtain ⟨nm, q', N, bs, bm, sn, sub, ab, col, dd, k0, k1, k2, k3, k5, hC, hbm⟩ := T.cls
  have hcl : clsIn K C = some { name := nm, bases := bs, mro := .ref C :: bm, ns := N, qualname := q', hasDict := true, slotNames := sn, subclasses := sub, abstract := ab, collection := col, hasDel := false } := by unfold clsIn; rw [hC] <;> rfl
  have X : K.In s.heap := Md.kin.keeps kb
  refine ks_codeAny_call_defAt (fd := ksFn "__init__" q (oA p1 p2 p3) (oB q1 q2 q3 q4 q5 r1 r2 r3 r4) oS (.ref dt) kV doc pm an (.ref cda) ct cc) (binds := [("self", .ref a), ("value", v)]) hroom (X _ _ ho) rfl (Md.nolimit.keeps kb) (codeRec_of X hcd) rfl (binds_K X rfl hdt hdd rfl rfl)
    (show ∀ y ∈ oS.names, y.2 ≠ .cell by decide) (fun y hy => by
      have hy : y = (("self" : Str), Value.ref a) ∨ y = (("value" : Str), v) := by simpa using hy
      rcases hy with rfl | rfl <;> rfl) (fun h₁ hns hk => ?_)
  have X₁ : K.In h₁ := X.keeps hk
  have hx₁ := hk _ _ hx
  have hxL : s.heap.objs.size ≠ a := Nat.ne_of_gt (Heap.lt_size hx)
  have hns' : h₁.Ns s.heap.objs.size (fun y => [(("self" : Str), Value.ref a), (("value" : Str), v)].reverse.lookup y) := hns
  obtain ⟨oD, hD1, hD2⟩ : ∃ oD, h₁.get? C = some oD ∧ oD.data = .cls { name := nm, bases := bs, mro := .ref C :: bm, ns := N, qualname := q', hasDict := true, slotNames := sn, subclasses := sub, abstract := ab, collection := col, hasDel := false } := ⟨_, X₁ _ _ hC, rfl⟩
  have hxC : a ≠ C := fun e => by
    rw [e, X₁ _ _ hC] at hx₁
    cases hx₁
  have IA : InstAt h₁ a (excO C t0) C none := ⟨hx₁, rfl, rfl, trivial⟩
  have hI : Looks (model prog w) h₁ (isInstance (.ref a) (.type "ValueError")) true := IA.type.andThen (looks_subIn X₁ T.veC)
  have hmro : Looks (model prog w) h₁ (mroOf (.ref C)) (.ref C :: bm) := fun A Q E s k q => wpAny_bind ((looks_clsIn X₁ hcl) A _ E s k (wpAny_pure q))
  have hsup : alongIn K "__init__" (((Value.ref C :: bm).dropWhile (· != .ref C)).drop 1) = some (some (.builtin "ValueError.__init__")) := by
    have e := T.sup
    unfold ks_superIn at e
    rw [hcl] at e
    exact e
  obtain ⟨mb, hb1, hb2⟩ := Md.blt
  have kb₁ : ∀ b o, base.get? b = some o → h₁.get? b = some o := fun b o e => hk b o (kb b o e)
  -- super().__init__()
  obtain ⟨pl, hev⟩ := hev (callEnv (ksFn "__init__" q (oA p1 p2 p3) (oB q1 q2 q3 q4 q5 r1 r2 r3 r4) oS (.ref dt) kV doc pm an (.ref cda) ct cc) s.heap.objs.size fI)
  refine ks_wpAt_execs_cons (ks_wpAt_Expr_any (ks_wpAt_MethodCall (he := hev) (ks_wpAt_super_base (f := fI) (cc := cda) (ar := { arg := "self", annotation := none, pos := p1 }) rfl rfl (by decide) rfl (X₁ _ _ ho) rfl rfl rfl (X₁ _ _ hcda) rfl hvs hfile T.top ?_)))
  refine ks_loadName_global rfl rfl (loadGlobal_builtin (Md.glob.keeps kb₁) T.spr (hb1.keeps kb₁) ((hb2 _ (by decide)).trans (by first | boot_by_name | rfl | kernel_rfl)) ⟨rfl, ?_⟩)
  refine wpAny_loadName_free rfl rfl rfl ⟨_, X₁ _ _ hcc, rfl⟩ ?_
  refine wpAny_loadName_local rfl rfl hns' (by first | rfl | with_unfolding_all rfl | kernel_rfl) ?_
  refine ks_wpAny_isType_cls hD1 hD2 ⟨rfl, ?_⟩
  refine ks_wpAny_call_super hD1 hD2 hx₁ rfl (fun c e => by cases e) (looks_mroIn X₁ T.mrC) (fun h₂ e2 kk2 => ?_)
  have X₂ : K.In h₂ := X₁.keeps kk2
  refine kxs_getMethod kxs_ValueError e2 (looks_opaque X₂ T.opq) (hmro.keeps kk2) rfl X₂ hsup (hI.keeps kk2) hxC (by decide) ?_
  have hu : (h₂.push (kxs_mw "ValueError.__init__" a)).get? h₂.objs.size = some (kxs_mw "ValueError.__init__" a) := Heap.get?_push_at rfl rfl
  have kk3 : ∀ b o, h₂.get? b = some o → (h₂.push (kxs_mw "ValueError.__init__" a)).get? b = some o := fun b o e => Heap.get?_push_of_some _ e
  have hx₃ := kk3 _ _ (kk2 _ _ hx₁)
  have X₃ : K.In (h₂.push (kxs_mw "ValueError.__init__" a)) := X₂.keeps kk3
  refine kxs_callWith (i := "ValueError.__init__") (x := a) rfl (evalArgs_empty ⟨hu, ?_⟩)
  refine call_bwV (X₃ _ _ hC) hx₃ hu fun h₄ t1 k4 hx₄ => ?_
  have k34 : ∀ b o, b ≠ a → h₁.get? b = some o → h₄.get? b = some o := fun b o hb e => k4 b o hb (kk3 b o (kk2 b o e))
  have hns4 : h₄.Ns s.heap.objs.size (fun y => [(("self" : Str), Value.ref a), (("value" : Str), v)].reverse.lookup y) := by
    obtain ⟨oL, es, ep, hL, r⟩ := hns'
    exact ⟨oL, es, ep, k34 _ _ hxL hL, r⟩
  have X₄ : K.In h₄ := fun b o e => k34 b o (fun z => by rw [z, hnx] at e; cases e) (X₁ b o e)
  -- self.value = value
  show PySem.wpAt _ _ _ (execs _ _) _ _ _
  refine wpAt_of_wpAny ?_
  refine wpAny_execs_cons (plainObj_wpAny_Assign_Attribute ?_)
  refine ldC (L := s.heap.objs.size) (v := v) hns4 (by first | rfl | with_unfolding_all rfl | kernel_rfl) (ldC (L := s.heap.objs.size) (v := .ref a) hns4 (by first | rfl | with_unfolding_all rfl | kernel_rfl) ?_)
  refine set_plain X₄ (ox := excO C t1) (od := none) ⟨hx₄, rfl, rfl, trivial⟩ T.sa ?_
  refine exc_osa X₄ hx₄ hcl (show refsVE (.ref C :: bm) = true from hbm) rfl T.noN (fun h₅ tk₅ dx k₅ dn dne hx₅ hn₅ => ?_)
  show wpAny _ _ (execs _ _) _ _ _
  refine wpAny_execs_nil (hq h₅ tk₅ dx t1 ⟨fun b o hb e => k₅ b o hb (k34 b o hb (hk b o e)), hx₅, ?_, dne, hn₅⟩)
  obtain ⟨oL, es, ep, hL, _⟩ := hns4
  exact Nat.le_trans (Nat.le_of_lt (Heap.lt_size hL)) dn
theorem own_made (T : OwnT prog K mg x q C fI) (Md : Mod K mg base) (kb : ∀ b o, base.get? b = some o → s.heap.get? b = some o) {v : Value} (hroom : A.depth + 1 < recursionLimit)
    (hq : ∀ h' tk e d, OwnMade s.heap h' e C d v → R (.ok (.ret (.ref e))) { s with heap := h', toks := tk }) :
    codeAny (model prog w) A (.call (.ref C) ⟨[v], []⟩) R s := by
  obtain ⟨nm, q, N, bs, bm, sn, sub, ab, col, dd, k0, k1, k2, k3, k5, hC, hbm⟩ := T.cls
  obtain ⟨hp, g, dr, tk, os⟩ := s
  have X : K.In hp := Md.kin.keeps kb
  have k : ∀ b o, hp.get? b = some o → ((hp.push (kdv_tup [v])).push (excO C hp.objs.size)).get? b = some o := fun b o e => Heap.get?_push_of_some _ (Heap.get?_push_of_some _ e)
  have hget : ((hp.push (kdv_tup [v])).push (excO C hp.objs.size)).get? (hp.objs.size + 1) = some (excO C hp.objs.size) := by heap_get
  have hnx : K.lookup (hp.objs.size + 1) = none := by
    cases e : K.lookup (hp.objs.size + 1) with
    | none => rfl
    | some o =>
      have z : hp.get? (hp.objs.size + 1) = some o := X _ _ e
      exact absurd (Nat.lt_of_succ_lt (Heap.lt_size z)) (Nat.lt_irrefl _)
  refine call_own F.excBase_ValueError (fun X => refsVE_contains X bm hbm) (X _ _ hC) (looks_findIn X T.iC) (fun self => bind_fn X self T.tC) (one_size v) ?_
  refine own_init (s := ⟨(hp.push (kdv_tup [v])).push (excO C hp.objs.size), g, dr, tk, os⟩) T Md (fun b o e => k b o (kb b o e)) hget hnx ?_ fun h' tk' dx t1 ⟨k', hx, dn, dne, hns⟩ => ?_
  · show A.depth + 1 < recursionLimit
    exact hroom
  · have old : ∀ b o, hp.get? b = some o → h'.get? b = some o := fun b o e => k' b o (Nat.ne_of_lt (Nat.lt_succ_of_lt (Heap.lt_size e))) (k b o e)
    have z : hp.objs.size + 1 + 1 ≤ dx := by
      first
        | (simpa only [Heap.size_push] using dn)
        | exact dn
        | (have q := dn; rw [Heap.size_push, Heap.size_push] at q; exact q)
    exact ⟨rfl, hq h' tk' (hp.objs.size + 1) dx ⟨old, Nat.le_succ _, ⟨_, _, hx, rfl, rfl, rfl, rfl⟩, Nat.le_trans (Nat.le_trans (Nat.le_succ _) (Nat.le_succ _)) z, dne, hns⟩⟩
end
theorem relO_own {v : V} {v' : Value} (r : RelV v v') (f : Str) : RelO (List.lookup f [(("value" : Str), v)]) (if f = "value" then some v' else none) := by
  by_cases hw : f = "value"
  · subst hw
    rw [if_pos rfl]
    have q : List.lookup ("value" : Str) [(("value" : Str), v)] = some v := by simp [List.lookup]
    rw [q]
    exact r
  · rw [if_neg hw]
    have qw : (f == ("value" : Str)) = false := by simpa using hw
    have q2 : List.lookup f [(("value" : Str), v)] = none := by simp [List.lookup, qw]
    rw [q2]
    trivial
/-- x(e), x such a class -/
def tMkOwn (C : Addr) (ta : TA) : L2.St → Hp → XK → Prop := fun σ H Q => ta σ H fun vs H1 => ∃ v, vs = [v] ∧ ∀ d, H1 d = none → Q (.ref C) (some d) (upd H1 d (.xd [(("value" : Str), v)]))
section
variable {X : Cx} {C fI : Addr} {x q : Str}
theorem pmk_own {a : Expr} {ta : TA} {p pos : Pos} {k : Nat} (T : OwnT X.prog X.K X.mg x q C fI) (hr : Room k X.A) (ha : PA X [a] ta) (hg : Gl X x) (hdb : (x == ("__debug__" : Str)) = false)
    (he : starEach (a :: []) X.env = (false, eval a X.env) :: starEach [] X.env := by rfl) (hpl : (backTo pos (starEach [] X.env)).any (·.1) = false := by rfl) :
    PMk X (.Call (.Name x p) [a] [] pos) (tMkOwn C ta) := by
  intro pins s σ H Q I h
  refine wpAny_Call_Name_kw (ld_glob I hg T.gC ?_ hdb)
  refine PySem.W.callWith_K (h₀ := X.base) I.ok.mod.kin T.kC (thn (ha.run pos pins s σ H _ I h) fun us s1 hh => ?_) he hpl
  obtain ⟨vs, H1, I1, r1, v, ev, q1⟩ := hh
  subst ev
  refine ⟨I1.kIn, ?_⟩
  cases r1 with
  | cons rv rn =>
    rename_i v' us'
    cases rn
    show wpAny _ _ (call (.ref C) [v']) _ _ _
    have kb := I1.bk
    have Md := I1.mod
    obtain ⟨hp, g, dr, tk, os⟩ := s1
    refine wpAny_call (own_made T Md kb (by have := hr.dp; omega) fun h' tk' e d M => ?_)
    show MkP X pins σ Q (.ref e) ⟨h', g, dr, tk', os⟩
    obtain ⟨oe, fv, hoe, hc, hd, hdat, h1⟩ := M.obj
    have hns := M.ns
    obtain ⟨G', g1, g2⟩ := restrict h' fun b => decide (b ≠ e)
    have gk : ∀ b, b ≠ e → G'.get? b = h'.get? b := fun b hb => g1 b (decide_eq_true hb)
    have ge : G'.get? e = none := g2 e (by simp)
    have old : ∀ b o, hp.get? b = some o → G'.get? b = some o := fun b o q => (gk b (Nat.ne_of_lt (Nat.lt_of_lt_of_le (Heap.lt_size q) M.new))).trans (M.keep b o q)
    have ob : ObjOk X.prog X.w (upd H1 d (.xd [(("value" : Str), v)])) G' d (.xd [(("value" : Str), v)]) :=
      ⟨_, hns.at (fun o q => (gk d M.dne).trans q), fun f => relO_own rv f⟩
    have J : Inv X pins σ (upd H1 d (.xd [(("value" : Str), v)])) ⟨G', g, dr, tk', os⟩ := I1.laid (t' := tk') old M.dbig ob
    refine ⟨e, oe, fv, ⟨G', g, dr, tk', os⟩, _, .ref C, some d, rfl, J, fun b o q => ?_, ge, hoe, ⟨hc, hd⟩, hdat, h1, ?_, rfl, I1.bare, raises_own T.exC T.tyC, q1 d (I1.hok.fresh M.dbig)⟩
    · by_cases hb : b = e
      · have q' : G'.get? b = some o := q
        rw [hb, ge] at q'; cases q'
      · exact (gk b hb).symm.trans q
    · rw [upd_ne (Ne.symm M.dne)]
      exact I1.hok.fresh M.new
end
/-- a new thing, frozen at once -/
theorem new_frozen {mg : Mg} {g : Gh} {cs : Cells} {H : Hp} {as : List Addr} {p : Addr} (w : Wf mg g cs H as) (hp : H p = none) (u : HO) : ∃ g2, g.Le g2 ∧ Adv g g2 H (upd H p u) [] ∧ Wf mg g2 cs (upd H p u) as ∧ g2.F p = some u := by
  have ne : ∀ {a : Addr}, H a ≠ none → a ≠ p := fun {a} z e => z (by rw [e]; exact hp)
  have w1 : Wf mg g cs (upd H p u) (p :: as) := w.alloc hp
  let g' : Gh := { g with F := fun a => if a = p then some u else g.F a }
  have hF : ∀ a v, g.F a = some v → g'.F a = some v := fun a v z => by
    show (if a = p then _ else g.F a) = _
    rw [if_neg fun e => by rw [e, w.fdom hp] at z; cases z]
    exact z
  have le : g.Le g' := ⟨hF, ⟨[], (List.append_nil _).symm⟩, rfl⟩
  have nd := List.nodup_cons.mp w1.nd
  refine ⟨g', le, ⟨hF, ⟨[], (List.append_nil _).symm, fun _ z => nomatch z⟩, rfl, fun a v z _ _ => by rw [upd_ne (ne (by rw [z]; exact fun y => nomatch y))]; exact z, fun a v z => ?_, fun a z => by rw [upd_ne (ne z)]; exact z⟩, ?_, show (if p = p then _ else _) = _ from if_pos rfl⟩
  · have z : (if a = p then some u else g.F a) = some v := z
    by_cases e : a = p
    · subst e; exact .inr (.inr hp)
    · rw [if_neg e] at z; exact .inl z
  · refine ⟨w.mg, fun a v z => ?_, w.len, w.ndL, fun a ha => ?_, fun i c a h1 h2 => (w1.cell i c a h1 h2).mono le rfl, w.nd, fun a ha => ?_⟩
    · have z : (if a = p then some u else g.F a) = some v := z
      by_cases e : a = p
      · rw [if_pos e] at z; cases z; rw [e]; exact .inl upd_same
      · rw [if_neg e] at z; exact w1.see a v z
    · show (if a = p then _ else g.F a) = _
      rw [if_neg fun (e : a = p) => w.newL hp (by rw [← e]; exact ha)]
      exact w.sepL a ha
    · obtain ⟨h1, h2, h3⟩ := w1.sep a (List.mem_cons_of_mem _ ha)
      refine ⟨?_, h2, h3⟩
      show (if a = p then _ else g.F a) = _
      rw [if_neg fun (e : a = p) => nd.1 (by rw [← e]; exact ha)]
      exact h1
/-- raise x(e) -/
def sRaise (x : Str) (m : XM) : SM := fun env cs => (m env cs).bindS fun d env cs => .exc (.exn x [("value", d)]) env cs
theorem sm_raise {X : Cx} {C fI : Addr} {x q : Str} {a : Expr} {m : XM} {p pos pos2 : Pos} {k : Nat} (hc : X.calm = true) (T : OwnT X.prog X.K X.mg x q C fI) (hr : Room k X.A) (ha : Em X a m) (hg : Gl X x := by rfl) (hdb : (x == ("__debug__" : Str)) = false := by decide)
    (he : starEach (a :: []) X.env = (false, eval a X.env) :: starEach [] X.env := by rfl) (hpl : (backTo pos (starEach [] X.env)).any (·.1) = false := by rfl) :
    Sm X (.Raise (some (.Call (.Name x p) [a] [] pos)) none pos2) (sRaise x m) := ⟨fun W tk => ps_imp (ps_raise hc tk (pmk_own T hr (pa_cons (ha.run W tk) pa_nil he) hg hdb he hpl)) fun D σ H ⟨g, cs, env, as, w, ev, f⟩ => by
  refine ⟨g, cs, env, as, w, ev, (Fin.bindS f).imp fun v H1 ⟨g1, cs1, env1, as1, d, G, rp, f⟩ => ⟨v, rfl, fun dd hdd => ?_⟩⟩
  have el : EnvR g1 (upd H1 dd (.xd [(("value" : Str), v)])) env1 σ as1 := G.env.mono (.refl g1) fun b hb => upd_ne fun z => G.wf.newA hdd (z ▸ hb)
  obtain ⟨g2, le, ad, w2, hF2⟩ := new_frozen G.wf hdd (.xd [(("value" : Str), v)])
  exact f (.ref C) (some dd) σ _ g2 as1 ad.weak (.refl _ _) w2 (el.mono le fun _ _ => rfl) (.mk (by rw [w2.mg]; exact T.gC) hF2 (.cons (rp.mono le) .nil))⟩
end GM
namespace GM
open PySem PySem.Spec L2 PyProof.Rows
/-! ### try: body / except x as n: suite, the exception a thing of ours from there on -/
section
variable {X : Cx} {pins : List (Addr × Obj)} {σ : L2.St} {H : Hp} {sI s' : Shared} {B : Heap}
theorem landed_with {a : Addr} {o : HO} (I : Inv X pins σ H sI) (nb : ∀ b o, sI.heap.get? b = some o → b ∉ frs X.stack → B.get? b = some o) (st : B.StaysIn s'.heap) (up : sI.heap.UpToSlots s'.heap) (os : s'.os = sI.os) (ag : AllBare s'.gens)
    (na : H a = none) (hn : sI.heap.get? a = none) (new : ObjOk X.prog X.w (upd H a o) s'.heap a o) : Inv X pins σ (upd H a o) s' := by
  have nf : ∀ b ∈ frs X.stack, ∀ o, sI.heap.get? b = some o → ∃ sl, s'.heap.get? b = some { o with slots := sl } := fun b hb o e => by
    obtain ⟨_, o', e', hd⟩ := I.stack.mem hb
    rw [e] at e'; cases e'
    exact up b o e hd
  have ne1 : ∀ {b : Addr} {o : Obj}, sI.heap.get? b = some o → b ≠ a := fun {b o} e z => by rw [z, hn] at e; cases e
  have ne2 : ∀ {b : Addr} {u : HO}, H b = some u → b ≠ a := fun {b u} e z => by rw [z, na] at e; cases e
  exact I.call' (ch := []) os
    ⟨fun b o e _ hb _ => st b o (nb b o e hb), fun b o e _ hb _ => nf b hb o e, fun b o e n _ => by rw [upd_ne (ne1 e)]; exact n, fun b o e _ => by
      by_cases hb : b ∈ frs X.stack
      · obtain ⟨sl, q⟩ := nf b hb o e
        exact ⟨_, q⟩
      · exact ⟨o, st b o (nb b o e hb)⟩, fun b xs e => by rw [upd_ne (ne2 e)]; exact e, fun b o u e => by rw [upd_ne (ne2 e)]; exact e, fun b ps e => ⟨#[], by rw [upd_ne (ne2 e), e]; simp⟩⟩
    (((I.inGround nb).kept st).laidN (fun _ _ z => z) na new) ag (fun _ z => nomatch z)
theorem suite_of {a : Addr} (I : Inv X pins σ H s') : Inv (X.suite a (X.pn ++ pins)) [] σ H s' :=
  ⟨I.ok.suite _ _, I.os, I.bare, I.base, I.loc, I.cell, I.free, I.freeC, fun p hp => I.pin p (by rw [List.append_nil] at hp; exact hp), I.hok, I.len⟩
theorem unsuite_of {a : Addr} {pn' : List (Addr × Obj)} (I : Inv (X.suite a (X.pn ++ pins)) pn' σ H s') (ok : X.Ok) : Inv X pins σ H s' :=
  ⟨ok, I.os, I.bare, I.base, I.loc, I.cell, I.free, I.freeC, fun p hp => I.pin p (List.mem_append_left _ hp), I.hok, I.len⟩
end
/-- what the clause wishes of an exception of the body -/
def wAsX (K : PySem.W.Frag) (c : Value) (i : Nat) (ts : TS) (Wout : WX) (D : Ends) : WX := fun cls d σ H =>
  ∃ b, PySem.W.exmOne K cls c = some b ∧ (b = true → ∃ C dd, cls = .ref C ∧ d = some dd ∧ ∀ a, H a = none → ts { nx := fun σ' H' => D.nx (σ'.set i none) H', rt := D.rt, bk := fun σ' H' => D.bk (σ'.set i none) H', ct := fun σ' H' => D.ct (σ'.set i none) H' } (σ.set i (some (.ref a))) (upd H a (exH a C dd))) ∧
    (b = false → Wout cls d σ H)
theorem exH_ok {P : Program} {w : World} {H : Hp} {h : Heap} {a C dd : Addr} (e : ∃ (ox : Obj) (vs : Array Value), h.get? a = some ox ∧ ox.cls = .ref C ∧ ox.dict = some dd ∧ ox.data = .fields vs) : ObjOk P w H h a (exH a C dd) :=
  ⟨e, (by obtain ⟨ox, _, q, _⟩ := e; exact ⟨ox, q⟩), fun h1 h2 z k => by
    obtain ⟨ox, vs, q1, q2⟩ := z
    exact ⟨ox, vs, k _ q1, q2⟩⟩
section
variable {X : Cx} {x n : Str} {c : Value} {i : Nat} {body suite : List Stmt} {b₀ : Stmt} {np pos pos' : Pos} {tb : WX → TS} {ts : TS} {Wout : WX}
theorem ps_try_asX (hs : X.stack = X.env :: X.outer) (hf : X.env.frame = some X.env.locals) (hN : X.N.Nodup) (hi : X.N[i]? = some n) (hln : X.env.kindOf n = some .local) (hc : Names X x c) (tk : Takes X Wout)
    (hb : ∀ (W : WX) (pn : List (Addr × Obj)) (xe : Value → Shared → Prop), Takes (X.tr pn xe) W → PassesOwn (model X.prog X.w) X.A X.env xe → PSs (X.tr pn xe) body (tb W))
    (hsu : ∀ (a : Addr) (pn : List (Addr × Obj)), PSs (X.suite a pn) (b₀ :: suite) ts) :
    PS X (.Try body [.ExceptHandler (some (.Name x np)) (some n) (b₀ :: suite) pos'] [] [] pos) (fun D σ H => tb (wAsX X.K c i ts Wout D) D σ H) := by
  refine ⟨fun pins s σ H D I h => ?_⟩
  have ok := I.ok
  have hfr : X.A.frames = some (X.env :: X.outer) := by rw [ok.frames, hs]
  have hloc : Loc X.env.scope n := .inl hln
  refine wpAny_Try_except ?_
  refine wpAny_mono ((hb (wAsX X.K c i ts Wout D) (X.pn ++ pins) (fun e s₁ => wpAny (model X.prog X.w) X.A (noteFrame e X.env) (fun _ s₂ => wpAny (model X.prog X.w) X.A (setFlight e none) (fun _ s₃ =>
    wpAny (model X.prog X.w) X.A (handleBy e X.env [.ExceptHandler (some (.Name x np)) (some n) (b₀ :: suite) pos']) (SP X pins D) X.xe s₃) X.xe s₂) X.xe s₁) (fun u s' xx => ?_) PassesOwn.looking).run [] s σ H D (I.toTry _) h) (fun f s1 hsp => ?_) (fun e s1 he => he)
  · -- the catch
    obtain ⟨a, B, sI, pins', σ', H', cls, d, rfl, J', nb, up, sky, na, os, ag, b, hb1, hyes, hno⟩ := xx
    have J : Inv X pins σ' H' sI := J'.ofTry ok
    have sky' : Sky B (X.env :: X.outer) a (Zc cls d) X.env.locals s'.heap := by rw [← hs]; exact sky
    show wpAny (model X.prog X.w) X.A (noteFrame (.ref a) X.env) _ _ _
    refine Sky.land Zc.steady hfr hf sky' fun h3 fl3 up3 => ?_
    have J3 : Inv X pins σ' H' { s' with heap := h3 } := J.landed nb fl3.1 (up.trans up3) os ag
    obtain ⟨oe3, vs3, he3, hz3, hd3⟩ := fl3.there
    have notFr : ∀ {h : Heap} {o : Obj} {vs : Array Value}, h.FunFrames B (X.env :: X.outer) → h.get? a = some o → o.data = .fields vs → a ∉ frs (X.env :: X.outer) := fun {h o vs} ff e dd hm => by
      obtain ⟨_, o', e', hnf⟩ := ff.mem hm
      rw [e] at e'; cases e'
      exact hnf _ dd
    have nfr := notFr fl3.2.2.1 he3 hd3
    have nL : a ≠ X.env.locals := fun z => nfr (List.mem_filterMap.mpr ⟨X.env, List.mem_cons_self, by rw [hf, z]⟩)
    have nF : a ∉ X.fs := fun hm => by
      obtain ⟨e, he, q⟩ := List.mem_filterMap.mp hm
      exact nfr (List.mem_filterMap.mpr ⟨e, List.mem_cons_of_mem _ he, q⟩)
    have nsI : sI.heap.get? a = none := by
      cases q : sI.heap.get? a with
      | none => rfl
      | some o =>
        have z := nb a o q (by rw [hs]; exact nfr)
        rw [fl3.2.1] at z; cases z
    have S3 := suite_of (a := a) J3
    refine wpAny_handleBy_cons (codeAny_handlers_test ?_) (by intro q; cases q)
    have LT : PySem.W.Looks (model X.prog X.w) h3 (typeOf (.ref a)) cls := fun A Q E s k q => wpAny_typeOf_ref (k _ _ he3) (by rw [hz3.1]; exact q)
    have LM := PySem.W.exm_one (M := model X.prog X.w) (J3.kIn) LT hb1
    have test : ∀ {Q : Value → Shared → Prop} {E : Value → Shared → Prop}, Q c { s' with heap := h3 } → wpAny (model X.prog X.w) (X.A.mark (some (.ref a))) (eval (.Name x np) X.env) Q E { s' with heap := h3 } := fun {Q E} q => by
      obtain ⟨hg, hdbg, hm | ⟨hm, hv, hnn⟩⟩ := hc
      · exact ld_glob (X := X.suite a (X.pn ++ pins)) S3 hg hm q hdbg
      · exact ld_blt (X := X.suite a (X.pn ++ pins)) S3 hg hm hv q hnn hdbg
    refine test (LM.here ?_)
    cases b with
    | true =>
      refine codeAny_handlers_suite_as ?_
      refine HandSPX.lands_againZ fl3 fun h4 fl4 up4 => ?_
      obtain ⟨oe4, vs4, he4, hz4, hd4⟩ := fl4.there
      obtain ⟨C, dd, ec, ed, hyes⟩ := hyes rfl
      have J4 : Inv X pins σ' (upd H' a (exH a C dd)) { s' with heap := h4 } := landed_with J nb fl4.1 ((up.trans up3).trans up4) os ag na nsI (exH_ok ⟨oe4, vs4, he4, by rw [← ec]; exact hz4.1, by rw [← ed]; exact hz4.2, hd4⟩)
      have S4 := suite_of (a := a) J4
      refine store_ok (X := X.suite a (X.pn ++ pins)) (v := .ref a) S4 hN hi hloc rfl (fun s5 S5 => ?_) (.inr hln)
      refine wpAny_mono ((hsu a (X.pn ++ pins)).run [] s5 _ _ _ S5 (hyes a na)) (fun f s6 hsp => ?_) (fun _ _ z => False.elim z)
      have end_ : ∀ {σ6 : L2.St} {H6 : Hp} {Q : Shared → Prop}, Inv (X.suite a (X.pn ++ pins)) [] σ6 H6 s6 → (∀ s7, Inv X pins (σ6.set i none) H6 s7 → Q s7) →
          wpAny (model X.prog X.w) X.A (do bindName X.env n .none; unbindBehindTheSuite X.env n pos') (fun _ s7 => Q s7) X.xe s6 := fun {σ6 H6 Q} S6 hq => gone_ok (unsuite_of S6 ok) hN hi hln hq
      cases f with
      | next =>
        obtain ⟨σ6, H6, S6, q6⟩ := hsp
        exact end_ S6 fun s7 J7 => ⟨_, _, J7, q6⟩
      | brk =>
        obtain ⟨σ6, H6, S6, q6⟩ := hsp
        exact end_ S6 fun s7 J7 => ⟨_, _, J7, q6⟩
      | cont =>
        obtain ⟨σ6, H6, S6, q6⟩ := hsp
        exact end_ S6 fun s7 J7 => ⟨_, _, J7, q6⟩
      | ret u =>
        obtain ⟨v6, σ6, H6, S6, r6, q6⟩ := hsp
        exact end_ S6 fun s7 J7 => ⟨_, _, _, J7, r6, q6⟩
    | false =>
      show wpAny _ X.A (handleBy (.ref a) X.env []) _ _ _
      refine wpAny_handleBy_nil ?_
      obtain ⟨k1, k2, k3, oe, vs, T, oT, ts', he, hz, hd, h1, hr⟩ := id fl3
      unfold PySem.passOn
      refine wpAny_bind (wpAny_field he hd h1 ?_)
      rw [if_neg (show ¬ ((Value.ref T == Value.none) = true) from by simp)]
      have fin : wpAny (model X.prog X.w) X.A (setFlight (.ref a) X.env.frame) (fun _ s4 => wpAny (model X.prog X.w) X.A (throw (.ref a) : Sem Flow) (SP X pins D) X.xe s4) X.xe { s' with heap := h3 } := by
        rw [hf]
        refine HandSPX.setFlight_upZ fl3 fun h4 hh4 up4 => wpAny_throw (tk _ _ ?_)
        exact ⟨a, B, sI, pins, σ', H', cls, d, rfl, J, nb, (up.trans up3).trans up4, .inr (.inr (by rw [hs]; exact hh4)), na, os, ag, hno rfl⟩
      first
        | exact wpAny_bind (wpAny_pure (wpAny_bind fin))
        | exact wpAny_bind fin
  · cases f with
    | next =>
      obtain ⟨σ', H', J', q⟩ := hsp
      exact wpAny_execs_nil ⟨σ', H', J'.ofTry ok, q⟩
    | brk =>
      obtain ⟨σ', H', J', q⟩ := hsp
      exact ⟨σ', H', J'.ofTry ok, q⟩
    | cont =>
      obtain ⟨σ', H', J', q⟩ := hsp
      exact ⟨σ', H', J'.ofTry ok, q⟩
    | ret u =>
      obtain ⟨v, σ', H', J', r, q⟩ := hsp
      exact ⟨v, σ', H', J'.ofTry ok, r, q⟩
end
def sTry (i : Nat) (catches : Str → Option Bool) (mb ms : SM) : SM := fun env cs => match mb env cs with
  | .exc x env1 cs1 => match x with
    | .exn c fs => match catches c with
      | some true => if i < env1.length then match ms (env1.set i (some (.fz (.exn c fs)))) cs1 with
          | .nx env2 cs2 => .nx (env2.set i none) cs2
          | .brk env2 cs2 => .brk (env2.set i none) cs2
          | .cnt env2 cs2 => .cnt (env2.set i none) cs2
          | .ret o env2 cs2 => .ret o env2 cs2
          | .exc _ _ _ => .bad
          | .bad => .bad
        else .bad
      | some false => .exc (.exn c fs) env1 cs1
      | none => .bad
    | _ => .bad
  | r => r
section
variable {X : Cx} {x n : Str} {c : Value} {i : Nat} {body suite : List Stmt} {b₀ : Stmt} {np pos pos' : Pos} {mb ms : SM}
theorem sm_try (catches : Str → Option Bool) (hs : X.stack = X.env :: X.outer) (hf : X.env.frame = some X.env.locals) (hN : X.N.Nodup) (hc : Names X x c)
    (hcat : ∀ k b, catches k = some b → ∀ C, X.mg k = some (.ref C) → PySem.W.exmOne X.K (.ref C) c = some b)
    (hb : ∀ (pn : List (Addr × Obj)) (xe : Value → Shared → Prop), PassesOwn (model X.prog X.w) X.A X.env xe → Bm (X.tr pn xe) body mb) (hsu : ∀ (a : Addr) (pn : List (Addr × Obj)), Bm (X.suite a pn) (b₀ :: suite) ms)
    (hi : X.N[i]? = some n := by rfl) (hln : X.env.kindOf n = some .local := by rfl) :
    Sm X (.Try body [.ExceptHandler (some (.Name x np)) (some n) (b₀ :: suite) pos'] [] [] pos) (sTry i catches mb ms) := ⟨fun W tk => ps_imp (ps_try_asX (tb := fun W1 => tS (md X) mb W1) (ts := tS (md X) ms W0) hs hf hN hi hln hc tk (fun W' pn xe tk' po => (hb pn xe po).run W' tk') (fun a pn => (hsu a pn).run W0 takes0)) fun D σ H ⟨g, cs, env, as, w, ev, f⟩ => by
  refine ⟨g, cs, env, as, w, ev, ?_⟩
  unfold sTry at f
  cases q : mb env cs with
  | nx env1 cs1 => rw [q] at f; exact f
  | brk env1 cs1 => rw [q] at f; exact f
  | cnt env1 cs1 => rw [q] at f; exact f
  | ret o env1 cs1 => rw [q] at f; exact f
  | bad => rw [q] at f; exact f
  | exc y env1 cs1 =>
    rw [q] at f
    intro cls d σ1 H1 g1 as1 a1 s1 w1 e1 xr
    cases xr with
    | @mk k C dd ds fs hm hF rf =>
      dsimp only at f
      cases qc : catches k with
      | none => rw [qc] at f; exact f.elim
      | some b =>
        rw [qc] at f
        have hk := hcat k b qc C (by rw [w1.mg] at hm; exact hm)
        refine ⟨b, hk, fun hb => ?_, fun hb => ?_⟩
        · subst hb
          refine ⟨C, dd, rfl, rfl, fun a na => ?_⟩
          dsimp only at f
          by_cases hl : i < env1.length
          · rw [if_pos hl] at f
            obtain ⟨g2, le, ad, w2, hF2⟩ := new_frozen w1 na (exH a C dd)
            have e2 : EnvR g2 (upd H1 a (exH a C dd)) env1 σ1 as1 := e1.mono le fun b hb => upd_ne fun z => w1.newA na (z ▸ hb)
            obtain ⟨as3, w3, e3, s3⟩ := set_fz (d := .exn k ds) (v := .ref a) w2 e2 (.exn hF2 (le.F _ _ hF) (by rw [le.mg]; exact hm) (rf.mono le)) hl
            have f1 := FinS.rebase (a1.trans s1 ad.weak) ((s1.trans (fun _ => a1.none) (fun x hx => .inl (s3 x hx)))) f
            refine ⟨g2, cs1, _, as3, w3, e3, ?_⟩
            cases qs : ms (env1.set i (some (.fz (.exn k ds)))) cs1 with
            | nx env2 cs2 =>
              rw [qs] at f1
              intro σ2 H3 g3 as4 a3 s4 w4 e4
              obtain ⟨as5, e5, w5, s5⟩ := e4.setNone w4 i none
              exact f1 _ H3 g3 as5 a3 (fun x hx => s4 x (s5 x hx)) w5 e5
            | brk env2 cs2 =>
              rw [qs] at f1
              intro σ2 H3 g3 as4 a3 s4 w4 e4
              obtain ⟨as5, e5, w5, s5⟩ := e4.setNone w4 i none
              exact f1 _ H3 g3 as5 a3 (fun x hx => s4 x (s5 x hx)) w5 e5
            | cnt env2 cs2 =>
              rw [qs] at f1
              intro σ2 H3 g3 as4 a3 s4 w4 e4
              obtain ⟨as5, e5, w5, s5⟩ := e4.setNone w4 i none
              exact f1 _ H3 g3 as5 a3 (fun x hx => s4 x (s5 x hx)) w5 e5
            | ret o env2 cs2 => rw [qs] at f1; exact f1
            | exc _ _ _ => rw [qs] at f1; exact f1.elim
            | bad => rw [qs] at f1; exact f1
          · rw [if_neg hl] at f; exact f.elim
        · subst hb
          exact f _ _ σ1 H1 g1 as1 a1 s1 w1 e1 (.mk hm hF rf)⟩
end
/-! ### e.value -/
structure ExA (K : PySem.W.Frag) (C : Addr) : Prop where
  ga : PySem.W.findIn K (.ref C) "__getattribute__" = some (some (.builtin "BaseException.__getattribute__"))
  gg : PySem.W.findIn K (.ref C) "__getattr__" = some none
  noN : PySem.W.findIn K (.ref C) "value" = some none
  exC : PySem.W.subIn K (.ref C) (.type "BaseException") = some true
  hdC : PySem.W.hasDictIn K C = true
def pVal (ok : Str → Bool) : D → Cells → Option O
  | .exn c fs, _ => if ok c = true then (fs.lookup ("value" : Str)).map .fz else none
  | _, _ => none
theorem RepF.look {g : Gh} {f : Str} : ∀ {ds : List (Str × D)} {vs : List (Str × V)} {d : D}, RepF g ds vs → ds.lookup f = some d → ∃ v, vs.lookup f = some v ∧ Rep g d v
  | _, _, _, .nil, h => by cases h
  | _, _, d, @RepF.cons _ k d' v' ds vs r rs, h => by
    rw [List.lookup_cons] at h ⊢
    by_cases e : (f == k) = true
    · rw [e] at h ⊢; cases h; exact ⟨v', rfl, r⟩
    · rw [Bool.not_eq_true _ |>.mp e] at h ⊢; exact rs.look h
theorem em_val {X : Cx} {e : Expr} {m : XM} {pos : Pos} (ok : Str → Bool) (hok : ∀ c, ok c = true → ∀ C, X.mg c = some (.ref C) → ExA X.K C) (he : Em X e m) (hb : attributeBase e "value" X.env (eval e X.env) = eval e X.env := by rfl) :
    Em X (.Attribute e "value" pos) (xOp1 (pVal ok) m) := ⟨fun W tk => by
  have P : PE X (.Attribute e "value" pos) (fun σ H Q => tX (md X) m W σ H fun x H1 => ∃ g cs as c fs d, Wf (md X) g cs H1 as ∧ Rep g (.exn c fs) x ∧ ok c = true ∧ fs.lookup ("value" : Str) = some d ∧ ∀ v, Rep g d v → Q v H1) := by
    refine ⟨fun pins s σ H Q I h => ?_⟩
    refine attr_of hb (thn ((he.run W tk).run pins s σ H _ I h) fun u s1 ⟨x, H1, I1, rx, g, cs, as, c, fs, d, w, rp, hk, hl, q⟩ => ?_)
    cases rp with
    | @exn a C dx _ fs' _ h1 h2 hm rf =>
      cases rx
      have T := hok c hk C (by rw [w.mg] at hm; exact hm)
      obtain ⟨ox, od, J, mA, hns, hr, ho⟩ := exn_at I1 w h1 h2
      obtain ⟨v', hv', rv'⟩ := rf.look hl
      obtain ⟨u, hu, ru⟩ := RelO.some_of (v := v') (o := mA "value") (by rw [← hv']; exact hr "value")
      obtain ⟨od2, ho2, hl2⟩ := lookIn_ns hns
      rw [ho] at ho2; cases ho2
      exact HandSPX.exc_get I1.kIn J T.ga T.gg T.exC (PySem.W.findObj_own T.hdC T.noN rfl (by rw [hl2, hu])) (handed_of ru) ⟨v', H1, I1.tok _, ru, q v' rv'⟩
  refine pe_imp P fun σ H Q h => ?_
  refine op1_red (p := pVal ok) (r := fun x H1 Q => ∃ g cs as c fs d, Wf (md X) g cs H1 as ∧ Rep g (.exn c fs) x ∧ ok c = true ∧ fs.lookup ("value" : Str) = some d ∧ ∀ v, Rep g d v → Q v H1) ⟨fun g cs H as d x o Q w r h post => ?_⟩ h
  cases d with
  | exn c fs =>
    have h : (if ok c = true then (fs.lookup ("value" : Str)).map O.fz else none) = some o := h
    by_cases hk : ok c = true
    · rw [if_pos hk] at h
      cases q : fs.lookup ("value" : Str) with
      | none => rw [q] at h; cases h
      | some d =>
        rw [q] at h; cases h
        exact ⟨g, cs, as, c, fs, d, w, r, hk, q, fun v rv => post.fz w rv⟩
    · rw [if_neg hk] at h; cases h
  | _ => cases h⟩
end GM
namespace GM
open PySem PySem.Spec L2
/-! ### cells -/
section
variable {mg : Mg} {g : Gh} {cs : Cells} {H : Hp} {as : List Addr} {n : Nat} {a : Addr}
theorem cell_put (w : Wf mg g cs H as) (hL : g.L[n]? = some a) (c : Cell) (u : HO) (hc : CellR g (upd H a u) c a) : Wf mg g (cs.set n c) (upd H a u) as ∧ AdvE g g H (upd H a u) as ∧ ∀ b ∈ as, upd H a u b = H b := by
  have hm : a ∈ g.L := List.mem_of_getElem? hL
  have hF := w.sepL a hm
  have na : ∀ b ∈ as, b ≠ a := fun b hb e => (w.sep b hb).2.1 (e ▸ hm)
  have nl : ∀ {i j : Nat} {b : Addr}, g.L[i]? = some b → g.L[j]? = some b → i = j := fun {i j b} h1 h2 => by
    obtain ⟨l1, e1⟩ := List.getElem?_eq_some_iff.mp h1
    obtain ⟨l2, e2⟩ := List.getElem?_eq_some_iff.mp h2
    exact (List.getElem_inj w.ndL).mp (e1.trans e2.symm)
  refine ⟨⟨w.mg, fun b v q => ?_, by rw [List.length_set]; exact w.len, w.ndL, w.sepL, fun i c' b h1 h2 => ?_, w.nd, fun b hb => ?_⟩, ⟨⟨fun _ _ q => q, ⟨[], (List.append_nil _).symm, fun _ z => nomatch z⟩, rfl, fun b v q h1 _ => (upd_ne (fun e : b = a => h1 (by rw [e]; exact hm))).trans q, fun b v q => .inl q, fun b q => ?_⟩, fun b v q h1 => (upd_ne (fun e : b = a => h1 (by rw [e]; exact hm))).trans q⟩, fun b hb => upd_ne (na b hb)⟩
  · have ne : b ≠ a := fun e => by rw [e, hF] at q; cases q
    rcases w.see b v q with r | ⟨i, o', r⟩
    · exact .inl (by rw [upd_ne ne]; exact r)
    · exact .inr ⟨i, o', by rw [upd_ne ne]; exact r⟩
  · by_cases e : i = n
    · subst e
      rw [hL] at h2; cases h2
      rw [List.getElem?_set_self (by obtain ⟨l, _⟩ := List.getElem?_eq_some_iff.mp h1; simpa using l)] at h1
      cases h1; exact hc
    · rw [List.getElem?_set_ne (Ne.symm e)] at h1
      exact (w.cell i c' b h1 h2).mono (.refl g) (upd_ne fun z => e (nl (z ▸ h2) hL))
  · obtain ⟨h1, h2, h3⟩ := w.sep b hb
    exact ⟨h1, h2, by rw [upd_ne (na b hb)]; exact h3⟩
  · by_cases e : b = a
    · subst e; rw [upd_same]; exact fun z => nomatch z
    · rw [upd_ne e]; exact q
end
theorem RepL.setAt {g : Gh} {d : D} {v : V} (q : Rep g d v) : ∀ {ds : List D} {vs : List V} (i : Nat), RepL g ds vs → RepL g (ds.set i d) (vs.set i v)
  | _, _, _, .nil => .nil
  | _, _, 0, .cons _ r => .cons q r
  | _, _, i + 1, .cons h r => .cons h (r.setAt q i)
/-- c[k] = v, c a list in a cell -/
def sSetC (mv mo mi : XM) : SM := fun env cs => (mv env cs).bindS fun v env cs => (mo env cs).bindS fun c env cs => (mi env cs).bindS fun k env cs => match c, k with
  | .cel n, .int j => match cs[n]? with
    | some (.lst ds) => match ixN ds.length j with
      | some i => .nx env (cs.set n (.lst (ds.set i v)))
      | none => .bad
    | _ => .bad
  | _, _ => .bad
section
variable {X : Cx} {ev eo ei : Expr} {mv mo mi : XM} {pos pos2 : Pos}
theorem sm_setC (hv : Em X ev mv) (ho : Em X eo mo) (hi : Em X ei mi)
    (ha : ∀ v, assign (.Subscript eo ei pos2) X.env v = (do
      let ov ← holding [v] (eval eo X.env)
      let iv ← holding [v, ov] (eval ei X.env)
      standAt pos2
      holding [v, ov, iv] (setItem ov iv v)
      release [v, ov, iv] []) := by intro _; rfl)
    (hs : swapsWithSole [.Subscript eo ei pos2] ev pos.line X.env = pure false := by rfl) (hw : swappedStores [.Subscript eo ei pos2] ev X.env = pure none := by rfl)
    (h1 : (assignEach [.Subscript eo ei pos2] X.env).map (·.2) = [assign (.Subscript eo ei pos2) X.env] := by rfl) :
    Sm X (.Assign [.Subscript eo ei pos2] ev pos) (sSetC mv mo mi) := ⟨fun W tk => ps_imp (ps_asg (hv.run W tk) (pg_sub (ho.run W tk) (hi.run W tk) set_list ha) hs hw h1) fun D σ H ⟨g, cs, env, as, w, ev, f⟩ => by
  refine ⟨g, cs, env, as, w, ev, (Fin.bindS f).imp fun v H1 ⟨g1, cs1, env1, as1, d, G, rp, f⟩ => ?_⟩
  refine ⟨g1, cs1, env1, as1, G.wf, G.env, (Fin.bindS f).imp fun x H2 ⟨g2, cs2, env2, as2, c, G2, rp2, f⟩ => ?_⟩
  refine ⟨g2, cs2, env2, as2, G2.wf, G2.env, (Fin.bindS f).imp fun y H3 ⟨g3, cs3, env3, as3, k, G3, rp3, f⟩ => ?_⟩
  have rd := (rp.mono G2.adv.le).mono G3.adv.le
  have rc := rp2.mono G3.adv.le
  match c, k, rc, rp3, f with
  | .cel n, .int j, .cel hL, .int, f =>
    dsimp only at f
    cases q : cs3[n]? with
    | none => rw [q] at f; exact f.elim
    | some cc =>
      rw [q] at f
      cases cc with
      | lst ds =>
        dsimp only at f
        cases qi : ixN ds.length j with
        | none => rw [qi] at f; exact f.elim
        | some i =>
          rw [qi] at f
          cases G3.wf.cell n _ _ q hL with
          | @lst a vs _ hH l =>
            refine ⟨_, vs, j, i, rfl, rfl, hH, by rw [← l.len]; exact qi, ?_⟩
            obtain ⟨w4, a4, k4⟩ := cell_put G3.wf hL (.lst (ds.set i d)) (.lst (vs.set i v)) (.lst upd_same (l.setAt rd i))
            exact f σ _ g3 as3 a4.toAdv (.refl _ _) w4 (G3.env.mono (.refl g3) k4)
      | _ => exact f.elim⟩
end
/-- x = a new list, from here on a cell -/
def sAsgC (i : Nat) (m : XM) : SM := fun env cs => match m env cs with
  | .ok o env1 cs1 => match o with
    | .ol os => if i < env1.length then .nx (env1.set i (some (.fz (.cel cs1.length)))) (cs1 ++ [.lst (frzL os)]) else .bad
    | _ => .bad
  | .exc x env1 cs1 => .exc x env1 cs1
  | .bad => .bad
/-- an owned list becomes a cell -/
theorem to_cell {mg : Mg} {g0 g : Gh} {cs : Cells} {H0 H : Hp} {as0 as bs : List Addr} {os : List O} {v : V} (a : Adv g0 g H0 H as0) (w : Wf mg g cs H (bs ++ as)) (r : RepO g H (.ol os) v bs) (n : ∀ b ∈ bs, H0 b = none) :
    ∃ g2, g.Le g2 ∧ Adv g0 g2 H0 H as0 ∧ Wf mg g2 (cs ++ [.lst (frzL os)]) H as ∧ Rep g2 (.cel cs.length) v := by
  cases r with
  | @ol p vs _ cb hp rl =>
    -- first the things in it are frozen, then the list is a cell
    have nd := List.nodup_append.mp w.nd
    have pn : p ∉ cb := (List.nodup_cons.mp nd.1).1
    let g2 : Gh := { g with F := fun x => if x ∈ cb then H x else g.F x, L := g.L ++ [p] }
    have hF : ∀ x u, g.F x = some u → g2.F x = some u := fun x u h => by
      show (if x ∈ cb then H x else g.F x) = some u
      rw [if_neg fun z => ?_]
      · exact h
      · have := (w.sep x (List.mem_append_left _ (List.mem_cons_of_mem _ z))).1
        rw [h] at this; cases this
    have le : g.Le g2 := ⟨hF, ⟨[p], rfl⟩, rfl⟩
    have pF : g2.F p = none := by
      show (if p ∈ cb then H p else g.F p) = none
      rw [if_neg pn]
      exact (w.sep p (by simp)).1
    have pL : p ∉ g.L := (w.sep p (by simp)).2.1
    have p0 : H0 p = none := n p (by simp)
    have rl2 : RepL g2 (frzL os) vs := rl.frozen le fun x hx => by
      show (if x ∈ cb then H x else g.F x) = H x
      rw [if_pos hx]
    refine ⟨g2, le, ⟨fun x u h => hF x u (a.F x u h), ?_, a.mg, a.keep, fun x u h => ?_, a.dom⟩, ⟨w.mg, fun x u h => ?_, ?_, ?_, fun x hx => ?_, fun i c x h1 h2 => ?_, nd.2.1, fun x hx => ?_⟩, .cel (by show (g.L ++ [p])[cs.length]? = some p; rw [← w.len]; simp)⟩
    · obtain ⟨l, e, nl⟩ := a.L
      exact ⟨l ++ [p], by show g.L ++ [p] = _; rw [e, List.append_assoc], fun x hx => by
        rcases List.mem_append.mp hx with z | z
        · exact nl x z
        · rw [List.mem_singleton.mp z]; exact p0⟩
    · have h : (if x ∈ cb then H x else g.F x) = some u := h
      by_cases z : x ∈ cb
      · exact .inr (.inr (n x (List.mem_cons_of_mem _ z)))
      · rw [if_neg z] at h; exact a.new x u h
    · have h : (if x ∈ cb then H x else g.F x) = some u := h
      by_cases z : x ∈ cb
      · rw [if_pos z] at h; exact .inl h
      · rw [if_neg z] at h; exact w.see x u h
    · show (g.L ++ [p]).length = (cs ++ [Cell.lst (frzL os)]).length
      simp [w.len]
    · show (g.L ++ [p]).Nodup
      exact List.nodup_append.mpr ⟨w.ndL, by simp, fun x hx y hy e => by rw [List.mem_singleton.mp hy] at e; exact pL (e ▸ hx)⟩
    · rcases List.mem_append.mp (show x ∈ g.L ++ [p] from hx) with z | z
      · show (if x ∈ cb then H x else g.F x) = none
        rw [if_neg fun y => (w.sep x (List.mem_append_left _ (List.mem_cons_of_mem _ y))).2.1 z]
        exact w.sepL x z
      · rw [List.mem_singleton.mp z]; exact pF
    · have h2 : (g.L ++ [p])[i]? = some x := h2
      by_cases hi : i < cs.length
      · rw [List.getElem?_append_left hi] at h1
        rw [List.getElem?_append_left (by rw [w.len]; exact hi)] at h2
        exact (w.cell i c x h1 h2).mono le rfl
      · have hi2 : i = cs.length := by
          have := (List.getElem?_eq_some_iff.mp h1).1
          simp at this; omega
        subst hi2
        rw [List.getElem?_append_right (Nat.le_refl _)] at h1
        rw [← w.len, List.getElem?_append_right (Nat.le_refl _)] at h2
        simp at h1 h2
        subst h1; subst h2
        exact .lst hp rl2
    · obtain ⟨h1, h2, h3⟩ := w.sep x (List.mem_append_right _ hx)
      have np : x ≠ p := fun e => nd.2.2 p (by simp) x hx e.symm
      refine ⟨?_, fun z => ?_, h3⟩
      · show (if x ∈ cb then H x else g.F x) = none
        rw [if_neg fun z => nd.2.2 x (List.mem_cons_of_mem _ z) x hx rfl]
        exact h1
      · rcases List.mem_append.mp (show x ∈ g.L ++ [p] from z) with z | z
        · exact h2 z
        · exact np (List.mem_singleton.mp z)
section
variable {X : Cx} {e : Expr} {me : XM} {pos : Pos}
theorem sm_asgC {i : Nat} {x : Str} {pos' : Pos} (hN : X.N.Nodup) (he : Em X e me) (hi : X.N[i]? = some x := by rfl) (hx : Loc X.env.scope x := by first | exact Or.inl rfl | exact Or.inr rfl) (hs : swapsWith e (some (.Name x pos')) pos.line X.env = pure false := by rfl)
    (hf : X.fn x = true ∨ X.env.scope.names.lookup x = some .local := by first | exact .inl rfl | exact .inr rfl | assumption) : Sm X (.Assign [.Name x pos'] e pos) (sAsgC i me) := ⟨fun W tk => ps_imp (ps_set hN hi hx (he.run W tk) hs hf) fun D σ H ⟨g, cs, env, as, w, ev, f⟩ => by
  refine ⟨g, cs, env, as, w, ev, ?_⟩
  unfold sAsgC at f
  cases q : me env cs with
  | exc x env1 cs1 => rw [q] at f; exact fun c d H g as a s w e r => f c d σ H g as a.toAdv s w e r
  | bad => rw [q] at f; exact f
  | ok o env1 cs1 =>
    rw [q] at f
    intro v H1 g1 as1 bs a s w1 e1 r n
    cases o with
    | ol os =>
      dsimp only at f
      by_cases hl : i < env1.length
      · rw [if_pos hl] at f
        obtain ⟨g2, le, a2, w2, r2⟩ := to_cell a.toAdv w1 r n
        obtain ⟨as3, w3, e3, s3⟩ := set_fz (i := i) w2 (e1.mono le fun _ _ => rfl) r2 hl
        exact f _ H1 g2 as3 a2 (fun x hx => s x (s3 x hx)) w3 e3
      · rw [if_neg hl] at f; exact f.elim
    | _ => exact f.elim⟩
end
end GM
namespace GM
open PySem PySem.Spec L2
/-! ### x, y = a, b -/
def sPar (i j : Nat) (m : LM) : SM := fun env cs => (m env cs).bindS fun ds env cs => match ds with
  | [d, e] => if i < env.length ∧ j < env.length then .nx ((env.set i (some (.fz d))).set j (some (.fz e))) cs else .bad
  | _ => .bad
theorem sm_par {X : Cx} {i j : Nat} {x y : Str} {a b : Expr} {m : LM} {px py pt pos : Pos} {kt k2 pt2} (hc : X.calm = true) (hN : X.N.Nodup) (ha : Am X [a, b] m) (hi : X.N[i]? = some x := by rfl) (hj : X.N[j]? = some y := by rfl) (hij : i ≠ j := by decide)
    (hx : X.env.scope.names.lookup x = some .local := by rfl) (hy : X.env.scope.names.lookup y = some .local := by rfl)
    (hw : swappedStores [.Tuple [.Name x px, .Name y py] kt pt] (.Tuple [a, b] k2 pt2) X.env = pure (some [x, y]) := by rfl)
    (hs : swapsWithSole [.Tuple [.Name x px, .Name y py] kt pt] (.Tuple [a, b] k2 pt2) pos.line X.env = pure false := by rfl) :
    Sm X (.Assign [.Tuple [.Name x px, .Name y py] kt pt] (.Tuple [a, b] k2 pt2) pos) (sPar i j m) := ⟨fun W tk => ps_imp (ps_par hc hN hi hj hij hx hy (ha.run W tk) hw hs) fun D σ H ⟨g, cs, env, as, w, ev, f⟩ => by
  refine ⟨g, cs, env, as, w, ev, (FinL.bindS f).imp fun vs H1 ⟨g1, cs1, env1, as1, ds, G, rl, f⟩ => ?_⟩
  match ds, rl, f with
  | [d, e], .cons r1 (.cons r2 .nil), f =>
    dsimp only at f
    by_cases hl : i < env1.length ∧ j < env1.length
    · rw [if_pos hl] at f
      obtain ⟨as2, w2, e2, s2⟩ := set_fz (i := i) G.wf G.env r1 hl.1
      obtain ⟨as3, w3, e3, s3⟩ := set_fz (i := j) w2 e2 r2 (by rw [List.length_set]; exact hl.2)
      exact ⟨_, _, rfl, f _ H1 g1 as3 (.refl _ _ _) (fun x hx => .inl (s2 x (s3 x hx))) w3 e3⟩
    · rw [if_neg hl] at f; exact f.elim⟩
/-! ### keywords -/
def pickL {α : Type} (np nk : Nat) (is : List Nat) (us ws : List α) : List α := if us.length = np ∧ ws.length = nk then is.filterMap fun i => (us ++ ws)[i]? else []
theorem vals_pick : ∀ {is : List Nat} {vs : List V} {us : List Value}, Vals vs us → Vals (is.filterMap fun i => vs[i]?) (is.filterMap fun i => us[i]?)
  | [], _, _, _ => .nil
  | i :: is, vs, us, r => by
    have ih := vals_pick (is := is) r
    rw [List.filterMap_cons, List.filterMap_cons]
    by_cases h : i < vs.length
    · have h' : i < us.length := by rw [← r.length]; exact h
      obtain ⟨u, hu, ru⟩ := r.get (List.getElem?_eq_getElem h)
      rw [List.getElem?_eq_getElem h, hu]
      exact .cons ru ih
    · have h' : ¬ i < us.length := by rw [← r.length]; exact h
      rw [List.getElem?_eq_none (by omega), List.getElem?_eq_none (by omega)]
      exact ih
theorem repL_pick {g : Gh} : ∀ {is : List Nat} {ds : List D} {vs : List V}, RepL g ds vs → RepL g (is.filterMap fun i => ds[i]?) (is.filterMap fun i => vs[i]?)
  | [], _, _, _ => .nil
  | i :: is, ds, vs, r => by
    have ih := repL_pick (is := is) r
    rw [List.filterMap_cons, List.filterMap_cons]
    by_cases h : i < ds.length
    · obtain ⟨u, hu, ru⟩ := r.get (List.getElem?_eq_getElem h)
      rw [List.getElem?_eq_getElem h, hu]
      exact .cons ru ih
    · have h' : ¬ i < vs.length := by rw [← r.len]; exact h
      rw [List.getElem?_eq_none (by omega), List.getElem?_eq_none (by omega)]
      exact ih
theorem kb_mk {K : PySem.W.Frag} {fd : FuncData} {ps ks : List Str} {np : Nat} {is : List Nat} (hp : ps ≠ [])
    (h : ∀ us ws : List Value, us.length = np → ws.length = ks.length → bindArgs fd ⟨us, ks.zip ws⟩ = pure (ps.zip (is.filterMap fun i => (us ++ ws)[i]?))) : KBinds K fd ps ks (pickL np ks.length is) (pickL np ks.length is) := by
  refine ⟨fun s us ws hK hl => ?_, fun {vs us zs ws} r rz => ?_⟩
  · unfold pickL at hl ⊢
    by_cases hc : us.length = np ∧ ws.length = ks.length
    · rw [if_pos hc]
      exact .of_eq (h us ws hc.1 hc.2)
    · rw [if_neg hc] at hl
      exact absurd (List.length_eq_zero_iff.mp hl.symm) hp
  · unfold pickL
    rw [r.length, rz.length]
    by_cases hc : us.length = np ∧ ws.length = ks.length
    · rw [if_pos hc, if_pos hc]; exact vals_pick (r.append rz)
    · rw [if_neg hc, if_neg hc]; exact .nil
/-- a def, called with keywords -/
structure FnK (P : Program) (w : World) (K : PySem.W.Frag) (mg : Str → Option Value) (base : Heap) (k : Nat) (x : Str) (ps : List Str) (m : FM) (np : Nat) (ks : List Str) (is : List Nat) : Prop where
  len : ∀ ds cs, ds.length ≠ ps.length → m ds cs = .bad
  ex : ∃ f fd, mg x = some (.ref f) ∧ PySem.W.keepIn K (.ref f) = true ∧ KBinds K fd ps ks (pickL np ks.length is) (pickL np ks.length is) ∧ FnOk P w K mg base (L2.CX P w) k f fd ps (spM ⟨mg, K⟩ ps.length m)
structure Km (X : Cx) (kws : List Keyword) (m : LM) : Prop where
  run : ∀ W, Takes X W → PK X kws (tA (md X) m W)
def xCallK (m : FM) (np nk : Nat) (is : List Nat) (ml mk : LM) : XM := fun env cs => (ml env cs).bind fun ds env cs => (mk env cs).bind fun es env cs => match m (pickL np nk is ds es) cs with
  | .ok o cs => .ok o env cs
  | .exc x cs => .exc x env cs
  | .bad => .bad
section
variable {X : Cx} {k n np : Nat} {ps : List Str} {x : Str} {p pos kpos : Pos} {e : Expr} {es : List Expr} {m : FM} {me : XM} {ml mk : LM} {ks : List Str} {is : List Nat} {kws : List Keyword} {nm : Option Str}
theorem km_nil : Km X [] lNil := ⟨fun W tk => ⟨fun pos pins s σ H Q I ⟨g, cs, env, as, w, ev, f⟩ => pk_nil.run pos pins s σ H Q I (f [] H g as (.refl _ _ _) (.refl _ _) w ev .nil)⟩⟩
theorem km_cons (ha : Em X e me) (hr : Km X kws mk) : Km X (⟨nm, e, kpos⟩ :: kws) (lCons me mk) := ⟨fun W tk => ⟨fun pos pins s σ H Q I ⟨g, cs, env, as, w, ev, f⟩ => (pk_cons (ha.run W tk) (hr.run W tk)).run pos pins s σ H Q I (by
    refine ⟨g, cs, env, as, w, ev, (Fin.bindL f).imp fun v H1 ⟨g1, cs1, env1, as1, d, G, rp, f⟩ => ?_⟩
    refine ⟨g1, cs1, env1, as1, G.wf, G.env, (FinL.bindL f).imp fun u H2 ⟨g2, cs2, env2, as2, e, G2, rp2, f⟩ => ?_⟩
    exact f (v :: u) H2 g2 as2 (.refl _ _ _) (.refl _ _) G2.wf G2.env (.cons (rp.mono G2.adv.le) rp2))⟩⟩
theorem rep_pickL {g : Gh} {ds es : List D} {vs us : List V} {nk : Nat} (r : RepL g ds vs) (q : RepL g es us) : RepL g (pickL np nk is ds es) (pickL np nk is vs us) := by
  unfold pickL
  rw [r.len, q.len]
  by_cases hc : vs.length = np ∧ us.length = nk
  · rw [if_pos hc, if_pos hc]; exact repL_pick (r.app q)
  · rw [if_neg hc, if_neg hc]; exact .nil
theorem run_kw {W : WX} {f : Addr} {fd : FuncData} {ps : List Str} {sp : Sp} {g : List Value → List Value → List Value} {gV : List V → List V → List V} {pins : List (Addr × Obj)} {σ : St} {H : Hp} {s : Shared} {Q : VK} {us ws : List Value} {vs zs : List V} (tk : Takes X W) (F : FnOk X.prog X.w X.K X.mg X.base (L2.CX X.prog X.w) k f fd ps sp) (hr : Room k X.A) (hb : KBinds X.K fd ps ks g gV)
    (I : Inv X pins σ H s) (r : Vals vs us) (rz : Vals zs ws) (h : sp (gV vs zs) H Q (WE W σ)) : wpAny (model X.prog X.w) X.A (call (.ref f) us (ks.zip ws)) (EP X pins σ Q) X.xe s := by
  have r2 := hb.rel r rz
  have hl : (g us ws).length = ps.length := by rw [← r2.length]; exact F.len _ _ _ _ h
  refine wpAny_call (codeAny_mono (F.run X.A X.stack s H ⟨us, ks.zip ws⟩ (g us ws) (gV vs zs) Q (WE W σ) hr I.env0 (hb.to s us ws I.kIn hl) r2 h) fun r s' hq => ?_)
  cases r with
  | error e => exact passAt tk σ pins H s e s' I hq
  | ok fl =>
    cases fl with
    | ret u => exact I.after hq
    | next => exact False.elim hq
    | brk => exact False.elim hq
    | cont => exact False.elim hq
theorem kw_red {W : WX} {σ : St} {H : Hp} {Q : VK} {mg : Mg} {nk : Nat} (flen : ∀ ds cs, ds.length ≠ n → m ds cs = .bad) (h : tX mg (xCallK m np nk is ml mk) W σ H Q) :
    tA mg ml W σ H fun vs H1 => tA mg mk W σ H1 fun zs H2 => spM mg n m (pickL np nk is vs zs) H2 Q (WE W σ) := by
  obtain ⟨g, cs, env, as, w, ev, f⟩ := h
  refine ⟨g, cs, env, as, w, ev, (FinL.bind f).imp fun vs H1 ⟨g1, cs1, env1, as1, ds, G, rl, f⟩ => ?_⟩
  refine ⟨g1, cs1, env1, as1, G.wf, G.env, (FinL.bind f).imp fun zs H2 ⟨g2, cs2, env2, as2, es, G2, rl2, f⟩ => ?_⟩
  have rp := rep_pickL (np := np) (is := is) (nk := nk) (rl.mono G2.adv.le) rl2
  have fin : FinF mg g2 H2 Q (WE W σ) (m (pickL np nk is ds es) cs2) := call_fin G2.wf G2.env f
  refine ⟨?_, g2, cs2, _, G2.wf.sub List.nodup_nil (fun _ z => nomatch z), rp, fin⟩
  rw [← rp.len]
  by_cases q : (pickL np nk is ds es).length = n
  · exact q
  · rw [flen _ cs2 q] at fin
    exact fin.elim
theorem em_callK (F : FnK X.prog X.w X.K X.mg X.base k x ps m np ks is) (hr : Room k X.A) (ha : Am X (e :: es) ml) (hkw : Km X kws mk) (hg : Gl X x := by rfl) (hall : (backToKw pos (keywordEach kws X.env)).all (·.1.isSome) = true := by rfl) (hks : (backToKw pos (keywordEach kws X.env)).filterMap (·.1) = ks := by rfl)
    (hdb : (x == ("__debug__" : Str)) = false := by decide) (he : starEach (e :: es) X.env = (false, eval e X.env) :: starEach es X.env := by rfl)
    (hpl : ((backTo pos (starEach (e :: es) X.env)).any (·.1) || (backToKw pos (keywordEach kws X.env)).any (·.1.isNone)) = false := by rfl) :
    Em X (.Call (.Name x p) (e :: es) kws pos) (xCallK m np ks.length is ml mk) := ⟨fun W tk => by
  have flen := F.len
  obtain ⟨f, fd, hm, hk, hb, F⟩ := F.ex
  refine ⟨fun pins s σ H Q I h => ?_⟩
  refine wpAny_Call_Name_kw (ld_glob I hg hm ?_ hdb)
  refine PySem.W.callWith_KW (h₀ := X.base) I.ok.mod.kin hk hall (thn ((ha.run W tk).run pos pins s σ H _ I (kw_red flen h)) fun us s1 ⟨vs, H1, I1, r, q⟩ => ?_) hpl he
  refine thn ((hkw.run W tk).run pos pins s1 σ H1 _ I1 q) fun ws s2 ⟨zs, H2, I2, rz, q2⟩ => ⟨I2.kIn, ?_⟩
  rw [hks]
  exact run_kw tk F hr hb I2 r rz q2⟩
theorem em_callK0 (F : FnK X.prog X.w X.K X.mg X.base k x ps m np ks is) (hr : Room k X.A) (hkw : Km X kws mk) (hg : Gl X x := by rfl) (hall : (backToKw pos (keywordEach kws X.env)).all (·.1.isSome) = true := by rfl) (hks : (backToKw pos (keywordEach kws X.env)).filterMap (·.1) = ks := by rfl)
    (hdb : (x == ("__debug__" : Str)) = false := by decide) (hpl : ((backTo pos (starEach [] X.env)).any (·.1) || (backToKw pos (keywordEach kws X.env)).any (·.1.isNone)) = false := by rfl) :
    Em X (.Call (.Name x p) [] kws pos) (xCallK m np ks.length is lNil mk) := ⟨fun W tk => by
  have flen := F.len
  obtain ⟨f, fd, hm, hk, hb, F⟩ := F.ex
  refine ⟨fun pins s σ H Q I h => ?_⟩
  obtain ⟨g, cs, env, as, w, ev, h⟩ := kw_red flen h
  have h := h [] H g as (.refl _ _ _) (.refl _ _) w ev .nil
  refine wpAny_Call_Name_kw (ld_glob I hg hm ?_ hdb)
  refine PySem.W.callWith_KW0 (h₀ := X.base) I.ok.mod.kin hk hall (thn ((hkw.run W tk).run pos pins s σ H _ I h) fun ws s2 ⟨zs, H2, I2, rz, q2⟩ => ⟨I2.kIn, ?_⟩) hpl
  rw [hks]
  exact run_kw (us := []) (vs := []) tk F hr hb I2 .nil rz q2⟩
end
/-! ### methods that write: an owned list in a slot -/
/-- x.append(e) -/
def sApp (i : Nat) (m : XM) : SM := fun env cs => match env[i]? with
  | some (some (.ol _)) => (m env cs).bindO fun o env cs => match env[i]? with
    | some (some (.ol os)) => if os.length ≤ 1000000 then .nx (env.set i (some (.ol (os ++ [o])))) cs else .bad
    | _ => .bad
  | _ => .bad
/-- x[j].append(e), e plain -/
def sAppAt (i : Nat) (j : Nat) (m : XM) : SM := fun env cs => match env[i]? with
  | some (some (.ol os)) => match os[j]? with
    | some (.ol qs) => if qs.length ≤ 1000000 then match m env cs with
        | .ok (.fz d) env1 cs1 => match env1[i]? with
          | some (some (.ol os1)) => match os1[j]? with
            | some (.ol qs1) => if qs1.length ≤ 1000000 then .nx (env1.set i (some (.ol (os1.set j (.ol (qs1 ++ [.fz d])))))) cs1 else .bad
            | _ => .bad
          | _ => .bad
        | _ => .bad
      else .bad
    | _ => .bad
  | _ => .bad
theorem perm_swap {α : Type} (a b c : List α) : (a ++ (b ++ c)).Perm (b ++ (a ++ c)) := by
  rw [← List.append_assoc, ← List.append_assoc]
  exact List.Perm.append_right c List.perm_append_comm
theorem RepOL.at {g : Gh} {H : Hp} {os : List O} {vs : List V} {as : List Addr} (r : RepOL g H os vs as) : ∀ {i : Nat} {o : O}, os[i]? = some o →
    ∃ v bs as1 as2, as = as1 ++ (bs ++ as2) ∧ vs[i]? = some v ∧ RepO g H o v bs ∧
      ∀ {H' : Hp} {o' : O} {bs' : List Addr}, (∀ a ∈ as1 ++ as2, H' a = H a) → RepO g H' o' v bs' → RepOL g H' (os.set i o') vs (as1 ++ (bs' ++ as2)) := by
  have key : ∀ {os : List O} {vs : List V} {as : List Addr}, RepOL g H os vs as → ∀ {i : Nat} {o : O}, os[i]? = some o →
    ∃ v bs as1 as2, as = as1 ++ (bs ++ as2) ∧ vs[i]? = some v ∧ RepO g H o v bs ∧
      ∀ {H' : Hp} {o' : O} {bs' : List Addr}, (∀ a ∈ as1 ++ as2, H' a = H a) → RepO g H' o' v bs' → RepOL g H' (os.set i o') vs (as1 ++ (bs' ++ as2)) := by
    intro os
    induction os with
    | nil => intro vs as r i o h; simp at h
    | cons o0 os ih =>
      intro vs as r i o h
      cases r with
      | @cons _ v0 _ vs _ _ r0 r =>
        rename_i bs0 as
        cases i with
        | zero =>
          simp at h; subst h
          exact ⟨v0, bs0, [], as, rfl, rfl, r0, fun hk r' => (show RepOL _ _ _ _ ([] ++ (_ ++ _)) from by rw [List.nil_append]; exact .cons r' (r.mono (.refl g) fun a ha => hk a (by simpa using ha)))⟩
        | succ i =>
          obtain ⟨v, bs, as1, as2, e, hs, ro, k⟩ := ih r (i := i) (o := o) (by simpa using h)
          refine ⟨v, bs, bs0 ++ as1, as2, by rw [e, List.append_assoc], by simpa using hs, ro, fun hk r' => ?_⟩
          rw [List.append_assoc]
          exact .cons (r0.mono (.refl g) fun a ha => hk a (by simp [ha])) (k (fun a ha => hk a (by simp only [List.mem_append] at ha ⊢; rcases ha with ha | ha <;> simp [ha])) r')
  exact fun {i o} h => key r h
section
variable {X : Cx} {e : Expr} {m : XM} {i : Nat} {x : Str} {apos cpos np pos : Pos}
theorem sm_app (he : Em X e m) (hN : X.N[i]? = some x := by rfl) (hv : Vis X.env.scope x := by first | exact Or.inl rfl | exact Or.inr (Or.inl rfl) | exact Or.inr (Or.inr rfl)) (hd : (x == ("__debug__" : Str)) = false := by decide) (hcd : (x == ("__classdict__" : Str)) = false := by decide)
    (hbase : attributeBase (.Name x np) "append" X.env (eval (.Name x np) X.env) = eval (.Name x np) X.env := by rfl)
    (hfew : ((backTo cpos (starEach [e] X.env)).all (fun x => !x.1) && (backToKw cpos (keywordEach [] X.env)).all (fun x => x.1.isSome)
      && decide ([e].length + ([] : List Keyword).length + (if ([] : List Keyword).isEmpty then 0 else 1) < 30)) = true := by rfl)
    (hline : (apos.endLine == cpos.line) = true := by rfl) (hs : starEach [e] X.env = (false, eval e X.env) :: starEach [] X.env := by rfl) (hplain : (backTo cpos (starEach [] X.env)).any (·.1) = false := by rfl)
    (hsw : swapsWith (.Call (.Attribute (.Name x np) "append" apos) [e] [] cpos) none pos.line X.env = pure false := by rfl) :
    Sm X (.Expr (.Call (.Attribute (.Name x np) "append" apos) [e] [] cpos) pos) (sApp i m) := ⟨fun W tk => ps_imp (ps_expr (pe_bm PySem.F.plainAttrs_list PySem.F.slot_list_append PySem.F.type_list_append mt_append (pe_var hN hv hd hcd) (pa_cons (he.run W tk) pa_nil hs) hbase hfew hline hs hplain) hsw) fun D σ H ⟨g, cs, env, as, w, ev, f⟩ => by
  unfold sApp at f
  split at f
  · rename_i os0 ho0
    obtain ⟨v, bs, as1, as2, e0, hsl, ro, _⟩ := ev.at ho0
    cases ro with
    | @ol p vs0 _ cb hp rl =>
      refine ⟨.ref p, hsl, .inl ⟨rfl, vs0, SqL.of hp⟩, g, cs, env, as, w, ev, (Fin.bindO f).imp fun y H1 ⟨g1, cs1, env1, asn, bs1, o, G, w1, r1, n1, f⟩ => ?_⟩
      split at f
      · rename_i os ho
        by_cases hz : os.length ≤ 1000000
        · rw [if_pos hz] at f
          obtain ⟨v2, bs2, as3, as4, e2, hsl2, ro2, k2⟩ := G.env.at ho
          rw [hsl] at hsl2
          cases hsl2
          cases ro2 with
          | @ol _ vs _ cb2 hp2 rl2 =>
            have hlen := RepOL.len rl2
            have nd : (bs1 ++ (as3 ++ ((p :: cb2) ++ as4))).Nodup := by rw [← e2]; exact w1.nd
            have ndA := List.nodup_append.mp nd
            have nd3 := List.nodup_append.mp ndA.2.1
            have nd4 := List.nodup_append.mp nd3.2.1
            have ndp := List.nodup_cons.mp nd4.1
            have ne : ∀ b, b ∈ bs1 ∨ b ∈ as3 ∨ b ∈ cb2 ∨ b ∈ as4 → b ≠ p := fun b hb e => by
              subst e
              rcases hb with z | z | z | z
              · exact ndA.2.2 b z b (by simp) rfl
              · exact nd3.2.2 b z b (by simp) rfl
              · exact ndp.1 z
              · exact nd4.2.2 b (by simp) b z rfl
            refine ⟨p, vs, y, rfl, rfl, hp2, line_le (by omega), ?_⟩
            have hm : p ∈ bs1 ++ asn := by rw [e2]; simp
            have wp := w1.put (o := .lst (vs ++ [y])) hm
            have rr : RepO g1 (upd H1 p (.lst (vs ++ [y]))) (.ol (os ++ [o])) (.ref p) (p :: (cb2 ++ bs1)) :=
              .ol upd_same ((rl2.mono (.refl g1) fun b hb => upd_ne (ne b (.inr (.inr (.inl hb))))).app (r1.mono (.refl g1) fun b hb => upd_ne (ne b (.inl hb))))
            have ee := k2 (v' := .ref p) (.refl g1) (H' := upd H1 p (.lst (vs ++ [y]))) (fun b hb => upd_ne (ne b (by
              rcases List.mem_append.mp hb with z | z
              · exact .inr (.inl z)
              · exact .inr (.inr (.inr z))))) rr
            have pm : (as3 ++ ((p :: (cb2 ++ bs1)) ++ as4)).Perm (bs1 ++ asn) := by
              rw [e2]
              have q1 : (as3 ++ ((p :: (cb2 ++ bs1)) ++ as4)).Perm (as3 ++ (bs1 ++ ((p :: cb2) ++ as4))) := by
                refine List.Perm.append_left as3 ?_
                have : (p :: (cb2 ++ bs1)) = (p :: cb2) ++ bs1 := by simp
                rw [this, ← List.append_assoc]
                exact List.Perm.append_right as4 List.perm_append_comm
              refine q1.trans ?_
              exact perm_swap as3 bs1 ((p :: cb2) ++ as4)
            have σe : σ.set i (some (.ref p)) = σ := by
              apply List.ext_getElem?
              intro j
              by_cases hj : i = j
              · subst hj
                rw [List.getElem?_set_self (List.getElem?_eq_some_iff.mp hsl).1, hsl]
              · rw [List.getElem?_set_ne hj]
            rw [σe] at ee
            exact f σ _ g1 _ (adv_put hm) (fun b hb => .inl (pm.mem_iff.mp hb)) (wp.sub (pm.nodup_iff.mpr wp.nd) fun b hb => pm.mem_iff.mp hb) ee
        · rw [if_neg hz] at f; exact f.elim
      · exact f.elim
  · exact f.elim⟩
end
theorem atI_nat {α : Type} {xs : List α} {j : Nat} {v : α} (h : xs[j]? = some v) : atI xs (j : Int) = some v := by
  have hj := (List.getElem?_eq_some_iff.mp h).1
  unfold atI ixN
  have e : xs[j] = v := by rw [List.getElem?_eq_getElem hj] at h; exact Option.some.inj h
  simp [hj, e]
section
variable {X : Cx} {e : Expr} {m : XM} {i j : Nat} {x : Str} {apos cpos np pos p2 p3 : Pos}
theorem sm_appAt {kd} (he : Em X e m) (hN : X.N[i]? = some x := by rfl) (hv : Vis X.env.scope x := by first | exact Or.inl rfl | exact Or.inr (Or.inl rfl) | exact Or.inr (Or.inr rfl)) (hd : (x == ("__debug__" : Str)) = false := by decide) (hcd : (x == ("__classdict__" : Str)) = false := by decide)
    (hbase : attributeBase (.Subscript (.Name x np) (.Constant (.int j) kd p3) p2) "append" X.env (eval (.Subscript (.Name x np) (.Constant (.int j) kd p3) p2) X.env) = eval (.Subscript (.Name x np) (.Constant (.int j) kd p3) p2) X.env := by rfl)
    (hfew : ((backTo cpos (starEach [e] X.env)).all (fun x => !x.1) && (backToKw cpos (keywordEach [] X.env)).all (fun x => x.1.isSome)
      && decide ([e].length + ([] : List Keyword).length + (if ([] : List Keyword).isEmpty then 0 else 1) < 30)) = true := by rfl)
    (hline : (apos.endLine == cpos.line) = true := by rfl) (hs : starEach [e] X.env = (false, eval e X.env) :: starEach [] X.env := by rfl) (hplain : (backTo cpos (starEach [] X.env)).any (·.1) = false := by rfl)
    (hsw : swapsWith (.Call (.Attribute (.Subscript (.Name x np) (.Constant (.int j) kd p3) p2) "append" apos) [e] [] cpos) none pos.line X.env = pure false := by rfl) :
    Sm X (.Expr (.Call (.Attribute (.Subscript (.Name x np) (.Constant (.int j) kd p3) p2) "append" apos) [e] [] cpos) pos) (sAppAt i j m) := ⟨fun W tk => ps_imp (ps_expr (pe_bm PySem.F.plainAttrs_list PySem.F.slot_list_append PySem.F.type_list_append mt_append (pe_ix ix_seq (pe_var hN hv hd hcd) pe_int (fun _ _ => rfl)) (pa_cons (he.run W tk) pa_nil hs) hbase hfew hline hs hplain) hsw) fun D σ H ⟨g, cs, env, as, w, ev, f⟩ => by
  unfold sAppAt at f
  split at f
  · rename_i os0 ho0
    split at f
    · rename_i qs0 hq0
      split at f
      · rename_i hz0
        obtain ⟨v, bs, as1, as2, e0, hsl, ro, _⟩ := ev.at ho0
        cases ro with
        | @ol p vs0 _ cb hp rl =>
          obtain ⟨v1, b1, c1, c2, e1, hv1, ro1, _⟩ := rl.at hq0
          cases ro1 with
          | @ol q0 ws0 _ cq hq rq =>
            refine ⟨.ref p, hsl, .inl ⟨p, vs0, j, .ref q0, rfl, rfl, SqL.of hp, atI_nat hv1, .inl ⟨rfl, ws0, SqL.of hq⟩, g, cs, env, as, w, ev, ?_⟩⟩
            cases qm : m env cs with
            | exc y _ _ => rw [qm] at f; exact f.elim
            | bad => rw [qm] at f; exact f.elim
            | ok o e2 cs2 =>
              rw [qm] at f
              cases o with
              | ol _ => exact f.elim
              | od _ _ => exact f.elim
              | fz d =>
                dsimp only at f
                intro y H1 g1 asn bs1 a1 s1 w1 ev1 r1 n1
                cases r1 with
                | fz rd =>
                  split at f
                  · rename_i os ho
                    split at f
                    · rename_i qs hqs
                      by_cases hz : qs.length ≤ 1000000
                      · rw [if_pos hz] at f
                        have f := FinS.rebase a1.toAdv s1 f
                        obtain ⟨v2, bs2, as3, as4, e3, hsl2, ro2, k2⟩ := ev1.at ho
                        rw [hsl] at hsl2
                        cases hsl2
                        cases ro2 with
                        | @ol _ vs _ cb2 hp2 rl2 =>
                          obtain ⟨v3, b3, c3, c4, e4, hv3, ro3, k3⟩ := rl2.at hqs
                          -- the same inner list: the outer's own content stood
                          have hpk : H1 p = H p := by
                            have := a1.own p _ hp (w.sep p (by rw [e0]; simp)).2.1
                            rw [this, hp]
                          rw [hp2, hp] at hpk
                          cases hpk
                          rw [hv1] at hv3
                          cases hv3
                          cases ro3 with
                          | @ol _ ws _ cq2 hq2 rq2 =>
                            have nd : (as3 ++ ((p :: cb2) ++ as4)).Nodup := by
                              have q := w1.nd
                              rw [e3] at q
                              simpa using q
                            have nd3 := List.nodup_append.mp nd
                            have nd4 := List.nodup_append.mp nd3.2.1
                            have ndp := List.nodup_cons.mp nd4.1
                            have ndc : (c3 ++ ((q0 :: cq2) ++ c4)).Nodup := by rw [← e4]; exact ndp.2
                            have nd5 := List.nodup_append.mp ndc
                            have nd6 := List.nodup_append.mp nd5.2.1
                            have nd7 := List.nodup_cons.mp nd6.1
                            have qm : q0 ∈ cb2 := by rw [e4]; simp
                            have ne : ∀ b, b ∈ as3 ∨ b = p ∨ b ∈ c3 ∨ b ∈ cq2 ∨ b ∈ c4 ∨ b ∈ as4 → b ≠ q0 := fun b hb e => by
                              subst e
                              rcases hb with z | z | z | z | z | z
                              · exact nd3.2.2 b z b (by simp [qm]) rfl
                              · exact ndp.1 (z ▸ qm)
                              · exact nd5.2.2 b z b (by simp) rfl
                              · exact nd7.1 z
                              · exact nd6.2.2 b (by simp) b z rfl
                              · exact nd4.2.2 b (by simp [qm]) b z rfl
                            have hm : q0 ∈ asn := by rw [e3]; simp [qm]
                            have hl2 := RepOL.len rq2
                            refine ⟨q0, ws, y, rfl, rfl, hq2, line_le (by omega), ?_⟩
                            have wn : Wf (md X) g1 cs2 H1 asn := by simpa using w1
                            have wp := wn.put (o := .lst (ws ++ [y])) hm
                            have r3 : RepO g1 (upd H1 q0 (.lst (ws ++ [y]))) (.ol (qs ++ [.fz d])) (.ref q0) (q0 :: (cq2 ++ [])) :=
                              .ol upd_same ((rq2.mono (.refl g1) fun b hb => upd_ne (ne b (.inr (.inr (.inr (.inl hb)))))).app (.fz rd))
                            rw [List.append_nil] at r3
                            have r4 := k3 (H' := upd H1 q0 (.lst (ws ++ [y]))) (fun b hb => upd_ne (ne b (by
                              rcases List.mem_append.mp hb with z | z
                              · exact .inr (.inr (.inl z))
                              · exact .inr (.inr (.inr (.inr (.inl z))))))) r3
                            rw [← e4] at r4
                            have r5 : RepO g1 (upd H1 q0 (.lst (ws ++ [y]))) (.ol (os.set j (.ol (qs ++ [.fz d])))) (.ref p) (p :: cb2) := .ol ((upd_ne (ne p (.inr (.inl rfl)))).trans hp2) r4
                            have ee := k2 (v' := .ref p) (.refl g1) (H' := upd H1 q0 (.lst (ws ++ [y]))) (fun b hb => upd_ne (ne b (by
                              rcases List.mem_append.mp hb with z | z
                              · exact .inl z
                              · exact .inr (.inr (.inr (.inr (.inr z))))))) r5
                            have σe : σ.set i (some (.ref p)) = σ := by
                              apply List.ext_getElem?
                              intro j
                              by_cases hj : i = j
                              · subst hj
                                rw [List.getElem?_set_self (List.getElem?_eq_some_iff.mp hsl).1, hsl]
                              · rw [List.getElem?_set_ne hj]
                            rw [σe, ← e3] at ee
                            exact f σ _ g1 asn (adv_put hm) (.refl _ _) wp ee
                      · rw [if_neg hz] at f; exact f.elim
                    · exact f.elim
                  · exact f.elim
      · exact f.elim
    · exact f.elim
  · exact f.elim⟩
end
end GM
namespace GM
open PySem PySem.Spec L2
def xBits (m : XM) : XM := xOp1 (fun d _ => match d with | .int i => iO (Builtin.Int.intBits i : Nat) | _ => none) m
theorem call_intG {X : Cx} : CallR X (.type "int") (fun xs H Q => (∃ i, xs = [.int i] ∧ Q (.int i) H) ∨ ∃ k, xs = [.bl k] ∧ Q (.int (if k then 1 else 0)) H) := call_int1
/-- a def of the text at its place -/
structure Df (K : PySem.W.Frag) (mg : Str → Option Value) (x : Str) (st : Stmt) (ps : List Str) : Prop where
  ex : ∃ f fd, mg x = some (.ref f) ∧ Fun K x x st f fd ∧ Binds K fd ps []
section
variable {P : Program} {w : World} {K : PySem.W.Frag} {mg : Str → Option Value} {base : Heap} {x : Str} {st : Stmt} {ps N : List Str} {k : Nat} {b : SM}
theorem _root_.L2.Fun.lk {f : Addr} {fd : FuncData} (F : Fun K x x st f fd) : Lk K f fd := by
  obtain ⟨oc, od, kV, doc, pm, an, cdv, ct, osl, e, l, _⟩ := F.ex
  exact ⟨oc, od, osl, l⟩
theorem Fn.none (D : Df K mg x st ps) : Fn P w K mg base k x ps (fun _ _ => .bad) := by
  obtain ⟨f, fd, hm, F, hb⟩ := D.ex
  exact ⟨fun _ _ _ => rfl, f, fd, hm, F.kp, hb, ⟨fun vs H Q E h => h.1, fun A outer s H args us vs Q E _ _ _ _ ⟨_, g, cs, ds, _, _, h⟩ => h.elim⟩, F.lk⟩
theorem mkFn (D : Df K mg x st ps) (S : FnScope N ps (defScope st))
    (hb : ∀ (f : Addr) (cdv : Value) (A : Around) (outer : List Env) (s : Shared) (H : Hp) (E : XK), Room k (A.deeper (PyProof.Rows.envOfC x (defScope st) s.heap.objs.size f cdv)) → Bm (cxOf (L2.CX P w) P w K mg base N x (defScope st) f cdv A outer s H E) (defBody st) b) :
    Fn P w K mg base (k + 1) x ps (fnM N.length ps.length b) := by
  obtain ⟨f, fd, hm, F, hbd⟩ := D.ex
  refine ⟨fun ds cs h => ?_, f, fd, hm, F.kp, hbd, fn_body F S (hb f), F.lk⟩
  unfold fnM
  rw [if_neg h]
theorem mkK {m : FM} {np : Nat} {ks : List Str} {is : List Nat} (F : Fn P w K mg base k x ps m) (D : ∃ f fd, mg x = some (.ref f) ∧ Lk K f fd ∧ KBinds K fd ps ks (pickL np ks.length is) (pickL np ks.length is)) : FnK P w K mg base k x ps m np ks is := by
  obtain ⟨f, fd, a, b, c, e, l⟩ := F.ex
  obtain ⟨f', fd', a', l', c'⟩ := D
  rw [a] at a'
  cases a'
  obtain ⟨oc, od, osl, l⟩ := l
  obtain ⟨oc', od', osl', l'⟩ := l'
  rw [l] at l'
  cases l'
  exact ⟨F.len, f, fd, a, b, c', e⟩
end
end GM
namespace GM
open PySem PySem.Spec L2
theorem u1 {k : Nat} {A : Around} (r : Room k A) : A.units + 1 < cLine := by have := r.un; omega
end GM
namespace GM
open PySem PySem.Spec L2
theorem FnK.mono {P : Program} {w : World} {K : PySem.W.Frag} {mg : Str → Option Value} {base : Heap} {j k : Nat} {x : Str} {ps : List Str} {m : FM} {np : Nat} {ks : List Str} {is : List Nat} (F : FnK P w K mg base j x ps m np ks is) (h : j ≤ k) : FnK P w K mg base k x ps m np ks is := by
  obtain ⟨f, fd, a, b, c, e⟩ := F.ex
  exact ⟨F.len, f, fd, a, b, c, e.mono h⟩
end GM
namespace GM
open PySem PySem.Spec L2
open PySem.W PyProof.Rows
theorem kit_own {K : Frag} {t : Value} {C : Addr} {b : Bool} (h1 : isClsIn K C = true) (h2 : typeIn K (.ref C) = some (.type "type")) (h3 : subIn K t (.ref C) = some b) (hs : subIn K (.ref C) (.ref C) = some true) : kitOne K t (.ref C) = some b := by
  unfold kitOne
  by_cases e : (t == Value.ref C) = true
  · rw [if_pos e]
    have e' : t = Value.ref C := by simpa using e
    rw [e', hs] at h3
    exact h3
  · rw [if_neg e]
    have h1' : (clsIn K C).isSome = true := h1
    show (if ((clsIn K C).isSome && typeIn K (.ref C) == some (.type "type")) = true then subIn K t (.ref C) else none) = some b
    rw [if_pos (by rw [h1', h2]; rfl)]
    exact h3
/-- the facts of an own error, together -/
theorem own_facts {P : Program} {K : Frag} {h : Heap} {mg : Str → Option Value} {x q : Str} {C fI : Addr} {nm q' : Str} {N : Addr} {bs bm : List Value} {sn : List Str} {sub : List Value} {ab : Bool} {col : Option Bool} {dd : Option Addr} {m0 m1 m2 m3 m5 : Option Value}
    {oc : Value} {od : Option Addr} {dt : Addr} {kV doc pm : Value} {an : Option Addr} {cda cc : Addr} {ct : Value} {osl : Array (Option Value)} {p1 p2 p3 q1 q2 q3 q4 q5 r1 r2 r3 r4 : Pos} {ccl : Value} {cdd : Option Addr} {vs : Array Value} {ccs : Array (Option Value)} {file : Str} {tf : Tok} {cl : Value} {cld : Option Addr} {csl : Array (Option Value)} {odt : Obj} {dv : Value} {dn : Nat}
    (X : K.In h) (G : h.Ns mainGlobals mg)
    (aC : nsIn K mainGlobals x = some (some (.ref C)))
    (xL : K.lookup C = some (excClassObj nm q' C N bs bm true sn sub ab col dd m0 m1 m2 m3 m5 "ValueError.__new__")) (hbm : HandSPX.refsVE bm = true)
    (sa : findIn K (.ref C) "__setattr__" = some (some (.builtin "object.__setattr__"))) (ga : findIn K (.ref C) "__getattribute__" = some (some (.builtin "BaseException.__getattribute__"))) (gg : findIn K (.ref C) "__getattr__" = some none) (nb : findIn K (.ref C) "value" = some none)
    (a1 : findIn K (.ref C) "__init__" = some (some (.ref fI))) (t1 : typeIn K (.ref fI) = some (.type "function"))
    (l1 : K.lookup fI = some ⟨oc, od, .func (ksFn "__init__" q (oA p1 p2 p3) (oB q1 q2 q3 q4 q5 r1 r2 r3 r4) oS (.ref dt) kV doc pm an (.ref cda) ct cc), osl⟩) (c1 : codeIn K (.ref cda) q = true)
    (lc : K.lookup cda = some ⟨ccl, cdd, .fields vs, ccs⟩) (lf : vs[2]? = some (.str file tf)) (hf : ((P.main.file : Str) == file) = true) (lcc : K.lookup cc = some ⟨cl, cld, .cell (some (.ref C)), csl⟩) (ldt : K.lookup dt = some odt) (ldd : odt.data = .seq #[dv] dn)
    (kC : keepIn K (.ref C) = true) (eC : subIn K (.ref C) (.type "BaseException") = some true) (vC : subIn K (.ref C) (.type "ValueError") = some true) (tC : typeIn K (.ref C) = some (.type "type")) (hC : hasDictIn K C = true) (mC : mroIn K C (.ref C) = some true)
    (sp : ks_superIn K C C "__init__" = some (some (.builtin "ValueError.__init__"))) (op : nsIn K cStatics "thirdparty.any" = some none) (zs : nsIn K mainGlobals "super" = some none) (htop : (P.main.scope.names.lookup ("super" : Str)).isSome = false)
    (he : ∀ env : Env, ∃ pl : Sem Bool, eval (.Call (.Attribute (.Call (.Name "super" q1) [] [] q2) "__init__" q3) [] [] q4) env = (do
        let ov ← attributeBase (.Call (.Name "super" q1) [] [] q2) "__init__" env (eval (.Call (.Name "super" q1) [] [] q2) env)
        standAt q3.atName
        let (f, first) ← holding [ov] (getMethod ov "__init__" pl)
        callWith q4 f first (backTo q4 (starEach [] env)) []))
    (ha : findIn K (.ref C) "__class__" = some (some (.builtin "object.__class__"))) (hn : specialIn K (.builtin "object.__class__") "__get__" = some (some (.builtin "getset_descriptor.__get__"))) (ht : takesIn K (.builtin "object.__class__") = some true) (hm : mroIn K C (.type "object") = some true) :
    OwnT P K mg x q C fI ∧ ExcC K C ∧ ExA K C :=
  ⟨{ gC := mg_of X G aC, cls := ⟨nm, q', N, bs, bm, sn, sub, ab, col, dd, m0, m1, m2, m3, m5, xL, hbm⟩, sa := sa, ga := ga, gg := gg, noN := nb, iC := a1, tC := t1, kC := kC, exC := eC, veC := vC, tyC := tC, hdC := hC, mrC := mC, sup := sp, opq := op, spr := mg_none_of X G zs, top := htop,
     fn := ⟨oc, od, dt, kV, doc, pm, an, cda, cc, ct, osl, p1, p2, p3, q1, q2, q3, q4, q5, r1, r2, r3, r4, ccl, cdd, vs, ccs, file, tf, cl, cld, csl, odt, dv, dn, l1, c1, lc, lf, hf, lcc, ldt, ldd, he⟩ }, ⟨ga, gg, eC, hC, ha, hn, ht, hm⟩, ⟨ga, gg, nb, eC, hC⟩⟩
/-- what the law's def is to answer, told of the heap in which the script stands -/
def spLaw (K : Frag) : Sp := fun vs H Q _ => ∃ (a : Addr) (ns : List Int), vs = [.ref a] ∧ ns.length ≤ 63 ∧ Only H ∧ SqL K H a (ns.map V.int) ∧ ∀ H', Q (.bl true) H'
theorem rep_ints {g : Gh} : ∀ ns : List Int, RepL g (ns.map D.int) (ns.map V.int)
  | [] => .nil
  | _ :: r => .cons .int (rep_ints r)
theorem law_fn {P : Program} {w : World} {K : Frag} {mg : Str → Option Value} {base : Heap} {k : Nat} {m : FM} {fa : Addr} {x : Str} {ps : Str} (F : Fn P w K mg base k x [ps] m) (hm : mg x = some (.ref fa)) {fd : FuncData} (hl : Lk K fa fd)
    (hlaw : ∀ ns : List Int, ns.length ≤ 63 → ∃ cs, m [.scr (ns.map D.int)] [] = .ok (.fz (.bl true)) cs) : FnOk P w K mg base (L2.CX P w) k fa fd [ps] (spLaw K) := by
  obtain ⟨f, fd', hm', hk, hb, F, l'⟩ := F.ex
  rw [hm] at hm'
  cases hm'
  obtain ⟨oc, od, osl, l⟩ := hl
  obtain ⟨oc', od', osl', l'⟩ := l'
  rw [l] at l'
  cases l'
  refine F.imp fun vs H Q E ⟨a, ns, e, hn, hO, hS, q⟩ => ?_
  subst e
  obtain ⟨cs', hc⟩ := hlaw ns hn
  have wf : Wf ⟨mg, K⟩ ⟨H, [], ⟨mg, K⟩⟩ [] H [] := ⟨rfl, fun b u h => .inl h, rfl, List.nodup_nil, fun _ h => (nomatch h), fun i c b h => by simp at h, List.nodup_nil, fun _ h => (nomatch h)⟩
  refine ⟨rfl, ⟨H, [], ⟨mg, K⟩⟩, [], [.scr (ns.map D.int)], wf, .cons ?_ .nil, ?_⟩
  · rcases hS with (h | ⟨o, h⟩) | h
    · rcases hO a with z | ⟨o, xs, z⟩
      · rw [h] at z; cases z
      · rw [h] at z; cases z
    · exact .scr h (rep_ints ns)
    · exact .scK h (rep_ints ns)
  · rw [hc]
    intro v H' g bs _ _ r _
    cases r with
    | fz r => cases r; exact q H'
end GM
namespace GM
open PySem PySem.Spec L2
/-! ### running the models -/
section
variable {o : O} {d e : D} {os : List O} {ds : List D} {t : Nat} {kvs : List (D × D)} {env : Ev} {cs : Cells} {k : D → Ev → Cells → XRes} {kl : D → Ev → Cells → LRes} {ks : D → Ev → Cells → SRes} {ko : O → Ev → Cells → SRes} {kd : List D → Ev → Cells → XRes} {kdl : List D → Ev → Cells → LRes} {kds : List D → Ev → Cells → SRes}
@[simp] theorem frz_fz : frz (.fz d) = d := rfl
@[simp] theorem frz_ol : frz (.ol os) = .lst (frzL os) := rfl
@[simp] theorem frz_od : frz (.od t kvs) = .dic t kvs := rfl
@[simp] theorem frzL_nil : frzL [] = [] := rfl
@[simp] theorem frzL_cons : frzL (o :: os) = frz o :: frzL os := rfl
@[simp] theorem frzL_app (a b : List O) : frzL (a ++ b) = frzL a ++ frzL b := by rw [frzL_map, frzL_map, frzL_map, List.map_append]
@[simp] theorem frzL_mfz (ds : List D) : frzL (ds.map O.fz) = ds := frzL_fz ds
@[simp] theorem bind_ok : (XRes.ok o env cs).bind k = k (frz o) env cs := rfl
@[simp] theorem bind_exc : (XRes.exc d env cs).bind k = .exc d env cs := rfl
@[simp] theorem bindL_ok : (XRes.ok o env cs).bindL kl = kl (frz o) env cs := rfl
@[simp] theorem bindL_exc : (XRes.exc d env cs).bindL kl = .exc d env cs := rfl
@[simp] theorem lbind_ok : (LRes.ok ds env cs).bind kd = kd ds env cs := rfl
@[simp] theorem lbind_exc : (LRes.exc d env cs).bind kd = .exc d env cs := rfl
@[simp] theorem lbindL_ok : (LRes.ok ds env cs).bindL kdl = kdl ds env cs := rfl
@[simp] theorem lbindL_exc : (LRes.exc d env cs).bindL kdl = .exc d env cs := rfl
@[simp] theorem bindS_ok : (XRes.ok o env cs).bindS ks = ks (frz o) env cs := rfl
@[simp] theorem bindS_exc : (XRes.exc d env cs).bindS ks = .exc d env cs := rfl
@[simp] theorem bindO_ok : (XRes.ok o env cs).bindO ko = ko o env cs := rfl
@[simp] theorem bindO_exc : (XRes.exc d env cs).bindO ko = .exc d env cs := rfl
@[simp] theorem lbindS_ok : (LRes.ok ds env cs).bindS kds = kds ds env cs := rfl
@[simp] theorem lbindS_exc : (LRes.exc d env cs).bindS kds = .exc d env cs := rfl
@[simp] theorem ofO_some : ofO (some o) env cs = .ok o env cs := rfl
@[simp] theorem bO_eq (b : Bool) : bO b = some (.fz (.bl b)) := rfl
@[simp] theorem iO_eq (i : Int) : iO i = some (.fz (.int i)) := rfl
@[simp] theorem run_c : xC d env cs = .ok (.fz d) env cs := rfl
@[simp] theorem run_lnil : lNil env cs = .ok [] env cs := rfl
@[simp] theorem run_snil : sNil env cs = .nx env cs := rfl
@[simp] theorem run_lcons (m : XM) (l : LM) : lCons m l env cs = (m env cs).bindL fun d env cs => (l env cs).bindL fun ds env cs => .ok (d :: ds) env cs := rfl
@[simp] theorem run_op1 (p : D → Cells → Option O) (ma : XM) : xOp1 p ma env cs = (ma env cs).bind fun d env cs => ofO (p d cs) env cs := rfl
@[simp] theorem run_op2 (p : D → D → Cells → Option O) (ma mb : XM) : xOp2 p ma mb env cs = (ma env cs).bind fun d env cs => (mb env cs).bind fun e env cs => ofO (p d e cs) env cs := rfl
@[simp] theorem run_opL (p : List D → Cells → Option O) (ma : LM) : xOpL p ma env cs = (ma env cs).bind fun ds env cs => ofO (p ds cs) env cs := rfl
end
section
variable {o : O} {d e : D} {env : Ev} {cs : Cells}
@[simp] theorem run_nm0 (r : Ev) : xNm 0 (some (.fz d) :: r) cs = .ok (.fz d) (some (.fz d) :: r) cs := rfl
@[simp] theorem run_nm1 (a : Option O) (r : Ev) : xNm 1 (a :: some (.fz d) :: r) cs = .ok (.fz d) (a :: some (.fz d) :: r) cs := rfl
@[simp] theorem run_nm2 (a b : Option O) (r : Ev) : xNm 2 (a :: b :: some (.fz d) :: r) cs = .ok (.fz d) (a :: b :: some (.fz d) :: r) cs := rfl
@[simp] theorem run_nm3 (a b c : Option O) (r : Ev) : xNm 3 (a :: b :: c :: some (.fz d) :: r) cs = .ok (.fz d) (a :: b :: c :: some (.fz d) :: r) cs := rfl
@[simp] theorem run_nm4 (a b c f : Option O) (r : Ev) : xNm 4 (a :: b :: c :: f :: some (.fz d) :: r) cs = .ok (.fz d) (a :: b :: c :: f :: some (.fz d) :: r) cs := rfl
@[simp] theorem run_ret (m : XM) : sRet m env cs = (m env cs).bindO fun o env cs => .ret o env cs := rfl
@[simp] theorem run_seq (a b : SM) : sSeq a b env cs = match a env cs with | .nx env cs => b env cs | r => r := rfl
@[simp] theorem run_asg (i : Nat) (m : XM) : sAsg i m env cs = (m env cs).bindO fun o env cs => if i < env.length then .nx (env.set i (some o)) cs else .bad := rfl
@[simp] theorem run_expr (m : XM) : sExpr m env cs = (m env cs).bindS fun _ env cs => .nx env cs := rfl
@[simp] theorem run_raise (x : Str) (m : XM) : sRaise x m env cs = (m env cs).bindS fun d env cs => .exc (.exn x [("value", d)]) env cs := rfl
@[simp] theorem run_tup (m : LM) : xTup m env cs = (m env cs).bind fun ds env cs => if ds.length ≤ 1000000 then .ok (.fz (.tup ds)) env cs else .bad := rfl
@[simp] theorem run_keep (m : XM) : xKeep m env cs = backX env (m env cs) := rfl
@[simp] theorem run_call (f : FM) (ml : LM) : xCall f ml env cs = (ml env cs).bind fun ds env cs => match f ds cs with | .ok o cs => .ok o env cs | .exc x cs => .exc x env cs | .bad => .bad := rfl
theorem run_if (c : XM) (a b : SM) : sIf c a b env cs = (c env cs).bindS fun d env cs => match d with | .bl true => a env cs | .bl false => b env cs | _ => .bad := rfl
theorem run_and (a b : XM) : xAnd a b env cs = (a env cs).bind fun d env cs => match d with | .bl true => b env cs | .bl false => .ok (.fz (.bl false)) env cs | _ => .bad := rfl
theorem run_or (a b : XM) : xOr a b env cs = (a env cs).bind fun d env cs => match d with | .bl false => b env cs | .bl true => .ok (.fz (.bl true)) env cs | _ => .bad := rfl
theorem run_not (a : XM) : xNot a env cs = (a env cs).bind fun d env cs => match d with | .bl b => .ok (.fz (.bl (!b))) env cs | _ => .bad := rfl
theorem run_xif (c a b : XM) : xIf c a b env cs = (c env cs).bind fun d env cs => match d with | .bl true => a env cs | .bl false => b env cs | _ => .bad := rfl
end
end GM
namespace GM
open PySem PySem.Spec L2
theorem lcGo_map {vs : List Nat} {t : TgM} {c e : XM} {env0 : Ev} {cs : Cells} {fo : D → O} : ∀ {ds : List D}, (∀ d ∈ ds, ∃ env1 env2 env3, t d env0 = some env1 ∧ c env1 cs = .ok (.fz (.bl true)) env2 cs ∧ e env2 cs = .ok (fo d) env3 cs ∧ wipeE env3 vs = env0) →
    ∀ (env : Ev) (acc : List O), wipeE env vs = env0 → ∃ env', wipeE env' vs = env0 ∧ lcGo vs t c e ds env cs acc = .ok (acc ++ ds.map fo) env' cs
  | [], _, env, acc, he => ⟨env, he, by simp [lcGo]⟩
  | d :: ds, h, env, acc, he => by
    obtain ⟨env1, env2, env3, h1, h2, h3, h4⟩ := h d (by simp)
    obtain ⟨env', k1, k2⟩ := lcGo_map (ds := ds) (fun x hx => h x (by simp [hx])) env3 (acc ++ [fo d]) h4
    refine ⟨env', k1, ?_⟩
    rw [List.map_cons, List.append_cons, ← k2]
    simp only [lcGo, he, h1, h2, h3]
    rfl
/-- a comprehension whose step is plain -/
theorem lc_map {mi : LM} {vs : List Nat} {t : TgM} {c e : XM} {env env1 : Ev} {cs cs1 : Cells} {ds : List D} (fo : D → O) (hi : mi env cs = .ok ds env1 cs1) (hz : ds.length ≤ 1000000)
    (h : ∀ d ∈ ds, ∃ e1 e2 e3, t d (wipeE env1 vs) = some e1 ∧ c e1 cs1 = .ok (.fz (.bl true)) e2 cs1 ∧ e e2 cs1 = .ok (fo d) e3 cs1 ∧ wipeE e3 vs = wipeE env1 vs) :
    xLc mi vs t c e env cs = .ok (.ol (ds.map fo)) (wipeE env1 vs) cs1 := by
  obtain ⟨env', k1, k2⟩ := lcGo_map h env1 [] rfl
  unfold xLc
  rw [hi]
  show (if ds.length ≤ 1000000 then _ else _) = _
  rw [if_pos hz, k2, List.nil_append]
  show XRes.ok (.ol (ds.map fo)) (wipeE env' vs) cs1 = _
  rw [k1]
end GM
namespace GM
open PySem PySem.Spec L2
theorem lcGo_list {vs : List Nat} {t : TgM} {c e : XM} {env0 : Ev} {cs : Cells} : ∀ {ps : List (D × O)}, (∀ p ∈ ps, ∃ env1 env2 env3, t p.1 env0 = some env1 ∧ c env1 cs = .ok (.fz (.bl true)) env2 cs ∧ e env2 cs = .ok p.2 env3 cs ∧ wipeE env3 vs = env0) →
    ∀ (env : Ev) (acc : List O), wipeE env vs = env0 → ∃ env', wipeE env' vs = env0 ∧ lcGo vs t c e (ps.map (·.1)) env cs acc = .ok (acc ++ ps.map (·.2)) env' cs
  | [], _, env, acc, he => ⟨env, he, by simp [lcGo]⟩
  | p :: ps, h, env, acc, he => by
    obtain ⟨env1, env2, env3, h1, h2, h3, h4⟩ := h p (by simp)
    obtain ⟨env', k1, k2⟩ := lcGo_list (ps := ps) (fun x hx => h x (by simp [hx])) env3 (acc ++ [p.2]) h4
    refine ⟨env', k1, ?_⟩
    rw [List.map_cons, List.map_cons, List.append_cons, ← k2]
    simp only [lcGo, he, h1, h2, h3]
    rfl
/-- a comprehension whose step is plain, step by step -/
theorem lc_list {mi : LM} {vs : List Nat} {t : TgM} {c e : XM} {env env1 : Ev} {cs cs1 : Cells} (ps : List (D × O)) (hi : mi env cs = .ok (ps.map (·.1)) env1 cs1) (hz : ps.length ≤ 1000000)
    (h : ∀ p ∈ ps, ∃ e1 e2 e3, t p.1 (wipeE env1 vs) = some e1 ∧ c e1 cs1 = .ok (.fz (.bl true)) e2 cs1 ∧ e e2 cs1 = .ok p.2 e3 cs1 ∧ wipeE e3 vs = wipeE env1 vs) :
    xLc mi vs t c e env cs = .ok (.ol (ps.map (·.2))) (wipeE env1 vs) cs1 := by
  obtain ⟨env', k1, k2⟩ := lcGo_list h env1 [] rfl
  unfold xLc
  rw [hi]
  show (if (ps.map (·.1)).length ≤ 1000000 then _ else _) = _
  rw [List.length_map, if_pos hz, k2, List.nil_append]
  show XRes.ok (.ol (ps.map (·.2))) (wipeE env' vs) cs1 = _
  rw [k1]
end GM
/-! GM22: the models run by simp, step by step (first order, no binders). Printed by mkgm22.py. -/
namespace GM
open PySem PySem.Spec L2
section
variable {o : O} {d e : D} {os qs : List O} {ds es : List D} {t : Nat} {kvs : List (D × D)} {env env1 env2 : Ev} {cs cs1 : Cells} {x : D} {b c : Bool} {i j : Int}
def op1K (p : D → Cells → Option O) : XRes → XRes
  | .ok o env cs => ofO (p (frz o) cs) env cs
  | .exc x env cs => .exc x env cs
  | .bad => .bad
def op2K (p : D → D → Cells → Option O) (mb : XM) : XRes → XRes
  | .ok o env cs => op1K (p (frz o)) (mb env cs)
  | .exc x env cs => .exc x env cs
  | .bad => .bad
def opLK (p : List D → Cells → Option O) : LRes → XRes
  | .ok ds env cs => ofO (p ds cs) env cs
  | .exc x env cs => .exc x env cs
  | .bad => .bad
def lcK2 (d : D) : LRes → LRes
  | .ok ds env cs => .ok (d :: ds) env cs
  | .exc x env cs => .exc x env cs
  | .bad => .bad
def lcK (l : LM) : XRes → LRes
  | .ok o env cs => lcK2 (frz o) (l env cs)
  | .exc x env cs => .exc x env cs
  | .bad => .bad
def ocK2 (os : List O) : ORes → ORes
  | .ok qs env cs => .ok (os ++ qs) env cs
  | .exc x env cs => .exc x env cs
  | .bad => .bad
def ocK (l : OM) : XRes → ORes
  | .ok o env cs => ocK2 [o] (l env cs)
  | .exc x env cs => .exc x env cs
  | .bad => .bad
def osK1 (l : OM) (env : Ev) (cs : Cells) : Option (List D) → ORes
  | some ds => ocK2 (ds.map .fz) (l env cs)
  | none => .bad
def osK (l : OM) : XRes → ORes
  | .ok o env cs => osK1 l env cs (itemsD (frz o))
  | .exc x env cs => .exc x env cs
  | .bad => .bad
def xlK : ORes → XRes
  | .ok os env cs => if os.length ≤ 1000000 then .ok (.ol os) env cs else .bad
  | .exc x env cs => .exc x env cs
  | .bad => .bad
def xtK : LRes → XRes
  | .ok ds env cs => if ds.length ≤ 1000000 then .ok (.fz (.tup ds)) env cs else .bad
  | .exc x env cs => .exc x env cs
  | .bad => .bad
def andK (m : XM) : XRes → XRes
  | .ok o env cs => (match frz o with | .bl true => m env cs | .bl false => .ok (.fz (.bl false)) env cs | _ => .bad)
  | .exc x env cs => .exc x env cs
  | .bad => .bad
def orK (m : XM) : XRes → XRes
  | .ok o env cs => (match frz o with | .bl false => m env cs | .bl true => .ok (.fz (.bl true)) env cs | _ => .bad)
  | .exc x env cs => .exc x env cs
  | .bad => .bad
def notK : XRes → XRes
  | .ok o env cs => (match frz o with | .bl b => .ok (.fz (.bl (!b))) env cs | _ => .bad)
  | .exc x env cs => .exc x env cs
  | .bad => .bad
def xifK (a b : XM) : XRes → XRes
  | .ok o env cs => (match frz o with | .bl true => a env cs | .bl false => b env cs | _ => .bad)
  | .exc x env cs => .exc x env cs
  | .bad => .bad
def chK3 (q : D → D → Cells → Option O) (e : D) (mc : XM) (env : Ev) (cs : Cells) : Option O → XRes
  | some (.fz (.bl true)) => op1K (q e) (mc env cs)
  | some (.fz (.bl false)) => .ok (.fz (.bl false)) env cs
  | _ => .bad
def chK2 (p q : D → D → Cells → Option O) (d : D) (mc : XM) : XRes → XRes
  | .ok o env cs => chK3 q (frz o) mc env cs (p d (frz o) cs)
  | .exc x env cs => .exc x env cs
  | .bad => .bad
def chK (p q : D → D → Cells → Option O) (mb mc : XM) : XRes → XRes
  | .ok o env cs => chK2 p q (frz o) mc (mb env cs)
  | .exc x env cs => .exc x env cs
  | .bad => .bad
def caR (env : Ev) : FRes → XRes
  | .ok o cs => .ok o env cs
  | .exc x cs => .exc x env cs
  | .bad => .bad
def caK (f : FM) : LRes → XRes
  | .ok ds env cs => caR env (f ds cs)
  | .exc x env cs => .exc x env cs
  | .bad => .bad
def ckK2 (f : FM) (np nk : Nat) (is : List Nat) (ds : List D) : LRes → XRes
  | .ok es env cs => caR env (f (pickL np nk is ds es) cs)
  | .exc x env cs => .exc x env cs
  | .bad => .bad
def ckK (f : FM) (np nk : Nat) (is : List Nat) (mk : LM) : LRes → XRes
  | .ok ds env cs => ckK2 f np nk is ds (mk env cs)
  | .exc x env cs => .exc x env cs
  | .bad => .bad
def meK (rd : D → Cells → Bool) (p : D → List D → Cells → Option O) (ml : LM) : XRes → XRes
  | .ok o env cs => if rd (frz o) cs = true then opLK (p (frz o)) (ml env cs) else .bad
  | .exc x env cs => .exc x env cs
  | .bad => .bad
def slK2 (d : D) (l : Option Int) : LRes → XRes
  | .ok ds env cs => (match partD ds with | some h => ofO (pSl d l h) env cs | none => .bad)
  | .exc x env cs => .exc x env cs
  | .bad => .bad
def slK1 (d : D) (hi : LM) : LRes → XRes
  | .ok ds env cs => (match partD ds with | some l => slK2 d l (hi env cs) | none => .bad)
  | .exc x env cs => .exc x env cs
  | .bad => .bad
def slK (lo hi : LM) : XRes → XRes
  | .ok o env cs => slK1 (frz o) hi (lo env cs)
  | .exc x env cs => .exc x env cs
  | .bad => .bad
def liK : XRes → LRes
  | .ok o env cs => ofL (itemsD (frz o)) env cs
  | .exc x env cs => .exc x env cs
  | .bad => .bad
def r1Kx : Unit := ()
def r1K : LRes → LRes
  | .ok ds env cs => (match ds with | [.int j] => if -(2 ^ 62) ≤ j ∧ j < 2 ^ 62 then .ok (rngD 0 j.toNat) env cs else .bad | _ => .bad)
  | .exc x env cs => .exc x env cs
  | .bad => .bad
def r2K : LRes → LRes
  | .ok ds env cs => (match ds with | [.int i, .int j] => if -(2 ^ 62) ≤ i ∧ i < 2 ^ 62 ∧ -(2 ^ 62) ≤ j ∧ j < 2 ^ 62 then .ok (rngD i (j - i).toNat) env cs else .bad | _ => .bad)
  | .exc x env cs => .exc x env cs
  | .bad => .bad
def ziK : LRes → LRes
  | .ok ds env cs => (match ds with | [.lst xs, .lst ys] => .ok (zipD xs ys) env cs | [.tup xs, .tup ys] => .ok (zipD xs ys) env cs | _ => .bad)
  | .exc x env cs => .exc x env cs
  | .bad => .bad
def seqK (m : SM) : SRes → SRes
  | .nx env cs => m env cs
  | r => r
def sifK (a b : SM) : XRes → SRes
  | .ok o env cs => (match frz o with | .bl true => a env cs | .bl false => b env cs | _ => .bad)
  | .exc x env cs => .exc x env cs
  | .bad => .bad
def setE (i : Nat) (o : O) (env : Ev) (cs : Cells) : SRes := if i < env.length then .nx (env.set i (some o)) cs else .bad
def asK (i : Nat) : XRes → SRes
  | .ok o env cs => setE i o env cs
  | .exc x env cs => .exc x env cs
  | .bad => .bad
def reK : XRes → SRes
  | .ok o env cs => .ret o env cs
  | .exc x env cs => .exc x env cs
  | .bad => .bad
def exK : XRes → SRes
  | .ok o env cs => .nx env cs
  | .exc x env cs => .exc x env cs
  | .bad => .bad
def raK (c : Str) : XRes → SRes
  | .ok o env cs => .exc (.exn c [("value", frz o)]) env cs
  | .exc x env cs => .exc x env cs
  | .bad => .bad
def foK (t : TgM) (b : SM) : LRes → SRes
  | .ok ds env cs => forGo t b ds env cs
  | .exc x env cs => .exc x env cs
  | .bad => .bad
def foK2 (t : TgM) (b : SM) (ds : List D) : SRes → SRes
  | .nx env cs => forGo t b ds env cs
  | .cnt env cs => forGo t b ds env cs
  | .brk env cs => .nx env cs
  | x => x
def foK1 (t : TgM) (b : SM) (ds : List D) (cs : Cells) : Option Ev → SRes
  | some env => foK2 t b ds (b env cs)
  | none => .bad
def tgK (ts : List D → Ev → Option Ev) (ds : List D) : Option Ev → Option Ev
  | some env => ts ds env
  | none => none
def fnK : SRes → FRes
  | .ret o _ cs => .ok o cs
  | .nx _ cs => .ok (.fz .non) cs
  | .exc x _ cs => .exc x cs
  | _ => .bad
def trK2 (i : Nat) : SRes → SRes
  | .nx env cs => .nx (env.set i none) cs
  | .brk env cs => .brk (env.set i none) cs
  | .cnt env cs => .cnt (env.set i none) cs
  | .ret o env cs => .ret o env cs
  | .exc _ _ _ => .bad
  | .bad => .bad
def trK1 (i : Nat) (ms : SM) (c : Str) (fs : List (Str × D)) (env : Ev) (cs : Cells) : Option Bool → SRes
  | some true => (match setE i (.fz (.exn c fs)) env cs with | .nx env cs => trK2 i (ms env cs) | _ => .bad)
  | some false => .exc (.exn c fs) env cs
  | none => .bad
def trK (i : Nat) (catches : Str → Option Bool) (ms : SM) : SRes → SRes
  | .exc x env cs => (match x with | .exn c fs => trK1 i ms c fs env cs (catches c) | _ => .bad)
  | r => r
def acK (i : Nat) : XRes → SRes
  | .ok (.ol os) env cs => setE i (.fz (.cel cs.length)) env (cs ++ [.lst (frzL os)])
  | .exc x env cs => .exc x env cs
  | _ => .bad
def paK (i j : Nat) : LRes → SRes
  | .ok [d, e] env cs => (match setE i (.fz d) env cs with | .nx env cs => setE j (.fz e) env cs | r => r)
  | .exc x env cs => .exc x env cs
  | _ => .bad
def scK3 (v : D) (c : D) : XRes → SRes
  | .ok o env cs => (match c, frz o with
    | .cel n, .int j => match cs[n]? with
      | some (.lst ds) => match ixN ds.length j with
        | some i => .nx env (cs.set n (.lst (ds.set i v)))
        | none => .bad
      | _ => .bad
    | _, _ => .bad)
  | .exc x env cs => .exc x env cs
  | .bad => .bad
def scK2 (v : D) (mi : XM) : XRes → SRes
  | .ok o env cs => scK3 v (frz o) (mi env cs)
  | .exc x env cs => .exc x env cs
  | .bad => .bad
def scK (mo mi : XM) : XRes → SRes
  | .ok o env cs => scK2 (frz o) mi (mo env cs)
  | .exc x env cs => .exc x env cs
  | .bad => .bad
theorem u_op1 (p : D → Cells → Option O) (m : XM) : xOp1 p m env cs = op1K p (m env cs) := by unfold xOp1; cases m env cs <;> rfl
theorem u_op2 (p : D → D → Cells → Option O) (m n : XM) : xOp2 p m n env cs = op2K p n (m env cs) := by unfold xOp2; cases m env cs with | ok o env cs => (simp only [bind_ok, op2K]; cases n env cs <;> rfl) | _ => rfl
theorem u_opL (p : List D → Cells → Option O) (m : LM) : xOpL p m env cs = opLK p (m env cs) := by unfold xOpL; cases m env cs <;> rfl
theorem u_lc (m : XM) (l : LM) : lCons m l env cs = lcK l (m env cs) := by unfold lCons; cases m env cs with | ok o env cs => (show LRes.bindL (l env cs) _ = lcK2 _ (l env cs); cases l env cs <;> rfl) | _ => rfl
theorem u_oc (m : XM) (l : OM) : oCons m l env cs = ocK l (m env cs) := by unfold oCons; cases m env cs with | ok o env cs => (show (match l env cs with | .ok os env cs => ORes.ok (o :: os) env cs | .exc x env cs => .exc x env cs | .bad => .bad) = ocK2 _ (l env cs); cases l env cs <;> rfl) | _ => rfl
theorem u_os (m : XM) (l : OM) : oStar m l env cs = osK l (m env cs) := by unfold oStar; cases m env cs with | ok o env cs => (show _ = osK1 l env cs (itemsD (frz o)); cases h : itemsD (frz o) with | some ds => (simp only [h, osK1]; cases l env cs <;> rfl) | none => simp only [h, osK1]) | _ => rfl
theorem u_lst (m : OM) : xLst m env cs = xlK (m env cs) := by unfold xLst; cases m env cs <;> rfl
theorem u_tup (m : LM) : xTup m env cs = xtK (m env cs) := by unfold xTup; cases m env cs <;> rfl
theorem u_and (m n : XM) : xAnd m n env cs = andK n (m env cs) := by unfold xAnd; cases m env cs <;> rfl
theorem u_or (m n : XM) : xOr m n env cs = orK n (m env cs) := by unfold xOr; cases m env cs <;> rfl
theorem u_not (m : XM) : xNot m env cs = notK (m env cs) := by unfold xNot; cases m env cs <;> rfl
theorem u_if (c m n : XM) : xIf c m n env cs = xifK m n (c env cs) := by unfold xIf; cases c env cs <;> rfl
theorem u_ch (p q : D → D → Cells → Option O) (a b c : XM) : xChain p q a b c env cs = chK p q b c (a env cs) := by
  unfold xChain
  cases a env cs with
  | ok o env cs =>
    simp only [bind_ok, chK]
    cases b env cs with
    | ok o2 env cs =>
      simp only [bind_ok, chK2]
      generalize p (frz o) (frz o2) cs = q1
      unfold chK3
      split
      · show XRes.bind (c env cs) (fun f env cs => ofO (q (frz o2) f cs) env cs) = op1K (q (frz o2)) (c env cs)
        cases c env cs <;> rfl
      · rfl
      · rename_i h1 h2
        match q1, h1, h2 with
        | some (.fz (.bl true)), h1, _ => exact (h1 rfl).elim
        | some (.fz (.bl false)), _, h2 => exact (h2 rfl).elim
        | none, _, _ => rfl
        | some (.ol _), _, _ => rfl
        | some (.od _ _), _, _ => rfl
        | some (.fz .non), _, _ => rfl
        | some (.fz (.int _)), _, _ => rfl
        | some (.fz (.str _)), _, _ => rfl
        | some (.fz (.lst _)), _, _ => rfl
        | some (.fz (.tup _)), _, _ => rfl
        | some (.fz (.dic _ _)), _, _ => rfl
        | some (.fz (.obj _ _)), _, _ => rfl
        | some (.fz (.exn _ _)), _, _ => rfl
        | some (.fz (.cls _)), _, _ => rfl
        | some (.fz (.cel _)), _, _ => rfl
        | some (.fz (.scr _)), _, _ => rfl
    | _ => rfl
  | _ => rfl
theorem u_call (f : FM) (m : LM) : xCall f m env cs = caK f (m env cs) := by unfold xCall; cases m env cs with | ok ds env cs => (show (match f ds cs with | .ok o cs => XRes.ok o env cs | .exc x cs => .exc x env cs | .bad => .bad) = caR env (f ds cs); cases f ds cs <;> rfl) | _ => rfl
theorem u_callK (f : FM) (np nk : Nat) (is : List Nat) (m n : LM) : xCallK f np nk is m n env cs = ckK f np nk is n (m env cs) := by
  unfold xCallK
  cases m env cs with
  | ok ds env cs =>
    show LRes.bind (n env cs) _ = ckK2 f np nk is ds (n env cs)
    cases n env cs with
    | ok es env cs =>
      show (match f (pickL np nk is ds es) cs with | .ok o cs => XRes.ok o env cs | .exc x cs => .exc x env cs | .bad => .bad) = caR env (f (pickL np nk is ds es) cs)
      cases f (pickL np nk is ds es) cs <;> rfl
    | _ => rfl
  | _ => rfl
theorem u_me (rd : D → Cells → Bool) (p : D → List D → Cells → Option O) (m : XM) (l : LM) : xMeth rd p m l env cs = meK rd p l (m env cs) := by
  unfold xMeth
  cases m env cs with
  | ok o env cs =>
    show (if rd (frz o) cs = true then LRes.bind (l env cs) _ else XRes.bad) = if rd (frz o) cs = true then opLK (p (frz o)) (l env cs) else XRes.bad
    split
    · cases l env cs <;> rfl
    · rfl
  | _ => rfl
theorem u_sl (m : XM) (l h : LM) : xSl m l h env cs = slK l h (m env cs) := by
  unfold xSl
  cases m env cs with
  | ok o env cs =>
    show LRes.bind (l env cs) _ = slK1 (frz o) h (l env cs)
    cases l env cs with
    | ok ds env cs =>
      show (match partD ds with | none => XRes.bad | some l => LRes.bind (h env cs) _) = (match partD ds with | some l => slK2 (frz o) l (h env cs) | none => .bad)
      cases partD ds with
      | none => rfl
      | some q =>
        show LRes.bind (h env cs) _ = slK2 (frz o) q (h env cs)
        cases h env cs with
        | ok es env cs =>
          show (match partD es with | some h => _ | none => _) = (match partD es with | some h => _ | none => _)
          cases partD es <;> rfl
        | _ => rfl
    | _ => rfl
  | _ => rfl
theorem u_keep (m : XM) : xKeep m env cs = backX env (m env cs) := rfl
theorem u_li (m : XM) : lItems m env cs = liK (m env cs) := by unfold lItems; cases m env cs <;> rfl
theorem u_r1 (m : LM) : lRng1 m env cs = r1K (m env cs) := by unfold lRng1; cases m env cs <;> rfl
theorem u_r2 (m : LM) : lRng2 m env cs = r2K (m env cs) := by unfold lRng2; cases m env cs <;> rfl
theorem u_zi (m : LM) : lZip m env cs = ziK (m env cs) := by unfold lZip; cases m env cs <;> rfl
theorem u_seq (m n : SM) : sSeq m n env cs = seqK n (m env cs) := by unfold sSeq; cases m env cs <;> rfl
theorem u_sif (c : XM) (m n : SM) : sIf c m n env cs = sifK m n (c env cs) := by unfold sIf; cases c env cs <;> rfl
theorem u_asg (i : Nat) (m : XM) : sAsg i m env cs = asK i (m env cs) := by unfold sAsg; cases m env cs <;> rfl
theorem u_ret (m : XM) : sRet m env cs = reK (m env cs) := by unfold sRet; cases m env cs <;> rfl
theorem u_expr (m : XM) : sExpr m env cs = exK (m env cs) := by unfold sExpr; cases m env cs <;> rfl
theorem u_raise (c : Str) (m : XM) : sRaise c m env cs = raK c (m env cs) := by unfold sRaise; cases m env cs <;> rfl
theorem u_for (l : LM) (t : TgM) (m : SM) : sFor l t m env cs = foK t m (l env cs) := by unfold sFor; cases l env cs <;> rfl
theorem u_try (i : Nat) (f : Str → Option Bool) (m n : SM) : sTry i f m n env cs = trK i f n (m env cs) := by
  unfold sTry
  cases m env cs with
  | exc x env cs =>
    cases x with
    | exn c fs =>
      show (match f c with | some true => _ | some false => _ | none => _) = trK1 i n c fs env cs (f c)
      cases f c with
      | none => rfl
      | some b =>
        cases b with
        | false => rfl
        | true =>
          show (if i < env.length then _ else _) = (match setE i (.fz (.exn c fs)) env cs with | .nx env cs => trK2 i (n env cs) | _ => .bad)
          unfold setE
          split
          · show (match n (env.set i (some (.fz (.exn c fs)))) cs with | .nx env2 cs2 => _ | .brk env2 cs2 => _ | .cnt env2 cs2 => _ | .ret o env2 cs2 => _ | .exc _ _ _ => _ | .bad => _) = trK2 i (n (env.set i (some (.fz (.exn c fs)))) cs)
            cases n (env.set i (some (.fz (.exn c fs)))) cs <;> rfl
          · rfl
    | _ => rfl
  | _ => rfl
theorem u_asgC (i : Nat) (m : XM) : sAsgC i m env cs = acK i (m env cs) := by unfold sAsgC; cases m env cs with | ok o env cs => (cases o <;> rfl) | _ => rfl
theorem u_par (i j : Nat) (m : LM) (hij : i < j) : sPar i j m env cs = paK i j (m env cs) := by
  unfold sPar
  cases m env cs with
  | ok ds env cs =>
    match ds with
    | [d, e] =>
      show (if i < env.length ∧ j < env.length then _ else _) = (match (if i < env.length then SRes.nx (env.set i (some (.fz d))) cs else .bad) with | .nx env cs => setE j (.fz e) env cs | r => r)
      by_cases hi : i < env.length
      · rw [if_pos hi]
        show _ = (if j < (env.set i (some (.fz d))).length then _ else _)
        by_cases hj : j < env.length
        · rw [if_pos ⟨hi, hj⟩, if_pos (by simpa using hj)]
        · rw [if_neg (fun h => hj h.2), if_neg (by simpa using hj)]
      · rw [if_neg hi, if_neg (fun h => hi h.1)]
    | [] => rfl
    | [_] => rfl
    | _ :: _ :: _ :: _ => rfl
  | _ => rfl
theorem u_setC (v m n : XM) : sSetC v m n env cs = scK m n (v env cs) := by
  unfold sSetC
  cases v env cs with
  | ok o env cs =>
    simp only [bindS_ok, scK]
    cases m env cs with
    | ok o2 env cs =>
      simp only [bindS_ok, scK2]
      cases n env cs <;> rfl
    | _ => rfl
  | _ => rfl
theorem f_nil (t : TgM) (m : SM) : forGo t m [] env cs = .nx env cs := rfl
theorem f_cons (t : TgM) (m : SM) : forGo t m (d :: ds) env cs = foK1 t m ds cs (t d env) := by simp only [forGo]; cases t d env with | none => rfl | some env => (simp only [foK1]; cases m env cs <;> rfl)
theorem x_op1K (p : D → Cells → Option O) : op1K p (.exc x env cs) = .exc x env cs := rfl
theorem x_op2K (p : D → D → Cells → Option O) (m : XM) : op2K p m (.exc x env cs) = .exc x env cs := rfl
theorem x_andK (m : XM) : andK m (.exc x env cs) = .exc x env cs := rfl
theorem x_orK (m : XM) : orK m (.exc x env cs) = .exc x env cs := rfl
theorem x_notK  : notK  (.exc x env cs) = .exc x env cs := rfl
theorem x_xifK (m n : XM) : xifK m n (.exc x env cs) = .exc x env cs := rfl
theorem x_chK (p q : D → D → Cells → Option O) (m n : XM) : chK p q m n (.exc x env cs) = .exc x env cs := rfl
theorem x_chK2 (p q : D → D → Cells → Option O) (d : D) (m : XM) : chK2 p q d m (.exc x env cs) = .exc x env cs := rfl
theorem x_meK (rd : D → Cells → Bool) (p : D → List D → Cells → Option O) (m : LM) : meK rd p m (.exc x env cs) = .exc x env cs := rfl
theorem x_slK (m n : LM) : slK m n (.exc x env cs) = .exc x env cs := rfl
theorem x_opLK (p : List D → Cells → Option O) : opLK p (.exc x env cs) = .exc x env cs := rfl
theorem x_xtK  : xtK  (.exc x env cs) = .exc x env cs := rfl
theorem x_caK (f : FM) : caK f (.exc x env cs) = .exc x env cs := rfl
theorem x_ckK (f : FM) (np nk : Nat) (is : List Nat) (m : LM) : ckK f np nk is m (.exc x env cs) = .exc x env cs := rfl
theorem x_ckK2 (f : FM) (np nk : Nat) (is : List Nat) (ds : List D) : ckK2 f np nk is ds (.exc x env cs) = .exc x env cs := rfl
theorem x_lcK2 (d : D) : lcK2 d (.exc x env cs) = .exc x env cs := rfl
theorem x_r1K  : r1K  (.exc x env cs) = .exc x env cs := rfl
theorem x_r2K  : r2K  (.exc x env cs) = .exc x env cs := rfl
theorem x_ziK  : ziK  (.exc x env cs) = .exc x env cs := rfl
theorem x_foK (t : TgM) (m : SM) : foK t m (.exc x env cs) = .exc x env cs := rfl
theorem x_paK (i j : Nat) : paK i j (.exc x env cs) = .exc x env cs := rfl
theorem x_slK1 (d : D) (m : LM) : slK1 d m (.exc x env cs) = .exc x env cs := rfl
theorem x_slK2 (d : D) (l : Option Int) : slK2 d l (.exc x env cs) = .exc x env cs := rfl
theorem x_lcK (m : LM) : lcK m (.exc x env cs) = .exc x env cs := rfl
theorem x_ocK (m : OM) : ocK m (.exc x env cs) = .exc x env cs := rfl
theorem x_osK (m : OM) : osK m (.exc x env cs) = .exc x env cs := rfl
theorem x_liK  : liK  (.exc x env cs) = .exc x env cs := rfl
theorem x_sifK (m n : SM) : sifK m n (.exc x env cs) = .exc x env cs := rfl
theorem x_asK (i : Nat) : asK i (.exc x env cs) = .exc x env cs := rfl
theorem x_reK  : reK  (.exc x env cs) = .exc x env cs := rfl
theorem x_exK  : exK  (.exc x env cs) = .exc x env cs := rfl
theorem x_raK (c : Str) : raK c (.exc x env cs) = .exc x env cs := rfl
theorem x_acK (i : Nat) : acK i (.exc x env cs) = .exc x env cs := rfl
theorem x_scK (m n : XM) : scK m n (.exc x env cs) = .exc x env cs := rfl
theorem x_scK2 (d : D) (m : XM) : scK2 d m (.exc x env cs) = .exc x env cs := rfl
theorem x_scK3 (d e : D) : scK3 d e (.exc x env cs) = .exc x env cs := rfl
theorem x_seqK (m : SM) : seqK m (.exc x env cs) = .exc x env cs := rfl
theorem x_foK2 (t : TgM) (m : SM) (ds : List D) : foK2 t m ds (.exc x env cs) = .exc x env cs := rfl
theorem x_ocK2 (os : List O) : ocK2 os (.exc x env cs) = .exc x env cs := rfl
theorem x_xlK  : xlK  (.exc x env cs) = .exc x env cs := rfl
theorem x_backX  : backX env (.exc x env1 cs) = .exc x env1 cs := rfl
theorem x_caR  : caR env (.exc x cs) = .exc x env cs := rfl
theorem x_fnK  : fnK (.exc x env cs) = .exc x cs := rfl
theorem c_op1 (p : D → Cells → Option O) : op1K p (.ok o env cs) = ofO (p (frz o) cs) env cs := rfl
theorem c_op2 (p : D → D → Cells → Option O) (m : XM) : op2K p m (.ok o env cs) = op1K (p (frz o)) (m env cs) := rfl
theorem c_opL (p : List D → Cells → Option O) : opLK p (.ok ds env cs) = ofO (p ds cs) env cs := rfl
theorem c_ofO  : ofO (some o) env cs = .ok o env cs := rfl
theorem c_ofL  : ofL (some ds) env cs = .ok ds env cs := rfl
theorem c_bO  : bO b = some (.fz (.bl b)) := rfl
theorem c_iO  : iO i = some (.fz (.int i)) := rfl
theorem c_frzfz  : frz (.fz d) = d := rfl
theorem c_frzol  : frz (.ol os) = .lst (frzL os) := rfl
theorem c_frzod  : frz (.od t kvs) = .dic t kvs := rfl
theorem c_frzL0  : frzL [] = [] := rfl
theorem c_frzL1  : frzL (o :: os) = frz o :: frzL os := rfl
theorem c_frzLa  : frzL (os ++ qs) = frzL os ++ frzL qs := frzL_app _ _
theorem c_frzLm  : frzL (ds.map O.fz) = ds := frzL_fz ds
theorem c_xC  : xC d env cs = .ok (.fz d) env cs := rfl
theorem c_lNil  : lNil env cs = .ok [] env cs := rfl
theorem c_oNil  : oNil env cs = .ok [] env cs := rfl
theorem c_sNil  : sNil env cs = .nx env cs := rfl
theorem c_lcK (m : LM) : lcK m (.ok o env cs) = lcK2 (frz o) (m env cs) := rfl
theorem c_lcK2  : lcK2 d (.ok ds env cs) = .ok (d :: ds) env cs := rfl
theorem c_ocK (m : OM) : ocK m (.ok o env cs) = ocK2 [o] (m env cs) := rfl
theorem c_ocK2  : ocK2 os (.ok qs env cs) = .ok (os ++ qs) env cs := rfl
theorem c_app0 {α : Type} (l : List α) : [] ++ l = l := rfl
theorem c_app1 {α : Type} (a : α) (k l : List α) : (a :: k) ++ l = a :: (k ++ l) := rfl
theorem c_osK (m : OM) : osK m (.ok o env cs) = osK1 m env cs (itemsD (frz o)) := rfl
theorem c_osK1 (m : OM) : osK1 m env cs (some ds) = ocK2 (ds.map .fz) (m env cs) := rfl
theorem c_itl  : itemsD (.lst ds) = some ds := rfl
theorem c_itt  : itemsD (.tup ds) = some ds := rfl
theorem c_map0 {α β : Type} (f : α → β) : List.map f [] = [] := rfl
theorem c_map1 {α β : Type} (f : α → β) (a : α) (l : List α) : List.map f (a :: l) = f a :: List.map f l := rfl
theorem c_xlK (h : os.length ≤ 1000000) : xlK (.ok os env cs) = .ok (.ol os) env cs := if_pos h
theorem c_xtK (h : ds.length ≤ 1000000) : xtK (.ok ds env cs) = .ok (.fz (.tup ds)) env cs := if_pos h
theorem c_andK (m : XM) : andK m (.ok (.fz (.bl b)) env cs) = bif b then m env cs else .ok (.fz (.bl false)) env cs := by cases b <;> rfl
theorem c_orK (m : XM) : orK m (.ok (.fz (.bl b)) env cs) = bif b then .ok (.fz (.bl true)) env cs else m env cs := by cases b <;> rfl
theorem c_notK  : notK (.ok (.fz (.bl b)) env cs) = .ok (.fz (.bl (!b))) env cs := rfl
theorem c_xifK (m n : XM) : xifK m n (.ok (.fz (.bl b)) env cs) = bif b then m env cs else n env cs := by cases b <;> rfl
theorem c_sifK (m n : SM) : sifK m n (.ok (.fz (.bl b)) env cs) = bif b then m env cs else n env cs := by cases b <;> rfl
theorem c_cond1 {α : Type} (x y : α) : (bif true then x else y) = x := rfl
theorem c_cond0 {α : Type} (x y : α) : (bif false then x else y) = y := rfl
theorem c_condA  : (bif b then XRes.ok (.fz (.bl c)) env cs else .ok (.fz (.bl false)) env cs) = .ok (.fz (.bl (b && c))) env cs := by cases b <;> rfl
theorem c_condO  : (bif b then XRes.ok (.fz (.bl true)) env cs else .ok (.fz (.bl c)) env cs) = .ok (.fz (.bl (b || c))) env cs := by cases b <;> rfl
theorem c_bff  : (!false) = true := rfl
theorem c_btt  : (!true) = false := rfl
theorem c_bat  : (true && b) = b := rfl
theorem c_baf  : (false && b) = false := rfl
theorem c_bot  : (true || b) = true := rfl
theorem c_bof  : (false || b) = b := rfl
theorem c_bat2  : (b && true) = b := by cases b <;> rfl
theorem c_baf2  : (b && false) = false := by cases b <;> rfl
theorem c_bot2  : (b || true) = true := by cases b <;> rfl
theorem c_bof2  : (b || false) = b := by cases b <;> rfl
theorem c_bnn  : (!!b) = b := by cases b <;> rfl
theorem c_chK (p q : D → D → Cells → Option O) (m n : XM) : chK p q m n (.ok o env cs) = chK2 p q (frz o) n (m env cs) := rfl
theorem c_chK2 (p q : D → D → Cells → Option O) (n : XM) : chK2 p q d n (.ok o env cs) = chK3 q (frz o) n env cs (p d (frz o) cs) := rfl
theorem c_chK3 (q : D → D → Cells → Option O) (n : XM) : chK3 q d n env cs (some (.fz (.bl b))) = bif b then op1K (q d) (n env cs) else .ok (.fz (.bl false)) env cs := by cases b <;> rfl
theorem c_caK (f : FM) : caK f (.ok ds env cs) = caR env (f ds cs) := rfl
theorem c_caR  : caR env (.ok o cs) = .ok o env cs := rfl
theorem c_ckK (f : FM) (np nk : Nat) (is : List Nat) (m : LM) : ckK f np nk is m (.ok ds env cs) = ckK2 f np nk is ds (m env cs) := rfl
theorem c_ckK2 (f : FM) (np nk : Nat) (is : List Nat) : ckK2 f np nk is ds (.ok es env cs) = caR env (f (pickL np nk is ds es) cs) := rfl
theorem c_meK (rd : D → Cells → Bool) (p : D → List D → Cells → Option O) (m : LM) (h : rd (frz o) cs = true) : meK rd p m (.ok o env cs) = opLK (p (frz o)) (m env cs) := if_pos h
theorem c_meKl (p : D → List D → Cells → Option O) (m : LM) : meK isLst p m (.ok (.fz (.lst ds)) env cs) = opLK (p (.lst ds)) (m env cs) := rfl
theorem c_meKo (p : D → List D → Cells → Option O) (m : LM) : meK isLst p m (.ok (.ol os) env cs) = opLK (p (.lst (frzL os))) (m env cs) := rfl
theorem c_meKs (p : D → List D → Cells → Option O) (m : LM) : meK isLst p m (.ok (.scr ds |> .fz) env cs) = opLK (p (.scr ds)) (m env cs) := rfl
theorem c_slK (m n : LM) : slK m n (.ok o env cs) = slK1 (frz o) n (m env cs) := rfl
theorem c_slK1a (n : LM) : slK1 d n (.ok [] env cs) = slK2 d none (n env cs) := rfl
theorem c_slK1b (n : LM) : slK1 d n (.ok [.int i] env cs) = slK2 d (some i) (n env cs) := rfl
theorem c_slK2a (l : Option Int) : slK2 d l (.ok [] env cs) = ofO (pSl d l none) env cs := rfl
theorem c_slK2b (l : Option Int) : slK2 d l (.ok [.int i] env cs) = ofO (pSl d l (some i)) env cs := rfl
theorem c_back  : backX env (.ok (.fz d) env cs) = .ok (.fz d) env cs := by simp only [backX]; split <;> rfl
theorem c_backI (h : cs.all flatC = true) : backX env (.ok (.fz (.int i)) env1 cs) = .ok (.fz (.int i)) env cs := by simp only [backX]; exact if_pos ⟨rfl, h⟩
theorem c_backB (h : cs.all flatC = true) : backX env (.ok (.fz (.bl b)) env1 cs) = .ok (.fz (.bl b)) env cs := by simp only [backX]; exact if_pos ⟨rfl, h⟩
theorem c_liK  : liK (.ok o env cs) = ofL (itemsD (frz o)) env cs := rfl
theorem c_r1K (h : -(2 ^ 62) ≤ j ∧ j < 2 ^ 62) : r1K (.ok [.int j] env cs) = .ok (rngD 0 j.toNat) env cs := if_pos h
theorem c_r2K (h : -(2 ^ 62) ≤ i ∧ i < 2 ^ 62 ∧ -(2 ^ 62) ≤ j ∧ j < 2 ^ 62) : r2K (.ok [.int i, .int j] env cs) = .ok (rngD i (j - i).toNat) env cs := if_pos h
theorem c_zil  : ziK (.ok [.lst ds, .lst es] env cs) = .ok (zipD ds es) env cs := rfl
theorem c_zit  : ziK (.ok [.tup ds, .tup es] env cs) = .ok (zipD ds es) env cs := rfl
theorem c_seq (m : SM) : seqK m (.nx env cs) = m env cs := rfl
theorem c_seqr (m : SM) : seqK m (.ret o env cs) = .ret o env cs := rfl
theorem c_seqb (m : SM) : seqK m (.brk env cs) = .brk env cs := rfl
theorem c_seqc (m : SM) : seqK m (.cnt env cs) = .cnt env cs := rfl
theorem c_asK (n : Nat) : asK n (.ok o env cs) = setE n o env cs := rfl
theorem c_reK  : reK (.ok o env cs) = .ret o env cs := rfl
theorem c_exK  : exK (.ok o env cs) = .nx env cs := rfl
theorem c_raK (c : Str) : raK c (.ok o env cs) = .exc (.exn c [("value", frz o)]) env cs := rfl
theorem c_foK (t : TgM) (m : SM) : foK t m (.ok ds env cs) = forGo t m ds env cs := rfl
theorem c_foK1 (t : TgM) (m : SM) : foK1 t m ds cs (some env) = foK2 t m ds (m env cs) := rfl
theorem c_foK2n (t : TgM) (m : SM) : foK2 t m ds (.nx env cs) = forGo t m ds env cs := rfl
theorem c_foK2c (t : TgM) (m : SM) : foK2 t m ds (.cnt env cs) = forGo t m ds env cs := rfl
theorem c_foK2b (t : TgM) (m : SM) : foK2 t m ds (.brk env cs) = .nx env cs := rfl
theorem c_foK2r (t : TgM) (m : SM) : foK2 t m ds (.ret o env cs) = .ret o env cs := rfl
theorem c_tgT (ts : List D → Ev → Option Ev) : tgTup ts (.tup ds) env = ts ds env := rfl
theorem c_tg0  : tgNil [] env = some env := rfl
theorem c_tg1 (t : TgM) (ts : List D → Ev → Option Ev) : tgCons t ts (d :: ds) env = tgK ts ds (t d env) := by unfold tgCons; simp only; cases t d env <;> rfl
theorem c_tgK (ts : List D → Ev → Option Ev) : tgK ts ds (some env) = ts ds env := rfl
theorem c_fnr  : fnK (.ret o env cs) = .ok o cs := rfl
theorem c_fnn  : fnK (.nx env cs) = .ok (.fz .non) cs := rfl
theorem c_tr (n : Nat) (f : Str → Option Bool) (m : SM) (k : Str) (fs : List (Str × D)) : trK n f m (.exc (.exn k fs) env cs) = trK1 n m k fs env cs (f k) := rfl
theorem c_trn (n : Nat) (f : Str → Option Bool) (m : SM) : trK n f m (.nx env cs) = .nx env cs := rfl
theorem c_trr (n : Nat) (f : Str → Option Bool) (m : SM) : trK n f m (.ret o env cs) = .ret o env cs := rfl
def paR (j : Nat) (e : D) : SRes → SRes
  | .nx env cs => setE j (.fz e) env cs
  | r => r
theorem c_paK (m n : Nat) : paK m n (.ok [d, e] env cs) = paR n e (setE m (.fz d) env cs) := rfl
theorem c_paR (n : Nat) : paR n e (.nx env cs) = setE n (.fz e) env cs := rfl
theorem c_acK (n : Nat) : acK n (.ok (.ol os) env cs) = setE n (.fz (.cel cs.length)) env (cs ++ [.lst (frzL os)]) := rfl
theorem c_wipe0  : wipeE env [] = env := rfl
theorem c_wipe1 (v : Nat) (vs : List Nat) : wipeE env (v :: vs) = (wipeE env vs).set v none := rfl
theorem c_scK (m n : XM) : scK m n (.ok o env cs) = scK2 (frz o) n (m env cs) := rfl
theorem c_scK2 (n : XM) : scK2 d n (.ok o env cs) = scK3 d (frz o) (n env cs) := rfl
theorem c_scK3 (n k : Nat) (h : cs[n]? = some (.lst ds)) (hi : ixN ds.length j = some k) : scK3 d (.cel n) (.ok (.fz (.int j)) env cs) = .nx env (cs.set n (.lst (ds.set k d))) := by simp only [scK3, c_frzfz, h, hi]
end
section
variable {a0 a1 a2 a3 a4 a5 a6 a7 a8 a9 a10 a11 a12 a13 a14 a15 a16 a17 a18 a19 a20 a21 a22 a23 a24 : Option O} {r : Ev} {o : O} {d : D} {os : List O} {cs : Cells} {t : Nat} {kvs : List (D × D)}
theorem nm0  : xNm 0 (some (.fz d) :: r) cs = .ok (.fz d) (some (.fz d) :: r) cs := rfl
theorem nl0  : xNm 0 (some (.ol os) :: r) cs = .ok (.fz (.lst (frzL os))) (some (.fz (.lst (frzL os))) :: r) cs := rfl
theorem nd0  : xNm 0 (some (.od t kvs) :: r) cs = .ok (.fz (.dic t kvs)) (some (.fz (.dic t kvs)) :: r) cs := rfl
theorem se0  : setE 0 o (a0 :: r) cs = .nx (some o :: r) cs := if_pos (by simp)
theorem rv0  : sRetV 0 (some o :: r) cs = .ret o (some o :: r) cs := rfl
theorem tg0  : tgNm 0 d (a0 :: r) = some (some (.fz d) :: r) := if_pos (by simp)
theorem st0 {x : Option O} : List.set (a0 :: r) 0 x = (x :: r) := rfl
theorem ta0 (m : SM) (c : Str) (fs : List (Str × D)) : trK1 0 m c fs (a0 :: r) cs (some true) = trK2 0 (m (some (.fz (.exn c fs)) :: r) cs) := by unfold trK1; rw [se0]
theorem nm1  : xNm 1 (a0 :: some (.fz d) :: r) cs = .ok (.fz d) (a0 :: some (.fz d) :: r) cs := rfl
theorem nl1  : xNm 1 (a0 :: some (.ol os) :: r) cs = .ok (.fz (.lst (frzL os))) (a0 :: some (.fz (.lst (frzL os))) :: r) cs := rfl
theorem nd1  : xNm 1 (a0 :: some (.od t kvs) :: r) cs = .ok (.fz (.dic t kvs)) (a0 :: some (.fz (.dic t kvs)) :: r) cs := rfl
theorem se1  : setE 1 o (a0 :: a1 :: r) cs = .nx (a0 :: some o :: r) cs := if_pos (by simp)
theorem rv1  : sRetV 1 (a0 :: some o :: r) cs = .ret o (a0 :: some o :: r) cs := rfl
theorem tg1  : tgNm 1 d (a0 :: a1 :: r) = some (a0 :: some (.fz d) :: r) := if_pos (by simp)
theorem st1 {x : Option O} : List.set (a0 :: a1 :: r) 1 x = (a0 :: x :: r) := rfl
theorem ta1 (m : SM) (c : Str) (fs : List (Str × D)) : trK1 1 m c fs (a0 :: a1 :: r) cs (some true) = trK2 1 (m (a0 :: some (.fz (.exn c fs)) :: r) cs) := by unfold trK1; rw [se1]
theorem nm2  : xNm 2 (a0 :: a1 :: some (.fz d) :: r) cs = .ok (.fz d) (a0 :: a1 :: some (.fz d) :: r) cs := rfl
theorem nl2  : xNm 2 (a0 :: a1 :: some (.ol os) :: r) cs = .ok (.fz (.lst (frzL os))) (a0 :: a1 :: some (.fz (.lst (frzL os))) :: r) cs := rfl
theorem nd2  : xNm 2 (a0 :: a1 :: some (.od t kvs) :: r) cs = .ok (.fz (.dic t kvs)) (a0 :: a1 :: some (.fz (.dic t kvs)) :: r) cs := rfl
theorem se2  : setE 2 o (a0 :: a1 :: a2 :: r) cs = .nx (a0 :: a1 :: some o :: r) cs := if_pos (by simp)
theorem rv2  : sRetV 2 (a0 :: a1 :: some o :: r) cs = .ret o (a0 :: a1 :: some o :: r) cs := rfl
theorem tg2  : tgNm 2 d (a0 :: a1 :: a2 :: r) = some (a0 :: a1 :: some (.fz d) :: r) := if_pos (by simp)
theorem st2 {x : Option O} : List.set (a0 :: a1 :: a2 :: r) 2 x = (a0 :: a1 :: x :: r) := rfl
theorem ta2 (m : SM) (c : Str) (fs : List (Str × D)) : trK1 2 m c fs (a0 :: a1 :: a2 :: r) cs (some true) = trK2 2 (m (a0 :: a1 :: some (.fz (.exn c fs)) :: r) cs) := by unfold trK1; rw [se2]
theorem nm3  : xNm 3 (a0 :: a1 :: a2 :: some (.fz d) :: r) cs = .ok (.fz d) (a0 :: a1 :: a2 :: some (.fz d) :: r) cs := rfl
theorem nl3  : xNm 3 (a0 :: a1 :: a2 :: some (.ol os) :: r) cs = .ok (.fz (.lst (frzL os))) (a0 :: a1 :: a2 :: some (.fz (.lst (frzL os))) :: r) cs := rfl
theorem nd3  : xNm 3 (a0 :: a1 :: a2 :: some (.od t kvs) :: r) cs = .ok (.fz (.dic t kvs)) (a0 :: a1 :: a2 :: some (.fz (.dic t kvs)) :: r) cs := rfl
theorem se3  : setE 3 o (a0 :: a1 :: a2 :: a3 :: r) cs = .nx (a0 :: a1 :: a2 :: some o :: r) cs := if_pos (by simp)
theorem rv3  : sRetV 3 (a0 :: a1 :: a2 :: some o :: r) cs = .ret o (a0 :: a1 :: a2 :: some o :: r) cs := rfl
theorem tg3  : tgNm 3 d (a0 :: a1 :: a2 :: a3 :: r) = some (a0 :: a1 :: a2 :: some (.fz d) :: r) := if_pos (by simp)
theorem st3 {x : Option O} : List.set (a0 :: a1 :: a2 :: a3 :: r) 3 x = (a0 :: a1 :: a2 :: x :: r) := rfl
theorem ta3 (m : SM) (c : Str) (fs : List (Str × D)) : trK1 3 m c fs (a0 :: a1 :: a2 :: a3 :: r) cs (some true) = trK2 3 (m (a0 :: a1 :: a2 :: some (.fz (.exn c fs)) :: r) cs) := by unfold trK1; rw [se3]
theorem nm4  : xNm 4 (a0 :: a1 :: a2 :: a3 :: some (.fz d) :: r) cs = .ok (.fz d) (a0 :: a1 :: a2 :: a3 :: some (.fz d) :: r) cs := rfl
theorem nl4  : xNm 4 (a0 :: a1 :: a2 :: a3 :: some (.ol os) :: r) cs = .ok (.fz (.lst (frzL os))) (a0 :: a1 :: a2 :: a3 :: some (.fz (.lst (frzL os))) :: r) cs := rfl
theorem nd4  : xNm 4 (a0 :: a1 :: a2 :: a3 :: some (.od t kvs) :: r) cs = .ok (.fz (.dic t kvs)) (a0 :: a1 :: a2 :: a3 :: some (.fz (.dic t kvs)) :: r) cs := rfl
theorem se4  : setE 4 o (a0 :: a1 :: a2 :: a3 :: a4 :: r) cs = .nx (a0 :: a1 :: a2 :: a3 :: some o :: r) cs := if_pos (by simp)
theorem rv4  : sRetV 4 (a0 :: a1 :: a2 :: a3 :: some o :: r) cs = .ret o (a0 :: a1 :: a2 :: a3 :: some o :: r) cs := rfl
theorem tg4  : tgNm 4 d (a0 :: a1 :: a2 :: a3 :: a4 :: r) = some (a0 :: a1 :: a2 :: a3 :: some (.fz d) :: r) := if_pos (by simp)
theorem st4 {x : Option O} : List.set (a0 :: a1 :: a2 :: a3 :: a4 :: r) 4 x = (a0 :: a1 :: a2 :: a3 :: x :: r) := rfl
theorem ta4 (m : SM) (c : Str) (fs : List (Str × D)) : trK1 4 m c fs (a0 :: a1 :: a2 :: a3 :: a4 :: r) cs (some true) = trK2 4 (m (a0 :: a1 :: a2 :: a3 :: some (.fz (.exn c fs)) :: r) cs) := by unfold trK1; rw [se4]
theorem nm5  : xNm 5 (a0 :: a1 :: a2 :: a3 :: a4 :: some (.fz d) :: r) cs = .ok (.fz d) (a0 :: a1 :: a2 :: a3 :: a4 :: some (.fz d) :: r) cs := rfl
theorem nl5  : xNm 5 (a0 :: a1 :: a2 :: a3 :: a4 :: some (.ol os) :: r) cs = .ok (.fz (.lst (frzL os))) (a0 :: a1 :: a2 :: a3 :: a4 :: some (.fz (.lst (frzL os))) :: r) cs := rfl
theorem nd5  : xNm 5 (a0 :: a1 :: a2 :: a3 :: a4 :: some (.od t kvs) :: r) cs = .ok (.fz (.dic t kvs)) (a0 :: a1 :: a2 :: a3 :: a4 :: some (.fz (.dic t kvs)) :: r) cs := rfl
theorem se5  : setE 5 o (a0 :: a1 :: a2 :: a3 :: a4 :: a5 :: r) cs = .nx (a0 :: a1 :: a2 :: a3 :: a4 :: some o :: r) cs := if_pos (by simp)
theorem rv5  : sRetV 5 (a0 :: a1 :: a2 :: a3 :: a4 :: some o :: r) cs = .ret o (a0 :: a1 :: a2 :: a3 :: a4 :: some o :: r) cs := rfl
theorem tg5  : tgNm 5 d (a0 :: a1 :: a2 :: a3 :: a4 :: a5 :: r) = some (a0 :: a1 :: a2 :: a3 :: a4 :: some (.fz d) :: r) := if_pos (by simp)
theorem st5 {x : Option O} : List.set (a0 :: a1 :: a2 :: a3 :: a4 :: a5 :: r) 5 x = (a0 :: a1 :: a2 :: a3 :: a4 :: x :: r) := rfl
theorem ta5 (m : SM) (c : Str) (fs : List (Str × D)) : trK1 5 m c fs (a0 :: a1 :: a2 :: a3 :: a4 :: a5 :: r) cs (some true) = trK2 5 (m (a0 :: a1 :: a2 :: a3 :: a4 :: some (.fz (.exn c fs)) :: r) cs) := by unfold trK1; rw [se5]
theorem nm6  : xNm 6 (a0 :: a1 :: a2 :: a3 :: a4 :: a5 :: some (.fz d) :: r) cs = .ok (.fz d) (a0 :: a1 :: a2 :: a3 :: a4 :: a5 :: some (.fz d) :: r) cs := rfl
theorem nl6  : xNm 6 (a0 :: a1 :: a2 :: a3 :: a4 :: a5 :: some (.ol os) :: r) cs = .ok (.fz (.lst (frzL os))) (a0 :: a1 :: a2 :: a3 :: a4 :: a5 :: some (.fz (.lst (frzL os))) :: r) cs := rfl
theorem nd6  : xNm 6 (a0 :: a1 :: a2 :: a3 :: a4 :: a5 :: some (.od t kvs) :: r) cs = .ok (.fz (.dic t kvs)) (a0 :: a1 :: a2 :: a3 :: a4 :: a5 :: some (.fz (.dic t kvs)) :: r) cs := rfl
theorem se6  : setE 6 o (a0 :: a1 :: a2 :: a3 :: a4 :: a5 :: a6 :: r) cs = .nx (a0 :: a1 :: a2 :: a3 :: a4 :: a5 :: some o :: r) cs := if_pos (by simp)
theorem rv6  : sRetV 6 (a0 :: a1 :: a2 :: a3 :: a4 :: a5 :: some o :: r) cs = .ret o (a0 :: a1 :: a2 :: a3 :: a4 :: a5 :: some o :: r) cs := rfl
theorem tg6  : tgNm 6 d (a0 :: a1 :: a2 :: a3 :: a4 :: a5 :: a6 :: r) = some (a0 :: a1 :: a2 :: a3 :: a4 :: a5 :: some (.fz d) :: r) := if_pos (by simp)
theorem st6 {x : Option O} : List.set (a0 :: a1 :: a2 :: a3 :: a4 :: a5 :: a6 :: r) 6 x = (a0 :: a1 :: a2 :: a3 :: a4 :: a5 :: x :: r) := rfl
theorem ta6 (m : SM) (c : Str) (fs : List (Str × D)) : trK1 6 m c fs (a0 :: a1 :: a2 :: a3 :: a4 :: a5 :: a6 :: r) cs (some true) = trK2 6 (m (a0 :: a1 :: a2 :: a3 :: a4 :: a5 :: some (.fz (.exn c fs)) :: r) cs) := by unfold trK1; rw [se6]
theorem nm7  : xNm 7 (a0 :: a1 :: a2 :: a3 :: a4 :: a5 :: a6 :: some (.fz d) :: r) cs = .ok (.fz d) (a0 :: a1 :: a2 :: a3 :: a4 :: a5 :: a6 :: some (.fz d) :: r) cs := rfl
theorem nl7  : xNm 7 (a0 :: a1 :: a2 :: a3 :: a4 :: a5 :: a6 :: some (.ol os) :: r) cs = .ok (.fz (.lst (frzL os))) (a0 :: a1 :: a2 :: a3 :: a4 :: a5 :: a6 :: some (.fz (.lst (frzL os))) :: r) cs := rfl
theorem nd7  : xNm 7 (a0 :: a1 :: a2 :: a3 :: a4 :: a5 :: a6 :: some (.od t kvs) :: r) cs = .ok (.fz (.dic t kvs)) (a0 :: a1 :: a2 :: a3 :: a4 :: a5 :: a6 :: some (.fz (.dic t kvs)) :: r) cs := rfl
theorem se7  : setE 7 o (a0 :: a1 :: a2 :: a3 :: a4 :: a5 :: a6 :: a7 :: r) cs = .nx (a0 :: a1 :: a2 :: a3 :: a4 :: a5 :: a6 :: some o :: r) cs := if_pos (by simp)
theorem rv7  : sRetV 7 (a0 :: a1 :: a2 :: a3 :: a4 :: a5 :: a6 :: some o :: r) cs = .ret o (a0 :: a1 :: a2 :: a3 :: a4 :: a5 :: a6 :: some o :: r) cs := rfl
theorem tg7  : tgNm 7 d (a0 :: a1 :: a2 :: a3 :: a4 :: a5 :: a6 :: a7 :: r) = some (a0 :: a1 :: a2 :: a3 :: a4 :: a5 :: a6 :: some (.fz d) :: r) := if_pos (by simp)
theorem st7 {x : Option O} : List.set (a0 :: a1 :: a2 :: a3 :: a4 :: a5 :: a6 :: a7 :: r) 7 x = (a0 :: a1 :: a2 :: a3 :: a4 :: a5 :: a6 :: x :: r) := rfl
theorem ta7 (m : SM) (c : Str) (fs : List (Str × D)) : trK1 7 m c fs (a0 :: a1 :: a2 :: a3 :: a4 :: a5 :: a6 :: a7 :: r) cs (some true) = trK2 7 (m (a0 :: a1 :: a2 :: a3 :: a4 :: a5 :: a6 :: some (.fz (.exn c fs)) :: r) cs) := by unfold trK1; rw [se7]
theorem nm8  : xNm 8 (a0 :: a1 :: a2 :: a3 :: a4 :: a5 :: a6 :: a7 :: some (.fz d) :: r) cs = .ok (.fz d) (a0 :: a1 :: a2 :: a3 :: a4 :: a5 :: a6 :: a7 :: some (.fz d) :: r) cs := rfl
theorem nl8  : xNm 8 (a0 :: a1 :: a2 :: a3 :: a4 :: a5 :: a6 :: a7 :: some (.ol os) :: r) cs = .ok (.fz (.lst (frzL os))) (a0 :: a1 :: a2 :: a3 :: a4 :: a5 :: a6 :: a7 :: some (.fz (.lst (frzL os))) :: r) cs := rfl
theorem nd8  : xNm 8 (a0 :: a1 :: a2 :: a3 :: a4 :: a5 :: a6 :: a7 :: some (.od t kvs) :: r) cs = .ok (.fz (.dic t kvs)) (a0 :: a1 :: a2 :: a3 :: a4 :: a5 :: a6 :: a7 :: some (.fz (.dic t kvs)) :: r) cs := rfl
theorem se8  : setE 8 o (a0 :: a1 :: a2 :: a3 :: a4 :: a5 :: a6 :: a7 :: a8 :: r) cs = .nx (a0 :: a1 :: a2 :: a3 :: a4 :: a5 :: a6 :: a7 :: some o :: r) cs := if_pos (by simp)
theorem rv8  : sRetV 8 (a0 :: a1 :: a2 :: a3 :: a4 :: a5 :: a6 :: a7 :: some o :: r) cs = .ret o (a0 :: a1 :: a2 :: a3 :: a4 :: a5 :: a6 :: a7 :: some o :: r) cs := rfl
theorem tg8  : tgNm 8 d (a0 :: a1 :: a2 :: a3 :: a4 :: a5 :: a6 :: a7 :: a8 :: r) = some (a0 :: a1 :: a2 :: a3 :: a4 :: a5 :: a6 :: a7 :: some (.fz d) :: r) := if_pos (by simp)
theorem st8 {x : Option O} : List.set (a0 :: a1 :: a2 :: a3 :: a4 :: a5 :: a6 :: a7 :: a8 :: r) 8 x = (a0 :: a1 :: a2 :: a3 :: a4 :: a5 :: a6 :: a7 :: x :: r) := rfl
theorem ta8 (m : SM) (c : Str) (fs : List (Str × D)) : trK1 8 m c fs (a0 :: a1 :: a2 :: a3 :: a4 :: a5 :: a6 :: a7 :: a8 :: r) cs (some true) = trK2 8 (m (a0 :: a1 :: a2 :: a3 :: a4 :: a5 :: a6 :: a7 :: some (.fz (.exn c fs)) :: r) cs) := by unfold trK1; rw [se8]
theorem nm9  : xNm 9 (a0 :: a1 :: a2 :: a3 :: a4 :: a5 :: a6 :: a7 :: a8 :: some (.fz d) :: r) cs = .ok (.fz d) (a0 :: a1 :: a2 :: a3 :: a4 :: a5 :: a6 :: a7 :: a8 :: some (.fz d) :: r) cs := rfl
theorem nl9  : xNm 9 (a0 :: a1 :: a2 :: a3 :: a4 :: a5 :: a6 :: a7 :: a8 :: some (.ol os) :: r) cs = .ok (.fz (.lst (frzL os))) (a0 :: a1 :: a2 :: a3 :: a4 :: a5 :: a6 :: a7 :: a8 :: some (.fz (.lst (frzL os))) :: r) cs := rfl
theorem nd9  : xNm 9 (a0 :: a1 :: a2 :: a3 :: a4 :: a5 :: a6 :: a7 :: a8 :: some (.od t kvs) :: r) cs = .ok (.fz (.dic t kvs)) (a0 :: a1 :: a2 :: a3 :: a4 :: a5 :: a6 :: a7 :: a8 :: some (.fz (.dic t kvs)) :: r) cs := rfl
theorem se9  : setE 9 o (a0 :: a1 :: a2 :: a3 :: a4 :: a5 :: a6 :: a7 :: a8 :: a9 :: r) cs = .nx (a0 :: a1 :: a2 :: a3 :: a4 :: a5 :: a6 :: a7 :: a8 :: some o :: r) cs := if_pos (by simp)
theorem rv9  : sRetV 9 (a0 :: a1 :: a2 :: a3 :: a4 :: a5 :: a6 :: a7 :: a8 :: some o :: r) cs = .ret o (a0 :: a1 :: a2 :: a3 :: a4 :: a5 :: a6 :: a7 :: a8 :: some o :: r) cs := rfl
theorem tg9  : tgNm 9 d (a0 :: a1 :: a2 :: a3 :: a4 :: a5 :: a6 :: a7 :: a8 :: a9 :: r) = some (a0 :: a1 :: a2 :: a3 :: a4 :: a5 :: a6 :: a7 :: a8 :: some (.fz d) :: r) := if_pos (by simp)
theorem st9 {x : Option O} : List.set (a0 :: a1 :: a2 :: a3 :: a4 :: a5 :: a6 :: a7 :: a8 :: a9 :: r) 9 x = (a0 :: a1 :: a2 :: a3 :: a4 :: a5 :: a6 :: a7 :: a8 :: x :: r) := rfl
theorem ta9 (m : SM) (c : Str) (fs : List (Str × D)) : trK1 9 m c fs (a0 :: a1 :: a2 :: a3 :: a4 :: a5 :: a6 :: a7 :: a8 :: a9 :: r) cs (some true) = trK2 9 (m (a0 :: a1 :: a2 :: a3 :: a4 :: a5 :: a6 :: a7 :: a8 :: some (.fz (.exn c fs)) :: r) cs) := by unfold trK1; rw [se9]
theorem nm10  : xNm 10 (a0 :: a1 :: a2 :: a3 :: a4 :: a5 :: a6 :: a7 :: a8 :: a9 :: some (.fz d) :: r) cs = .ok (.fz d) (a0 :: a1 :: a2 :: a3 :: a4 :: a5 :: a6 :: a7 :: a8 :: a9 :: some (.fz d) :: r) cs := rfl
theorem nl10  : xNm 10 (a0 :: a1 :: a2 :: a3 :: a4 :: a5 :: a6 :: a7 :: a8 :: a9 :: some (.ol os) :: r) cs = .ok (.fz (.lst (frzL os))) (a0 :: a1 :: a2 :: a3 :: a4 :: a5 :: a6 :: a7 :: a8 :: a9 :: some (.fz (.lst (frzL os))) :: r) cs := rfl
theorem nd10  : xNm 10 (a0 :: a1 :: a2 :: a3 :: a4 :: a5 :: a6 :: a7 :: a8 :: a9 :: some (.od t kvs) :: r) cs = .ok (.fz (.dic t kvs)) (a0 :: a1 :: a2 :: a3 :: a4 :: a5 :: a6 :: a7 :: a8 :: a9 :: some (.fz (.dic t kvs)) :: r) cs := rfl
theorem se10  : setE 10 o (a0 :: a1 :: a2 :: a3 :: a4 :: a5 :: a6 :: a7 :: a8 :: a9 :: a10 :: r) cs = .nx (a0 :: a1 :: a2 :: a3 :: a4 :: a5 :: a6 :: a7 :: a8 :: a9 :: some o :: r) cs := if_pos (by simp)
theorem rv10  : sRetV 10 (a0 :: a1 :: a2 :: a3 :: a4 :: a5 :: a6 :: a7 :: a8 :: a9 :: some o :: r) cs = .ret o (a0 :: a1 :: a2 :: a3 :: a4 :: a5 :: a6 :: a7 :: a8 :: a9 :: some o :: r) cs := rfl
theorem tg10  : tgNm 10 d (a0 :: a1 :: a2 :: a3 :: a4 :: a5 :: a6 :: a7 :: a8 :: a9 :: a10 :: r) = some (a0 :: a1 :: a2 :: a3 :: a4 :: a5 :: a6 :: a7 :: a8 :: a9 :: some (.fz d) :: r) := if_pos (by simp)
theorem st10 {x : Option O} : List.set (a0 :: a1 :: a2 :: a3 :: a4 :: a5 :: a6 :: a7 :: a8 :: a9 :: a10 :: r) 10 x = (a0 :: a1 :: a2 :: a3 :: a4 :: a5 :: a6 :: a7 :: a8 :: a9 :: x :: r) := rfl
theorem ta10 (m : SM) (c : Str) (fs : List (Str × D)) : trK1 10 m c fs (a0 :: a1 :: a2 :: a3 :: a4 :: a5 :: a6 :: a7 :: a8 :: a9 :: a10 :: r) cs (some true) = trK2 10 (m (a0 :: a1 :: a2 :: a3 :: a4 :: a5 :: a6 :: a7 :: a8 :: a9 :: some (.fz (.exn c fs)) :: r) cs) := by unfold trK1; rw [se10]
theorem nm11  : xNm 11 (a0 :: a1 :: a2 :: a3 :: a4 :: a5 :: a6 :: a7 :: a8 :: a9 :: a10 :: some (.fz d) :: r) cs = .ok (.fz d) (a0 :: a1 :: a2 :: a3 :: a4 :: a5 :: a6 :: a7 :: a8 :: a9 :: a10 :: some (.fz d) :: r) cs := rfl
theorem nl11  : xNm 11 (a0 :: a1 :: a2 :: a3 :: a4 :: a5 :: a6 :: a7 :: a8 :: a9 :: a10 :: some (.ol os) :: r) cs = .ok (.fz (.lst (frzL os))) (a0 :: a1 :: a2 :: a3 :: a4 :: a5 :: a6 :: a7 :: a8 :: a9 :: a10 :: some (.fz (.lst (frzL os))) :: r) cs := rfl
theorem nd11  : xNm 11 (a0 :: a1 :: a2 :: a3 :: a4 :: a5 :: a6 :: a7 :: a8 :: a9 :: a10 :: some (.od t kvs) :: r) cs = .ok (.fz (.dic t kvs)) (a0 :: a1 :: a2 :: a3 :: a4 :: a5 :: a6 :: a7 :: a8 :: a9 :: a10 :: some (.fz (.dic t kvs)) :: r) cs := rfl
theorem se11  : setE 11 o (a0 :: a1 :: a2 :: a3 :: a4 :: a5 :: a6 :: a7 :: a8 :: a9 :: a10 :: a11 :: r) cs = .nx (a0 :: a1 :: a2 :: a3 :: a4 :: a5 :: a6 :: a7 :: a8 :: a9 :: a10 :: some o :: r) cs := if_pos (by simp)
theorem rv11  : sRetV 11 (a0 :: a1 :: a2 :: a3 :: a4 :: a5 :: a6 :: a7 :: a8 :: a9 :: a10 :: some o :: r) cs = .ret o (a0 :: a1 :: a2 :: a3 :: a4 :: a5 :: a6 :: a7 :: a8 :: a9 :: a10 :: some o :: r) cs := rfl
theorem tg11  : tgNm 11 d (a0 :: a1 :: a2 :: a3 :: a4 :: a5 :: a6 :: a7 :: a8 :: a9 :: a10 :: a11 :: r) = some (a0 :: a1 :: a2 :: a3 :: a4 :: a5 :: a6 :: a7 :: a8 :: a9 :: a10 :: some (.fz d) :: r) := if_pos (by simp)
theorem st11 {x : Option O} : List.set (a0 :: a1 :: a2 :: a3 :: a4 :: a5 :: a6 :: a7 :: a8 :: a9 :: a10 :: a11 :: r) 11 x = (a0 :: a1 :: a2 :: a3 :: a4 :: a5 :: a6 :: a7 :: a8 :: a9 :: a10 :: x :: r) := rfl
theorem ta11 (m : SM) (c : Str) (fs : List (Str × D)) : trK1 11 m c fs (a0 :: a1 :: a2 :: a3 :: a4 :: a5 :: a6 :: a7 :: a8 :: a9 :: a10 :: a11 :: r) cs (some true) = trK2 11 (m (a0 :: a1 :: a2 :: a3 :: a4 :: a5 :: a6 :: a7 :: a8 :: a9 :: a10 :: some (.fz (.exn c fs)) :: r) cs) := by unfold trK1; rw [se11]
theorem nm12  : xNm 12 (a0 :: a1 :: a2 :: a3 :: a4 :: a5 :: a6 :: a7 :: a8 :: a9 :: a10 :: a11 :: some (.fz d) :: r) cs = .ok (.fz d) (a0 :: a1 :: a2 :: a3 :: a4 :: a5 :: a6 :: a7 :: a8 :: a9 :: a10 :: a11 :: some (.fz d) :: r) cs := rfl
theorem nl12  : xNm 12 (a0 :: a1 :: a2 :: a3 :: a4 :: a5 :: a6 :: a7 :: a8 :: a9 :: a10 :: a11 :: some (.ol os) :: r) cs = .ok (.fz (.lst (frzL os))) (a0 :: a1 :: a2 :: a3 :: a4 :: a5 :: a6 :: a7 :: a8 :: a9 :: a10 :: a11 :: some (.fz (.lst (frzL os))) :: r) cs := rfl
theorem nd12  : xNm 12 (a0 :: a1 :: a2 :: a3 :: a4 :: a5 :: a6 :: a7 :: a8 :: a9 :: a10 :: a11 :: some (.od t kvs) :: r) cs = .ok (.fz (.dic t kvs)) (a0 :: a1 :: a2 :: a3 :: a4 :: a5 :: a6 :: a7 :: a8 :: a9 :: a10 :: a11 :: some (.fz (.dic t kvs)) :: r) cs := rfl
theorem se12  : setE 12 o (a0 :: a1 :: a2 :: a3 :: a4 :: a5 :: a6 :: a7 :: a8 :: a9 :: a10 :: a11 :: a12 :: r) cs = .nx (a0 :: a1 :: a2 :: a3 :: a4 :: a5 :: a6 :: a7 :: a8 :: a9 :: a10 :: a11 :: some o :: r) cs := if_pos (by simp)
theorem rv12  : sRetV 12 (a0 :: a1 :: a2 :: a3 :: a4 :: a5 :: a6 :: a7 :: a8 :: a9 :: a10 :: a11 :: some o :: r) cs = .ret o (a0 :: a1 :: a2 :: a3 :: a4 :: a5 :: a6 :: a7 :: a8 :: a9 :: a10 :: a11 :: some o :: r) cs := rfl
theorem tg12  : tgNm 12 d (a0 :: a1 :: a2 :: a3 :: a4 :: a5 :: a6 :: a7 :: a8 :: a9 :: a10 :: a11 :: a12 :: r) = some (a0 :: a1 :: a2 :: a3 :: a4 :: a5 :: a6 :: a7 :: a8 :: a9 :: a10 :: a11 :: some (.fz d) :: r) := if_pos (by simp)
theorem st12 {x : Option O} : List.set (a0 :: a1 :: a2 :: a3 :: a4 :: a5 :: a6 :: a7 :: a8 :: a9 :: a10 :: a11 :: a12 :: r) 12 x = (a0 :: a1 :: a2 :: a3 :: a4 :: a5 :: a6 :: a7 :: a8 :: a9 :: a10 :: a11 :: x :: r) := rfl
theorem ta12 (m : SM) (c : Str) (fs : List (Str × D)) : trK1 12 m c fs (a0 :: a1 :: a2 :: a3 :: a4 :: a5 :: a6 :: a7 :: a8 :: a9 :: a10 :: a11 :: a12 :: r) cs (some true) = trK2 12 (m (a0 :: a1 :: a2 :: a3 :: a4 :: a5 :: a6 :: a7 :: a8 :: a9 :: a10 :: a11 :: some (.fz (.exn c fs)) :: r) cs) := by unfold trK1; rw [se12]
theorem nm13  : xNm 13 (a0 :: a1 :: a2 :: a3 :: a4 :: a5 :: a6 :: a7 :: a8 :: a9 :: a10 :: a11 :: a12 :: some (.fz d) :: r) cs = .ok (.fz d) (a0 :: a1 :: a2 :: a3 :: a4 :: a5 :: a6 :: a7 :: a8 :: a9 :: a10 :: a11 :: a12 :: some (.fz d) :: r) cs := rfl
theorem nl13  : xNm 13 (a0 :: a1 :: a2 :: a3 :: a4 :: a5 :: a6 :: a7 :: a8 :: a9 :: a10 :: a11 :: a12 :: some (.ol os) :: r) cs = .ok (.fz (.lst (frzL os))) (a0 :: a1 :: a2 :: a3 :: a4 :: a5 :: a6 :: a7 :: a8 :: a9 :: a10 :: a11 :: a12 :: some (.fz (.lst (frzL os))) :: r) cs := rfl
theorem nd13  : xNm 13 (a0 :: a1 :: a2 :: a3 :: a4 :: a5 :: a6 :: a7 :: a8 :: a9 :: a10 :: a11 :: a12 :: some (.od t kvs) :: r) cs = .ok (.fz (.dic t kvs)) (a0 :: a1 :: a2 :: a3 :: a4 :: a5 :: a6 :: a7 :: a8 :: a9 :: a10 :: a11 :: a12 :: some (.fz (.dic t kvs)) :: r) cs := rfl
theorem se13  : setE 13 o (a0 :: a1 :: a2 :: a3 :: a4 :: a5 :: a6 :: a7 :: a8 :: a9 :: a10 :: a11 :: a12 :: a13 :: r) cs = .nx (a0 :: a1 :: a2 :: a3 :: a4 :: a5 :: a6 :: a7 :: a8 :: a9 :: a10 :: a11 :: a12 :: some o :: r) cs := if_pos (by simp)
theorem rv13  : sRetV 13 (a0 :: a1 :: a2 :: a3 :: a4 :: a5 :: a6 :: a7 :: a8 :: a9 :: a10 :: a11 :: a12 :: some o :: r) cs = .ret o (a0 :: a1 :: a2 :: a3 :: a4 :: a5 :: a6 :: a7 :: a8 :: a9 :: a10 :: a11 :: a12 :: some o :: r) cs := rfl
theorem tg13  : tgNm 13 d (a0 :: a1 :: a2 :: a3 :: a4 :: a5 :: a6 :: a7 :: a8 :: a9 :: a10 :: a11 :: a12 :: a13 :: r) = some (a0 :: a1 :: a2 :: a3 :: a4 :: a5 :: a6 :: a7 :: a8 :: a9 :: a10 :: a11 :: a12 :: some (.fz d) :: r) := if_pos (by simp)
theorem st13 {x : Option O} : List.set (a0 :: a1 :: a2 :: a3 :: a4 :: a5 :: a6 :: a7 :: a8 :: a9 :: a10 :: a11 :: a12 :: a13 :: r) 13 x = (a0 :: a1 :: a2 :: a3 :: a4 :: a5 :: a6 :: a7 :: a8 :: a9 :: a10 :: a11 :: a12 :: x :: r) := rfl
theorem ta13 (m : SM) (c : Str) (fs : List (Str × D)) : trK1 13 m c fs (a0 :: a1 :: a2 :: a3 :: a4 :: a5 :: a6 :: a7 :: a8 :: a9 :: a10 :: a11 :: a12 :: a13 :: r) cs (some true) = trK2 13 (m (a0 :: a1 :: a2 :: a3 :: a4 :: a5 :: a6 :: a7 :: a8 :: a9 :: a10 :: a11 :: a12 :: some (.fz (.exn c fs)) :: r) cs) := by unfold trK1; rw [se13]
theorem nm14  : xNm 14 (a0 :: a1 :: a2 :: a3 :: a4 :: a5 :: a6 :: a7 :: a8 :: a9 :: a10 :: a11 :: a12 :: a13 :: some (.fz d) :: r) cs = .ok (.fz d) (a0 :: a1 :: a2 :: a3 :: a4 :: a5 :: a6 :: a7 :: a8 :: a9 :: a10 :: a11 :: a12 :: a13 :: some (.fz d) :: r) cs := rfl
theorem nl14  : xNm 14 (a0 :: a1 :: a2 :: a3 :: a4 :: a5 :: a6 :: a7 :: a8 :: a9 :: a10 :: a11 :: a12 :: a13 :: some (.ol os) :: r) cs = .ok (.fz (.lst (frzL os))) (a0 :: a1 :: a2 :: a3 :: a4 :: a5 :: a6 :: a7 :: a8 :: a9 :: a10 :: a11 :: a12 :: a13 :: some (.fz (.lst (frzL os))) :: r) cs := rfl
theorem nd14  : xNm 14 (a0 :: a1 :: a2 :: a3 :: a4 :: a5 :: a6 :: a7 :: a8 :: a9 :: a10 :: a11 :: a12 :: a13 :: some (.od t kvs) :: r) cs = .ok (.fz (.dic t kvs)) (a0 :: a1 :: a2 :: a3 :: a4 :: a5 :: a6 :: a7 :: a8 :: a9 :: a10 :: a11 :: a12 :: a13 :: some (.fz (.dic t kvs)) :: r) cs := rfl
theorem se14  : setE 14 o (a0 :: a1 :: a2 :: a3 :: a4 :: a5 :: a6 :: a7 :: a8 :: a9 :: a10 :: a11 :: a12 :: a13 :: a14 :: r) cs = .nx (a0 :: a1 :: a2 :: a3 :: a4 :: a5 :: a6 :: a7 :: a8 :: a9 :: a10 :: a11 :: a12 :: a13 :: some o :: r) cs := if_pos (by simp)
theorem rv14  : sRetV 14 (a0 :: a1 :: a2 :: a3 :: a4 :: a5 :: a6 :: a7 :: a8 :: a9 :: a10 :: a11 :: a12 :: a13 :: some o :: r) cs = .ret o (a0 :: a1 :: a2 :: a3 :: a4 :: a5 :: a6 :: a7 :: a8 :: a9 :: a10 :: a11 :: a12 :: a13 :: some o :: r) cs := rfl
theorem tg14  : tgNm 14 d (a0 :: a1 :: a2 :: a3 :: a4 :: a5 :: a6 :: a7 :: a8 :: a9 :: a10 :: a11 :: a12 :: a13 :: a14 :: r) = some (a0 :: a1 :: a2 :: a3 :: a4 :: a5 :: a6 :: a7 :: a8 :: a9 :: a10 :: a11 :: a12 :: a13 :: some (.fz d) :: r) := if_pos (by simp)
theorem st14 {x : Option O} : List.set (a0 :: a1 :: a2 :: a3 :: a4 :: a5 :: a6 :: a7 :: a8 :: a9 :: a10 :: a11 :: a12 :: a13 :: a14 :: r) 14 x = (a0 :: a1 :: a2 :: a3 :: a4 :: a5 :: a6 :: a7 :: a8 :: a9 :: a10 :: a11 :: a12 :: a13 :: x :: r) := rfl
theorem ta14 (m : SM) (c : Str) (fs : List (Str × D)) : trK1 14 m c fs (a0 :: a1 :: a2 :: a3 :: a4 :: a5 :: a6 :: a7 :: a8 :: a9 :: a10 :: a11 :: a12 :: a13 :: a14 :: r) cs (some true) = trK2 14 (m (a0 :: a1 :: a2 :: a3 :: a4 :: a5 :: a6 :: a7 :: a8 :: a9 :: a10 :: a11 :: a12 :: a13 :: some (.fz (.exn c fs)) :: r) cs) := by unfold trK1; rw [se14]
theorem nm15  : xNm 15 (a0 :: a1 :: a2 :: a3 :: a4 :: a5 :: a6 :: a7 :: a8 :: a9 :: a10 :: a11 :: a12 :: a13 :: a14 :: some (.fz d) :: r) cs = .ok (.fz d) (a0 :: a1 :: a2 :: a3 :: a4 :: a5 :: a6 :: a7 :: a8 :: a9 :: a10 :: a11 :: a12 :: a13 :: a14 :: some (.fz d) :: r) cs := rfl
theorem nl15  : xNm 15 (a0 :: a1 :: a2 :: a3 :: a4 :: a5 :: a6 :: a7 :: a8 :: a9 :: a10 :: a11 :: a12 :: a13 :: a14 :: some (.ol os) :: r) cs = .ok (.fz (.lst (frzL os))) (a0 :: a1 :: a2 :: a3 :: a4 :: a5 :: a6 :: a7 :: a8 :: a9 :: a10 :: a11 :: a12 :: a13 :: a14 :: some (.fz (.lst (frzL os))) :: r) cs := rfl
theorem nd15  : xNm 15 (a0 :: a1 :: a2 :: a3 :: a4 :: a5 :: a6 :: a7 :: a8 :: a9 :: a10 :: a11 :: a12 :: a13 :: a14 :: some (.od t kvs) :: r) cs = .ok (.fz (.dic t kvs)) (a0 :: a1 :: a2 :: a3 :: a4 :: a5 :: a6 :: a7 :: a8 :: a9 :: a10 :: a11 :: a12 :: a13 :: a14 :: some (.fz (.dic t kvs)) :: r) cs := rfl
theorem se15  : setE 15 o (a0 :: a1 :: a2 :: a3 :: a4 :: a5 :: a6 :: a7 :: a8 :: a9 :: a10 :: a11 :: a12 :: a13 :: a14 :: a15 :: r) cs = .nx (a0 :: a1 :: a2 :: a3 :: a4 :: a5 :: a6 :: a7 :: a8 :: a9 :: a10 :: a11 :: a12 :: a13 :: a14 :: some o :: r) cs := if_pos (by simp)
theorem rv15  : sRetV 15 (a0 :: a1 :: a2 :: a3 :: a4 :: a5 :: a6 :: a7 :: a8 :: a9 :: a10 :: a11 :: a12 :: a13 :: a14 :: some o :: r) cs = .ret o (a0 :: a1 :: a2 :: a3 :: a4 :: a5 :: a6 :: a7 :: a8 :: a9 :: a10 :: a11 :: a12 :: a13 :: a14 :: some o :: r) cs := rfl
theorem tg15  : tgNm 15 d (a0 :: a1 :: a2 :: a3 :: a4 :: a5 :: a6 :: a7 :: a8 :: a9 :: a10 :: a11 :: a12 :: a13 :: a14 :: a15 :: r) = some (a0 :: a1 :: a2 :: a3 :: a4 :: a5 :: a6 :: a7 :: a8 :: a9 :: a10 :: a11 :: a12 :: a13 :: a14 :: some (.fz d) :: r) := if_pos (by simp)
theorem st15 {x : Option O} : List.set (a0 :: a1 :: a2 :: a3 :: a4 :: a5 :: a6 :: a7 :: a8 :: a9 :: a10 :: a11 :: a12 :: a13 :: a14 :: a15 :: r) 15 x = (a0 :: a1 :: a2 :: a3 :: a4 :: a5 :: a6 :: a7 :: a8 :: a9 :: a10 :: a11 :: a12 :: a13 :: a14 :: x :: r) := rfl
theorem ta15 (m : SM) (c : Str) (fs : List (Str × D)) : trK1 15 m c fs (a0 :: a1 :: a2 :: a3 :: a4 :: a5 :: a6 :: a7 :: a8 :: a9 :: a10 :: a11 :: a12 :: a13 :: a14 :: a15 :: r) cs (some true) = trK2 15 (m (a0 :: a1 :: a2 :: a3 :: a4 :: a5 :: a6 :: a7 :: a8 :: a9 :: a10 :: a11 :: a12 :: a13 :: a14 :: some (.fz (.exn c fs)) :: r) cs) := by unfold trK1; rw [se15]
theorem nm16  : xNm 16 (a0 :: a1 :: a2 :: a3 :: a4 :: a5 :: a6 :: a7 :: a8 :: a9 :: a10 :: a11 :: a12 :: a13 :: a14 :: a15 :: some (.fz d) :: r) cs = .ok (.fz d) (a0 :: a1 :: a2 :: a3 :: a4 :: a5 :: a6 :: a7 :: a8 :: a9 :: a10 :: a11 :: a12 :: a13 :: a14 :: a15 :: some (.fz d) :: r) cs := rfl
theorem nl16  : xNm 16 (a0 :: a1 :: a2 :: a3 :: a4 :: a5 :: a6 :: a7 :: a8 :: a9 :: a10 :: a11 :: a12 :: a13 :: a14 :: a15 :: some (.ol os) :: r) cs = .ok (.fz (.lst (frzL os))) (a0 :: a1 :: a2 :: a3 :: a4 :: a5 :: a6 :: a7 :: a8 :: a9 :: a10 :: a11 :: a12 :: a13 :: a14 :: a15 :: some (.fz (.lst (frzL os))) :: r) cs := rfl
theorem nd16  : xNm 16 (a0 :: a1 :: a2 :: a3 :: a4 :: a5 :: a6 :: a7 :: a8 :: a9 :: a10 :: a11 :: a12 :: a13 :: a14 :: a15 :: some (.od t kvs) :: r) cs = .ok (.fz (.dic t kvs)) (a0 :: a1 :: a2 :: a3 :: a4 :: a5 :: a6 :: a7 :: a8 :: a9 :: a10 :: a11 :: a12 :: a13 :: a14 :: a15 :: some (.fz (.dic t kvs)) :: r) cs := rfl
theorem se16  : setE 16 o (a0 :: a1 :: a2 :: a3 :: a4 :: a5 :: a6 :: a7 :: a8 :: a9 :: a10 :: a11 :: a12 :: a13 :: a14 :: a15 :: a16 :: r) cs = .nx (a0 :: a1 :: a2 :: a3 :: a4 :: a5 :: a6 :: a7 :: a8 :: a9 :: a10 :: a11 :: a12 :: a13 :: a14 :: a15 :: some o :: r) cs := if_pos (by simp)
theorem rv16  : sRetV 16 (a0 :: a1 :: a2 :: a3 :: a4 :: a5 :: a6 :: a7 :: a8 :: a9 :: a10 :: a11 :: a12 :: a13 :: a14 :: a15 :: some o :: r) cs = .ret o (a0 :: a1 :: a2 :: a3 :: a4 :: a5 :: a6 :: a7 :: a8 :: a9 :: a10 :: a11 :: a12 :: a13 :: a14 :: a15 :: some o :: r) cs := rfl
theorem tg16  : tgNm 16 d (a0 :: a1 :: a2 :: a3 :: a4 :: a5 :: a6 :: a7 :: a8 :: a9 :: a10 :: a11 :: a12 :: a13 :: a14 :: a15 :: a16 :: r) = some (a0 :: a1 :: a2 :: a3 :: a4 :: a5 :: a6 :: a7 :: a8 :: a9 :: a10 :: a11 :: a12 :: a13 :: a14 :: a15 :: some (.fz d) :: r) := if_pos (by simp)
theorem st16 {x : Option O} : List.set (a0 :: a1 :: a2 :: a3 :: a4 :: a5 :: a6 :: a7 :: a8 :: a9 :: a10 :: a11 :: a12 :: a13 :: a14 :: a15 :: a16 :: r) 16 x = (a0 :: a1 :: a2 :: a3 :: a4 :: a5 :: a6 :: a7 :: a8 :: a9 :: a10 :: a11 :: a12 :: a13 :: a14 :: a15 :: x :: r) := rfl
theorem ta16 (m : SM) (c : Str) (fs : List (Str × D)) : trK1 16 m c fs (a0 :: a1 :: a2 :: a3 :: a4 :: a5 :: a6 :: a7 :: a8 :: a9 :: a10 :: a11 :: a12 :: a13 :: a14 :: a15 :: a16 :: r) cs (some true) = trK2 16 (m (a0 :: a1 :: a2 :: a3 :: a4 :: a5 :: a6 :: a7 :: a8 :: a9 :: a10 :: a11 :: a12 :: a13 :: a14 :: a15 :: some (.fz (.exn c fs)) :: r) cs) := by unfold trK1; rw [se16]
theorem nm17  : xNm 17 (a0 :: a1 :: a2 :: a3 :: a4 :: a5 :: a6 :: a7 :: a8 :: a9 :: a10 :: a11 :: a12 :: a13 :: a14 :: a15 :: a16 :: some (.fz d) :: r) cs = .ok (.fz d) (a0 :: a1 :: a2 :: a3 :: a4 :: a5 :: a6 :: a7 :: a8 :: a9 :: a10 :: a11 :: a12 :: a13 :: a14 :: a15 :: a16 :: some (.fz d) :: r) cs := rfl
theorem nl17  : xNm 17 (a0 :: a1 :: a2 :: a3 :: a4 :: a5 :: a6 :: a7 :: a8 :: a9 :: a10 :: a11 :: a12 :: a13 :: a14 :: a15 :: a16 :: some (.ol os) :: r) cs = .ok (.fz (.lst (frzL os))) (a0 :: a1 :: a2 :: a3 :: a4 :: a5 :: a6 :: a7 :: a8 :: a9 :: a10 :: a11 :: a12 :: a13 :: a14 :: a15 :: a16 :: some (.fz (.lst (frzL os))) :: r) cs := rfl
theorem nd17  : xNm 17 (a0 :: a1 :: a2 :: a3 :: a4 :: a5 :: a6 :: a7 :: a8 :: a9 :: a10 :: a11 :: a12 :: a13 :: a14 :: a15 :: a16 :: some (.od t kvs) :: r) cs = .ok (.fz (.dic t kvs)) (a0 :: a1 :: a2 :: a3 :: a4 :: a5 :: a6 :: a7 :: a8 :: a9 :: a10 :: a11 :: a12 :: a13 :: a14 :: a15 :: a16 :: some (.fz (.dic t kvs)) :: r) cs := rfl
theorem se17  : setE 17 o (a0 :: a1 :: a2 :: a3 :: a4 :: a5 :: a6 :: a7 :: a8 :: a9 :: a10 :: a11 :: a12 :: a13 :: a14 :: a15 :: a16 :: a17 :: r) cs = .nx (a0 :: a1 :: a2 :: a3 :: a4 :: a5 :: a6 :: a7 :: a8 :: a9 :: a10 :: a11 :: a12 :: a13 :: a14 :: a15 :: a16 :: some o :: r) cs := if_pos (by simp)
theorem rv17  : sRetV 17 (a0 :: a1 :: a2 :: a3 :: a4 :: a5 :: a6 :: a7 :: a8 :: a9 :: a10 :: a11 :: a12 :: a13 :: a14 :: a15 :: a16 :: some o :: r) cs = .ret o (a0 :: a1 :: a2 :: a3 :: a4 :: a5 :: a6 :: a7 :: a8 :: a9 :: a10 :: a11 :: a12 :: a13 :: a14 :: a15 :: a16 :: some o :: r) cs := rfl
theorem tg17  : tgNm 17 d (a0 :: a1 :: a2 :: a3 :: a4 :: a5 :: a6 :: a7 :: a8 :: a9 :: a10 :: a11 :: a12 :: a13 :: a14 :: a15 :: a16 :: a17 :: r) = some (a0 :: a1 :: a2 :: a3 :: a4 :: a5 :: a6 :: a7 :: a8 :: a9 :: a10 :: a11 :: a12 :: a13 :: a14 :: a15 :: a16 :: some (.fz d) :: r) := if_pos (by simp)
theorem st17 {x : Option O} : List.set (a0 :: a1 :: a2 :: a3 :: a4 :: a5 :: a6 :: a7 :: a8 :: a9 :: a10 :: a11 :: a12 :: a13 :: a14 :: a15 :: a16 :: a17 :: r) 17 x = (a0 :: a1 :: a2 :: a3 :: a4 :: a5 :: a6 :: a7 :: a8 :: a9 :: a10 :: a11 :: a12 :: a13 :: a14 :: a15 :: a16 :: x :: r) := rfl
theorem ta17 (m : SM) (c : Str) (fs : List (Str × D)) : trK1 17 m c fs (a0 :: a1 :: a2 :: a3 :: a4 :: a5 :: a6 :: a7 :: a8 :: a9 :: a10 :: a11 :: a12 :: a13 :: a14 :: a15 :: a16 :: a17 :: r) cs (some true) = trK2 17 (m (a0 :: a1 :: a2 :: a3 :: a4 :: a5 :: a6 :: a7 :: a8 :: a9 :: a10 :: a11 :: a12 :: a13 :: a14 :: a15 :: a16 :: some (.fz (.exn c fs)) :: r) cs) := by unfold trK1; rw [se17]
theorem nm18  : xNm 18 (a0 :: a1 :: a2 :: a3 :: a4 :: a5 :: a6 :: a7 :: a8 :: a9 :: a10 :: a11 :: a12 :: a13 :: a14 :: a15 :: a16 :: a17 :: some (.fz d) :: r) cs = .ok (.fz d) (a0 :: a1 :: a2 :: a3 :: a4 :: a5 :: a6 :: a7 :: a8 :: a9 :: a10 :: a11 :: a12 :: a13 :: a14 :: a15 :: a16 :: a17 :: some (.fz d) :: r) cs := rfl
theorem nl18  : xNm 18 (a0 :: a1 :: a2 :: a3 :: a4 :: a5 :: a6 :: a7 :: a8 :: a9 :: a10 :: a11 :: a12 :: a13 :: a14 :: a15 :: a16 :: a17 :: some (.ol os) :: r) cs = .ok (.fz (.lst (frzL os))) (a0 :: a1 :: a2 :: a3 :: a4 :: a5 :: a6 :: a7 :: a8 :: a9 :: a10 :: a11 :: a12 :: a13 :: a14 :: a15 :: a16 :: a17 :: some (.fz (.lst (frzL os))) :: r) cs := rfl
theorem nd18  : xNm 18 (a0 :: a1 :: a2 :: a3 :: a4 :: a5 :: a6 :: a7 :: a8 :: a9 :: a10 :: a11 :: a12 :: a13 :: a14 :: a15 :: a16 :: a17 :: some (.od t kvs) :: r) cs = .ok (.fz (.dic t kvs)) (a0 :: a1 :: a2 :: a3 :: a4 :: a5 :: a6 :: a7 :: a8 :: a9 :: a10 :: a11 :: a12 :: a13 :: a14 :: a15 :: a16 :: a17 :: some (.fz (.dic t kvs)) :: r) cs := rfl
theorem se18  : setE 18 o (a0 :: a1 :: a2 :: a3 :: a4 :: a5 :: a6 :: a7 :: a8 :: a9 :: a10 :: a11 :: a12 :: a13 :: a14 :: a15 :: a16 :: a17 :: a18 :: r) cs = .nx (a0 :: a1 :: a2 :: a3 :: a4 :: a5 :: a6 :: a7 :: a8 :: a9 :: a10 :: a11 :: a12 :: a13 :: a14 :: a15 :: a16 :: a17 :: some o :: r) cs := if_pos (by simp)
theorem rv18  : sRetV 18 (a0 :: a1 :: a2 :: a3 :: a4 :: a5 :: a6 :: a7 :: a8 :: a9 :: a10 :: a11 :: a12 :: a13 :: a14 :: a15 :: a16 :: a17 :: some o :: r) cs = .ret o (a0 :: a1 :: a2 :: a3 :: a4 :: a5 :: a6 :: a7 :: a8 :: a9 :: a10 :: a11 :: a12 :: a13 :: a14 :: a15 :: a16 :: a17 :: some o :: r) cs := rfl
theorem tg18  : tgNm 18 d (a0 :: a1 :: a2 :: a3 :: a4 :: a5 :: a6 :: a7 :: a8 :: a9 :: a10 :: a11 :: a12 :: a13 :: a14 :: a15 :: a16 :: a17 :: a18 :: r) = some (a0 :: a1 :: a2 :: a3 :: a4 :: a5 :: a6 :: a7 :: a8 :: a9 :: a10 :: a11 :: a12 :: a13 :: a14 :: a15 :: a16 :: a17 :: some (.fz d) :: r) := if_pos (by simp)
theorem st18 {x : Option O} : List.set (a0 :: a1 :: a2 :: a3 :: a4 :: a5 :: a6 :: a7 :: a8 :: a9 :: a10 :: a11 :: a12 :: a13 :: a14 :: a15 :: a16 :: a17 :: a18 :: r) 18 x = (a0 :: a1 :: a2 :: a3 :: a4 :: a5 :: a6 :: a7 :: a8 :: a9 :: a10 :: a11 :: a12 :: a13 :: a14 :: a15 :: a16 :: a17 :: x :: r) := rfl
theorem ta18 (m : SM) (c : Str) (fs : List (Str × D)) : trK1 18 m c fs (a0 :: a1 :: a2 :: a3 :: a4 :: a5 :: a6 :: a7 :: a8 :: a9 :: a10 :: a11 :: a12 :: a13 :: a14 :: a15 :: a16 :: a17 :: a18 :: r) cs (some true) = trK2 18 (m (a0 :: a1 :: a2 :: a3 :: a4 :: a5 :: a6 :: a7 :: a8 :: a9 :: a10 :: a11 :: a12 :: a13 :: a14 :: a15 :: a16 :: a17 :: some (.fz (.exn c fs)) :: r) cs) := by unfold trK1; rw [se18]
theorem nm19  : xNm 19 (a0 :: a1 :: a2 :: a3 :: a4 :: a5 :: a6 :: a7 :: a8 :: a9 :: a10 :: a11 :: a12 :: a13 :: a14 :: a15 :: a16 :: a17 :: a18 :: some (.fz d) :: r) cs = .ok (.fz d) (a0 :: a1 :: a2 :: a3 :: a4 :: a5 :: a6 :: a7 :: a8 :: a9 :: a10 :: a11 :: a12 :: a13 :: a14 :: a15 :: a16 :: a17 :: a18 :: some (.fz d) :: r) cs := rfl
theorem nl19  : xNm 19 (a0 :: a1 :: a2 :: a3 :: a4 :: a5 :: a6 :: a7 :: a8 :: a9 :: a10 :: a11 :: a12 :: a13 :: a14 :: a15 :: a16 :: a17 :: a18 :: some (.ol os) :: r) cs = .ok (.fz (.lst (frzL os))) (a0 :: a1 :: a2 :: a3 :: a4 :: a5 :: a6 :: a7 :: a8 :: a9 :: a10 :: a11 :: a12 :: a13 :: a14 :: a15 :: a16 :: a17 :: a18 :: some (.fz (.lst (frzL os))) :: r) cs := rfl
theorem nd19  : xNm 19 (a0 :: a1 :: a2 :: a3 :: a4 :: a5 :: a6 :: a7 :: a8 :: a9 :: a10 :: a11 :: a12 :: a13 :: a14 :: a15 :: a16 :: a17 :: a18 :: some (.od t kvs) :: r) cs = .ok (.fz (.dic t kvs)) (a0 :: a1 :: a2 :: a3 :: a4 :: a5 :: a6 :: a7 :: a8 :: a9 :: a10 :: a11 :: a12 :: a13 :: a14 :: a15 :: a16 :: a17 :: a18 :: some (.fz (.dic t kvs)) :: r) cs := rfl
theorem se19  : setE 19 o (a0 :: a1 :: a2 :: a3 :: a4 :: a5 :: a6 :: a7 :: a8 :: a9 :: a10 :: a11 :: a12 :: a13 :: a14 :: a15 :: a16 :: a17 :: a18 :: a19 :: r) cs = .nx (a0 :: a1 :: a2 :: a3 :: a4 :: a5 :: a6 :: a7 :: a8 :: a9 :: a10 :: a11 :: a12 :: a13 :: a14 :: a15 :: a16 :: a17 :: a18 :: some o :: r) cs := if_pos (by simp)
theorem rv19  : sRetV 19 (a0 :: a1 :: a2 :: a3 :: a4 :: a5 :: a6 :: a7 :: a8 :: a9 :: a10 :: a11 :: a12 :: a13 :: a14 :: a15 :: a16 :: a17 :: a18 :: some o :: r) cs = .ret o (a0 :: a1 :: a2 :: a3 :: a4 :: a5 :: a6 :: a7 :: a8 :: a9 :: a10 :: a11 :: a12 :: a13 :: a14 :: a15 :: a16 :: a17 :: a18 :: some o :: r) cs := rfl
theorem tg19  : tgNm 19 d (a0 :: a1 :: a2 :: a3 :: a4 :: a5 :: a6 :: a7 :: a8 :: a9 :: a10 :: a11 :: a12 :: a13 :: a14 :: a15 :: a16 :: a17 :: a18 :: a19 :: r) = some (a0 :: a1 :: a2 :: a3 :: a4 :: a5 :: a6 :: a7 :: a8 :: a9 :: a10 :: a11 :: a12 :: a13 :: a14 :: a15 :: a16 :: a17 :: a18 :: some (.fz d) :: r) := if_pos (by simp)
theorem st19 {x : Option O} : List.set (a0 :: a1 :: a2 :: a3 :: a4 :: a5 :: a6 :: a7 :: a8 :: a9 :: a10 :: a11 :: a12 :: a13 :: a14 :: a15 :: a16 :: a17 :: a18 :: a19 :: r) 19 x = (a0 :: a1 :: a2 :: a3 :: a4 :: a5 :: a6 :: a7 :: a8 :: a9 :: a10 :: a11 :: a12 :: a13 :: a14 :: a15 :: a16 :: a17 :: a18 :: x :: r) := rfl
theorem ta19 (m : SM) (c : Str) (fs : List (Str × D)) : trK1 19 m c fs (a0 :: a1 :: a2 :: a3 :: a4 :: a5 :: a6 :: a7 :: a8 :: a9 :: a10 :: a11 :: a12 :: a13 :: a14 :: a15 :: a16 :: a17 :: a18 :: a19 :: r) cs (some true) = trK2 19 (m (a0 :: a1 :: a2 :: a3 :: a4 :: a5 :: a6 :: a7 :: a8 :: a9 :: a10 :: a11 :: a12 :: a13 :: a14 :: a15 :: a16 :: a17 :: a18 :: some (.fz (.exn c fs)) :: r) cs) := by unfold trK1; rw [se19]
theorem nm20  : xNm 20 (a0 :: a1 :: a2 :: a3 :: a4 :: a5 :: a6 :: a7 :: a8 :: a9 :: a10 :: a11 :: a12 :: a13 :: a14 :: a15 :: a16 :: a17 :: a18 :: a19 :: some (.fz d) :: r) cs = .ok (.fz d) (a0 :: a1 :: a2 :: a3 :: a4 :: a5 :: a6 :: a7 :: a8 :: a9 :: a10 :: a11 :: a12 :: a13 :: a14 :: a15 :: a16 :: a17 :: a18 :: a19 :: some (.fz d) :: r) cs := rfl
theorem nl20  : xNm 20 (a0 :: a1 :: a2 :: a3 :: a4 :: a5 :: a6 :: a7 :: a8 :: a9 :: a10 :: a11 :: a12 :: a13 :: a14 :: a15 :: a16 :: a17 :: a18 :: a19 :: some (.ol os) :: r) cs = .ok (.fz (.lst (frzL os))) (a0 :: a1 :: a2 :: a3 :: a4 :: a5 :: a6 :: a7 :: a8 :: a9 :: a10 :: a11 :: a12 :: a13 :: a14 :: a15 :: a16 :: a17 :: a18 :: a19 :: some (.fz (.lst (frzL os))) :: r) cs := rfl
theorem nd20  : xNm 20 (a0 :: a1 :: a2 :: a3 :: a4 :: a5 :: a6 :: a7 :: a8 :: a9 :: a10 :: a11 :: a12 :: a13 :: a14 :: a15 :: a16 :: a17 :: a18 :: a19 :: some (.od t kvs) :: r) cs = .ok (.fz (.dic t kvs)) (a0 :: a1 :: a2 :: a3 :: a4 :: a5 :: a6 :: a7 :: a8 :: a9 :: a10 :: a11 :: a12 :: a13 :: a14 :: a15 :: a16 :: a17 :: a18 :: a19 :: some (.fz (.dic t kvs)) :: r) cs := rfl
theorem se20  : setE 20 o (a0 :: a1 :: a2 :: a3 :: a4 :: a5 :: a6 :: a7 :: a8 :: a9 :: a10 :: a11 :: a12 :: a13 :: a14 :: a15 :: a16 :: a17 :: a18 :: a19 :: a20 :: r) cs = .nx (a0 :: a1 :: a2 :: a3 :: a4 :: a5 :: a6 :: a7 :: a8 :: a9 :: a10 :: a11 :: a12 :: a13 :: a14 :: a15 :: a16 :: a17 :: a18 :: a19 :: some o :: r) cs := if_pos (by simp)
theorem rv20  : sRetV 20 (a0 :: a1 :: a2 :: a3 :: a4 :: a5 :: a6 :: a7 :: a8 :: a9 :: a10 :: a11 :: a12 :: a13 :: a14 :: a15 :: a16 :: a17 :: a18 :: a19 :: some o :: r) cs = .ret o (a0 :: a1 :: a2 :: a3 :: a4 :: a5 :: a6 :: a7 :: a8 :: a9 :: a10 :: a11 :: a12 :: a13 :: a14 :: a15 :: a16 :: a17 :: a18 :: a19 :: some o :: r) cs := rfl
theorem tg20  : tgNm 20 d (a0 :: a1 :: a2 :: a3 :: a4 :: a5 :: a6 :: a7 :: a8 :: a9 :: a10 :: a11 :: a12 :: a13 :: a14 :: a15 :: a16 :: a17 :: a18 :: a19 :: a20 :: r) = some (a0 :: a1 :: a2 :: a3 :: a4 :: a5 :: a6 :: a7 :: a8 :: a9 :: a10 :: a11 :: a12 :: a13 :: a14 :: a15 :: a16 :: a17 :: a18 :: a19 :: some (.fz d) :: r) := if_pos (by simp)
theorem st20 {x : Option O} : List.set (a0 :: a1 :: a2 :: a3 :: a4 :: a5 :: a6 :: a7 :: a8 :: a9 :: a10 :: a11 :: a12 :: a13 :: a14 :: a15 :: a16 :: a17 :: a18 :: a19 :: a20 :: r) 20 x = (a0 :: a1 :: a2 :: a3 :: a4 :: a5 :: a6 :: a7 :: a8 :: a9 :: a10 :: a11 :: a12 :: a13 :: a14 :: a15 :: a16 :: a17 :: a18 :: a19 :: x :: r) := rfl
theorem ta20 (m : SM) (c : Str) (fs : List (Str × D)) : trK1 20 m c fs (a0 :: a1 :: a2 :: a3 :: a4 :: a5 :: a6 :: a7 :: a8 :: a9 :: a10 :: a11 :: a12 :: a13 :: a14 :: a15 :: a16 :: a17 :: a18 :: a19 :: a20 :: r) cs (some true) = trK2 20 (m (a0 :: a1 :: a2 :: a3 :: a4 :: a5 :: a6 :: a7 :: a8 :: a9 :: a10 :: a11 :: a12 :: a13 :: a14 :: a15 :: a16 :: a17 :: a18 :: a19 :: some (.fz (.exn c fs)) :: r) cs) := by unfold trK1; rw [se20]
theorem nm21  : xNm 21 (a0 :: a1 :: a2 :: a3 :: a4 :: a5 :: a6 :: a7 :: a8 :: a9 :: a10 :: a11 :: a12 :: a13 :: a14 :: a15 :: a16 :: a17 :: a18 :: a19 :: a20 :: some (.fz d) :: r) cs = .ok (.fz d) (a0 :: a1 :: a2 :: a3 :: a4 :: a5 :: a6 :: a7 :: a8 :: a9 :: a10 :: a11 :: a12 :: a13 :: a14 :: a15 :: a16 :: a17 :: a18 :: a19 :: a20 :: some (.fz d) :: r) cs := rfl
theorem nl21  : xNm 21 (a0 :: a1 :: a2 :: a3 :: a4 :: a5 :: a6 :: a7 :: a8 :: a9 :: a10 :: a11 :: a12 :: a13 :: a14 :: a15 :: a16 :: a17 :: a18 :: a19 :: a20 :: some (.ol os) :: r) cs = .ok (.fz (.lst (frzL os))) (a0 :: a1 :: a2 :: a3 :: a4 :: a5 :: a6 :: a7 :: a8 :: a9 :: a10 :: a11 :: a12 :: a13 :: a14 :: a15 :: a16 :: a17 :: a18 :: a19 :: a20 :: some (.fz (.lst (frzL os))) :: r) cs := rfl
theorem nd21  : xNm 21 (a0 :: a1 :: a2 :: a3 :: a4 :: a5 :: a6 :: a7 :: a8 :: a9 :: a10 :: a11 :: a12 :: a13 :: a14 :: a15 :: a16 :: a17 :: a18 :: a19 :: a20 :: some (.od t kvs) :: r) cs = .ok (.fz (.dic t kvs)) (a0 :: a1 :: a2 :: a3 :: a4 :: a5 :: a6 :: a7 :: a8 :: a9 :: a10 :: a11 :: a12 :: a13 :: a14 :: a15 :: a16 :: a17 :: a18 :: a19 :: a20 :: some (.fz (.dic t kvs)) :: r) cs := rfl
theorem se21  : setE 21 o (a0 :: a1 :: a2 :: a3 :: a4 :: a5 :: a6 :: a7 :: a8 :: a9 :: a10 :: a11 :: a12 :: a13 :: a14 :: a15 :: a16 :: a17 :: a18 :: a19 :: a20 :: a21 :: r) cs = .nx (a0 :: a1 :: a2 :: a3 :: a4 :: a5 :: a6 :: a7 :: a8 :: a9 :: a10 :: a11 :: a12 :: a13 :: a14 :: a15 :: a16 :: a17 :: a18 :: a19 :: a20 :: some o :: r) cs := if_pos (by simp)
theorem rv21  : sRetV 21 (a0 :: a1 :: a2 :: a3 :: a4 :: a5 :: a6 :: a7 :: a8 :: a9 :: a10 :: a11 :: a12 :: a13 :: a14 :: a15 :: a16 :: a17 :: a18 :: a19 :: a20 :: some o :: r) cs = .ret o (a0 :: a1 :: a2 :: a3 :: a4 :: a5 :: a6 :: a7 :: a8 :: a9 :: a10 :: a11 :: a12 :: a13 :: a14 :: a15 :: a16 :: a17 :: a18 :: a19 :: a20 :: some o :: r) cs := rfl
theorem tg21  : tgNm 21 d (a0 :: a1 :: a2 :: a3 :: a4 :: a5 :: a6 :: a7 :: a8 :: a9 :: a10 :: a11 :: a12 :: a13 :: a14 :: a15 :: a16 :: a17 :: a18 :: a19 :: a20 :: a21 :: r) = some (a0 :: a1 :: a2 :: a3 :: a4 :: a5 :: a6 :: a7 :: a8 :: a9 :: a10 :: a11 :: a12 :: a13 :: a14 :: a15 :: a16 :: a17 :: a18 :: a19 :: a20 :: some (.fz d) :: r) := if_pos (by simp)
theorem st21 {x : Option O} : List.set (a0 :: a1 :: a2 :: a3 :: a4 :: a5 :: a6 :: a7 :: a8 :: a9 :: a10 :: a11 :: a12 :: a13 :: a14 :: a15 :: a16 :: a17 :: a18 :: a19 :: a20 :: a21 :: r) 21 x = (a0 :: a1 :: a2 :: a3 :: a4 :: a5 :: a6 :: a7 :: a8 :: a9 :: a10 :: a11 :: a12 :: a13 :: a14 :: a15 :: a16 :: a17 :: a18 :: a19 :: a20 :: x :: r) := rfl
theorem ta21 (m : SM) (c : Str) (fs : List (Str × D)) : trK1 21 m c fs (a0 :: a1 :: a2 :: a3 :: a4 :: a5 :: a6 :: a7 :: a8 :: a9 :: a10 :: a11 :: a12 :: a13 :: a14 :: a15 :: a16 :: a17 :: a18 :: a19 :: a20 :: a21 :: r) cs (some true) = trK2 21 (m (a0 :: a1 :: a2 :: a3 :: a4 :: a5 :: a6 :: a7 :: a8 :: a9 :: a10 :: a11 :: a12 :: a13 :: a14 :: a15 :: a16 :: a17 :: a18 :: a19 :: a20 :: some (.fz (.exn c fs)) :: r) cs) := by unfold trK1; rw [se21]
theorem nm22  : xNm 22 (a0 :: a1 :: a2 :: a3 :: a4 :: a5 :: a6 :: a7 :: a8 :: a9 :: a10 :: a11 :: a12 :: a13 :: a14 :: a15 :: a16 :: a17 :: a18 :: a19 :: a20 :: a21 :: some (.fz d) :: r) cs = .ok (.fz d) (a0 :: a1 :: a2 :: a3 :: a4 :: a5 :: a6 :: a7 :: a8 :: a9 :: a10 :: a11 :: a12 :: a13 :: a14 :: a15 :: a16 :: a17 :: a18 :: a19 :: a20 :: a21 :: some (.fz d) :: r) cs := rfl
theorem nl22  : xNm 22 (a0 :: a1 :: a2 :: a3 :: a4 :: a5 :: a6 :: a7 :: a8 :: a9 :: a10 :: a11 :: a12 :: a13 :: a14 :: a15 :: a16 :: a17 :: a18 :: a19 :: a20 :: a21 :: some (.ol os) :: r) cs = .ok (.fz (.lst (frzL os))) (a0 :: a1 :: a2 :: a3 :: a4 :: a5 :: a6 :: a7 :: a8 :: a9 :: a10 :: a11 :: a12 :: a13 :: a14 :: a15 :: a16 :: a17 :: a18 :: a19 :: a20 :: a21 :: some (.fz (.lst (frzL os))) :: r) cs := rfl
theorem nd22  : xNm 22 (a0 :: a1 :: a2 :: a3 :: a4 :: a5 :: a6 :: a7 :: a8 :: a9 :: a10 :: a11 :: a12 :: a13 :: a14 :: a15 :: a16 :: a17 :: a18 :: a19 :: a20 :: a21 :: some (.od t kvs) :: r) cs = .ok (.fz (.dic t kvs)) (a0 :: a1 :: a2 :: a3 :: a4 :: a5 :: a6 :: a7 :: a8 :: a9 :: a10 :: a11 :: a12 :: a13 :: a14 :: a15 :: a16 :: a17 :: a18 :: a19 :: a20 :: a21 :: some (.fz (.dic t kvs)) :: r) cs := rfl
theorem se22  : setE 22 o (a0 :: a1 :: a2 :: a3 :: a4 :: a5 :: a6 :: a7 :: a8 :: a9 :: a10 :: a11 :: a12 :: a13 :: a14 :: a15 :: a16 :: a17 :: a18 :: a19 :: a20 :: a21 :: a22 :: r) cs = .nx (a0 :: a1 :: a2 :: a3 :: a4 :: a5 :: a6 :: a7 :: a8 :: a9 :: a10 :: a11 :: a12 :: a13 :: a14 :: a15 :: a16 :: a17 :: a18 :: a19 :: a20 :: a21 :: some o :: r) cs := if_pos (by simp)
theorem rv22  : sRetV 22 (a0 :: a1 :: a2 :: a3 :: a4 :: a5 :: a6 :: a7 :: a8 :: a9 :: a10 :: a11 :: a12 :: a13 :: a14 :: a15 :: a16 :: a17 :: a18 :: a19 :: a20 :: a21 :: some o :: r) cs = .ret o (a0 :: a1 :: a2 :: a3 :: a4 :: a5 :: a6 :: a7 :: a8 :: a9 :: a10 :: a11 :: a12 :: a13 :: a14 :: a15 :: a16 :: a17 :: a18 :: a19 :: a20 :: a21 :: some o :: r) cs := rfl
theorem tg22  : tgNm 22 d (a0 :: a1 :: a2 :: a3 :: a4 :: a5 :: a6 :: a7 :: a8 :: a9 :: a10 :: a11 :: a12 :: a13 :: a14 :: a15 :: a16 :: a17 :: a18 :: a19 :: a20 :: a21 :: a22 :: r) = some (a0 :: a1 :: a2 :: a3 :: a4 :: a5 :: a6 :: a7 :: a8 :: a9 :: a10 :: a11 :: a12 :: a13 :: a14 :: a15 :: a16 :: a17 :: a18 :: a19 :: a20 :: a21 :: some (.fz d) :: r) := if_pos (by simp)
theorem st22 {x : Option O} : List.set (a0 :: a1 :: a2 :: a3 :: a4 :: a5 :: a6 :: a7 :: a8 :: a9 :: a10 :: a11 :: a12 :: a13 :: a14 :: a15 :: a16 :: a17 :: a18 :: a19 :: a20 :: a21 :: a22 :: r) 22 x = (a0 :: a1 :: a2 :: a3 :: a4 :: a5 :: a6 :: a7 :: a8 :: a9 :: a10 :: a11 :: a12 :: a13 :: a14 :: a15 :: a16 :: a17 :: a18 :: a19 :: a20 :: a21 :: x :: r) := rfl
theorem ta22 (m : SM) (c : Str) (fs : List (Str × D)) : trK1 22 m c fs (a0 :: a1 :: a2 :: a3 :: a4 :: a5 :: a6 :: a7 :: a8 :: a9 :: a10 :: a11 :: a12 :: a13 :: a14 :: a15 :: a16 :: a17 :: a18 :: a19 :: a20 :: a21 :: a22 :: r) cs (some true) = trK2 22 (m (a0 :: a1 :: a2 :: a3 :: a4 :: a5 :: a6 :: a7 :: a8 :: a9 :: a10 :: a11 :: a12 :: a13 :: a14 :: a15 :: a16 :: a17 :: a18 :: a19 :: a20 :: a21 :: some (.fz (.exn c fs)) :: r) cs) := by unfold trK1; rw [se22]
theorem nm23  : xNm 23 (a0 :: a1 :: a2 :: a3 :: a4 :: a5 :: a6 :: a7 :: a8 :: a9 :: a10 :: a11 :: a12 :: a13 :: a14 :: a15 :: a16 :: a17 :: a18 :: a19 :: a20 :: a21 :: a22 :: some (.fz d) :: r) cs = .ok (.fz d) (a0 :: a1 :: a2 :: a3 :: a4 :: a5 :: a6 :: a7 :: a8 :: a9 :: a10 :: a11 :: a12 :: a13 :: a14 :: a15 :: a16 :: a17 :: a18 :: a19 :: a20 :: a21 :: a22 :: some (.fz d) :: r) cs := rfl
theorem nl23  : xNm 23 (a0 :: a1 :: a2 :: a3 :: a4 :: a5 :: a6 :: a7 :: a8 :: a9 :: a10 :: a11 :: a12 :: a13 :: a14 :: a15 :: a16 :: a17 :: a18 :: a19 :: a20 :: a21 :: a22 :: some (.ol os) :: r) cs = .ok (.fz (.lst (frzL os))) (a0 :: a1 :: a2 :: a3 :: a4 :: a5 :: a6 :: a7 :: a8 :: a9 :: a10 :: a11 :: a12 :: a13 :: a14 :: a15 :: a16 :: a17 :: a18 :: a19 :: a20 :: a21 :: a22 :: some (.fz (.lst (frzL os))) :: r) cs := rfl
theorem nd23  : xNm 23 (a0 :: a1 :: a2 :: a3 :: a4 :: a5 :: a6 :: a7 :: a8 :: a9 :: a10 :: a11 :: a12 :: a13 :: a14 :: a15 :: a16 :: a17 :: a18 :: a19 :: a20 :: a21 :: a22 :: some (.od t kvs) :: r) cs = .ok (.fz (.dic t kvs)) (a0 :: a1 :: a2 :: a3 :: a4 :: a5 :: a6 :: a7 :: a8 :: a9 :: a10 :: a11 :: a12 :: a13 :: a14 :: a15 :: a16 :: a17 :: a18 :: a19 :: a20 :: a21 :: a22 :: some (.fz (.dic t kvs)) :: r) cs := rfl
theorem se23  : setE 23 o (a0 :: a1 :: a2 :: a3 :: a4 :: a5 :: a6 :: a7 :: a8 :: a9 :: a10 :: a11 :: a12 :: a13 :: a14 :: a15 :: a16 :: a17 :: a18 :: a19 :: a20 :: a21 :: a22 :: a23 :: r) cs = .nx (a0 :: a1 :: a2 :: a3 :: a4 :: a5 :: a6 :: a7 :: a8 :: a9 :: a10 :: a11 :: a12 :: a13 :: a14 :: a15 :: a16 :: a17 :: a18 :: a19 :: a20 :: a21 :: a22 :: some o :: r) cs := if_pos (by simp)
theorem rv23  : sRetV 23 (a0 :: a1 :: a2 :: a3 :: a4 :: a5 :: a6 :: a7 :: a8 :: a9 :: a10 :: a11 :: a12 :: a13 :: a14 :: a15 :: a16 :: a17 :: a18 :: a19 :: a20 :: a21 :: a22 :: some o :: r) cs = .ret o (a0 :: a1 :: a2 :: a3 :: a4 :: a5 :: a6 :: a7 :: a8 :: a9 :: a10 :: a11 :: a12 :: a13 :: a14 :: a15 :: a16 :: a17 :: a18 :: a19 :: a20 :: a21 :: a22 :: some o :: r) cs := rfl
theorem tg23  : tgNm 23 d (a0 :: a1 :: a2 :: a3 :: a4 :: a5 :: a6 :: a7 :: a8 :: a9 :: a10 :: a11 :: a12 :: a13 :: a14 :: a15 :: a16 :: a17 :: a18 :: a19 :: a20 :: a21 :: a22 :: a23 :: r) = some (a0 :: a1 :: a2 :: a3 :: a4 :: a5 :: a6 :: a7 :: a8 :: a9 :: a10 :: a11 :: a12 :: a13 :: a14 :: a15 :: a16 :: a17 :: a18 :: a19 :: a20 :: a21 :: a22 :: some (.fz d) :: r) := if_pos (by simp)
theorem st23 {x : Option O} : List.set (a0 :: a1 :: a2 :: a3 :: a4 :: a5 :: a6 :: a7 :: a8 :: a9 :: a10 :: a11 :: a12 :: a13 :: a14 :: a15 :: a16 :: a17 :: a18 :: a19 :: a20 :: a21 :: a22 :: a23 :: r) 23 x = (a0 :: a1 :: a2 :: a3 :: a4 :: a5 :: a6 :: a7 :: a8 :: a9 :: a10 :: a11 :: a12 :: a13 :: a14 :: a15 :: a16 :: a17 :: a18 :: a19 :: a20 :: a21 :: a22 :: x :: r) := rfl
theorem ta23 (m : SM) (c : Str) (fs : List (Str × D)) : trK1 23 m c fs (a0 :: a1 :: a2 :: a3 :: a4 :: a5 :: a6 :: a7 :: a8 :: a9 :: a10 :: a11 :: a12 :: a13 :: a14 :: a15 :: a16 :: a17 :: a18 :: a19 :: a20 :: a21 :: a22 :: a23 :: r) cs (some true) = trK2 23 (m (a0 :: a1 :: a2 :: a3 :: a4 :: a5 :: a6 :: a7 :: a8 :: a9 :: a10 :: a11 :: a12 :: a13 :: a14 :: a15 :: a16 :: a17 :: a18 :: a19 :: a20 :: a21 :: a22 :: some (.fz (.exn c fs)) :: r) cs) := by unfold trK1; rw [se23]
end
section
variable {o : O} {env : Ev} {cs : Cells} {x : D} {c : Str} {fs : List (Str × D)}
theorem c_tr2n (n : Nat) : trK2 n (.nx env cs) = .nx (env.set n none) cs := rfl
theorem c_tr2r (n : Nat) : trK2 n (.ret o env cs) = .ret o env cs := rfl
theorem c_trf (n : Nat) (m : SM) : trK1 n m c fs env cs (some false) = .exc (.exn c fs) env cs := rfl
end
section
variable {i j : Int} {x y : Str} {b c : Bool} {d e : D} {ds es : List D} {cs : Cells} {kvs : List (D × D)} {t n : Nat} {ns : List Int} {bs : List Bool}
theorem p_add  : pAdd (.int i) (.int j) cs = some (.fz (.int (i + j))) := rfl
theorem p_addS (h : x.length + y.length ≤ 1000000) : pAdd (.str x) (.str y) cs = some (.fz (.str (x ++ y))) := if_pos h
theorem p_addL (h : ds.length + es.length ≤ 1000000) : pAdd (.lst ds) (.lst es) cs = some (.ol ((ds ++ es).map .fz)) := if_pos h
theorem p_addT (h : (d :: ds).length + es.length ≤ 1000000) : pAdd (.tup (d :: ds)) (.tup es) cs = some (.fz (.tup ((d :: ds) ++ es))) := if_pos ⟨h, Nat.succ_pos _⟩
theorem p_sub  : pSub (.int i) (.int j) cs = some (.fz (.int (i - j))) := rfl
theorem p_mul (h : i.natAbs < 2 ^ 64 ∨ j.natAbs < 2 ^ 64) : pMul (.int i) (.int j) cs = some (.fz (.int (i * j))) := if_pos h
theorem p_mod (h : 0 < j) : pMod (.int i) (.int j) cs = some (.fz (.int (i % j))) := if_pos h
theorem p_fdiv (h : 0 < j ∧ j < 1073741824) : pFdiv (.int i) (.int j) cs = some (.fz (.int (i / j))) := if_pos h
theorem p_neg  : pNeg (.int i) cs = some (.fz (.int (-i))) := rfl
theorem p_eqi  : pEq (.int i) (.int j) cs = some (.fz (.bl (decide (i = j)))) := by simp [pEq, okD, eqD, bO]; by_cases h : i = j <;> simp [h]
theorem p_nei  : pNe (.int i) (.int j) cs = some (.fz (.bl (!decide (i = j)))) := by simp [pNe, okD, eqD, bO]; by_cases h : i = j <;> simp [h]
theorem p_eqs  : pEq (.str x) (.str y) cs = some (.fz (.bl (decide (x = y)))) := by simp [pEq, okD, eqD, bO]; by_cases h : x = y <;> simp [h]
theorem p_nes  : pNe (.str x) (.str y) cs = some (.fz (.bl (!decide (x = y)))) := by simp [pNe, okD, eqD, bO]; by_cases h : x = y <;> simp [h]
theorem p_eqb  : pEq (.bl b) (.bl c) cs = some (.fz (.bl (b == c))) := by simp [pEq, okD, eqD, bO]
theorem p_eq (h : okD 60 d = true) (k : okD 60 e = true) : pEq d e cs = some (.fz (.bl (eqD d e))) := if_pos ⟨h, k⟩
theorem p_ne (h : okD 60 d = true) (k : okD 60 e = true) : pNe d e cs = some (.fz (.bl (!eqD d e))) := if_pos ⟨h, k⟩
theorem p_eqT  : pEq (.tup ds) (.tup []) cs = some (.fz (.bl ds.isEmpty)) := by unfold pEq; split <;> (cases ds <;> rfl)
theorem p_neL (h : okD 60 (.lst ds) = true) : pNe (.lst ds) (.lst []) cs = some (.fz (.bl (!ds.isEmpty))) := by simp only [pNe]; rw [if_pos ⟨h, rfl⟩]; cases ds <;> rfl
theorem p_eqL (h : okD 60 (.lst ds) = true) : pEq (.lst ds) (.lst []) cs = some (.fz (.bl ds.isEmpty)) := by simp only [pEq]; rw [if_pos ⟨h, rfl⟩]; cases ds <;> rfl
theorem p_lt  : pLt (.int i) (.int j) cs = some (.fz (.bl (decide (i < j)))) := rfl
theorem p_le  : pLe (.int i) (.int j) cs = some (.fz (.bl (decide (i ≤ j)))) := rfl
theorem p_gt  : pGt (.int i) (.int j) cs = some (.fz (.bl (decide (j < i)))) := rfl
theorem p_ge  : pGe (.int i) (.int j) cs = some (.fz (.bl (decide (j ≤ i)))) := rfl
theorem p_isnon  : pIs .non .non cs = some (.fz (.bl true)) := rfl
theorem p_notnon  : pNot .non .non cs = some (.fz (.bl false)) := rfl
theorem p_isbl  : pIs (.bl b) .non cs = some (.fz (.bl false)) := rfl
theorem p_notbl  : pNot (.bl b) .non cs = some (.fz (.bl true)) := rfl
theorem p_isint  : pIs (.int i) .non cs = some (.fz (.bl false)) := rfl
theorem p_notint  : pNot (.int i) .non cs = some (.fz (.bl true)) := rfl
theorem p_isstr  : pIs (.str x) .non cs = some (.fz (.bl false)) := rfl
theorem p_notstr  : pNot (.str x) .non cs = some (.fz (.bl true)) := rfl
theorem p_islst  : pIs (.lst ds) .non cs = some (.fz (.bl false)) := rfl
theorem p_notlst  : pNot (.lst ds) .non cs = some (.fz (.bl true)) := rfl
theorem p_istup  : pIs (.tup ds) .non cs = some (.fz (.bl false)) := rfl
theorem p_nottup  : pNot (.tup ds) .non cs = some (.fz (.bl true)) := rfl
theorem p_isdic  : pIs (.dic t kvs) .non cs = some (.fz (.bl false)) := rfl
theorem p_notdic  : pNot (.dic t kvs) .non cs = some (.fz (.bl true)) := rfl
theorem p_isscr  : pIs (.scr ds) .non cs = some (.fz (.bl false)) := rfl
theorem p_notscr  : pNot (.scr ds) .non cs = some (.fz (.bl true)) := rfl
theorem p_iscel  : pIs (.cel n) .non cs = some (.fz (.bl false)) := rfl
theorem p_notcel  : pNot (.cel n) .non cs = some (.fz (.bl true)) := rfl
theorem p_isobj {k : Str} {fs : List (Str × D)}  : pIs (.obj k fs) .non cs = some (.fz (.bl false)) := rfl
theorem p_notobj {k : Str} {fs : List (Str × D)}  : pNot (.obj k fs) .non cs = some (.fz (.bl true)) := rfl
theorem p_isexn {k : Str} {fs : List (Str × D)}  : pIs (.exn k fs) .non cs = some (.fz (.bl false)) := rfl
theorem p_notexn {k : Str} {fs : List (Str × D)}  : pNot (.exn k fs) .non cs = some (.fz (.bl true)) := rfl
theorem p_Tint_non  : pIsT ["int"] .non cs = some (.fz (.bl false)) := by show bO _ = _; rw [show (List.any _ _) = false from by decide]; rfl
theorem p_Tint_bl  : pIsT ["int"] (.bl b) cs = some (.fz (.bl true)) := by show bO _ = _; rw [show (List.any _ _) = true from by decide]; rfl
theorem p_Tint_int  : pIsT ["int"] (.int i) cs = some (.fz (.bl true)) := by show bO _ = _; rw [show (List.any _ _) = true from by decide]; rfl
theorem p_Tint_str  : pIsT ["int"] (.str x) cs = some (.fz (.bl false)) := by show bO _ = _; rw [show (List.any _ _) = false from by decide]; rfl
theorem p_Tint_lst  : pIsT ["int"] (.lst ds) cs = some (.fz (.bl false)) := by show bO _ = _; rw [show (List.any _ _) = false from by decide]; rfl
theorem p_Tint_tup  : pIsT ["int"] (.tup ds) cs = some (.fz (.bl false)) := by show bO _ = _; rw [show (List.any _ _) = false from by decide]; rfl
theorem p_Tint_dic  : pIsT ["int"] (.dic t kvs) cs = some (.fz (.bl false)) := by show bO _ = _; rw [show (List.any _ _) = false from by decide]; rfl
theorem p_Tint_scr  : pIsT ["int"] (.scr ds) cs = some (.fz (.bl false)) := by show bO _ = _; rw [show (List.any _ _) = false from by decide]; rfl
theorem p_Tbool_non  : pIsT ["bool"] .non cs = some (.fz (.bl false)) := by show bO _ = _; rw [show (List.any _ _) = false from by decide]; rfl
theorem p_Tbool_bl  : pIsT ["bool"] (.bl b) cs = some (.fz (.bl true)) := by show bO _ = _; rw [show (List.any _ _) = true from by decide]; rfl
theorem p_Tbool_int  : pIsT ["bool"] (.int i) cs = some (.fz (.bl false)) := by show bO _ = _; rw [show (List.any _ _) = false from by decide]; rfl
theorem p_Tbool_str  : pIsT ["bool"] (.str x) cs = some (.fz (.bl false)) := by show bO _ = _; rw [show (List.any _ _) = false from by decide]; rfl
theorem p_Tbool_lst  : pIsT ["bool"] (.lst ds) cs = some (.fz (.bl false)) := by show bO _ = _; rw [show (List.any _ _) = false from by decide]; rfl
theorem p_Tbool_tup  : pIsT ["bool"] (.tup ds) cs = some (.fz (.bl false)) := by show bO _ = _; rw [show (List.any _ _) = false from by decide]; rfl
theorem p_Tbool_dic  : pIsT ["bool"] (.dic t kvs) cs = some (.fz (.bl false)) := by show bO _ = _; rw [show (List.any _ _) = false from by decide]; rfl
theorem p_Tbool_scr  : pIsT ["bool"] (.scr ds) cs = some (.fz (.bl false)) := by show bO _ = _; rw [show (List.any _ _) = false from by decide]; rfl
theorem p_Tstr_non  : pIsT ["str"] .non cs = some (.fz (.bl false)) := by show bO _ = _; rw [show (List.any _ _) = false from by decide]; rfl
theorem p_Tstr_bl  : pIsT ["str"] (.bl b) cs = some (.fz (.bl false)) := by show bO _ = _; rw [show (List.any _ _) = false from by decide]; rfl
theorem p_Tstr_int  : pIsT ["str"] (.int i) cs = some (.fz (.bl false)) := by show bO _ = _; rw [show (List.any _ _) = false from by decide]; rfl
theorem p_Tstr_str  : pIsT ["str"] (.str x) cs = some (.fz (.bl true)) := by show bO _ = _; rw [show (List.any _ _) = true from by decide]; rfl
theorem p_Tstr_lst  : pIsT ["str"] (.lst ds) cs = some (.fz (.bl false)) := by show bO _ = _; rw [show (List.any _ _) = false from by decide]; rfl
theorem p_Tstr_tup  : pIsT ["str"] (.tup ds) cs = some (.fz (.bl false)) := by show bO _ = _; rw [show (List.any _ _) = false from by decide]; rfl
theorem p_Tstr_dic  : pIsT ["str"] (.dic t kvs) cs = some (.fz (.bl false)) := by show bO _ = _; rw [show (List.any _ _) = false from by decide]; rfl
theorem p_Tstr_scr  : pIsT ["str"] (.scr ds) cs = some (.fz (.bl false)) := by show bO _ = _; rw [show (List.any _ _) = false from by decide]; rfl
theorem p_Tlist_non  : pIsT ["list"] .non cs = some (.fz (.bl false)) := by show bO _ = _; rw [show (List.any _ _) = false from by decide]; rfl
theorem p_Tlist_bl  : pIsT ["list"] (.bl b) cs = some (.fz (.bl false)) := by show bO _ = _; rw [show (List.any _ _) = false from by decide]; rfl
theorem p_Tlist_int  : pIsT ["list"] (.int i) cs = some (.fz (.bl false)) := by show bO _ = _; rw [show (List.any _ _) = false from by decide]; rfl
theorem p_Tlist_str  : pIsT ["list"] (.str x) cs = some (.fz (.bl false)) := by show bO _ = _; rw [show (List.any _ _) = false from by decide]; rfl
theorem p_Tlist_lst  : pIsT ["list"] (.lst ds) cs = some (.fz (.bl true)) := by show bO _ = _; rw [show (List.any _ _) = true from by decide]; rfl
theorem p_Tlist_tup  : pIsT ["list"] (.tup ds) cs = some (.fz (.bl false)) := by show bO _ = _; rw [show (List.any _ _) = false from by decide]; rfl
theorem p_Tlist_dic  : pIsT ["list"] (.dic t kvs) cs = some (.fz (.bl false)) := by show bO _ = _; rw [show (List.any _ _) = false from by decide]; rfl
theorem p_Tlist_scr  : pIsT ["list"] (.scr ds) cs = some (.fz (.bl true)) := by show bO _ = _; rw [show (List.any _ _) = true from by decide]; rfl
theorem p_Ttuple_non  : pIsT ["tuple"] .non cs = some (.fz (.bl false)) := by show bO _ = _; rw [show (List.any _ _) = false from by decide]; rfl
theorem p_Ttuple_bl  : pIsT ["tuple"] (.bl b) cs = some (.fz (.bl false)) := by show bO _ = _; rw [show (List.any _ _) = false from by decide]; rfl
theorem p_Ttuple_int  : pIsT ["tuple"] (.int i) cs = some (.fz (.bl false)) := by show bO _ = _; rw [show (List.any _ _) = false from by decide]; rfl
theorem p_Ttuple_str  : pIsT ["tuple"] (.str x) cs = some (.fz (.bl false)) := by show bO _ = _; rw [show (List.any _ _) = false from by decide]; rfl
theorem p_Ttuple_lst  : pIsT ["tuple"] (.lst ds) cs = some (.fz (.bl false)) := by show bO _ = _; rw [show (List.any _ _) = false from by decide]; rfl
theorem p_Ttuple_tup  : pIsT ["tuple"] (.tup ds) cs = some (.fz (.bl true)) := by show bO _ = _; rw [show (List.any _ _) = true from by decide]; rfl
theorem p_Ttuple_dic  : pIsT ["tuple"] (.dic t kvs) cs = some (.fz (.bl false)) := by show bO _ = _; rw [show (List.any _ _) = false from by decide]; rfl
theorem p_Ttuple_scr  : pIsT ["tuple"] (.scr ds) cs = some (.fz (.bl false)) := by show bO _ = _; rw [show (List.any _ _) = false from by decide]; rfl
theorem p_Tdict_non  : pIsT ["dict"] .non cs = some (.fz (.bl false)) := by show bO _ = _; rw [show (List.any _ _) = false from by decide]; rfl
theorem p_Tdict_bl  : pIsT ["dict"] (.bl b) cs = some (.fz (.bl false)) := by show bO _ = _; rw [show (List.any _ _) = false from by decide]; rfl
theorem p_Tdict_int  : pIsT ["dict"] (.int i) cs = some (.fz (.bl false)) := by show bO _ = _; rw [show (List.any _ _) = false from by decide]; rfl
theorem p_Tdict_str  : pIsT ["dict"] (.str x) cs = some (.fz (.bl false)) := by show bO _ = _; rw [show (List.any _ _) = false from by decide]; rfl
theorem p_Tdict_lst  : pIsT ["dict"] (.lst ds) cs = some (.fz (.bl false)) := by show bO _ = _; rw [show (List.any _ _) = false from by decide]; rfl
theorem p_Tdict_tup  : pIsT ["dict"] (.tup ds) cs = some (.fz (.bl false)) := by show bO _ = _; rw [show (List.any _ _) = false from by decide]; rfl
theorem p_Tdict_dic  : pIsT ["dict"] (.dic t kvs) cs = some (.fz (.bl true)) := by show bO _ = _; rw [show (List.any _ _) = true from by decide]; rfl
theorem p_Tdict_scr  : pIsT ["dict"] (.scr ds) cs = some (.fz (.bl false)) := by show bO _ = _; rw [show (List.any _ _) = false from by decide]; rfl
theorem p_Tlist_tuple_non  : pIsT ["list", "tuple"] .non cs = some (.fz (.bl false)) := by show bO _ = _; rw [show (List.any _ _) = false from by decide]; rfl
theorem p_Tlist_tuple_bl  : pIsT ["list", "tuple"] (.bl b) cs = some (.fz (.bl false)) := by show bO _ = _; rw [show (List.any _ _) = false from by decide]; rfl
theorem p_Tlist_tuple_int  : pIsT ["list", "tuple"] (.int i) cs = some (.fz (.bl false)) := by show bO _ = _; rw [show (List.any _ _) = false from by decide]; rfl
theorem p_Tlist_tuple_str  : pIsT ["list", "tuple"] (.str x) cs = some (.fz (.bl false)) := by show bO _ = _; rw [show (List.any _ _) = false from by decide]; rfl
theorem p_Tlist_tuple_lst  : pIsT ["list", "tuple"] (.lst ds) cs = some (.fz (.bl true)) := by show bO _ = _; rw [show (List.any _ _) = true from by decide]; rfl
theorem p_Tlist_tuple_tup  : pIsT ["list", "tuple"] (.tup ds) cs = some (.fz (.bl true)) := by show bO _ = _; rw [show (List.any _ _) = true from by decide]; rfl
theorem p_Tlist_tuple_dic  : pIsT ["list", "tuple"] (.dic t kvs) cs = some (.fz (.bl false)) := by show bO _ = _; rw [show (List.any _ _) = false from by decide]; rfl
theorem p_Tlist_tuple_scr  : pIsT ["list", "tuple"] (.scr ds) cs = some (.fz (.bl true)) := by show bO _ = _; rw [show (List.any _ _) = true from by decide]; rfl
theorem p_Tlist_tuple_dict_non  : pIsT ["list", "tuple", "dict"] .non cs = some (.fz (.bl false)) := by show bO _ = _; rw [show (List.any _ _) = false from by decide]; rfl
theorem p_Tlist_tuple_dict_bl  : pIsT ["list", "tuple", "dict"] (.bl b) cs = some (.fz (.bl false)) := by show bO _ = _; rw [show (List.any _ _) = false from by decide]; rfl
theorem p_Tlist_tuple_dict_int  : pIsT ["list", "tuple", "dict"] (.int i) cs = some (.fz (.bl false)) := by show bO _ = _; rw [show (List.any _ _) = false from by decide]; rfl
theorem p_Tlist_tuple_dict_str  : pIsT ["list", "tuple", "dict"] (.str x) cs = some (.fz (.bl false)) := by show bO _ = _; rw [show (List.any _ _) = false from by decide]; rfl
theorem p_Tlist_tuple_dict_lst  : pIsT ["list", "tuple", "dict"] (.lst ds) cs = some (.fz (.bl true)) := by show bO _ = _; rw [show (List.any _ _) = true from by decide]; rfl
theorem p_Tlist_tuple_dict_tup  : pIsT ["list", "tuple", "dict"] (.tup ds) cs = some (.fz (.bl true)) := by show bO _ = _; rw [show (List.any _ _) = true from by decide]; rfl
theorem p_Tlist_tuple_dict_dic  : pIsT ["list", "tuple", "dict"] (.dic t kvs) cs = some (.fz (.bl true)) := by show bO _ = _; rw [show (List.any _ _) = true from by decide]; rfl
theorem p_Tlist_tuple_dict_scr  : pIsT ["list", "tuple", "dict"] (.scr ds) cs = some (.fz (.bl true)) := by show bO _ = _; rw [show (List.any _ _) = true from by decide]; rfl
theorem c_bqtt  : (true == true) = true := rfl
theorem c_bqtf  : (true == false) = false := rfl
theorem c_bqft  : (false == true) = false := rfl
theorem c_bqff  : (false == false) = true := rfl
theorem c_bqs {α : Type} [BEq α] [ReflBEq α] (a : α) : (a == a) = true := BEq.rfl
theorem p_eqnn  : pEq .non .non cs = some (.fz (.bl true)) := rfl
theorem c_lm {α β : Type} (f : α → β) (l : List α) : (l.map f).length = l.length := List.length_map _
theorem c_anyid (l : List Bool) : (l.map id) = l := List.map_id _
theorem ofString_inj {a b : String} (h : Str.ofString a = Str.ofString b) : a = b := by
  rw [Str.ofString_eq_toList, Str.ofString_eq_toList] at h
  have h2 : (a.toList.map Char.toNat).toArray = (b.toList.map Char.toNat).toArray := congrArg Str.cps h
  have h3 : a.toList.map Char.toNat = b.toList.map Char.toNat := by simpa using h2
  have h4 : a.toList = b.toList := List.map_inj_right (fun x y e => Char.ext (UInt32.toNat_inj.mp e)) |>.mp h3
  exact String.toList_inj.mp h4
theorem ofString_ne (a b : String) (h : (a == b) = false) : (Str.ofString a = Str.ofString b) = False := eq_false fun k => by simp [ofString_inj k] at h
theorem c_strs (a b : String) : decide (Str.ofString a = Str.ofString b) = decide (a = b) := decide_eq_decide.mpr ⟨ofString_inj, fun h => h ▸ rfl⟩
theorem c_decT {p : Prop} [Decidable p] (h : p) : decide p = true := decide_eq_true h
theorem c_dTrue  : decide True = true := by decide
theorem c_dFalse  : decide False = false := by decide
theorem c_dself {α : Type} [DecidableEq α] (a : α) : decide (a = a) = true := decide_eq_true rfl
def lenIs {α : Type} : List α → Nat → Bool
  | [], 0 => true
  | _ :: l, n + 1 => lenIs l n
  | _, _ => false
theorem lenIs_eq {α : Type} : ∀ (l : List α) (k : Nat), lenIs l k = decide (l.length = k)
  | [], 0 => rfl
  | [], k + 1 => rfl
  | _ :: l, 0 => rfl
  | _ :: l, n + 1 => by simp [lenIs, lenIs_eq l n]
theorem c_lenk0 {α : Type} (l : List α) : decide ((l.length : Int) = 0) = lenIs l 0 := by rw [lenIs_eq]; exact decide_eq_decide.mpr ⟨fun h => Int.ofNat.inj h, fun h => h ▸ rfl⟩
theorem c_lenk1 {α : Type} (l : List α) : decide ((l.length : Int) = 1) = lenIs l 1 := by rw [lenIs_eq]; exact decide_eq_decide.mpr ⟨fun h => Int.ofNat.inj h, fun h => h ▸ rfl⟩
theorem c_lenk2 {α : Type} (l : List α) : decide ((l.length : Int) = 2) = lenIs l 2 := by rw [lenIs_eq]; exact decide_eq_decide.mpr ⟨fun h => Int.ofNat.inj h, fun h => h ▸ rfl⟩
theorem c_lenk3 {α : Type} (l : List α) : decide ((l.length : Int) = 3) = lenIs l 3 := by rw [lenIs_eq]; exact decide_eq_decide.mpr ⟨fun h => Int.ofNat.inj h, fun h => h ▸ rfl⟩
theorem c_lenk4 {α : Type} (l : List α) : decide ((l.length : Int) = 4) = lenIs l 4 := by rw [lenIs_eq]; exact decide_eq_decide.mpr ⟨fun h => Int.ofNat.inj h, fun h => h ▸ rfl⟩
theorem c_lenk5 {α : Type} (l : List α) : decide ((l.length : Int) = 5) = lenIs l 5 := by rw [lenIs_eq]; exact decide_eq_decide.mpr ⟨fun h => Int.ofNat.inj h, fun h => h ▸ rfl⟩
theorem c_lenk6 {α : Type} (l : List α) : decide ((l.length : Int) = 6) = lenIs l 6 := by rw [lenIs_eq]; exact decide_eq_decide.mpr ⟨fun h => Int.ofNat.inj h, fun h => h ▸ rfl⟩
theorem c_lenk7 {α : Type} (l : List α) : decide ((l.length : Int) = 7) = lenIs l 7 := by rw [lenIs_eq]; exact decide_eq_decide.mpr ⟨fun h => Int.ofNat.inj h, fun h => h ▸ rfl⟩
theorem c_lenk8 {α : Type} (l : List α) : decide ((l.length : Int) = 8) = lenIs l 8 := by rw [lenIs_eq]; exact decide_eq_decide.mpr ⟨fun h => Int.ofNat.inj h, fun h => h ▸ rfl⟩
theorem c_lenk9 {α : Type} (l : List α) : decide ((l.length : Int) = 9) = lenIs l 9 := by rw [lenIs_eq]; exact decide_eq_decide.mpr ⟨fun h => Int.ofNat.inj h, fun h => h ▸ rfl⟩
theorem c_lenk10 {α : Type} (l : List α) : decide ((l.length : Int) = 10) = lenIs l 10 := by rw [lenIs_eq]; exact decide_eq_decide.mpr ⟨fun h => Int.ofNat.inj h, fun h => h ▸ rfl⟩
theorem c_lenk11 {α : Type} (l : List α) : decide ((l.length : Int) = 11) = lenIs l 11 := by rw [lenIs_eq]; exact decide_eq_decide.mpr ⟨fun h => Int.ofNat.inj h, fun h => h ▸ rfl⟩
theorem c_lenk12 {α : Type} (l : List α) : decide ((l.length : Int) = 12) = lenIs l 12 := by rw [lenIs_eq]; exact decide_eq_decide.mpr ⟨fun h => Int.ofNat.inj h, fun h => h ▸ rfl⟩
theorem c_len0 {α : Type} : lenIs ([] : List α) 0 = true := rfl
theorem c_len1 {α : Type} (x : α) (l : List α) : lenIs (x :: l) 0 = false := rfl
theorem c_len2 {α : Type} (x : α) (l : List α) (n : Nat) : lenIs (x :: l) (n + 1) = lenIs l n := rfl
theorem c_len3 {α : Type} (n : Nat) : lenIs ([] : List α) (n + 1) = false := rfl
theorem ixN_nat {n k : Nat} (h : k < n) : ixN n (k : Int) = some k := by
  unfold ixN
  rw [if_pos (by omega), if_pos (by omega)]
  simp
theorem at_k {α : Type} {xs : List α} {k : Nat} {d : α} (h : xs[k]? = some d) : atI xs (k : Int) = some d := by
  unfold atI
  rw [ixN_nat (List.getElem?_eq_some_iff.mp h).1]
  exact h
theorem p_ixlst0  : pIx (.lst (d :: ds)) (.int 0) cs = some (.fz d) := by show Option.map _ (atI _ ((0 : Nat) : Int)) = _; rw [at_k rfl]; rfl
theorem p_ixtup0  : pIx (.tup (d :: ds)) (.int 0) cs = some (.fz d) := by show Option.map _ (atI _ ((0 : Nat) : Int)) = _; rw [at_k rfl]; rfl
theorem p_ixlst1 {y0 : D}  : pIx (.lst (y0 :: d :: ds)) (.int 1) cs = some (.fz d) := by show Option.map _ (atI _ ((1 : Nat) : Int)) = _; rw [at_k rfl]; rfl
theorem p_ixtup1 {y0 : D}  : pIx (.tup (y0 :: d :: ds)) (.int 1) cs = some (.fz d) := by show Option.map _ (atI _ ((1 : Nat) : Int)) = _; rw [at_k rfl]; rfl
theorem p_ixlst2 {y0 y1 : D}  : pIx (.lst (y0 :: y1 :: d :: ds)) (.int 2) cs = some (.fz d) := by show Option.map _ (atI _ ((2 : Nat) : Int)) = _; rw [at_k rfl]; rfl
theorem p_ixtup2 {y0 y1 : D}  : pIx (.tup (y0 :: y1 :: d :: ds)) (.int 2) cs = some (.fz d) := by show Option.map _ (atI _ ((2 : Nat) : Int)) = _; rw [at_k rfl]; rfl
theorem p_ixlst3 {y0 y1 y2 : D}  : pIx (.lst (y0 :: y1 :: y2 :: d :: ds)) (.int 3) cs = some (.fz d) := by show Option.map _ (atI _ ((3 : Nat) : Int)) = _; rw [at_k rfl]; rfl
theorem p_ixtup3 {y0 y1 y2 : D}  : pIx (.tup (y0 :: y1 :: y2 :: d :: ds)) (.int 3) cs = some (.fz d) := by show Option.map _ (atI _ ((3 : Nat) : Int)) = _; rw [at_k rfl]; rfl
theorem p_ixlst4 {y0 y1 y2 y3 : D}  : pIx (.lst (y0 :: y1 :: y2 :: y3 :: d :: ds)) (.int 4) cs = some (.fz d) := by show Option.map _ (atI _ ((4 : Nat) : Int)) = _; rw [at_k rfl]; rfl
theorem p_ixtup4 {y0 y1 y2 y3 : D}  : pIx (.tup (y0 :: y1 :: y2 :: y3 :: d :: ds)) (.int 4) cs = some (.fz d) := by show Option.map _ (atI _ ((4 : Nat) : Int)) = _; rw [at_k rfl]; rfl
theorem p_ixlst5 {y0 y1 y2 y3 y4 : D}  : pIx (.lst (y0 :: y1 :: y2 :: y3 :: y4 :: d :: ds)) (.int 5) cs = some (.fz d) := by show Option.map _ (atI _ ((5 : Nat) : Int)) = _; rw [at_k rfl]; rfl
theorem p_ixtup5 {y0 y1 y2 y3 y4 : D}  : pIx (.tup (y0 :: y1 :: y2 :: y3 :: y4 :: d :: ds)) (.int 5) cs = some (.fz d) := by show Option.map _ (atI _ ((5 : Nat) : Int)) = _; rw [at_k rfl]; rfl
theorem p_ixlst6 {y0 y1 y2 y3 y4 y5 : D}  : pIx (.lst (y0 :: y1 :: y2 :: y3 :: y4 :: y5 :: d :: ds)) (.int 6) cs = some (.fz d) := by show Option.map _ (atI _ ((6 : Nat) : Int)) = _; rw [at_k rfl]; rfl
theorem p_ixtup6 {y0 y1 y2 y3 y4 y5 : D}  : pIx (.tup (y0 :: y1 :: y2 :: y3 :: y4 :: y5 :: d :: ds)) (.int 6) cs = some (.fz d) := by show Option.map _ (atI _ ((6 : Nat) : Int)) = _; rw [at_k rfl]; rfl
theorem p_ixlst7 {y0 y1 y2 y3 y4 y5 y6 : D}  : pIx (.lst (y0 :: y1 :: y2 :: y3 :: y4 :: y5 :: y6 :: d :: ds)) (.int 7) cs = some (.fz d) := by show Option.map _ (atI _ ((7 : Nat) : Int)) = _; rw [at_k rfl]; rfl
theorem p_ixtup7 {y0 y1 y2 y3 y4 y5 y6 : D}  : pIx (.tup (y0 :: y1 :: y2 :: y3 :: y4 :: y5 :: y6 :: d :: ds)) (.int 7) cs = some (.fz d) := by show Option.map _ (atI _ ((7 : Nat) : Int)) = _; rw [at_k rfl]; rfl
theorem p_ixlst8 {y0 y1 y2 y3 y4 y5 y6 y7 : D}  : pIx (.lst (y0 :: y1 :: y2 :: y3 :: y4 :: y5 :: y6 :: y7 :: d :: ds)) (.int 8) cs = some (.fz d) := by show Option.map _ (atI _ ((8 : Nat) : Int)) = _; rw [at_k rfl]; rfl
theorem p_ixtup8 {y0 y1 y2 y3 y4 y5 y6 y7 : D}  : pIx (.tup (y0 :: y1 :: y2 :: y3 :: y4 :: y5 :: y6 :: y7 :: d :: ds)) (.int 8) cs = some (.fz d) := by show Option.map _ (atI _ ((8 : Nat) : Int)) = _; rw [at_k rfl]; rfl
theorem p_ixlst9 {y0 y1 y2 y3 y4 y5 y6 y7 y8 : D}  : pIx (.lst (y0 :: y1 :: y2 :: y3 :: y4 :: y5 :: y6 :: y7 :: y8 :: d :: ds)) (.int 9) cs = some (.fz d) := by show Option.map _ (atI _ ((9 : Nat) : Int)) = _; rw [at_k rfl]; rfl
theorem p_ixtup9 {y0 y1 y2 y3 y4 y5 y6 y7 y8 : D}  : pIx (.tup (y0 :: y1 :: y2 :: y3 :: y4 :: y5 :: y6 :: y7 :: y8 :: d :: ds)) (.int 9) cs = some (.fz d) := by show Option.map _ (atI _ ((9 : Nat) : Int)) = _; rw [at_k rfl]; rfl
theorem p_lenl  : pLen [.lst ds] cs = some (.fz (.int (ds.length : Nat))) := rfl
theorem p_lent  : pLen [.tup ds] cs = some (.fz (.int (ds.length : Nat))) := rfl
theorem p_lenr  : pLen [.scr ds] cs = some (.fz (.int (ds.length : Nat))) := rfl
theorem p_lend  : pLen [.dic 0 kvs] cs = some (.fz (.int (kvs.length : Nat))) := rfl
theorem p_lens (h : x.length ≤ 1000000) : pLen [.str x] cs = some (.fz (.int (x.length : Nat))) := by simp only [pLen, lenD, if_pos h]; rfl
theorem p_all (h : toBls ds = some bs) : pAll [.lst ds] cs = some (.fz (.bl (bs.all id))) := by simp only [pAll, h]; rfl
theorem p_any (h : toBls ds = some bs) : pAny [.lst ds] cs = some (.fz (.bl (bs.any id))) := by simp only [pAny, h]; rfl
theorem toBls_map {α : Type} (f : α → Bool) : ∀ l : List α, toBls (l.map fun a => D.bl (f a)) = some (l.map f)
  | [] => rfl
  | a :: l => by simp only [List.map_cons, toBls, toBls_map f l]; rfl
theorem toInts_map {α : Type} (f : α → Int) : ∀ l : List α, toInts (l.map fun a => D.int (f a)) = some (l.map f)
  | [] => rfl
  | a :: l => by simp only [List.map_cons, toInts, toInts_map f l]; rfl
theorem p_allm {α : Type} (f : α → Bool) (l : List α) : pAll [.lst (l.map fun a => D.bl (f a))] cs = some (.fz (.bl (l.all f))) := by rw [p_all (toBls_map f l), List.all_map]; rfl
theorem p_anym {α : Type} (f : α → Bool) (l : List α) : pAny [.lst (l.map fun a => D.bl (f a))] cs = some (.fz (.bl (l.any f))) := by rw [p_any (toBls_map f l), List.any_map]; rfl
theorem p_all0  : pAll [.lst []] cs = some (.fz (.bl true)) := rfl
theorem p_any0  : pAny [.lst []] cs = some (.fz (.bl false)) := rfl
theorem p_sum (h : toInts ds = some ns) : pSum [.lst ds] cs = some (.fz (.int ns.sum)) := by simp only [pSum, h]; rfl
theorem p_int  : pInt [.int i] cs = some (.fz (.int i)) := rfl
theorem p_intb  : pInt [.bl b] cs = some (.fz (.int (if b then 1 else 0))) := rfl
theorem p_abs  : pAbs [.int i] cs = some (.fz (.int (if i < 0 then -i else i))) := rfl
theorem p_max2  : pMax [.int i, .int j] cs = some (.fz (.int (if j > i then j else i))) := rfl
theorem p_min2  : pMin [.int i, .int j] cs = some (.fz (.int (if j < i then j else i))) := rfl
theorem p_listl  : pList [.lst ds] cs = some (.ol (ds.map .fz)) := rfl
theorem p_listt  : pList [.tup ds] cs = some (.ol (ds.map .fz)) := rfl
theorem p_listr  : pList [.scr ds] cs = some (.ol (ds.map .fz)) := rfl
theorem p_tupl  : pTuple [.lst ds] cs = some (.fz (.tup ds)) := rfl
theorem p_tupt  : pTuple [.tup ds] cs = some (.fz (.tup ds)) := rfl
theorem u_bits (m : XM) {env : Ev} : xBits m env cs = op1K (fun d _ => match d with | .int i => iO (Builtin.Int.intBits i : Nat) | _ => none) (m env cs) := u_op1 _ _
end
theorem u_fn {n np : Nat} {b : SM} {ds : List D} {cs : Cells} (h : ds.length = np) : fnM n np b ds cs = fnK (b (ds.map (fun d => some (O.fz d)) ++ List.replicate (n - np) none) cs) := by
  unfold fnM
  rw [if_pos h]
  cases b (ds.map (fun d => some (O.fz d)) ++ List.replicate (n - np) none) cs <;> rfl
end GM
/-! GM23: comprehensions and loops of the models, by what a step does. -/
namespace GM
open PySem PySem.Spec L2
theorem lcGo_enc {α : Type} {vs : List Nat} {t : TgM} {c e : XM} {env0 : Ev} {cs : Cells} (enc : α → D) (p : α → Bool) (fo : α → O) : ∀ {as : List α},
    (∀ a ∈ as, ∃ e1, t (enc a) env0 = some e1 ∧ c e1 cs = .ok (.fz (.bl (p a))) e1 cs ∧ (p a = true → e e1 cs = .ok (fo a) e1 cs) ∧ wipeE e1 vs = env0) →
    ∀ (env : Ev) (acc : List O), wipeE env vs = env0 → ∃ env', wipeE env' vs = env0 ∧ lcGo vs t c e (as.map enc) env cs acc = .ok (acc ++ (as.filter p).map fo) env' cs
  | [], _, env, acc, he => ⟨env, he, by simp [lcGo]⟩
  | a :: as, h, env, acc, he => by
    obtain ⟨e1, h1, h2, h3, h4⟩ := h a (by simp)
    cases q : p a with
    | true =>
      obtain ⟨env', k1, k2⟩ := lcGo_enc enc p fo (as := as) (fun x hx => h x (by simp [hx])) e1 (acc ++ [fo a]) h4
      refine ⟨env', k1, ?_⟩
      rw [List.map_cons, List.filter_cons_of_pos q, List.map_cons, List.append_cons, ← k2]
      simp only [lcGo, he, h1, h2, q, h3 q, frz_fz]
    | false =>
      obtain ⟨env', k1, k2⟩ := lcGo_enc enc p fo (as := as) (fun x hx => h x (by simp [hx])) e1 acc h4
      refine ⟨env', k1, ?_⟩
      rw [List.map_cons, List.filter_cons_of_neg (by simp [q]), ← k2]
      simp only [lcGo, he, h1, h2, q, frz_fz]
/-- a comprehension whose step is plain: with a filter -/
theorem lc_if {α : Type} {mi : LM} {vs : List Nat} {t : TgM} {c e : XM} {env env1 : Ev} {cs cs1 : Cells} (enc : α → D) (p : α → Bool) (fo : α → O) (as : List α) (hi : mi env cs = .ok (as.map enc) env1 cs1) (hz : as.length ≤ 1000000)
    (h : ∀ a ∈ as, ∃ e1, t (enc a) (wipeE env1 vs) = some e1 ∧ c e1 cs1 = .ok (.fz (.bl (p a))) e1 cs1 ∧ (p a = true → e e1 cs1 = .ok (fo a) e1 cs1) ∧ wipeE e1 vs = wipeE env1 vs) :
    xLc mi vs t c e env cs = .ok (.ol ((as.filter p).map fo)) (wipeE env1 vs) cs1 := by
  obtain ⟨env', k1, k2⟩ := lcGo_enc enc p fo h env1 [] rfl
  unfold xLc
  rw [hi]
  show (if (as.map enc).length ≤ 1000000 then _ else _) = _
  rw [List.length_map, if_pos hz, k2, List.nil_append]
  show XRes.ok (.ol _) (wipeE env' vs) cs1 = _
  rw [k1]
/-- without one -/
theorem lc_all {α : Type} {mi : LM} {vs : List Nat} {t : TgM} {e : XM} {env env1 : Ev} {cs cs1 : Cells} (enc : α → D) (fo : α → O) (as : List α) (hi : mi env cs = .ok (as.map enc) env1 cs1) (hz : as.length ≤ 1000000)
    (h : ∀ a ∈ as, ∃ e1, t (enc a) (wipeE env1 vs) = some e1 ∧ e e1 cs1 = .ok (fo a) e1 cs1 ∧ wipeE e1 vs = wipeE env1 vs) :
    xLc mi vs t (xC (.bl true)) e env cs = .ok (.ol (as.map fo)) (wipeE env1 vs) cs1 := by
  rw [lc_if enc (fun _ => true) fo as hi hz fun a ha => ?_, List.filter_eq_self.mpr fun _ _ => rfl]
  obtain ⟨e1, h1, h2, h3⟩ := h a ha
  exact ⟨e1, h1, rfl, fun _ => h2, h3⟩
/-- over the items as they are -/
theorem lc_D {mi : LM} {vs : List Nat} {t : TgM} {e : XM} {env env1 : Ev} {cs cs1 : Cells} (ds : List D) (fo : D → O) (hi : mi env cs = .ok ds env1 cs1) (hz : ds.length ≤ 1000000)
    (h : ∀ a ∈ ds, ∃ e1, t a (wipeE env1 vs) = some e1 ∧ e e1 cs1 = .ok (fo a) e1 cs1 ∧ wipeE e1 vs = wipeE env1 vs) :
    xLc mi vs t (xC (.bl true)) e env cs = .ok (.ol (ds.map fo)) (wipeE env1 vs) cs1 := lc_all (fun d => d) fo ds (by rw [hi, List.map_id']) hz h
/-- a comprehension whose step changes cells (and names) -/
theorem lcGo_inv {vs : List Nat} {t : TgM} {e : XM} {I : Nat → List O → Ev → Cells → Prop} {N : Nat} : ∀ {ds : List D} {j : Nat},
    (∀ d ∈ ds, ∀ j acc env cs, j < N → I j acc env cs → ∃ e1 e3 o cs3, t d env = some e1 ∧ e e1 cs = .ok o e3 cs3 ∧ I (j + 1) (acc ++ [o]) (wipeE e3 vs) cs3) →
    ∀ (env : Ev) (acc : List O) (cs : Cells), j + ds.length ≤ N → I j acc (wipeE env vs) cs → ∃ env' acc' cs', lcGo vs t (xC (.bl true)) e ds env cs acc = .ok acc' env' cs' ∧ I (j + ds.length) acc' (wipeE env' vs) cs'
  | [], j, _, env, acc, cs, _, hI => ⟨env, acc, cs, rfl, hI⟩
  | d :: ds, j, h, env, acc, cs, hN, hI => by
    simp only [List.length_cons] at hN
    obtain ⟨e1, e3, o, cs3, h1, h2, h4⟩ := h d (by simp) j acc _ cs (by omega) hI
    obtain ⟨env', acc', cs', k2, k3⟩ := lcGo_inv (I := I) (N := N) (ds := ds) (j := j + 1) (fun x hx => h x (by simp [hx])) e3 (acc ++ [o]) cs3 (by omega) h4
    refine ⟨env', acc', cs', ?_, ?_⟩
    · rw [← k2]
      simp only [lcGo, h1, run_c, frz_fz, h2]
    · rw [List.length_cons, Nat.add_comm ds.length 1, ← Nat.add_assoc]; exact k3
theorem lc_inv {mi : LM} {vs : List Nat} {t : TgM} {e : XM} {env env1 : Ev} {cs cs1 : Cells} (I : Nat → List O → Ev → Cells → Prop) (ds : List D) (hi : mi env cs = .ok ds env1 cs1) (hz : ds.length ≤ 1000000) (h0 : I 0 [] (wipeE env1 vs) cs1)
    (h : ∀ d ∈ ds, ∀ j acc env cs, j < ds.length → I j acc env cs → ∃ e1 e3 o cs3, t d env = some e1 ∧ e e1 cs = .ok o e3 cs3 ∧ I (j + 1) (acc ++ [o]) (wipeE e3 vs) cs3) :
    ∃ acc env' cs', xLc mi vs t (xC (.bl true)) e env cs = .ok (.ol acc) env' cs' ∧ I ds.length acc env' cs' := by
  obtain ⟨env', acc', cs', k2, k3⟩ := lcGo_inv (I := I) (N := ds.length) (j := 0) h env1 [] cs1 (by omega) h0
  refine ⟨acc', _, cs', ?_, by simpa using k3⟩
  unfold xLc
  rw [hi]
  show (if ds.length ≤ 1000000 then _ else _) = _
  rw [if_pos hz, k2]
/-- a for, by what holds ahead of each turn and at the end -/
theorem for_run {t : TgM} {b : SM} (I : List D → Ev → Cells → Prop) (P : SRes → Prop)
    (hs : ∀ d r env cs, I (d :: r) env cs → ∃ env1, t d env = some env1 ∧ ((∃ env2 cs2, (b env1 cs = .nx env2 cs2 ∨ b env1 cs = .cnt env2 cs2) ∧ I r env2 cs2) ∨ (∃ env2 cs2, b env1 cs = .brk env2 cs2 ∧ P (.nx env2 cs2)) ∨ (∃ o env2 cs2, b env1 cs = .ret o env2 cs2 ∧ P (.ret o env2 cs2)) ∨ ∃ x env2 cs2, b env1 cs = .exc x env2 cs2 ∧ P (.exc x env2 cs2)))
    (he : ∀ env cs, I [] env cs → P (.nx env cs)) : ∀ {ds : List D} {env : Ev} {cs : Cells}, I ds env cs → P (forGo t b ds env cs)
  | [], env, cs, h => he env cs h
  | d :: r, env, cs, h => by
    obtain ⟨env1, h1, h2⟩ := hs d r env cs h
    rw [f_cons, h1, c_foK1]
    rcases h2 with ⟨env2, cs2, h2 | h2, h3⟩ | ⟨env2, cs2, h2, h3⟩ | ⟨o, env2, cs2, h2, h3⟩ | ⟨x, env2, cs2, h2, h3⟩
    · rw [h2]; exact for_run I P hs he h3
    · rw [h2]; exact for_run I P hs he h3
    · rw [h2]; exact h3
    · rw [h2]; exact h3
    · rw [h2]; exact h3
/-- a for that goes to its end -/
theorem for_nx {t : TgM} {b : SM} {ds : List D} {env : Ev} {cs : Cells} (I : List D → Ev → Cells → Prop) (h0 : I ds env cs)
    (hs : ∀ d r env cs, I (d :: r) env cs → ∃ env1 env2 cs2, t d env = some env1 ∧ b env1 cs = .nx env2 cs2 ∧ I r env2 cs2) : ∃ env' cs', forGo t b ds env cs = .nx env' cs' ∧ I [] env' cs' := by
  refine for_run (P := fun r => ∃ env' cs', r = .nx env' cs' ∧ I [] env' cs') I (fun d r env cs h => ?_) (fun env cs h => ⟨env, cs, rfl, h⟩) h0
  obtain ⟨env1, env2, cs2, h1, h2, h3⟩ := hs d r env cs h
  exact ⟨env1, h1, .inl ⟨env2, cs2, .inl h2, h3⟩⟩
end GM
namespace Kx
open PySem PySem.Spec L2 GM
def top (i : Nat) : Stmt := PySem.Challenge.pw_groupmemory_k62_whole_formulas.main.body.getD i (.Pass ⟨0, 0, 0, 0⟩)
def okErr (c : Str) : Bool := decide (c ∈ (["InvalidCount", "InvalidFormula"] : List Str))
def bt_InvalidCount : List String := ["NoneType"]
def own_InvalidCount : List (Str × Bool) := [("InvalidCount", true), ("InvalidFormula", false)]
def bt_InvalidFormula : List String := ["NoneType"]
def own_InvalidFormula : List (Str × Bool) := [("InvalidCount", false), ("InvalidFormula", true)]
def catch_LentError (k : Str) : Option Bool := if k = "InvalidCount" then some true else if k = "InvalidFormula" then some true else none
abbrev s_is_whole : Stmt := top 5
abbrev N_is_whole : List Str := ["value"]
def b_is_whole : SM :=
  (sRet (xAnd (xOp1 (pIsT ["int"]) (xNm 0)) (xNot (xOp1 (pIsT ["bool"]) (xNm 0)))))
def m_is_whole : FM := fnM 1 1 b_is_whole
abbrev s_is_count : Stmt := top 6
abbrev N_is_count : List Str := ["value"]
def b_is_count : SM :=
  (sRet (xAnd (xCall m_is_whole (lCons (xNm 0) lNil)) (xOp2 pGe (xNm 0) (xC (.int 0)))))
def m_is_count : FM := fnM 1 1 b_is_count
abbrev s_all_bits : Stmt := top 8
abbrev N_all_bits : List Str := ["many", "found", "_", "row", "bit"]
def b_all_bits : SM :=
  (sSeq (sAsg 1 (xLst (oCons (xLst oNil) oNil)))
      (sSeq (sFor (lRng1 (lCons (xNm 0) lNil)) (tgNm 2)
      (sAsg 1 (xLc2 (lItems (xNm 1)) [3, 4] (tgNm 3) (xC (.bl true)) (lItems (xTup (lCons (xC (.int 0)) (lCons (xC (.int 1)) lNil)))) [4] (tgNm 4) (xC (.bl true)) (xLst (oStar (xNm 3) (oCons (xNm 4) oNil))))))
      (sRetV 1)))
def m_all_bits : FM := fnM 5 1 b_all_bits
abbrev s_is_formula_of : Stmt := top 10
abbrev N_is_formula_of : List Str := ["many", "value", "late"]
def b_is_formula_of (self : FM) : SM :=
  (sSeq (sIf (xOr (xNot (xOp1 (pIsT ["tuple"]) (xNm 1))) (xOr (xOp2 pEq (xNm 1) (xTup lNil)) (xNot (xOp1 (pIsT ["str"]) (xOp2 pIx (xNm 1) (xC (.int 0)))))))
      (sRet (xC (.bl false)))
      sNil)
      (sSeq (sIf (xOp2 pEq (xOp2 pIx (xNm 1) (xC (.int 0))) (xC (.str "in")))
      (sRet (xAnd (xOp2 pEq (xKeep (xOpL pLen (lCons (xNm 1) lNil))) (xC (.int 2))) (xAnd (xCall m_is_count (lCons (xOp2 pIx (xNm 1) (xC (.int 1))) lNil)) (xOp2 pLt (xOp2 pIx (xNm 1) (xC (.int 1))) (xNm 0)))))
      sNil)
      (sSeq (sIf (xOp2 pEq (xOp2 pIx (xNm 1) (xC (.int 0))) (xC (.str "not")))
      (sRet (xAnd (xOp2 pEq (xKeep (xOpL pLen (lCons (xNm 1) lNil))) (xC (.int 2))) (xCall self (lCons (xNm 0) (lCons (xOp2 pIx (xNm 1) (xC (.int 1))) lNil)))))
      sNil)
      (sRet (xAnd (xOp2 pEq (xOp2 pIx (xNm 1) (xC (.int 0))) (xC (.str "and"))) (xAnd (xOp2 pEq (xKeep (xOpL pLen (lCons (xNm 1) lNil))) (xC (.int 3))) (xOpL pAll (lCons (xLc (lItems (xSl (xNm 1) (lCons (xC (.int 1)) lNil) lNil)) [2] (tgNm 2) (xC (.bl true)) (xCall self (lCons (xNm 0) (lCons (xNm 2) lNil)))) lNil))))))))
def m_is_formula_of : Nat → FM
  | 0 => fun _ _ => .bad
  | k + 1 => fnM 3 2 (b_is_formula_of (m_is_formula_of k))
abbrev s_check_formula : Stmt := top 11
abbrev N_check_formula : List Str := ["many", "value"]
def b_check_formula : SM :=
  (sSeq (sIf (xNot (xCall m_is_count (lCons (xNm 0) lNil)))
      (sRaise "InvalidCount" (xNm 0))
      sNil)
      (sIf (xNot (xCall (m_is_formula_of 12) (lCons (xNm 0) (lCons (xNm 1) lNil))))
      (sRaise "InvalidFormula" (xNm 1))
      sNil))
def m_check_formula : FM := fnM 2 2 b_check_formula
abbrev s_is_formula : Stmt := top 12
abbrev N_is_formula : List Str := ["many", "value"]
def b_is_formula : SM :=
  (sSeq (sIf (xNot (xCall m_is_count (lCons (xNm 0) lNil)))
      (sRaise "InvalidCount" (xNm 0))
      sNil)
      (sRet (xCall (m_is_formula_of 12) (lCons (xNm 0) (lCons (xNm 1) lNil)))))
def m_is_formula : FM := fnM 2 2 b_is_formula
abbrev s_formula_at : Stmt := top 13
abbrev N_formula_at : List Str := ["formula", "bits"]
def b_formula_at (self : FM) : SM :=
  (sSeq (sIf (xOp2 pEq (xOp2 pIx (xNm 0) (xC (.int 0))) (xC (.str "in")))
      (sRet (xOp2 pIx (xNm 1) (xOp2 pIx (xNm 0) (xC (.int 1)))))
      sNil)
      (sSeq (sIf (xOp2 pEq (xOp2 pIx (xNm 0) (xC (.int 0))) (xC (.str "not")))
      (sRet (xOp2 pSub (xC (.int 1)) (xCall self (lCons (xOp2 pIx (xNm 0) (xC (.int 1))) (lCons (xNm 1) lNil)))))
      sNil)
      (sRet (xOp2 pMul (xCall self (lCons (xOp2 pIx (xNm 0) (xC (.int 1))) (lCons (xNm 1) lNil))) (xCall self (lCons (xOp2 pIx (xNm 0) (xC (.int 2))) (lCons (xNm 1) lNil)))))))
def m_formula_at : Nat → FM
  | 0 => fun _ _ => .bad
  | k + 1 => fnM 2 2 (b_formula_at (m_formula_at k))
abbrev s_formula_row : Stmt := top 14
abbrev N_formula_row : List Str := ["many", "formula", "bits"]
def b_formula_row : SM :=
  (sSeq (sExpr (xCall m_check_formula (lCons (xNm 0) (lCons (xNm 1) lNil))))
      (sRet (xLc (lItems (xCall m_all_bits (lCons (xNm 0) lNil))) [2] (tgNm 2) (xC (.bl true)) (xCall (m_formula_at 12) (lCons (xNm 1) (lCons (xNm 2) lNil))))))
def m_formula_row : FM := fnM 3 2 b_formula_row
abbrev s_depth_there : Stmt := top 15
abbrev N_depth_there : List Str := ["formula", "late"]
def b_depth_there (self : FM) : SM :=
  (sRet (xIf (xOp2 pEq (xOp2 pIx (xNm 0) (xC (.int 0))) (xC (.str "in"))) (xC (.int 0)) (xOp2 pAdd (xC (.int 1)) (xOpL pMax (lCons (xLc (lItems (xSl (xNm 0) (lCons (xC (.int 1)) lNil) lNil)) [1] (tgNm 1) (xC (.bl true)) (xCall self (lCons (xNm 1) lNil))) lNil)))))
def m_depth_there : Nat → FM
  | 0 => fun _ _ => .bad
  | k + 1 => fnM 2 1 (b_depth_there (m_depth_there k))
abbrev s_formula_depth : Stmt := top 16
abbrev N_formula_depth : List Str := ["many", "formula"]
def b_formula_depth : SM :=
  (sSeq (sExpr (xCall m_check_formula (lCons (xNm 0) (lCons (xNm 1) lNil))))
      (sRet (xCall (m_depth_there 12) (lCons (xNm 1) lNil))))
def m_formula_depth : FM := fnM 2 2 b_formula_depth
abbrev s__law_purse : Stmt := top 18
abbrev N__law_purse : List Str := ["script", "at", "seed"]
def b__law_purse : SM :=
  (sSeq (sAsg 2 (xOpL pSum (lCons (xSl (xNm 0) (lCons (xNm 1) lNil) (lCons (xOp2 pAdd (xNm 1) (xC (.int 1))) lNil)) lNil)))
      (sRet (xLst (oCons (xOp2 pMod (xOpL pInt (lCons (xOpL pMax (lCons (xOp2 pSub (xNm 2) (xOp2 pPow (xC (.int 10)) (xC (.int 18)))) (lCons (xC (.int 0)) lNil))) lNil)) (xOp2 pPow (xOp2 pPow (xC (.int 10)) (xC (.int 60))) (xC (.int 8)))) (oCons (xOp2 pMod (xOpL pInt (lCons (xNm 2) lNil)) (xC (.int 2147483629))) (oCons (xC (.int 0)) (oCons (xNm 1) oNil)))))))
def m__law_purse : FM := fnM 3 2 b__law_purse
abbrev s__law_mixed : Stmt := top 19
abbrev N__law_mixed : List Str := ["seed", "spin", "at", "mixed"]
def b__law_mixed : SM :=
  (sSeq (sAsg 3 (xOp2 pAdd (xOp2 pMul (xNm 0) (xC (.int 69069))) (xOp2 pMul (xOp2 pMul (xC (.int 104729)) (xNm 1)) (xNm 1))))
      (sSeq (sAsg 3 (xOp2 pMod (xOpL pInt (lCons (xOp2 pAdd (xOp2 pAdd (xNm 3) (xOp2 pMul (xC (.int 7919)) (xNm 2))) (xNm 1)) lNil)) (xC (.int 2147483647))))
      (sSeq (sAsg 3 (xOp2 pMod (xOpL pInt (lCons (xOp2 pAdd (xOp2 pMul (xNm 3) (xNm 3)) (xC (.int 40503))) lNil)) (xC (.int 2147483629))))
      (sRet (xOp2 pMod (xOpL pInt (lCons (xOp2 pMul (xNm 3) (xC (.int 48271))) lNil)) (xC (.int 2147483587)))))))
def m__law_mixed : FM := fnM 4 3 b__law_mixed
abbrev s__law_draw : Stmt := top 20
abbrev N__law_draw : List Str := ["purse", "many", "drawn", "found", "piece"]
def b__law_draw : SM :=
  (sSeq (sIf (xOp2 pGt (xOp2 pIx (xNm 0) (xC (.int 0))) (xC (.int 0)))
      (sSeq (sAsg 2 (xOp2 pMod (xOpL pInt (lCons (xOp2 pIx (xNm 0) (xC (.int 0))) lNil)) (xNm 1)))
      (sSeq (sSetC (xOp2 pFdiv (xOp2 pIx (xNm 0) (xC (.int 0))) (xNm 1)) (xNm 0) (xC (.int 0)))
      (sRetV 2)))
      sNil)
      (sSeq (sAsg 3 (xC (.int 0)))
      (sSeq (sFor (lRng1 (lCons (xOp2 pAdd (xC (.int 1)) (xOp2 pFdiv (xBits (xNm 1)) (xC (.int 28)))) lNil)) (tgNm 4)
      (sSeq (sSetC (xOp2 pAdd (xOp2 pIx (xNm 0) (xC (.int 2))) (xC (.int 1))) (xNm 0) (xC (.int 2)))
      (sAsg 3 (xOp2 pAdd (xOp2 pMul (xNm 3) (xC (.int 2147483587))) (xCall m__law_mixed (lCons (xOp2 pIx (xNm 0) (xC (.int 1))) (lCons (xOp2 pIx (xNm 0) (xC (.int 2))) (lCons (xOp2 pIx (xNm 0) (xC (.int 3))) lNil))))))))
      (sRet (xOp2 pMod (xOpL pInt (lCons (xNm 3) lNil)) (xNm 1))))))
def m__law_draw : FM := fnM 5 2 b__law_draw
abbrev s__law_one_of : Stmt := top 21
abbrev N__law_one_of : List Str := ["purse", "some"]
def b__law_one_of : SM :=
  (sRet (xOp2 pIx (xNm 1) (xCall m__law_draw (lCons (xNm 0) (lCons (xKeep (xOpL pLen (lCons (xNm 1) lNil))) lNil)))))
def m__law_one_of : FM := fnM 2 2 b__law_one_of
abbrev s__law_same : Stmt := top 22
abbrev N__law_same : List Str := ["told", "due", "is_like", "key", "one", "other"]
def b__law_same (self : FM) : SM :=
  (sSeq (sIf (xOp1 (pIsT ["dict"]) (xNm 1))
      (sSeq (sAsg 2 (xAnd (xOp1 (pIsT ["dict"]) (xNm 0)) (xAnd (xOp2 pEq (xKeep (xOpL pLen (lCons (xNm 0) lNil))) (xKeep (xOpL pLen (lCons (xNm 1) lNil)))) (xOpL pAll (lCons (xLcK 1 [3] (tgNm 3) (xC (.bl true)) (xOp2 pIn (xNm 3) (xNm 0))) lNil)))))
      (sRet (xAnd (xNm 2) (xOpL pAll (lCons (xLcK 1 [3] (tgNm 3) (xC (.bl true)) (xKeep (xCall self (lCons (xOp2 pIx (xNm 0) (xNm 3)) (lCons (xOp2 pIx (xNm 1) (xNm 3)) lNil))))) lNil)))))
      sNil)
      (sSeq (sIf (xOp1 (pIsT ["list", "tuple"]) (xNm 1))
      (sSeq (sAsg 2 (xAnd (xOp2 pEq (xOp1 (pIsT ["list"]) (xNm 0)) (xOp1 (pIsT ["list"]) (xNm 1))) (xOp2 pEq (xOp1 (pIsT ["tuple"]) (xNm 0)) (xOp1 (pIsT ["tuple"]) (xNm 1)))))
      (sRet (xAnd (xNm 2) (xAnd (xOp2 pEq (xKeep (xOpL pLen (lCons (xNm 0) lNil))) (xKeep (xOpL pLen (lCons (xNm 1) lNil)))) (xOpL pAll (lCons (xLc (lZip (lCons (xNm 0) (lCons (xNm 1) lNil))) [4, 5] (tgTup (tgCons (tgNm 4) (tgCons (tgNm 5) tgNil))) (xC (.bl true)) (xKeep (xCall self (lCons (xNm 4) (lCons (xNm 5) lNil))))) lNil))))))
      sNil)
      (sSeq (sAsg 2 (xAnd (xNot (xOp1 (pIsT ["list", "tuple", "dict"]) (xNm 0))) (xAnd (xOp2 pEq (xOp1 (pIsT ["int"]) (xNm 0)) (xOp1 (pIsT ["int"]) (xNm 1))) (xOp2 pEq (xOp1 (pIsT ["str"]) (xNm 0)) (xOp1 (pIsT ["str"]) (xNm 1))))))
      (sRet (xAnd (xNm 2) (xAnd (xOp2 pEq (xOp2 pIs (xNm 0) (xC .non)) (xOp2 pIs (xNm 1) (xC .non))) (xAnd (xOp2 pEq (xOp1 (pIsT ["bool"]) (xNm 0)) (xOp1 (pIsT ["bool"]) (xNm 1))) (xOp2 pEq (xNm 0) (xNm 1)))))))))
def m__law_same : Nat → FM
  | 0 => fun _ _ => .bad
  | k + 1 => fnM 6 2 (b__law_same (m__law_same k))
abbrev s__law_all_bits : Stmt := top 23
abbrev N__law_all_bits : List Str := ["many", "found", "turn", "row"]
def b__law_all_bits : SM :=
  (sSeq (sAsg 1 (xLst (oCons (xLst oNil) oNil)))
      (sSeq (sFor (lRng1 (lCons (xNm 0) lNil)) (tgNm 2)
      (sAsg 1 (xOp2 pAdd (xLc (lItems (xNm 1)) [3] (tgNm 3) (xC (.bl true)) (xOp2 pAdd (xNm 3) (xLst (oCons (xC (.int 0)) oNil)))) (xLc (lItems (xNm 1)) [3] (tgNm 3) (xC (.bl true)) (xOp2 pAdd (xNm 3) (xLst (oCons (xC (.int 1)) oNil)))))))
      (sRet (xOpL pSort (lCons (xNm 1) lNil)))))
def m__law_all_bits : FM := fnM 4 1 b__law_all_bits
abbrev s__law_formula : Stmt := top 24
abbrev N__law_formula : List Str := ["purse", "many", "deep", "way"]
def b__law_formula (self : FM) : SM :=
  (sSeq (sAsg 3 (xIf (xOp2 pGt (xNm 2) (xC (.int 0))) (xCall m__law_draw (lCons (xNm 0) (lCons (xC (.int 4)) lNil))) (xC (.int 0))))
      (sSeq (sIf (xOp2 pEq (xNm 3) (xC (.int 0)))
      (sRet (xTup (lCons (xC (.str "in")) (lCons (xCall m__law_draw (lCons (xNm 0) (lCons (xNm 1) lNil))) lNil))))
      sNil)
      (sSeq (sIf (xOp2 pEq (xNm 3) (xC (.int 1)))
      (sRet (xTup (lCons (xC (.str "not")) (lCons (xCall self (lCons (xNm 0) (lCons (xNm 1) (lCons (xOp2 pSub (xNm 2) (xC (.int 1))) lNil)))) lNil))))
      sNil)
      (sRet (xTup (lCons (xC (.str "and")) (lCons (xCall self (lCons (xNm 0) (lCons (xNm 1) (lCons (xOp2 pSub (xNm 2) (xC (.int 1))) lNil)))) (lCons (xCall self (lCons (xNm 0) (lCons (xNm 1) (lCons (xOp2 pSub (xNm 2) (xC (.int 1))) lNil)))) lNil))))))))
def m__law_formula : Nat → FM
  | 0 => fun _ _ => .bad
  | k + 1 => fnM 4 3 (b__law_formula (m__law_formula k))
abbrev s__law_at : Stmt := top 25
abbrev N__law_at : List Str := ["formula", "bits"]
def b__law_at (self : FM) : SM :=
  (sSeq (sIf (xOp2 pEq (xOp2 pIx (xNm 0) (xC (.int 0))) (xC (.str "in")))
      (sRet (xOp2 pIx (xNm 1) (xOp2 pIx (xNm 0) (xC (.int 1)))))
      sNil)
      (sSeq (sIf (xOp2 pEq (xOp2 pIx (xNm 0) (xC (.int 0))) (xC (.str "not")))
      (sRet (xOp2 pSub (xC (.int 1)) (xCall self (lCons (xOp2 pIx (xNm 0) (xC (.int 1))) (lCons (xNm 1) lNil)))))
      sNil)
      (sRet (xOpL pMin (lCons (xCall self (lCons (xOp2 pIx (xNm 0) (xC (.int 1))) (lCons (xNm 1) lNil))) (lCons (xCall self (lCons (xOp2 pIx (xNm 0) (xC (.int 2))) (lCons (xNm 1) lNil))) lNil))))))
def m__law_at : Nat → FM
  | 0 => fun _ _ => .bad
  | k + 1 => fnM 2 2 (b__law_at (m__law_at k))
abbrev s__law_deep : Stmt := top 26
abbrev N__law_deep : List Str := ["formula", "late"]
def b__law_deep (self : FM) : SM :=
  (sRet (xIf (xOp2 pEq (xOp2 pIx (xNm 0) (xC (.int 0))) (xC (.str "in"))) (xC (.int 0)) (xOp2 pAdd (xC (.int 1)) (xOpL pMax (lCons (xLc (lItems (xSl (xNm 0) (lCons (xC (.int 1)) lNil) lNil)) [1] (tgNm 1) (xC (.bl true)) (xCall self (lCons (xNm 1) lNil))) lNil)))))
def m__law_deep : Nat → FM
  | 0 => fun _ _ => .bad
  | k + 1 => fnM 2 1 (b__law_deep (m__law_deep k))
abbrev s__law_right_form : Stmt := top 27
abbrev N__law_right_form : List Str := ["many", "value"]
def b__law_right_form (self : FM) : SM :=
  (sSeq (sIf (xOr (xNot (xOp1 (pIsT ["tuple"]) (xNm 1))) (xOr (xOp2 pEq (xNm 1) (xTup lNil)) (xNot (xOp1 (pIsT ["str"]) (xOp2 pIx (xNm 1) (xC (.int 0)))))))
      (sRet (xC (.bl false)))
      sNil)
      (sSeq (sIf (xOp2 pEq (xOp2 pIx (xNm 1) (xC (.int 0))) (xC (.str "in")))
      (sRet (xAnd (xOp2 pEq (xKeep (xOpL pLen (lCons (xNm 1) lNil))) (xC (.int 2))) (xAnd (xOp1 (pIsT ["int"]) (xOp2 pIx (xNm 1) (xC (.int 1)))) (xAnd (xNot (xOp1 (pIsT ["bool"]) (xOp2 pIx (xNm 1) (xC (.int 1))))) (xChain pLe pLt (xC (.int 0)) (xOp2 pIx (xNm 1) (xC (.int 1))) (xNm 0))))))
      sNil)
      (sSeq (sIf (xOp2 pEq (xOp2 pIx (xNm 1) (xC (.int 0))) (xC (.str "not")))
      (sRet (xAnd (xOp2 pEq (xKeep (xOpL pLen (lCons (xNm 1) lNil))) (xC (.int 2))) (xCall self (lCons (xNm 0) (lCons (xOp2 pIx (xNm 1) (xC (.int 1))) lNil)))))
      sNil)
      (sRet (xAnd (xOp2 pEq (xOp2 pIx (xNm 1) (xC (.int 0))) (xC (.str "and"))) (xAnd (xOp2 pEq (xKeep (xOpL pLen (lCons (xNm 1) lNil))) (xC (.int 3))) (xAnd (xCall self (lCons (xNm 0) (lCons (xOp2 pIx (xNm 1) (xC (.int 1))) lNil))) (xCall self (lCons (xNm 0) (lCons (xOp2 pIx (xNm 1) (xC (.int 2))) lNil))))))))))
def m__law_right_form : Nat → FM
  | 0 => fun _ _ => .bad
  | k + 1 => fnM 2 2 (b__law_right_form (m__law_right_form k))
abbrev s__law_bent : Stmt := top 28
abbrev N__law_bent : List Str := ["purse", "many", "formula", "odds", "turn"]
def b__law_bent : SM :=
  (sSeq (sAsg 3 (xLst (oCons (xC .non) (oCons (xTup lNil) (oCons (xLst oNil) (oCons (xC (.str "in")) (oCons (xTup (lCons (xC (.str "in")) lNil)) (oCons (xTup (lCons (xC (.str "in")) (lCons (xNm 1) lNil))) (oCons (xTup (lCons (xC (.str "in")) (lCons (xOp2 pSub (xC (.int 0)) (xC (.int 1))) lNil))) (oCons (xTup (lCons (xC (.str "in")) (lCons (xC (.bl true)) lNil))) (oCons (xTup (lCons (xC (.str "in")) (lCons (xC (.str "0")) lNil))) (oCons (xLst (oCons (xC (.str "in")) (oCons (xC (.int 0)) oNil))) (oCons (xTup (lCons (xC (.str "or")) (lCons (xNm 2) (lCons (xNm 2) lNil)))) oNil)))))))))))))
      (sSeq (sAsg 3 (xOp2 pAdd (xNm 3) (xLst (oCons (xTup (lCons (xC (.str "not")) lNil)) (oCons (xTup (lCons (xC (.str "not")) (lCons (xNm 2) (lCons (xNm 2) lNil)))) (oCons (xTup (lCons (xC (.str "and")) (lCons (xNm 2) lNil))) (oCons (xTup (lCons (xC (.str "and")) (lCons (xNm 2) (lCons (xC .non) lNil)))) oNil)))))))
      (sSeq (sAsg 3 (xOp2 pAdd (xNm 3) (xLst (oCons (xOpL pList (lCons (xNm 2) lNil)) (oCons (xOp2 pAdd (xNm 2) (xTup (lCons (xC .non) lNil))) (oCons (xTup (lCons (xC (.str "not")) (lCons (xOpL pList (lCons (xNm 2) lNil)) lNil))) (oCons (xTup (lCons (xC (.str "and")) (lCons (xNm 2) (lCons (xTup (lCons (xC (.str "in")) (lCons (xNm 1) lNil))) lNil)))) (oCons (xTup (lCons (xC (.int 0)) (lCons (xNm 2) lNil))) (oCons (fun env cs => .ok (.od 0 []) env cs) (oCons (xC (.int 5)) (oCons (xTup (lCons (xC (.str "NOT")) (lCons (xNm 2) lNil))) (oCons (xTup (lCons (xC (.str "and")) (lCons (xTup lNil) (lCons (xNm 2) lNil)))) (oCons (xTup (lCons (xC (.str "in")) (lCons (xNm 2) lNil))) oNil)))))))))))))
      (sRet (xOp2 pAdd (xLc (lRng1 (lCons (xC (.int 6)) lNil)) [4] (tgNm 4) (xC (.bl true)) (xCall m__law_one_of (lCons (xNm 0) (lCons (xNm 3) lNil)))) (xLst (oCons (xTup (lCons (xC (.str "and")) (lCons (xCall m__law_one_of (lCons (xNm 0) (lCons (xNm 3) lNil))) (lCons (xNm 2) lNil)))) oNil)))))))
def m__law_bent : FM := fnM 5 3 b__law_bent
abbrev s__law_heard : Stmt := top 29
abbrev N__law_heard : List Str := ["way", "many", "value", "caught", "error", "kinds"]
def b__law_heard : SM :=
  (sSeq (sAsg 3 (xC .non))
      (sSeq (sTry 4 catch_LentError
      (sSeq (sIf (xOp2 pEq (xNm 0) (xC (.int 0)))
      (sRet (xLst (oCons (xC (.str "told")) (oCons (xCall m_is_formula (lCons (xNm 1) (lCons (xNm 2) lNil))) oNil))))
      sNil)
      (sRet (xLst (oCons (xC (.str "told")) (oCons (xIf (xOp2 pEq (xNm 0) (xC (.int 1))) (xCall m_formula_row (lCons (xNm 1) (lCons (xNm 2) lNil))) (xCall m_formula_depth (lCons (xNm 1) (lCons (xNm 2) lNil)))) oNil)))))
      (sAsg 3 (xNm 4)))
      (sSeq (sAsg 5 (xLst (oCons (xOp1 (pIsO bt_InvalidCount own_InvalidCount) (xNm 3)) (oCons (xOp1 (pIsO bt_InvalidFormula own_InvalidFormula) (xNm 3)) oNil))))
      (sRet (xLst (oCons (xIf (xOp2 pEq (xMeth isLst (pMe cntD) (xNm 5) (lCons (xC (.bl true)) lNil)) (xC (.int 1))) (xMeth isLst (pMe idxD) (xNm 5) (lCons (xC (.bl true)) lNil)) (xC (.int 9))) (oCons (xOp1 (pVal okErr) (xNm 3)) oNil)))))))
def m__law_heard : FM := fnM 6 3 b__law_heard
abbrev s__law_right : Stmt := top 30
abbrev N__law_right : List Str := ["purse", "many", "one", "other", "rows", "bits", "formula", "told", "like", "both", "low", "high", "value", "is_good", "way"]
def b__law_right : SM :=
  (sSeq (sPar 2 3 (lCons (xCall (m__law_formula 12) (lCons (xNm 0) (lCons (xNm 1) (lCons (xC (.int 3)) lNil)))) (lCons (xCall (m__law_formula 12) (lCons (xNm 0) (lCons (xNm 1) (lCons (xC (.int 3)) lNil)))) lNil)))
      (sSeq (sAsg 4 (xLc (lItems (xTup (lCons (xNm 2) (lCons (xNm 3) lNil)))) [6] (tgNm 6) (xC (.bl true)) (xLc (lItems (xCall m__law_all_bits (lCons (xNm 1) lNil))) [5] (tgNm 5) (xC (.bl true)) (xCall (m__law_at 12) (lCons (xNm 6) (lCons (xNm 5) lNil))))))
      (sSeq (sAsg 7 (xLst (oCons (xCall m_formula_row (lCons (xNm 1) (lCons (xNm 2) lNil))) (oCons (xCallK m_formula_row 0 2 [1, 0] lNil (lCons (xNm 2) (lCons (xNm 1) lNil))) oNil))))
      (sSeq (sIf (xOr (xNot (xKeep (xCall (m__law_same 12) (lCons (xNm 7) (lCons (xLst (oCons (xOp2 pIx (xNm 4) (xC (.int 0))) (oCons (xOp2 pIx (xNm 4) (xC (.int 0))) oNil))) lNil))))) (xNot (xKeep (xCall (m__law_same 12) (lCons (xLst (oCons (xCall m_formula_depth (lCons (xNm 1) (lCons (xNm 2) lNil))) (oCons (xCallK m_formula_depth 0 2 [1, 0] lNil (lCons (xNm 2) (lCons (xNm 1) lNil))) oNil))) (lCons (xOp2 pMul (xLst (oCons (xCall (m__law_deep 12) (lCons (xNm 2) lNil)) oNil)) (xC (.int 2))) lNil))))))
      (sRet (xC (.bl false)))
      sNil)
      (sSeq (sIf (xNot (xKeep (xCall (m__law_same 12) (lCons (xLst (oCons (xCall m_is_formula (lCons (xNm 1) (lCons (xNm 2) lNil))) (oCons (xCallK m_is_formula 0 2 [1, 0] lNil (lCons (xNm 3) (lCons (xNm 1) lNil))) oNil))) (lCons (xLst (oCons (xC (.bl true)) (oCons (xC (.bl true)) oNil))) lNil)))))
      (sRet (xC (.bl false)))
      sNil)
      (sSeq (sAppAt 7 0 (xC (.str "more")))
      (sSeq (sAsg 8 (xLst (oCons (xCall m_formula_row (lCons (xNm 1) (lCons (xTup (lCons (xC (.str "not")) (lCons (xTup (lCons (xC (.str "not")) (lCons (xNm 2) lNil))) lNil))) lNil))) (oCons (xCall m_formula_row (lCons (xNm 1) (lCons (xTup (lCons (xC (.str "and")) (lCons (xNm 2) (lCons (xNm 2) lNil)))) lNil))) (oCons (xCall m_formula_row (lCons (xNm 1) (lCons (xTup (lCons (xC (.str "and")) (lCons (xNm 2) (lCons (xNm 3) lNil)))) lNil))) (oCons (xCall m_formula_row (lCons (xNm 1) (lCons (xTup (lCons (xC (.str "and")) (lCons (xNm 3) (lCons (xNm 2) lNil)))) lNil))) oNil))))))
      (sSeq (sAsg 9 (xLc (lZip (lCons (xOp2 pIx (xNm 4) (xC (.int 0))) (lCons (xOp2 pIx (xNm 4) (xC (.int 1))) lNil))) [10, 11] (tgTup (tgCons (tgNm 10) (tgCons (tgNm 11) tgNil))) (xC (.bl true)) (xOp2 pMul (xNm 10) (xNm 11))))
      (sSeq (sIf (xOr (xNot (xKeep (xCall (m__law_same 12) (lCons (xNm 8) (lCons (xLst (oCons (xOp2 pIx (xNm 4) (xC (.int 0))) (oCons (xOp2 pIx (xNm 4) (xC (.int 0))) (oCons (xNm 9) (oCons (xNm 9) oNil))))) lNil))))) (xOp2 pNe (xCall m_formula_depth (lCons (xNm 1) (lCons (xTup (lCons (xC (.str "and")) (lCons (xNm 2) (lCons (xNm 3) lNil)))) lNil))) (xOp2 pAdd (xC (.int 1)) (xOpL pMax (lCons (xCall (m__law_deep 12) (lCons (xNm 2) lNil)) (lCons (xCall (m__law_deep 12) (lCons (xNm 3) lNil)) lNil))))))
      (sRet (xC (.bl false)))
      sNil)
      (sSeq (sFor (lItems (xCall m__law_bent (lCons (xNm 0) (lCons (xNm 1) (lCons (xNm 2) lNil))))) (tgNm 12)
      (sSeq (sAsg 13 (xCall (m__law_right_form 12) (lCons (xNm 1) (lCons (xNm 12) lNil))))
      (sSeq (sIf (xNot (xKeep (xCall (m__law_same 12) (lCons (xCall m_is_formula (lCons (xNm 1) (lCons (xNm 12) lNil))) (lCons (xNm 13) lNil)))))
      (sRet (xC (.bl false)))
      sNil)
      (sIf (xAnd (xNot (xNm 13)) (xNot (xKeep (xCall (m__law_same 12) (lCons (xLc (lItems (xTup (lCons (xC (.int 1)) (lCons (xC (.int 2)) lNil)))) [14] (tgNm 14) (xC (.bl true)) (xCall m__law_heard (lCons (xNm 14) (lCons (xNm 1) (lCons (xNm 12) lNil))))) (lCons (xOp2 pMul (xLst (oCons (xLst (oCons (xC (.int 1)) (oCons (xNm 12) oNil))) oNil)) (xC (.int 2))) lNil))))))
      (sRet (xC (.bl false)))
      sNil))))
      (sRet (xC (.bl true)))))))))))))
def m__law_right : FM := fnM 15 2 b__law_right
abbrev s_law : Stmt := top 31
abbrev N_law : List Str := ["script", "at", "purse", "spin", "odd", "way"]
def b_law : SM :=
  (sSeq (sFor (lRng1 (lCons (xC (.int 3)) lNil)) (tgNm 1)
      (sSeq (sAsgC 2 (xCall m__law_purse (lCons (xNm 0) (lCons (xNm 1) lNil))))
      (sFor (lRng1 (lCons (xC (.int 3)) lNil)) (tgNm 3)
      (sIf (xNot (xCall m__law_right (lCons (xNm 2) (lCons (xOp2 pAdd (xC (.int 1)) (xCall m__law_draw (lCons (xNm 2) (lCons (xC (.int 4)) lNil)))) lNil))))
      (sRet (xC (.bl false)))
      sNil))))
      (sSeq (sFor (lItems (xLst (oCons (xC .non) (oCons (xOp2 pSub (xC (.int 0)) (xC (.int 1))) (oCons (xC (.bl true)) (oCons (xC (.str "2")) (oCons (xLst (oCons (xC (.int 1)) oNil)) oNil))))))) (tgNm 4)
      (sIf (xNot (xKeep (xCall (m__law_same 12) (lCons (xLc (lRng1 (lCons (xC (.int 3)) lNil)) [5] (tgNm 5) (xC (.bl true)) (xCall m__law_heard (lCons (xNm 5) (lCons (xNm 4) (lCons (xC .non) lNil))))) (lCons (xOp2 pMul (xLst (oCons (xLst (oCons (xC (.int 0)) (oCons (xNm 4) oNil))) oNil)) (xC (.int 3))) lNil)))))
      (sRet (xC (.bl false)))
      sNil))
      (sRet (xKeep (xCall (m__law_same 12) (lCons (xLc (lRng1 (lCons (xC (.int 3)) lNil)) [5] (tgNm 5) (xC (.bl true)) (xCall m__law_heard (lCons (xNm 5) (lCons (xC (.int 0)) (lCons (xTup (lCons (xC (.str "in")) (lCons (xC (.int 0)) lNil))) lNil))))) (lCons (xOp2 pAdd (xLst (oCons (xLst (oCons (xC (.str "told")) (oCons (xC (.bl false)) oNil))) oNil)) (xOp2 pMul (xLst (oCons (xLst (oCons (xC (.int 1)) (oCons (xTup (lCons (xC (.str "in")) (lCons (xC (.int 0)) lNil))) oNil))) oNil)) (xC (.int 2)))) lNil)))))))
def m_law : FM := fnM 6 1 b_law
end Kx
namespace Kx
open PySem PySem.Spec L2 GM
theorem e_is_whole (x0 : D) (cs : Cells) : m_is_whole [x0] cs = fnK (b_is_whole [some (.fz x0)] cs) := u_fn rfl
theorem e_is_count (x0 : D) (cs : Cells) : m_is_count [x0] cs = fnK (b_is_count [some (.fz x0)] cs) := u_fn rfl
theorem e_all_bits (x0 : D) (cs : Cells) : m_all_bits [x0] cs = fnK (b_all_bits [some (.fz x0), none, none, none, none] cs) := u_fn rfl
theorem e_is_formula_of (k : Nat) (x0 x1 : D) (cs : Cells) : m_is_formula_of (k + 1) [x0, x1] cs = fnK (b_is_formula_of (m_is_formula_of k) [some (.fz x0), some (.fz x1), none] cs) := u_fn rfl
theorem e_check_formula (x0 x1 : D) (cs : Cells) : m_check_formula [x0, x1] cs = fnK (b_check_formula [some (.fz x0), some (.fz x1)] cs) := u_fn rfl
theorem e_is_formula (x0 x1 : D) (cs : Cells) : m_is_formula [x0, x1] cs = fnK (b_is_formula [some (.fz x0), some (.fz x1)] cs) := u_fn rfl
theorem e_formula_at (k : Nat) (x0 x1 : D) (cs : Cells) : m_formula_at (k + 1) [x0, x1] cs = fnK (b_formula_at (m_formula_at k) [some (.fz x0), some (.fz x1)] cs) := u_fn rfl
theorem e_formula_row (x0 x1 : D) (cs : Cells) : m_formula_row [x0, x1] cs = fnK (b_formula_row [some (.fz x0), some (.fz x1), none] cs) := u_fn rfl
theorem e_depth_there (k : Nat) (x0 : D) (cs : Cells) : m_depth_there (k + 1) [x0] cs = fnK (b_depth_there (m_depth_there k) [some (.fz x0), none] cs) := u_fn rfl
theorem e_formula_depth (x0 x1 : D) (cs : Cells) : m_formula_depth [x0, x1] cs = fnK (b_formula_depth [some (.fz x0), some (.fz x1)] cs) := u_fn rfl
theorem e__law_purse (x0 x1 : D) (cs : Cells) : m__law_purse [x0, x1] cs = fnK (b__law_purse [some (.fz x0), some (.fz x1), none] cs) := u_fn rfl
theorem e__law_mixed (x0 x1 x2 : D) (cs : Cells) : m__law_mixed [x0, x1, x2] cs = fnK (b__law_mixed [some (.fz x0), some (.fz x1), some (.fz x2), none] cs) := u_fn rfl
theorem e__law_draw (x0 x1 : D) (cs : Cells) : m__law_draw [x0, x1] cs = fnK (b__law_draw [some (.fz x0), some (.fz x1), none, none, none] cs) := u_fn rfl
theorem e__law_one_of (x0 x1 : D) (cs : Cells) : m__law_one_of [x0, x1] cs = fnK (b__law_one_of [some (.fz x0), some (.fz x1)] cs) := u_fn rfl
theorem e__law_same (k : Nat) (x0 x1 : D) (cs : Cells) : m__law_same (k + 1) [x0, x1] cs = fnK (b__law_same (m__law_same k) [some (.fz x0), some (.fz x1), none, none, none, none] cs) := u_fn rfl
theorem e__law_all_bits (x0 : D) (cs : Cells) : m__law_all_bits [x0] cs = fnK (b__law_all_bits [some (.fz x0), none, none, none] cs) := u_fn rfl
theorem e__law_formula (k : Nat) (x0 x1 x2 : D) (cs : Cells) : m__law_formula (k + 1) [x0, x1, x2] cs = fnK (b__law_formula (m__law_formula k) [some (.fz x0), some (.fz x1), some (.fz x2), none] cs) := u_fn rfl
theorem e__law_at (k : Nat) (x0 x1 : D) (cs : Cells) : m__law_at (k + 1) [x0, x1] cs = fnK (b__law_at (m__law_at k) [some (.fz x0), some (.fz x1)] cs) := u_fn rfl
theorem e__law_deep (k : Nat) (x0 : D) (cs : Cells) : m__law_deep (k + 1) [x0] cs = fnK (b__law_deep (m__law_deep k) [some (.fz x0), none] cs) := u_fn rfl
theorem e__law_right_form (k : Nat) (x0 x1 : D) (cs : Cells) : m__law_right_form (k + 1) [x0, x1] cs = fnK (b__law_right_form (m__law_right_form k) [some (.fz x0), some (.fz x1)] cs) := u_fn rfl
theorem e__law_bent (x0 x1 x2 : D) (cs : Cells) : m__law_bent [x0, x1, x2] cs = fnK (b__law_bent [some (.fz x0), some (.fz x1), some (.fz x2), none, none] cs) := u_fn rfl
theorem e__law_heard (x0 x1 x2 : D) (cs : Cells) : m__law_heard [x0, x1, x2] cs = fnK (b__law_heard [some (.fz x0), some (.fz x1), some (.fz x2), none, none, none] cs) := u_fn rfl
theorem e__law_right (x0 x1 : D) (cs : Cells) : m__law_right [x0, x1] cs = fnK (b__law_right [some (.fz x0), some (.fz x1), none, none, none, none, none, none, none, none, none, none, none, none, none] cs) := u_fn rfl
theorem e_law (x0 : D) (cs : Cells) : m_law [x0] cs = fnK (b_law [some (.fz x0), none, none, none, none, none] cs) := u_fn rfl
end Kx
namespace Kx
open PySem PySem.Spec L2 GM
def isWh : D → Bool
  | .int _ => true
  | _ => false
theorem r_is_whole (d : D) (cs : Cells) (h : (tyN d).isSome = true) : m_is_whole [d] cs = .ok (.fz (.bl (isWh d))) cs := by
  cases d <;> first | (cases h; done) | simp [m_is_whole, fnM, b_is_whole, run_and, run_not, pIsT, tyN, isWh, subT]
def isCt : D → Bool
  | .int n => decide (0 ≤ n)
  | _ => false
theorem r_is_count (d : D) (cs : Cells) (h : (tyN d).isSome = true) : m_is_count [d] cs = .ok (.fz (.bl (isCt d))) cs := by
  cases d <;> first | (cases h; done) | simp [m_is_count, fnM, b_is_count, run_and, r_is_whole _ cs h, isWh, isCt, pGe]
/-- formulas -/
inductive Fo where | inp (i : Nat) | no (f : Fo) | an (f g : Fo)
def Fo.d : Fo → D
  | .inp i => .tup [.str "in", .int i]
  | .no f => .tup [.str "not", f.d]
  | .an f g => .tup [.str "and", f.d, g.d]
def Fo.deep : Fo → Nat
  | .inp _ => 0
  | .no f => f.deep + 1
  | .an f g => max f.deep g.deep + 1
def Fo.ok (many : Nat) : Fo → Prop
  | .inp i => i < many
  | .no f => f.ok many
  | .an f g => f.ok many ∧ g.ok many
def Fo.at (bits : List Nat) : Fo → Nat
  | .inp i => bits.getD i 0
  | .no f => 1 - f.at bits
  | .an f g => f.at bits * g.at bits
def bitsD (bits : List Nat) : D := .lst (bits.map fun n => .int (n : Nat))
theorem Fo.okD (f : Fo) : ∀ n, f.deep + 1 ≤ n → GM.okD n f.d = true := by
  induction f with
  | inp i =>
    intro n h
    obtain ⟨m, rfl⟩ : ∃ m, n = m + 1 := ⟨n - 1, by simp [Fo.deep] at h; omega⟩
    simp [Fo.d, GM.okD]
  | no f ih =>
    intro n h
    obtain ⟨m, rfl⟩ : ∃ m, n = m + 1 := ⟨n - 1, by omega⟩
    simp [Fo.d, GM.okD, ih m (by simp [Fo.deep] at h; omega)]
  | an f g ih1 ih2 =>
    intro n h
    obtain ⟨m, rfl⟩ : ∃ m, n = m + 1 := ⟨n - 1, by omega⟩
    simp only [Fo.deep] at h
    simp [Fo.d, GM.okD, ih1 m (by omega), ih2 m (by omega)]
theorem eq_sn (a b : Str) : eqD (.str a) (.str b) = decide (a = b) := by
  simp only [eqD]
  by_cases h : a = b
  · subst h; simp
  · simp [h]
theorem Fo.bit {many : Nat} {bits : List Nat} (hl : bits.length = many) (hb : ∀ b ∈ bits, b ≤ 1) : ∀ f : Fo, f.ok many → f.at bits ≤ 1
  | .inp i, h => by
    simp only [Fo.at, Fo.ok] at *
    rw [List.getD_eq_getElem?_getD, List.getElem?_eq_getElem (by omega)]
    exact hb _ (List.getElem_mem _)
  | .no f, h => by simp only [Fo.at]; omega
  | .an f g, h => by
    have h1 := Fo.bit hl hb f h.1
    have h2 := Fo.bit hl hb g h.2
    simp only [Fo.at]
    calc f.at bits * g.at bits ≤ 1 * 1 := Nat.mul_le_mul h1 h2
      _ = 1 := rfl
@[simp] theorem ne_in_not : ((Str.ofString "in") = Str.ofString "not") = False := eq_false (by decide)
@[simp] theorem ne_in_and : ((Str.ofString "in") = Str.ofString "and") = False := eq_false (by decide)
@[simp] theorem ne_in_or : ((Str.ofString "in") = Str.ofString "or") = False := eq_false (by decide)
@[simp] theorem ne_in_NOT : ((Str.ofString "in") = Str.ofString "NOT") = False := eq_false (by decide)
@[simp] theorem ne_not_in : ((Str.ofString "not") = Str.ofString "in") = False := eq_false (by decide)
@[simp] theorem ne_not_and : ((Str.ofString "not") = Str.ofString "and") = False := eq_false (by decide)
@[simp] theorem ne_not_or : ((Str.ofString "not") = Str.ofString "or") = False := eq_false (by decide)
@[simp] theorem ne_not_NOT : ((Str.ofString "not") = Str.ofString "NOT") = False := eq_false (by decide)
@[simp] theorem ne_and_in : ((Str.ofString "and") = Str.ofString "in") = False := eq_false (by decide)
@[simp] theorem ne_and_not : ((Str.ofString "and") = Str.ofString "not") = False := eq_false (by decide)
@[simp] theorem ne_and_or : ((Str.ofString "and") = Str.ofString "or") = False := eq_false (by decide)
@[simp] theorem ne_and_NOT : ((Str.ofString "and") = Str.ofString "NOT") = False := eq_false (by decide)
@[simp] theorem ne_or_in : ((Str.ofString "or") = Str.ofString "in") = False := eq_false (by decide)
@[simp] theorem ne_or_not : ((Str.ofString "or") = Str.ofString "not") = False := eq_false (by decide)
@[simp] theorem ne_or_and : ((Str.ofString "or") = Str.ofString "and") = False := eq_false (by decide)
@[simp] theorem ne_or_NOT : ((Str.ofString "or") = Str.ofString "NOT") = False := eq_false (by decide)
@[simp] theorem ne_NOT_in : ((Str.ofString "NOT") = Str.ofString "in") = False := eq_false (by decide)
@[simp] theorem ne_NOT_not : ((Str.ofString "NOT") = Str.ofString "not") = False := eq_false (by decide)
@[simp] theorem ne_NOT_and : ((Str.ofString "NOT") = Str.ofString "and") = False := eq_false (by decide)
@[simp] theorem ne_NOT_or : ((Str.ofString "NOT") = Str.ofString "or") = False := eq_false (by decide)
theorem r_formula_at {many : Nat} {bits : List Nat} (hl : bits.length = many) (hb : ∀ b ∈ bits, b ≤ 1) (cs : Cells) : ∀ (f : Fo) (k : Nat), f.ok many → f.deep < k → m_formula_at k [f.d, bitsD bits] cs = .ok (.fz (.int (f.at bits : Nat))) cs
  | .inp i, k + 1, h, hk => by
    have hi : i < bits.length := by simp only [Fo.ok] at h; omega
    simp [m_formula_at, fnM, b_formula_at, run_if, Fo.d, pIx, pEq, GM.okD, eq_sn, atI, ixN, bitsD, hi, Fo.at]
  | .no f, k + 1, h, hk => by
    have ih := r_formula_at hl hb cs f k h (by simp [Fo.deep] at hk; omega)
    have hbit := Fo.bit hl hb f h
    simp [m_formula_at, fnM, b_formula_at, run_if, Fo.d, pIx, pEq, GM.okD, eq_sn, atI, ixN, ih, pSub, Fo.at]
    omega
  | .an f g, k + 1, h, hk => by
    have ih1 := r_formula_at hl hb cs f k h.1 (by simp [Fo.deep] at hk; omega)
    have ih2 := r_formula_at hl hb cs g k h.2 (by simp [Fo.deep] at hk; omega)
    have h1 := Fo.bit hl hb f h.1
    have h2 := Fo.bit hl hb g h.2
    have hs : f.at bits < 18446744073709551616 ∨ g.at bits < 18446744073709551616 := .inl (by omega)
    simp [m_formula_at, fnM, b_formula_at, run_if, Fo.d, pIx, pEq, GM.okD, eq_sn, atI, ixN, ih1, ih2, pMul, Fo.at, if_pos hs]
theorem r_law_at {many : Nat} {bits : List Nat} (hl : bits.length = many) (hb : ∀ b ∈ bits, b ≤ 1) (cs : Cells) : ∀ (f : Fo) (k : Nat), f.ok many → f.deep < k → m__law_at k [f.d, bitsD bits] cs = .ok (.fz (.int (f.at bits : Nat))) cs
  | .inp i, k + 1, h, hk => by
    have hi : i < bits.length := by simp only [Fo.ok] at h; omega
    simp [m__law_at, fnM, b__law_at, run_if, Fo.d, pIx, pEq, GM.okD, eq_sn, atI, ixN, bitsD, hi, Fo.at]
  | .no f, k + 1, h, hk => by
    have ih := r_law_at hl hb cs f k h (by simp [Fo.deep] at hk; omega)
    have hbit := Fo.bit hl hb f h
    simp [m__law_at, fnM, b__law_at, run_if, Fo.d, pIx, pEq, GM.okD, eq_sn, atI, ixN, ih, pSub, Fo.at]
    omega
  | .an f g, k + 1, h, hk => by
    have ih1 := r_law_at hl hb cs f k h.1 (by simp [Fo.deep] at hk; omega)
    have ih2 := r_law_at hl hb cs g k h.2 (by simp [Fo.deep] at hk; omega)
    have h1 := Fo.bit hl hb f h.1
    have h2 := Fo.bit hl hb g h.2
    have e : (if (g.at bits : Int) < f.at bits then (g.at bits : Int) else f.at bits) = ((f.at bits * g.at bits : Nat) : Int) := by
      generalize f.at bits = x at *
      generalize g.at bits = y at *
      have : x = 0 ∨ x = 1 := by omega
      have : y = 0 ∨ y = 1 := by omega
      rcases ‹x = 0 ∨ x = 1› with rfl | rfl <;> rcases ‹y = 0 ∨ y = 1› with rfl | rfl <;> rfl
    simp [m__law_at, fnM, b__law_at, run_if, Fo.d, pIx, pEq, GM.okD, eq_sn, atI, ixN, ih1, ih2, pMin, Fo.at]
    simpa using e
end Kx
namespace Kx
open PySem PySem.Spec L2 GM
@[simp] theorem wipe1 (a b : Option O) (r : Ev) : wipeE (a :: b :: r) [1] = a :: none :: r := rfl
@[simp] theorem tg1 (a b : Option O) (r : Ev) (d : D) : tgNm 1 d (a :: b :: r) = some (a :: some (.fz d) :: r) := by simp [tgNm]
theorem r_depth (cs : Cells) : ∀ (f : Fo) (k : Nat), f.deep < k → m_depth_there k [f.d] cs = .ok (.fz (.int (f.deep : Nat))) cs
  | .inp i, k + 1, hk => by
    simp [m_depth_there, fnM, b_depth_there, run_xif, Fo.d, pIx, pEq, GM.okD, eq_sn, atI, ixN, Fo.deep]
  | .no f, k + 1, hk => by
    have ih := r_depth cs f k (by simp [Fo.deep] at hk; omega)
    have lc := lc_map (mi := lItems (xSl (xNm 0) (lCons (xC (.int 1)) lNil) lNil)) (vs := [1]) (t := tgNm 1) (c := xC (.bl true)) (e := xCall (m_depth_there k) (lCons (xNm 1) lNil)) (env := [some (.fz (Fo.d (.no f))), none]) (env1 := [some (.fz (Fo.d (.no f))), none]) (cs := cs) (cs1 := cs) (ds := [f.d]) (fun _ => .fz (.int (f.deep : Nat)))
      (by simp [lItems, xSl, partD, pSl, Fo.d, HT.sIx, cutD, itemsD, ofL]) (by simp) (fun d hd => ⟨[some (.fz (Fo.d (.no f))), some (.fz d)], [some (.fz (Fo.d (.no f))), some (.fz d)], [some (.fz (Fo.d (.no f))), some (.fz d)], rfl, rfl, (by simp at hd; subst hd; simp [ih]), rfl⟩)
    simp only [Fo.d] at lc
    simp [m_depth_there, fnM, b_depth_there, run_xif, Fo.d, pIx, pEq, GM.okD, eq_sn, atI, ixN, Fo.deep, lc, pMax, toInts, maxI, pAdd]
    omega
  | .an f g, k + 1, hk => by
    have ih1 := r_depth cs f k (by simp [Fo.deep] at hk; omega)
    have ih2 := r_depth cs g k (by simp [Fo.deep] at hk; omega)
    have lc := lc_list (mi := lItems (xSl (xNm 0) (lCons (xC (.int 1)) lNil) lNil)) (vs := [1]) (t := tgNm 1) (c := xC (.bl true)) (e := xCall (m_depth_there k) (lCons (xNm 1) lNil)) (env := [some (.fz (Fo.d (.an f g))), none]) (env1 := [some (.fz (Fo.d (.an f g))), none]) (cs := cs) (cs1 := cs) [(f.d, .fz (.int (f.deep : Nat))), (g.d, .fz (.int (g.deep : Nat)))]
      (by simp [lItems, xSl, partD, pSl, Fo.d, HT.sIx, cutD, itemsD, ofL]) (by simp) (fun p hp => ⟨[some (.fz (Fo.d (.an f g))), some (.fz p.1)], [some (.fz (Fo.d (.an f g))), some (.fz p.1)], [some (.fz (Fo.d (.an f g))), some (.fz p.1)], rfl, rfl, (by
        simp at hp
        rcases hp with rfl | rfl
        · simp [ih1]
        · simp [ih2]), rfl⟩)
    simp only [Fo.d] at lc
    simp [m_depth_there, fnM, b_depth_there, run_xif, Fo.d, pIx, pEq, GM.okD, eq_sn, atI, ixN, Fo.deep, lc, pMax, toInts, maxI, pAdd]
    split <;> omega
theorem r_deep (cs : Cells) : ∀ (f : Fo) (k : Nat), f.deep < k → m__law_deep k [f.d] cs = .ok (.fz (.int (f.deep : Nat))) cs
  | .inp i, k + 1, hk => by
    simp [m__law_deep, fnM, b__law_deep, run_xif, Fo.d, pIx, pEq, GM.okD, eq_sn, atI, ixN, Fo.deep]
  | .no f, k + 1, hk => by
    have ih := r_deep cs f k (by simp [Fo.deep] at hk; omega)
    have lc := lc_map (mi := lItems (xSl (xNm 0) (lCons (xC (.int 1)) lNil) lNil)) (vs := [1]) (t := tgNm 1) (c := xC (.bl true)) (e := xCall (m__law_deep k) (lCons (xNm 1) lNil)) (env := [some (.fz (Fo.d (.no f))), none]) (env1 := [some (.fz (Fo.d (.no f))), none]) (cs := cs) (cs1 := cs) (ds := [f.d]) (fun _ => .fz (.int (f.deep : Nat)))
      (by simp [lItems, xSl, partD, pSl, Fo.d, HT.sIx, cutD, itemsD, ofL]) (by simp) (fun d hd => ⟨[some (.fz (Fo.d (.no f))), some (.fz d)], [some (.fz (Fo.d (.no f))), some (.fz d)], [some (.fz (Fo.d (.no f))), some (.fz d)], rfl, rfl, (by simp at hd; subst hd; simp [ih]), rfl⟩)
    simp only [Fo.d] at lc
    simp [m__law_deep, fnM, b__law_deep, run_xif, Fo.d, pIx, pEq, GM.okD, eq_sn, atI, ixN, Fo.deep, lc, pMax, toInts, maxI, pAdd]
    omega
  | .an f g, k + 1, hk => by
    have ih1 := r_deep cs f k (by simp [Fo.deep] at hk; omega)
    have ih2 := r_deep cs g k (by simp [Fo.deep] at hk; omega)
    have lc := lc_list (mi := lItems (xSl (xNm 0) (lCons (xC (.int 1)) lNil) lNil)) (vs := [1]) (t := tgNm 1) (c := xC (.bl true)) (e := xCall (m__law_deep k) (lCons (xNm 1) lNil)) (env := [some (.fz (Fo.d (.an f g))), none]) (env1 := [some (.fz (Fo.d (.an f g))), none]) (cs := cs) (cs1 := cs) [(f.d, .fz (.int (f.deep : Nat))), (g.d, .fz (.int (g.deep : Nat)))]
      (by simp [lItems, xSl, partD, pSl, Fo.d, HT.sIx, cutD, itemsD, ofL]) (by simp) (fun p hp => ⟨[some (.fz (Fo.d (.an f g))), some (.fz p.1)], [some (.fz (Fo.d (.an f g))), some (.fz p.1)], [some (.fz (Fo.d (.an f g))), some (.fz p.1)], rfl, rfl, (by
        simp at hp
        rcases hp with rfl | rfl
        · simp [ih1]
        · simp [ih2]), rfl⟩)
    simp only [Fo.d] at lc
    simp [m__law_deep, fnM, b__law_deep, run_xif, Fo.d, pIx, pEq, GM.okD, eq_sn, atI, ixN, Fo.deep, lc, pMax, toInts, maxI, pAdd]
    split <;> omega
end Kx
namespace Kx
open PySem PySem.Spec L2 GM
def mix1 (seed spin at_ : Int) : Int := (seed * 69069 + 104729 * spin * spin + 7919 * at_ + spin) % 2147483647
def mix (seed spin at_ : Int) : Int := (mix1 seed spin at_ * mix1 seed spin at_ + 40503) % 2147483629 * 48271 % 2147483587
theorem mix_lo (seed spin at_ : Int) : 0 ≤ mix seed spin at_ := Int.emod_nonneg _ (by decide)
theorem mix_hi (seed spin at_ : Int) : mix seed spin at_ < 2147483587 := Int.emod_lt_of_pos _ (by decide)
theorem mix1_small (seed spin at_ : Int) : (mix1 seed spin at_).natAbs < 18446744073709551616 := by
  have h1 : 0 ≤ mix1 seed spin at_ := Int.emod_nonneg _ (by decide)
  have h2 : mix1 seed spin at_ < 2147483647 := Int.emod_lt_of_pos _ (by decide)
  omega
theorem r_mixed (seed spin at_ : Int) (cs : Cells) (h0 : 0 ≤ spin) (h1 : spin < 2 ^ 60) : m__law_mixed [.int seed, .int spin, .int at_] cs = .ok (.fz (.int (mix seed spin at_))) cs := by
  have hs : spin.natAbs < 18446744073709551616 := by omega
  have hm := mix1_small seed spin at_
  unfold mix
  unfold mix1 at hm ⊢
  have e : seed * 69069 + 104729 * spin * spin + 7919 * at_ + spin = seed * 69069 + 104729 * spin * spin + (7919 * at_) + spin := rfl
  simp [m__law_mixed, fnM, b__law_mixed, pMul, pAdd, pMod, pInt, hs, hm]
end Kx
local macro_rules | `(tactic| walk_at "d") => `(tactic| first | assumption | exact Nat.le_of_ble_eq_true rfl | omega | rfl)
local macro_rules | `(tactic| simp! only [$xs,*]) => `(tactic| simp -implicitDefEqProofs (disch := walk_at "d") only [GM.u_op1, GM.u_op2, GM.u_opL, GM.u_lc, GM.u_oc, GM.u_os, GM.u_lst, GM.u_tup, GM.u_and, GM.u_or, GM.u_not, GM.u_if, GM.u_ch, GM.u_call, GM.u_callK, GM.u_me, GM.u_sl, GM.u_keep, GM.u_li, GM.u_r1, GM.u_r2, GM.u_zi, GM.u_seq, GM.u_sif, GM.u_asg, GM.u_ret, GM.u_expr, GM.u_raise, GM.u_for, GM.u_try, GM.u_asgC, GM.u_par, GM.u_setC, GM.f_nil, GM.f_cons, GM.x_op1K, GM.x_op2K, GM.x_andK, GM.x_orK, GM.x_notK, GM.x_xifK, GM.x_chK, GM.x_chK2, GM.x_meK, GM.x_slK, GM.x_opLK, GM.x_xtK, GM.x_caK, GM.x_ckK, GM.x_ckK2, GM.x_lcK2, GM.x_r1K, GM.x_r2K, GM.x_ziK, GM.x_foK, GM.x_paK, GM.x_slK1, GM.x_slK2, GM.x_lcK, GM.x_ocK, GM.x_osK, GM.x_liK, GM.x_sifK, GM.x_asK, GM.x_reK, GM.x_exK, GM.x_raK, GM.x_acK, GM.x_scK, GM.x_scK2, GM.x_scK3, GM.x_seqK, GM.x_foK2, GM.x_ocK2, GM.x_xlK, GM.x_backX, GM.x_caR, GM.x_fnK, GM.c_op1, GM.c_op2, GM.c_opL, GM.c_ofO, GM.c_ofL, GM.c_bO, GM.c_iO, GM.c_frzfz, GM.c_frzol, GM.c_frzod, GM.c_frzL0, GM.c_frzL1, GM.c_frzLa, GM.c_frzLm, GM.c_xC, GM.c_lNil, GM.c_oNil, GM.c_sNil, GM.c_lcK, GM.c_lcK2, GM.c_ocK, GM.c_ocK2, GM.c_app0, GM.c_app1, GM.c_osK, GM.c_osK1, GM.c_itl, GM.c_itt, GM.c_map0, GM.c_map1, GM.c_xlK, GM.c_xtK, GM.c_andK, GM.c_orK, GM.c_notK, GM.c_xifK, GM.c_sifK, GM.c_cond1, GM.c_cond0, GM.c_condA, GM.c_condO, GM.c_bff, GM.c_btt, GM.c_bat, GM.c_baf, GM.c_bot, GM.c_bof, GM.c_bat2, GM.c_baf2, GM.c_bot2, GM.c_bof2, GM.c_bnn, GM.c_chK, GM.c_chK2, GM.c_chK3, GM.c_caK, GM.c_caR, GM.c_ckK, GM.c_ckK2, GM.c_meK, GM.c_meKl, GM.c_meKo, GM.c_meKs, GM.c_slK, GM.c_slK1a, GM.c_slK1b, GM.c_slK2a, GM.c_slK2b, GM.c_back, GM.c_backI, GM.c_backB, GM.c_liK, GM.c_r1K, GM.c_r2K, GM.c_zil, GM.c_zit, GM.c_seq, GM.c_seqr, GM.c_seqb, GM.c_seqc, GM.c_asK, GM.c_reK, GM.c_exK, GM.c_raK, GM.c_foK, GM.c_foK1, GM.c_foK2n, GM.c_foK2c, GM.c_foK2b, GM.c_foK2r, GM.c_tgT, GM.c_tg0, GM.c_tg1, GM.c_tgK, GM.c_fnr, GM.c_fnn, GM.c_tr, GM.c_trn, GM.c_trr, GM.c_paK, GM.c_paR, GM.c_acK, GM.c_wipe0, GM.c_wipe1, GM.c_scK, GM.c_scK2, GM.c_scK3, GM.nm0, GM.nl0, GM.nd0, GM.se0, GM.rv0, GM.tg0, GM.st0, GM.ta0, GM.nm1, GM.nl1, GM.nd1, GM.se1, GM.rv1, GM.tg1, GM.st1, GM.ta1, GM.nm2, GM.nl2, GM.nd2, GM.se2, GM.rv2, GM.tg2, GM.st2, GM.ta2, GM.nm3, GM.nl3, GM.nd3, GM.se3, GM.rv3, GM.tg3, GM.st3, GM.ta3, GM.nm4, GM.nl4, GM.nd4, GM.se4, GM.rv4, GM.tg4, GM.st4, GM.ta4, GM.nm5, GM.nl5, GM.nd5, GM.se5, GM.rv5, GM.tg5, GM.st5, GM.ta5, GM.nm6, GM.nl6, GM.nd6, GM.se6, GM.rv6, GM.tg6, GM.st6, GM.ta6, GM.nm7, GM.nl7, GM.nd7, GM.se7, GM.rv7, GM.tg7, GM.st7, GM.ta7, GM.nm8, GM.nl8, GM.nd8, GM.se8, GM.rv8, GM.tg8, GM.st8, GM.ta8, GM.nm9, GM.nl9, GM.nd9, GM.se9, GM.rv9, GM.tg9, GM.st9, GM.ta9, GM.nm10, GM.nl10, GM.nd10, GM.se10, GM.rv10, GM.tg10, GM.st10, GM.ta10, GM.nm11, GM.nl11, GM.nd11, GM.se11, GM.rv11, GM.tg11, GM.st11, GM.ta11, GM.nm12, GM.nl12, GM.nd12, GM.se12, GM.rv12, GM.tg12, GM.st12, GM.ta12, GM.nm13, GM.nl13, GM.nd13, GM.se13, GM.rv13, GM.tg13, GM.st13, GM.ta13, GM.nm14, GM.nl14, GM.nd14, GM.se14, GM.rv14, GM.tg14, GM.st14, GM.ta14, GM.nm15, GM.nl15, GM.nd15, GM.se15, GM.rv15, GM.tg15, GM.st15, GM.ta15, GM.nm16, GM.nl16, GM.nd16, GM.se16, GM.rv16, GM.tg16, GM.st16, GM.ta16, GM.nm17, GM.nl17, GM.nd17, GM.se17, GM.rv17, GM.tg17, GM.st17, GM.ta17, GM.nm18, GM.nl18, GM.nd18, GM.se18, GM.rv18, GM.tg18, GM.st18, GM.ta18, GM.nm19, GM.nl19, GM.nd19, GM.se19, GM.rv19, GM.tg19, GM.st19, GM.ta19, GM.nm20, GM.nl20, GM.nd20, GM.se20, GM.rv20, GM.tg20, GM.st20, GM.ta20, GM.nm21, GM.nl21, GM.nd21, GM.se21, GM.rv21, GM.tg21, GM.st21, GM.ta21, GM.nm22, GM.nl22, GM.nd22, GM.se22, GM.rv22, GM.tg22, GM.st22, GM.ta22, GM.nm23, GM.nl23, GM.nd23, GM.se23, GM.rv23, GM.tg23, GM.st23, GM.ta23, GM.c_tr2n, GM.c_tr2r, GM.c_trf, GM.p_add, GM.p_addS, GM.p_addL, GM.p_addT, GM.p_sub, GM.p_mul, GM.p_mod, GM.p_fdiv, GM.p_neg, GM.p_eqi, GM.p_nei, GM.p_eqs, GM.p_nes, GM.p_eqb, GM.p_eqT, GM.p_neL, GM.p_eqL, GM.p_lt, GM.p_le, GM.p_gt, GM.p_ge, GM.p_isnon, GM.p_notnon, GM.p_isbl, GM.p_notbl, GM.p_isint, GM.p_notint, GM.p_isstr, GM.p_notstr, GM.p_islst, GM.p_notlst, GM.p_istup, GM.p_nottup, GM.p_isdic, GM.p_notdic, GM.p_isscr, GM.p_notscr, GM.p_iscel, GM.p_notcel, GM.p_isobj, GM.p_notobj, GM.p_isexn, GM.p_notexn, GM.p_Tint_non, GM.p_Tint_bl, GM.p_Tint_int, GM.p_Tint_str, GM.p_Tint_lst, GM.p_Tint_tup, GM.p_Tint_dic, GM.p_Tint_scr, GM.p_Tbool_non, GM.p_Tbool_bl, GM.p_Tbool_int, GM.p_Tbool_str, GM.p_Tbool_lst, GM.p_Tbool_tup, GM.p_Tbool_dic, GM.p_Tbool_scr, GM.p_Tstr_non, GM.p_Tstr_bl, GM.p_Tstr_int, GM.p_Tstr_str, GM.p_Tstr_lst, GM.p_Tstr_tup, GM.p_Tstr_dic, GM.p_Tstr_scr, GM.p_Tlist_non, GM.p_Tlist_bl, GM.p_Tlist_int, GM.p_Tlist_str, GM.p_Tlist_lst, GM.p_Tlist_tup, GM.p_Tlist_dic, GM.p_Tlist_scr, GM.p_Ttuple_non, GM.p_Ttuple_bl, GM.p_Ttuple_int, GM.p_Ttuple_str, GM.p_Ttuple_lst, GM.p_Ttuple_tup, GM.p_Ttuple_dic, GM.p_Ttuple_scr, GM.p_Tdict_non, GM.p_Tdict_bl, GM.p_Tdict_int, GM.p_Tdict_str, GM.p_Tdict_lst, GM.p_Tdict_tup, GM.p_Tdict_dic, GM.p_Tdict_scr, GM.p_Tlist_tuple_non, GM.p_Tlist_tuple_bl, GM.p_Tlist_tuple_int, GM.p_Tlist_tuple_str, GM.p_Tlist_tuple_lst, GM.p_Tlist_tuple_tup, GM.p_Tlist_tuple_dic, GM.p_Tlist_tuple_scr, GM.p_Tlist_tuple_dict_non, GM.p_Tlist_tuple_dict_bl, GM.p_Tlist_tuple_dict_int, GM.p_Tlist_tuple_dict_str, GM.p_Tlist_tuple_dict_lst, GM.p_Tlist_tuple_dict_tup, GM.p_Tlist_tuple_dict_dic, GM.p_Tlist_tuple_dict_scr, GM.c_bqtt, GM.c_bqtf, GM.c_bqft, GM.c_bqff, GM.c_bqs, GM.p_eqnn, GM.c_lm, GM.c_anyid, GM.c_strs, GM.c_dTrue, GM.c_dFalse, GM.c_dself, GM.c_lenk0, GM.c_lenk1, GM.c_lenk2, GM.c_lenk3, GM.c_lenk4, GM.c_lenk5, GM.c_lenk6, GM.c_lenk7, GM.c_lenk8, GM.c_lenk9, GM.c_lenk10, GM.c_lenk11, GM.c_lenk12, GM.c_len0, GM.c_len1, GM.c_len2, GM.c_len3, GM.p_ixlst0, GM.p_ixtup0, GM.p_ixlst1, GM.p_ixtup1, GM.p_ixlst2, GM.p_ixtup2, GM.p_ixlst3, GM.p_ixtup3, GM.p_ixlst4, GM.p_ixtup4, GM.p_ixlst5, GM.p_ixtup5, GM.p_ixlst6, GM.p_ixtup6, GM.p_ixlst7, GM.p_ixtup7, GM.p_ixlst8, GM.p_ixtup8, GM.p_ixlst9, GM.p_ixtup9, GM.p_lenl, GM.p_lent, GM.p_lenr, GM.p_lend, GM.p_lens, GM.p_allm, GM.p_anym, GM.p_all0, GM.p_any0, GM.p_sum, GM.p_int, GM.p_intb, GM.p_abs, GM.p_max2, GM.p_min2, GM.p_listl, GM.p_listt, GM.p_listr, GM.p_tupl, GM.p_tupt, Int.reduceEq, Int.reduceLT, Int.reduceLE, $xs,*])
namespace Kx
open PySem PySem.Spec L2 GM
def purse (p s spin at_ : Int) : Cell := .lst [.int p, .int s, .int spin, .int at_]
theorem bits_small {many : Int} (h0 : 0 < many) (h1 : many < 100000000) : ((Builtin.Int.intBits many : Nat) : Int) / 28 = 0 := by
  have := PyProof.Rows.intBits_le (k := 27) (a := many) (by omega)
  omega
theorem pu0 {n : Nat} {cs : Cells} {p s spin at_ : Int} (hc : cs[n]? = some (purse p s spin at_)) : pIx (.cel n) (.int 0) cs = some (.fz (.int p)) := by simp only [pIx, hc]; rfl
theorem pu1 {n : Nat} {cs : Cells} {p s spin at_ : Int} (hc : cs[n]? = some (purse p s spin at_)) : pIx (.cel n) (.int 1) cs = some (.fz (.int s)) := by simp only [pIx, hc]; rfl
theorem pu2 {n : Nat} {cs : Cells} {p s spin at_ : Int} (hc : cs[n]? = some (purse p s spin at_)) : pIx (.cel n) (.int 2) cs = some (.fz (.int spin)) := by simp only [pIx, hc]; rfl
theorem pu3 {n : Nat} {cs : Cells} {p s spin at_ : Int} (hc : cs[n]? = some (purse p s spin at_)) : pIx (.cel n) (.int 3) cs = some (.fz (.int at_)) := by simp only [pIx, hc]; rfl
theorem ps0 {n : Nat} {cs : Cells} {p s spin at_ q : Int} {env : Ev} (hc : cs[n]? = some (purse p s spin at_)) : scK3 (.int q) (.cel n) (.ok (.fz (.int 0)) env cs) = .nx env (cs.set n (purse q s spin at_)) := by simp only [scK3, c_frzfz, hc]; rfl
theorem ps2 {n : Nat} {cs : Cells} {p s spin at_ q : Int} {env : Ev} (hc : cs[n]? = some (purse p s spin at_)) : scK3 (.int q) (.cel n) (.ok (.fz (.int 2)) env cs) = .nx env (cs.set n (purse p s q at_)) := by simp only [scK3, c_frzfz, hc]; rfl
theorem draw_hi {n : Nat} {cs : Cells} {p s spin at_ many : Int} (hc : cs[n]? = some (purse p s spin at_)) (hpp : 0 < p) (h0 : 0 < many) (hm : many < 1073741824) : m__law_draw [.cel n, .int many] cs = .ok (.fz (.int (p % many))) (cs.set n (purse (p / many) s spin at_)) := by
  show fnK (b__law_draw [some (.fz (.cel n)), some (.fz (.int many)), none, none, none] cs) = _
  have h : 0 < many ∧ many < 1073741824 := ⟨h0, hm⟩
  simp! only [b__law_draw, pu0 hc, decide_eq_true hpp, ps0 hc]
def MM : Int := 2147483587
theorem mul_MM (i : Int) (cs : Cells) : pMul (.int i) (.int 2147483587) cs = some (.fz (.int (i * MM))) := by
  simp only [pMul]
  rw [if_pos (.inr (by decide))]
  rfl
theorem rng_1 : rngD 0 (Int.toNat 1) = [.int 0] := rfl
theorem draw_lo {n : Nat} {cs : Cells} {p s spin at_ many : Int} (hc : cs[n]? = some (purse p s spin at_)) (hpp : ¬ 0 < p) (h0 : 0 < many) (hm : many < 100000000) (hs0 : 0 ≤ spin) (hs1 : spin < 2 ^ 59) :
    m__law_draw [.cel n, .int many] cs = .ok (.fz (.int ((0 * 2147483587 + mix s (spin + 1) at_) % many))) (cs.set n (purse p s (spin + 1) at_)) := by
  have hn : n < cs.length := (List.getElem?_eq_some_iff.mp hc).1
  have hb := bits_small h0 hm
  have hmx := r_mixed s (spin + 1) at_ (cs.set n (purse p s (spin + 1) at_)) (by omega) (by omega)
  have hcs : (cs.set n (purse p s (spin + 1) at_))[n]? = some (purse p s (spin + 1) at_) := by rw [List.getElem?_set_self hn]
  have h28 : pFdiv (.int (Builtin.Int.intBits many : Nat)) (.int 28) cs = some (.fz (.int 0)) := by rw [p_fdiv (by decide), hb]
  have hr : r1K (.ok [.int (1 + 0)] [some (.fz (.cel n)), some (.fz (.int many)), none, some (.fz (.int 0)), none] cs) = .ok [.int 0] [some (.fz (.cel n)), some (.fz (.int many)), none, some (.fz (.int 0)), none] cs := by rw [c_r1K (by decide)]; rfl
  show fnK (b__law_draw [some (.fz (.cel n)), some (.fz (.int many)), none, none, none] cs) = _
  simp! only [b__law_draw, pu0 hc, decide_eq_false hpp, ps0 hc, u_bits, h28, hr, pu2 hc, ps2 hc, pu1 hcs, pu2 hcs, pu3 hcs, hmx]
/-- a purse at its place, k draws done at most -/
def PuAt (cs : Cells) (n : Nat) (k : Int) : Prop := ∃ p s spin at_, cs[n]? = some (purse p s spin at_) ∧ 0 ≤ p ∧ 0 ≤ spin ∧ spin ≤ k
theorem r_draw {n : Nat} {cs : Cells} {k many : Int} (h : PuAt cs n k) (hk : k < 2 ^ 59) (h0 : 0 < many) (hm : many < 100000000) :
    ∃ v c, m__law_draw [.cel n, .int many] cs = .ok (.fz (.int v)) (cs.set n c) ∧ 0 ≤ v ∧ v < many ∧ PuAt (cs.set n c) n (k + 1) := by
  obtain ⟨p, s, spin, at_, hc, hp, h1, h2⟩ := h
  have hn : n < cs.length := (List.getElem?_eq_some_iff.mp hc).1
  by_cases hpp : 0 < p
  · exact ⟨_, _, draw_hi hc hpp h0 (by omega), Int.emod_nonneg _ (by omega), Int.emod_lt_of_pos _ h0, p / many, s, spin, at_, by rw [List.getElem?_set_self hn], Int.ediv_nonneg hp (by omega), h1, by omega⟩
  · exact ⟨_, _, draw_lo hc hpp h0 hm h1 (by omega), Int.emod_nonneg _ (by omega), Int.emod_lt_of_pos _ h0, p, s, spin + 1, at_, by rw [List.getElem?_set_self hn], hp, by omega, by omega⟩
end Kx
namespace Kx
open PySem PySem.Spec L2 GM
/-! ### all bits -/
def rows : Nat → List (List Nat)
  | 0 => [[]]
  | n + 1 => (rows n).flatMap fun r => [r ++ [0], r ++ [1]]
theorem sortD_map {α : Type} (g : α → D) (s : α → α → Bool) {l : List α} (h : ∀ a ∈ l, ∀ b ∈ l, s a b = dLe (g a) (g b)) : sortD (l.map g) = (l.mergeSort s).map g := (List.map_mergeSort h).symm
theorem natSort {l k : List Nat} (hp : l.Perm k) (hk : k.Pairwise (· ≤ ·)) : l.mergeSort (fun a b => decide (a ≤ b)) = k := by
  have h1 := List.mergeSort_perm l (fun a b => decide (a ≤ b))
  have h2 : (l.mergeSort fun a b => decide (a ≤ b)).Pairwise (fun a b => decide (a ≤ b) = true) := List.pairwise_mergeSort (fun a b c => by simp; omega) (fun a b => by simp; omega) l
  exact List.Perm.eq_of_pairwise (le := fun a b => a ≤ b) (fun a b _ _ h h' => Nat.le_antisymm h h') (h2.imp fun h => by simpa using h) hk (h1.trans hp)
def ur : Nat → List (List Nat)
  | 0 => [[]]
  | n + 1 => (ur n).map (· ++ [0]) ++ (ur n).map (· ++ [1])
def urD (n : Nat) : List D := (ur n).map bitsD
def rowD (n : Nat) : List D := (rows n).map bitsD
theorem bits_sort {n : Nat} {idx : List Nat} (h1 : urD n = idx.map fun i => (rowD n).getD i .non) (h2 : (idx.all fun a => idx.all fun b => decide (a ≤ b) == dLe ((rowD n).getD a .non) ((rowD n).getD b .non)) = true) (h3 : idx.Perm (List.range idx.length)) (h4 : (List.range idx.length).map (fun i => (rowD n).getD i .non) = rowD n) : sortD (urD n) = rowD n := by
  rw [h1, sortD_map _ (fun a b => decide (a ≤ b)) (fun a ha b hb => by simpa using List.all_eq_true.mp (List.all_eq_true.mp h2 a ha) b hb), natSort h3 (List.pairwise_le_range), h4]
theorem sort1 : sortD (urD 1) = rowD 1 := bits_sort (idx := [0, 1]) rfl (by decide +kernel) (by decide) rfl
theorem sort2 : sortD (urD 2) = rowD 2 := bits_sort (idx := [0, 2, 1, 3]) rfl (by decide +kernel) (by decide) rfl
theorem sort3 : sortD (urD 3) = rowD 3 := bits_sort (idx := [0, 4, 2, 6, 1, 5, 3, 7]) rfl (by decide +kernel) (by decide) rfl
theorem sort4 : sortD (urD 4) = rowD 4 := bits_sort (idx := [0, 8, 4, 12, 2, 10, 6, 14, 1, 9, 5, 13, 3, 11, 7, 15]) rfl (by decide +kernel) (by decide) rfl
theorem r_law_bits (n : Nat) (h : 0 < n ∧ n < 5) (cs : Cells) : m__law_all_bits [.int (n : Nat)] cs = .ok (.ol ((rowD n).map .fz)) cs := by
  have key : ∀ n : Nat, n < 5 → sortD (urD n) = rowD n → (urD n).length ≤ 1000000 ∧ sortOk (urD n) = true → (sSeq (sAsg 1 (xLst (oCons (xLst oNil) oNil)))
      (sFor (lRng1 (lCons (xNm 0) lNil)) (tgNm 2)
      (sAsg 1 (xOp2 pAdd (xLc (lItems (xNm 1)) [3] (tgNm 3) (xC (.bl true)) (xOp2 pAdd (xNm 3) (xLst (oCons (xC (.int 0)) oNil)))) (xLc (lItems (xNm 1)) [3] (tgNm 3) (xC (.bl true)) (xOp2 pAdd (xNm 3) (xLst (oCons (xC (.int 1)) oNil))))))) [some (.fz (.int (n : Nat))), none, none, none] cs = .nx [some (.fz (.int (n : Nat))), some (.ol ((urD n).map .fz)), some (.fz (.int ((n - 1 : Nat) : Int))), none] cs) → m__law_all_bits [.int (n : Nat)] cs = .ok (.ol ((rowD n).map .fz)) cs := by
    intro n h hs hk h1
    rw [e__law_all_bits]
    unfold b__law_all_bits
    rw [u_seq] at h1 ⊢
    cases h2 : sAsg 1 (xLst (oCons (xLst oNil) oNil)) [some (.fz (.int (n : Nat))), none, none, none] cs with
    | nx e c =>
      rw [h2, c_seq] at h1
      rw [c_seq, u_seq, h1]
      have hp : pSort [.lst (urD n)] cs = some (.ol ((rowD n).map .fz)) := by
        show (if (urD n).length ≤ 1000000 ∧ sortOk (urD n) = true then some (O.ol ((sortD (urD n)).map .fz)) else none) = _
        rw [if_pos hk, hs]
      simp! only [hp]
    | _ => rw [h2] at h1; exact SRes.noConfusion h1
  match n, h with
  | 1, _ => exact key 1 (by decide) sort1 (by decide +kernel) rfl
  | 2, _ => exact key 2 (by decide) sort2 (by decide +kernel) rfl
  | 3, _ => exact key 3 (by decide) sort3 (by decide +kernel) rfl
  | 4, _ => exact key 4 (by decide) sort4 (by decide +kernel) rfl
theorem r_all_bits (n : Nat) (h : 0 < n ∧ n < 5) (cs : Cells) : ∃ os, m_all_bits [.int (n : Nat)] cs = .ok (.ol os) cs ∧ frzL os = rowD n := by
  match n, h with
  | 1, _ => exact ⟨_, rfl, rfl⟩
  | 2, _ => exact ⟨_, rfl, rfl⟩
  | 3, _ => exact ⟨_, rfl, rfl⟩
  | 4, _ => exact ⟨_, rfl, rfl⟩
theorem rows_ok (n : Nat) (h : n < 5) : ∀ b ∈ rows n, b.length = n ∧ ∀ x ∈ b, x ≤ 1 := by
  match n, h with
  | 0, _ => decide
  | 1, _ => decide
  | 2, _ => decide
  | 3, _ => decide
  | 4, _ => decide
/-! ### which objects are formulas -/
def isF : Nat → Int → D → Bool
  | 0, _, _ => false
  | k + 1, many, .tup (.str s :: r) => if s = "in" then (match r with | [.int i] => decide (0 ≤ i) && decide (i < many) | _ => false)
    else if s = "not" then (match r with | [x] => isF k many x | _ => false)
    else if s = "and" then (match r with | [x, y] => isF k many x && isF k many y | _ => false) else false
  | _ + 1, _, _ => false
def fin : Nat → D → Bool
  | 0, _ => false
  | k + 1, .tup ds => ds.all (fin k)
  | _ + 1, d => (tyN d).isSome
theorem fin_ty {k : Nat} {d : D} (h : fin k d = true) : (tyN d).isSome = true := by
  cases k with
  | zero => cases h
  | succ k => cases d <;> first | rfl | exact h
theorem ne_ni : ((Str.ofString "not") = Str.ofString "in") = False := ofString_ne _ _ (by decide)
theorem ne_ai : ((Str.ofString "and") = Str.ofString "in") = False := ofString_ne _ _ (by decide)
theorem ne_an : ((Str.ofString "and") = Str.ofString "not") = False := ofString_ne _ _ (by decide)
theorem isF_in (k : Nat) (many : Int) (r : List D) : isF (k + 1) many (.tup (.str "in" :: r)) = (match r with | [.int i] => decide (0 ≤ i) && decide (i < many) | _ => false) := by simp only [isF, if_true]
theorem isF_not (k : Nat) (many : Int) (r : List D) : isF (k + 1) many (.tup (.str "not" :: r)) = (match r with | [x] => isF k many x | _ => false) := by simp only [isF, ne_ni, if_false, if_true]
theorem isF_and (k : Nat) (many : Int) (r : List D) : isF (k + 1) many (.tup (.str "and" :: r)) = (match r with | [x, y] => isF k many x && isF k many y | _ => false) := by simp only [isF, ne_ai, ne_an, if_false, if_true]
theorem isF_else (k : Nat) (many : Int) (s : Str) (r : List D) (h1 : ¬ s = "in") (h2 : ¬ s = "not") (h3 : ¬ s = "and") : isF (k + 1) many (.tup (.str s :: r)) = false := by simp only [isF, if_neg h1, if_neg h2, if_neg h3]
theorem all2 (a b : Bool) (cs : Cells) : pAll [.lst [.bl a, .bl b]] cs = some (.fz (.bl (a && b))) := by cases a <;> cases b <;> rfl
theorem sl1 (d : D) (r : List D) : pSl (.tup (d :: r)) (some 1) none = some (.fz (.tup r)) := by
  have h1 : HT.sIx (d :: r).length 0 (some 1) = 1 := by simp [HT.sIx]
  have h2 : HT.sIx (d :: r).length (d :: r).length none = r.length + 1 := rfl
  show (if HT.sIx (d :: r).length 0 (some 1) = 0 ∧ HT.sIx (d :: r).length (d :: r).length none = (d :: r).length then none else some (O.fz (.tup (cutD (d :: r) (some 1) none)))) = _
  rw [h1, h2, if_neg (by simp)]
  unfold cutD
  rw [h1, h2]
  simp
theorem r_formula_of (many : Int) (cs : Cells) : ∀ (k : Nat) (v : D), fin k v = true → m_is_formula_of k [.int many, v] cs = .ok (.fz (.bl (isF k many v))) cs
  | k + 1, v, h => by
    have ih := fun v hv => r_formula_of many cs k v hv
    rw [e_is_formula_of]
    have ht := fin_ty h
    cases v with
    | tup ds =>
      cases ds with
      | nil => simp! only [b_is_formula_of, List.isEmpty_nil, isF]
      | cons d r =>
        have hr : ∀ x ∈ r, fin k x = true := fun x hx => List.all_eq_true.mp h x (by simp [hx])
        have hd : fin k d = true := List.all_eq_true.mp h d (by simp)
        have hdt := fin_ty hd
        cases d with
        | str s =>
          by_cases h1 : s = "in"
          · subst h1
            rw [isF_in]
            match r with
            | [] => simp! only [b_is_formula_of, List.isEmpty_cons]
            | [x] =>
              have hx := r_is_count x cs (fin_ty (hr x (by simp)))
              cases x with
              | int i => simp! only [b_is_formula_of, List.isEmpty_cons, hx, isCt]
              | _ => simp! only [b_is_formula_of, List.isEmpty_cons, hx, isCt]
            | x :: y :: q =>
              simp! only [b_is_formula_of, List.isEmpty_cons]
              cases x <;> rfl
          · by_cases h2 : s = "not"
            · subst h2
              rw [isF_not]
              match r with
              | [] => simp! only [b_is_formula_of, List.isEmpty_cons, decide_eq_false h1]
              | [x] => simp! only [b_is_formula_of, List.isEmpty_cons, ih x (hr x (by simp)), decide_eq_false h1]
              | x :: y :: q => simp! only [b_is_formula_of, List.isEmpty_cons, decide_eq_false h1]
            · by_cases h3 : s = "and"
              · subst h3
                rw [isF_and]
                match r with
                | [] => simp! only [b_is_formula_of, List.isEmpty_cons, decide_eq_false h1, decide_eq_false h2]
                | [x] => simp! only [b_is_formula_of, List.isEmpty_cons, decide_eq_false h1, decide_eq_false h2]
                | [x, y] =>
                  have lc := lc_D (mi := lItems (xSl (xNm 1) (lCons (xC (.int 1)) lNil) lNil)) (vs := [2]) (t := tgNm 2) (e := xCall (m_is_formula_of k) (lCons (xNm 0) (lCons (xNm 2) lNil))) (env := [some (.fz (.int many)), some (.fz (.tup [.str "and", x, y])), none]) (cs := cs) [x, y] (fun d => .fz (.bl (isF k many d)))
                    (by simp! only [sl1]; rfl) (by simp) (fun d hd => ⟨_, by rfl, by simp! only [ih d (hr d hd)], by rfl⟩)
                  simp! only [b_is_formula_of, List.isEmpty_cons, decide_eq_false h1, decide_eq_false h2, lc, all2]
                | x :: y :: z :: q => simp! only [b_is_formula_of, List.isEmpty_cons, decide_eq_false h1, decide_eq_false h2]
              · rw [isF_else k many s r h1 h2 h3]
                simp! only [b_is_formula_of, List.isEmpty_cons, decide_eq_false h1, decide_eq_false h2, decide_eq_false h3]
        | _ => first | (cases hdt; done) | simp! only [b_is_formula_of, List.isEmpty_cons, isF]
    | _ => first | (cases ht; done) | simp! only [b_is_formula_of, isF]
end Kx
namespace Kx
open PySem PySem.Spec L2 GM
theorem r_right_form (many : Int) (cs : Cells) : ∀ (k : Nat) (v : D), fin k v = true → m__law_right_form k [.int many, v] cs = .ok (.fz (.bl (isF k many v))) cs
  | k + 1, v, h => by
    have ih := fun v hv => r_right_form many cs k v hv
    rw [e__law_right_form]
    have ht := fin_ty h
    cases v with
    | tup ds =>
      cases ds with
      | nil => simp! only [b__law_right_form, List.isEmpty_nil, isF]
      | cons d r =>
        have hr : ∀ x ∈ r, fin k x = true := fun x hx => List.all_eq_true.mp h x (by simp [hx])
        have hd : fin k d = true := List.all_eq_true.mp h d (by simp)
        have hdt := fin_ty hd
        cases d with
        | str s =>
          by_cases h1 : s = "in"
          · subst h1
            rw [isF_in]
            match r with
            | [] => simp! only [b__law_right_form, List.isEmpty_cons]
            | [x] =>
              have hx := fin_ty (hr x (by simp))
              cases x with
              | int i => simp! only [b__law_right_form, List.isEmpty_cons]
              | _ => first | (cases hx; done) | simp! only [b__law_right_form, List.isEmpty_cons]
            | x :: y :: q =>
              simp! only [b__law_right_form, List.isEmpty_cons]
              cases x <;> rfl
          · by_cases h2 : s = "not"
            · subst h2
              rw [isF_not]
              match r with
              | [] => simp! only [b__law_right_form, List.isEmpty_cons, decide_eq_false h1]
              | [x] => simp! only [b__law_right_form, List.isEmpty_cons, ih x (hr x (by simp)), decide_eq_false h1]
              | x :: y :: q => simp! only [b__law_right_form, List.isEmpty_cons, decide_eq_false h1]
            · by_cases h3 : s = "and"
              · subst h3
                rw [isF_and]
                match r with
                | [] => simp! only [b__law_right_form, List.isEmpty_cons, decide_eq_false h1, decide_eq_false h2]
                | [x] => simp! only [b__law_right_form, List.isEmpty_cons, decide_eq_false h1, decide_eq_false h2]
                | [x, y] => simp! only [b__law_right_form, List.isEmpty_cons, decide_eq_false h1, decide_eq_false h2, ih x (hr x (by simp)), ih y (hr y (by simp))]
                | x :: y :: z :: q => simp! only [b__law_right_form, List.isEmpty_cons, decide_eq_false h1, decide_eq_false h2]
              · rw [isF_else k many s r h1 h2 h3]
                simp! only [b__law_right_form, List.isEmpty_cons, decide_eq_false h1, decide_eq_false h2, decide_eq_false h3]
        | _ => first | (cases hdt; done) | simp! only [b__law_right_form, List.isEmpty_cons, isF]
    | _ => first | (cases ht; done) | simp! only [b__law_right_form, isF]
/-! ### the law's comparison, of a thing with itself -/
def sok : Nat → D → Bool
  | 0, _ => false
  | _ + 1, .non => true
  | _ + 1, .bl _ => true
  | _ + 1, .int _ => true
  | _ + 1, .str _ => true
  | k + 1, .lst ds => ds.all (sok k) && decide (ds.length ≤ 1000000)
  | k + 1, .tup ds => ds.all (sok k) && decide (ds.length ≤ 1000000)
  | _ + 1, .dic 0 [] => true
  | _, _ => false
theorem zip_self : ∀ ds : List D, zipD ds ds = ds.map fun d => .tup [d, d]
  | [] => rfl
  | d :: r => congrArg (D.tup [d, d] :: ·) (zip_self r)
theorem toBls_true {α : Type} : ∀ l : List α, toBls (l.map fun _ => D.bl true) = some (l.map fun _ => true) := toBls_map fun _ => true
theorem all_true {α : Type} (l : List α) : (l.map fun _ => true).all id = true := by simp
theorem r_same (cs : Cells) : ∀ (k : Nat) (d : D), sok k d = true → m__law_same k [d, d] cs = .ok (.fz (.bl true)) cs
  | k + 1, d, h => by
    have ih := fun v hv => r_same cs k v hv
    have hh : d = .dic 0 [] ∨ (∃ ds, (d = .lst ds ∨ d = .tup ds) ∧ ds.all (sok k) = true ∧ ds.length ≤ 1000000) ∨ d = .non ∨ (∃ b, d = .bl b) ∨ (∃ i, d = .int i) ∨ ∃ s, d = .str s := by
      cases d with
      | dic t kvs =>
        cases t with
        | zero => cases kvs with | nil => exact .inl rfl | cons _ _ => cases h
        | succ t => cases h
      | lst ds =>
        simp only [sok, Bool.and_eq_true, decide_eq_true_eq] at h
        exact .inr (.inl ⟨ds, .inl rfl, h⟩)
      | tup ds =>
        simp only [sok, Bool.and_eq_true, decide_eq_true_eq] at h
        exact .inr (.inl ⟨ds, .inr rfl, h⟩)
      | non => simp
      | bl b => simp
      | int b => simp
      | str b => simp
      | _ => cases h
    have lcz : ∀ (x y : Option O) (ds : List D) (hl : ds.all (sok k) = true) (hz : ds.length ≤ 1000000) (env : Ev) (m : LM), m env cs = .ok (ds.map fun d => .tup [d, d]) env cs → env = [x, y, some (.fz (.bl true)), none, none, none] → xLc m [4, 5] (tgTup (tgCons (tgNm 4) (tgCons (tgNm 5) tgNil))) (xC (.bl true)) (xKeep (xCall (m__law_same k) (lCons (xNm 4) (lCons (xNm 5) lNil)))) env cs = .ok (.ol (ds.map fun _ => .fz (.bl true))) env cs := by
      intro x y ds hl hz env m hm he
      subst he
      exact lc_all (fun d => .tup [d, d]) (fun _ => .fz (.bl true)) ds hm hz fun d hd => ⟨_, by rfl, by simp! only [ih d (List.all_eq_true.mp hl d hd)], by rfl⟩
    rw [e__law_same]
    rcases hh with rfl | ⟨ds, rfl | rfl, hl, hz⟩ | rfl | ⟨b, rfl⟩ | ⟨b, rfl⟩ | ⟨b, rfl⟩
    · have lk : ∀ (q : Option O) (e : XM), xLcK 1 [3] (tgNm 3) (xC (.bl true)) e [some (.fz (.dic 0 [])), some (.fz (.dic 0 [])), q, none, none, none] cs = .ok (.ol []) [some (.fz (.dic 0 [])), some (.fz (.dic 0 [])), q, none, none, none] cs := fun q e => rfl
      simp! only [b__law_same, lk]
    · have lc := lcz (some (.fz (.lst ds))) (some (.fz (.lst ds))) ds hl hz _ (lZip (lCons (xNm 0) (lCons (xNm 1) lNil))) (by simp! only [zip_self]) rfl
      have pa : pAll [.lst (frzL (ds.map fun _ => .fz (.bl true)))] cs = some (.fz (.bl true)) := by
        rw [show (ds.map fun _ => O.fz (.bl true)) = (ds.map fun _ => D.bl true).map .fz by simp, frzL_fz, p_all (toBls_true ds), all_true]
      simp! only [b__law_same, lc, pa]
    · have lc := lcz (some (.fz (.tup ds))) (some (.fz (.tup ds))) ds hl hz _ (lZip (lCons (xNm 0) (lCons (xNm 1) lNil))) (by simp! only [zip_self]) rfl
      have pa : pAll [.lst (frzL (ds.map fun _ => .fz (.bl true)))] cs = some (.fz (.bl true)) := by
        rw [show (ds.map fun _ => O.fz (.bl true)) = (ds.map fun _ => D.bl true).map .fz by simp, frzL_fz, p_all (toBls_true ds), all_true]
      simp! only [b__law_same, lc, pa]
    · simp! only [b__law_same]
    · simp! only [b__law_same]
    · simp! only [b__law_same]
    · simp! only [b__law_same]
end Kx
namespace Kx
open PySem PySem.Spec L2 GM
/-! ### the program's doors -/
theorem isCt_n (n : Nat) : isCt (.int (n : Nat)) = true := by simp [isCt]
theorem r_check_ok (n : Nat) (v : D) (cs : Cells) (hv : fin 12 v = true) (hf : isF 12 (n : Nat) v = true) : m_check_formula [.int (n : Nat), v] cs = .ok (.fz .non) cs := by
  rw [e_check_formula]
  simp! only [b_check_formula, r_is_count (.int (n : Nat)) cs rfl, isCt_n, r_formula_of (n : Nat) cs 12 v hv, hf]
theorem r_check_no (n : Nat) (v : D) (cs : Cells) (hv : fin 12 v = true) (hf : isF 12 (n : Nat) v = false) : m_check_formula [.int (n : Nat), v] cs = .exc (.exn "InvalidFormula" [("value", v)]) cs := by
  rw [e_check_formula]
  simp! only [b_check_formula, r_is_count (.int (n : Nat)) cs rfl, isCt_n, r_formula_of (n : Nat) cs 12 v hv, hf]
theorem r_check_count (m v : D) (cs : Cells) (hm : (tyN m).isSome = true) (hc : isCt m = false) : m_check_formula [m, v] cs = .exc (.exn "InvalidCount" [("value", m)]) cs := by
  rw [e_check_formula]
  simp! only [b_check_formula, r_is_count m cs hm, hc]
theorem r_is_formula (n : Nat) (v : D) (cs : Cells) (hv : fin 12 v = true) : m_is_formula [.int (n : Nat), v] cs = .ok (.fz (.bl (isF 12 (n : Nat) v))) cs := by
  rw [e_is_formula]
  simp! only [b_is_formula, r_is_count (.int (n : Nat)) cs rfl, isCt_n, r_formula_of (n : Nat) cs 12 v hv]
theorem r_is_formula_count (m v : D) (cs : Cells) (hm : (tyN m).isSome = true) (hc : isCt m = false) : m_is_formula [m, v] cs = .exc (.exn "InvalidCount" [("value", m)]) cs := by
  rw [e_is_formula]
  simp! only [b_is_formula, r_is_count m cs hm, hc]
theorem Fo.fin (f : Fo) : ∀ k, f.deep + 2 ≤ k → Kx.fin k f.d = true := by
  induction f with
  | inp i =>
    intro k h
    obtain ⟨m, rfl⟩ : ∃ m, k = m + 2 := ⟨k - 2, by simp [Fo.deep] at h; omega⟩
    simp [Fo.d, Kx.fin, tyN]
  | no f ih =>
    intro k h
    obtain ⟨m, rfl⟩ : ∃ m, k = m + 2 := ⟨k - 2, by omega⟩
    have := ih (m + 1) (by simp [Fo.deep] at h; omega)
    simp [Fo.d, Kx.fin, tyN, this]
  | an f g ih1 ih2 =>
    intro k h
    obtain ⟨m, rfl⟩ : ∃ m, k = m + 2 := ⟨k - 2, by omega⟩
    simp only [Fo.deep] at h
    have h1 := ih1 (m + 1) (by omega)
    have h2 := ih2 (m + 1) (by omega)
    simp [Fo.d, Kx.fin, tyN, h1, h2]
theorem Fo.isF {n : Nat} (f : Fo) (h : f.ok n) : ∀ k, f.deep + 1 ≤ k → Kx.isF k (n : Nat) f.d = true := by
  induction f with
  | inp i =>
    intro k hk
    obtain ⟨m, rfl⟩ : ∃ m, k = m + 1 := ⟨k - 1, by omega⟩
    have h : i < n := h
    rw [Fo.d, isF_in]
    simp; omega
  | no f ih =>
    intro k hk
    simp only [Fo.deep] at hk
    obtain ⟨m, rfl⟩ : ∃ m, k = m + 1 := ⟨k - 1, by omega⟩
    rw [Fo.d, isF_not]
    exact ih h m (by omega)
  | an f g ih1 ih2 =>
    intro k hk
    simp only [Fo.deep] at hk
    obtain ⟨m, rfl⟩ : ∃ m, k = m + 1 := ⟨k - 1, by omega⟩
    rw [Fo.d, isF_and]
    show (Kx.isF m n f.d && Kx.isF m n g.d) = true
    rw [ih1 h.1 m (by omega), ih2 h.2 m (by omega)]; rfl
theorem r_check_fo {n : Nat} (f : Fo) (h : f.ok n) (hd : f.deep ≤ 9) (cs : Cells) : m_check_formula [.int (n : Nat), f.d] cs = .ok (.fz .non) cs := r_check_ok n _ cs (f.fin 12 (by omega)) (f.isF h 12 (by omega))
theorem rowsN (n : Nat) : (rowD n).length = (rows n).length := by simp [rowD]
theorem rows_len (n : Nat) (h : n < 5) : (rows n).length ≤ 1000000 := by
  match n, h with
  | 0, _ => decide
  | 1, _ => decide
  | 2, _ => decide
  | 3, _ => decide
  | 4, _ => decide
def fRow (n : Nat) (f : Fo) : List Int := (rows n).map fun b => ((f.at b : Nat) : Int)
theorem r_formula_row {n : Nat} (hn : 0 < n ∧ n < 5) (f : Fo) (h : f.ok n) (hd : f.deep ≤ 9) (cs : Cells) : m_formula_row [.int (n : Nat), f.d] cs = .ok (.ol ((fRow n f).map fun i => .fz (.int i))) cs := by
  rw [e_formula_row]
  obtain ⟨os, h1, h2⟩ := r_all_bits n hn cs
  have lc := lc_all (mi := lItems (xCall m_all_bits (lCons (xNm 0) lNil))) (vs := [2]) (t := tgNm 2) (e := xCall (m_formula_at 12) (lCons (xNm 1) (lCons (xNm 2) lNil))) (env := [some (.fz (.int (n : Nat))), some (.fz f.d), none]) (cs := cs) bitsD (fun b => .fz (.int ((f.at b : Nat) : Int))) (rows n)
    (by simp! only [h1, h2]; rfl) (rows_len n hn.2) (fun b hb => ⟨_, by rfl, by
      have hb' := rows_ok n hn.2 b hb
      simp! only [r_formula_at hb'.1 hb'.2 cs f 12 h (by omega)], by rfl⟩)
  simp! only [b_formula_row, r_check_fo f h hd cs, lc]
  simp [fRow]
theorem r_formula_depth {n : Nat} (f : Fo) (h : f.ok n) (hd : f.deep ≤ 9) (cs : Cells) : m_formula_depth [.int (n : Nat), f.d] cs = .ok (.fz (.int (f.deep : Nat))) cs := by
  rw [e_formula_depth]
  simp! only [b_formula_depth, r_check_fo f h hd cs, r_depth cs f 12 (by omega)]
/-! ### draws -/
def Pu (cs : Cells) (n : Nat) (k : Int) : Prop := PuAt cs n k ∧ cs.all flatC = true
theorem all_set {α : Type} {p : α → Bool} {l : List α} {n : Nat} {c : α} (h : l.all p = true) (hc : p c = true) : (l.set n c).all p = true := by
  rw [List.all_eq_true] at h ⊢
  intro x hx
  rcases List.mem_or_eq_of_mem_set hx with hx | rfl
  · exact h x hx
  · exact hc
theorem r_drawP {n : Nat} {cs : Cells} {k many : Int} (h : Pu cs n k) (hk : k < 2 ^ 59) (h0 : 0 < many) (hm : many < 100000000) :
    ∃ v cs', m__law_draw [.cel n, .int many] cs = .ok (.fz (.int v)) cs' ∧ 0 ≤ v ∧ v < many ∧ Pu cs' n (k + 1) ∧ cs'.length = cs.length := by
  obtain ⟨v, c, h1, h2, h3, h4⟩ := r_draw h.1 hk h0 hm
  refine ⟨v, _, h1, h2, h3, ⟨h4, all_set h.2 ?_⟩, List.length_set⟩
  obtain ⟨p, s, spin, at_, hc, _⟩ := h4
  have hn : n < cs.length := by
    have := (List.getElem?_eq_some_iff.mp hc).1
    rwa [List.length_set] at this
  rw [List.getElem?_set_self hn] at hc
  cases hc
  rfl
theorem Pu.mono {cs : Cells} {n : Nat} {k k' : Int} (h : Pu cs n k) (hk : k ≤ k') : Pu cs n k' := by
  obtain ⟨⟨p, s, spin, at_, a, b, c, d⟩, f⟩ := h
  exact ⟨⟨p, s, spin, at_, a, b, c, by omega⟩, f⟩
theorem r_one_of {n : Nat} {cs : Cells} {k : Int} (h : Pu cs n k) (hk : k < 2 ^ 59) {ds : List D} (h0 : 0 < ds.length) (hm : ds.length < 100000000) :
    ∃ d cs', d ∈ ds ∧ m__law_one_of [.cel n, .lst ds] cs = .ok (.fz d) cs' ∧ Pu cs' n (k + 1) ∧ cs'.length = cs.length := by
  obtain ⟨v, cs', h1, h2, h3, h4, h5⟩ := r_drawP h hk (many := (ds.length : Nat)) (by omega) (by omega)
  obtain ⟨j, rfl⟩ : ∃ j : Nat, v = j := ⟨v.toNat, by omega⟩
  have hj : j < ds.length := by omega
  refine ⟨ds[j], cs', List.getElem_mem _, ?_, h4, h5⟩
  rw [e__law_one_of]
  have hx : pIx (.lst ds) (.int (j : Nat)) cs' = some (.fz ds[j]) := by
    show Option.map _ (atI ds (j : Nat)) = _
    rw [at_k (List.getElem?_eq_getElem hj)]; rfl
  simp! only [b__law_one_of, h1, hx]
def bud : Nat → Int
  | 0 => 0
  | k + 1 => bud k + bud k + 2
theorem bud_pos (k : Nat) : 0 ≤ bud k := by
  induction k with
  | zero => exact Int.le_refl _
  | succ k ih => simp only [bud]; omega
theorem r_law_formula {n m : Nat} (hm : 0 < m ∧ m < 5) (k : Nat) : ∀ (deep : Nat) (cs : Cells) (q : Int), Pu cs n q → q + bud k < 2 ^ 59 → deep < k →
    ∃ (f : Fo) (cs' : Cells), m__law_formula k [.cel n, .int (m : Nat), .int (deep : Nat)] cs = .ok (.fz f.d) cs' ∧ f.ok m ∧ f.deep ≤ deep ∧ Pu cs' n (q + bud k) ∧ cs'.length = cs.length := by
  induction k with
  | zero => intro deep cs q _ _ h; omega
  | succ k ih =>
    intro deep cs q hp hq hd
    have p2 := bud_pos k
    have p1 : bud (k + 1) = bud k + bud k + 2 := rfl
    rw [p1] at hq ⊢
    have tail : ∀ (cs : Cells), Pu cs n (q + 1) → ∃ (f : Fo) (cs' : Cells), m__law_draw [.cel n, .int (m : Nat)] cs = .ok (.fz (.int 0)) cs' ∨ True := fun cs _ => ⟨.inp 0, cs, .inr trivial⟩
    by_cases h0 : 0 < deep
    · obtain ⟨v, cs1, h1, h2, h3, h4, h5⟩ := r_drawP hp (many := 4) (by omega) (by omega) (by omega)
      have hg : decide ((deep : Int) > 0) = true := decide_eq_true (by omega)
      have hg' : decide (0 < (deep : Int)) = true := hg
      have hsub : ((deep : Int) - 1) = ((deep - 1 : Nat) : Int) := by omega
      by_cases v0 : v = 0
      · subst v0
        obtain ⟨u, cs2, g1, g2, g3, g4, g5⟩ := r_drawP h4 (many := (m : Nat)) (by omega) (by omega) (by omega)
        obtain ⟨j, rfl⟩ : ∃ j : Nat, u = j := ⟨u.toNat, by omega⟩
        refine ⟨.inp j, cs2, ?_, by simp only [Fo.ok]; omega, Nat.zero_le _, g4.mono (by omega), by omega⟩
        rw [e__law_formula]
        simp! only [b__law_formula, hg', h1, g1, Fo.d]
      · have v0' : decide (v = 0) = false := decide_eq_false v0
        obtain ⟨f, cs2, g1, g2, g3, g4, g5⟩ := ih (deep - 1) cs1 (q + 1) h4 (by omega) (by omega)
        by_cases v1 : v = 1
        · subst v1
          refine ⟨.no f, cs2, ?_, g2, by simp only [Fo.deep]; omega, g4.mono (by omega), by omega⟩
          rw [e__law_formula]
          simp! only [b__law_formula, hg', h1, v0', hsub, g1, Fo.d]
        · have v1' : decide (v = 1) = false := decide_eq_false v1
          obtain ⟨f', cs3, k1, k2, k3, k4, k5⟩ := ih (deep - 1) cs2 (q + 1 + bud k) g4 (by omega) (by omega)
          refine ⟨.an f f', cs3, ?_, ⟨g2, k2⟩, by simp only [Fo.deep]; omega, k4.mono (by omega), by omega⟩
          rw [e__law_formula]
          simp! only [b__law_formula, hg', h1, v0', v1', hsub, g1, k1, Fo.d]
    · have hg : decide (0 < (deep : Int)) = false := decide_eq_false (by omega)
      obtain ⟨u, cs2, g1, g2, g3, g4, g5⟩ := r_drawP hp (many := (m : Nat)) (by omega) (by omega) (by omega)
      obtain ⟨j, rfl⟩ : ∃ j : Nat, u = j := ⟨u.toNat, by omega⟩
      refine ⟨.inp j, cs2, ?_, by simp only [Fo.ok]; omega, Nat.zero_le _, g4.mono (by omega), by omega⟩
      rw [e__law_formula]
      simp! only [b__law_formula, hg, g1, Fo.d]
end Kx
namespace Kx
open PySem PySem.Spec L2 GM
/-! ### what is heard -/
theorem ca_c : catch_LentError "InvalidCount" = some true := by decide +kernel
theorem ca_f : catch_LentError "InvalidFormula" = some true := by decide +kernel
theorem io_cc (fs : List (Str × D)) (cs : Cells) : pIsO bt_InvalidCount own_InvalidCount (.exn "InvalidCount" fs) cs = some (.fz (.bl true)) := rfl
theorem io_cf (fs : List (Str × D)) (cs : Cells) : pIsO bt_InvalidCount own_InvalidCount (.exn "InvalidFormula" fs) cs = some (.fz (.bl false)) := rfl
theorem io_fc (fs : List (Str × D)) (cs : Cells) : pIsO bt_InvalidFormula own_InvalidFormula (.exn "InvalidCount" fs) cs = some (.fz (.bl false)) := rfl
theorem io_ff (fs : List (Str × D)) (cs : Cells) : pIsO bt_InvalidFormula own_InvalidFormula (.exn "InvalidFormula" fs) cs = some (.fz (.bl true)) := rfl
theorem va_c (d : D) (cs : Cells) : pVal okErr (.exn "InvalidCount" [("value", d)]) cs = some (.fz d) := by
  have h : okErr "InvalidCount" = true := by decide +kernel
  simp only [pVal, h, if_true]; rfl
theorem va_f (d : D) (cs : Cells) : pVal okErr (.exn "InvalidFormula" [("value", d)]) cs = some (.fz d) := by
  have h : okErr "InvalidFormula" = true := by decide +kernel
  simp only [pVal, h, if_true]; rfl
theorem k_ft (cs : Cells) : pMe cntD (.lst [.bl false, .bl true]) [.bl true] cs = some (.fz (.int 1)) := by rfl
theorem k_tf (cs : Cells) : pMe cntD (.lst [.bl true, .bl false]) [.bl true] cs = some (.fz (.int 1)) := by rfl
theorem i_ft (cs : Cells) : pMe idxD (.lst [.bl false, .bl true]) [.bl true] cs = some (.fz (.int 1)) := by rfl
theorem i_tf (cs : Cells) : pMe idxD (.lst [.bl true, .bl false]) [.bl true] cs = some (.fz (.int 0)) := by rfl
theorem r_heard_form (n : Nat) (way : Int) (hw : way = 1 ∨ way = 2) (v : D) (cs : Cells) (hv : fin 12 v = true) (hf : isF 12 (n : Nat) v = false) : m__law_heard [.int way, .int (n : Nat), v] cs = .ok (.ol [.fz (.int 1), .fz v]) cs := by
  have hc := r_check_no n v cs hv hf
  have h1 : m_formula_row [.int (n : Nat), v] cs = .exc (.exn "InvalidFormula" [("value", v)]) cs := by
    rw [e_formula_row]; simp! only [b_formula_row, hc]
  have h2 : m_formula_depth [.int (n : Nat), v] cs = .exc (.exn "InvalidFormula" [("value", v)]) cs := by
    rw [e_formula_depth]; simp! only [b_formula_depth, hc]
  rw [e__law_heard]
  rcases hw with rfl | rfl
  · simp! only [b__law_heard, h1, ca_f, io_cf, io_ff, va_f, k_ft, i_ft]
  · simp! only [b__law_heard, h2, ca_f, io_cf, io_ff, va_f, k_ft, i_ft]
theorem r_heard_count (way : Int) (hw : way = 0 ∨ way = 1 ∨ way = 2) (m v : D) (cs : Cells) (hm : (tyN m).isSome = true) (hn : isCt m = false) : m__law_heard [.int way, m, v] cs = .ok (.ol [.fz (.int 0), .fz m]) cs := by
  have hc := r_check_count m v cs hm hn
  have h0 := r_is_formula_count m v cs hm hn
  have h1 : m_formula_row [m, v] cs = .exc (.exn "InvalidCount" [("value", m)]) cs := by
    rw [e_formula_row]; simp! only [b_formula_row, hc]
  have h2 : m_formula_depth [m, v] cs = .exc (.exn "InvalidCount" [("value", m)]) cs := by
    rw [e_formula_depth]; simp! only [b_formula_depth, hc]
  rw [e__law_heard]
  rcases hw with rfl | rfl | rfl
  · simp! only [b__law_heard, h0, ca_c, io_cc, io_fc, va_c, k_tf, i_tf]
  · simp! only [b__law_heard, h1, ca_c, io_cc, io_fc, va_c, k_tf, i_tf]
  · simp! only [b__law_heard, h2, ca_c, io_cc, io_fc, va_c, k_tf, i_tf]
theorem r_heard_told (n : Nat) (v : D) (cs : Cells) (hv : fin 12 v = true) : m__law_heard [.int 0, .int (n : Nat), v] cs = .ok (.ol [.fz (.str "told"), .fz (.bl (isF 12 (n : Nat) v))]) cs := by
  rw [e__law_heard]
  simp! only [b__law_heard, r_is_formula n v cs hv]
/-! ### what is bent -/
def good (k : Nat) (d : D) : Bool := fin k d && sok k d
theorem Fo.sok (f : Fo) : ∀ k, f.deep + 2 ≤ k → Kx.sok k f.d = true := by
  induction f with
  | inp i =>
    intro k h
    obtain ⟨m, rfl⟩ : ∃ m, k = m + 2 := ⟨k - 2, by simp [Fo.deep] at h; omega⟩
    simp [Fo.d, Kx.sok]
  | no f ih =>
    intro k h
    obtain ⟨m, rfl⟩ : ∃ m, k = m + 2 := ⟨k - 2, by omega⟩
    have := ih (m + 1) (by simp [Fo.deep] at h; omega)
    simp [Fo.d, Kx.sok, this]
  | an f g ih1 ih2 =>
    intro k h
    obtain ⟨m, rfl⟩ : ∃ m, k = m + 2 := ⟨k - 2, by omega⟩
    simp only [Fo.deep] at h
    have h1 := ih1 (m + 1) (by omega)
    have h2 := ih2 (m + 1) (by omega)
    simp [Fo.d, Kx.sok, h1, h2]
def odds (m : Nat) (f : D) (fs : List D) : List D :=
  [.non, .tup [], .lst [], .str "in", .tup [.str "in"], .tup [.str "in", .int (m : Nat)], .tup [.str "in", .int (0 - 1)], .tup [.str "in", .bl true], .tup [.str "in", .str "0"], .lst [.str "in", .int 0], .tup [.str "or", f, f],
   .tup [.str "not"], .tup [.str "not", f, f], .tup [.str "and", f], .tup [.str "and", f, .non],
   .lst fs, .tup (fs ++ [.non]), .tup [.str "not", .lst fs], .tup [.str "and", f, .tup [.str "in", .int (m : Nat)]], .tup [.int 0, f], .dic 0 [], .int 5, .tup [.str "NOT", f], .tup [.str "and", .tup [], f], .tup [.str "in", f]]
theorem Fo.shape (f : Fo) : ∃ x fs, f.d = .tup (x :: fs) ∧ fs.length ≤ 2 := by
  cases f with
  | inp i => exact ⟨_, _, rfl, by simp⟩
  | no f => exact ⟨_, _, rfl, by simp⟩
  | an f g => exact ⟨_, _, rfl, by simp⟩
theorem frzL_len (os : List O) : (frzL os).length = os.length := by rw [frzL_map, List.length_map]
theorem odds_good {m : Nat} (f : Fo) (hd : f.deep ≤ 3) {fs : List D} (hx : f.d = .tup fs) (hl : fs.length ≤ 3) : ∀ d ∈ odds m f.d fs, ∀ k, 9 ≤ k → k ≤ 12 → fin k d = true ∧ sok k d = true := by
  intro d hdd k hk hk'
  have a1 : fin k f.d = true := f.fin k (by omega)
  have a2 : sok k f.d = true := f.sok k (by omega)
  obtain ⟨j, rfl⟩ : ∃ j, k = j + 3 := ⟨k - 3, by omega⟩
  have b1 : fin (j + 2) f.d = true := f.fin _ (by omega)
  have b2 : sok (j + 2) f.d = true := f.sok _ (by omega)
  have c1 : fin (j + 1) f.d = true := f.fin _ (by omega)
  have c2 : sok (j + 1) f.d = true := f.sok _ (by omega)
  have e1 : fs.all (fin (j + 2)) = true := by rw [hx] at a1; simpa only [fin] using a1
  have e2 : fs.all (sok (j + 2)) = true := by
    rw [hx] at a2
    simp only [sok, Bool.and_eq_true, decide_eq_true_eq] at a2
    exact a2.1
  have g1 : fs.all (fin (j + 1)) = true := by rw [hx] at b1; simpa only [fin] using b1
  have g2 : fs.all (sok (j + 1)) = true := by
    rw [hx] at b2
    simp only [sok, Bool.and_eq_true, decide_eq_true_eq] at b2
    exact b2.1
  have l1 : fs.length ≤ 1000000 := by omega
  have l2 : fs.length + 1 ≤ 1000000 := by omega
  simp only [odds, List.mem_cons, List.not_mem_nil, or_false] at hdd
  rcases hdd with rfl | rfl | rfl | rfl | rfl | rfl | rfl | rfl | rfl | rfl | rfl | rfl | rfl | rfl | rfl | rfl | rfl | rfl | rfl | rfl | rfl | rfl | rfl | rfl | rfl <;>
    simp only [fin, sok, tyN, List.all_cons, List.all_nil, List.all_append, List.length_append, List.length_cons, List.length_nil, a1, a2, b1, b2, c1, c2, e1, e2, g1, g2, Option.isSome_some, Bool.and_true, Bool.and_self, decide_eq_true_eq, and_self, true_and, and_true, l1, l2, Nat.zero_add, Bool.and_eq_true] <;> omega
theorem r_bent {n m : Nat} (hm : 0 < m ∧ m < 5) (f : Fo) (h : f.ok m) (hd : f.deep ≤ 3) (cs : Cells) (q : Int) (hp : Pu cs n q) (hq : q + 7 < 2 ^ 59) :
    ∃ os cs', m__law_bent [.cel n, .int (m : Nat), f.d] cs = .ok (.ol os) cs' ∧ (∀ d ∈ frzL os, fin 12 d = true ∧ sok 10 d = true) ∧ Pu cs' n (q + 7) ∧ cs'.length = cs.length ∧ os.length ≤ 1000000 := by
  obtain ⟨x, fs, hx, hl⟩ := f.shape
  have og := odds_good (m := m) f hd hx (by simp only [List.length_cons]; omega)
  rw [hx] at og
  generalize hod : odds m (.tup (x :: fs)) (x :: fs) = od at og
  have ln : od.length = 25 := by rw [← hod]; rfl
  let E (o : O) : Ev := [some (.fz (.cel n)), some (.fz (.int (m : Nat))), some (.fz (.tup (x :: fs))), some o, none]
  have one : ∀ (cs : Cells) (k : Int), Pu cs n k → k < 2 ^ 59 → ∃ d cs', d ∈ od ∧ m__law_one_of [.cel n, .lst od] cs = .ok (.fz d) cs' ∧ Pu cs' n (k + 1) ∧ cs'.length = cs.length := fun cs k h hk => r_one_of h hk (by omega) (by omega)
  obtain ⟨acc, env', cs1, L1, L2, L3, L4, L5, L6⟩ := lc_inv (mi := lRng1 (lCons (xC (.int 6)) lNil)) (vs := [4]) (t := tgNm 4) (e := xCall m__law_one_of (lCons (xNm 0) (lCons (xNm 3) lNil)))
    (env := E (.ol (od.map .fz))) (env1 := E (.ol (od.map .fz))) (cs := cs) (cs1 := cs) (fun j acc env c => (env = E (.ol (od.map .fz)) ∨ env = E (.fz (.lst od))) ∧ Pu c n (q + (j : Nat)) ∧ c.length = cs.length ∧ acc.length = j ∧ ∀ d ∈ frzL acc, d ∈ od)
    (rngD 0 6) (by simp! only [E]; rfl) (by decide) ⟨.inl rfl, by simpa using hp, rfl, rfl, fun d h => (nomatch h)⟩ (fun d hd j acc env c hj ⟨h1, h2, h3, h4, h5⟩ => by
      have hj : j < 6 := hj
      obtain ⟨y, c', g1, g2, g3, g4⟩ := one c (q + (j : Nat)) h2 (by omega)
      have fin : Pu c' n (q + ((j + 1 : Nat) : Int)) ∧ c'.length = cs.length ∧ (acc ++ [O.fz y]).length = j + 1 ∧ ∀ d ∈ frzL (acc ++ [O.fz y]), d ∈ od := by
        refine ⟨g3.mono (by omega), by omega, by simp [h4], fun d hd => ?_⟩
        rw [frzL_app] at hd
        rcases List.mem_append.mp hd with hd | hd
        · exact h5 d hd
        · have : d = y := by simpa [frz] using hd
          rw [this]; exact g1
      rcases h1 with rfl | rfl
      · exact ⟨_, (E (.fz (.lst od))).set 4 (some (.fz d)), .fz y, c', by rfl, by simp! only [E, g2], .inr rfl, fin⟩
      · exact ⟨_, (E (.fz (.lst od))).set 4 (some (.fz d)), .fz y, c', by rfl, by simp! only [E, g2], .inr rfl, fin⟩)
  obtain ⟨y, cs2, g1, g2, g3, g4⟩ := one cs1 _ L3 (by rw [show (rngD 0 6).length = 6 from rfl]; omega)
  have hlen : acc.length = 6 := L5
  have hadd : pAdd (.lst (frzL acc)) (.lst [.tup [.str "and", y, .tup (x :: fs)]]) cs2 = some (.ol ((frzL acc ++ [D.tup [.str "and", y, .tup (x :: fs)]]).map .fz)) := p_addL (by simp only [frzL_len, List.length_cons, List.length_nil]; omega)
  have t1 : pAdd (.tup (x :: fs)) (.tup [.non]) cs = some (.fz (.tup (x :: fs ++ [.non]))) := p_addT (by simp only [List.length_cons, List.length_nil]; omega)
  refine ⟨(frzL acc ++ [D.tup [.str "and", y, .tup (x :: fs)]]).map O.fz, cs2, ?_, ?_, g3.mono (by rw [show (rngD 0 6).length = 6 from rfl]; omega), by omega, ?_⟩
  · rw [e__law_bent, hx]
    have hE : E (.ol (od.map .fz)) = [some (.fz (.cel n)), some (.fz (.int (m : Nat))), some (.fz (.tup (x :: fs))), some (.ol (od.map .fz)), none] := rfl
    rw [hE, ← hod] at L1
    simp only [odds, List.map_cons, List.map_nil, List.cons_append] at L1
    rcases L2 with rfl | rfl
    · simp! only [b__law_bent, t1, L1]
      simp! only [hE, g2, hadd]
    · have hE' : E (.fz (.lst od)) = [some (.fz (.cel n)), some (.fz (.int (m : Nat))), some (.fz (.tup (x :: fs))), some (.fz (.lst od)), none] := rfl
      simp! only [b__law_bent, t1, L1]
      simp! only [hE', g2, hadd]
  · intro d hd
    rw [frzL_fz] at hd
    rcases List.mem_append.mp hd with hd | hd
    · exact ⟨(og d (L6 d hd) 12 (by decide) (by decide)).1, (og d (L6 d hd) 10 (by decide) (by decide)).2⟩
    · have e : d = .tup [.str "and", y, .tup (x :: fs)] := by simpa using hd
      subst e
      have f1 : fin 11 f.d = true := f.fin 11 (by omega)
      have f2 : sok 9 f.d = true := f.sok 9 (by omega)
      rw [hx] at f1 f2
      have y1 := (og y g1 11 (by decide) (by decide)).1
      have y2 := (og y g1 9 (by decide) (by decide)).2
      constructor
      · show (([.str "and", y, .tup (x :: fs)] : List D).all (fin 11)) = true
        simp only [List.all_cons, List.all_nil, y1, f1]; rfl
      · show (([.str "and", y, .tup (x :: fs)] : List D).all (sok 9) && decide _) = true
        simp only [List.all_cons, List.all_nil, y2, f2]; rfl
  · simp only [List.length_map, List.length_append, frzL_len, List.length_cons, List.length_nil]; omega
end Kx
namespace Kx
open PySem PySem.Spec L2 GM
/-! ### one turn of the law -/
def intsD (l : List Int) : D := .lst (l.map D.int)
def intsO (l : List Int) : O := .ol ((l.map D.int).map O.fz)
theorem r_row {n : Nat} (hn : 0 < n ∧ n < 5) (f : Fo) (h : f.ok n) (hd : f.deep ≤ 9) (cs : Cells) : m_formula_row [.int (n : Nat), f.d] cs = .ok (.ol (((fRow n f).map D.int).map O.fz)) cs := by
  rw [r_formula_row hn f h hd cs, List.map_map]; rfl
theorem sok_ints (k : Nat) (l : List Int) (h : l.length ≤ 1000000) : sok (k + 2) (.lst (l.map D.int)) = true := by
  simp only [sok, Bool.and_eq_true, decide_eq_true_eq, List.length_map]
  refine ⟨List.all_eq_true.mpr fun x hx => ?_, h⟩
  obtain ⟨i, _, rfl⟩ := List.mem_map.mp hx
  rfl
theorem fRow_len {n : Nat} (hn : n < 5) (f : Fo) : (fRow n f).length ≤ 1000000 := by rw [fRow, List.length_map]; exact rows_len n hn
theorem sok_lst (k : Nat) (ds : List D) (h : ∀ d ∈ ds, sok k d = true) (hl : ds.length ≤ 1000000) : sok (k + 1) (.lst ds) = true := by
  simp only [sok, Bool.and_eq_true, decide_eq_true_eq]
  exact ⟨List.all_eq_true.mpr h, hl⟩
theorem pick10 (x y : D) : pickL 0 2 [1, 0] [] [x, y] = [y, x] := rfl
theorem mul2 (x : D) (cs : Cells) : pMul (.lst [x]) (.int 2) cs = some (.ol [.fz x, .fz x]) := by simp [pMul]
theorem mul3 (x : D) (cs : Cells) : pMul (.lst [x]) (.int 3) cs = some (.ol [.fz x, .fz x, .fz x]) := by simp [pMul]
theorem row_nn {n : Nat} (hn : n < 5) (f : Fo) (h : f.ok n) : fRow n (.no (.no f)) = fRow n f := by
  refine List.map_congr_left fun b hb => ?_
  have hb' := rows_ok n hn b hb
  have := Fo.bit hb'.1 hb'.2 f h
  simp only [Fo.at]; omega
theorem row_aa {n : Nat} (hn : n < 5) (f : Fo) (h : f.ok n) : fRow n (.an f f) = fRow n f := by
  refine List.map_congr_left fun b hb => ?_
  have hb' := rows_ok n hn b hb
  have := Fo.bit hb'.1 hb'.2 f h
  simp only [Fo.at]
  have e : f.at b = 0 ∨ f.at b = 1 := by omega
  rcases e with e | e <;> rw [e]
theorem row_sw (n : Nat) (f g : Fo) : fRow n (.an g f) = fRow n (.an f g) := List.map_congr_left fun b _ => by simp only [Fo.at, Nat.mul_comm]
theorem zip_map {α : Type} (f g : α → D) : ∀ l : List α, zipD (l.map f) (l.map g) = l.map fun a => .tup [f a, g a]
  | [] => rfl
  | a :: l => congrArg (D.tup [f a, g a] :: ·) (zip_map f g l)
def E1 (n m : Nat) (f g : Fo) (a4 a7 a8 a9 a12 a13 : Option O) : Ev := [some (.fz (.cel n)), some (.fz (.int (m : Nat))), some (.fz f.d), some (.fz g.d), a4, none, none, a7, a8, a9, none, none, a12, a13, none]
theorem right_rows {n m : Nat} (hm : 0 < m ∧ m < 5) (f g : Fo) (hf : f.ok m) (hg : g.ok m) (df : f.deep ≤ 3) (dg : g.deep ≤ 3) (cs : Cells) :
    xLc (lItems (xTup (lCons (xNm 2) (lCons (xNm 3) lNil)))) [6] (tgNm 6) (xC (.bl true)) (xLc (lItems (xCall m__law_all_bits (lCons (xNm 1) lNil))) [5] (tgNm 5) (xC (.bl true)) (xCall (m__law_at 12) (lCons (xNm 6) (lCons (xNm 5) lNil)))) (E1 n m f g none none none none none none) cs = .ok (.ol [.ol (((fRow m f).map D.int).map O.fz), .ol (((fRow m g).map D.int).map O.fz)]) (E1 n m f g none none none none none none) cs := by
  refine Eq.trans (lc_all (env1 := E1 n m f g none none none none none none) (cs1 := cs) Fo.d (fun F => .ol (((fRow m F).map D.int).map O.fz)) [f, g] ?_ (Nat.le_of_ble_eq_true rfl) fun F hF => ⟨_, by rfl, ?_, by rfl⟩) rfl
  · simp! only [E1]
  · have hF' : F.ok m ∧ F.deep ≤ 3 := by
      simp only [List.mem_cons, List.not_mem_nil, or_false] at hF
      rcases hF with rfl | rfl
      · exact ⟨hf, df⟩
      · exact ⟨hg, dg⟩
    have e : (((fRow m F).map D.int).map O.fz) = (rows m).map fun b => O.fz (.int ((F.at b : Nat) : Int)) := by rw [fRow, List.map_map, List.map_map]; rfl
    rw [e]
    refine Eq.trans (lc_all (env1 := (E1 n m f g none none none none none none).set 6 (some (.fz F.d))) (cs1 := cs) bitsD (fun b => .fz (.int ((F.at b : Nat) : Int))) (rows m) ?_ (rows_len m hm.2) fun b hb => ⟨_, by rfl, ?_, by rfl⟩) rfl
    · simp only [E1, List.set_cons_succ, List.set_cons_zero, c_wipe1, c_wipe0]
      simp! only [r_law_bits m hm]; rfl
    · have hb' := rows_ok m hm.2 b hb
      simp only [E1, List.set_cons_succ, List.set_cons_zero, c_wipe1, c_wipe0]
      simp! only [r_law_at hb'.1 hb'.2 cs F 12 hF'.1 (by omega)]
theorem app_at {a0 a1 a2 a3 a4 a5 a6 : Option O} {r : Ev} {qs os : List O} {d : D} (cs : Cells) (h : qs.length ≤ 1000000) : sAppAt 7 0 (xC d) (a0 :: a1 :: a2 :: a3 :: a4 :: a5 :: a6 :: some (.ol (.ol qs :: os)) :: r) cs = .nx (a0 :: a1 :: a2 :: a3 :: a4 :: a5 :: a6 :: some (.ol (.ol (qs ++ [.fz d]) :: os)) :: r) cs := by
  simp [sAppAt, h]
def forB : SM := (sSeq (sAsg 13 (xCall (m__law_right_form 12) (lCons (xNm 1) (lCons (xNm 12) lNil))))
      (sSeq (sIf (xNot (xKeep (xCall (m__law_same 12) (lCons (xCall m_is_formula (lCons (xNm 1) (lCons (xNm 12) lNil))) (lCons (xNm 13) lNil)))))
      (sRet (xC (.bl false)))
      sNil)
      (sIf (xAnd (xNot (xNm 13)) (xNot (xKeep (xCall (m__law_same 12) (lCons (xLc (lItems (xTup (lCons (xC (.int 1)) (lCons (xC (.int 2)) lNil)))) [14] (tgNm 14) (xC (.bl true)) (xCall m__law_heard (lCons (xNm 14) (lCons (xNm 1) (lCons (xNm 12) lNil))))) (lCons (xOp2 pMul (xLst (oCons (xLst (oCons (xC (.int 1)) (oCons (xNm 12) oNil))) oNil)) (xC (.int 2))) lNil))))))
      (sRet (xC (.bl false)))
      sNil)))
theorem right1 {n m : Nat} (hm : 0 < m ∧ m < 5) (f g : Fo) (hf : f.ok m) (hg : g.ok m) (df : f.deep ≤ 3) (dg : g.deep ≤ 3) (cs cs1 cs2 : Cells) (hfl : cs2.all flatC = true)
    (H1 : m__law_formula 12 [.cel n, .int (m : Nat), .int 3] cs = .ok (.fz f.d) cs1) (H2 : m__law_formula 12 [.cel n, .int (m : Nat), .int 3] cs1 = .ok (.fz g.d) cs2) :
    ∃ a4 a7 a8 a9, m__law_right [.cel n, .int (m : Nat)] cs = fnK (seqK (sRet (xC (.bl true))) (sFor (lItems (xCall m__law_bent (lCons (xNm 0) (lCons (xNm 1) (lCons (xNm 2) lNil))))) (tgNm 12) forB (E1 n m f g a4 a7 a8 a9 none none) cs2)) := by
  have hr := right_rows (n := n) hm f g hf hg df dg cs2
  simp only [E1] at hr
  have fl := fRow_len hm.2 f
  have gl := fRow_len hm.2 g
  have al := fRow_len hm.2 (.an f g)
  have r1 := r_row hm f hf (by omega) cs2
  have r2 := r_row hm (.no (.no f)) hf (by simp only [Fo.deep]; omega) cs2
  have r3 := r_row hm (.an f f) ⟨hf, hf⟩ (by simp only [Fo.deep]; omega) cs2
  have r4 := r_row hm (.an f g) ⟨hf, hg⟩ (by simp only [Fo.deep]; omega) cs2
  have r5 := r_row hm (.an g f) ⟨hg, hf⟩ (by simp only [Fo.deep]; omega) cs2
  rw [row_nn hm.2 f hf] at r2
  rw [row_aa hm.2 f hf] at r3
  rw [row_sw] at r5
  simp only [Fo.d] at r2 r3 r4 r5
  have d1 := r_formula_depth f hf (by omega) cs2
  have d2 := r_formula_depth (.an f g) ⟨hf, hg⟩ (by simp only [Fo.deep]; omega) cs2
  simp only [Fo.d] at d2
  have e1 := r_deep cs2 f 12 (by omega)
  have e2 := r_deep cs2 g 12 (by omega)
  have i1 := r_is_formula m f.d cs2 (f.fin 12 (by omega))
  have i2 := r_is_formula m g.d cs2 (g.fin 12 (by omega))
  rw [f.isF hf 12 (by omega)] at i1
  rw [g.isF hg 12 (by omega)] at i2
  have s1 : m__law_same 12 [.lst [.lst ((fRow m f).map D.int), .lst ((fRow m f).map D.int)], .lst [.lst ((fRow m f).map D.int), .lst ((fRow m f).map D.int)]] cs2 = .ok (.fz (.bl true)) cs2 := r_same cs2 12 _ (sok_lst 11 _ (fun d hd => by
    simp only [List.mem_cons, List.not_mem_nil, or_false] at hd
    rcases hd with rfl | rfl <;> exact sok_ints 9 _ fl) (Nat.le_of_ble_eq_true rfl))
  have s2 : m__law_same 12 [.lst [.int (f.deep : Nat), .int (f.deep : Nat)], .lst [.int (f.deep : Nat), .int (f.deep : Nat)]] cs2 = .ok (.fz (.bl true)) cs2 := r_same cs2 12 _ rfl
  have s3 : m__law_same 12 [.lst [.bl true, .bl true], .lst [.bl true, .bl true]] cs2 = .ok (.fz (.bl true)) cs2 := r_same cs2 12 _ rfl
  have s4 : m__law_same 12 [.lst [.lst ((fRow m f).map D.int), .lst ((fRow m f).map D.int), .lst ((fRow m (.an f g)).map D.int), .lst ((fRow m (.an f g)).map D.int)], .lst [.lst ((fRow m f).map D.int), .lst ((fRow m f).map D.int), .lst ((fRow m (.an f g)).map D.int), .lst ((fRow m (.an f g)).map D.int)]] cs2 = .ok (.fz (.bl true)) cs2 := r_same cs2 12 _ (sok_lst 11 _ (fun d hd => by
    simp only [List.mem_cons, List.not_mem_nil, or_false] at hd
    rcases hd with rfl | rfl | rfl | rfl <;> first | exact sok_ints 9 _ fl | exact sok_ints 9 _ al) (Nat.le_of_ble_eq_true rfl))
  have ap : (((fRow m f).map D.int).map O.fz).length ≤ 1000000 := by rw [List.length_map, List.length_map]; exact fl
  have hz : ∀ (a7 a8 : Option O), xLc (lZip (lCons (xOp2 pIx (xNm 4) (xC (.int 0))) (lCons (xOp2 pIx (xNm 4) (xC (.int 1))) lNil))) [10, 11] (tgTup (tgCons (tgNm 10) (tgCons (tgNm 11) tgNil))) (xC (.bl true)) (xOp2 pMul (xNm 10) (xNm 11)) (E1 n m f g (some (.ol [.ol (((fRow m f).map D.int).map O.fz), .ol (((fRow m g).map D.int).map O.fz)])) a7 a8 none none none) cs2 = .ok (.ol (((fRow m (.an f g)).map D.int).map O.fz)) (E1 n m f g (some (.fz (.lst [.lst ((fRow m f).map D.int), .lst ((fRow m g).map D.int)]))) a7 a8 none none none) cs2 := by
    intro a7 a8
    have e : (((fRow m (.an f g)).map D.int).map O.fz) = (rows m).map fun b => O.fz (.int (((f.at b : Nat) : Int) * ((g.at b : Nat) : Int))) := by
      rw [fRow, List.map_map, List.map_map]
      exact List.map_congr_left fun b _ => by simp only [Function.comp, Fo.at, Int.natCast_mul]
    rw [e]
    refine Eq.trans (lc_all (env1 := E1 n m f g (some (.fz (.lst [.lst ((fRow m f).map D.int), .lst ((fRow m g).map D.int)]))) a7 a8 none none none) (cs1 := cs2) (fun b => .tup [.int ((f.at b : Nat) : Int), .int ((g.at b : Nat) : Int)]) (fun b => O.fz (.int (((f.at b : Nat) : Int) * ((g.at b : Nat) : Int)))) (rows m) ?_ (rows_len m hm.2) fun b hb => ⟨_, by rfl, ?_, by rfl⟩) rfl
    · simp only [E1]
      simp! only []
      simp only [fRow, List.map_map]
      rw [zip_map]; rfl
    · have hb' := rows_ok m hm.2 b hb
      have h1 := Fo.bit hb'.1 hb'.2 f hf
      simp only [E1, List.set_cons_succ, List.set_cons_zero, c_wipe1, c_wipe0]
      have hs : ((f.at b : Nat) : Int).natAbs < 2 ^ 64 ∨ ((g.at b : Nat) : Int).natAbs < 2 ^ 64 := .inl (by omega)
      simp! only []
  simp only [E1] at hz
  have hq : decide ((((Fo.an f g).deep : Nat) : Int) = 1 + (if ((g.deep : Nat) : Int) > ((f.deep : Nat) : Int) then ((g.deep : Nat) : Int) else ((f.deep : Nat) : Int))) = true := by
    apply decide_eq_true
    simp only [Fo.deep]
    split <;> omega
  refine ⟨some (.fz (.lst [.lst ((fRow m f).map D.int), .lst ((fRow m g).map D.int)])), some (.ol [.ol (((fRow m f).map D.int).map O.fz ++ [.fz (.str "more")]), .ol (((fRow m f).map D.int).map O.fz)]), some (.ol [.ol (((fRow m f).map D.int).map O.fz), .ol (((fRow m f).map D.int).map O.fz), .ol (((fRow m (.an f g)).map D.int).map O.fz), .ol (((fRow m (.an f g)).map D.int).map O.fz)]), some (.ol (((fRow m (.an f g)).map D.int).map O.fz)), ?_⟩
  rw [e__law_right]
  simp only [E1]
  simp! only [b__law_right, forB, H1, H2, hr, r1, r2, r3, r4, r5, d1, d2, e1, e2, i1, i2, s1, s2, s3, s4, ap, app_at, hz, hq, pick10, mul2]
end Kx
namespace Kx
open PySem PySem.Spec L2 GM
theorem good_two {v : D} (h : sok 10 v = true) : sok 12 (.lst [.lst [.int 1, v], .lst [.int 1, v]]) = true := by
  simp only [sok, List.all_cons, List.all_nil, h]; rfl
theorem turn {n m : Nat} (hm : 0 < m ∧ m < 5) (f g : Fo) (a4 a7 a8 a9 a13 : Option O) (cs : Cells) (hfl : cs.all flatC = true) (v : D) (h1 : fin 12 v = true) (h2 : sok 10 v = true) :
    forB (E1 n m f g a4 a7 a8 a9 (some (.fz v)) a13) cs = .nx (E1 n m f g a4 a7 a8 a9 (some (.fz v)) (some (.fz (.bl (isF 12 (m : Nat) v))))) cs := by
  have e1 := r_right_form (m : Nat) cs 12 v h1
  have e2 := r_is_formula m v cs h1
  cases hb : isF 12 (m : Nat) v with
  | true =>
    rw [hb] at e1 e2
    have s := r_same cs 12 (.bl true) rfl
    simp only [E1]
    simp! only [forB, e1, e2, s]
  | false =>
    rw [hb] at e1 e2
    have s := r_same cs 12 (.bl false) rfl
    have s2 := r_same cs 12 _ (good_two h2)
    have L : xLc (lItems (xTup (lCons (xC (.int 1)) (lCons (xC (.int 2)) lNil)))) [14] (tgNm 14) (xC (.bl true)) (xCall m__law_heard (lCons (xNm 14) (lCons (xNm 1) (lCons (xNm 12) lNil)))) (E1 n m f g a4 a7 a8 a9 (some (.fz v)) (some (.fz (.bl false)))) cs = .ok (.ol [.ol [.fz (.int 1), .fz v], .ol [.fz (.int 1), .fz v]]) (E1 n m f g a4 a7 a8 a9 (some (.fz v)) (some (.fz (.bl false)))) cs := by
      refine Eq.trans (lc_D (env1 := E1 n m f g a4 a7 a8 a9 (some (.fz v)) (some (.fz (.bl false)))) (cs1 := cs) [.int 1, .int 2] (fun _ => .ol [.fz (.int 1), .fz v]) ?_ (Nat.le_of_ble_eq_true rfl) fun w hw => ⟨_, by rfl, ?_, by rfl⟩) rfl
      · simp! only []
      · have hw' : ∃ way : Int, w = .int way ∧ (way = 1 ∨ way = 2) := by
          simp only [List.mem_cons, List.not_mem_nil, or_false] at hw
          rcases hw with rfl | rfl
          · exact ⟨1, rfl, .inl rfl⟩
          · exact ⟨2, rfl, .inr rfl⟩
        obtain ⟨way, rfl, hy⟩ := hw'
        have hh := r_heard_form m way hy v cs h1 hb
        simp only [E1, List.set_cons_succ, List.set_cons_zero, c_wipe1, c_wipe0]
        simp! only [hh]
    simp only [E1] at L ⊢
    simp! only [forB, e1, e2, s, s2, L, mul2]
theorem r_right {n m : Nat} (hm : 0 < m ∧ m < 5) (cs : Cells) (q : Int) (hp : Pu cs n q) (hq : q + 20000 < 2 ^ 59) :
    ∃ cs', m__law_right [.cel n, .int (m : Nat)] cs = .ok (.fz (.bl true)) cs' ∧ Pu cs' n (q + 20000) ∧ cs'.length = cs.length := by
  have b12 : bud 12 = 8190 := rfl
  obtain ⟨f, cs1, f1, f2, f3, f4, f5⟩ := r_law_formula hm 12 3 cs q hp (by omega) (by omega)
  obtain ⟨g, cs2, g1, g2, g3, g4, g5⟩ := r_law_formula hm 12 3 cs1 (q + bud 12) f4 (by omega) (by omega)
  obtain ⟨a4, a7, a8, a9, hr⟩ := right1 hm f g f2 g2 f3 g3 cs cs1 cs2 g4.2 f1 g1
  obtain ⟨os, cs3, b1, b2, b3, b4, b5⟩ := r_bent hm f f2 f3 cs2 (q + bud 12 + bud 12) g4 (by omega)
  refine ⟨cs3, ?_, b3.mono (by omega), by omega⟩
  rw [hr]
  obtain ⟨env', cs', k1, k2, k3⟩ := for_nx (t := tgNm 12) (b := forB) (ds := frzL os) (env := E1 n m f g a4 a7 a8 a9 none none) (cs := cs3)
    (fun ds env cs => (∀ d ∈ ds, fin 12 d = true ∧ sok 10 d = true) ∧ cs = cs3 ∧ ∃ a b, env = E1 n m f g a4 a7 a8 a9 a b) ⟨b2, rfl, _, _, rfl⟩ fun d r env cs ⟨h1, h2, a, b, h3⟩ => by
      subst h2 h3
      have hd := h1 d (by simp)
      exact ⟨_, _, _, by rfl, turn hm f g a4 a7 a8 a9 b cs b3.2 d hd.1 hd.2, fun x hx => h1 x (by simp [hx]), rfl, _, _, rfl⟩
  obtain ⟨rfl, a, b, rfl⟩ := k3
  have hE : E1 n m f g a4 a7 a8 a9 none none = [some (.fz (.cel n)), some (.fz (.int (m : Nat))), some (.fz f.d), some (.fz g.d), a4, none, none, a7, a8, a9, none, none, none, none, none] := rfl
  rw [hE] at k1 ⊢
  simp! only [b1, k1]
/-! ### the law -/
theorem pow_big (i j : Int) (hj : 0 ≤ j) (hb : (Builtin.Int.intBits i : Int) * j ≤ 2 ^ 27) (cs : Cells) : pPow (.int i) (.int j) cs = some (.fz (.int (i ^ j.toNat))) := if_pos ⟨hj, hb⟩
theorem r_purse (ns : List Int) (at_ : Nat) (ha : at_ < 3) (cs : Cells) : ∃ p s : Int, m__law_purse [.scr (ns.map D.int), .int (at_ : Nat)] cs = .ok (.ol [.fz (.int p), .fz (.int s), .fz (.int 0), .fz (.int (at_ : Nat))]) cs ∧ 0 ≤ p := by
  obtain ⟨P, hP⟩ : ∃ P : Int, P = (10 : Int) ^ 60 := ⟨_, rfl⟩
  have p1 : pPow (.int 10) (.int 60) cs = some (.fz (.int P)) := by rw [hP]; exact pow_big 10 60 (by decide) (by decide +kernel) cs
  obtain ⟨R, hR⟩ : ∃ R : Int, R = P ^ 8 := ⟨_, rfl⟩
  have hP0 : 0 < P := by rw [hP]; exact Int.pow_pos (by decide)
  have p2 : pPow (.int P) (.int 8) cs = some (.fz (.int R)) := by
    rw [hR]
    refine pow_big P 8 (by decide) ?_ cs
    rw [hP]; decide +kernel
  have hR0 : 0 < R := by rw [hR]; exact Int.pow_pos hP0
  obtain ⟨T, hT⟩ : ∃ T : Int, T = (10 : Int) ^ 18 := ⟨_, rfl⟩
  have p3 : pPow (.int 10) (.int 18) cs = some (.fz (.int T)) := by rw [hT]; exact pow_big 10 18 (by decide) (by decide +kernel) cs
  obtain ⟨S, hS⟩ : ∃ S : Int, pSum [.lst (cutD (ns.map D.int) (some (at_ : Nat)) (some ((at_ : Nat) + 1)))] cs = some (.fz (.int S)) := by
    unfold cutD
    rw [← List.map_drop, ← List.map_take]
    exact ⟨_, p_sum (toInts_map id _)⟩
  have hs : pSl (.scr (ns.map D.int)) (some (at_ : Nat)) (some ((at_ : Nat) + 1)) = some (.ol ((cutD (ns.map D.int) (some (at_ : Nat)) (some ((at_ : Nat) + 1))).map .fz)) := rfl
  refine ⟨(if 0 > S - T then 0 else S - T) % R, S % 2147483629, ?_, Int.emod_nonneg _ (by omega)⟩
  rw [e__law_purse]
  have m1 : pMod (.int S) (.int 2147483629) cs = some (.fz (.int (S % 2147483629))) := p_mod (by decide)
  simp! only [b__law_purse, hs, hS, p1, p2, p3, m1]
def innB : SM := (sIf (xNot (xCall m__law_right (lCons (xNm 2) (lCons (xOp2 pAdd (xC (.int 1)) (xCall m__law_draw (lCons (xNm 2) (lCons (xC (.int 4)) lNil)))) lNil))))
      (sRet (xC (.bl false)))
      sNil)
theorem innB_nx {ns : List Int} {n : Nat} {a1 a3 a4 a5 : Option O} (cs : Cells) (q : Int) (hp : Pu cs n q) (hq : q + 20001 < 2 ^ 59) :
    ∃ cs', innB [some (.fz (.scr (ns.map D.int))), a1, some (.fz (.cel n)), a3, a4, a5] cs = .nx [some (.fz (.scr (ns.map D.int))), a1, some (.fz (.cel n)), a3, a4, a5] cs' ∧ Pu cs' n (q + 20001) ∧ cs'.length = cs.length := by
  obtain ⟨v, cs1, h1, h2, h3, h4, h5⟩ := r_drawP hp (many := 4) (by omega) (by omega) (by omega)
  obtain ⟨j, rfl⟩ : ∃ j : Nat, v = j := ⟨v.toNat, by omega⟩
  obtain ⟨cs2, g1, g2, g3⟩ := r_right (n := n) (m := 1 + j) (by omega) cs1 (q + 1) h4 (by omega)
  refine ⟨cs2, ?_, g2.mono (by omega), by omega⟩
  have e : (1 : Int) + (j : Nat) = ((1 + j : Nat) : Int) := by omega
  simp! only [innB, h1, e, g1]
theorem rng3 (env : Ev) (cs : Cells) : lRng1 (lCons (xC (.int 3)) lNil) env cs = .ok [.int (0 : Nat), .int (1 : Nat), .int (2 : Nat)] env cs := by simp! only []; rfl
theorem inner {ns : List Int} {n : Nat} {a1 a3 a4 a5 : Option O} (cs : Cells) (hp : Pu cs n 0) :
    ∃ a3' cs', sFor (lRng1 (lCons (xC (.int 3)) lNil)) (tgNm 3) innB [some (.fz (.scr (ns.map D.int))), a1, some (.fz (.cel n)), a3, a4, a5] cs = .nx [some (.fz (.scr (ns.map D.int))), a1, some (.fz (.cel n)), a3', a4, a5] cs' ∧ cs'.length = cs.length ∧ cs'.all flatC = true := by
  obtain ⟨c1, g1, g2, g3⟩ := innB_nx (ns := ns) (a1 := a1) (a3 := some (.fz (.int (0 : Nat)))) (a4 := a4) (a5 := a5) cs 0 hp (by omega)
  obtain ⟨c2, k1, k2, k3⟩ := innB_nx (ns := ns) (a1 := a1) (a3 := some (.fz (.int (1 : Nat)))) (a4 := a4) (a5 := a5) c1 _ g2 (by omega)
  obtain ⟨c3, l1, l2, l3⟩ := innB_nx (ns := ns) (a1 := a1) (a3 := some (.fz (.int (2 : Nat)))) (a4 := a4) (a5 := a5) c2 _ k2 (by omega)
  refine ⟨some (.fz (.int (2 : Nat))), c3, ?_, by omega, l2.2⟩
  rw [u_for, rng3]
  simp! only [g1, k1, l1]
def outB : SM := (sSeq (sAsgC 2 (xCall m__law_purse (lCons (xNm 0) (lCons (xNm 1) lNil))))
      (sFor (lRng1 (lCons (xC (.int 3)) lNil)) (tgNm 3) innB))
theorem outB_nx {ns : List Int} {at_ : Nat} (ha : at_ < 3) {a2 a3 a4 a5 : Option O} (cs : Cells) (hf : cs.all flatC = true) :
    ∃ a2' a3' cs', outB [some (.fz (.scr (ns.map D.int))), some (.fz (.int (at_ : Nat))), a2, a3, a4, a5] cs = .nx [some (.fz (.scr (ns.map D.int))), some (.fz (.int (at_ : Nat))), a2', a3', a4, a5] cs' ∧ cs'.all flatC = true := by
  obtain ⟨p, s, h1, h2⟩ := r_purse ns at_ ha cs
  have hp : Pu (cs ++ [.lst [.int p, .int s, .int 0, .int (at_ : Nat)]]) cs.length 0 := by
    refine ⟨⟨p, s, 0, (at_ : Nat), ?_, h2, Int.le_refl _, Int.le_refl _⟩, ?_⟩
    · rw [List.getElem?_append_right (Nat.le_refl _), Nat.sub_self]; rfl
    · rw [List.all_append, hf]; rfl
  obtain ⟨a3', cs', g1, g2, g3⟩ := inner (ns := ns) (n := cs.length) (a1 := some (.fz (.int (at_ : Nat)))) (a3 := a3) (a4 := a4) (a5 := a5) _ hp
  refine ⟨some (.fz (.cel cs.length)), a3', cs', ?_, g3⟩
  rw [outB, u_seq]
  have e : sAsgC 2 (xCall m__law_purse (lCons (xNm 0) (lCons (xNm 1) lNil))) [some (.fz (.scr (ns.map D.int))), some (.fz (.int (at_ : Nat))), a2, a3, a4, a5] cs = .nx [some (.fz (.scr (ns.map D.int))), some (.fz (.int (at_ : Nat))), some (.fz (.cel cs.length)), a3, a4, a5] (cs ++ [.lst [.int p, .int s, .int 0, .int (at_ : Nat)]]) := by
    simp! only [h1]
  rw [e, c_seq, g1]
def oddB : SM := (sIf (xNot (xKeep (xCall (m__law_same 12) (lCons (xLc (lRng1 (lCons (xC (.int 3)) lNil)) [5] (tgNm 5) (xC (.bl true)) (xCall m__law_heard (lCons (xNm 5) (lCons (xNm 4) (lCons (xC .non) lNil))))) (lCons (xOp2 pMul (xLst (oCons (xLst (oCons (xC (.int 0)) (oCons (xNm 4) oNil))) oNil)) (xC (.int 3))) lNil)))))
      (sRet (xC (.bl false)))
      sNil)
theorem ways {w : D} (hw : w ∈ ([.int (0 : Nat), .int (1 : Nat), .int (2 : Nat)] : List D)) : ∃ way : Int, w = .int way ∧ (way = 0 ∨ way = 1 ∨ way = 2) := by
  simp only [List.mem_cons, List.not_mem_nil, or_false] at hw
  rcases hw with rfl | rfl | rfl
  · exact ⟨0, rfl, .inl rfl⟩
  · exact ⟨1, rfl, .inr (.inl rfl)⟩
  · exact ⟨2, rfl, .inr (.inr rfl)⟩
theorem oddB_nx {a0 a1 a2 a3 : Option O} (d : D) (cs : Cells) (h1 : (tyN d).isSome = true) (h2 : isCt d = false) (h3 : sok 10 d = true) :
    oddB [a0, a1, a2, a3, some (.fz d), none] cs = .nx [a0, a1, a2, a3, some (.fz d), none] cs := by
  have L : xLc (lRng1 (lCons (xC (.int 3)) lNil)) [5] (tgNm 5) (xC (.bl true)) (xCall m__law_heard (lCons (xNm 5) (lCons (xNm 4) (lCons (xC .non) lNil)))) [a0, a1, a2, a3, some (.fz d), none] cs = .ok (.ol [.ol [.fz (.int 0), .fz d], .ol [.fz (.int 0), .fz d], .ol [.fz (.int 0), .fz d]]) [a0, a1, a2, a3, some (.fz d), none] cs := by
    refine Eq.trans (lc_D (env1 := [a0, a1, a2, a3, some (.fz d), none]) (cs1 := cs) [.int (0 : Nat), .int (1 : Nat), .int (2 : Nat)] (fun _ => .ol [.fz (.int 0), .fz d]) (rng3 _ _) (Nat.le_of_ble_eq_true rfl) fun w hw => ⟨_, by rfl, ?_, by rfl⟩) rfl
    obtain ⟨way, rfl, hy⟩ := ways hw
    have hh := r_heard_count way hy d .non cs h1 h2
    simp only [List.set_cons_succ, List.set_cons_zero, c_wipe1, c_wipe0]
    simp! only [hh]
  have s := r_same cs 12 (.lst [.lst [.int 0, d], .lst [.int 0, d], .lst [.int 0, d]]) (by simp only [sok, List.all_cons, List.all_nil, h3]; rfl)
  simp! only [oddB, L, s, mul3]
theorem last_same {a0 a1 a2 a3 a4 : Option O} (cs : Cells) :
    xKeep (xCall (m__law_same 12) (lCons (xLc (lRng1 (lCons (xC (.int 3)) lNil)) [5] (tgNm 5) (xC (.bl true)) (xCall m__law_heard (lCons (xNm 5) (lCons (xC (.int 0)) (lCons (xTup (lCons (xC (.str "in")) (lCons (xC (.int 0)) lNil))) lNil))))) (lCons (xOp2 pAdd (xLst (oCons (xLst (oCons (xC (.str "told")) (oCons (xC (.bl false)) oNil))) oNil)) (xOp2 pMul (xLst (oCons (xLst (oCons (xC (.int 1)) (oCons (xTup (lCons (xC (.str "in")) (lCons (xC (.int 0)) lNil))) oNil))) oNil)) (xC (.int 2)))) lNil))) [a0, a1, a2, a3, a4, none] cs = .ok (.fz (.bl true)) [a0, a1, a2, a3, a4, none] cs := by
  have hv : fin 12 (.tup [.str "in", .int 0]) = true := rfl
  have hf : isF 12 ((0 : Nat) : Int) (.tup [.str "in", .int 0]) = false := by rw [isF_in]; rfl
  have h0 : m__law_heard [.int 0, .int 0, .tup [.str "in", .int 0]] cs = .ok (.ol [.fz (.str "told"), .fz (.bl false)]) cs := by
    have := r_heard_told 0 _ cs hv
    rw [hf] at this; exact this
  have h1 : m__law_heard [.int 1, .int 0, .tup [.str "in", .int 0]] cs = .ok (.ol [.fz (.int 1), .fz (.tup [.str "in", .int 0])]) cs := r_heard_form 0 1 (.inl rfl) _ cs hv hf
  have h2 : m__law_heard [.int 2, .int 0, .tup [.str "in", .int 0]] cs = .ok (.ol [.fz (.int 1), .fz (.tup [.str "in", .int 0])]) cs := r_heard_form 0 2 (.inr rfl) _ cs hv hf
  have L : xLc (lRng1 (lCons (xC (.int 3)) lNil)) [5] (tgNm 5) (xC (.bl true)) (xCall m__law_heard (lCons (xNm 5) (lCons (xC (.int 0)) (lCons (xTup (lCons (xC (.str "in")) (lCons (xC (.int 0)) lNil))) lNil)))) [a0, a1, a2, a3, a4, none] cs = .ok (.ol [.ol [.fz (.str "told"), .fz (.bl false)], .ol [.fz (.int 1), .fz (.tup [.str "in", .int 0])], .ol [.fz (.int 1), .fz (.tup [.str "in", .int 0])]]) [a0, a1, a2, a3, a4, none] cs := by
    refine Eq.trans (lc_D (env1 := [a0, a1, a2, a3, a4, none]) (cs1 := cs) [.int (0 : Nat), .int (1 : Nat), .int (2 : Nat)] (fun d => match d with | .int 0 => .ol [.fz (.str "told"), .fz (.bl false)] | _ => .ol [.fz (.int 1), .fz (.tup [.str "in", .int 0])]) (rng3 _ _) (Nat.le_of_ble_eq_true rfl) fun w hw => ⟨_, by rfl, ?_, by rfl⟩) rfl
    obtain ⟨way, rfl, hy⟩ := ways hw
    simp only [List.set_cons_succ, List.set_cons_zero, c_wipe1, c_wipe0]
    rcases hy with rfl | rfl | rfl
    · simp! only [h0]
    · simp! only [h1]; rfl
    · simp! only [h2]; rfl
  have s := r_same cs 12 (.lst [.lst [.str "told", .bl false], .lst [.int 1, .tup [.str "in", .int 0]], .lst [.int 1, .tup [.str "in", .int 0]]]) rfl
  simp! only [L, s, mul2]
theorem law_true : ∀ ns : List Int, ns.length ≤ 63 → ∃ cs, m_law [.scr (ns.map D.int)] [] = .ok (.fz (.bl true)) cs := by
  intro ns _
  obtain ⟨b2, b3, c1, h1, f1⟩ := outB_nx (ns := ns) (at_ := 0) (by omega) (a2 := none) (a3 := none) (a4 := none) (a5 := none) [] rfl
  obtain ⟨d2, d3, c2, h2, f2⟩ := outB_nx (ns := ns) (at_ := 1) (by omega) (a2 := b2) (a3 := b3) (a4 := none) (a5 := none) c1 f1
  obtain ⟨e2, e3, c3, h3, f3⟩ := outB_nx (ns := ns) (at_ := 2) (by omega) (a2 := d2) (a3 := d3) (a4 := none) (a5 := none) c2 f2
  refine ⟨c3, ?_⟩
  rw [e_law]
  have L : sFor (lRng1 (lCons (xC (.int 3)) lNil)) (tgNm 1) outB [some (.fz (.scr (ns.map D.int))), none, none, none, none, none] [] = .nx [some (.fz (.scr (ns.map D.int))), some (.fz (.int (2 : Nat))), e2, e3, none, none] c3 := by
    rw [u_for, rng3]
    simp! only [h1, h2, h3]
  show fnK (sSeq (sFor (lRng1 (lCons (xC (.int 3)) lNil)) (tgNm 1) outB) (sSeq (sFor _ (tgNm 4) oddB) (sRet _)) [some (.fz (.scr (ns.map D.int))), none, none, none, none, none] []) = _
  rw [u_seq, L]
  have s0 := oddB_nx (a0 := some (.fz (.scr (ns.map D.int)))) (a1 := some (.fz (.int (2 : Nat)))) (a2 := e2) (a3 := e3) .non c3 rfl rfl rfl
  have s1 := oddB_nx (a0 := some (.fz (.scr (ns.map D.int)))) (a1 := some (.fz (.int (2 : Nat)))) (a2 := e2) (a3 := e3) (.int (0 - 1)) c3 rfl rfl rfl
  have s2 := oddB_nx (a0 := some (.fz (.scr (ns.map D.int)))) (a1 := some (.fz (.int (2 : Nat)))) (a2 := e2) (a3 := e3) (.bl true) c3 rfl rfl rfl
  have s3 := oddB_nx (a0 := some (.fz (.scr (ns.map D.int)))) (a1 := some (.fz (.int (2 : Nat)))) (a2 := e2) (a3 := e3) (.str "2") c3 rfl rfl rfl
  have s4 := oddB_nx (a0 := some (.fz (.scr (ns.map D.int)))) (a1 := some (.fz (.int (2 : Nat)))) (a2 := e2) (a3 := e3) (.lst [.int 1]) c3 rfl rfl rfl
  rw [c_seq, u_seq, u_for]
  have I : lItems (xLst (oCons (xC .non) (oCons (xOp2 pSub (xC (.int 0)) (xC (.int 1))) (oCons (xC (.bl true)) (oCons (xC (.str "2")) (oCons (xLst (oCons (xC (.int 1)) oNil)) oNil)))))) [some (.fz (.scr (ns.map D.int))), some (.fz (.int (2 : Nat))), e2, e3, none, none] c3 = .ok [.non, .int (0 - 1), .bl true, .str "2", .lst [.int 1]] [some (.fz (.scr (ns.map D.int))), some (.fz (.int (2 : Nat))), e2, e3, none, none] c3 := by simp! only []
  rw [I, c_foK]
  have F : forGo (tgNm 4) oddB [.non, .int (0 - 1), .bl true, .str "2", .lst [.int 1]] [some (.fz (.scr (ns.map D.int))), some (.fz (.int (2 : Nat))), e2, e3, none, none] c3 = .nx [some (.fz (.scr (ns.map D.int))), some (.fz (.int (2 : Nat))), e2, e3, some (.fz (.lst [.int 1])), none] c3 := by simp! only [s0, s1, s2, s3, s4]
  rw [F, c_seq, u_ret, last_same]
  rfl
end Kx
namespace Kx
open PySem PySem.Spec L2 GM
/-- what the top has left -/
structure Tx (P : Program) (K : PySem.W.Frag) (mg : Str → Option Value) (C_InvalidCount C_InvalidFormula C_LentError I_InvalidCount I_InvalidFormula : Addr) : Prop where
  n_all : mg "all" = none
  n_bool : mg "bool" = none
  n_dict : mg "dict" = none
  n_int : mg "int" = none
  n_isinstance : mg "isinstance" = none
  n_len : mg "len" = none
  n_list : mg "list" = none
  n_max : mg "max" = none
  n_min : mg "min" = none
  n_range : mg "range" = none
  n_sorted : mg "sorted" = none
  n_str : mg "str" = none
  n_sum : mg "sum" = none
  n_tuple : mg "tuple" = none
  n_zip : mg "zip" = none
  o_InvalidCount : OwnT P K mg "InvalidCount" "InvalidCount.__init__" C_InvalidCount I_InvalidCount
  o_InvalidFormula : OwnT P K mg "InvalidFormula" "InvalidFormula.__init__" C_InvalidFormula I_InvalidFormula
  errA : ∀ c, okErr c = true → ∀ C, mg c = some (.ref C) → ExA K C
  is_InvalidCount : IsF K mg "InvalidCount" bt_InvalidCount own_InvalidCount
  is_InvalidFormula : IsF K mg "InvalidFormula" bt_InvalidFormula own_InvalidFormula
  g_LentError : mg "LentError" = some (.ref C_LentError)
  ct_LentError : ∀ k b, catch_LentError k = some b → ∀ C, mg k = some (.ref C) → PySem.W.exmOne K (.ref C) (.ref C_LentError) = some b
section
variable {P : Program} {w : World} {K : PySem.W.Frag} {mg : Str → Option Value} {base : Heap} {C_InvalidCount C_InvalidFormula C_LentError I_InvalidCount I_InvalidFormula : Addr}
theorem sc_is_whole : FnScope N_is_whole ["value"] (defScope s_is_whole) := ⟨rfl, rfl, rfl, by decide +kernel, rfl, by decide +kernel, by decide +kernel⟩
theorem fn_is_whole (T : Tx P K mg C_InvalidCount C_InvalidFormula C_LentError I_InvalidCount I_InvalidFormula) (D : Df K mg "is_whole" s_is_whole ["value"]) : Fn P w K mg base 1 "is_whole" ["value"] m_is_whole := by
  have nd := sc_is_whole.nd
  exact mkFn (k := 0) D sc_is_whole fun f cdv A outer s H E hr =>
    (bm_one (sm_ret (em_and (em_isT "int" T.n_isinstance T.n_int PyProof.Rows.Boot.«int» (by decide) (em_nm 0)) (em_one (em_not (em_isT "bool" T.n_isinstance T.n_bool PyProof.Rows.Boot.«bool» (by decide) (em_nm 0)))))))
theorem sc_is_count : FnScope N_is_count ["value"] (defScope s_is_count) := ⟨rfl, rfl, rfl, by decide +kernel, rfl, by decide +kernel, by decide +kernel⟩
theorem fn_is_count (T : Tx P K mg C_InvalidCount C_InvalidFormula C_LentError I_InvalidCount I_InvalidFormula) (D : Df K mg "is_count" s_is_count ["value"]) (F_is_whole : Fn P w K mg base 1 "is_whole" ["value"] m_is_whole) : Fn P w K mg base 2 "is_count" ["value"] m_is_count := by
  have nd := sc_is_count.nd
  exact mkFn (k := 1) D sc_is_count fun f cdv A outer s H E hr =>
    (bm_one (sm_ret (em_and (em_call (F_is_whole.mono (by first | decide | omega)) hr (am_cons (em_nm 0) am_nil)) (em_one (em_cmp op_ge P_ge (em_nm 0) em_int)))))
theorem sc_all_bits : FnScope N_all_bits ["many"] (defScope s_all_bits) := ⟨rfl, rfl, rfl, by decide +kernel, rfl, by decide +kernel, by decide +kernel⟩
theorem fn_all_bits (T : Tx P K mg C_InvalidCount C_InvalidFormula C_LentError I_InvalidCount I_InvalidFormula) (D : Df K mg "all_bits" s_all_bits ["many"]) : Fn P w K mg base 1 "all_bits" ["many"] m_all_bits := by
  have nd := sc_all_bits.nd
  exact mkFn (k := 0) D sc_all_bits fun f cdv A outer s H E hr =>
    (bm_cons (sm_asg (i := 1) nd (em_lst (ao_cons (em_lst ao_nil) ao_nil)))
      (bm_cons (sm_for (passes_of rfl) rfl (im_rng1 T.n_range (am_cons (em_nm 0) am_nil)) (gm_nm (i := 2) nd)
      (bm_one (sm_asgLc2 (own := [("row", 3), ("bit", 4)]) [4] (i := 1) rfl nd (sw_true rfl rfl rfl (by decide +kernel)) (im_items (em_nm 1)) (blkOk_by (N := N_all_bits) (sc := defScope s_all_bits) (own := [("row", 3), ("bit", 4)]) (by decide +kernel)) (by decide) (by decide) (by decide) (fun _ _ _ _ _ => (gm_nm (i := 3) nd)) (fun _ _ _ _ _ => cm_nil) (fun _ _ _ _ _ => (im_items (em_tup (am_cons em_int (am_cons em_int am_nil))))) (fun _ _ _ _ _ => (gm_nm (i := 4) nd)) (fun _ _ _ _ _ => cm_nil) (fun _ _ _ _ _ => (em_lst (ao_star (em_nm 3) (ao_cons (em_nm 4) ao_nil)))))))
      (bm_one (sm_retV 1))))
theorem sc_is_formula_of : FnScope N_is_formula_of ["many", "value"] (defScope s_is_formula_of) := ⟨rfl, rfl, rfl, by decide +kernel, rfl, by decide +kernel, by decide +kernel⟩
theorem fn_is_formula_of (T : Tx P K mg C_InvalidCount C_InvalidFormula C_LentError I_InvalidCount I_InvalidFormula) (D : Df K mg "is_formula_of" s_is_formula_of ["many", "value"]) (F_is_count : Fn P w K mg base 2 "is_count" ["value"] m_is_count) : ∀ k, Fn P w K mg base (2 + k) "is_formula_of" ["many", "value"] (m_is_formula_of k)
  | 0 => Fn.none D
  | k + 1 => by
    have IH := fn_is_formula_of T D F_is_count k
    have nd := sc_is_formula_of.nd
    exact mkFn (k := 2 + k) D sc_is_formula_of fun f cdv A outer s H E hr =>
      (bm_cons (sm_if (tm_w (wm_or (tm_not (tm_val (em_isT "tuple" T.n_isinstance T.n_tuple PyProof.Rows.Boot.«tuple» (by decide) (em_nm 1)))) (wm_or (tm_cmp (op_eqG hr.units) P_eq (em_nm 1) (em_tup am_nil)) (wm_or1 (tm_not (tm_val (em_isT "str" T.n_isinstance T.n_str PyProof.Rows.Boot.«str» (by decide) (em_ix (u1 hr) (em_nm 1) em_int))))))))
      (bm_one (sm_ret em_bl))
      bm_nil)
      (bm_cons (sm_if (tm_cmp (op_eqG hr.units) P_eq (em_ix (u1 hr) (em_nm 1) em_int) em_str)
      (bm_one (sm_ret (em_and (em_cmp (op_eqG hr.units) P_eq (em_keep (em_callB call_lenG P_len T.n_len PySem.boot_len (am_cons (em_nm 1) am_nil))) em_int) (em_and (em_call (F_is_count.mono (by first | decide | omega)) hr (am_cons (em_ix (u1 hr) (em_nm 1) em_int) am_nil)) (em_one (em_cmp op_lt P_lt (em_ix (u1 hr) (em_nm 1) em_int) (em_nm 0)))))))
      bm_nil)
      (bm_cons (sm_if (tm_cmp (op_eqG hr.units) P_eq (em_ix (u1 hr) (em_nm 1) em_int) em_str)
      (bm_one (sm_ret (em_and (em_cmp (op_eqG hr.units) P_eq (em_keep (em_callB call_lenG P_len T.n_len PySem.boot_len (am_cons (em_nm 1) am_nil))) em_int) (em_one (em_call IH hr (am_cons (em_nm 0) (am_cons (em_ix (u1 hr) (em_nm 1) em_int) am_nil)))))))
      bm_nil)
      (bm_one (sm_ret (em_and (em_cmp (op_eqG hr.units) P_eq (em_ix (u1 hr) (em_nm 1) em_int) em_str) (em_and (em_cmp (op_eqG hr.units) P_eq (em_keep (em_callB call_lenG P_len T.n_len PySem.boot_len (am_cons (em_nm 1) am_nil))) em_int) (em_one (em_callB (cr_all rfl) P_all T.n_all PyProof.Rows.Boot.«all» (am_cons (em_lc (own := [("late", 2)]) rfl nd (im_items (em_sl (em_nm 1) (pom_some em_int) pom_none)) (blkOk_by (N := N_is_formula_of) (sc := defScope s_is_formula_of) (own := [("late", 2)]) (by decide +kernel)) (by decide) (fun _ _ _ _ _ => (gm_nm (i := 2) nd)) (fun _ _ _ _ _ => cm_nil) (fun _ _ _ _ _ => (em_call IH hr (am_cons (em_nm 0) (am_cons (em_nm 2) am_nil))))) am_nil))))))))))
theorem sc_check_formula : FnScope N_check_formula ["many", "value"] (defScope s_check_formula) := ⟨rfl, rfl, rfl, by decide +kernel, rfl, by decide +kernel, by decide +kernel⟩
theorem fn_check_formula (T : Tx P K mg C_InvalidCount C_InvalidFormula C_LentError I_InvalidCount I_InvalidFormula) (D : Df K mg "check_formula" s_check_formula ["many", "value"]) (F_is_count : Fn P w K mg base 2 "is_count" ["value"] m_is_count) (F_is_formula_of : Fn P w K mg base 14 "is_formula_of" ["many", "value"] (m_is_formula_of 12)) : Fn P w K mg base 15 "check_formula" ["many", "value"] m_check_formula := by
  have nd := sc_check_formula.nd
  exact mkFn (k := 14) D sc_check_formula fun f cdv A outer s H E hr =>
    (bm_cons (sm_if (tm_not (tm_val (em_call (F_is_count.mono (by first | decide | omega)) hr (am_cons (em_nm 0) am_nil))))
      (bm_one (sm_raise rfl T.o_InvalidCount hr (em_nm 0)))
      bm_nil)
      (bm_one (sm_if (tm_not (tm_val (em_call (F_is_formula_of.mono (by first | decide | omega)) hr (am_cons (em_nm 0) (am_cons (em_nm 1) am_nil)))))
      (bm_one (sm_raise rfl T.o_InvalidFormula hr (em_nm 1)))
      bm_nil)))
theorem sc_is_formula : FnScope N_is_formula ["many", "value"] (defScope s_is_formula) := ⟨rfl, rfl, rfl, by decide +kernel, rfl, by decide +kernel, by decide +kernel⟩
theorem fn_is_formula (T : Tx P K mg C_InvalidCount C_InvalidFormula C_LentError I_InvalidCount I_InvalidFormula) (D : Df K mg "is_formula" s_is_formula ["many", "value"]) (F_is_formula_of : Fn P w K mg base 14 "is_formula_of" ["many", "value"] (m_is_formula_of 12)) (F_is_count : Fn P w K mg base 2 "is_count" ["value"] m_is_count) : Fn P w K mg base 15 "is_formula" ["many", "value"] m_is_formula := by
  have nd := sc_is_formula.nd
  exact mkFn (k := 14) D sc_is_formula fun f cdv A outer s H E hr =>
    (bm_cons (sm_if (tm_not (tm_val (em_call (F_is_count.mono (by first | decide | omega)) hr (am_cons (em_nm 0) am_nil))))
      (bm_one (sm_raise rfl T.o_InvalidCount hr (em_nm 0)))
      bm_nil)
      (bm_one (sm_ret (em_call (F_is_formula_of.mono (by first | decide | omega)) hr (am_cons (em_nm 0) (am_cons (em_nm 1) am_nil))))))
theorem sc_formula_at : FnScope N_formula_at ["formula", "bits"] (defScope s_formula_at) := ⟨rfl, rfl, rfl, by decide +kernel, rfl, by decide +kernel, by decide +kernel⟩
theorem fn_formula_at (T : Tx P K mg C_InvalidCount C_InvalidFormula C_LentError I_InvalidCount I_InvalidFormula) (D : Df K mg "formula_at" s_formula_at ["formula", "bits"]) : ∀ k, Fn P w K mg base (0 + k) "formula_at" ["formula", "bits"] (m_formula_at k)
  | 0 => Fn.none D
  | k + 1 => by
    have IH := fn_formula_at T D k
    have nd := sc_formula_at.nd
    exact mkFn (k := 0 + k) D sc_formula_at fun f cdv A outer s H E hr =>
      (bm_cons (sm_if (tm_cmp (op_eqG hr.units) P_eq (em_ix (u1 hr) (em_nm 0) em_int) em_str)
      (bm_one (sm_ret (em_ix (u1 hr) (em_nm 1) (em_ix (u1 hr) (em_nm 0) em_int))))
      bm_nil)
      (bm_cons (sm_if (tm_cmp (op_eqG hr.units) P_eq (em_ix (u1 hr) (em_nm 0) em_int) em_str)
      (bm_one (sm_ret (em_bin op_sub P_sub em_int (em_call IH hr (am_cons (em_ix (u1 hr) (em_nm 0) em_int) (am_cons (em_nm 1) am_nil))))))
      bm_nil)
      (bm_one (sm_ret (em_bin op_mulG P_mul (em_call IH hr (am_cons (em_ix (u1 hr) (em_nm 0) em_int) (am_cons (em_nm 1) am_nil))) (em_call IH hr (am_cons (em_ix (u1 hr) (em_nm 0) em_int) (am_cons (em_nm 1) am_nil))))))))
theorem sc_formula_row : FnScope N_formula_row ["many", "formula"] (defScope s_formula_row) := ⟨rfl, rfl, rfl, by decide +kernel, rfl, by decide +kernel, by decide +kernel⟩
theorem fn_formula_row (T : Tx P K mg C_InvalidCount C_InvalidFormula C_LentError I_InvalidCount I_InvalidFormula) (D : Df K mg "formula_row" s_formula_row ["many", "formula"]) (F_check_formula : Fn P w K mg base 15 "check_formula" ["many", "value"] m_check_formula) (F_formula_at : Fn P w K mg base 12 "formula_at" ["formula", "bits"] (m_formula_at 12)) (F_all_bits : Fn P w K mg base 1 "all_bits" ["many"] m_all_bits) : Fn P w K mg base 16 "formula_row" ["many", "formula"] m_formula_row := by
  have nd := sc_formula_row.nd
  exact mkFn (k := 15) D sc_formula_row fun f cdv A outer s H E hr =>
    (bm_cons (sm_expr (em_call (F_check_formula.mono (by first | decide | omega)) hr (am_cons (em_nm 0) (am_cons (em_nm 1) am_nil))))
      (bm_one (sm_ret (em_lc (own := [("bits", 2)]) rfl nd (im_items (em_call (F_all_bits.mono (by first | decide | omega)) hr (am_cons (em_nm 0) am_nil))) (blkOk_by (N := N_formula_row) (sc := defScope s_formula_row) (own := [("bits", 2)]) (by decide +kernel)) (by decide) (fun _ _ _ _ _ => (gm_nm (i := 2) nd)) (fun _ _ _ _ _ => cm_nil) (fun _ _ _ _ _ => (em_call (F_formula_at.mono (by first | decide | omega)) hr (am_cons (em_nm 1) (am_cons (em_nm 2) am_nil))))))))
theorem sc_depth_there : FnScope N_depth_there ["formula"] (defScope s_depth_there) := ⟨rfl, rfl, rfl, by decide +kernel, rfl, by decide +kernel, by decide +kernel⟩
theorem fn_depth_there (T : Tx P K mg C_InvalidCount C_InvalidFormula C_LentError I_InvalidCount I_InvalidFormula) (D : Df K mg "depth_there" s_depth_there ["formula"]) : ∀ k, Fn P w K mg base (0 + k) "depth_there" ["formula"] (m_depth_there k)
  | 0 => Fn.none D
  | k + 1 => by
    have IH := fn_depth_there T D k
    have nd := sc_depth_there.nd
    exact mkFn (k := 0 + k) D sc_depth_there fun f cdv A outer s H E hr =>
      (bm_one (sm_ret (em_if (tm_cmp (op_eqG hr.units) P_eq (em_ix (u1 hr) (em_nm 0) em_int) em_str) em_int (em_bin op_addG P_add em_int (em_callB (call_maxG rfl) P_max T.n_max PyProof.Rows.Boot.«max» (am_cons (em_lc (own := [("late", 1)]) rfl nd (im_items (em_sl (em_nm 0) (pom_some em_int) pom_none)) (blkOk_by (N := N_depth_there) (sc := defScope s_depth_there) (own := [("late", 1)]) (by decide +kernel)) (by decide) (fun _ _ _ _ _ => (gm_nm (i := 1) nd)) (fun _ _ _ _ _ => cm_nil) (fun _ _ _ _ _ => (em_call IH hr (am_cons (em_nm 1) am_nil)))) am_nil))))))
theorem sc_formula_depth : FnScope N_formula_depth ["many", "formula"] (defScope s_formula_depth) := ⟨rfl, rfl, rfl, by decide +kernel, rfl, by decide +kernel, by decide +kernel⟩
theorem fn_formula_depth (T : Tx P K mg C_InvalidCount C_InvalidFormula C_LentError I_InvalidCount I_InvalidFormula) (D : Df K mg "formula_depth" s_formula_depth ["many", "formula"]) (F_check_formula : Fn P w K mg base 15 "check_formula" ["many", "value"] m_check_formula) (F_depth_there : Fn P w K mg base 12 "depth_there" ["formula"] (m_depth_there 12)) : Fn P w K mg base 16 "formula_depth" ["many", "formula"] m_formula_depth := by
  have nd := sc_formula_depth.nd
  exact mkFn (k := 15) D sc_formula_depth fun f cdv A outer s H E hr =>
    (bm_cons (sm_expr (em_call (F_check_formula.mono (by first | decide | omega)) hr (am_cons (em_nm 0) (am_cons (em_nm 1) am_nil))))
      (bm_one (sm_ret (em_call (F_depth_there.mono (by first | decide | omega)) hr (am_cons (em_nm 1) am_nil)))))
theorem sc__law_purse : FnScope N__law_purse ["script", "at"] (defScope s__law_purse) := ⟨rfl, rfl, rfl, by decide +kernel, rfl, by decide +kernel, by decide +kernel⟩
theorem fn__law_purse (T : Tx P K mg C_InvalidCount C_InvalidFormula C_LentError I_InvalidCount I_InvalidFormula) (D : Df K mg "_law_purse" s__law_purse ["script", "at"]) : Fn P w K mg base 1 "_law_purse" ["script", "at"] m__law_purse := by
  have nd := sc__law_purse.nd
  exact mkFn (k := 0) D sc__law_purse fun f cdv A outer s H E hr =>
    (bm_cons (sm_asg (i := 2) nd (em_callB (cr_sum rfl) P_sum T.n_sum PyProof.Rows.Boot.«sum» (am_cons (em_sl (em_nm 0) (pom_some (em_nm 1)) (pom_some (em_bin op_addG P_add (em_nm 1) em_int))) am_nil)))
      (bm_one (sm_ret (em_lst (ao_cons (em_bin op_mod P_mod (em_callTy call_intG P_int T.n_int PyProof.Rows.Boot.«int» (am_cons (em_callB (call_maxG rfl) P_max T.n_max PyProof.Rows.Boot.«max» (am_cons (em_bin op_sub P_sub (em_nm 2) (em_bin op_powG P_pow em_int em_int)) (am_cons em_int am_nil))) am_nil)) (em_bin op_powG P_pow (em_bin op_powG P_pow em_int em_int) em_int)) (ao_cons (em_bin op_mod P_mod (em_callTy call_intG P_int T.n_int PyProof.Rows.Boot.«int» (am_cons (em_nm 2) am_nil)) em_int) (ao_cons em_int (ao_cons (em_nm 1) ao_nil))))))))
theorem sc__law_mixed : FnScope N__law_mixed ["seed", "spin", "at"] (defScope s__law_mixed) := ⟨rfl, rfl, rfl, by decide +kernel, rfl, by decide +kernel, by decide +kernel⟩
theorem fn__law_mixed (T : Tx P K mg C_InvalidCount C_InvalidFormula C_LentError I_InvalidCount I_InvalidFormula) (D : Df K mg "_law_mixed" s__law_mixed ["seed", "spin", "at"]) : Fn P w K mg base 1 "_law_mixed" ["seed", "spin", "at"] m__law_mixed := by
  have nd := sc__law_mixed.nd
  exact mkFn (k := 0) D sc__law_mixed fun f cdv A outer s H E hr =>
    (bm_cons (sm_asg (i := 3) nd (em_bin op_addG P_add (em_bin op_mulG P_mul (em_nm 0) em_int) (em_bin op_mulG P_mul (em_bin op_mulG P_mul em_int (em_nm 1)) (em_nm 1))))
      (bm_cons (sm_asg (i := 3) nd (em_bin op_mod P_mod (em_callTy call_intG P_int T.n_int PyProof.Rows.Boot.«int» (am_cons (em_bin op_addG P_add (em_bin op_addG P_add (em_nm 3) (em_bin op_mulG P_mul em_int (em_nm 2))) (em_nm 1)) am_nil)) em_int))
      (bm_cons (sm_asg (i := 3) nd (em_bin op_mod P_mod (em_callTy call_intG P_int T.n_int PyProof.Rows.Boot.«int» (am_cons (em_bin op_addG P_add (em_bin op_mulG P_mul (em_nm 3) (em_nm 3)) em_int) am_nil)) em_int))
      (bm_one (sm_ret (em_bin op_mod P_mod (em_callTy call_intG P_int T.n_int PyProof.Rows.Boot.«int» (am_cons (em_bin op_mulG P_mul (em_nm 3) em_int) am_nil)) em_int))))))
theorem sc__law_draw : FnScope N__law_draw ["purse", "many"] (defScope s__law_draw) := ⟨rfl, rfl, rfl, by decide +kernel, rfl, by decide +kernel, by decide +kernel⟩
theorem fn__law_draw (T : Tx P K mg C_InvalidCount C_InvalidFormula C_LentError I_InvalidCount I_InvalidFormula) (D : Df K mg "_law_draw" s__law_draw ["purse", "many"]) (F__law_mixed : Fn P w K mg base 1 "_law_mixed" ["seed", "spin", "at"] m__law_mixed) : Fn P w K mg base 2 "_law_draw" ["purse", "many"] m__law_draw := by
  have nd := sc__law_draw.nd
  exact mkFn (k := 1) D sc__law_draw fun f cdv A outer s H E hr =>
    (bm_cons (sm_if (tm_cmp op_gt P_gt (em_ix (u1 hr) (em_nm 0) em_int) em_int)
      (bm_cons (sm_asg (i := 2) nd (em_bin op_mod P_mod (em_callTy call_intG P_int T.n_int PyProof.Rows.Boot.«int» (am_cons (em_ix (u1 hr) (em_nm 0) em_int) am_nil)) (em_nm 1)))
      (bm_cons (sm_setC (em_bin op_fdiv P_fdiv (em_ix (u1 hr) (em_nm 0) em_int) (em_nm 1)) (em_nm 0) em_int)
      (bm_one (sm_retV 2))))
      bm_nil)
      (bm_cons (sm_asg (i := 3) nd em_int)
      (bm_cons (sm_for (passes_of rfl) rfl (im_rng1 T.n_range (am_cons (em_bin op_addG P_add em_int (em_bin op_fdiv P_fdiv (em_bits (em_nm 1)) em_int)) am_nil)) (gm_nm (i := 4) nd)
      (bm_cons (sm_setC (em_bin op_addG P_add (em_ix (u1 hr) (em_nm 0) em_int) em_int) (em_nm 0) em_int)
      (bm_one (sm_asg (i := 3) nd (em_bin op_addG P_add (em_bin op_mulG P_mul (em_nm 3) em_int) (em_call (F__law_mixed.mono (by first | decide | omega)) hr (am_cons (em_ix (u1 hr) (em_nm 0) em_int) (am_cons (em_ix (u1 hr) (em_nm 0) em_int) (am_cons (em_ix (u1 hr) (em_nm 0) em_int) am_nil)))))))))
      (bm_one (sm_ret (em_bin op_mod P_mod (em_callTy call_intG P_int T.n_int PyProof.Rows.Boot.«int» (am_cons (em_nm 3) am_nil)) (em_nm 1)))))))
theorem sc__law_one_of : FnScope N__law_one_of ["purse", "some"] (defScope s__law_one_of) := ⟨rfl, rfl, rfl, by decide +kernel, rfl, by decide +kernel, by decide +kernel⟩
theorem fn__law_one_of (T : Tx P K mg C_InvalidCount C_InvalidFormula C_LentError I_InvalidCount I_InvalidFormula) (D : Df K mg "_law_one_of" s__law_one_of ["purse", "some"]) (F__law_draw : Fn P w K mg base 2 "_law_draw" ["purse", "many"] m__law_draw) : Fn P w K mg base 3 "_law_one_of" ["purse", "some"] m__law_one_of := by
  have nd := sc__law_one_of.nd
  exact mkFn (k := 2) D sc__law_one_of fun f cdv A outer s H E hr =>
    (bm_one (sm_ret (em_ix (u1 hr) (em_nm 1) (em_call (F__law_draw.mono (by first | decide | omega)) hr (am_cons (em_nm 0) (am_cons (em_keep (em_callB call_lenG P_len T.n_len PySem.boot_len (am_cons (em_nm 1) am_nil))) am_nil))))))
theorem sc__law_same : FnScope N__law_same ["told", "due"] (defScope s__law_same) := ⟨rfl, rfl, rfl, by decide +kernel, rfl, by decide +kernel, by decide +kernel⟩
theorem fn__law_same (T : Tx P K mg C_InvalidCount C_InvalidFormula C_LentError I_InvalidCount I_InvalidFormula) (D : Df K mg "_law_same" s__law_same ["told", "due"]) : ∀ k, Fn P w K mg base (0 + k) "_law_same" ["told", "due"] (m__law_same k)
  | 0 => Fn.none D
  | k + 1 => by
    have IH := fn__law_same T D k
    have nd := sc__law_same.nd
    exact mkFn (k := 0 + k) D sc__law_same fun f cdv A outer s H E hr =>
      (bm_cons (sm_if (tm_val (em_isT "dict" T.n_isinstance T.n_dict PyProof.Rows.Boot.«dict» (by decide) (em_nm 1)))
      (bm_cons (sm_asg (i := 2) nd (em_and (em_isT "dict" T.n_isinstance T.n_dict PyProof.Rows.Boot.«dict» (by decide) (em_nm 0)) (em_and (em_cmp (op_eqG hr.units) P_eq (em_keep (em_callB call_lenG P_len T.n_len PySem.boot_len (am_cons (em_nm 0) am_nil))) (em_keep (em_callB call_lenG P_len T.n_len PySem.boot_len (am_cons (em_nm 1) am_nil)))) (em_one (em_callB (cr_all rfl) P_all T.n_all PyProof.Rows.Boot.«all» (am_cons (em_lcK (own := [("key", 3)]) 1 rfl nd (blkOk_by (N := N__law_same) (sc := defScope s__law_same) (own := [("key", 3)]) (by decide +kernel)) (by decide) (fun _ _ _ _ _ => (gm_nm (i := 3) nd)) (fun _ _ _ _ _ => cm_nil) (fun _ _ _ _ _ => (em_cmp (op_inG hr.units) P_in (em_nm 3) (em_nm 0)))) am_nil))))))
      (bm_one (sm_ret (em_and (em_nm 2) (em_one (em_callB (cr_all rfl) P_all T.n_all PyProof.Rows.Boot.«all» (am_cons (em_lcK (own := [("key", 3)]) 1 rfl nd (blkOk_by (N := N__law_same) (sc := defScope s__law_same) (own := [("key", 3)]) (by decide +kernel)) (by decide) (fun _ _ _ _ _ => (gm_nm (i := 3) nd)) (fun _ _ _ _ _ => cm_nil) (fun _ _ _ _ _ => (em_keep (em_call IH hr (am_cons (em_ix (u1 hr) (em_nm 0) (em_nm 3)) (am_cons (em_ix (u1 hr) (em_nm 1) (em_nm 3)) am_nil)))))) am_nil)))))))
      bm_nil)
      (bm_cons (sm_if (tm_val (em_isTs (TyEs.cons rfl T.n_list PyProof.Rows.Boot.«list» (by decide) (by decide) (by decide) rfl (TyEs.cons rfl T.n_tuple PyProof.Rows.Boot.«tuple» (by decide) (by decide) (by decide) rfl TyEs.nil)) T.n_isinstance (em_nm 1) (by decide)))
      (bm_cons (sm_asg (i := 2) nd (em_and (em_cmp (op_eqG hr.units) P_eq (em_isT "list" T.n_isinstance T.n_list PyProof.Rows.Boot.«list» (by decide) (em_nm 0)) (em_isT "list" T.n_isinstance T.n_list PyProof.Rows.Boot.«list» (by decide) (em_nm 1))) (em_one (em_cmp (op_eqG hr.units) P_eq (em_isT "tuple" T.n_isinstance T.n_tuple PyProof.Rows.Boot.«tuple» (by decide) (em_nm 0)) (em_isT "tuple" T.n_isinstance T.n_tuple PyProof.Rows.Boot.«tuple» (by decide) (em_nm 1))))))
      (bm_one (sm_ret (em_and (em_nm 2) (em_and (em_cmp (op_eqG hr.units) P_eq (em_keep (em_callB call_lenG P_len T.n_len PySem.boot_len (am_cons (em_nm 0) am_nil))) (em_keep (em_callB call_lenG P_len T.n_len PySem.boot_len (am_cons (em_nm 1) am_nil)))) (em_one (em_callB (cr_all rfl) P_all T.n_all PyProof.Rows.Boot.«all» (am_cons (em_lc (own := [("one", 4), ("other", 5)]) rfl nd (im_zip T.n_zip (am_cons (em_nm 0) (am_cons (em_nm 1) am_nil))) (blkOk_by (N := N__law_same) (sc := defScope s__law_same) (own := [("one", 4), ("other", 5)]) (by decide +kernel)) (by decide) (fun _ _ _ _ _ => (gm_tup rfl (gsm_cons (gm_nm (i := 4) nd) (gsm_cons (gm_nm (i := 5) nd) gsm_nil)) (tgCons_len (tgCons_len tgNil_len)))) (fun _ _ _ _ _ => cm_nil) (fun _ _ _ _ _ => (em_keep (em_call IH hr (am_cons (em_nm 4) (am_cons (em_nm 5) am_nil)))))) am_nil))))))))
      bm_nil)
      (bm_cons (sm_asg (i := 2) nd (em_and (em_not (em_isTs (TyEs.cons rfl T.n_list PyProof.Rows.Boot.«list» (by decide) (by decide) (by decide) rfl (TyEs.cons rfl T.n_tuple PyProof.Rows.Boot.«tuple» (by decide) (by decide) (by decide) rfl (TyEs.cons rfl T.n_dict PyProof.Rows.Boot.«dict» (by decide) (by decide) (by decide) rfl TyEs.nil))) T.n_isinstance (em_nm 0) (by decide))) (em_and (em_cmp (op_eqG hr.units) P_eq (em_isT "int" T.n_isinstance T.n_int PyProof.Rows.Boot.«int» (by decide) (em_nm 0)) (em_isT "int" T.n_isinstance T.n_int PyProof.Rows.Boot.«int» (by decide) (em_nm 1))) (em_one (em_cmp (op_eqG hr.units) P_eq (em_isT "str" T.n_isinstance T.n_str PyProof.Rows.Boot.«str» (by decide) (em_nm 0)) (em_isT "str" T.n_isinstance T.n_str PyProof.Rows.Boot.«str» (by decide) (em_nm 1)))))))
      (bm_one (sm_ret (em_and (em_nm 2) (em_and (em_cmp (op_eqG hr.units) P_eq (em_cmp op_isN P_is (em_nm 0) em_non) (em_cmp op_isN P_is (em_nm 1) em_non)) (em_and (em_cmp (op_eqG hr.units) P_eq (em_isT "bool" T.n_isinstance T.n_bool PyProof.Rows.Boot.«bool» (by decide) (em_nm 0)) (em_isT "bool" T.n_isinstance T.n_bool PyProof.Rows.Boot.«bool» (by decide) (em_nm 1))) (em_one (em_cmp (op_eqG hr.units) P_eq (em_nm 0) (em_nm 1)))))))))))
theorem sc__law_all_bits : FnScope N__law_all_bits ["many"] (defScope s__law_all_bits) := ⟨rfl, rfl, rfl, by decide +kernel, rfl, by decide +kernel, by decide +kernel⟩
theorem fn__law_all_bits (T : Tx P K mg C_InvalidCount C_InvalidFormula C_LentError I_InvalidCount I_InvalidFormula) (D : Df K mg "_law_all_bits" s__law_all_bits ["many"]) : Fn P w K mg base 1 "_law_all_bits" ["many"] m__law_all_bits := by
  have nd := sc__law_all_bits.nd
  exact mkFn (k := 0) D sc__law_all_bits fun f cdv A outer s H E hr =>
    (bm_cons (sm_asg (i := 1) nd (em_lst (ao_cons (em_lst ao_nil) ao_nil)))
      (bm_cons (sm_for (passes_of rfl) rfl (im_rng1 T.n_range (am_cons (em_nm 0) am_nil)) (gm_nm (i := 2) nd)
      (bm_one (sm_asg (i := 1) nd (em_bin op_addG P_add (em_lc (own := [("row", 3)]) rfl nd (im_items (em_nm 1)) (blkOk_by (N := N__law_all_bits) (sc := defScope s__law_all_bits) (own := [("row", 3)]) (by decide +kernel)) (by decide) (fun _ _ _ _ _ => (gm_nm (i := 3) nd)) (fun _ _ _ _ _ => cm_nil) (fun _ _ _ _ _ => (em_bin op_addG P_add (em_nm 3) (em_lst (ao_cons em_int ao_nil))))) (em_lc (own := [("row", 3)]) rfl nd (im_items (em_nm 1)) (blkOk_by (N := N__law_all_bits) (sc := defScope s__law_all_bits) (own := [("row", 3)]) (by decide +kernel)) (by decide) (fun _ _ _ _ _ => (gm_nm (i := 3) nd)) (fun _ _ _ _ _ => cm_nil) (fun _ _ _ _ _ => (em_bin op_addG P_add (em_nm 3) (em_lst (ao_cons em_int ao_nil)))))))))
      (bm_one (sm_ret (em_callB (call_sortedG hr.units) P_sort T.n_sorted PyProof.Rows.Boot.«sorted» (am_cons (em_nm 1) am_nil))))))
theorem sc__law_formula : FnScope N__law_formula ["purse", "many", "deep"] (defScope s__law_formula) := ⟨rfl, rfl, rfl, by decide +kernel, rfl, by decide +kernel, by decide +kernel⟩
theorem fn__law_formula (T : Tx P K mg C_InvalidCount C_InvalidFormula C_LentError I_InvalidCount I_InvalidFormula) (D : Df K mg "_law_formula" s__law_formula ["purse", "many", "deep"]) (F__law_draw : Fn P w K mg base 2 "_law_draw" ["purse", "many"] m__law_draw) : ∀ k, Fn P w K mg base (2 + k) "_law_formula" ["purse", "many", "deep"] (m__law_formula k)
  | 0 => Fn.none D
  | k + 1 => by
    have IH := fn__law_formula T D F__law_draw k
    have nd := sc__law_formula.nd
    exact mkFn (k := 2 + k) D sc__law_formula fun f cdv A outer s H E hr =>
      (bm_cons (sm_asg (i := 3) nd (em_if (tm_cmp op_gt P_gt (em_nm 2) em_int) (em_call (F__law_draw.mono (by first | decide | omega)) hr (am_cons (em_nm 0) (am_cons em_int am_nil))) em_int))
      (bm_cons (sm_if (tm_cmp (op_eqG hr.units) P_eq (em_nm 3) em_int)
      (bm_one (sm_ret (em_tup (am_cons em_str (am_cons (em_call (F__law_draw.mono (by first | decide | omega)) hr (am_cons (em_nm 0) (am_cons (em_nm 1) am_nil))) am_nil)))))
      bm_nil)
      (bm_cons (sm_if (tm_cmp (op_eqG hr.units) P_eq (em_nm 3) em_int)
      (bm_one (sm_ret (em_tup (am_cons em_str (am_cons (em_call IH hr (am_cons (em_nm 0) (am_cons (em_nm 1) (am_cons (em_bin op_sub P_sub (em_nm 2) em_int) am_nil)))) am_nil)))))
      bm_nil)
      (bm_one (sm_ret (em_tup (am_cons em_str (am_cons (em_call IH hr (am_cons (em_nm 0) (am_cons (em_nm 1) (am_cons (em_bin op_sub P_sub (em_nm 2) em_int) am_nil)))) (am_cons (em_call IH hr (am_cons (em_nm 0) (am_cons (em_nm 1) (am_cons (em_bin op_sub P_sub (em_nm 2) em_int) am_nil)))) am_nil)))))))))
theorem sc__law_at : FnScope N__law_at ["formula", "bits"] (defScope s__law_at) := ⟨rfl, rfl, rfl, by decide +kernel, rfl, by decide +kernel, by decide +kernel⟩
theorem fn__law_at (T : Tx P K mg C_InvalidCount C_InvalidFormula C_LentError I_InvalidCount I_InvalidFormula) (D : Df K mg "_law_at" s__law_at ["formula", "bits"]) : ∀ k, Fn P w K mg base (0 + k) "_law_at" ["formula", "bits"] (m__law_at k)
  | 0 => Fn.none D
  | k + 1 => by
    have IH := fn__law_at T D k
    have nd := sc__law_at.nd
    exact mkFn (k := 0 + k) D sc__law_at fun f cdv A outer s H E hr =>
      (bm_cons (sm_if (tm_cmp (op_eqG hr.units) P_eq (em_ix (u1 hr) (em_nm 0) em_int) em_str)
      (bm_one (sm_ret (em_ix (u1 hr) (em_nm 1) (em_ix (u1 hr) (em_nm 0) em_int))))
      bm_nil)
      (bm_cons (sm_if (tm_cmp (op_eqG hr.units) P_eq (em_ix (u1 hr) (em_nm 0) em_int) em_str)
      (bm_one (sm_ret (em_bin op_sub P_sub em_int (em_call IH hr (am_cons (em_ix (u1 hr) (em_nm 0) em_int) (am_cons (em_nm 1) am_nil))))))
      bm_nil)
      (bm_one (sm_ret (em_callB (call_minG rfl) P_min T.n_min PyProof.Rows.Boot.«min» (am_cons (em_call IH hr (am_cons (em_ix (u1 hr) (em_nm 0) em_int) (am_cons (em_nm 1) am_nil))) (am_cons (em_call IH hr (am_cons (em_ix (u1 hr) (em_nm 0) em_int) (am_cons (em_nm 1) am_nil))) am_nil)))))))
theorem sc__law_deep : FnScope N__law_deep ["formula"] (defScope s__law_deep) := ⟨rfl, rfl, rfl, by decide +kernel, rfl, by decide +kernel, by decide +kernel⟩
theorem fn__law_deep (T : Tx P K mg C_InvalidCount C_InvalidFormula C_LentError I_InvalidCount I_InvalidFormula) (D : Df K mg "_law_deep" s__law_deep ["formula"]) : ∀ k, Fn P w K mg base (0 + k) "_law_deep" ["formula"] (m__law_deep k)
  | 0 => Fn.none D
  | k + 1 => by
    have IH := fn__law_deep T D k
    have nd := sc__law_deep.nd
    exact mkFn (k := 0 + k) D sc__law_deep fun f cdv A outer s H E hr =>
      (bm_one (sm_ret (em_if (tm_cmp (op_eqG hr.units) P_eq (em_ix (u1 hr) (em_nm 0) em_int) em_str) em_int (em_bin op_addG P_add em_int (em_callB (call_maxG rfl) P_max T.n_max PyProof.Rows.Boot.«max» (am_cons (em_lc (own := [("late", 1)]) rfl nd (im_items (em_sl (em_nm 0) (pom_some em_int) pom_none)) (blkOk_by (N := N__law_deep) (sc := defScope s__law_deep) (own := [("late", 1)]) (by decide +kernel)) (by decide) (fun _ _ _ _ _ => (gm_nm (i := 1) nd)) (fun _ _ _ _ _ => cm_nil) (fun _ _ _ _ _ => (em_call IH hr (am_cons (em_nm 1) am_nil)))) am_nil))))))
theorem sc__law_right_form : FnScope N__law_right_form ["many", "value"] (defScope s__law_right_form) := ⟨rfl, rfl, rfl, by decide +kernel, rfl, by decide +kernel, by decide +kernel⟩
theorem fn__law_right_form (T : Tx P K mg C_InvalidCount C_InvalidFormula C_LentError I_InvalidCount I_InvalidFormula) (D : Df K mg "_law_right_form" s__law_right_form ["many", "value"]) : ∀ k, Fn P w K mg base (0 + k) "_law_right_form" ["many", "value"] (m__law_right_form k)
  | 0 => Fn.none D
  | k + 1 => by
    have IH := fn__law_right_form T D k
    have nd := sc__law_right_form.nd
    exact mkFn (k := 0 + k) D sc__law_right_form fun f cdv A outer s H E hr =>
      (bm_cons (sm_if (tm_w (wm_or (tm_not (tm_val (em_isT "tuple" T.n_isinstance T.n_tuple PyProof.Rows.Boot.«tuple» (by decide) (em_nm 1)))) (wm_or (tm_cmp (op_eqG hr.units) P_eq (em_nm 1) (em_tup am_nil)) (wm_or1 (tm_not (tm_val (em_isT "str" T.n_isinstance T.n_str PyProof.Rows.Boot.«str» (by decide) (em_ix (u1 hr) (em_nm 1) em_int))))))))
      (bm_one (sm_ret em_bl))
      bm_nil)
      (bm_cons (sm_if (tm_cmp (op_eqG hr.units) P_eq (em_ix (u1 hr) (em_nm 1) em_int) em_str)
      (bm_one (sm_ret (em_and (em_cmp (op_eqG hr.units) P_eq (em_keep (em_callB call_lenG P_len T.n_len PySem.boot_len (am_cons (em_nm 1) am_nil))) em_int) (em_and (em_isT "int" T.n_isinstance T.n_int PyProof.Rows.Boot.«int» (by decide) (em_ix (u1 hr) (em_nm 1) em_int)) (em_and (em_not (em_isT "bool" T.n_isinstance T.n_bool PyProof.Rows.Boot.«bool» (by decide) (em_ix (u1 hr) (em_nm 1) em_int))) (em_one (em_chain op_le P_le op_lt P_lt em_int (em_ix (u1 hr) (em_nm 1) em_int) (em_nm 0))))))))
      bm_nil)
      (bm_cons (sm_if (tm_cmp (op_eqG hr.units) P_eq (em_ix (u1 hr) (em_nm 1) em_int) em_str)
      (bm_one (sm_ret (em_and (em_cmp (op_eqG hr.units) P_eq (em_keep (em_callB call_lenG P_len T.n_len PySem.boot_len (am_cons (em_nm 1) am_nil))) em_int) (em_one (em_call IH hr (am_cons (em_nm 0) (am_cons (em_ix (u1 hr) (em_nm 1) em_int) am_nil)))))))
      bm_nil)
      (bm_one (sm_ret (em_and (em_cmp (op_eqG hr.units) P_eq (em_ix (u1 hr) (em_nm 1) em_int) em_str) (em_and (em_cmp (op_eqG hr.units) P_eq (em_keep (em_callB call_lenG P_len T.n_len PySem.boot_len (am_cons (em_nm 1) am_nil))) em_int) (em_and (em_call IH hr (am_cons (em_nm 0) (am_cons (em_ix (u1 hr) (em_nm 1) em_int) am_nil))) (em_one (em_call IH hr (am_cons (em_nm 0) (am_cons (em_ix (u1 hr) (em_nm 1) em_int) am_nil))))))))))))
theorem sc__law_bent : FnScope N__law_bent ["purse", "many", "formula"] (defScope s__law_bent) := ⟨rfl, rfl, rfl, by decide +kernel, rfl, by decide +kernel, by decide +kernel⟩
theorem fn__law_bent (T : Tx P K mg C_InvalidCount C_InvalidFormula C_LentError I_InvalidCount I_InvalidFormula) (D : Df K mg "_law_bent" s__law_bent ["purse", "many", "formula"]) (F__law_one_of : Fn P w K mg base 3 "_law_one_of" ["purse", "some"] m__law_one_of) : Fn P w K mg base 4 "_law_bent" ["purse", "many", "formula"] m__law_bent := by
  have nd := sc__law_bent.nd
  exact mkFn (k := 3) D sc__law_bent fun f cdv A outer s H E hr =>
    (bm_cons (sm_asg (i := 3) nd (em_lst (ao_cons em_non (ao_cons (em_tup am_nil) (ao_cons (em_lst ao_nil) (ao_cons em_str (ao_cons (em_tup (am_cons em_str am_nil)) (ao_cons (em_tup (am_cons em_str (am_cons (em_nm 1) am_nil))) (ao_cons (em_tup (am_cons em_str (am_cons (em_bin op_sub P_sub em_int em_int) am_nil))) (ao_cons (em_tup (am_cons em_str (am_cons em_bl am_nil))) (ao_cons (em_tup (am_cons em_str (am_cons em_str am_nil))) (ao_cons (em_lst (ao_cons em_str (ao_cons em_int ao_nil))) (ao_cons (em_tup (am_cons em_str (am_cons (em_nm 2) (am_cons (em_nm 2) am_nil)))) ao_nil)))))))))))))
      (bm_cons (sm_asg (i := 3) nd (em_bin op_addG P_add (em_nm 3) (em_lst (ao_cons (em_tup (am_cons em_str am_nil)) (ao_cons (em_tup (am_cons em_str (am_cons (em_nm 2) (am_cons (em_nm 2) am_nil)))) (ao_cons (em_tup (am_cons em_str (am_cons (em_nm 2) am_nil))) (ao_cons (em_tup (am_cons em_str (am_cons (em_nm 2) (am_cons em_non am_nil)))) ao_nil)))))))
      (bm_cons (sm_asg (i := 3) nd (em_bin op_addG P_add (em_nm 3) (em_lst (ao_cons (em_callTy call_list_of P_list T.n_list PyProof.Rows.Boot.«list» (am_cons (em_nm 2) am_nil)) (ao_cons (em_bin op_addG P_add (em_nm 2) (em_tup (am_cons em_non am_nil))) (ao_cons (em_tup (am_cons em_str (am_cons (em_callTy call_list_of P_list T.n_list PyProof.Rows.Boot.«list» (am_cons (em_nm 2) am_nil)) am_nil))) (ao_cons (em_tup (am_cons em_str (am_cons (em_nm 2) (am_cons (em_tup (am_cons em_str (am_cons (em_nm 1) am_nil))) am_nil)))) (ao_cons (em_tup (am_cons em_int (am_cons (em_nm 2) am_nil))) (ao_cons em_dnewK (ao_cons em_int (ao_cons (em_tup (am_cons em_str (am_cons (em_nm 2) am_nil))) (ao_cons (em_tup (am_cons em_str (am_cons (em_tup am_nil) (am_cons (em_nm 2) am_nil)))) (ao_cons (em_tup (am_cons em_str (am_cons (em_nm 2) am_nil))) ao_nil)))))))))))))
      (bm_one (sm_ret (em_bin op_addG P_add (em_lc (own := [("turn", 4)]) rfl nd (im_rng1 T.n_range (am_cons em_int am_nil)) (blkOk_by (N := N__law_bent) (sc := defScope s__law_bent) (own := [("turn", 4)]) (by decide +kernel)) (by decide) (fun _ _ _ _ _ => (gm_nm (i := 4) nd)) (fun _ _ _ _ _ => cm_nil) (fun _ _ _ _ _ => (em_call (F__law_one_of.mono (by first | decide | omega)) hr (am_cons (em_nm 0) (am_cons (em_nm 3) am_nil))))) (em_lst (ao_cons (em_tup (am_cons em_str (am_cons (em_call (F__law_one_of.mono (by first | decide | omega)) hr (am_cons (em_nm 0) (am_cons (em_nm 3) am_nil))) (am_cons (em_nm 2) am_nil)))) ao_nil))))))))
theorem sc__law_heard : FnScope N__law_heard ["way", "many", "value"] (defScope s__law_heard) := ⟨rfl, rfl, rfl, by decide +kernel, rfl, by decide +kernel, by decide +kernel⟩
theorem fn__law_heard (T : Tx P K mg C_InvalidCount C_InvalidFormula C_LentError I_InvalidCount I_InvalidFormula) (D : Df K mg "_law_heard" s__law_heard ["way", "many", "value"]) (F_is_formula : Fn P w K mg base 15 "is_formula" ["many", "value"] m_is_formula) (F_formula_row : Fn P w K mg base 16 "formula_row" ["many", "formula"] m_formula_row) (F_formula_depth : Fn P w K mg base 16 "formula_depth" ["many", "formula"] m_formula_depth) : Fn P w K mg base 17 "_law_heard" ["way", "many", "value"] m__law_heard := by
  have nd := sc__law_heard.nd
  exact mkFn (k := 16) D sc__law_heard fun f cdv A outer s H E hr =>
    (bm_cons (sm_asg (i := 3) nd em_non)
      (bm_cons (sm_try (i := 4) catch_LentError rfl rfl nd ⟨rfl, by decide, .inl T.g_LentError⟩ T.ct_LentError (fun pn xe hx => (bm_cons (sm_if (tm_cmp (op_eqG hr.units) P_eq (em_nm 0) em_int)
      (bm_one (sm_ret (em_lst (ao_cons em_str (ao_cons (em_call (F_is_formula.mono (by first | decide | omega)) hr (am_cons (em_nm 1) (am_cons (em_nm 2) am_nil))) ao_nil)))))
      bm_nil)
      (bm_one (sm_ret (em_lst (ao_cons em_str (ao_cons (em_if (tm_cmp (op_eqG hr.units) P_eq (em_nm 0) em_int) (em_call (F_formula_row.mono (by first | decide | omega)) hr (am_cons (em_nm 1) (am_cons (em_nm 2) am_nil))) (em_call (F_formula_depth.mono (by first | decide | omega)) hr (am_cons (em_nm 1) (am_cons (em_nm 2) am_nil)))) ao_nil)))))))
      (fun _ _ => (bm_one (sm_asg (i := 3) nd (em_nm 4)))))
      (bm_cons (sm_asg (i := 5) nd (em_lst (ao_cons (em_isO T.is_InvalidCount T.n_isinstance (em_nm 3)) (ao_cons (em_isO T.is_InvalidFormula T.n_isinstance (em_nm 3)) ao_nil))))
      (bm_one (sm_ret (em_lst (ao_cons (em_if (tm_cmp (op_eqG hr.units) P_eq (em_meth PySem.F.plainAttrs_list PySem.F.slot_list_count PySem.F.type_list_count (mt_cntG hr.units) P_me (em_nm 5) (am_cons em_bl am_nil)) em_int) (em_meth PySem.F.plainAttrs_list PySem.F.slot_list_index PySem.F.type_list_index (mt_idxG hr.units) P_me (em_nm 5) (am_cons em_bl am_nil)) em_int) (ao_cons (em_val okErr T.errA (em_nm 3)) ao_nil))))))))
theorem sc__law_right : FnScope N__law_right ["purse", "many"] (defScope s__law_right) := ⟨rfl, rfl, rfl, by decide +kernel, rfl, by decide +kernel, by decide +kernel⟩
theorem fn__law_right (T : Tx P K mg C_InvalidCount C_InvalidFormula C_LentError I_InvalidCount I_InvalidFormula) (D : Df K mg "_law_right" s__law_right ["purse", "many"]) (F__law_bent : Fn P w K mg base 4 "_law_bent" ["purse", "many", "formula"] m__law_bent) (F__law_formula : Fn P w K mg base 14 "_law_formula" ["purse", "many", "deep"] (m__law_formula 12)) (F_formula_row : Fn P w K mg base 16 "formula_row" ["many", "formula"] m_formula_row) (F__law_same : Fn P w K mg base 12 "_law_same" ["told", "due"] (m__law_same 12)) (F__law_right_form : Fn P w K mg base 12 "_law_right_form" ["many", "value"] (m__law_right_form 12)) (F__law_at : Fn P w K mg base 12 "_law_at" ["formula", "bits"] (m__law_at 12)) (F_formula_depth : Fn P w K mg base 16 "formula_depth" ["many", "formula"] m_formula_depth) (F__law_all_bits : Fn P w K mg base 1 "_law_all_bits" ["many"] m__law_all_bits) (F_is_formula : Fn P w K mg base 15 "is_formula" ["many", "value"] m_is_formula) (F__law_deep : Fn P w K mg base 12 "_law_deep" ["formula"] (m__law_deep 12)) (F__law_heard : Fn P w K mg base 17 "_law_heard" ["way", "many", "value"] m__law_heard) (K_formula_row_0_formula_many : FnK P w K mg base 16 "formula_row" ["many", "formula"] m_formula_row 0 ["formula", "many"] [1, 0]) (K_is_formula_0_value_many : FnK P w K mg base 15 "is_formula" ["many", "value"] m_is_formula 0 ["value", "many"] [1, 0]) (K_formula_depth_0_formula_many : FnK P w K mg base 16 "formula_depth" ["many", "formula"] m_formula_depth 0 ["formula", "many"] [1, 0]) : Fn P w K mg base 18 "_law_right" ["purse", "many"] m__law_right := by
  have nd := sc__law_right.nd
  exact mkFn (k := 17) D sc__law_right fun f cdv A outer s H E hr =>
    (bm_cons (sm_par (i := 2) (j := 3) rfl nd (am_cons (em_call (F__law_formula.mono (by first | decide | omega)) hr (am_cons (em_nm 0) (am_cons (em_nm 1) (am_cons em_int am_nil)))) (am_cons (em_call (F__law_formula.mono (by first | decide | omega)) hr (am_cons (em_nm 0) (am_cons (em_nm 1) (am_cons em_int am_nil)))) am_nil)))
      (bm_cons (sm_asgLc (own := [("formula", 6)]) (i := 4) rfl nd (sw_true rfl rfl rfl (by decide +kernel)) (im_items (em_tup (am_cons (em_nm 2) (am_cons (em_nm 3) am_nil)))) (blkOk_by (N := N__law_right) (sc := defScope s__law_right) (own := [("formula", 6)]) (by decide +kernel)) (by decide) (fun _ _ _ _ _ => (gm_nm (i := 6) nd)) (fun _ _ _ _ _ => cm_nil) (fun _ _ _ _ _ => (em_lc (own := [("bits", 5)]) rfl nd (im_items (em_call (F__law_all_bits.mono (by first | decide | omega)) hr (am_cons (em_nm 1) am_nil))) (blkOk_by (N := N__law_right) (own := [("bits", 5)]) (by kernel_rfl)) (by decide) (fun _ _ _ _ _ => (gm_nm (i := 5) nd)) (fun _ _ _ _ _ => cm_nil) (fun _ _ _ _ _ => (em_call (F__law_at.mono (by first | decide | omega)) hr (am_cons (em_nm 6) (am_cons (em_nm 5) am_nil)))))))
      (bm_cons (sm_asg (i := 7) nd (em_lst (ao_cons (em_call (F_formula_row.mono (by first | decide | omega)) hr (am_cons (em_nm 1) (am_cons (em_nm 2) am_nil))) (ao_cons (em_callK0 (ks := ["formula", "many"]) (K_formula_row_0_formula_many.mono (by first | decide | omega)) hr (km_cons (em_nm 2) (km_cons (em_nm 1) km_nil))) ao_nil))))
      (bm_cons (sm_if (tm_w (wm_or (tm_not (tm_val (em_keep (em_call (F__law_same.mono (by first | decide | omega)) hr (am_cons (em_nm 7) (am_cons (em_lst (ao_cons (em_ix (u1 hr) (em_nm 4) em_int) (ao_cons (em_ix (u1 hr) (em_nm 4) em_int) ao_nil))) am_nil)))))) (wm_or1 (tm_not (tm_val (em_keep (em_call (F__law_same.mono (by first | decide | omega)) hr (am_cons (em_lst (ao_cons (em_call (F_formula_depth.mono (by first | decide | omega)) hr (am_cons (em_nm 1) (am_cons (em_nm 2) am_nil))) (ao_cons (em_callK0 (ks := ["formula", "many"]) (K_formula_depth_0_formula_many.mono (by first | decide | omega)) hr (km_cons (em_nm 2) (km_cons (em_nm 1) km_nil))) ao_nil))) (am_cons (em_bin op_mulG P_mul (em_lst (ao_cons (em_call (F__law_deep.mono (by first | decide | omega)) hr (am_cons (em_nm 2) am_nil)) ao_nil)) em_int) am_nil)))))))))
      (bm_one (sm_ret em_bl))
      bm_nil)
      (bm_cons (sm_if (tm_not (tm_val (em_keep (em_call (F__law_same.mono (by first | decide | omega)) hr (am_cons (em_lst (ao_cons (em_call (F_is_formula.mono (by first | decide | omega)) hr (am_cons (em_nm 1) (am_cons (em_nm 2) am_nil))) (ao_cons (em_callK0 (ks := ["value", "many"]) (K_is_formula_0_value_many.mono (by first | decide | omega)) hr (km_cons (em_nm 3) (km_cons (em_nm 1) km_nil))) ao_nil))) (am_cons (em_lst (ao_cons em_bl (ao_cons em_bl ao_nil))) am_nil))))))
      (bm_one (sm_ret em_bl))
      bm_nil)
      (bm_cons (sm_appAt (i := 7) (j := 0) em_str)
      (bm_cons (sm_asg (i := 8) nd (em_lst (ao_cons (em_call (F_formula_row.mono (by first | decide | omega)) hr (am_cons (em_nm 1) (am_cons (em_tup (am_cons em_str (am_cons (em_tup (am_cons em_str (am_cons (em_nm 2) am_nil))) am_nil))) am_nil))) (ao_cons (em_call (F_formula_row.mono (by first | decide | omega)) hr (am_cons (em_nm 1) (am_cons (em_tup (am_cons em_str (am_cons (em_nm 2) (am_cons (em_nm 2) am_nil)))) am_nil))) (ao_cons (em_call (F_formula_row.mono (by first | decide | omega)) hr (am_cons (em_nm 1) (am_cons (em_tup (am_cons em_str (am_cons (em_nm 2) (am_cons (em_nm 3) am_nil)))) am_nil))) (ao_cons (em_call (F_formula_row.mono (by first | decide | omega)) hr (am_cons (em_nm 1) (am_cons (em_tup (am_cons em_str (am_cons (em_nm 3) (am_cons (em_nm 2) am_nil)))) am_nil))) ao_nil))))))
      (bm_cons (sm_asgLc (own := [("low", 10), ("high", 11)]) (i := 9) rfl nd (sw_true rfl rfl rfl (by decide +kernel)) (im_zip T.n_zip (am_cons (em_ix (u1 hr) (em_nm 4) em_int) (am_cons (em_ix (u1 hr) (em_nm 4) em_int) am_nil))) (blkOk_by (N := N__law_right) (sc := defScope s__law_right) (own := [("low", 10), ("high", 11)]) (by decide +kernel)) (by decide) (fun _ _ _ _ _ => (gm_tup rfl (gsm_cons (gm_nm (i := 10) nd) (gsm_cons (gm_nm (i := 11) nd) gsm_nil)) (tgCons_len (tgCons_len tgNil_len)))) (fun _ _ _ _ _ => cm_nil) (fun _ _ _ _ _ => (em_bin op_mulG P_mul (em_nm 10) (em_nm 11))))
      (bm_cons (sm_if (tm_w (wm_or (tm_not (tm_val (em_keep (em_call (F__law_same.mono (by first | decide | omega)) hr (am_cons (em_nm 8) (am_cons (em_lst (ao_cons (em_ix (u1 hr) (em_nm 4) em_int) (ao_cons (em_ix (u1 hr) (em_nm 4) em_int) (ao_cons (em_nm 9) (ao_cons (em_nm 9) ao_nil))))) am_nil)))))) (wm_or1 (tm_cmp (op_neG hr.units) P_ne (em_call (F_formula_depth.mono (by first | decide | omega)) hr (am_cons (em_nm 1) (am_cons (em_tup (am_cons em_str (am_cons (em_nm 2) (am_cons (em_nm 3) am_nil)))) am_nil))) (em_bin op_addG P_add em_int (em_callB (call_maxG rfl) P_max T.n_max PyProof.Rows.Boot.«max» (am_cons (em_call (F__law_deep.mono (by first | decide | omega)) hr (am_cons (em_nm 2) am_nil)) (am_cons (em_call (F__law_deep.mono (by first | decide | omega)) hr (am_cons (em_nm 3) am_nil)) am_nil))))))))
      (bm_one (sm_ret em_bl))
      bm_nil)
      (bm_cons (sm_for (passes_of rfl) rfl (im_items (em_call (F__law_bent.mono (by first | decide | omega)) hr (am_cons (em_nm 0) (am_cons (em_nm 1) (am_cons (em_nm 2) am_nil))))) (gm_nm (i := 12) nd)
      (bm_cons (sm_asg (i := 13) nd (em_call (F__law_right_form.mono (by first | decide | omega)) hr (am_cons (em_nm 1) (am_cons (em_nm 12) am_nil))))
      (bm_cons (sm_if (tm_not (tm_val (em_keep (em_call (F__law_same.mono (by first | decide | omega)) hr (am_cons (em_call (F_is_formula.mono (by first | decide | omega)) hr (am_cons (em_nm 1) (am_cons (em_nm 12) am_nil))) (am_cons (em_nm 13) am_nil))))))
      (bm_one (sm_ret em_bl))
      bm_nil)
      (bm_one (sm_if (tm_w (wm_and (tm_not (tm_val (em_nm 13))) (wm_and1 (tm_not (tm_val (em_keep (em_call (F__law_same.mono (by first | decide | omega)) hr (am_cons (em_lc (own := [("way", 14)]) rfl nd (im_items (em_tup (am_cons em_int (am_cons em_int am_nil)))) (blkOk_by (N := N__law_right) (sc := defScope s__law_right) (own := [("way", 14)]) (by decide +kernel)) (by decide) (fun _ _ _ _ _ => (gm_nm (i := 14) nd)) (fun _ _ _ _ _ => cm_nil) (fun _ _ _ _ _ => (em_call (F__law_heard.mono (by first | decide | omega)) hr (am_cons (em_nm 14) (am_cons (em_nm 1) (am_cons (em_nm 12) am_nil)))))) (am_cons (em_bin op_mulG P_mul (em_lst (ao_cons (em_lst (ao_cons em_int (ao_cons (em_nm 12) ao_nil))) ao_nil)) em_int) am_nil)))))))))
      (bm_one (sm_ret em_bl))
      bm_nil)))))
      (bm_one (sm_ret em_bl))))))))))))
theorem sc_law : FnScope N_law ["script"] (defScope s_law) := ⟨rfl, rfl, rfl, by decide +kernel, rfl, by decide +kernel, by decide +kernel⟩
theorem fn_law (T : Tx P K mg C_InvalidCount C_InvalidFormula C_LentError I_InvalidCount I_InvalidFormula) (D : Df K mg "law" s_law ["script"]) (F__law_same : Fn P w K mg base 12 "_law_same" ["told", "due"] (m__law_same 12)) (F__law_purse : Fn P w K mg base 1 "_law_purse" ["script", "at"] m__law_purse) (F__law_heard : Fn P w K mg base 17 "_law_heard" ["way", "many", "value"] m__law_heard) (F__law_right : Fn P w K mg base 18 "_law_right" ["purse", "many"] m__law_right) (F__law_draw : Fn P w K mg base 2 "_law_draw" ["purse", "many"] m__law_draw) : Fn P w K mg base 19 "law" ["script"] m_law := by
  have nd := sc_law.nd
  exact mkFn (k := 18) D sc_law fun f cdv A outer s H E hr =>
    (bm_cons (sm_for (passes_of rfl) rfl (im_rng1 T.n_range (am_cons em_int am_nil)) (gm_nm (i := 1) nd)
      (bm_cons (sm_asgC (i := 2) nd (em_call (F__law_purse.mono (by first | decide | omega)) hr (am_cons (em_nm 0) (am_cons (em_nm 1) am_nil))))
      (bm_one (sm_for (passes_of rfl) rfl (im_rng1 T.n_range (am_cons em_int am_nil)) (gm_nm (i := 3) nd)
      (bm_one (sm_if (tm_not (tm_val (em_call (F__law_right.mono (by first | decide | omega)) hr (am_cons (em_nm 2) (am_cons (em_bin op_addG P_add em_int (em_call (F__law_draw.mono (by first | decide | omega)) hr (am_cons (em_nm 2) (am_cons em_int am_nil)))) am_nil)))))
      (bm_one (sm_ret em_bl))
      bm_nil))))))
      (bm_cons (sm_for (passes_of rfl) rfl (im_items (em_lst (ao_cons em_non (ao_cons (em_bin op_sub P_sub em_int em_int) (ao_cons em_bl (ao_cons em_str (ao_cons (em_lst (ao_cons em_int ao_nil)) ao_nil))))))) (gm_nm (i := 4) nd)
      (bm_one (sm_if (tm_not (tm_val (em_keep (em_call (F__law_same.mono (by first | decide | omega)) hr (am_cons (em_lc (own := [("way", 5)]) rfl nd (im_rng1 T.n_range (am_cons em_int am_nil)) (blkOk_by (N := N_law) (sc := defScope s_law) (own := [("way", 5)]) (by decide +kernel)) (by decide) (fun _ _ _ _ _ => (gm_nm (i := 5) nd)) (fun _ _ _ _ _ => cm_nil) (fun _ _ _ _ _ => (em_call (F__law_heard.mono (by first | decide | omega)) hr (am_cons (em_nm 5) (am_cons (em_nm 4) (am_cons em_non am_nil)))))) (am_cons (em_bin op_mulG P_mul (em_lst (ao_cons (em_lst (ao_cons em_int (ao_cons (em_nm 4) ao_nil))) ao_nil)) em_int) am_nil))))))
      (bm_one (sm_ret em_bl))
      bm_nil)))
      (bm_one (sm_ret (em_keep (em_call (F__law_same.mono (by first | decide | omega)) hr (am_cons (em_lc (own := [("way", 5)]) rfl nd (im_rng1 T.n_range (am_cons em_int am_nil)) (blkOk_by (N := N_law) (sc := defScope s_law) (own := [("way", 5)]) (by decide +kernel)) (by decide) (fun _ _ _ _ _ => (gm_nm (i := 5) nd)) (fun _ _ _ _ _ => cm_nil) (fun _ _ _ _ _ => (em_call (F__law_heard.mono (by first | decide | omega)) hr (am_cons (em_nm 5) (am_cons em_int (am_cons (em_tup (am_cons em_str (am_cons em_int am_nil))) am_nil)))))) (am_cons (em_bin op_addG P_add (em_lst (ao_cons (em_lst (ao_cons em_str (ao_cons em_bl ao_nil))) ao_nil)) (em_bin op_mulG P_mul (em_lst (ao_cons (em_lst (ao_cons em_int (ao_cons (em_tup (am_cons em_str (am_cons em_int am_nil))) ao_nil))) ao_nil)) em_int)) am_nil))))))))
end
end Kx
namespace Kx
open PyProof.Rows PySem.HandSPX
open PySem PySem.Spec L2 GM
abbrev pw : Program := PySem.Challenge.rw_groupmemory_k62_whole_formulas.prog
theorem all_mk {w : World} {K : PySem.W.Frag} {h : Heap} {mg : Str → Option Value} (hlaw : ∀ ns : List Int, ns.length ≤ 63 → ∃ cs, m_law [.scr (ns.map D.int)] [] = .ok (.fz (.bl true)) cs)
    {fa : Addr}
    {C_InvalidCount : Addr}
    {C_InvalidFormula : Addr}
    {C_LentError : Addr}
    {I_InvalidCount dt_InvalidCount cda_InvalidCount cc_InvalidCount N_InvalidCount : Addr} {nm_InvalidCount qn_InvalidCount fl_InvalidCount : Str} {bs_InvalidCount : List Value} {sn_InvalidCount : List Str} {sub_InvalidCount : List Value} {ab_InvalidCount : Bool} {col_InvalidCount : Option Bool} {dd_InvalidCount od_InvalidCount an_InvalidCount cdd_InvalidCount cld_InvalidCount : Option Addr} {m0_InvalidCount m1_InvalidCount m2_InvalidCount m3_InvalidCount m5_InvalidCount : Option Value} {oc_InvalidCount kV_InvalidCount doc_InvalidCount pm_InvalidCount ct_InvalidCount ccl_InvalidCount cl_InvalidCount dv_InvalidCount : Value} {osl_InvalidCount ccs_InvalidCount csl_InvalidCount : Array (Option Value)} {vs_InvalidCount : Array Value} {tf_InvalidCount : Tok} {odt_InvalidCount : Obj} {dn_InvalidCount : Nat}
    {I_InvalidFormula dt_InvalidFormula cda_InvalidFormula cc_InvalidFormula N_InvalidFormula : Addr} {nm_InvalidFormula qn_InvalidFormula fl_InvalidFormula : Str} {bs_InvalidFormula : List Value} {sn_InvalidFormula : List Str} {sub_InvalidFormula : List Value} {ab_InvalidFormula : Bool} {col_InvalidFormula : Option Bool} {dd_InvalidFormula od_InvalidFormula an_InvalidFormula cdd_InvalidFormula cld_InvalidFormula : Option Addr} {m0_InvalidFormula m1_InvalidFormula m2_InvalidFormula m3_InvalidFormula m5_InvalidFormula : Option Value} {oc_InvalidFormula kV_InvalidFormula doc_InvalidFormula pm_InvalidFormula ct_InvalidFormula ccl_InvalidFormula cl_InvalidFormula dv_InvalidFormula : Value} {osl_InvalidFormula ccs_InvalidFormula csl_InvalidFormula : Array (Option Value)} {vs_InvalidFormula : Array Value} {tf_InvalidFormula : Tok} {odt_InvalidFormula : Obj} {dn_InvalidFormula : Nat}
    {f_is_whole : Addr} {od_is_whole an_is_whole : Option Addr} {sl_is_whole : Array (Option Value)} {oc_is_whole kV_is_whole dc_is_whole pm_is_whole cd_is_whole ct_is_whole : Value}
    {f_is_count : Addr} {od_is_count an_is_count : Option Addr} {sl_is_count : Array (Option Value)} {oc_is_count kV_is_count dc_is_count pm_is_count cd_is_count ct_is_count : Value}
    {f_all_bits : Addr} {od_all_bits an_all_bits : Option Addr} {sl_all_bits : Array (Option Value)} {oc_all_bits kV_all_bits dc_all_bits pm_all_bits cd_all_bits ct_all_bits : Value}
    {f_is_formula_of : Addr} {od_is_formula_of an_is_formula_of : Option Addr} {sl_is_formula_of : Array (Option Value)} {oc_is_formula_of kV_is_formula_of dc_is_formula_of pm_is_formula_of cd_is_formula_of ct_is_formula_of : Value}
    {f_check_formula : Addr} {od_check_formula an_check_formula : Option Addr} {sl_check_formula : Array (Option Value)} {oc_check_formula kV_check_formula dc_check_formula pm_check_formula cd_check_formula ct_check_formula : Value}
    {f_is_formula : Addr} {od_is_formula an_is_formula : Option Addr} {sl_is_formula : Array (Option Value)} {oc_is_formula kV_is_formula dc_is_formula pm_is_formula cd_is_formula ct_is_formula : Value}
    {f_formula_at : Addr} {od_formula_at an_formula_at : Option Addr} {sl_formula_at : Array (Option Value)} {oc_formula_at kV_formula_at dc_formula_at pm_formula_at cd_formula_at ct_formula_at : Value}
    {f_formula_row : Addr} {od_formula_row an_formula_row : Option Addr} {sl_formula_row : Array (Option Value)} {oc_formula_row kV_formula_row dc_formula_row pm_formula_row cd_formula_row ct_formula_row : Value}
    {f_depth_there : Addr} {od_depth_there an_depth_there : Option Addr} {sl_depth_there : Array (Option Value)} {oc_depth_there kV_depth_there dc_depth_there pm_depth_there cd_depth_there ct_depth_there : Value}
    {f_formula_depth : Addr} {od_formula_depth an_formula_depth : Option Addr} {sl_formula_depth : Array (Option Value)} {oc_formula_depth kV_formula_depth dc_formula_depth pm_formula_depth cd_formula_depth ct_formula_depth : Value}
    {f__law_purse : Addr} {od__law_purse an__law_purse : Option Addr} {sl__law_purse : Array (Option Value)} {oc__law_purse kV__law_purse dc__law_purse pm__law_purse cd__law_purse ct__law_purse : Value}
    {f__law_mixed : Addr} {od__law_mixed an__law_mixed : Option Addr} {sl__law_mixed : Array (Option Value)} {oc__law_mixed kV__law_mixed dc__law_mixed pm__law_mixed cd__law_mixed ct__law_mixed : Value}
    {f__law_draw : Addr} {od__law_draw an__law_draw : Option Addr} {sl__law_draw : Array (Option Value)} {oc__law_draw kV__law_draw dc__law_draw pm__law_draw cd__law_draw ct__law_draw : Value}
    {f__law_one_of : Addr} {od__law_one_of an__law_one_of : Option Addr} {sl__law_one_of : Array (Option Value)} {oc__law_one_of kV__law_one_of dc__law_one_of pm__law_one_of cd__law_one_of ct__law_one_of : Value}
    {f__law_same : Addr} {od__law_same an__law_same : Option Addr} {sl__law_same : Array (Option Value)} {oc__law_same kV__law_same dc__law_same pm__law_same cd__law_same ct__law_same : Value}
    {f__law_all_bits : Addr} {od__law_all_bits an__law_all_bits : Option Addr} {sl__law_all_bits : Array (Option Value)} {oc__law_all_bits kV__law_all_bits dc__law_all_bits pm__law_all_bits cd__law_all_bits ct__law_all_bits : Value}
    {f__law_formula : Addr} {od__law_formula an__law_formula : Option Addr} {sl__law_formula : Array (Option Value)} {oc__law_formula kV__law_formula dc__law_formula pm__law_formula cd__law_formula ct__law_formula : Value}
    {f__law_at : Addr} {od__law_at an__law_at : Option Addr} {sl__law_at : Array (Option Value)} {oc__law_at kV__law_at dc__law_at pm__law_at cd__law_at ct__law_at : Value}
    {f__law_deep : Addr} {od__law_deep an__law_deep : Option Addr} {sl__law_deep : Array (Option Value)} {oc__law_deep kV__law_deep dc__law_deep pm__law_deep cd__law_deep ct__law_deep : Value}
    {f__law_right_form : Addr} {od__law_right_form an__law_right_form : Option Addr} {sl__law_right_form : Array (Option Value)} {oc__law_right_form kV__law_right_form dc__law_right_form pm__law_right_form cd__law_right_form ct__law_right_form : Value}
    {f__law_bent : Addr} {od__law_bent an__law_bent : Option Addr} {sl__law_bent : Array (Option Value)} {oc__law_bent kV__law_bent dc__law_bent pm__law_bent cd__law_bent ct__law_bent : Value}
    {f__law_heard : Addr} {od__law_heard an__law_heard : Option Addr} {sl__law_heard : Array (Option Value)} {oc__law_heard kV__law_heard dc__law_heard pm__law_heard cd__law_heard ct__law_heard : Value}
    {f__law_right : Addr} {od__law_right an__law_right : Option Addr} {sl__law_right : Array (Option Value)} {oc__law_right kV__law_right dc__law_right pm__law_right cd__law_right ct__law_right : Value}
    {f_law : Addr} {od_law an_law : Option Addr} {sl_law : Array (Option Value)} {oc_law kV_law dc_law pm_law cd_law ct_law : Value}
    (X : K.In h) (G : h.Ns mainGlobals mg) (hfa : mg "law" = some (.ref fa))
    (aC_LentError : PySem.W.nsIn K mainGlobals "LentError" = some (some (.ref C_LentError)))
    (eC_LentError : PySem.W.subIn K (.ref C_LentError) (.type "BaseException") = some true)
    (hC_LentError : PySem.W.hasDictIn K C_LentError = true)
    (tC_LentError : PySem.W.typeIn K (.ref C_LentError) = some (.type "type"))
    (op : PySem.W.nsIn K PySem.cStatics "thirdparty.any" = some none)
    (zs : PySem.W.nsIn K mainGlobals "super" = some none)
    (hn : PySem.W.specialIn K (.builtin "object.__class__") "__get__" = some (some (.builtin "getset_descriptor.__get__")))
    (ht : PySem.W.takesIn K (.builtin "object.__class__") = some true)
    (aC_InvalidCount : PySem.W.nsIn K mainGlobals "InvalidCount" = some (some (.ref C_InvalidCount)))
    (xL_InvalidCount : K.lookup C_InvalidCount = some (excClassObj nm_InvalidCount qn_InvalidCount C_InvalidCount N_InvalidCount bs_InvalidCount [.ref C_LentError, .type "ValueError", .type "Exception", .type "BaseException", .type "object"] true sn_InvalidCount sub_InvalidCount ab_InvalidCount col_InvalidCount dd_InvalidCount m0_InvalidCount m1_InvalidCount m2_InvalidCount m3_InvalidCount m5_InvalidCount "ValueError.__new__"))
    (sa_InvalidCount : PySem.W.findIn K (.ref C_InvalidCount) "__setattr__" = some (some (.builtin "object.__setattr__")))
    (ga_InvalidCount : PySem.W.findIn K (.ref C_InvalidCount) "__getattribute__" = some (some (.builtin "BaseException.__getattribute__")))
    (gg_InvalidCount : PySem.W.findIn K (.ref C_InvalidCount) "__getattr__" = some none)
    (nb_InvalidCount : PySem.W.findIn K (.ref C_InvalidCount) "value" = some none)
    (a1_InvalidCount : PySem.W.findIn K (.ref C_InvalidCount) "__init__" = some (some (.ref I_InvalidCount)))
    (t1_InvalidCount : PySem.W.typeIn K (.ref I_InvalidCount) = some (.type "function"))
    (l1_InvalidCount : K.lookup I_InvalidCount = some ⟨oc_InvalidCount, od_InvalidCount, .func (PySem.W.ksFn "__init__" "InvalidCount.__init__" (oA ⟨6, 17, 6, 21⟩ ⟨6, 23, 6, 28⟩ ⟨6, 29, 6, 33⟩) (oB ⟨7, 8, 7, 13⟩ ⟨7, 8, 7, 15⟩ ⟨7, 8, 7, 24⟩ ⟨7, 8, 7, 26⟩ ⟨7, 8, 7, 26⟩ ⟨8, 8, 8, 12⟩ ⟨8, 8, 8, 18⟩ ⟨8, 21, 8, 26⟩ ⟨8, 8, 8, 26⟩) oS (.ref dt_InvalidCount) kV_InvalidCount doc_InvalidCount pm_InvalidCount an_InvalidCount (.ref cda_InvalidCount) ct_InvalidCount cc_InvalidCount), osl_InvalidCount⟩)
    (c1_InvalidCount : PySem.W.codeIn K (.ref cda_InvalidCount) "InvalidCount.__init__" = true)
    (lc_InvalidCount : K.lookup cda_InvalidCount = some ⟨ccl_InvalidCount, cdd_InvalidCount, .fields vs_InvalidCount, ccs_InvalidCount⟩)
    (lf_InvalidCount : vs_InvalidCount[2]? = some (.str fl_InvalidCount tf_InvalidCount))
    (hf_InvalidCount : ((pw.main.file : Str) == fl_InvalidCount) = true)
    (lcc_InvalidCount : K.lookup cc_InvalidCount = some ⟨cl_InvalidCount, cld_InvalidCount, .cell (some (.ref C_InvalidCount)), csl_InvalidCount⟩)
    (ldt_InvalidCount : K.lookup dt_InvalidCount = some odt_InvalidCount)
    (ldd_InvalidCount : odt_InvalidCount.data = .seq #[dv_InvalidCount] dn_InvalidCount)
    (kC_InvalidCount : PySem.W.keepIn K (.ref C_InvalidCount) = true)
    (eC_InvalidCount : PySem.W.subIn K (.ref C_InvalidCount) (.type "BaseException") = some true)
    (vC_InvalidCount : PySem.W.subIn K (.ref C_InvalidCount) (.type "ValueError") = some true)
    (tC_InvalidCount : PySem.W.typeIn K (.ref C_InvalidCount) = some (.type "type"))
    (hC_InvalidCount : PySem.W.hasDictIn K C_InvalidCount = true)
    (mC_InvalidCount : PySem.W.mroIn K C_InvalidCount (.ref C_InvalidCount) = some true)
    (sC_InvalidCount : PySem.W.subIn K (.ref C_InvalidCount) (.ref C_InvalidCount) = some true)
    (iC_InvalidCount : PySem.W.isClsIn K C_InvalidCount = true)
    (sp_InvalidCount : PySem.W.ks_superIn K C_InvalidCount C_InvalidCount "__init__" = some (some (.builtin "ValueError.__init__")))
    (ha_InvalidCount : PySem.W.findIn K (.ref C_InvalidCount) "__class__" = some (some (.builtin "object.__class__")))
    (hm_InvalidCount : PySem.W.mroIn K C_InvalidCount (.type "object") = some true)
    (aC_InvalidFormula : PySem.W.nsIn K mainGlobals "InvalidFormula" = some (some (.ref C_InvalidFormula)))
    (xL_InvalidFormula : K.lookup C_InvalidFormula = some (excClassObj nm_InvalidFormula qn_InvalidFormula C_InvalidFormula N_InvalidFormula bs_InvalidFormula [.ref C_LentError, .type "ValueError", .type "Exception", .type "BaseException", .type "object"] true sn_InvalidFormula sub_InvalidFormula ab_InvalidFormula col_InvalidFormula dd_InvalidFormula m0_InvalidFormula m1_InvalidFormula m2_InvalidFormula m3_InvalidFormula m5_InvalidFormula "ValueError.__new__"))
    (sa_InvalidFormula : PySem.W.findIn K (.ref C_InvalidFormula) "__setattr__" = some (some (.builtin "object.__setattr__")))
    (ga_InvalidFormula : PySem.W.findIn K (.ref C_InvalidFormula) "__getattribute__" = some (some (.builtin "BaseException.__getattribute__")))
    (gg_InvalidFormula : PySem.W.findIn K (.ref C_InvalidFormula) "__getattr__" = some none)
    (nb_InvalidFormula : PySem.W.findIn K (.ref C_InvalidFormula) "value" = some none)
    (a1_InvalidFormula : PySem.W.findIn K (.ref C_InvalidFormula) "__init__" = some (some (.ref I_InvalidFormula)))
    (t1_InvalidFormula : PySem.W.typeIn K (.ref I_InvalidFormula) = some (.type "function"))
    (l1_InvalidFormula : K.lookup I_InvalidFormula = some ⟨oc_InvalidFormula, od_InvalidFormula, .func (PySem.W.ksFn "__init__" "InvalidFormula.__init__" (oA ⟨11, 17, 11, 21⟩ ⟨11, 23, 11, 28⟩ ⟨11, 29, 11, 33⟩) (oB ⟨12, 8, 12, 13⟩ ⟨12, 8, 12, 15⟩ ⟨12, 8, 12, 24⟩ ⟨12, 8, 12, 26⟩ ⟨12, 8, 12, 26⟩ ⟨13, 8, 13, 12⟩ ⟨13, 8, 13, 18⟩ ⟨13, 21, 13, 26⟩ ⟨13, 8, 13, 26⟩) oS (.ref dt_InvalidFormula) kV_InvalidFormula doc_InvalidFormula pm_InvalidFormula an_InvalidFormula (.ref cda_InvalidFormula) ct_InvalidFormula cc_InvalidFormula), osl_InvalidFormula⟩)
    (c1_InvalidFormula : PySem.W.codeIn K (.ref cda_InvalidFormula) "InvalidFormula.__init__" = true)
    (lc_InvalidFormula : K.lookup cda_InvalidFormula = some ⟨ccl_InvalidFormula, cdd_InvalidFormula, .fields vs_InvalidFormula, ccs_InvalidFormula⟩)
    (lf_InvalidFormula : vs_InvalidFormula[2]? = some (.str fl_InvalidFormula tf_InvalidFormula))
    (hf_InvalidFormula : ((pw.main.file : Str) == fl_InvalidFormula) = true)
    (lcc_InvalidFormula : K.lookup cc_InvalidFormula = some ⟨cl_InvalidFormula, cld_InvalidFormula, .cell (some (.ref C_InvalidFormula)), csl_InvalidFormula⟩)
    (ldt_InvalidFormula : K.lookup dt_InvalidFormula = some odt_InvalidFormula)
    (ldd_InvalidFormula : odt_InvalidFormula.data = .seq #[dv_InvalidFormula] dn_InvalidFormula)
    (kC_InvalidFormula : PySem.W.keepIn K (.ref C_InvalidFormula) = true)
    (eC_InvalidFormula : PySem.W.subIn K (.ref C_InvalidFormula) (.type "BaseException") = some true)
    (vC_InvalidFormula : PySem.W.subIn K (.ref C_InvalidFormula) (.type "ValueError") = some true)
    (tC_InvalidFormula : PySem.W.typeIn K (.ref C_InvalidFormula) = some (.type "type"))
    (hC_InvalidFormula : PySem.W.hasDictIn K C_InvalidFormula = true)
    (mC_InvalidFormula : PySem.W.mroIn K C_InvalidFormula (.ref C_InvalidFormula) = some true)
    (sC_InvalidFormula : PySem.W.subIn K (.ref C_InvalidFormula) (.ref C_InvalidFormula) = some true)
    (iC_InvalidFormula : PySem.W.isClsIn K C_InvalidFormula = true)
    (sp_InvalidFormula : PySem.W.ks_superIn K C_InvalidFormula C_InvalidFormula "__init__" = some (some (.builtin "ValueError.__init__")))
    (ha_InvalidFormula : PySem.W.findIn K (.ref C_InvalidFormula) "__class__" = some (some (.builtin "object.__class__")))
    (hm_InvalidFormula : PySem.W.mroIn K C_InvalidFormula (.type "object") = some true)
    (cs_InvalidCount_LentError : PySem.W.subIn K (.ref C_InvalidCount) (.ref C_LentError) = some true)
    (cs_InvalidFormula_LentError : PySem.W.subIn K (.ref C_InvalidFormula) (.ref C_LentError) = some true)
    (ni_InvalidCount : PySem.W.subIn K (.type "NoneType") (.ref C_InvalidCount) = some false)
    (is_InvalidCount_InvalidCount : PySem.W.subIn K (.ref C_InvalidCount) (.ref C_InvalidCount) = some true)
    (is_InvalidFormula_InvalidCount : PySem.W.subIn K (.ref C_InvalidFormula) (.ref C_InvalidCount) = some false)
    (ni_InvalidFormula : PySem.W.subIn K (.type "NoneType") (.ref C_InvalidFormula) = some false)
    (is_InvalidCount_InvalidFormula : PySem.W.subIn K (.ref C_InvalidCount) (.ref C_InvalidFormula) = some false)
    (is_InvalidFormula_InvalidFormula : PySem.W.subIn K (.ref C_InvalidFormula) (.ref C_InvalidFormula) = some true)
    (z_all : PySem.W.nsIn K mainGlobals "all" = some none)
    (z_bool : PySem.W.nsIn K mainGlobals "bool" = some none)
    (z_dict : PySem.W.nsIn K mainGlobals "dict" = some none)
    (z_int : PySem.W.nsIn K mainGlobals "int" = some none)
    (z_isinstance : PySem.W.nsIn K mainGlobals "isinstance" = some none)
    (z_len : PySem.W.nsIn K mainGlobals "len" = some none)
    (z_list : PySem.W.nsIn K mainGlobals "list" = some none)
    (z_max : PySem.W.nsIn K mainGlobals "max" = some none)
    (z_min : PySem.W.nsIn K mainGlobals "min" = some none)
    (z_range : PySem.W.nsIn K mainGlobals "range" = some none)
    (z_sorted : PySem.W.nsIn K mainGlobals "sorted" = some none)
    (z_str : PySem.W.nsIn K mainGlobals "str" = some none)
    (z_sum : PySem.W.nsIn K mainGlobals "sum" = some none)
    (z_tuple : PySem.W.nsIn K mainGlobals "tuple" = some none)
    (z_zip : PySem.W.nsIn K mainGlobals "zip" = some none)
    (a_is_whole : PySem.W.nsIn K mainGlobals "is_whole" = some (some (.ref f_is_whole)))
    (l_is_whole : K.lookup f_is_whole = some ⟨oc_is_whole, od_is_whole, .func (PySem.W.fnOf "is_whole" "is_whole" (defArgs s_is_whole) (defBody s_is_whole) (defScope s_is_whole) .none kV_is_whole dc_is_whole pm_is_whole an_is_whole cd_is_whole ct_is_whole), sl_is_whole⟩)
    (c_is_whole : PySem.W.codeIn K cd_is_whole "is_whole" = true)
    (k_is_whole : PySem.W.keepIn K (.ref f_is_whole) = true)
    (a_is_count : PySem.W.nsIn K mainGlobals "is_count" = some (some (.ref f_is_count)))
    (l_is_count : K.lookup f_is_count = some ⟨oc_is_count, od_is_count, .func (PySem.W.fnOf "is_count" "is_count" (defArgs s_is_count) (defBody s_is_count) (defScope s_is_count) .none kV_is_count dc_is_count pm_is_count an_is_count cd_is_count ct_is_count), sl_is_count⟩)
    (c_is_count : PySem.W.codeIn K cd_is_count "is_count" = true)
    (k_is_count : PySem.W.keepIn K (.ref f_is_count) = true)
    (a_all_bits : PySem.W.nsIn K mainGlobals "all_bits" = some (some (.ref f_all_bits)))
    (l_all_bits : K.lookup f_all_bits = some ⟨oc_all_bits, od_all_bits, .func (PySem.W.fnOf "all_bits" "all_bits" (defArgs s_all_bits) (defBody s_all_bits) (defScope s_all_bits) .none kV_all_bits dc_all_bits pm_all_bits an_all_bits cd_all_bits ct_all_bits), sl_all_bits⟩)
    (c_all_bits : PySem.W.codeIn K cd_all_bits "all_bits" = true)
    (k_all_bits : PySem.W.keepIn K (.ref f_all_bits) = true)
    (a_is_formula_of : PySem.W.nsIn K mainGlobals "is_formula_of" = some (some (.ref f_is_formula_of)))
    (l_is_formula_of : K.lookup f_is_formula_of = some ⟨oc_is_formula_of, od_is_formula_of, .func (PySem.W.fnOf "is_formula_of" "is_formula_of" (defArgs s_is_formula_of) (defBody s_is_formula_of) (defScope s_is_formula_of) .none kV_is_formula_of dc_is_formula_of pm_is_formula_of an_is_formula_of cd_is_formula_of ct_is_formula_of), sl_is_formula_of⟩)
    (c_is_formula_of : PySem.W.codeIn K cd_is_formula_of "is_formula_of" = true)
    (k_is_formula_of : PySem.W.keepIn K (.ref f_is_formula_of) = true)
    (a_check_formula : PySem.W.nsIn K mainGlobals "check_formula" = some (some (.ref f_check_formula)))
    (l_check_formula : K.lookup f_check_formula = some ⟨oc_check_formula, od_check_formula, .func (PySem.W.fnOf "check_formula" "check_formula" (defArgs s_check_formula) (defBody s_check_formula) (defScope s_check_formula) .none kV_check_formula dc_check_formula pm_check_formula an_check_formula cd_check_formula ct_check_formula), sl_check_formula⟩)
    (c_check_formula : PySem.W.codeIn K cd_check_formula "check_formula" = true)
    (k_check_formula : PySem.W.keepIn K (.ref f_check_formula) = true)
    (a_is_formula : PySem.W.nsIn K mainGlobals "is_formula" = some (some (.ref f_is_formula)))
    (l_is_formula : K.lookup f_is_formula = some ⟨oc_is_formula, od_is_formula, .func (PySem.W.fnOf "is_formula" "is_formula" (defArgs s_is_formula) (defBody s_is_formula) (defScope s_is_formula) .none kV_is_formula dc_is_formula pm_is_formula an_is_formula cd_is_formula ct_is_formula), sl_is_formula⟩)
    (c_is_formula : PySem.W.codeIn K cd_is_formula "is_formula" = true)
    (k_is_formula : PySem.W.keepIn K (.ref f_is_formula) = true)
    (a_formula_at : PySem.W.nsIn K mainGlobals "formula_at" = some (some (.ref f_formula_at)))
    (l_formula_at : K.lookup f_formula_at = some ⟨oc_formula_at, od_formula_at, .func (PySem.W.fnOf "formula_at" "formula_at" (defArgs s_formula_at) (defBody s_formula_at) (defScope s_formula_at) .none kV_formula_at dc_formula_at pm_formula_at an_formula_at cd_formula_at ct_formula_at), sl_formula_at⟩)
    (c_formula_at : PySem.W.codeIn K cd_formula_at "formula_at" = true)
    (k_formula_at : PySem.W.keepIn K (.ref f_formula_at) = true)
    (a_formula_row : PySem.W.nsIn K mainGlobals "formula_row" = some (some (.ref f_formula_row)))
    (l_formula_row : K.lookup f_formula_row = some ⟨oc_formula_row, od_formula_row, .func (PySem.W.fnOf "formula_row" "formula_row" (defArgs s_formula_row) (defBody s_formula_row) (defScope s_formula_row) .none kV_formula_row dc_formula_row pm_formula_row an_formula_row cd_formula_row ct_formula_row), sl_formula_row⟩)
    (c_formula_row : PySem.W.codeIn K cd_formula_row "formula_row" = true)
    (k_formula_row : PySem.W.keepIn K (.ref f_formula_row) = true)
    (a_depth_there : PySem.W.nsIn K mainGlobals "depth_there" = some (some (.ref f_depth_there)))
    (l_depth_there : K.lookup f_depth_there = some ⟨oc_depth_there, od_depth_there, .func (PySem.W.fnOf "depth_there" "depth_there" (defArgs s_depth_there) (defBody s_depth_there) (defScope s_depth_there) .none kV_depth_there dc_depth_there pm_depth_there an_depth_there cd_depth_there ct_depth_there), sl_depth_there⟩)
    (c_depth_there : PySem.W.codeIn K cd_depth_there "depth_there" = true)
    (k_depth_there : PySem.W.keepIn K (.ref f_depth_there) = true)
    (a_formula_depth : PySem.W.nsIn K mainGlobals "formula_depth" = some (some (.ref f_formula_depth)))
    (l_formula_depth : K.lookup f_formula_depth = some ⟨oc_formula_depth, od_formula_depth, .func (PySem.W.fnOf "formula_depth" "formula_depth" (defArgs s_formula_depth) (defBody s_formula_depth) (defScope s_formula_depth) .none kV_formula_depth dc_formula_depth pm_formula_depth an_formula_depth cd_formula_depth ct_formula_depth), sl_formula_depth⟩)
    (c_formula_depth : PySem.W.codeIn K cd_formula_depth "formula_depth" = true)
    (k_formula_depth : PySem.W.keepIn K (.ref f_formula_depth) = true)
    (a__law_purse : PySem.W.nsIn K mainGlobals "_law_purse" = some (some (.ref f__law_purse)))
    (l__law_purse : K.lookup f__law_purse = some ⟨oc__law_purse, od__law_purse, .func (PySem.W.fnOf "_law_purse" "_law_purse" (defArgs s__law_purse) (defBody s__law_purse) (defScope s__law_purse) .none kV__law_purse dc__law_purse pm__law_purse an__law_purse cd__law_purse ct__law_purse), sl__law_purse⟩)
    (c__law_purse : PySem.W.codeIn K cd__law_purse "_law_purse" = true)
    (k__law_purse : PySem.W.keepIn K (.ref f__law_purse) = true)
    (a__law_mixed : PySem.W.nsIn K mainGlobals "_law_mixed" = some (some (.ref f__law_mixed)))
    (l__law_mixed : K.lookup f__law_mixed = some ⟨oc__law_mixed, od__law_mixed, .func (PySem.W.fnOf "_law_mixed" "_law_mixed" (defArgs s__law_mixed) (defBody s__law_mixed) (defScope s__law_mixed) .none kV__law_mixed dc__law_mixed pm__law_mixed an__law_mixed cd__law_mixed ct__law_mixed), sl__law_mixed⟩)
    (c__law_mixed : PySem.W.codeIn K cd__law_mixed "_law_mixed" = true)
    (k__law_mixed : PySem.W.keepIn K (.ref f__law_mixed) = true)
    (a__law_draw : PySem.W.nsIn K mainGlobals "_law_draw" = some (some (.ref f__law_draw)))
    (l__law_draw : K.lookup f__law_draw = some ⟨oc__law_draw, od__law_draw, .func (PySem.W.fnOf "_law_draw" "_law_draw" (defArgs s__law_draw) (defBody s__law_draw) (defScope s__law_draw) .none kV__law_draw dc__law_draw pm__law_draw an__law_draw cd__law_draw ct__law_draw), sl__law_draw⟩)
    (c__law_draw : PySem.W.codeIn K cd__law_draw "_law_draw" = true)
    (k__law_draw : PySem.W.keepIn K (.ref f__law_draw) = true)
    (a__law_one_of : PySem.W.nsIn K mainGlobals "_law_one_of" = some (some (.ref f__law_one_of)))
    (l__law_one_of : K.lookup f__law_one_of = some ⟨oc__law_one_of, od__law_one_of, .func (PySem.W.fnOf "_law_one_of" "_law_one_of" (defArgs s__law_one_of) (defBody s__law_one_of) (defScope s__law_one_of) .none kV__law_one_of dc__law_one_of pm__law_one_of an__law_one_of cd__law_one_of ct__law_one_of), sl__law_one_of⟩)
    (c__law_one_of : PySem.W.codeIn K cd__law_one_of "_law_one_of" = true)
    (k__law_one_of : PySem.W.keepIn K (.ref f__law_one_of) = true)
    (a__law_same : PySem.W.nsIn K mainGlobals "_law_same" = some (some (.ref f__law_same)))
    (l__law_same : K.lookup f__law_same = some ⟨oc__law_same, od__law_same, .func (PySem.W.fnOf "_law_same" "_law_same" (defArgs s__law_same) (defBody s__law_same) (defScope s__law_same) .none kV__law_same dc__law_same pm__law_same an__law_same cd__law_same ct__law_same), sl__law_same⟩)
    (c__law_same : PySem.W.codeIn K cd__law_same "_law_same" = true)
    (k__law_same : PySem.W.keepIn K (.ref f__law_same) = true)
    (a__law_all_bits : PySem.W.nsIn K mainGlobals "_law_all_bits" = some (some (.ref f__law_all_bits)))
    (l__law_all_bits : K.lookup f__law_all_bits = some ⟨oc__law_all_bits, od__law_all_bits, .func (PySem.W.fnOf "_law_all_bits" "_law_all_bits" (defArgs s__law_all_bits) (defBody s__law_all_bits) (defScope s__law_all_bits) .none kV__law_all_bits dc__law_all_bits pm__law_all_bits an__law_all_bits cd__law_all_bits ct__law_all_bits), sl__law_all_bits⟩)
    (c__law_all_bits : PySem.W.codeIn K cd__law_all_bits "_law_all_bits" = true)
    (k__law_all_bits : PySem.W.keepIn K (.ref f__law_all_bits) = true)
    (a__law_formula : PySem.W.nsIn K mainGlobals "_law_formula" = some (some (.ref f__law_formula)))
    (l__law_formula : K.lookup f__law_formula = some ⟨oc__law_formula, od__law_formula, .func (PySem.W.fnOf "_law_formula" "_law_formula" (defArgs s__law_formula) (defBody s__law_formula) (defScope s__law_formula) .none kV__law_formula dc__law_formula pm__law_formula an__law_formula cd__law_formula ct__law_formula), sl__law_formula⟩)
    (c__law_formula : PySem.W.codeIn K cd__law_formula "_law_formula" = true)
    (k__law_formula : PySem.W.keepIn K (.ref f__law_formula) = true)
    (a__law_at : PySem.W.nsIn K mainGlobals "_law_at" = some (some (.ref f__law_at)))
    (l__law_at : K.lookup f__law_at = some ⟨oc__law_at, od__law_at, .func (PySem.W.fnOf "_law_at" "_law_at" (defArgs s__law_at) (defBody s__law_at) (defScope s__law_at) .none kV__law_at dc__law_at pm__law_at an__law_at cd__law_at ct__law_at), sl__law_at⟩)
    (c__law_at : PySem.W.codeIn K cd__law_at "_law_at" = true)
    (k__law_at : PySem.W.keepIn K (.ref f__law_at) = true)
    (a__law_deep : PySem.W.nsIn K mainGlobals "_law_deep" = some (some (.ref f__law_deep)))
    (l__law_deep : K.lookup f__law_deep = some ⟨oc__law_deep, od__law_deep, .func (PySem.W.fnOf "_law_deep" "_law_deep" (defArgs s__law_deep) (defBody s__law_deep) (defScope s__law_deep) .none kV__law_deep dc__law_deep pm__law_deep an__law_deep cd__law_deep ct__law_deep), sl__law_deep⟩)
    (c__law_deep : PySem.W.codeIn K cd__law_deep "_law_deep" = true)
    (k__law_deep : PySem.W.keepIn K (.ref f__law_deep) = true)
    (a__law_right_form : PySem.W.nsIn K mainGlobals "_law_right_form" = some (some (.ref f__law_right_form)))
    (l__law_right_form : K.lookup f__law_right_form = some ⟨oc__law_right_form, od__law_right_form, .func (PySem.W.fnOf "_law_right_form" "_law_right_form" (defArgs s__law_right_form) (defBody s__law_right_form) (defScope s__law_right_form) .none kV__law_right_form dc__law_right_form pm__law_right_form an__law_right_form cd__law_right_form ct__law_right_form), sl__law_right_form⟩)
    (c__law_right_form : PySem.W.codeIn K cd__law_right_form "_law_right_form" = true)
    (k__law_right_form : PySem.W.keepIn K (.ref f__law_right_form) = true)
    (a__law_bent : PySem.W.nsIn K mainGlobals "_law_bent" = some (some (.ref f__law_bent)))
    (l__law_bent : K.lookup f__law_bent = some ⟨oc__law_bent, od__law_bent, .func (PySem.W.fnOf "_law_bent" "_law_bent" (defArgs s__law_bent) (defBody s__law_bent) (defScope s__law_bent) .none kV__law_bent dc__law_bent pm__law_bent an__law_bent cd__law_bent ct__law_bent), sl__law_bent⟩)
    (c__law_bent : PySem.W.codeIn K cd__law_bent "_law_bent" = true)
    (k__law_bent : PySem.W.keepIn K (.ref f__law_bent) = true)
    (a__law_heard : PySem.W.nsIn K mainGlobals "_law_heard" = some (some (.ref f__law_heard)))
    (l__law_heard : K.lookup f__law_heard = some ⟨oc__law_heard, od__law_heard, .func (PySem.W.fnOf "_law_heard" "_law_heard" (defArgs s__law_heard) (defBody s__law_heard) (defScope s__law_heard) .none kV__law_heard dc__law_heard pm__law_heard an__law_heard cd__law_heard ct__law_heard), sl__law_heard⟩)
    (c__law_heard : PySem.W.codeIn K cd__law_heard "_law_heard" = true)
    (k__law_heard : PySem.W.keepIn K (.ref f__law_heard) = true)
    (a__law_right : PySem.W.nsIn K mainGlobals "_law_right" = some (some (.ref f__law_right)))
    (l__law_right : K.lookup f__law_right = some ⟨oc__law_right, od__law_right, .func (PySem.W.fnOf "_law_right" "_law_right" (defArgs s__law_right) (defBody s__law_right) (defScope s__law_right) .none kV__law_right dc__law_right pm__law_right an__law_right cd__law_right ct__law_right), sl__law_right⟩)
    (c__law_right : PySem.W.codeIn K cd__law_right "_law_right" = true)
    (k__law_right : PySem.W.keepIn K (.ref f__law_right) = true)
    (a_law : PySem.W.nsIn K mainGlobals "law" = some (some (.ref f_law)))
    (l_law : K.lookup f_law = some ⟨oc_law, od_law, .func (PySem.W.fnOf "law" "law" (defArgs s_law) (defBody s_law) (defScope s_law) .none kV_law dc_law pm_law an_law cd_law ct_law), sl_law⟩)
    (c_law : PySem.W.codeIn K cd_law "law" = true)
    (k_law : PySem.W.keepIn K (.ref f_law) = true) :
    ∃ fd : FuncData, (∀ (s : Shared) (v : Value), BindsTo s fd ⟨[v], []⟩ [("script", v)]) ∧ ∀ base : Heap, K.In base → base.Ns mainGlobals mg → FnOk pw w K mg base (L2.CX pw w) 19 fa fd ["script"] (spLaw K) := by
  have e := hfa.symm.trans (PySem.W.mg_of X G a_law)
  cases e
  obtain ⟨O_InvalidCount, E_InvalidCount, A_InvalidCount⟩ := own_facts (P := pw) X G aC_InvalidCount xL_InvalidCount (by show refsVE [.type "ValueError", .type "Exception", .type "BaseException", .type "object"] = true; decide +kernel) sa_InvalidCount ga_InvalidCount gg_InvalidCount nb_InvalidCount a1_InvalidCount t1_InvalidCount l1_InvalidCount c1_InvalidCount lc_InvalidCount lf_InvalidCount hf_InvalidCount lcc_InvalidCount ldt_InvalidCount ldd_InvalidCount kC_InvalidCount eC_InvalidCount vC_InvalidCount tC_InvalidCount hC_InvalidCount mC_InvalidCount sp_InvalidCount op zs (by decide +kernel) (fun _ => ⟨_, rfl⟩) ha_InvalidCount hn ht hm_InvalidCount
  obtain ⟨O_InvalidFormula, E_InvalidFormula, A_InvalidFormula⟩ := own_facts (P := pw) X G aC_InvalidFormula xL_InvalidFormula (by show refsVE [.type "ValueError", .type "Exception", .type "BaseException", .type "object"] = true; decide +kernel) sa_InvalidFormula ga_InvalidFormula gg_InvalidFormula nb_InvalidFormula a1_InvalidFormula t1_InvalidFormula l1_InvalidFormula c1_InvalidFormula lc_InvalidFormula lf_InvalidFormula hf_InvalidFormula lcc_InvalidFormula ldt_InvalidFormula ldd_InvalidFormula kC_InvalidFormula eC_InvalidFormula vC_InvalidFormula tC_InvalidFormula hC_InvalidFormula mC_InvalidFormula sp_InvalidFormula op zs (by decide +kernel) (fun _ => ⟨_, rfl⟩) ha_InvalidFormula hn ht hm_InvalidFormula
  have g_InvalidCount : mg "InvalidCount" = some (.ref C_InvalidCount) := PySem.W.mg_of X G aC_InvalidCount
  have g_InvalidFormula : mg "InvalidFormula" = some (.ref C_InvalidFormula) := PySem.W.mg_of X G aC_InvalidFormula
  have g_LentError : mg "LentError" = some (.ref C_LentError) := PySem.W.mg_of X G aC_LentError
  have T : Tx pw K mg C_InvalidCount C_InvalidFormula C_LentError I_InvalidCount I_InvalidFormula :=
    { n_all := PySem.W.mg_none_of X G z_all
      n_bool := PySem.W.mg_none_of X G z_bool
      n_dict := PySem.W.mg_none_of X G z_dict
      n_int := PySem.W.mg_none_of X G z_int
      n_isinstance := PySem.W.mg_none_of X G z_isinstance
      n_len := PySem.W.mg_none_of X G z_len
      n_list := PySem.W.mg_none_of X G z_list
      n_max := PySem.W.mg_none_of X G z_max
      n_min := PySem.W.mg_none_of X G z_min
      n_range := PySem.W.mg_none_of X G z_range
      n_sorted := PySem.W.mg_none_of X G z_sorted
      n_str := PySem.W.mg_none_of X G z_str
      n_sum := PySem.W.mg_none_of X G z_sum
      n_tuple := PySem.W.mg_none_of X G z_tuple
      n_zip := PySem.W.mg_none_of X G z_zip
      o_InvalidCount := O_InvalidCount
      o_InvalidFormula := O_InvalidFormula
      errA := fun c hc C hC => by
        have hc : c ∈ (["InvalidCount", "InvalidFormula"] : List Str) := of_decide_eq_true hc
        simp only [List.mem_cons, List.not_mem_nil, or_false] at hc
        rcases hc with rfl | rfl
        · rw [g_InvalidCount] at hC; cases hC; exact A_InvalidCount
        · rw [g_InvalidFormula] at hC; cases hC; exact A_InvalidFormula
      is_InvalidCount := ⟨C_InvalidCount, g_InvalidCount, fun t ht => (by
        obtain rfl : t = "NoneType" := by simpa [bt_InvalidCount] using ht
        exact kit_own iC_InvalidCount tC_InvalidCount ni_InvalidCount sC_InvalidCount), fun p hp C hC => (by
        simp only [own_InvalidCount, List.mem_cons, List.not_mem_nil, or_false] at hp
        rcases hp with rfl | rfl
        · have hC : mg "InvalidCount" = some (.ref C) := hC
          rw [g_InvalidCount] at hC; cases hC; exact ⟨kit_own iC_InvalidCount tC_InvalidCount is_InvalidCount_InvalidCount sC_InvalidCount, E_InvalidCount⟩
        · have hC : mg "InvalidFormula" = some (.ref C) := hC
          rw [g_InvalidFormula] at hC; cases hC; exact ⟨kit_own iC_InvalidCount tC_InvalidCount is_InvalidFormula_InvalidCount sC_InvalidCount, E_InvalidFormula⟩)⟩
      is_InvalidFormula := ⟨C_InvalidFormula, g_InvalidFormula, fun t ht => (by
        obtain rfl : t = "NoneType" := by simpa [bt_InvalidFormula] using ht
        exact kit_own iC_InvalidFormula tC_InvalidFormula ni_InvalidFormula sC_InvalidFormula), fun p hp C hC => (by
        simp only [own_InvalidFormula, List.mem_cons, List.not_mem_nil, or_false] at hp
        rcases hp with rfl | rfl
        · have hC : mg "InvalidCount" = some (.ref C) := hC
          rw [g_InvalidCount] at hC; cases hC; exact ⟨kit_own iC_InvalidFormula tC_InvalidFormula is_InvalidCount_InvalidFormula sC_InvalidFormula, E_InvalidCount⟩
        · have hC : mg "InvalidFormula" = some (.ref C) := hC
          rw [g_InvalidFormula] at hC; cases hC; exact ⟨kit_own iC_InvalidFormula tC_InvalidFormula is_InvalidFormula_InvalidFormula sC_InvalidFormula, E_InvalidFormula⟩)⟩
      g_LentError := g_LentError
      ct_LentError := fun k b hb C hC => by
        unfold catch_LentError at hb
        by_cases q_InvalidCount : k = "InvalidCount"
        · subst q_InvalidCount
          rw [g_InvalidCount] at hC; cases hC
          rw [if_pos rfl] at hb
          obtain rfl : b = true := (Option.some.inj hb).symm
          exact PySem.W.exm_ref eC_LentError hC_LentError tC_LentError cs_InvalidCount_LentError
        by_cases q_InvalidFormula : k = "InvalidFormula"
        · subst q_InvalidFormula
          rw [g_InvalidFormula] at hC; cases hC
          rw [if_neg (by decide), if_pos rfl] at hb
          obtain rfl : b = true := (Option.some.inj hb).symm
          exact PySem.W.exm_ref eC_LentError hC_LentError tC_LentError cs_InvalidFormula_LentError
        rw [if_neg q_InvalidCount, if_neg q_InvalidFormula] at hb
        cases hb }
  have U_is_whole := fun_mk (st := s_is_whole) l_is_whole c_is_whole k_is_whole
  have D_is_whole : Df K mg "is_whole" s_is_whole ["value"] := ⟨_, _, PySem.W.mg_of X G a_is_whole, U_is_whole, U_is_whole.binds fun _ _ _ _ _ _ us hl => match us, hl with | [_], _ => rfl⟩
  have U_is_count := fun_mk (st := s_is_count) l_is_count c_is_count k_is_count
  have D_is_count : Df K mg "is_count" s_is_count ["value"] := ⟨_, _, PySem.W.mg_of X G a_is_count, U_is_count, U_is_count.binds fun _ _ _ _ _ _ us hl => match us, hl with | [_], _ => rfl⟩
  have U_all_bits := fun_mk (st := s_all_bits) l_all_bits c_all_bits k_all_bits
  have D_all_bits : Df K mg "all_bits" s_all_bits ["many"] := ⟨_, _, PySem.W.mg_of X G a_all_bits, U_all_bits, U_all_bits.binds fun _ _ _ _ _ _ us hl => match us, hl with | [_], _ => rfl⟩
  have U_is_formula_of := fun_mk (st := s_is_formula_of) l_is_formula_of c_is_formula_of k_is_formula_of
  have D_is_formula_of : Df K mg "is_formula_of" s_is_formula_of ["many", "value"] := ⟨_, _, PySem.W.mg_of X G a_is_formula_of, U_is_formula_of, U_is_formula_of.binds fun _ _ _ _ _ _ us hl => match us, hl with | [_, _], _ => rfl⟩
  have U_check_formula := fun_mk (st := s_check_formula) l_check_formula c_check_formula k_check_formula
  have D_check_formula : Df K mg "check_formula" s_check_formula ["many", "value"] := ⟨_, _, PySem.W.mg_of X G a_check_formula, U_check_formula, U_check_formula.binds fun _ _ _ _ _ _ us hl => match us, hl with | [_, _], _ => rfl⟩
  have U_is_formula := fun_mk (st := s_is_formula) l_is_formula c_is_formula k_is_formula
  have D_is_formula : Df K mg "is_formula" s_is_formula ["many", "value"] := ⟨_, _, PySem.W.mg_of X G a_is_formula, U_is_formula, U_is_formula.binds fun _ _ _ _ _ _ us hl => match us, hl with | [_, _], _ => rfl⟩
  have U_formula_at := fun_mk (st := s_formula_at) l_formula_at c_formula_at k_formula_at
  have D_formula_at : Df K mg "formula_at" s_formula_at ["formula", "bits"] := ⟨_, _, PySem.W.mg_of X G a_formula_at, U_formula_at, U_formula_at.binds fun _ _ _ _ _ _ us hl => match us, hl with | [_, _], _ => rfl⟩
  have U_formula_row := fun_mk (st := s_formula_row) l_formula_row c_formula_row k_formula_row
  have D_formula_row : Df K mg "formula_row" s_formula_row ["many", "formula"] := ⟨_, _, PySem.W.mg_of X G a_formula_row, U_formula_row, U_formula_row.binds fun _ _ _ _ _ _ us hl => match us, hl with | [_, _], _ => rfl⟩
  have U_depth_there := fun_mk (st := s_depth_there) l_depth_there c_depth_there k_depth_there
  have D_depth_there : Df K mg "depth_there" s_depth_there ["formula"] := ⟨_, _, PySem.W.mg_of X G a_depth_there, U_depth_there, U_depth_there.binds fun _ _ _ _ _ _ us hl => match us, hl with | [_], _ => rfl⟩
  have U_formula_depth := fun_mk (st := s_formula_depth) l_formula_depth c_formula_depth k_formula_depth
  have D_formula_depth : Df K mg "formula_depth" s_formula_depth ["many", "formula"] := ⟨_, _, PySem.W.mg_of X G a_formula_depth, U_formula_depth, U_formula_depth.binds fun _ _ _ _ _ _ us hl => match us, hl with | [_, _], _ => rfl⟩
  have U__law_purse := fun_mk (st := s__law_purse) l__law_purse c__law_purse k__law_purse
  have D__law_purse : Df K mg "_law_purse" s__law_purse ["script", "at"] := ⟨_, _, PySem.W.mg_of X G a__law_purse, U__law_purse, U__law_purse.binds fun _ _ _ _ _ _ us hl => match us, hl with | [_, _], _ => rfl⟩
  have U__law_mixed := fun_mk (st := s__law_mixed) l__law_mixed c__law_mixed k__law_mixed
  have D__law_mixed : Df K mg "_law_mixed" s__law_mixed ["seed", "spin", "at"] := ⟨_, _, PySem.W.mg_of X G a__law_mixed, U__law_mixed, U__law_mixed.binds fun _ _ _ _ _ _ us hl => match us, hl with | [_, _, _], _ => rfl⟩
  have U__law_draw := fun_mk (st := s__law_draw) l__law_draw c__law_draw k__law_draw
  have D__law_draw : Df K mg "_law_draw" s__law_draw ["purse", "many"] := ⟨_, _, PySem.W.mg_of X G a__law_draw, U__law_draw, U__law_draw.binds fun _ _ _ _ _ _ us hl => match us, hl with | [_, _], _ => rfl⟩
  have U__law_one_of := fun_mk (st := s__law_one_of) l__law_one_of c__law_one_of k__law_one_of
  have D__law_one_of : Df K mg "_law_one_of" s__law_one_of ["purse", "some"] := ⟨_, _, PySem.W.mg_of X G a__law_one_of, U__law_one_of, U__law_one_of.binds fun _ _ _ _ _ _ us hl => match us, hl with | [_, _], _ => rfl⟩
  have U__law_same := fun_mk (st := s__law_same) l__law_same c__law_same k__law_same
  have D__law_same : Df K mg "_law_same" s__law_same ["told", "due"] := ⟨_, _, PySem.W.mg_of X G a__law_same, U__law_same, U__law_same.binds fun _ _ _ _ _ _ us hl => match us, hl with | [_, _], _ => rfl⟩
  have U__law_all_bits := fun_mk (st := s__law_all_bits) l__law_all_bits c__law_all_bits k__law_all_bits
  have D__law_all_bits : Df K mg "_law_all_bits" s__law_all_bits ["many"] := ⟨_, _, PySem.W.mg_of X G a__law_all_bits, U__law_all_bits, U__law_all_bits.binds fun _ _ _ _ _ _ us hl => match us, hl with | [_], _ => rfl⟩
  have U__law_formula := fun_mk (st := s__law_formula) l__law_formula c__law_formula k__law_formula
  have D__law_formula : Df K mg "_law_formula" s__law_formula ["purse", "many", "deep"] := ⟨_, _, PySem.W.mg_of X G a__law_formula, U__law_formula, U__law_formula.binds fun _ _ _ _ _ _ us hl => match us, hl with | [_, _, _], _ => rfl⟩
  have U__law_at := fun_mk (st := s__law_at) l__law_at c__law_at k__law_at
  have D__law_at : Df K mg "_law_at" s__law_at ["formula", "bits"] := ⟨_, _, PySem.W.mg_of X G a__law_at, U__law_at, U__law_at.binds fun _ _ _ _ _ _ us hl => match us, hl with | [_, _], _ => rfl⟩
  have U__law_deep := fun_mk (st := s__law_deep) l__law_deep c__law_deep k__law_deep
  have D__law_deep : Df K mg "_law_deep" s__law_deep ["formula"] := ⟨_, _, PySem.W.mg_of X G a__law_deep, U__law_deep, U__law_deep.binds fun _ _ _ _ _ _ us hl => match us, hl with | [_], _ => rfl⟩
  have U__law_right_form := fun_mk (st := s__law_right_form) l__law_right_form c__law_right_form k__law_right_form
  have D__law_right_form : Df K mg "_law_right_form" s__law_right_form ["many", "value"] := ⟨_, _, PySem.W.mg_of X G a__law_right_form, U__law_right_form, U__law_right_form.binds fun _ _ _ _ _ _ us hl => match us, hl with | [_, _], _ => rfl⟩
  have U__law_bent := fun_mk (st := s__law_bent) l__law_bent c__law_bent k__law_bent
  have D__law_bent : Df K mg "_law_bent" s__law_bent ["purse", "many", "formula"] := ⟨_, _, PySem.W.mg_of X G a__law_bent, U__law_bent, U__law_bent.binds fun _ _ _ _ _ _ us hl => match us, hl with | [_, _, _], _ => rfl⟩
  have U__law_heard := fun_mk (st := s__law_heard) l__law_heard c__law_heard k__law_heard
  have D__law_heard : Df K mg "_law_heard" s__law_heard ["way", "many", "value"] := ⟨_, _, PySem.W.mg_of X G a__law_heard, U__law_heard, U__law_heard.binds fun _ _ _ _ _ _ us hl => match us, hl with | [_, _, _], _ => rfl⟩
  have U__law_right := fun_mk (st := s__law_right) l__law_right c__law_right k__law_right
  have D__law_right : Df K mg "_law_right" s__law_right ["purse", "many"] := ⟨_, _, PySem.W.mg_of X G a__law_right, U__law_right, U__law_right.binds fun _ _ _ _ _ _ us hl => match us, hl with | [_, _], _ => rfl⟩
  have U_law := fun_mk (st := s_law) l_law c_law k_law
  have D_law : Df K mg "law" s_law ["script"] := ⟨_, _, PySem.W.mg_of X G a_law, U_law, U_law.binds fun _ _ _ _ _ _ us hl => match us, hl with | [_], _ => rfl⟩
  refine ⟨PySem.W.fnOf "law" "law" (defArgs s_law) (defBody s_law) (defScope s_law) .none kV_law dc_law pm_law an_law cd_law ct_law, fun s v => .of_eq rfl, fun base _ _ => ?_⟩
  have F_is_whole := fn_is_whole (P := pw) (w := w) (base := base) T D_is_whole
  have F_is_count := fn_is_count (P := pw) (w := w) (base := base) T D_is_count F_is_whole
  have F_all_bits := fn_all_bits (P := pw) (w := w) (base := base) T D_all_bits
  have F_is_formula_of := fn_is_formula_of (P := pw) (w := w) (base := base) T D_is_formula_of F_is_count 12
  have F_check_formula := fn_check_formula (P := pw) (w := w) (base := base) T D_check_formula F_is_count F_is_formula_of
  have F_is_formula := fn_is_formula (P := pw) (w := w) (base := base) T D_is_formula F_is_formula_of F_is_count
  have K_is_formula_0_value_many := mkK (np := 0) (ks := ["value", "many"]) (is := [1, 0]) F_is_formula ⟨_, _, PySem.W.mg_of X G a_is_formula, U_is_formula.lk, kb_mk (by decide) fun us ws h1 h2 => match us, ws, h1, h2 with | [], [_, _], _, _ => rfl⟩
  have F_formula_at := fn_formula_at (P := pw) (w := w) (base := base) T D_formula_at 12
  have F_formula_row := fn_formula_row (P := pw) (w := w) (base := base) T D_formula_row F_check_formula F_formula_at F_all_bits
  have K_formula_row_0_formula_many := mkK (np := 0) (ks := ["formula", "many"]) (is := [1, 0]) F_formula_row ⟨_, _, PySem.W.mg_of X G a_formula_row, U_formula_row.lk, kb_mk (by decide) fun us ws h1 h2 => match us, ws, h1, h2 with | [], [_, _], _, _ => rfl⟩
  have F_depth_there := fn_depth_there (P := pw) (w := w) (base := base) T D_depth_there 12
  have F_formula_depth := fn_formula_depth (P := pw) (w := w) (base := base) T D_formula_depth F_check_formula F_depth_there
  have K_formula_depth_0_formula_many := mkK (np := 0) (ks := ["formula", "many"]) (is := [1, 0]) F_formula_depth ⟨_, _, PySem.W.mg_of X G a_formula_depth, U_formula_depth.lk, kb_mk (by decide) fun us ws h1 h2 => match us, ws, h1, h2 with | [], [_, _], _, _ => rfl⟩
  have F__law_purse := fn__law_purse (P := pw) (w := w) (base := base) T D__law_purse
  have F__law_mixed := fn__law_mixed (P := pw) (w := w) (base := base) T D__law_mixed
  have F__law_draw := fn__law_draw (P := pw) (w := w) (base := base) T D__law_draw F__law_mixed
  have F__law_one_of := fn__law_one_of (P := pw) (w := w) (base := base) T D__law_one_of F__law_draw
  have F__law_same := fn__law_same (P := pw) (w := w) (base := base) T D__law_same 12
  have F__law_all_bits := fn__law_all_bits (P := pw) (w := w) (base := base) T D__law_all_bits
  have F__law_formula := fn__law_formula (P := pw) (w := w) (base := base) T D__law_formula F__law_draw 12
  have F__law_at := fn__law_at (P := pw) (w := w) (base := base) T D__law_at 12
  have F__law_deep := fn__law_deep (P := pw) (w := w) (base := base) T D__law_deep 12
  have F__law_right_form := fn__law_right_form (P := pw) (w := w) (base := base) T D__law_right_form 12
  have F__law_bent := fn__law_bent (P := pw) (w := w) (base := base) T D__law_bent F__law_one_of
  have F__law_heard := fn__law_heard (P := pw) (w := w) (base := base) T D__law_heard F_is_formula F_formula_row F_formula_depth
  have F__law_right := fn__law_right (P := pw) (w := w) (base := base) T D__law_right F__law_bent F__law_formula F_formula_row F__law_same F__law_right_form F__law_at F_formula_depth F__law_all_bits F_is_formula F__law_deep F__law_heard K_formula_row_0_formula_many K_is_formula_0_value_many K_formula_depth_0_formula_many
  have F_law := fn_law (P := pw) (w := w) (base := base) T D_law F__law_same F__law_purse F__law_heard F__law_right F__law_draw
  exact law_fn F_law (PySem.W.mg_of X G a_law) U_law.lk hlaw
theorem walk {q : Program} {loose : List Str} {XP : (Str → Option Value) → Heap → Prop} {YP : World → Heap → Prop} {d : DefRec} {K : Params → PySem.W.Frag} (hdf : d.params.defaults = [])
    (hY : ∀ (w : World) (h : Heap), YP w h → (K w.params).In h)
    (F : ∀ (w : World) (mg : Str → Option Value) (fa : Addr) (h : Heap), (K w.params).In h → h.Ns mainGlobals mg → mg d.name = some (.ref fa) →
      ∃ fd : FuncData, (∀ (s : Shared) (u : Value), BindsTo s fd ⟨[u], []⟩ [("script", u)]) ∧ ∀ base : Heap, (K w.params).In base → base.Ns mainGlobals mg → FnOk pw w (K w.params) mg base (L2.CX pw w) 19 fa fd ["script"] (spLaw (K w.params))) :
    PySem.W.WalkO q loose XP YP PySem.Challenge.rw_groupmemory_k62_whole_formulas.row.toRowW d [] (fun f vs => PySem.call f vs) :=
  L2.walk_of (l := PySem.Challenge.rw_groupmemory_k62_whole_formulas) (n := 63) (k := 19) (x := "script") (CX := fun w => L2.CX pw w) (sp := fun w => spLaw (K w.params)) rfl (by decide) hdf ⟨rfl, by decide, by decide⟩ hY F (fun _ _ a ns hl hO hS => ⟨a, ns, rfl, hl, hO, hS, fun _ => rfl⟩) fun w H s e s1 z => by
    obtain ⟨a, B, H1, cls, dd, _, _, _, _, _, _, _, z⟩ := z
    exact z
end Kx
open PySem PySem.W PyProof.Rows
set_option maxRecDepth 100000 in
set_option maxHeartbeats 0 in
theorem PySem.Challenge.cw_groupmemory_k62_whole_formulas_holds : PySem.Challenge.rw_groupmemory_k62_whole_formulas.Holds := by
  w_on; o_law; k_head; (case hw => w_witness2)
  k_fill
  refine Kx.walk rfl (fun w h Y => PySem.W.kIn_of Y) ?F
  case F =>
    intro w mg fa h KX G hmg
    refine' Kx.all_mk Kx.law_true KX G hmg ?aC_LentError ?eC_LentError ?hC_LentError ?tC_LentError ?op ?zs ?hn ?ht ?aC_InvalidCount ?xL_InvalidCount ?sa_InvalidCount ?ga_InvalidCount ?gg_InvalidCount ?nb_InvalidCount ?a1_InvalidCount ?t1_InvalidCount ?l1_InvalidCount ?c1_InvalidCount ?lc_InvalidCount ?lf_InvalidCount ?hf_InvalidCount ?lcc_InvalidCount ?ldt_InvalidCount ?ldd_InvalidCount ?kC_InvalidCount ?eC_InvalidCount ?vC_InvalidCount ?tC_InvalidCount ?hC_InvalidCount ?mC_InvalidCount ?sC_InvalidCount ?iC_InvalidCount ?sp_InvalidCount ?ha_InvalidCount ?hm_InvalidCount ?aC_InvalidFormula ?xL_InvalidFormula ?sa_InvalidFormula ?ga_InvalidFormula ?gg_InvalidFormula ?nb_InvalidFormula ?a1_InvalidFormula ?t1_InvalidFormula ?l1_InvalidFormula ?c1_InvalidFormula ?lc_InvalidFormula ?lf_InvalidFormula ?hf_InvalidFormula ?lcc_InvalidFormula ?ldt_InvalidFormula ?ldd_InvalidFormula ?kC_InvalidFormula ?eC_InvalidFormula ?vC_InvalidFormula ?tC_InvalidFormula ?hC_InvalidFormula ?mC_InvalidFormula ?sC_InvalidFormula ?iC_InvalidFormula ?sp_InvalidFormula ?ha_InvalidFormula ?hm_InvalidFormula ?cs_InvalidCount_LentError ?cs_InvalidFormula_LentError ?ni_InvalidCount ?is_InvalidCount_InvalidCount ?is_InvalidFormula_InvalidCount ?ni_InvalidFormula ?is_InvalidCount_InvalidFormula ?is_InvalidFormula_InvalidFormula ?z_all ?z_bool ?z_dict ?z_int ?z_isinstance ?z_len ?z_list ?z_max ?z_min ?z_range ?z_sorted ?z_str ?z_sum ?z_tuple ?z_zip ?a_is_whole ?l_is_whole ?c_is_whole ?k_is_whole ?a_is_count ?l_is_count ?c_is_count ?k_is_count ?a_all_bits ?l_all_bits ?c_all_bits ?k_all_bits ?a_is_formula_of ?l_is_formula_of ?c_is_formula_of ?k_is_formula_of ?a_check_formula ?l_check_formula ?c_check_formula ?k_check_formula ?a_is_formula ?l_is_formula ?c_is_formula ?k_is_formula ?a_formula_at ?l_formula_at ?c_formula_at ?k_formula_at ?a_formula_row ?l_formula_row ?c_formula_row ?k_formula_row ?a_depth_there ?l_depth_there ?c_depth_there ?k_depth_there ?a_formula_depth ?l_formula_depth ?c_formula_depth ?k_formula_depth ?a__law_purse ?l__law_purse ?c__law_purse ?k__law_purse ?a__law_mixed ?l__law_mixed ?c__law_mixed ?k__law_mixed ?a__law_draw ?l__law_draw ?c__law_draw ?k__law_draw ?a__law_one_of ?l__law_one_of ?c__law_one_of ?k__law_one_of ?a__law_same ?l__law_same ?c__law_same ?k__law_same ?a__law_all_bits ?l__law_all_bits ?c__law_all_bits ?k__law_all_bits ?a__law_formula ?l__law_formula ?c__law_formula ?k__law_formula ?a__law_at ?l__law_at ?c__law_at ?k__law_at ?a__law_deep ?l__law_deep ?c__law_deep ?k__law_deep ?a__law_right_form ?l__law_right_form ?c__law_right_form ?k__law_right_form ?a__law_bent ?l__law_bent ?c__law_bent ?k__law_bent ?a__law_heard ?l__law_heard ?c__law_heard ?k__law_heard ?a__law_right ?l__law_right ?c__law_right ?k__law_right ?a_law ?l_law ?c_law ?k_law
    (case aC_LentError => k_is)
    (case eC_LentError => k_is)
    (case hC_LentError => k_is)
    (case tC_LentError => k_is)
    (case op => k_is)
    (case zs => k_is)
    (case hn => k_is)
    (case ht => k_is)
    (case aC_InvalidCount => k_is)
    (case xL_InvalidCount => k_is)
    (case sa_InvalidCount => k_is)
    (case ga_InvalidCount => k_is)
    (case gg_InvalidCount => k_is)
    (case nb_InvalidCount => k_is)
    (case a1_InvalidCount => k_is)
    (case t1_InvalidCount => k_is)
    (case l1_InvalidCount => k_is)
    (case c1_InvalidCount => k_is)
    (case lc_InvalidCount => k_is)
    (case lf_InvalidCount => rfl)
    (case hf_InvalidCount => decide +kernel)
    (case lcc_InvalidCount => k_is)
    (case ldt_InvalidCount => k_is)
    (case ldd_InvalidCount => rfl)
    (case kC_InvalidCount => k_is)
    (case eC_InvalidCount => k_is)
    (case vC_InvalidCount => k_is)
    (case tC_InvalidCount => k_is)
    (case hC_InvalidCount => k_is)
    (case mC_InvalidCount => k_is)
    (case sC_InvalidCount => k_is)
    (case iC_InvalidCount => k_is)
    (case sp_InvalidCount => ks_is)
    (case ha_InvalidCount => k_is)
    (case hm_InvalidCount => k_is)
    (case aC_InvalidFormula => k_is)
    (case xL_InvalidFormula => k_is)
    (case sa_InvalidFormula => k_is)
    (case ga_InvalidFormula => k_is)
    (case gg_InvalidFormula => k_is)
    (case nb_InvalidFormula => k_is)
    (case a1_InvalidFormula => k_is)
    (case t1_InvalidFormula => k_is)
    (case l1_InvalidFormula => k_is)
    (case c1_InvalidFormula => k_is)
    (case lc_InvalidFormula => k_is)
    (case lf_InvalidFormula => rfl)
    (case hf_InvalidFormula => decide +kernel)
    (case lcc_InvalidFormula => k_is)
    (case ldt_InvalidFormula => k_is)
    (case ldd_InvalidFormula => rfl)
    (case kC_InvalidFormula => k_is)
    (case eC_InvalidFormula => k_is)
    (case vC_InvalidFormula => k_is)
    (case tC_InvalidFormula => k_is)
    (case hC_InvalidFormula => k_is)
    (case mC_InvalidFormula => k_is)
    (case sC_InvalidFormula => k_is)
    (case iC_InvalidFormula => k_is)
    (case sp_InvalidFormula => ks_is)
    (case ha_InvalidFormula => k_is)
    (case hm_InvalidFormula => k_is)
    (case cs_InvalidCount_LentError => k_is)
    (case cs_InvalidFormula_LentError => k_is)
    (case ni_InvalidCount => k_is)
    (case is_InvalidCount_InvalidCount => k_is)
    (case is_InvalidFormula_InvalidCount => k_is)
    (case ni_InvalidFormula => k_is)
    (case is_InvalidCount_InvalidFormula => k_is)
    (case is_InvalidFormula_InvalidFormula => k_is)
    (case z_all => k_is)
    (case z_bool => k_is)
    (case z_dict => k_is)
    (case z_int => k_is)
    (case z_isinstance => k_is)
    (case z_len => k_is)
    (case z_list => k_is)
    (case z_max => k_is)
    (case z_min => k_is)
    (case z_range => k_is)
    (case z_sorted => k_is)
    (case z_str => k_is)
    (case z_sum => k_is)
    (case z_tuple => k_is)
    (case z_zip => k_is)
    (case a_is_whole => k_is)
    (case l_is_whole => k_is)
    (case c_is_whole => k_is)
    (case k_is_whole => k_is)
    (case a_is_count => k_is)
    (case l_is_count => k_is)
    (case c_is_count => k_is)
    (case k_is_count => k_is)
    (case a_all_bits => k_is)
    (case l_all_bits => k_is)
    (case c_all_bits => k_is)
    (case k_all_bits => k_is)
    (case a_is_formula_of => k_is)
    (case l_is_formula_of => k_is)
    (case c_is_formula_of => k_is)
    (case k_is_formula_of => k_is)
    (case a_check_formula => k_is)
    (case l_check_formula => k_is)
    (case c_check_formula => k_is)
    (case k_check_formula => k_is)
    (case a_is_formula => k_is)
    (case l_is_formula => k_is)
    (case c_is_formula => k_is)
    (case k_is_formula => k_is)
    (case a_formula_at => k_is)
    (case l_formula_at => k_is)
    (case c_formula_at => k_is)
    (case k_formula_at => k_is)
    (case a_formula_row => k_is)
    (case l_formula_row => k_is)
    (case c_formula_row => k_is)
    (case k_formula_row => k_is)
    (case a_depth_there => k_is)
    (case l_depth_there => k_is)
    (case c_depth_there => k_is)
    (case k_depth_there => k_is)
    (case a_formula_depth => k_is)
    (case l_formula_depth => k_is)
    (case c_formula_depth => k_is)
    (case k_formula_depth => k_is)
    (case a__law_purse => k_is)
    (case l__law_purse => k_is)
    (case c__law_purse => k_is)
    (case k__law_purse => k_is)
    (case a__law_mixed => k_is)
    (case l__law_mixed => k_is)
    (case c__law_mixed => k_is)
    (case k__law_mixed => k_is)
    (case a__law_draw => k_is)
    (case l__law_draw => k_is)
    (case c__law_draw => k_is)
    (case k__law_draw => k_is)
    (case a__law_one_of => k_is)
    (case l__law_one_of => k_is)
    (case c__law_one_of => k_is)
    (case k__law_one_of => k_is)
    (case a__law_same => k_is)
    (case l__law_same => k_is)
    (case c__law_same => k_is)
    (case k__law_same => k_is)
    (case a__law_all_bits => k_is)
    (case l__law_all_bits => k_is)
    (case c__law_all_bits => k_is)
    (case k__law_all_bits => k_is)
    (case a__law_formula => k_is)
    (case l__law_formula => k_is)
    (case c__law_formula => k_is)
    (case k__law_formula => k_is)
    (case a__law_at => k_is)
    (case l__law_at => k_is)
    (case c__law_at => k_is)
    (case k__law_at => k_is)
    (case a__law_deep => k_is)
    (case l__law_deep => k_is)
    (case c__law_deep => k_is)
    (case k__law_deep => k_is)
    (case a__law_right_form => k_is)
    (case l__law_right_form => k_is)
    (case c__law_right_form => k_is)
    (case k__law_right_form => k_is)
    (case a__law_bent => k_is)
    (case l__law_bent => k_is)
    (case c__law_bent => k_is)
    (case k__law_bent => k_is)
    (case a__law_heard => k_is)
    (case l__law_heard => k_is)
    (case c__law_heard => k_is)
    (case k__law_heard => k_is)
    (case a__law_right => k_is)
    (case l__law_right => k_is)
    (case c__law_right => k_is)
    (case k__law_right => k_is)
    (case a_law => k_is)
    (case l_law => k_is)
    (case c_law => k_is)
    (case k_law => k_is)

