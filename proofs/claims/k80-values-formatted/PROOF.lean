import PyProof.Rows.All
import Wide.All
import OpenK.AllK
import Wide.FinOn
import HandS.ForMost
import HandS.ForExc
import HandS.CallSlots
import HandS.Lambda
import HandS.Wide
import HandS.TupAny
import HandS.DeepEq
import HandS.Text
import PyProof.StrBlock2
import HandS.Defaults
import HandS.Property
import HandS.IsInst
import HandS.RaiseMore
import HandS.Deep
import HandS.Iter
import HandS.Comp
import HandS.ExcInit
import HandS.ExcOwn
import HandS.TryMany
import HandS.ExcIs
import KE.KExcInit
import HandS.GenList
import PyProof.EnumIter
import PyProof.EnumMake
import PyProof.EnumStmt
import PyProof.EnumFor
import PyProof.GenObj
import PyProof.GenQ
import KE.GoesMore
import HandS.GenBody
import HandS.ExcField
import HandS.Style
import KE.DataMinMax
import HandS.ClsMeth
import HandS.FStr
import HandS.More
import HandS.Small
import HandS.MakeKwOnly
import PyProof.RulesMatchSeq
import PyProof.Rows.MatchSeqLen
import PyProof.DelItemList
import HandS.Nested
import KE.KSuper
import HandS.Head2
import HandS.HeadHook4
import HandS.HeadWalk
import HandS.HeadEnd
import HandS.EndTab
import KE.KDflt
import PySem.Challenge.RW_latticeshapes_k80_values_formatted
set_option Elab.async false
set_option linter.all false
set_option maxRecDepth 100000
set_option maxHeartbeats 2000000
namespace ML
open PySem PySem.Spec PyProof.Rows L2

/-! ### the program's classes -/
inductive Cl where
  | ShapeError | InvalidInteger | InvalidPoint | InvalidDirection | InvalidMap | InvalidName | InvalidTriangulation | InvalidCommand
  | InvalidPolygon | DegenerateCorner | CrossingEdges | NotConvex | InvalidAction | RunFailed | InvalidText | UnknownName | NameInUse
  | NotFlippable | NothingToUndo | LimitExceeded | GridMap | Polygon | ConvexPolygon | Basis | Mesh | Collection | Console
  deriving DecidableEq
def Cl.nm : Cl → Str
  | .ShapeError => "ShapeError" | .InvalidInteger => "InvalidInteger" | .InvalidPoint => "InvalidPoint" | .InvalidDirection => "InvalidDirection"
  | .InvalidMap => "InvalidMap" | .InvalidName => "InvalidName" | .InvalidTriangulation => "InvalidTriangulation" | .InvalidCommand => "InvalidCommand"
  | .InvalidPolygon => "InvalidPolygon" | .DegenerateCorner => "DegenerateCorner" | .CrossingEdges => "CrossingEdges" | .NotConvex => "NotConvex"
  | .InvalidAction => "InvalidAction" | .RunFailed => "RunFailed" | .InvalidText => "InvalidText" | .UnknownName => "UnknownName" | .NameInUse => "NameInUse"
  | .NotFlippable => "NotFlippable" | .NothingToUndo => "NothingToUndo" | .LimitExceeded => "LimitExceeded" | .GridMap => "GridMap" | .Polygon => "Polygon"
  | .ConvexPolygon => "ConvexPolygon" | .Basis => "Basis" | .Mesh => "Mesh" | .Collection => "Collection" | .Console => "Console"
def Cl.fl : Cl → List Str
  | .InvalidPolygon => ["position"] | .DegenerateCorner => ["position"] | .CrossingEdges => ["first", "second"] | .NotConvex => ["position"]
  | .InvalidAction => ["position"] | .RunFailed => ["position"] | .InvalidText => ["part"] | .UnknownName => ["name"] | .NameInUse => ["name"]
  | .NotFlippable => ["edge"] | .LimitExceeded => ["size"]
  | .GridMap => ["six"] | .Polygon => ["kept", "reflex"] | .ConvexPolygon => ["kept", "reflex"] | .Basis => ["a", "b", "u", "v"] | .Mesh => ["apexes"]
  | .Collection => ["most", "kept", "earlier"] | .Console => ["collection"] | _ => []

/-! ### data -/
inductive D where
  | non | bl (b : Bool) | int (i : Int) | str (x : Str)
  | tup (xs : List D) | lst (xs : List D) | obj (c : Cl) (fs : List D)
  | cell (i : Nat) | raw (v : V) | scr (ns : List Int)
  /-- the exception that a suite holds -/
  | exo (a : Addr) (d : Option Addr) (c : Cl) (fs : List D)
/-- what may change: a list, an instance, a dict -/
inductive MO where
  | lst (xs : List D) | ins (c : Cl) (fs : List D) | dct (kvs : List (Key × D))
  /-- the table of the code of the def x, whose code objects bear the name q -/
  | tab (x : Str) (q : Str)
abbrev Wo := List MO
/-- where the cells are; objects of nobody's that are being filled -/
structure Lo where
  cells : List Addr
  out : List Addr
def Lo.No (μ : Lo) (a : Addr) : Prop := a ∉ μ.cells ∧ a ∉ μ.out
abbrev Env := List (Option D)

section
variable (K : PySem.W.Frag)
/-- the class object's address -/
def cAd (c : Cl) : Addr := match PySem.W.nsIn K mainGlobals c.nm with
  | some (some (.ref a)) => a
  | _ => 0
/-- a def's address, its code's, its code's table's -/
def fnAd (x : Str) : Addr := match PySem.W.nsIn K mainGlobals x with
  | some (some (.ref a)) => a
  | _ => 0
def cdAd (f : Addr) : Addr := match K.lookup f with
  | some ⟨_, _, .func fd, _⟩ => (match fd.code with
    | .ref c => c
    | _ => 0)
  | _ => 0
def tbAd (x : Str) : Addr := match K.lookup (cdAd K (fnAd K x)) with
  | some ⟨_, _, .fields vs, _⟩ => (match (vs[11]? : Option Value) with
    | some (.ref P) => P
    | _ => 0)
  | _ => 0
mutual
/-- the value v stands for the datum; μ: where the cells are -/
def Rep (μ : Lo) (H : Hp) (v : V) : D → Prop
  | .non => v = .non
  | .bl b => v = .bl b
  | .int i => v = .int i
  | .str x => v = .str x
  | .tup ds => ∃ a vs, v = .ref a ∧ SqT K H a vs ∧ Reps μ H vs ds
  | .lst ds => ∃ a vs, v = .ref a ∧ H a = some (.lst vs) ∧ μ.No a ∧ Reps μ H vs ds
  | .obj c ds => ∃ a dx vs, v = .ref a ∧ H a = some (.ins (cAd K c) dx (c.fl.zip vs)) ∧ μ.No a ∧ ds.length ≤ c.fl.length ∧ Reps μ H vs ds
  | .cell i => ∃ a, v = .ref a ∧ μ.cells[i]? = some a
  | .raw u => v = u
  | .scr ns => ∃ a, v = .ref a ∧ ((H a = some (.lst (ns.map V.int)) ∧ μ.No a) ∨ (∃ o, H a = some (.frz o (.lst (ns.map V.int)))) ∨ ∀ H', SqL K H' a (ns.map V.int))
  | .exo a d c fs => v = .ref a ∧ ((c.fl = [] ∧ fs = [] ∧ d = none) ∨ (c.fl ≠ [] ∧ fs.length = c.fl.length ∧ ∃ dd fv vs, d = some dd ∧ H dd = some (.xd fv) ∧ dd ∉ μ.cells ∧ (∀ (i : Nat) (f : Str), c.fl[i]? = some f → fv.lookup f = vs[i]?) ∧ Reps μ H vs fs))
def Reps (μ : Lo) (H : Hp) (vs : List V) : List D → Prop
  | [] => vs = []
  | d :: ds => ∃ v r, vs = v :: r ∧ Rep μ H v d ∧ Reps μ H r ds
end
/-- a cell's object -/
def RepM (μ : Lo) (H : Hp) (a : Addr) : MO → Prop
  | .lst ds => ∃ vs, H a = some (.lst vs) ∧ Reps K μ H vs ds
  | .ins c ds => ∃ dx vs, H a = some (.ins (cAd K c) dx (c.fl.zip vs)) ∧ ds.length ≤ c.fl.length ∧ Reps K μ H vs ds
  | .dct kvs => ∃ kv : List (Key × V), H a = some (.dK kv) ∧ kv.map (·.1) = kvs.map (·.1) ∧ Reps K μ H (kv.map (·.2)) (kvs.map (·.2))
  | .tab x q => a = tbAd K x ∧ ∃ ps : Array Value, H a = some (.tbl ps) ∧ TriplesOk ps.toList ∧ ∀ (pos : Pos) (cv : Value), codeAmong pos ps.toList = some cv → ∃ c, cv = .ref c ∧ H c = some (LamX.CodeO c q) ∧ c ∉ μ.cells
structure RepS (μ : Lo) (H : Hp) (W : Wo) : Prop where
  nd : μ.cells.Nodup
  len : μ.cells.length = W.length
  off : ∀ a, a ∈ μ.cells → a ∉ μ.out
  there : ∀ a, a ∈ μ.out → H a ≠ none
  at_ : ∀ (i : Nat) (a : Addr) (m : MO), μ.cells[i]? = some a → W[i]? = some m → RepM K μ H a m
structure RepE (μ : Lo) (H : Hp) (σ : L2.St) (δ : Env) : Prop where
  len : σ.length = δ.length
  at_ : ∀ (i : Nat) (d : D), δ[i]? = some (some d) → ∃ v, σ[i]? = some (some v) ∧ Rep K μ H v d
/-- an exception of class c with these fields -/
def RepX (μ : Lo) (H : Hp) (cls : Value) (dd : Option Addr) (c : Cl) (fs : List D) : Prop := cls = .ref (cAd K c) ∧ ∀ a, Rep K μ H (.ref a) (.exo a dd c fs)
end
/-- all that does not change stands; the cells stay cells, new ones are new -/
structure Ext (μ : Lo) (H : Hp) (μ' : Lo) (H' : Hp) : Prop where
  pre : ∃ l, μ'.cells = μ.cells ++ l
  outS : ∀ a, a ∈ μ.out → a ∈ μ'.out
  outN : ∀ a, a ∈ μ'.out → a ∈ μ.out ∨ H a = none
  keep : ∀ a o, H a = some o → a ∉ μ.cells → H' a = some o
  fresh : ∀ a, a ∈ μ'.cells → a ∉ μ.cells → H a = none
  live : ∀ a, H a ≠ none → H' a ≠ none
  keepT : ∀ a xs, H a = some (.tup xs) → H' a = some (.tup xs)
  keepZ : ∀ a o u, H a = some (.frz o u) → H' a = some (.frz o u)
  keepB : ∀ a ps, H a = some (.tbl ps) → ∃ more, H' a = some (.tbl (ps ++ more))
theorem Ext.refl (μ : Lo) (H : Hp) : Ext μ H μ H := ⟨⟨[], by simp⟩, fun _ h => h, fun _ h => .inl h, fun _ _ h _ => h, fun _ h n => absurd h n, fun _ h => h, fun _ _ h => h, fun _ _ _ h => h, fun _ _ h => ⟨#[], by simpa using h⟩⟩
theorem Ext.mem {μ μ' : Lo} {H H' : Hp} (x : Ext μ H μ' H') {a : Addr} (h : a ∈ μ.cells) : a ∈ μ'.cells := by
  obtain ⟨l, e⟩ := x.pre
  rw [e]
  exact List.mem_append_left _ h
theorem Ext.trans {μ μ1 μ2 : Lo} {H H1 H2 : Hp} (x : Ext μ H μ1 H1) (y : Ext μ1 H1 μ2 H2) : Ext μ H μ2 H2 where
  pre := by
    obtain ⟨l, e⟩ := x.pre
    obtain ⟨l', e'⟩ := y.pre
    exact ⟨l ++ l', by rw [e', e, List.append_assoc]⟩
  outS := fun a h => y.outS a (x.outS a h)
  outN := fun a h => by
    rcases y.outN a h with h | h
    · exact x.outN a h
    · refine .inr ?_
      cases e : H a with
      | none => rfl
      | some o => exact absurd h (x.live a (by rw [e]; exact fun z => nomatch z))
  keep := fun a o h n => by
    refine y.keep a o (x.keep a o h n) fun m => ?_
    rw [x.fresh a m n] at h
    cases h
  fresh := fun a m n => by
    by_cases h : a ∈ μ1.cells
    · exact x.fresh a h n
    · cases e : H a with
      | none => rfl
      | some o =>
        have := x.keep a o e n
        rw [y.fresh a m h] at this
        cases this
  live := fun a h => y.live a (x.live a h)
  keepT := fun a xs h => y.keepT a xs (x.keepT a xs h)
  keepZ := fun a o u h => y.keepZ a o u (x.keepZ a o u h)
  keepB := fun a ps h => by
    obtain ⟨m1, h1⟩ := x.keepB a ps h
    obtain ⟨m2, h2⟩ := y.keepB a _ h1
    exact ⟨m1 ++ m2, by rw [h2, Array.append_assoc]⟩
theorem upd_live {H : Hp} {p : Addr} {o : HO} (a : Addr) (h : H a ≠ none) : upd H p o a ≠ none := by
  by_cases q : a = p
  · rw [q, upd_same]
    exact fun z => nomatch z
  · rw [upd_ne q]
    exact h
/-- a new object beside the cells -/
theorem Ext.new {μ : Lo} {H : Hp} {p : Addr} {o : HO} (h : H p = none) : Ext μ H μ (upd H p o) where
  pre := ⟨[], by simp⟩
  outS := fun _ h => h
  outN := fun _ h => .inl h
  keep := fun a u e _ => by rw [upd_ne (ne_of_none e h)]; exact e
  fresh := fun _ m n => absurd m n
  live := upd_live
  keepT := fun a u e => by rw [upd_ne (ne_of_none e h)]; exact e
  keepZ := fun a u z e => by rw [upd_ne (ne_of_none e h)]; exact e
  keepB := fun a ps e => ⟨#[], by rw [upd_ne (ne_of_none e h)]; simpa using e⟩
def Lo.add (μ : Lo) (p : Addr) : Lo := ⟨μ.cells ++ [p], μ.out⟩
def Lo.hide (μ : Lo) (p : Addr) : Lo := ⟨μ.cells, p :: μ.out⟩
def Lo.show (μ : Lo) (p : Addr) : Lo := ⟨μ.cells, μ.out.filter fun a => decide (a ≠ p)⟩
/-- a new cell -/
theorem Ext.newCell {μ : Lo} {H : Hp} {p : Addr} {o : HO} (h : H p = none) : Ext μ H (μ.add p) (upd H p o) where
  pre := ⟨[p], rfl⟩
  outS := fun _ h => h
  outN := fun _ h => .inl h
  keep := fun a u e _ => by rw [upd_ne (ne_of_none e h)]; exact e
  fresh := fun a m n => by
    rcases List.mem_append.mp m with m | m
    · exact absurd m n
    · rw [List.mem_singleton.mp m]; exact h
  live := upd_live
  keepT := fun a u e => by rw [upd_ne (ne_of_none e h)]; exact e
  keepZ := fun a u z e => by rw [upd_ne (ne_of_none e h)]; exact e
  keepB := fun a ps e => ⟨#[], by rw [upd_ne (ne_of_none e h)]; simpa using e⟩
/-- a new object of nobody's -/
theorem Ext.newOut {μ : Lo} {H : Hp} {p : Addr} {o : HO} (h : H p = none) : Ext μ H (μ.hide p) (upd H p o) where
  pre := ⟨[], by simp [Lo.hide]⟩
  outS := fun _ h => List.mem_cons_of_mem _ h
  outN := fun a m => by
    rcases List.mem_cons.mp m with m | m
    · exact .inr (m ▸ h)
    · exact .inl m
  keep := fun a u e _ => by rw [upd_ne (ne_of_none e h)]; exact e
  fresh := fun _ m n => absurd m n
  live := upd_live
  keepT := fun a u e => by rw [upd_ne (ne_of_none e h)]; exact e
  keepZ := fun a u z e => by rw [upd_ne (ne_of_none e h)]; exact e
  keepB := fun a ps e => ⟨#[], by rw [upd_ne (ne_of_none e h)]; simpa using e⟩
/-- it is written -/
theorem Ext.touch {μ μ' : Lo} {H H' : Hp} {p : Addr} {o : HO} (x : Ext μ H μ' H') (h : H p = none) : Ext μ H μ' (upd H' p o) where
  pre := x.pre
  outS := x.outS
  outN := x.outN
  keep := fun a u e n => by rw [upd_ne (ne_of_none e h)]; exact x.keep a u e n
  fresh := x.fresh
  live := fun a q => upd_live a (x.live a q)
  keepT := fun a u e => by rw [upd_ne (ne_of_none e h)]; exact x.keepT a u e
  keepZ := fun a u z e => by rw [upd_ne (ne_of_none e h)]; exact x.keepZ a u z e
  keepB := fun a ps e => by rw [upd_ne (ne_of_none e h)]; exact x.keepB a ps e
/-- it is nobody's no longer -/
theorem Ext.shown {μ μ' : Lo} {H H' : Hp} {p : Addr} (x : Ext μ H μ' H') (h : p ∉ μ.out) : Ext μ H (μ'.show p) H' where
  pre := x.pre
  outS := fun a m => List.mem_filter.mpr ⟨x.outS a m, decide_eq_true fun z => h (z ▸ m)⟩
  outN := fun a m => x.outN a (List.mem_filter.mp m).1
  keep := x.keep
  fresh := x.fresh
  live := x.live
  keepT := x.keepT
  keepZ := x.keepZ
  keepB := x.keepB
theorem Lo.No.ext {μ μ' : Lo} {H H' : Hp} {a : Addr} {o : HO} (x : Ext μ H μ' H') (n : μ.No a) (h : H a = some o) : μ'.No a := by
  refine ⟨fun m => ?_, fun m => ?_⟩
  · rw [x.fresh a m n.1] at h
    cases h
  · rcases x.outN a m with m | m
    · exact n.2 m
    · rw [m] at h
      cases h
section
variable {K : PySem.W.Frag} {μ μ' : Lo} {H H' : Hp}
theorem SqT.ext (x : Ext μ H μ' H') {a : Addr} {vs : List V} (h : SqT K H a vs) : SqT K H' a vs := by
  rcases h with (h | ⟨o, h⟩) | h
  · exact .inl (.inl (x.keepT _ _ h))
  · exact .inl (.inr ⟨o, x.keepZ _ _ _ h⟩)
  · exact .inr h
mutual
theorem Rep.ext (x : Ext μ H μ' H') : ∀ {v : V} {d : D}, Rep K μ H v d → Rep K μ' H' v d
  | _, .non, h => h
  | _, .bl _, h => h
  | _, .int _, h => h
  | _, .str _, h => h
  | _, .raw _, h => h
  | _, .tup _, h => by
    obtain ⟨a, vs, e, s, r⟩ := h
    exact ⟨a, vs, e, SqT.ext x s, Reps.ext x r⟩
  | _, .lst _, h => by
    obtain ⟨a, vs, e, s, n, r⟩ := h
    exact ⟨a, vs, e, x.keep _ _ s n.1, n.ext x s, Reps.ext x r⟩
  | _, .scr _, h => by
    obtain ⟨a, e, h⟩ := h
    refine ⟨a, e, ?_⟩
    rcases h with ⟨s, n⟩ | ⟨o, s⟩ | h
    · exact .inl ⟨x.keep _ _ s n.1, n.ext x s⟩
    · exact .inr (.inl ⟨o, x.keepZ _ _ _ s⟩)
    · exact .inr (.inr h)
  | _, .obj _ _, h => by
    obtain ⟨a, dx, vs, e, s, n, l, r⟩ := h
    exact ⟨a, dx, vs, e, x.keep _ _ s n.1, n.ext x s, l, Reps.ext x r⟩
  | _, .exo a d c fs, h => by
    obtain ⟨e, h⟩ := h
    refine ⟨e, ?_⟩
    rcases h with h | ⟨h1, h2, dd, fv, vs, h3, h4, h5, h6, h7⟩
    · exact .inl h
    · refine .inr ⟨h1, h2, dd, fv, vs, h3, x.keep _ _ h4 h5, fun m => ?_, h6, Reps.ext x h7⟩
      rw [x.fresh dd m h5] at h4
      cases h4
  | _, .cell i, h => by
    obtain ⟨a, e, m⟩ := h
    obtain ⟨l, el⟩ := x.pre
    exact ⟨a, e, by rw [el, List.getElem?_append_left (List.getElem?_eq_some_iff.mp m).1]; exact m⟩
theorem Reps.ext (x : Ext μ H μ' H') : ∀ {vs : List V} {ds : List D}, Reps K μ H vs ds → Reps K μ' H' vs ds
  | _, [], h => h
  | _, _ :: _, h => by
    obtain ⟨v, r, e, h1, h2⟩ := h
    exact ⟨v, r, e, Rep.ext x h1, Reps.ext x h2⟩
end
end
end ML
set_option Elab.async false
set_option linter.all false
set_option maxRecDepth 100000
set_option maxHeartbeats 2000000
namespace ML
open PySem PySem.Spec PyProof.Rows L2

inductive Res (α : Type) where
  | ok (a : α) (W : Wo) | ex (c : Cl) (fs : List D) (W : Wo) | bad
def Res.bind {α β : Type} (r : Res α) (f : α → Wo → Res β) : Res β := match r with
  | .ok a W => f a W
  | .ex c fs W => .ex c fs W
  | .bad => .bad
abbrev ME := Env → Wo → Res D
abbrev MA := Env → Wo → Res (List D)
abbrev MT := Env → Wo → Res Bool
abbrev MF := List D → Wo → Res D
abbrev XW := Value → Option Addr → Hp → Prop
section
variable (K : PySem.W.Frag)
/-- what is wanted of a result -/
def Pst {α β : Type} (R : Lo → Hp → β → α → Prop) (μ : Lo) (H : Hp) (Q : β → Hp → Prop) (Wx : XW) : Res α → Prop
  | .ok a W => ∀ b μ' H', Ext μ H μ' H' → RepS K μ' H' W → R μ' H' b a → Q b H'
  | .ex c fs W => ∀ cls dd μ' H', Ext μ H μ' H' → RepS K μ' H' W → RepX K μ' H' cls dd c fs → Wx cls dd H'
  | .bad => False
abbrev RD : Lo → Hp → V → D → Prop := Rep K
abbrev RL : Lo → Hp → List V → List D → Prop := Reps K
abbrev RB : Lo → Hp → Bool → Bool → Prop := fun _ _ b c => b = c
def tM {α β : Type} (R : Lo → Hp → β → α → Prop) (m : Env → Wo → Res α) (Wx : WX) (σ : L2.St) (H : Hp) (Q : β → Hp → Prop) : Prop :=
  ∃ μ W δ, RepS K μ H W ∧ RepE K μ H σ δ ∧ Pst K R μ H Q (fun c d H' => Wx c d σ H') (m δ W)
end
section
variable {K : PySem.W.Frag} {α β γ ε : Type} {R : Lo → Hp → β → α → Prop} {R' : Lo → Hp → ε → γ → Prop} {μ μ' : Lo} {H H' : Hp}
theorem Pst.shift {Q : β → Hp → Prop} {Wx : XW} {r : Res α} (x : Ext μ H μ' H') (h : Pst K R μ H Q Wx r) : Pst K R μ' H' Q Wx r := by
  cases r with
  | ok a W => exact fun b μ1 H1 x1 => h b μ1 H1 (x.trans x1)
  | ex c fs W => exact fun c d μ1 H1 x1 => h c d μ1 H1 (x.trans x1)
  | bad => exact h
theorem Pst.imp {Q Q' : β → Hp → Prop} {Wx Wx' : XW} {r : Res α} (h : Pst K R μ H Q Wx r) (i : ∀ b μ' H', Ext μ H μ' H' → Q b H' → Q' b H') (j : ∀ c d H', Wx c d H' → Wx' c d H') : Pst K R μ H Q' Wx' r := by
  cases r with
  | ok a W => exact fun b μ1 H1 x1 S r => i b _ H1 x1 (h b μ1 H1 x1 S r)
  | ex c fs W => exact fun c d μ1 H1 x1 S r => j c d H1 (h c d μ1 H1 x1 S r)
  | bad => exact h
/-- a value that has come, and what is to follow -/
def Nxt (K : PySem.W.Frag) (R : Lo → Hp → β → α → Prop) (R' : Lo → Hp → ε → γ → Prop) (Q : ε → Hp → Prop) (Wx : XW) (f : α → Wo → Res γ) (μ : Lo) (H : Hp) (b : β) (H1 : Hp) : Prop :=
  ∃ μ1 W1 a, Ext μ H μ1 H1 ∧ RepS K μ1 H1 W1 ∧ R μ1 H1 b a ∧ Pst K R' μ1 H1 Q Wx (f a W1)
theorem Pst.bind {Q : ε → Hp → Prop} {Wx : XW} {r : Res α} {f : α → Wo → Res γ} (h : Pst K R' μ H Q Wx (r.bind f)) : Pst K R μ H (Nxt K R R' Q Wx f μ H) Wx r := by
  cases r with
  | ok a W => exact fun b μ1 H1 x S r => ⟨μ1, W, a, x, S, r, Pst.shift x h⟩
  | ex c fs W => exact h
  | bad => exact h
theorem RepE.ext {σ : L2.St} {δ : Env} (x : Ext μ H μ' H') (h : RepE K μ H σ δ) : RepE K μ' H' σ δ := ⟨h.len, fun i d e => by
  obtain ⟨v, e1, r⟩ := h.at_ i d e
  exact ⟨v, e1, Rep.ext x r⟩⟩
theorem PE.imp {X : Cx} {e : Expr} {t t' : TE} (h : PE X e t) (i : ∀ σ H Q, t' σ H Q → t σ H Q) : PE X e t' := ⟨fun pins s σ H Q I q => h.run pins s σ H Q I (i σ H Q q)⟩
theorem PT.imp {X : Cx} {e : Expr} {t t' : TT} (h : PT X e t) (i : ∀ σ H Q, t' σ H Q → t σ H Q) : PT X e t' := ⟨fun pins s σ H Q I q => h.run pins s σ H Q I (i σ H Q q)⟩
theorem PW.imp {X : Cx} {e : Expr} {t t' : TT} (h : PW X e t) (i : ∀ σ H Q, t' σ H Q → t σ H Q) : PW X e t' := ⟨fun w pins s σ H Q I q => h.run w pins s σ H Q I (i σ H Q q)⟩
theorem PA.imp {X : Cx} {e : List Expr} {t t' : TA} (h : PA X e t) (i : ∀ σ H Q, t' σ H Q → t σ H Q) : PA X e t' := ⟨fun p pins s σ H Q I q => h.run p pins s σ H Q I (i σ H Q q)⟩
theorem PS.imp {X : Cx} {e : Stmt} {t t' : TS} (h : PS X e t) (i : ∀ D σ H, t' D σ H → t D σ H) : PS X e t' := ⟨fun pins s σ H Q I q => h.run pins s σ H Q I (i Q σ H q)⟩
theorem PSs.imp {X : Cx} {e : List Stmt} {t t' : TS} (h : PSs X e t) (i : ∀ D σ H, t' D σ H → t D σ H) : PSs X e t' := ⟨fun pins s σ H Q I q => h.run pins s σ H Q I (i Q σ H q)⟩
end
/-! ### the judgements -/
def PM (X : Cx) (Wx : WX) (e : Expr) (m : ME) : Prop := PE X e (tM X.K (RD X.K) m Wx)
structure PMA (X : Cx) (Wx : WX) (es : List Expr) (m : MA) : Prop where
  pa : PA X es (tM X.K (RL X.K) m Wx)
  len : ∀ δ W ds W', m δ W = .ok ds W' → ds.length = es.length
def PMT (X : Cx) (Wx : WX) (e : Expr) (m : MT) : Prop := PT X e (tM X.K RB m Wx)
def PMW (X : Cx) (Wx : WX) (e : Expr) (m : MT) : Prop := PW X e (tM X.K RB m Wx)
section
variable {K : PySem.W.Frag} {α β γ ε : Type} {R : Lo → Hp → β → α → Prop} {R' : Lo → Hp → ε → γ → Prop}
/-- one behind the other -/
theorem tM.bind {m : Env → Wo → Res α} {f : α → Env → Wo → Res γ} {Wx : WX} {σ : L2.St} {H : Hp} {Q : ε → Hp → Prop} {P : β → Hp → Prop} (h : tM K R' (fun δ W => (m δ W).bind fun a W1 => f a δ W1) Wx σ H Q)
    (k : ∀ μ δ b H1 μ1 W1 a, Ext μ H μ1 H1 → RepS K μ1 H1 W1 → RepE K μ1 H1 σ δ → R μ1 H1 b a → Pst K R' μ1 H1 Q (fun c d H' => Wx c d σ H') (f a δ W1) → P b H1) : tM K R m Wx σ H P := by
  obtain ⟨μ, W, δ, S, E, p⟩ := h
  exact ⟨μ, W, δ, S, E, (Pst.bind p).imp (fun b μ' H' x ⟨μ1, W1, a, x1, S1, r, q⟩ => k μ δ b H' μ1 W1 a x1 S1 (E.ext x1) r q) fun _ _ _ h => h⟩
end
section
variable {X : Cx} {Wx : WX} {e a b : Expr} {pos : Pos}
def mC (d : D) : ME := fun _ W => .ok d W
def mVar (i : Nat) : ME := fun δ W => match δ[i]? with
  | some (some d) => .ok d W
  | _ => .bad
def mBad {α : Type} : Env → Wo → Res α := fun _ _ => .bad
theorem pm_bad : PM X Wx e mBad := ⟨fun _ _ _ _ _ _ ⟨_, _, _, _, _, h⟩ => h.elim⟩
theorem pmt_bad : PMT X Wx e mBad := ⟨fun _ _ _ _ _ _ ⟨_, _, _, _, _, h⟩ => h.elim⟩
theorem tM.pure {K : PySem.W.Frag} {α β : Type} {R : Lo → Hp → β → α → Prop} {d : α} {v : β} {σ : L2.St} {H : Hp} {Q : β → Hp → Prop} (h : tM K R (fun _ W => .ok d W) Wx σ H Q) (r : ∀ μ, R μ H v d) : Q v H := by
  obtain ⟨μ, W, δ, S, E, p⟩ := h
  exact p v μ H (Ext.refl _ _) S (r μ)
theorem pm_int {i j} : PM X Wx (.Constant (.int i) j pos) (mC (.int i)) := PE.imp pe_int fun σ H Q h => tM.pure (d := D.int i) h fun _ => rfl
theorem pm_bl {i j} : PM X Wx (.Constant (.bool i) j pos) (mC (.bl i)) := PE.imp pe_bl fun σ H Q h => tM.pure (d := D.bl i) h fun _ => rfl
theorem pm_non {j} : PM X Wx (.Constant .none j pos) (mC .non) := PE.imp pe_non fun σ H Q h => tM.pure (d := D.non) h fun _ => rfl
theorem pm_str {i j} : PM X Wx (.Constant (.str i) j pos) (mC (.str i)) := PE.imp pe_str fun σ H Q h => tM.pure (d := D.str i) h fun _ => rfl
theorem pm_var (i : Nat) {x : Str} (hN : X.N[i]? = some x := by rfl) (hv : Vis X.env.scope x := by first | exact Or.inl rfl | exact Or.inr (Or.inl rfl) | exact Or.inr (Or.inr rfl)) (hd : (x == ("__debug__" : Str)) = false := by decide)
    (hcd : (x == ("__classdict__" : Str)) = false := by decide) : PM X Wx (.Name x pos) (mVar i) := PE.imp (pe_var hN hv hd hcd) fun σ H Q h => by
  obtain ⟨μ, W, δ, S, E, p⟩ := h
  unfold mVar at p
  split at p
  · rename_i d hd
    obtain ⟨v, e, r⟩ := E.at_ i d hd
    exact ⟨v, e, p v μ H (Ext.refl _ _) S r⟩
  · exact p.elim
/-! ### two-place operations -/
abbrev DOp := D → D → Wo → Res D
def rM (K : PySem.W.Frag) (op : DOp) : R2 := fun x y H Q => ∃ μ W d e, RepS K μ H W ∧ Rep K μ H x d ∧ Rep K μ H y e ∧ Pst K (RD K) μ H Q (fun _ _ _ => False) (op d e W)
def OpM (X : Cx) (f : Value → Value → Sem Value) (op : DOp) : Prop := OpR X f (rM X.K op)
def mBin (op : DOp) (ma mb : ME) : ME := fun δ W => (ma δ W).bind fun d W1 => (mb δ W1).bind fun e W2 => op d e W2
/-- no exception comes of it -/
def Calm {α : Type} (r : Res α) : Prop := match r with
  | .ex _ _ _ => False
  | _ => True
theorem Pst.calm {K : PySem.W.Frag} {α β : Type} {R : Lo → Hp → β → α → Prop} {μ : Lo} {H : Hp} {Q : β → Hp → Prop} {Wx Wx' : XW} {r : Res α} (h : Pst K R μ H Q Wx r) (c : Calm r) : Pst K R μ H Q Wx' r := by
  cases r with
  | ok a W => exact h
  | ex _ _ _ => exact c.elim
  | bad => exact h
theorem mBin_imp {K : PySem.W.Frag} {op : DOp} {ma mb : ME} {σ : L2.St} {H : Hp} {Q : VK} (hc : ∀ d e W, Calm (op d e W)) (h : tM K (RD K) (mBin op ma mb) Wx σ H Q) :
    tM K (RD K) ma Wx σ H fun x H1 => tM K (RD K) mb Wx σ H1 fun y H2 => rM K op x y H2 Q :=
  tM.bind h fun μ δ x H1 μ1 W1 d x1 S1 E1 r1 p => ⟨μ1, W1, δ, S1, E1, (Pst.bind p).imp (fun y μ' H2 _ ⟨μ2, W2, e, x2, S2, r2, q⟩ => ⟨μ2, W2, d, e, S2, Rep.ext x2 r1, r2, q.calm (hc d e W2)⟩) fun _ _ _ h => h⟩
theorem pm_op {op : Operator} {f : DOp} {ma mb : ME} (ho : OpM X (binaryOp op) f) (hc : ∀ d e W, Calm (f d e W)) (ha : PM X Wx a ma) (hb : PM X Wx b mb) : PM X Wx (.BinOp a op b pos) (mBin f ma mb) :=
  PE.imp (pe_op ho ha hb) fun σ H Q h => mBin_imp hc h
theorem pm_cmp {op : CmpOp} {f : DOp} {ma mb : ME} (ho : OpM X (compareOp op) f) (hc : ∀ d e W, Calm (f d e W)) (ha : PM X Wx a ma) (hb : PM X Wx b mb) (hm : behindInMarks op b = false) : PM X Wx (.Compare a [op] [b] pos) (mBin f ma mb) :=
  PE.imp (pe_cmpR ho ha hb hm) fun σ H Q h => mBin_imp hc h
/-- a value that is a bool, as a test -/
def mTst (m : ME) : MT := fun δ W => (m δ W).bind fun d W1 => match d with
  | .bl k => .ok k W1
  | _ => .bad
theorem mTst_imp {K : PySem.W.Frag} {m : ME} {σ : L2.St} {H : Hp} {Q : Bool → Hp → Prop} (h : tM K RB (mTst m) Wx σ H Q) : tM K (RD K) m Wx σ H fun x H' => ∃ k, x = .bl k ∧ Q k H' :=
  tM.bind h fun μ δ x H1 μ1 W1 d x1 S1 E1 r1 p => by
    cases d with
    | bl k => exact ⟨k, r1, p k μ1 H1 (Ext.refl _ _) S1 rfl⟩
    | _ => exact p.elim
theorem pmt_cmp {op : CmpOp} {f : DOp} {ma mb : ME} (ho : OpM X (compareOp op) f) (hc : ∀ d e W, Calm (f d e W)) (ha : PM X Wx a ma) (hb : PM X Wx b mb) (hm : behindInMarks op b = false) : PMT X Wx (.Compare a [op] [b] pos) (mTst (mBin f ma mb)) :=
  PT.imp (pt_cmpR ho ha hb hm) fun σ H Q h => by
    have h1 := mTst_imp h
    exact mBin_imp hc h1
theorem pmt_val {m : ME} (h : PM X Wx e m) (he : ∀ whole, isTrue e X.env whole = (do let v ← whole; standAt e.pos; holding [v] (truthy v)) := by intro _; rfl) : PMT X Wx e (mTst m) :=
  PT.imp (pt_val h he) fun σ H Q h => mTst_imp h
end
end ML
set_option Elab.async false
set_option linter.all false
set_option maxRecDepth 100000
set_option maxHeartbeats 2000000
namespace ML
open PySem PySem.Spec PyProof.Rows L2

/-! ### lists and tuples behind data -/
def lstOf (W : Wo) : D → Option (List D)
  | .lst xs => some xs
  | .cell j => match W[j]? with
    | some (.lst xs) => some xs
    | _ => none
  | _ => none
def dInts (ns : List Int) : List D := ns.map D.int
/-- a list that is read -/
def sqlOf (W : Wo) : D → Option (List D)
  | .scr ns => some (dInts ns)
  | d => lstOf W d
section
variable {K : PySem.W.Frag} {μ : Lo} {H : Hp} {W : Wo} {v : V} {d : D} {xs : List D}
theorem Reps.length : ∀ {vs : List V} {ds : List D}, Reps K μ H vs ds → vs.length = ds.length
  | _, [], h => by
    have e : _ = ([] : List V) := h
    rw [e]
    rfl
  | _, _ :: _, h => by
    obtain ⟨v, r, e, _, h2⟩ := h
    rw [e, List.length_cons, List.length_cons, Reps.length h2]
theorem Reps.get : ∀ {vs : List V} {ds : List D} {i : Nat} {d : D}, Reps K μ H vs ds → ds[i]? = some d → ∃ v, vs[i]? = some v ∧ Rep K μ H v d
  | _, [], _, _, _, e => by simp at e
  | _, _ :: _, 0, _, h, e => by
    obtain ⟨v, r, ev, h1, h2⟩ := h
    simp at e
    subst e
    exact ⟨v, by rw [ev]; rfl, h1⟩
  | _, _ :: _, i + 1, _, h, e => by
    obtain ⟨v, r, ev, h1, h2⟩ := h
    obtain ⟨u, e2, r2⟩ := Reps.get (i := i) h2 (by simpa using e)
    exact ⟨u, by rw [ev]; simpa using e2, r2⟩
theorem Reps.append : ∀ {vs : List V} {ds : List D} {us : List V} {es : List D}, Reps K μ H vs ds → Reps K μ H us es → Reps K μ H (vs ++ us) (ds ++ es)
  | _, [], _, _, h, h' => by
    have e : _ = ([] : List V) := h
    rw [e]
    exact h'
  | _, _ :: _, _, _, h, h' => by
    obtain ⟨v, r, ev, h1, h2⟩ := h
    exact ⟨v, r ++ _, by rw [ev]; rfl, h1, Reps.append h2 h'⟩
theorem Reps.take : ∀ {vs : List V} {ds : List D} (n : Nat), Reps K μ H vs ds → Reps K μ H (vs.take n) (ds.take n)
  | vs, _, 0, _ => by
    rw [List.take_zero, List.take_zero]
    exact (rfl : ([] : List V) = [])
  | _, [], n + 1, h => by
    have e : _ = ([] : List V) := h
    rw [e]
    rfl
  | _, _ :: _, n + 1, h => by
    obtain ⟨v, r, ev, h1, h2⟩ := h
    exact ⟨v, r.take n, by rw [ev]; rfl, h1, Reps.take n h2⟩
theorem Reps.drop : ∀ {vs : List V} {ds : List D} (n : Nat), Reps K μ H vs ds → Reps K μ H (vs.drop n) (ds.drop n)
  | vs, _, 0, h => by
    rw [List.drop_zero, List.drop_zero]
    exact h
  | _, [], n + 1, h => by
    have e : _ = ([] : List V) := h
    rw [e]
    rfl
  | _, _ :: _, n + 1, h => by
    obtain ⟨v, r, ev, h1, h2⟩ := h
    rw [ev]
    exact Reps.drop n h2
theorem Reps.ints : ∀ (ns : List Int), Reps K μ H (ns.map V.int) (dInts ns)
  | [] => rfl
  | n :: ns => ⟨_, _, rfl, rfl, Reps.ints ns⟩
theorem Reps.flat {vs : List V} {ds : List D} (h : Reps K μ H vs ds) : ∀ n : Nat, Reps K μ H (List.replicate n vs).flatten (List.replicate n ds).flatten
  | 0 => rfl
  | n + 1 => by
    rw [List.replicate_succ, List.replicate_succ, List.flatten_cons, List.flatten_cons]
    exact Reps.append h (Reps.flat h n)
theorem lst_at (S : RepS K μ H W) (r : Rep K μ H v d) (e : lstOf W d = some xs) : ∃ a vs, v = .ref a ∧ H a = some (.lst vs) ∧ Reps K μ H vs xs := by
  cases d with
  | lst ys =>
    obtain ⟨a, vs, ev, h, _, rs⟩ := r
    have e' : some ys = some xs := e
    cases e'
    exact ⟨a, vs, ev, h, rs⟩
  | cell j =>
    obtain ⟨a, ev, m⟩ := r
    have e' : (match W[j]? with
      | some (.lst xs) => some xs
      | _ => none) = some xs := e
    split at e'
    · rename_i ys hy
      cases e'
      obtain ⟨vs, h, rs⟩ := S.at_ j a _ m hy
      exact ⟨a, vs, ev, h, rs⟩
    · cases e'
  | _ => cases e
theorem sql_at (S : RepS K μ H W) (r : Rep K μ H v d) (e : sqlOf W d = some xs) : ∃ a vs, v = .ref a ∧ SqL K H a vs ∧ Reps K μ H vs xs := by
  cases d with
  | scr ns =>
    obtain ⟨a, ev, h⟩ := r
    have e' : some (dInts ns) = some xs := e
    cases e'
    refine ⟨a, ns.map V.int, ev, ?_, Reps.ints ns⟩
    rcases h with ⟨h, _⟩ | ⟨o, h⟩ | h
    · exact SqL.of h
    · exact .inl (.inr ⟨o, h⟩)
    · exact h H
  | lst ys =>
    obtain ⟨a, vs, e1, e2, e3⟩ := lst_at S r (show lstOf W _ = some xs from e)
    exact ⟨a, vs, e1, SqL.of e2, e3⟩
  | cell j =>
    obtain ⟨a, vs, e1, e2, e3⟩ := lst_at S r (show lstOf W _ = some xs from e)
    exact ⟨a, vs, e1, SqL.of e2, e3⟩
  | _ => cases e
/-- a new list or tuple is a datum -/
theorem RepS.new {p : Addr} {o : HO} (S : RepS K μ H W) (h : H p = none) : RepS K μ (upd H p o) W := by
  refine ⟨S.nd, S.len, S.off, fun a m z => ?_, fun i a m e1 e2 => ?_⟩
  · refine S.there a m ?_
    by_cases q : a = p
    · rw [q]; exact h
    · rw [upd_ne q] at z; exact z
  have x : Ext μ H μ (upd H p o) := Ext.new h
  have hm := S.at_ i a m e1 e2
  have keep : ∀ {u : HO}, H a = some u → upd H p o a = some u := fun {u} e => by
    rw [upd_ne (ne_of_none e h)]
    exact e
  cases m with
  | lst ds =>
    obtain ⟨vs, e, r⟩ := hm
    exact ⟨vs, keep e, Reps.ext x r⟩
  | ins c ds =>
    obtain ⟨dx, vs, e, l, r⟩ := hm
    exact ⟨dx, vs, keep e, l, Reps.ext x r⟩
  | dct kvs =>
    obtain ⟨kv, e, l, r⟩ := hm
    exact ⟨kv, keep e, l, Reps.ext x r⟩
  | tab P q =>
    obtain ⟨e0, ps, e, l, r⟩ := hm
    refine ⟨e0, ps, keep e, l, fun pos cv hc => ?_⟩
    obtain ⟨c, h1, h2, h3⟩ := r pos cv hc
    exact ⟨c, h1, x.keep _ _ h2 h3, h3⟩
theorem RepS.notMem {p : Addr} (S : RepS K μ H W) (h : H p = none) : μ.No p := by
  refine ⟨fun m => ?_, fun m => S.there p m h⟩
  obtain ⟨i, hi, e⟩ := List.mem_iff_getElem.mp m
  have e1 : μ.cells[i]? = some p := by rw [List.getElem?_eq_getElem hi, e]
  have hl : i < W.length := S.len ▸ hi
  have hm := S.at_ i p W[i] e1 (List.getElem?_eq_getElem hl)
  cases q : W[i] with
  | lst ds =>
    rw [q] at hm
    obtain ⟨vs, e, _⟩ := hm
    rw [h] at e; cases e
  | ins c ds =>
    rw [q] at hm
    obtain ⟨dx, vs, e, _⟩ := hm
    rw [h] at e; cases e
  | dct kvs =>
    rw [q] at hm
    obtain ⟨kv, e, _⟩ := hm
    rw [h] at e; cases e
  | tab P z =>
    rw [q] at hm
    obtain ⟨_, ps, e, _⟩ := hm
    rw [h] at e; cases e
/-- a new list that will not change -/
theorem Pst.newL {Q : VK} {Wx : XW} {vs : List V} {ds : List D} (S : RepS K μ H W) (r : Reps K μ H vs ds) (h : Pst K (RD K) μ H Q Wx (.ok (.lst ds) W)) : ∀ p, H p = none → Q (.ref p) (upd H p (.lst vs)) := fun p hp =>
  h (.ref p) μ _ (Ext.new hp) (S.new hp) ⟨p, vs, rfl, upd_same, S.notMem hp, Reps.ext (Ext.new hp) r⟩
theorem Pst.newT {Q : VK} {Wx : XW} {vs : List V} {ds : List D} (S : RepS K μ H W) (r : Reps K μ H vs ds) (h : Pst K (RD K) μ H Q Wx (.ok (.tup ds) W)) : ∀ p, H p = none → Q (.ref p) (upd H p (.tup vs)) := fun p hp =>
  h (.ref p) μ _ (Ext.new hp) (S.new hp) ⟨p, vs, rfl, SqT.of upd_same, Reps.ext (Ext.new hp) r⟩
theorem Pst.val {Q : VK} {Wx : XW} {d : D} (S : RepS K μ H W) (h : Pst K (RD K) μ H Q Wx (.ok d W)) (r : Rep K μ H v d) : Q v H := h v μ H (Ext.refl _ _) S r
theorem Pst.now {α β : Type} {R : Lo → Hp → β → α → Prop} {Q : β → Hp → Prop} {Wx : XW} {b : β} {a : α} (S : RepS K μ H W) (r : R μ H b a) (h : Pst K R μ H Q Wx (.ok a W)) : Q b H := h b μ H (Ext.refl _ _) S r
end
/-! ### the operators -/
def big (i j : Int) : Bool := i.natAbs.log2 + j.natAbs.log2 + 2 ≤ 900000
def addD : DOp := fun d e W => match d, e with
  | .int i, .int j => .ok (.int (i + j)) W
  | .str x, .str y => if x.length + y.length ≤ sizeLine then .ok (.str (x ++ y)) W else .bad
  | .tup xs, .tup ys => if xs.length + ys.length ≤ sizeLine then .ok (.tup (xs ++ ys)) W else .bad
  | d, e => match lstOf W d, lstOf W e with
    | some xs, some ys => if xs.length + ys.length ≤ sizeLine then .ok (.lst (xs ++ ys)) W else .bad
    | _, _ => .bad
def subD : DOp := fun d e W => match d, e with
  | .int i, .int j => .ok (.int (i - j)) W
  | _, _ => .bad
def strMul (x : Str) (n : Int) : Str := Txt.mul x n
def mulD : DOp := fun d e W => match d, e with
  | .int i, .int j => if big i j then .ok (.int (i * j)) W else .bad
  | d, .int k => match lstOf W d with
    | some xs => if -(2 ^ 63) ≤ k ∧ k < 2 ^ 63 ∧ xs.length * k.toNat ≤ sizeLine then .ok (.lst (List.replicate k.toNat xs).flatten) W else .bad
    | none => .bad
  | _, _ => .bad
def modD : DOp := fun d e W => match d, e with
  | .int i, .int j => if 0 < j then .ok (.int (i % j)) W else if j ≠ 0 then .ok (.int (i.fmod j)) W else .bad
  | _, _ => .bad
def fdivD : DOp := fun d e W => match d, e with
  | .int i, .int j => if 0 < j ∧ j.natAbs.log2 < 8999 then .ok (.int (i / j)) W else if j ≠ 0 ∧ j.natAbs < 1073741824 then .ok (.int (i.fdiv j)) W else .bad
  | _, _ => .bad
def powD : DOp := fun d e W => match d, e with
  | .int i, .int j => if 0 ≤ j ∧ j ≤ 1000000 ∧ i.natAbs < 2 ^ 64 then .ok (.int (i ^ j.toNat)) W else .bad
  | _, _ => .bad
def cmpI (p : Int → Int → Bool) : DOp := fun d e W => match d, e with
  | .int i, .int j => .ok (.bl (p i j)) W
  | _, _ => .bad
abbrev ltI : DOp := cmpI fun i j => decide (i < j)
abbrev leI : DOp := cmpI fun i j => decide (i ≤ j)
abbrev gtI : DOp := cmpI fun i j => decide (j < i)
abbrev geI : DOp := cmpI fun i j => decide (j ≤ i)
section
variable {X : Cx}
theorem Calm.ite {α : Type} {c : Prop} [Decidable c] {a b : Res α} (ha : Calm a) (hb : Calm b) : Calm (if c then a else b) := by
  split <;> assumption
theorem calm_add (d e : D) (W : Wo) : Calm (addD d e W) := by
  unfold addD
  split
  · trivial
  · exact .ite trivial trivial
  · exact .ite trivial trivial
  · split
    · exact .ite trivial trivial
    · trivial
theorem calm_sub (d e : D) (W : Wo) : Calm (subD d e W) := by unfold subD; split <;> trivial
theorem calm_mul (d e : D) (W : Wo) : Calm (mulD d e W) := by
  unfold mulD
  split
  · exact .ite trivial trivial
  · split
    · exact .ite trivial trivial
    · trivial
  · trivial
theorem calm_mod (d e : D) (W : Wo) : Calm (modD d e W) := by
  unfold modD
  split
  · exact .ite trivial (.ite trivial trivial)
  · trivial
theorem calm_fdiv (d e : D) (W : Wo) : Calm (fdivD d e W) := by
  unfold fdivD
  split
  · exact .ite trivial (.ite trivial trivial)
  · trivial
theorem calm_pow (d e : D) (W : Wo) : Calm (powD d e W) := by
  unfold powD
  split
  · exact .ite trivial trivial
  · trivial
theorem calm_cmpI (p : Int → Int → Bool) (d e : D) (W : Wo) : Calm (cmpI p d e W) := by unfold cmpI; split <;> trivial
theorem Pst.ite {K : PySem.W.Frag} {α β : Type} {R : Lo → Hp → β → α → Prop} {μ : Lo} {H : Hp} {Q : β → Hp → Prop} {Wx : XW} {r : Res α} {c : Prop} [Decidable c] (h : Pst K R μ H Q Wx (if c then r else .bad)) : c ∧ Pst K R μ H Q Wx r := by
  by_cases hc : c
  · rw [if_pos hc] at h
    exact ⟨hc, h⟩
  · rw [if_neg hc] at h
    exact h.elim
theorem op_addM : OpM X (binaryOp .Add) addD := fun pins s σ H x y v u Q I rx ry h => by
  obtain ⟨μ, W, d, e, S, rd, re, p⟩ := h
  unfold addD at p
  split at p
  · cases rd; cases re
    exact op_add pins s σ H _ _ v u Q I rx ry ⟨_, _, rfl, rfl, Pst.val S p rfl⟩
  · cases rd; cases re
    obtain ⟨hc, p⟩ := p.ite
    exact op_add_str pins s σ H _ _ v u Q I rx ry ⟨_, _, rfl, rfl, hc, Pst.val S p rfl⟩
  · rename_i xs ys
    obtain ⟨hc, p⟩ := p.ite
    obtain ⟨a, vs, rfl, ha, ra⟩ := rd
    obtain ⟨b, us, rfl, hb, rb⟩ := re
    refine op_catA pins s σ H _ _ v u Q I rx ry ⟨a, b, vs, us, rfl, rfl, ha, hb, by rw [ra.length, rb.length]; exact hc, fun z => ?_, fun _ z => ?_, fun _ _ => Pst.newT S (ra.append rb) p⟩
    · subst z
      have e1 : xs = [] := by
        have := ra.length
        exact List.length_eq_zero_iff.mp this.symm
      subst e1
      exact Pst.val S p ⟨b, us, rfl, hb, rb⟩
    · subst z
      have e1 : ys = [] := by
        have := rb.length
        exact List.length_eq_zero_iff.mp this.symm
      subst e1
      rw [List.append_nil] at p
      exact Pst.val S p ⟨a, vs, rfl, ha, ra⟩
  · split at p
    · rename_i xs ys e1 e2
      obtain ⟨hc, p⟩ := p.ite
      obtain ⟨a, vs, rfl, ha, ra⟩ := lst_at S rd e1
      obtain ⟨b, us, rfl, hb, rb⟩ := lst_at S re e2
      exact op_cat pins s σ H _ _ v u Q I rx ry ⟨a, b, vs, us, rfl, rfl, ha, hb, by rw [ra.length, rb.length]; exact hc, Pst.newL S (ra.append rb) p⟩
    · exact p.elim
theorem op_subM : OpM X (binaryOp .Sub) subD := fun pins s σ H x y v u Q I rx ry h => by
  obtain ⟨μ, W, d, e, S, rd, re, p⟩ := h
  unfold subD at p
  split at p
  · cases rd; cases re
    exact op_sub pins s σ H _ _ v u Q I rx ry ⟨_, _, rfl, rfl, Pst.val S p rfl⟩
  · exact p.elim
end
end ML
set_option Elab.async false
set_option linter.all false
set_option maxRecDepth 100000
set_option maxHeartbeats 2000000
namespace ML
open PySem PySem.Spec PyProof.Rows L2

section
variable {X : Cx}
theorem op_mul_str : OpR X (binaryOp .Mult) (fun x y H Q => ∃ z k, x = .str z ∧ y = .int k ∧ MulOk z k ∧ Q (.str (Txt.mul z k)) H) := fun pins s σ H x y v u Q I rx ry h => by
  obtain ⟨z, k, rfl, rfl, hok, q⟩ := h
  obtain ⟨t, rfl⟩ := rx
  obtain ⟨t', rfl⟩ := ry
  exact PySem.SB.mul hok fun t' k' => ⟨.str _, H, I.tok _, ⟨_, rfl⟩, q⟩
def mulS : DOp := fun d e W => match d, e with
  | .str x, .int k => if 0 ≤ k ∧ k ≤ 1000 ∧ x.length ≤ 1000 then .ok (.str (Txt.mul x k)) W else .bad
  | d, e => mulD d e W
theorem calm_mulS (d e : D) (W : Wo) : Calm (mulS d e W) := by
  unfold mulS
  split
  · exact .ite trivial trivial
  · exact calm_mul _ _ _
theorem mulOk_small {x : Str} {k : Int} (h0 : 0 ≤ k) (h1 : k ≤ 1000) (h2 : x.length ≤ 1000) : MulOk x k := by
  refine ⟨?_, fun _ _ => ?_, fun h _ => ?_⟩
  · rw [Bool.or_eq_false_iff]
    exact ⟨decide_eq_false (by omega), decide_eq_false (by omega)⟩
  · have h3 : (2 ^ 63 - 1 : Int) / 1000 ≤ (2 ^ 63 - 1) / k := by
      by_cases hk : k = 0
      · subst hk
        omega
      · have : k * ((2 ^ 63 - 1 : Int) / k) ≤ 2 ^ 63 - 1 := Int.mul_ediv_self_le (by omega)
        rw [Int.le_ediv_iff_mul_le (by omega)]
        have h5 : (2 ^ 63 - 1 : Int) / 1000 * k ≤ (2 ^ 63 - 1 : Int) / 1000 * 1000 := Int.mul_le_mul_of_nonneg_left h1 (by decide)
        have h6 : (2 ^ 63 - 1 : Int) / 1000 * 1000 ≤ 2 ^ 63 - 1 := by decide
        omega
    have h4 : (1000 : Int) ≤ (2 ^ 63 - 1) / 1000 := by decide
    omega
  · have h3 : x.length * k.toNat ≤ 1000 * 1000 := Nat.mul_le_mul h2 (by omega)
    first
      | (unfold Builtin.Str.tooLong; exact decide_eq_false (by have : sizeLine = 16777216 := rfl; omega))
      | (unfold tooLong; exact decide_eq_false (by omega))
theorem op_mulM : OpM X (binaryOp .Mult) mulS := fun pins s σ H x y v u Q I rx ry h => by
  obtain ⟨μ, W, d, e, S, rd, re, p⟩ := h
  unfold mulS at p
  split at p
  · obtain ⟨hc, p⟩ := p.ite
    cases rd; cases re
    exact op_mul_str pins s σ H _ _ v u Q I rx ry ⟨_, _, rfl, rfl, mulOk_small hc.1 hc.2.1 hc.2.2, Pst.val S p rfl⟩
  · unfold mulD at p
    split at p
    · obtain ⟨hc, p⟩ := p.ite
      cases rd; cases re
      refine op_mulW pins s σ H _ _ v u Q I rx ry ⟨_, _, rfl, rfl, ?_, Pst.val S p rfl⟩
      have hc' := of_decide_eq_true hc
      unfold CMulW
      omega
    · split at p
      · rename_i xs e1
        obtain ⟨hc, p⟩ := p.ite
        obtain ⟨a, vs, rfl, ha, ra⟩ := lst_at S rd e1
        cases re
        exact op_rep pins s σ H _ _ v u Q I rx ry ⟨a, _, vs, rfl, rfl, ha, hc.1, hc.2.1, by rw [ra.length]; exact hc.2.2, Pst.newL S (ra.flat _) p⟩
      · exact p.elim
    · exact p.elim
theorem op_modM : OpM X (binaryOp .Mod) modD := fun pins s σ H x y v u Q I rx ry h => by
  obtain ⟨μ, W, d, e, S, rd, re, p⟩ := h
  unfold modD at p
  split at p
  · cases rd; cases re
    split at p
    · rename_i hc
      exact op_mod pins s σ H _ _ v u Q I rx ry ⟨_, _, rfl, rfl, hc, Pst.val S p rfl⟩
    · obtain ⟨hc, p⟩ := p.ite
      exact op_modN pins s σ H _ _ v u Q I rx ry ⟨_, _, rfl, rfl, hc, Pst.val S p rfl⟩
  · exact p.elim
theorem op_fdivM : OpM X (binaryOp .FloorDiv) fdivD := fun pins s σ H x y v u Q I rx ry h => by
  obtain ⟨μ, W, d, e, S, rd, re, p⟩ := h
  unfold fdivD at p
  split at p
  · cases rd; cases re
    split at p
    · rename_i hc
      exact op_fdivW pins s σ H _ _ v u Q I rx ry ⟨_, _, rfl, rfl, ⟨hc.1, by omega⟩, Pst.val S p rfl⟩
    · obtain ⟨hc, p⟩ := p.ite
      exact op_fdivN pins s σ H _ _ v u Q I rx ry ⟨_, _, rfl, rfl, hc, Pst.val S p rfl⟩
  · exact p.elim
theorem op_powM : OpM X (binaryOp .Pow) powD := fun pins s σ H x y v u Q I rx ry h => by
  obtain ⟨μ, W, d, e, S, rd, re, p⟩ := h
  unfold powD at p
  split at p
  · cases rd; cases re
    obtain ⟨hc, p⟩ := p.ite
    exact op_pow pins s σ H _ _ v u Q I rx ry ⟨_, _, rfl, rfl, hc, Pst.val S p rfl⟩
  · exact p.elim
theorem op_cmpI {op : CmpOp} {f : Int → Int → Bool} (h : OpR X (compareOp op) (rI0 fun i j => .bl (f i j))) : OpM X (compareOp op) (cmpI f) := fun pins s σ H x y v u Q I rx ry hh => by
  obtain ⟨μ, W, d, e, S, rd, re, p⟩ := hh
  unfold cmpI at p
  split at p
  · cases rd; cases re
    exact h pins s σ H _ _ v u Q I rx ry ⟨_, _, rfl, rfl, Pst.val S p rfl⟩
  · exact p.elim
theorem op_ltM : OpM X (compareOp .Lt) ltI := op_cmpI op_lt
theorem op_leM : OpM X (compareOp .LtE) leI := op_cmpI op_le
theorem op_gtM : OpM X (compareOp .Gt) gtI := op_cmpI op_gt
theorem op_geM : OpM X (compareOp .GtE) geI := op_cmpI op_ge
end
/-! ### == of data -/
mutual
def pdOf : D → Option PyData
  | .non => some .none
  | .bl b => some (.bool b)
  | .int i => some (.int i)
  | .str x => some (.str x)
  | .tup xs => match pdsOf xs with
    | some l => some (.tuple l)
    | none => none
  | .lst xs => match pdsOf xs with
    | some l => some (.list l)
    | none => none
  | .scr ns => some (.list (ns.map PyData.int))
  | .obj _ _ => none
  | .cell _ => none
  | .raw _ => none
  | .exo _ _ _ _ => none
def pdsOf : List D → Option (List PyData)
  | [] => some []
  | x :: xs => match pdOf x with
    | some a => match pdsOf xs with
      | some b => some (a :: b)
      | none => none
    | none => none
end
def pdW (W : Wo) : D → Option PyData
  | .cell j => match W[j]? with
    | some (.lst xs) => match pdsOf xs with
      | some l => some (.list l)
      | none => none
    | _ => none
  | d => pdOf d
section
variable {K : PySem.W.Frag} {μ : Lo} {H : Hp} {W : Wo}
theorem dpInts : ∀ ns : List Int, DpAll K H (ns.map V.int) (ns.map PyData.int)
  | [] => .nil
  | n :: ns => .cons (.int n) (dpInts ns)
mutual
theorem pd_rep : ∀ {v : V} {d : D} {p : PyData}, Rep K μ H v d → pdOf d = some p → Dp K H v p
  | _, .non, _, r, e => by cases e; cases r; exact .non
  | _, .bl b, _, r, e => by cases e; cases r; exact .bl b
  | _, .int b, _, r, e => by cases e; cases r; exact .int b
  | _, .str b, _, r, e => by cases e; cases r; exact .str b
  | _, .tup xs, _, r, e => by
    obtain ⟨a, vs, rfl, h, rs⟩ := r
    unfold pdOf at e
    split at e
    · rename_i l el
      cases e
      exact .tup h (pds_rep rs el)
    · cases e
  | _, .lst xs, _, r, e => by
    obtain ⟨a, vs, rfl, h, _, rs⟩ := r
    unfold pdOf at e
    split at e
    · rename_i l el
      cases e
      exact .lst (SqL.of h) (pds_rep rs el)
    · cases e
  | _, .scr ns, _, r, e => by
    cases e
    obtain ⟨a, rfl, h⟩ := r
    refine .lst ?_ (dpInts ns)
    rcases h with ⟨h, _⟩ | ⟨o, h⟩ | h
    · exact SqL.of h
    · exact .inl (.inr ⟨o, h⟩)
    · exact h H
  | _, .obj _ _, _, _, e => by cases e
  | _, .cell _, _, _, e => by cases e
  | _, .raw _, _, _, e => by cases e
  | _, .exo _ _ _ _, _, _, e => by cases e
theorem pds_rep : ∀ {vs : List V} {ds : List D} {ps : List PyData}, Reps K μ H vs ds → pdsOf ds = some ps → DpAll K H vs ps
  | _, [], _, r, e => by
    cases e
    have z : _ = ([] : List V) := r
    rw [z]
    exact .nil
  | _, d :: ds, _, r, e => by
    obtain ⟨v, vs, rfl, r1, r2⟩ := r
    unfold pdsOf at e
    split at e
    · rename_i a ea
      split at e
      · rename_i b eb
        cases e
        exact .cons (pd_rep r1 ea) (pds_rep r2 eb)
      · cases e
    · cases e
end
theorem pdW_rep {v : V} {d : D} {p : PyData} (S : RepS K μ H W) (r : Rep K μ H v d) (e : pdW W d = some p) : Dp K H v p := by
  cases d with
  | cell j =>
    obtain ⟨a, rfl, m⟩ := r
    unfold pdW at e
    split at e
    · rename_i i ei
      cases ei
      split at e
      · rename_i xs hx
        split at e
        · rename_i l el
          cases e
          obtain ⟨vs, h, rs⟩ := S.at_ _ a _ m hx
          exact .lst (SqL.of h) (pds_rep rs el)
        · cases e
      · cases e
    · rename_i h
      exact absurd rfl (h j)
  | _ => exact pd_rep r e
end
def eqD (neg : Bool) : DOp := fun d e W => match pdW W d, pdW W e with
  | some p, some q => if SeqAt.shaped p = true ∧ SeqAt.shaped q = true then .ok (.bl (if neg then !PyData.eqv p q else PyData.eqv p q)) W else .bad
  | _, _ => .bad
def isN (neg : Bool) : DOp := fun d e W => match e with
  | .non => match d with
    | .non => .ok (.bl (!neg)) W
    | _ => .ok (.bl neg) W
  | _ => .bad
/-- one sign in a text -/
def inS : DOp := fun d e W => match d, e with
  | .str c, .str z => if c.cps.size = 1 then .ok (.bl (decide (c.cps.getD 0 0 ∈ z.cps.toList))) W else .bad
  | _, _ => .bad
theorem calm_eq (n : Bool) (d e : D) (W : Wo) : Calm (eqD n d e W) := by
  unfold eqD
  split
  · exact .ite trivial trivial
  · trivial
theorem calm_isN (n : Bool) (d e : D) (W : Wo) : Calm (isN n d e W) := by
  unfold isN
  split
  · split <;> trivial
  · trivial
theorem calm_inS (d e : D) (W : Wo) : Calm (inS d e W) := by
  unfold inS
  split
  · exact .ite trivial trivial
  · trivial
section
variable {X : Cx}
theorem op_eqM (hu : X.A.units + 64 < cLine) : OpM X (compareOp .Eq) (eqD false) := fun pins s σ H x y v u Q I rx ry h => by
  obtain ⟨μ, W, d, e, S, rd, re, p⟩ := h
  unfold eqD at p
  split at p
  · rename_i a b ea eb
    obtain ⟨hc, p⟩ := p.ite
    exact op_eqD hu pins s σ H _ _ v u Q I rx ry ⟨a, b, pdW_rep S rd ea, pdW_rep S re eb, hc.1, hc.2, Pst.val S p rfl⟩
  · exact p.elim
theorem op_neM (hu : X.A.units + 64 < cLine) : OpM X (compareOp .NotEq) (eqD true) := fun pins s σ H x y v u Q I rx ry h => by
  obtain ⟨μ, W, d, e, S, rd, re, p⟩ := h
  unfold eqD at p
  split at p
  · rename_i a b ea eb
    obtain ⟨hc, p⟩ := p.ite
    exact op_neD hu pins s σ H _ _ v u Q I rx ry ⟨a, b, pdW_rep S rd ea, pdW_rep S re eb, hc.1, hc.2, Pst.val S p rfl⟩
  · exact p.elim
theorem rep_non {K : PySem.W.Frag} {μ : Lo} {H : Hp} {v : V} : ∀ {d : D}, Rep K μ H v d → (∀ u, d ≠ .raw u) → decide (v = V.non) = (match d with | .non => true | _ => false)
  | .non, r, _ => by cases r; rfl
  | .bl _, r, _ => by cases r; rfl
  | .int _, r, _ => by cases r; rfl
  | .str _, r, _ => by cases r; rfl
  | .tup _, r, _ => by obtain ⟨a, vs, rfl, _⟩ := r; rfl
  | .lst _, r, _ => by obtain ⟨a, vs, rfl, _⟩ := r; rfl
  | .obj _ _, r, _ => by obtain ⟨a, dx, vs, rfl, _⟩ := r; rfl
  | .cell _, r, _ => by obtain ⟨a, rfl, _⟩ := r; rfl
  | .scr _, r, _ => by obtain ⟨a, rfl, _⟩ := r; rfl
  | .raw u, r, h => absurd rfl (h u)
  | .exo _ _ _ _, r, _ => by obtain ⟨rfl, _⟩ := r; rfl
end
/-! ### is None -/
def isND (neg : Bool) : D → Wo → Res D := fun d W => match d with
  | .non => .ok (.bl (!neg)) W
  | .raw _ => .bad
  | _ => .ok (.bl neg) W
def mUn (f : D → Wo → Res D) (m : ME) : ME := fun δ W => (m δ W).bind f
section
variable {X : Cx} {Wx : WX} {e a b c : Expr} {pos : Pos}
theorem isND_use {K : PySem.W.Frag} {μ : Lo} {H : Hp} {W : Wo} {v : V} {d : D} {neg : Bool} {Q : VK} {Wx : XW} (S : RepS K μ H W) (r : Rep K μ H v d) (p : Pst K (RD K) μ H Q Wx (isND neg d W)) : Q (.bl (if neg then !decide (v = V.non) else decide (v = V.non))) H := by
  have key : ∀ k, isND neg d W = .ok (.bl k) W → k = (if neg then !decide (v = V.non) else decide (v = V.non)) → Q (.bl (if neg then !decide (v = V.non) else decide (v = V.non))) H := fun k e e2 => by
    rw [e] at p
    rw [← e2]
    exact Pst.val S p rfl
  cases d with
  | raw u => exact p.elim
  | _ =>
    refine key _ rfl ?_
    rw [rep_non r fun u q => nomatch q]
    cases neg <;> rfl
theorem pm_isN {m : ME} {j pos'} (ha : PM X Wx a m) : PM X Wx (.Compare a [.Is] [.Constant .none j pos'] pos) (mUn (isND false) m) :=
  PE.imp (pe_cmp (pc_isN ha) rfl) fun σ H Q h => tM.bind h fun μ δ x H1 μ1 W1 d _ S1 _ r1 p => isND_use S1 r1 p
theorem pm_notN {m : ME} {j pos'} (ha : PM X Wx a m) : PM X Wx (.Compare a [.IsNot] [.Constant .none j pos'] pos) (mUn (isND true) m) :=
  PE.imp (pe_cmp (pc_notN ha) rfl) fun σ H Q h => tM.bind h fun μ δ x H1 μ1 W1 d _ S1 _ r1 p => isND_use S1 r1 p
theorem pmt_isN {m : ME} {j pos'} (ha : PM X Wx a m) : PMT X Wx (.Compare a [.Is] [.Constant .none j pos'] pos) (mTst (mUn (isND false) m)) :=
  PT.imp (pt_cmp (pc_isN ha) rfl) fun σ H Q h => tM.bind (mTst_imp h) fun μ δ x H1 μ1 W1 d _ S1 _ r1 p => isND_use S1 r1 p
theorem pmt_notN {m : ME} {j pos'} (ha : PM X Wx a m) : PMT X Wx (.Compare a [.IsNot] [.Constant .none j pos'] pos) (mTst (mUn (isND true) m)) :=
  PT.imp (pt_cmp (pc_notN ha) rfl) fun σ H Q h => tM.bind (mTst_imp h) fun μ δ x H1 μ1 W1 d _ S1 _ r1 p => isND_use S1 r1 p
/-! ### and, or, not; a if t else b -/
def mAnd (t u : MT) : MT := fun δ W => (t δ W).bind fun k W1 => if k then u δ W1 else .ok false W1
def mOr (t u : MT) : MT := fun δ W => (t δ W).bind fun k W1 => if k then .ok true W1 else u δ W1
def mNot (t : MT) : MT := fun δ W => (t δ W).bind fun k W1 => .ok (!k) W1
def mIf {α : Type} (t : MT) (u v : Env → Wo → Res α) : Env → Wo → Res α := fun δ W => (t δ W).bind fun k W1 => if k then u δ W1 else v δ W1
variable {t u : MT} {rest : List Expr}
theorem pmw_and1 (ha : PMT X Wx a t) : PMW X Wx (.BoolOp .And [a] pos) t := pw_and1 ha
theorem pmw_or1 (ha : PMT X Wx a t) : PMW X Wx (.BoolOp .Or [a] pos) t := pw_or1 ha
theorem pmw_and (ha : PMT X Wx a t) (hb : PMW X Wx (.BoolOp .And (b :: rest) pos) u) : PMW X Wx (.BoolOp .And (a :: b :: rest) pos) (mAnd t u) :=
  PW.imp (pw_and ha hb) fun σ H Q h => tM.bind h fun μ δ k H1 μ1 W1 k' _ S1 E1 r1 p => by
    have e : k = k' := r1
    subst e
    cases k with
    | true => exact ⟨μ1, W1, δ, S1, E1, p⟩
    | false => exact Pst.now (R := RB) S1 rfl p
theorem pmw_or (ha : PMT X Wx a t) (hb : PMW X Wx (.BoolOp .Or (b :: rest) pos) u) : PMW X Wx (.BoolOp .Or (a :: b :: rest) pos) (mOr t u) :=
  PW.imp (pw_or ha hb) fun σ H Q h => tM.bind h fun μ δ k H1 μ1 W1 k' _ S1 E1 r1 p => by
    have e : k = k' := r1
    subst e
    cases k with
    | false => exact ⟨μ1, W1, δ, S1, E1, p⟩
    | true => exact Pst.now (R := RB) S1 rfl p
theorem pmt_of (h : PMW X Wx e t) : PMT X Wx e t := PW.pt h
theorem pmt_not (ha : PMT X Wx a t) : PMT X Wx (.UnaryOp .Not a pos) (mNot t) :=
  PT.imp (pt_not ha) fun σ H Q h => tM.bind h fun μ δ k H1 μ1 W1 k' _ S1 E1 r1 p => by
    have e : k = k' := r1
    subst e
    exact Pst.now (R := RB) S1 rfl p
theorem pm_ifExp {m n : ME} (hc : PMT X Wx c t) (ha : PM X Wx a m) (hb : PM X Wx b n) : PM X Wx (.IfExp c a b pos) (mIf t m n) :=
  PE.imp (pe_ifExp hc ha hb) fun σ H Q h => tM.bind h fun μ δ k H1 μ1 W1 k' _ S1 E1 r1 p => by
    have e : k = k' := r1
    subst e
    cases k with
    | true => exact ⟨μ1, W1, δ, S1, E1, p⟩
    | false => exact ⟨μ1, W1, δ, S1, E1, p⟩
/-- .. as values: the parts are bools, the last may be anything -/
def mAndV (m n : ME) : ME := fun δ W => (m δ W).bind fun d W1 => match d with
  | .bl true => n δ W1
  | .bl false => .ok (.bl false) W1
  | _ => .bad
def mOrV (m n : ME) : ME := fun δ W => (m δ W).bind fun d W1 => match d with
  | .bl true => .ok (.bl true) W1
  | .bl false => n δ W1
  | _ => .bad
def notD : D → Wo → Res D := fun d W => match d with
  | .bl b => .ok (.bl (!b)) W
  | _ => .bad
theorem pm_one {op} {m : ME} (h : PM X Wx a m) : PM X Wx (.BoolOp op [a] pos) m := pe_one h
theorem pm_and {m n : ME} (ha : PM X Wx a m) (hb : PM X Wx (.BoolOp .And (b :: rest) pos) n) : PM X Wx (.BoolOp .And (a :: b :: rest) pos) (mAndV m n) :=
  PE.imp (pe_and ha hb) fun σ H Q h => tM.bind h fun μ δ x H1 μ1 W1 d _ S1 E1 r1 p => by
    cases d with
    | bl k =>
      refine ⟨k, r1, ?_⟩
      cases k with
      | true => exact ⟨μ1, W1, δ, S1, E1, p⟩
      | false => exact Pst.val S1 p rfl
    | _ => exact p.elim
theorem pm_or {m n : ME} (ha : PM X Wx a m) (hb : PM X Wx (.BoolOp .Or (b :: rest) pos) n) : PM X Wx (.BoolOp .Or (a :: b :: rest) pos) (mOrV m n) :=
  PE.imp (pe_or ha hb) fun σ H Q h => tM.bind h fun μ δ x H1 μ1 W1 d _ S1 E1 r1 p => by
    cases d with
    | bl k =>
      refine ⟨k, r1, ?_⟩
      cases k with
      | false => exact ⟨μ1, W1, δ, S1, E1, p⟩
      | true => exact Pst.val S1 p rfl
    | _ => exact p.elim
theorem pm_not {m : ME} (ha : PM X Wx a m) : PM X Wx (.UnaryOp .Not a pos) (mUn notD m) :=
  PE.imp (pe_not ha) fun σ H Q h => tM.bind h fun μ δ x H1 μ1 W1 d _ S1 E1 r1 p => by
    cases d with
    | bl k => exact ⟨k, r1, Pst.val S1 p rfl⟩
    | _ => exact p.elim
def negD : D → Wo → Res D := fun d W => match d with
  | .int i => .ok (.int (-i)) W
  | _ => .bad
theorem pm_neg {m : ME} (ha : PM X Wx a m) : PM X Wx (.UnaryOp .USub a pos) (mUn negD m) :=
  PE.imp (pe_un un_neg ha) fun σ H Q h => tM.bind h fun μ δ x H1 μ1 W1 d _ S1 E1 r1 p => by
    cases d with
    | int k => exact ⟨k, r1, Pst.val S1 p rfl⟩
    | _ => exact p.elim
/-- a op b op' c -/
def mChain (f g : DOp) (m n l : ME) : ME := fun δ W => (m δ W).bind fun d W1 => (n δ W1).bind fun e W2 => (f d e W2).bind fun k W3 => match k with
  | .bl true => (l δ W3).bind fun c W4 => g e c W4
  | .bl false => .ok (.bl false) W3
  | _ => .bad
theorem mChain_imp {K : PySem.W.Frag} {f g : DOp} {m n l : ME} {σ : L2.St} {H : Hp} {Q : VK} (hc : ∀ d e W, Calm (f d e W)) (hc' : ∀ d e W, Calm (g d e W)) (h : tM K (RD K) (mChain f g m n l) Wx σ H Q) :
    tChain (rM K f) (rM K g) (tM K (RD K) m Wx) (tM K (RD K) n Wx) (tM K (RD K) l Wx) σ H Q :=
  tM.bind h fun μ δ x H1 μ1 W1 d x1 S1 E1 r1 p => ⟨μ1, W1, δ, S1, E1, (Pst.bind p).imp (fun y μ' H2 _ ⟨μ2, W2, e, x2, S2, r2, q⟩ =>
    ⟨μ2, W2, d, e, S2, Rep.ext x2 r1, r2, ((Pst.bind q).calm (hc d e W2)).imp (fun z μ3' H3 _ ⟨μ3, W3, k, x3, S3, r3, q3⟩ => by
      cases k with
      | bl k =>
        refine ⟨k, r3, ?_⟩
        cases k with
        | true => exact ⟨μ3, W3, δ, S3, RepE.ext (x2.trans x3) E1, (Pst.bind q3).imp (fun c μ4' H4 _ ⟨μ4, W4, c', x4, S4, r4, q4⟩ => ⟨μ4, W4, e, c', S4, Rep.ext (x3.trans x4) r2, r4, q4.calm (hc' e c' W4)⟩) fun _ _ _ h => h⟩
        | false => exact Pst.val S3 q3 rfl
      | _ => exact q3.elim) fun _ _ _ h => h⟩) fun _ _ _ h => h⟩
theorem pm_chain {op op' : CmpOp} {f g : DOp} {m n l : ME} (ho : OpM X (compareOp op) f) (ho' : OpM X (compareOp op') g) (hc : ∀ d e W, Calm (f d e W)) (hc' : ∀ d e W, Calm (g d e W)) (h1 : PM X Wx a m) (h2 : PM X Wx b n) (h3 : PM X Wx c l)
    (hm : lastMarks [op, op'] [b, c] = false := by with_unfolding_all rfl) : PM X Wx (.Compare a [op, op'] [b, c] pos) (mChain f g m n l) := PE.imp (pe_chain ho ho' h1 h2 h3 hm) fun σ H Q h => mChain_imp hc hc' h
theorem pmt_chain {op op' : CmpOp} {f g : DOp} {m n l : ME} (ho : OpM X (compareOp op) f) (ho' : OpM X (compareOp op') g) (hc : ∀ d e W, Calm (f d e W)) (hc' : ∀ d e W, Calm (g d e W)) (h1 : PM X Wx a m) (h2 : PM X Wx b n) (h3 : PM X Wx c l)
    (hm : lastMarks [op, op'] [b, c] = false := by with_unfolding_all rfl) : PMT X Wx (.Compare a [op, op'] [b, c] pos) (mTst (mChain f g m n l)) := PT.imp (pt_chain ho ho' h1 h2 h3 hm) fun σ H Q h => mChain_imp hc hc' (mTst_imp h)
end
end ML
set_option Elab.async false
set_option linter.all false
set_option maxRecDepth 100000
set_option maxHeartbeats 2000000
namespace ML
open PySem PySem.Spec PyProof.Rows L2

/-! ### arguments, displays -/
def aNil : MA := fun _ W => .ok [] W
def aCons (m : ME) (r : MA) : MA := fun δ W => (m δ W).bind fun d W1 => (r δ W1).bind fun ds W2 => .ok (d :: ds) W2
section
variable {X : Cx} {Wx : WX} {e : Expr} {es : List Expr} {pos : Pos} {m : ME} {r : MA}
theorem pma_nil : PMA X Wx [] aNil := ⟨PA.imp pa_nil fun σ H Q h => tM.pure (d := ([] : List D)) (v := ([] : List V)) h fun _ => rfl, fun _ _ _ _ e => by cases e; rfl⟩
theorem pma_cons (ha : PM X Wx e m) (hr : PMA X Wx es r) (hs : starEach (e :: es) X.env = (false, eval e X.env) :: starEach es X.env := by rfl) : PMA X Wx (e :: es) (aCons m r) := by
  refine ⟨?_, fun δ W ds W' h => ?_⟩
  rotate_left
  · unfold aCons at h
    cases e1 : m δ W with
    | ok d W1 =>
      rw [e1] at h
      have h : ((r δ W1).bind fun ds W2 => Res.ok (d :: ds) W2) = .ok ds W' := h
      cases e2 : r δ W1 with
      | ok ds2 W2 =>
        rw [e2] at h
        cases h
        rw [List.length_cons, List.length_cons, hr.len δ W1 ds2 _ e2]
      | ex c fs W2 => rw [e2] at h; cases h
      | bad => rw [e2] at h; cases h
    | ex c fs W2 => rw [e1] at h; cases h
    | bad => rw [e1] at h; cases h
  exact PA.imp (pa_cons ha hr.pa hs) fun σ H Q h => tM.bind h fun μ δ x H1 μ1 W1 d x1 S1 E1 r1 p => ⟨μ1, W1, δ, S1, E1, (Pst.bind p).imp (fun y μ' H2 _ ⟨μ2, W2, ds, x2, S2, r2, q⟩ =>
    Pst.now (R := RL X.K) S2 (b := x :: y) (a := d :: ds) ⟨x, y, rfl, Rep.ext x2 r1, r2⟩ q) fun _ _ _ h => h⟩
def mTup (r : MA) : ME := fun δ W => (r δ W).bind fun ds W1 => if ds.length ≤ sizeLine then .ok (.tup ds) W1 else .bad
def mLst (r : MA) : ME := fun δ W => (r δ W).bind fun ds W1 => if ds.length ≤ sizeLine then .ok (.lst ds) W1 else .bad
/-- a list that will change -/
def mLstC (r : MA) : ME := fun δ W => (r δ W).bind fun ds W1 => if ds.length ≤ sizeLine then .ok (.cell W1.length) (W1 ++ [.lst ds]) else .bad
theorem pm_tup {k} (h : PMA X Wx es r) : PM X Wx (.Tuple es k pos) (mTup r) := PE.imp (pe_tup h.pa) fun σ H Q h => tM.bind h fun μ δ xs H1 μ1 W1 ds x1 S1 E1 r1 p => by
  obtain ⟨hc, p⟩ := p.ite
  exact ⟨by rw [r1.length]; exact hc, Pst.newT S1 r1 p⟩
theorem pm_lst (h : PMA X Wx es r) : PM X Wx (.List es pos) (mLst r) := PE.imp (pe_lst h.pa) fun σ H Q h => tM.bind h fun μ δ xs H1 μ1 W1 ds x1 S1 E1 r1 p => by
  obtain ⟨hc, p⟩ := p.ite
  exact ⟨by rw [r1.length]; exact hc, Pst.newL S1 r1 p⟩
section
variable {K : PySem.W.Frag} {μ : Lo} {H : Hp} {W : Wo} {vs : List V} {ds : List D} {Q : VK} {Wy : XW}
theorem RepM.ext {μ' : Lo} {H' : Hp} {a : Addr} {m' : MO} (x : Ext μ H μ' H') (h : RepM K μ H a m') (k : ∀ u, H a = some u → H' a = some u) : RepM K μ' H' a m' := by
  cases m' with
  | lst ds =>
    obtain ⟨vs, e, r⟩ := h
    exact ⟨vs, k _ e, Reps.ext x r⟩
  | ins c ds =>
    obtain ⟨dx, vs, e, l, r⟩ := h
    exact ⟨dx, vs, k _ e, l, Reps.ext x r⟩
  | dct kvs =>
    obtain ⟨kv, e, l, r⟩ := h
    exact ⟨kv, k _ e, l, Reps.ext x r⟩
  | tab P q =>
    obtain ⟨e0, ps, e, l, r⟩ := h
    refine ⟨e0, ps, k _ e, l, fun pos cv hc => ?_⟩
    obtain ⟨c, h1, h2, h3⟩ := r pos cv hc
    refine ⟨c, h1, x.keep _ _ h2 h3, fun m => ?_⟩
    rw [x.fresh _ m h3] at h2
    cases h2
theorem RepS.newC {p : Addr} {o : HO} {m' : MO} (S : RepS K μ H W) (hp : H p = none) (r : RepM K (μ.add p) (upd H p o) p m') : RepS K (μ.add p) (upd H p o) (W ++ [m']) where
  nd := by
    show (μ.cells ++ [p]).Nodup
    rw [List.nodup_append]
    refine ⟨S.nd, (by simp), fun a ha b hb e => ?_⟩
    rw [List.mem_singleton.mp hb] at e
    exact (S.notMem hp).1 (e ▸ ha)
  len := by
    show (μ.cells ++ [p]).length = _
    rw [List.length_append, List.length_append, S.len]; rfl
  off := fun a m => by
    rcases List.mem_append.mp m with m | m
    · exact S.off a m
    · rw [List.mem_singleton.mp m]; exact (S.notMem hp).2
  there := fun a m z => by
    refine S.there a m ?_
    by_cases q : a = p
    · rw [q]; exact hp
    · rw [upd_ne q] at z; exact z
  at_ := fun i a m1 e1 e2 => by
    have e1 : (μ.cells ++ [p])[i]? = some a := e1
    by_cases hi : i < μ.cells.length
    · rw [List.getElem?_append_left hi] at e1
      rw [List.getElem?_append_left (S.len ▸ hi)] at e2
      exact RepM.ext (Ext.newCell hp) (S.at_ i a m1 e1 e2) fun u e => by
        rw [upd_ne (ne_of_none e hp)]
        exact e
    · have h1 : i = μ.cells.length := by
        have := (List.getElem?_eq_some_iff.mp e1).1
        rw [List.length_append] at this
        have : i < μ.cells.length + 1 := this
        omega
      subst h1
      rw [List.getElem?_append_right (Nat.le_refl _), Nat.sub_self] at e1
      rw [List.getElem?_append_right (by rw [S.len]; exact Nat.le_refl _), S.len, Nat.sub_self] at e2
      have e3 : p = a := Option.some.inj e1
      have e4 : m' = m1 := Option.some.inj e2
      subst e3
      subst e4
      exact r
theorem Pst.newC {m' : MO} {o : V → HO} (S : RepS K μ H W) (hr : ∀ p, H p = none → RepM K (μ.add p) (upd H p (o (.ref p))) p m') (h : Pst K (RD K) μ H Q Wy (.ok (.cell W.length) (W ++ [m']))) : ∀ p, H p = none → Q (.ref p) (upd H p (o (.ref p))) := fun p hp =>
  h (.ref p) (μ.add p) _ (Ext.newCell hp) (S.newC hp (hr p hp)) ⟨p, rfl, by show (μ.cells ++ [p])[_]? = _; rw [← S.len, List.getElem?_append_right (Nat.le_refl _), Nat.sub_self]; rfl⟩
end
theorem pm_lstC (h : PMA X Wx es r) : PM X Wx (.List es pos) (mLstC r) := PE.imp (pe_lst h.pa) fun σ H Q h => tM.bind h fun μ δ xs H1 μ1 W1 ds x1 S1 E1 r1 p => by
  obtain ⟨hc, p⟩ := p.ite
  exact ⟨by rw [r1.length]; exact hc, Pst.newC (m' := .lst ds) (o := fun _ => .lst xs) S1 (fun q hq => ⟨xs, upd_same, Reps.ext (Ext.newCell hq) r1⟩) p⟩
end
/-! ### subscripts -/
def idxD : DOp := fun d e W => match e with
  | .int i => match d with
    | .str z => if z.length ≤ sizeLine then match atI z.cps.toList i with
        | some c => .ok (.str ⟨#[c]⟩) W
        | none => .bad
      else .bad
    | .tup xs => match atI xs i with
      | some x => .ok x W
      | none => .bad
    | d => match sqlOf W d with
      | some xs => match atI xs i with
        | some x => .ok x W
        | none => .bad
      | none => .bad
  | _ => .bad
theorem calm_idx (d e : D) (W : Wo) : Calm (idxD d e W) := by
  unfold idxD
  split
  · split
    · split
      · split <;> trivial
      · trivial
    · split <;> trivial
    · split
      · split <;> trivial
      · trivial
  · trivial
section
variable {K : PySem.W.Frag} {μ : Lo} {H : Hp} {W : Wo} {vs : List V} {xs : List D}
theorem Reps.at {i : Int} {d : D} (r : Reps K μ H vs xs) (h : atI xs i = some d) : ∃ v, atI vs i = some v ∧ Rep K μ H v d := by
  unfold atI at h
  cases e : ixN xs.length i with
  | none => rw [e] at h; cases h
  | some j =>
    rw [e] at h
    obtain ⟨v, e1, r1⟩ := r.get (show xs[j]? = some d from h)
    refine ⟨v, ?_, r1⟩
    unfold atI
    rw [r.length, e]
    exact e1
end
section
variable {X : Cx} {Wx : WX} {a b : Expr} {pos : Pos} {ma mb : ME}
theorem idx_use {K : PySem.W.Frag} {x y : V} {H : Hp} {Q : VK} (h : rM K idxD x y H Q) : rIx K x y H Q := by
  obtain ⟨μ, W, d, e, S2, r1, r2, q⟩ := h
  unfold idxD at q
  split at q
  · rename_i i
    cases r2
    split at q
    · rename_i z
      cases r1
      obtain ⟨hc, q⟩ := q.ite
      split at q
      · rename_i c hcz
        exact .inr (.inr ⟨z, i, c, rfl, rfl, hc, hcz, Pst.val S2 q rfl⟩)
      · exact q.elim
    · rename_i xs
      split at q
      · rename_i c hcz
        obtain ⟨p, vs, rfl, hp, rs⟩ := r1
        obtain ⟨v, ev, rv⟩ := rs.at hcz
        exact .inr (.inl ⟨p, vs, i, v, rfl, rfl, hp, ev, Pst.val S2 q rv⟩)
      · exact q.elim
    · split at q
      · rename_i xs hx
        split at q
        · rename_i c hcz
          obtain ⟨p, vs, rfl, hp, rs⟩ := sql_at S2 r1 hx
          obtain ⟨v, ev, rv⟩ := rs.at hcz
          exact .inl ⟨p, vs, i, v, rfl, rfl, hp, ev, Pst.val S2 q rv⟩
        · exact q.elim
      · exact q.elim
  · exact q.elim
theorem ixM : IxR X (rM X.K idxD) := fun value slice pins s σ H x y v u Q I rx ry h hs => ix_seq value slice pins s σ H x y v u Q I rx ry (idx_use h) hs
theorem pm_ix (ha : PM X Wx a ma) (hb : PM X Wx b mb) (hs : PlainIx b := by intro _ _; rfl) : PM X Wx (.Subscript a b pos) (mBin idxD ma mb) :=
  PE.imp (pe_ix ixM ha hb hs) fun σ H Q h => mBin_imp calm_idx h
end
/-! ### fields of instances -/
structure FldOk (K : PySem.W.Frag) (c : Cl) (i : Nat) (f : Str) : Prop where
  at_ : c.fl[i]? = some f
  nd : c.fl.Nodup
  cl : Cls K (cAd K c)
  na : NoAttr K (cAd K c) f
/-- the class and the fields of an instance -/
def insOf (W : Wo) : D → Option (Cl × List D)
  | .obj c fs => some (c, fs)
  | .cell j => match W[j]? with
    | some (.ins c fs) => some (c, fs)
    | _ => none
  | _ => none
theorem ins_at {K : PySem.W.Frag} {μ : Lo} {H : Hp} {W : Wo} {v : V} {d : D} {c : Cl} {fs : List D} (S : RepS K μ H W) (r : Rep K μ H v d) (e : insOf W d = some (c, fs)) :
    ∃ a dx vs, v = .ref a ∧ H a = some (.ins (cAd K c) dx (c.fl.zip vs)) ∧ fs.length ≤ c.fl.length ∧ Reps K μ H vs fs := by
  cases d with
  | obj c' fs' =>
    obtain ⟨a, dx, vs, ev, h, _, l, rs⟩ := r
    have e' : some (c', fs') = some (c, fs) := e
    cases e'
    exact ⟨a, dx, vs, ev, h, l, rs⟩
  | cell j =>
    obtain ⟨a, ev, m⟩ := r
    have e' : (match W[j]? with
      | some (.ins c fs) => some (c, fs)
      | _ => none) = some (c, fs) := e
    split at e'
    · rename_i c' fs' hy
      cases e'
      obtain ⟨dx, vs, h, l, rs⟩ := S.at_ j a _ m hy
      exact ⟨a, dx, vs, ev, h, l, rs⟩
    · cases e'
  | _ => cases e
theorem zip_lookup {f : Str} : ∀ {fl : List Str} {vs : List V} {i : Nat} {v : V}, fl.Nodup → fl[i]? = some f → vs[i]? = some v → (fl.zip vs).lookup f = some v
  | [], _, _, _, _, h, _ => by simp at h
  | g :: fl, [], _, _, _, _, h => by simp at h
  | g :: fl, u :: vs, 0, v, nd, h1, h2 => by
    simp at h1 h2
    subst h1 h2
    rw [List.zip_cons_cons, List.lookup_cons, beq_self_eq_true]
  | g :: fl, u :: vs, i + 1, v, nd, h1, h2 => by
    have h1' : fl[i]? = some f := by simpa using h1
    have ne : f ≠ g := fun z => (List.nodup_cons.mp nd).1 (z ▸ List.mem_of_getElem? h1')
    rw [List.zip_cons_cons, List.lookup_cons, beq_eq_false_iff_ne.mpr ne]
    exact zip_lookup (i := i) (List.nodup_cons.mp nd).2 h1' (by simpa using h2)
def fldD (g : Cl → Option Nat) : D → Wo → Res D := fun d W => match insOf W d with
  | some (c, fs) => match g c with
    | some i => match fs[i]? with
      | some x => .ok x W
      | none => .bad
    | none => .bad
  | none => .bad
section
variable {X : Cx} {Wx : WX} {a b : Expr} {pos : Pos} {ma mb : ME} {f : Str}
theorem pm_fld {g : Cl → Option Nat} (hg : ∀ c i, g c = some i → FldOk X.K c i f) (ha : PM X Wx a ma) (hb : attributeBase a f X.env (eval a X.env) = eval a X.env := by rfl) : PM X Wx (.Attribute a f pos) (mUn (fldD g) ma) :=
  PE.imp (pe_fld ha hb) fun σ H Q h => tM.bind h fun μ δ x H1 μ1 W1 d x1 S1 E1 r1 p => by
    unfold fldD at p
    split at p
    · rename_i c fs hi
      obtain ⟨q, dx, vs, rfl, hq, l, rs⟩ := ins_at S1 r1 hi
      split at p
      · rename_i i hgi
        split at p
        · rename_i y hy
          obtain ⟨v, ev, rv⟩ := rs.get hy
          have k := hg c i hgi
          exact ⟨q, cAd X.K c, dx, _, v, rfl, hq, k.cl, k.na, zip_lookup k.nd k.at_ ev, Pst.val S1 p rv⟩
        · exact p.elim
      · exact p.elim
    · exact p.elim
end
/-! ### calls -/
/-! ### room where no repr is under way, a def's run there -/
structure Room (k : Nat) (A : Around) : Prop where
  r : L2.Room k A
  g : A.guards = some []
section
variable {j k : Nat} {A : Around}
theorem Room.mono (r : Room k A) (h : j ≤ k) : Room j A := ⟨r.r.mono h, r.g⟩
theorem Room.hd (r : Room k A) : A.handled = none := r.r.hd
theorem Room.dp (r : Room k A) : A.depth + 3 * k + 5 < recursionLimit := r.r.dp
theorem Room.un (r : Room k A) : A.units + 16 * k + 200 < cLine := r.r.un
theorem Room.depth (r : Room k A) : A.depth < recursionLimit := r.r.depth
theorem Room.units (r : Room k A) : A.units + 64 < cLine := r.r.units
theorem Room.units0 (r : Room k A) : A.units < cLine := r.r.units0
theorem Room.deeper (r : Room (k + 1) A) (env : PySem.Env) : Room k (A.deeper env) := ⟨r.r.deeper env, r.g⟩
theorem Room.in1 (r : Room (k + 1) A) : Room k A.in1 := ⟨r.r.in1, r.g⟩
theorem make_guards {C : Addr} {us : List Value} {kw : List (Str × Value)} : (A.under (.builtin "type.__call__" ⟨.ref C :: us, kw⟩)).guards = A.guards := by
  cases q : A.guards <;> simp [Around.under, Code.guards, Code.isGuard, guardIds, pushGuards, q]
theorem Room.make (r : Room (k + 1) A) (C : Addr) (us : List Value) (kw : List (Str × Value)) : Room k (A.under (.builtin "type.__call__" ⟨.ref C :: us, kw⟩)) := ⟨r.r.make C us kw, make_guards.trans r.g⟩
end
structure FnOk (P : Program) (w : World) (K : PySem.W.Frag) (mg : Str → Option Value) (base : Heap) (CX : CXT) (k : Nat) (f : Addr) (fd : FuncData) (ps : List Str) (sp : Sp) : Prop where
  len : ∀ (vs : List V) (H : Hp) (Q : VK) (E : XK), sp vs H Q E → vs.length = ps.length
  run : ∀ (A : Around) (outer : List PySem.Env) (s : Shared) (H : Hp) (args : Args) (us : List Value) (vs : List V) (Q : VK) (E : XK), Room k A → Env0 P w K mg base A outer s H → BindsTo s fd args (ps.zip us) → Vals vs us → sp vs H Q E → codeAny (model P w) A (.call (.ref f) args) (CR CX outer P w H s Q E) s
section
variable {P : Program} {w : World} {K : PySem.W.Frag} {mg : Str → Option Value} {base : Heap} {CX : CXT} {j k : Nat} {f : Addr} {fd : FuncData} {ps N : List Str} {sp : Sp}
theorem FnOk.mono (F : FnOk P w K mg base CX j f fd ps sp) (h : j ≤ k) : FnOk P w K mg base CX k f fd ps sp := ⟨F.len, fun A outer s H args us vs Q E hr => F.run A outer s H args us vs Q E (hr.mono h)⟩
theorem okM {x qual : Str} {params : Arguments} {body : List Stmt} {scope : Scope} {dvs : List V} {kws : List (Str × V)} (F : FunD K x qual params body scope dvs kws f fd) (S : FnScope N ps scope) (len : ∀ (vs : List V) (H : Hp) (Q : VK) (E : XK), sp vs H Q E → vs.length = ps.length)
    (hbody : ∀ (cdv : Value) (A : Around) (outer : List PySem.Env) (s : Shared) (H : Hp) (vs : List V) (Q : VK) (E : XK), Room k (A.deeper (envOfC qual scope s.heap.objs.size f cdv)) → sp vs H Q E →
      ∃ t, PSs (cxOf CX P w K mg base N qual scope f cdv A outer s H E) body t ∧ t { nx := fun _ H' => Q .non H', rt := Q } (L2.start N vs) H) : FnOk P w K mg base CX (k + 1) f fd ps sp := by
  obtain ⟨oc, od, dV, kV, doc, pm, an, cdv, ct, osl, rfl, lk, hcd, _⟩ := F.ex
  exact ⟨len, fun A outer s H args us vs Q E hr e0 hb r h => LamX.run_ofS lk hcd S hr.r e0 hb r (len vs H Q E h) fun hr' => hbody cdv A outer s H vs Q E ⟨hr', hr.g⟩ h⟩
end
section
variable {X : Cx} {CX : CXT} {k : Nat} {f : Addr} {fd : FuncData} {ps : List Str} {sp : Sp} {dvs : List V} {ds : List Value} {E : L2.St → XK}
theorem run_fnM {pins : List (Addr × Obj)} {σ : L2.St} {H : Hp} {s : Shared} {Q : VK} {us : List Value} {vs : List V} (F : FnOk X.prog X.w X.K X.mg X.base CX k f fd ps sp) (hr : Room k X.A) (hb : Binds X.K fd ps ds) (hd : Vals dvs ds)
    (hx : PassesAt CX X σ (E σ)) (I : Inv X pins σ H s) (r : Vals vs us) (h : sp (vs ++ dvs) H Q (E σ)) : wpAny (model X.prog X.w) X.A (call (.ref f) us) (EP X pins σ Q) X.xe s := by
  have ra : Vals (vs ++ dvs) (us ++ ds) := r.append hd
  have ln : (us ++ ds).length = ps.length := ra.length.symm.trans (F.len _ _ _ _ h)
  have go := F.run X.A X.stack s H ⟨us, []⟩ (us ++ ds) (vs ++ dvs) Q (E σ) hr I.env0 (hb s us I.kIn ln) ra h
  refine wpAny_call (codeAny_mono go fun z s' hz => ?_)
  match z, hz with
  | .error e, hz => exact hx pins H s e s' I hz
  | .ok (.ret u), hz => exact I.after hz
  | .ok .next, hz => exact False.elim hz
  | .ok .brk, hz => exact False.elim hz
  | .ok .cont, hz => exact False.elim hz
end
/-! ### calls, by mirrors -/
def spM (K : PySem.W.Frag) (m : MF) : Sp := fun vs H Q E => ∃ μ W ds, RepS K μ H W ∧ Reps K μ H vs ds ∧ Pst K (RD K) μ H Q E (m ds W)
/-- the promise of a def of n parameters -/
def spN (K : PySem.W.Frag) (n : Nat) (m : MF) : Sp := fun vs H Q E => vs.length = n ∧ spM K m vs H Q E
def CallsM (X : Cx) (Wx : WX) (f : Value) (n : Nat) (m : MF) : Prop := ∀ (pins : List (Addr × Obj)) (s : Shared) (σ : L2.St) (H : Hp) (vs : List V) (us : List Value) (Q : VK), Inv X pins σ H s → Vals vs us → vs.length = n →
  spM X.K m vs H Q (fun c d H' => Wx c d σ H') → wpAny (model X.prog X.w) X.A (call f us) (EP X pins σ Q) X.xe s
/-- the def at f (called with n arguments) does m -/
structure FnM (P : Program) (w : World) (K : PySem.W.Frag) (mg : Str → Option Value) (base : Heap) (k : Nat) (f : Addr) (n : Nat) (m : MF) : Prop where
  kp : PySem.W.keepIn K (.ref f) = true
  ex : ∃ (fd : FuncData) (ps : List Str) (ds : List Value) (dvs : List V) (sp : Sp), FnOk P w K mg base (L2.CX P w) k f fd ps sp ∧ Binds K fd ps ds ∧ Vals dvs ds ∧ ∀ vs H Q E, spN K n m vs H Q E → sp (vs ++ dvs) H Q E
theorem FnM.calls {X : Cx} {Wx : WX} {k n : Nat} {f : Addr} {m : MF} (F : FnM X.prog X.w X.K X.mg X.base k f n m) (hr : Room k X.A) (tk : Takes X Wx) : CallsM X Wx (.ref f) n m := fun pins s σ H vs us Q I r l h => by
  obtain ⟨fd, ps, ds, dvs, sp, G, hb, hd, imp⟩ := F.ex
  exact run_fnM (E := fun σ => WE Wx σ) G hr hb hd (passAt tk σ) I r (imp vs H Q _ ⟨l, h⟩)
/-- .. as a global name -/
def GlM (P : Program) (w : World) (K : PySem.W.Frag) (mg : Str → Option Value) (base : Heap) (k : Nat) (x : Str) (n : Nat) (m : MF) : Prop := ∃ f, mg x = some (.ref f) ∧ FnM P w K mg base k f n m
def mCall (m : MF) (r : MA) : ME := fun δ W => (r δ W).bind m
section
variable {X : Cx} {Wx : WX} {x : Str} {p pos : Pos} {e : Expr} {es : List Expr} {m : MF} {r : MA} {k n : Nat}
theorem pm_call (G : GlM X.prog X.w X.K X.mg X.base k x (e :: es).length m) (hr : Room k X.A) (tk : Takes X Wx) (ha : PMA X Wx (e :: es) r) (hg : Gl X x := by rfl)
    (hdb : (x == ("__debug__" : Str)) = false := by decide) (he : starEach (e :: es) X.env = (false, eval e X.env) :: starEach es X.env := by rfl) (hpl : (backTo pos (starEach es X.env)).any (·.1) = false := by rfl) :
    PM X Wx (.Call (.Name x p) (e :: es) [] pos) (mCall m r) := by
  obtain ⟨f, hm, F⟩ := G
  refine ⟨fun pins s σ H Q I h => ?_⟩
  refine wpAny_Call_Name_kw (ld_glob I hg hm ?_ hdb)
  obtain ⟨μ, W, δ, S, E, q⟩ := h
  have q' : Pst X.K (RD X.K) μ H Q (fun c d H' => Wx c d σ H') ((r δ W).bind m) := q
  refine PySem.W.callWith_K (h₀ := X.base) I.ok.mod.kin F.kp (thn (ha.pa.run pos pins s σ H (fun vs H1 => vs.length = (e :: es).length ∧ spM X.K m vs H1 Q (fun c d H' => Wx c d σ H')) I ⟨μ, W, δ, S, E, ?_⟩) fun us s1 ⟨vs, H1, I1, r1, q1⟩ => ⟨I1.kIn, F.calls hr tk pins s1 σ H1 vs us Q I1 r1 q1.1 q1.2⟩) he hpl
  cases er : r δ W with
  | ok ds W1 =>
    rw [er] at q'
    exact fun vs μ1 H1 x1 S1 r1 => ⟨by rw [r1.length]; exact ha.len δ W ds W1 er, μ1, W1, ds, S1, r1, Pst.shift x1 q'⟩
  | ex c fs W1 =>
    rw [er] at q'
    exact q'
  | bad =>
    rw [er] at q'
    exact q'
end
end ML
set_option Elab.async false
set_option linter.all false
set_option maxRecDepth 100000
set_option maxHeartbeats 2000000
namespace ML
open PySem PySem.Spec PyProof.Rows L2

inductive SR where
  | nx (δ : Env) (W : Wo) | rt (d : D) (W : Wo) | bk (δ : Env) (W : Wo) | ct (δ : Env) (W : Wo) | ex (c : Cl) (fs : List D) (δ : Env) (W : Wo) | bad
abbrev MS := Env → Wo → SR
def PstS (K : PySem.W.Frag) (μ : Lo) (H : Hp) (D : Ends) (Wx : WX) : SR → Prop
  | .nx δ W => ∀ σ' μ' H', Ext μ H μ' H' → RepS K μ' H' W → RepE K μ' H' σ' δ → D.nx σ' H'
  | .rt d W => ∀ v μ' H', Ext μ H μ' H' → RepS K μ' H' W → Rep K μ' H' v d → D.rt v H'
  | .bk δ W => ∀ σ' μ' H', Ext μ H μ' H' → RepS K μ' H' W → RepE K μ' H' σ' δ → D.bk σ' H'
  | .ct δ W => ∀ σ' μ' H', Ext μ H μ' H' → RepS K μ' H' W → RepE K μ' H' σ' δ → D.ct σ' H'
  | .ex c fs δ W => ∀ cls dd σ' μ' H', Ext μ H μ' H' → RepS K μ' H' W → RepE K μ' H' σ' δ → RepX K μ' H' cls dd c fs → Wx cls dd σ' H'
  | .bad => False
def tS (K : PySem.W.Frag) (m : MS) (Wx : WX) : TS := fun D σ H => ∃ μ W δ, RepS K μ H W ∧ RepE K μ H σ δ ∧ PstS K μ H D Wx (m δ W)
def PMS (X : Cx) (Wx : WX) (st : Stmt) (m : MS) : Prop := PS X st (tS X.K m Wx)
def PMSs (X : Cx) (Wx : WX) (st : List Stmt) (m : MS) : Prop := PSs X st (tS X.K m Wx)
theorem PstS.shift {K : PySem.W.Frag} {μ μ' : Lo} {H H' : Hp} {D : Ends} {Wx : WX} {r : SR} (x : Ext μ H μ' H') (h : PstS K μ H D Wx r) : PstS K μ' H' D Wx r := by
  cases r with
  | nx δ W => exact fun σ' μ1 H1 x1 => h σ' μ1 H1 (x.trans x1)
  | rt d W => exact fun v μ1 H1 x1 => h v μ1 H1 (x.trans x1)
  | bk δ W => exact fun σ' μ1 H1 x1 => h σ' μ1 H1 (x.trans x1)
  | ct δ W => exact fun σ' μ1 H1 x1 => h σ' μ1 H1 (x.trans x1)
  | ex c fs δ W => exact fun cls dd σ' μ1 H1 x1 => h cls dd σ' μ1 H1 (x.trans x1)
  | bad => exact h
/-- an expression's result, then a statement's -/
def Res.toS {α : Type} (r : Res α) (δ : Env) (f : α → Wo → SR) : SR := match r with
  | .ok a W => f a W
  | .ex c fs W => .ex c fs δ W
  | .bad => .bad
section
variable {K : PySem.W.Frag} {α β : Type} {R : Lo → Hp → β → α → Prop} {Wx : WX}
theorem tS.bind {m : Env → Wo → Res α} {f : α → Env → Wo → SR} {σ : L2.St} {H : Hp} {D : Ends} {P : β → Hp → Prop} (h : tS K (fun δ W => (m δ W).toS δ fun a W1 => f a δ W1) Wx D σ H)
    (k : ∀ μ δ b H1 μ1 W1 a, Ext μ H μ1 H1 → RepS K μ1 H1 W1 → RepE K μ1 H1 σ δ → R μ1 H1 b a → PstS K μ1 H1 D Wx (f a δ W1) → P b H1) : tM K R m Wx σ H P := by
  obtain ⟨μ, W, δ, S, E, p⟩ := h
  refine ⟨μ, W, δ, S, E, ?_⟩
  have p' : PstS K μ H D Wx ((m δ W).toS δ fun a W1 => f a δ W1) := p
  cases e : m δ W with
  | ok a W1 =>
    rw [e] at p'
    exact fun b μ1 H1 x1 S1 r1 => k μ δ b H1 μ1 W1 a x1 S1 (E.ext x1) r1 (PstS.shift x1 p')
  | ex c fs W1 =>
    rw [e] at p'
    exact fun cls dd μ1 H1 x1 S1 r1 => p' cls dd σ μ1 H1 x1 S1 (E.ext x1) r1
  | bad =>
    rw [e] at p'
    exact p'
theorem PstS.goes {μ : Lo} {H : Hp} {W : Wo} {δ : Env} {σ : L2.St} {D : Ends} (S : RepS K μ H W) (E : RepE K μ H σ δ) (p : PstS K μ H D Wx (.nx δ W)) : D.nx σ H := p σ μ H (Ext.refl _ _) S E
theorem RepE.set {μ : Lo} {H : Hp} {δ : Env} {σ : L2.St} {v : V} {d : D} (E : RepE K μ H σ δ) (r : Rep K μ H v d) (i : Nat) : RepE K μ H (σ.set i (some v)) (δ.set i (some d)) := by
  refine ⟨by rw [List.length_set, List.length_set, E.len], fun j e h => ?_⟩
  by_cases hj : i = j
  · subst hj
    by_cases hl : i < δ.length
    · rw [List.getElem?_set_self hl] at h
      have h' : d = e := Option.some.inj (Option.some.inj h)
      subst h'
      exact ⟨v, List.getElem?_set_self (E.len ▸ hl), r⟩
    · rw [List.getElem?_eq_none (by rw [List.length_set]; omega)] at h
      cases h
  · rw [List.getElem?_set_ne hj] at h ⊢
    exact E.at_ j e h
theorem RepE.unset {μ : Lo} {H : Hp} {δ : Env} {σ : L2.St} (E : RepE K μ H σ δ) (i : Nat) : RepE K μ H (σ.set i none) (δ.set i none) := by
  refine ⟨by rw [List.length_set, List.length_set, E.len], fun j e h => ?_⟩
  by_cases hj : i = j
  · subst hj
    by_cases hl : i < δ.length
    · rw [List.getElem?_set_self hl] at h
      cases h
    · rw [List.getElem?_eq_none (by rw [List.length_set]; omega)] at h
      cases h
  · rw [List.getElem?_set_ne hj] at h ⊢
    exact E.at_ j e h
end
/-! ### blocks -/
def sNx : MS := fun δ W => .nx δ W
def sBad : MS := fun _ _ => .bad
def sSeq (m n : MS) : MS := fun δ W => match m δ W with
  | .nx δ1 W1 => n δ1 W1
  | r => r
def sSet (i : Nat) (m : ME) : MS := fun δ W => (m δ W).toS δ fun d W1 => .nx (δ.set i (some d)) W1
def sEx (m : ME) : MS := fun δ W => (m δ W).toS δ fun _ W1 => .nx δ W1
def sRt (m : ME) : MS := fun δ W => (m δ W).toS δ fun d W1 => .rt d W1
def sRtN : MS := fun _ W => .rt .non W
def sIf (t : MT) (m n : MS) : MS := fun δ W => (t δ W).toS δ fun k W1 => if k then m δ W1 else n δ W1
def sBk : MS := fun δ W => .bk δ W
def sCt : MS := fun δ W => .ct δ W
section
variable {X : Cx} {Wx : WX} {st : Stmt} {rest a b : List Stmt} {e c : Expr} {pos : Pos} {m n : MS} {me : ME} {mt : MT}
theorem pms_bad : PMS X Wx st sBad := ⟨fun _ _ _ _ _ _ ⟨_, _, _, _, _, h⟩ => h.elim⟩
theorem pmss_bad : PMSs X Wx rest sBad := ⟨fun _ _ _ _ _ _ ⟨_, _, _, _, _, h⟩ => h.elim⟩
theorem pmss_nil : PMSs X Wx [] sNx := PSs.imp pss_nil fun D σ H ⟨μ, W, δ, S, E, p⟩ => PstS.goes S E p
theorem pmss_one (h : PMS X Wx st m) : PMSs X Wx [st] m := pss_one h
theorem sSeq_imp {K : PySem.W.Frag} {D : Ends} {σ : L2.St} {H : Hp} (h : tS K (sSeq m n) Wx D σ H) : tS K m Wx { D with nx := tS K n Wx D } σ H := by
  obtain ⟨μ, W, δ, S, E, p⟩ := h
  refine ⟨μ, W, δ, S, E, ?_⟩
  unfold sSeq at p
  cases q : m δ W with
  | nx δ1 W1 =>
    rw [q] at p
    exact fun σ' μ' H' x S' E' => ⟨μ', W1, δ1, S', E', PstS.shift x p⟩
  | rt d W1 => rw [q] at p; exact p
  | bk δ1 W1 => rw [q] at p; exact p
  | ct δ1 W1 => rw [q] at p; exact p
  | ex c fs δ1 W1 => rw [q] at p; exact p
  | bad => rw [q] at p; exact p
theorem pmss_cons (h1 : PMS X Wx st m) (h2 : PMSs X Wx rest n) : PMSs X Wx (st :: rest) (sSeq m n) := PSs.imp (pss_cons h1 h2) fun D σ H h => sSeq_imp h
theorem pms_pass : PMS X Wx (.Pass pos) sNx := PS.imp ps_pass fun D σ H ⟨μ, W, δ, S, E, p⟩ => PstS.goes S E p
theorem pms_break : PMS X Wx (.Break pos) sBk := PS.imp ps_break fun D σ H ⟨μ, W, δ, S, E, p⟩ => p σ μ H (Ext.refl _ _) S E
theorem pms_continue : PMS X Wx (.Continue pos) sCt := PS.imp ps_continue fun D σ H ⟨μ, W, δ, S, E, p⟩ => p σ μ H (Ext.refl _ _) S E
theorem pms_expr (h : PM X Wx e me) (hs : swapsWith e none pos.line X.env = pure false := by rfl) : PMS X Wx (.Expr e pos) (sEx me) := PS.imp (ps_expr h hs) fun D σ H h => tS.bind h fun μ δ b H1 μ1 W1 d x1 S1 E1 r1 p => PstS.goes S1 E1 p
theorem pms_ret (h : PM X Wx e me) : PMS X Wx (.Return (some e) pos) (sRt me) := PS.imp (ps_ret h) fun D σ H h => tS.bind h fun μ δ b H1 μ1 W1 d x1 S1 E1 r1 p => p b μ1 H1 (Ext.refl _ _) S1 r1
theorem pms_retN : PMS X Wx (.Return none pos) sRtN := PS.imp ps_retN fun D σ H ⟨μ, W, δ, S, E, p⟩ => p .non μ H (Ext.refl _ _) S rfl
theorem pms_set (i : Nat) {x : Str} {pos' : Pos} (hN : X.N.Nodup) (he : PM X Wx e me) (hi : X.N[i]? = some x := by rfl) (hx : Loc X.env.scope x := by first | exact Or.inl rfl | exact Or.inr rfl) (hs : swapsWith e (some (.Name x pos')) pos.line X.env = pure false := by rfl)
    (hf : X.fn x = true ∨ X.env.scope.names.lookup x = some .local := by first | exact .inl rfl | exact .inr rfl) : PMS X Wx (.Assign [.Name x pos'] e pos) (sSet i me) :=
  PS.imp (ps_set hN hi hx he hs hf) fun D σ H h => tS.bind h fun μ δ b H1 μ1 W1 d x1 S1 E1 r1 p => PstS.goes S1 (E1.set r1 i) p
theorem pms_if (hc : PMT X Wx c mt) (ha : PMSs X Wx a m) (hb : PMSs X Wx b n) : PMS X Wx (.If c a b pos) (sIf mt m n) := PS.imp (ps_if hc ha hb) fun D σ H h => tS.bind h fun μ δ k H1 μ1 W1 k' x1 S1 E1 r1 p => by
  have e : k = k' := r1
  subst e
  cases k with
  | true => exact ⟨μ1, W1, δ, S1, E1, p⟩
  | false => exact ⟨μ1, W1, δ, S1, E1, p⟩
end
/-! ### a def -/
def mRun (nN nP : Nat) (m : MS) : MF := fun ds W => match m (ds.map some ++ List.replicate (nN - nP) none) W with
  | .nx _ W1 => .ok .non W1
  | .rt d W1 => .ok d W1
  | .ex c fs _ W1 => .ex c fs W1
  | _ => .bad
theorem RepE.args {K : PySem.W.Frag} {μ : Lo} {H : Hp} {vs : List V} {ds : List D} (r : Reps K μ H vs ds) (n : Nat) : RepE K μ H (vs.map some ++ List.replicate n none) (ds.map some ++ List.replicate n none) := by
  refine ⟨by simp [r.length], fun i d h => ?_⟩
  by_cases hi : i < ds.length
  · rw [List.getElem?_append_left (by rw [List.length_map]; exact hi), List.getElem?_map] at h
    cases e : ds[i]? with
    | none => rw [e] at h; cases h
    | some d' =>
      rw [e] at h
      have h' : d' = d := Option.some.inj (Option.some.inj h)
      subst h'
      obtain ⟨v, ev, rv⟩ := r.get e
      exact ⟨v, by rw [List.getElem?_append_left (by rw [List.length_map, r.length]; exact hi), List.getElem?_map, ev]; rfl, rv⟩
  · rw [List.getElem?_append_right (by rw [List.length_map]; omega)] at h
    rw [List.getElem?_replicate] at h
    split at h
    · cases h
    · cases h
section
variable {P : Program} {w : World} {K : PySem.W.Frag} {mg : Str → Option Value} {base : Heap} {x qual : Str} {params : Arguments} {body : List Stmt} {scope : Scope} {dvs : List V} {kws : List (Str × V)} {f : Addr} {fd : FuncData}
abbrev defX (P : Program) (w : World) (K : PySem.W.Frag) (mg : Str → Option Value) (base : Heap) (N : List Str) (qual : Str) (scope : Scope) (f : Addr) (cdv : Value) (A : Around) (outer : List PySem.Env) (s : Shared) (H : Hp) (E : XK) : Cx :=
  cxOf (L2.CX P w) P w K mg base N qual scope f cdv A outer s H E
theorem fn_M {N ps : List Str} {k : Nat} {m : MS} (F : FunD K x qual params body scope dvs kws f fd) (S : FnScope N ps scope)
    (hbody : ∀ (cdv : Value) (A : Around) (outer : List PySem.Env) (s : Shared) (H : Hp) (E : XK), Room k (A.deeper (envOfC qual scope s.heap.objs.size f cdv)) → Takes (defX P w K mg base N qual scope f cdv A outer s H E) (fun c d _ H' => E c d H') →
      PMSs (defX P w K mg base N qual scope f cdv A outer s H E) (fun c d _ H' => E c d H') body m) : FnOk P w K mg base (L2.CX P w) (k + 1) f fd ps (spN K ps.length (mRun N.length ps.length m)) := by
  refine okM F S (fun vs H Q E h => h.1) fun cdv A outer s H vs Q E hr h => ⟨_, hbody cdv A outer s H E hr (takes_of rfl rfl rfl rfl), ?_⟩
  obtain ⟨hl, μ, W, ds, S1, r, p⟩ := h
  have hlen : (L2.start N vs) = vs.map some ++ List.replicate (N.length - ps.length) none := by
    unfold L2.start
    rw [hl]
  rw [hlen]
  refine ⟨μ, W, _, S1, RepE.args r _, ?_⟩
  unfold mRun at p
  cases q : m (ds.map some ++ List.replicate (N.length - ps.length) none) W with
  | nx δ1 W1 =>
    rw [q] at p
    exact fun σ' μ' H' x1 S' _ => p .non μ' H' x1 S' rfl
  | rt d W1 =>
    rw [q] at p
    exact p
  | bk δ1 W1 => rw [q] at p; exact p.elim
  | ct δ1 W1 => rw [q] at p; exact p.elim
  | ex c fs δ1 W1 =>
    rw [q] at p
    exact fun cls dd σ' μ' H' x1 S' _ rx => p cls dd μ' H' x1 S' rx
  | bad => rw [q] at p; exact p.elim
end
end ML
set_option Elab.async false
set_option linter.all false
set_option maxRecDepth 100000
set_option maxHeartbeats 2000000
namespace ML
open PySem PySem.Spec PyProof.Rows L2

def NoX : XW := fun _ _ _ => False
/-- a built-in that raises nothing here -/
def BI (X : Cx) (u : Value) (m : MF) : Prop := CallR X u fun vs H Q => spM X.K m vs H Q NoX
def CalmF (m : MF) : Prop := ∀ ds W, Calm (m ds W)
section
variable {X : Cx} {Wx : WX} {x : Str} {p pos : Pos} {e : Expr} {es : List Expr} {m : MF} {r : MA} {id : String}
theorem mCall_imp {K : PySem.W.Frag} {σ : L2.St} {H : Hp} {Q : VK} (hc : CalmF m) (h : tM K (RD K) (mCall m r) Wx σ H Q) : tCB (fun vs H Q => spM K m vs H Q NoX) (tM K (RL K) r Wx) σ H Q :=
  tM.bind h fun μ δ vs H1 μ1 W1 ds x1 S1 E1 r1 p => ⟨μ1, W1, ds, S1, r1, p.calm (hc ds W1)⟩
theorem pm_callB (hc : BI X (.builtin id) m) (hm : X.mg x = none) (cl : CalmF m) (ha : PMA X Wx (e :: es) r) (hg : Gl X x := by rfl) (hv : bootBuiltins x = some (.builtin id) := by decide +kernel) (hn : x ≠ "__name__" := by decide) (hdb : (x == ("__debug__" : Str)) = false := by decide)
    (he : starEach (e :: es) X.env = (false, eval e X.env) :: starEach es X.env := by rfl) (hpl : (backTo pos (starEach es X.env)).any (·.1) = false := by rfl) : PM X Wx (.Call (.Name x p) (e :: es) [] pos) (mCall m r) :=
  PE.imp (pe_callB hc hg hm hv ha.pa hn hdb he hpl) fun σ H Q h => mCall_imp cl h
theorem pm_callTy (hc : BI X (.type id) m) (hm : X.mg x = none) (cl : CalmF m) (ha : PMA X Wx (e :: es) r) (hg : Gl X x := by rfl) (hv : bootBuiltins x = some (.type id) := by decide +kernel) (hn : x ≠ "__name__" := by decide) (hdb : (x == ("__debug__" : Str)) = false := by decide)
    (he : starEach (e :: es) X.env = (false, eval e X.env) :: starEach es X.env := by rfl) (hpl : (backTo pos (starEach es X.env)).any (·.1) = false := by rfl) : PM X Wx (.Call (.Name x p) (e :: es) [] pos) (mCall m r) :=
  PE.imp (pe_callTy hc hg hm hv ha.pa hn hdb he hpl) fun σ H Q h => mCall_imp cl h
end
/-! ### len, abs, max, min, int, str, sum, all -/
theorem reps1 {K : PySem.W.Frag} {μ : Lo} {H : Hp} {vs : List V} {d : D} (h : Reps K μ H vs [d]) : ∃ v, vs = [v] ∧ Rep K μ H v d := by
  obtain ⟨v, r, e, h1, h2⟩ := h
  have e2 : r = [] := h2
  subst e2
  exact ⟨v, e, h1⟩
theorem reps2 {K : PySem.W.Frag} {μ : Lo} {H : Hp} {vs : List V} {d d' : D} (h : Reps K μ H vs [d, d']) : ∃ v u, vs = [v, u] ∧ Rep K μ H v d ∧ Rep K μ H u d' := by
  obtain ⟨v, r, e, h1, h2⟩ := h
  obtain ⟨u, rfl, h3⟩ := reps1 h2
  exact ⟨v, u, e, h1, h3⟩
def lenD : MF := fun ds W => match ds with
  | [.str x] => if x.length ≤ sizeLine then .ok (.int x.length) W else .bad
  | [.tup xs] => .ok (.int xs.length) W
  | [d] => match sqlOf W d with
    | some xs => .ok (.int xs.length) W
    | none => .bad
  | _ => .bad
def absD : MF := fun ds W => match ds with
  | [.int i] => .ok (.int (if i < 0 then -i else i)) W
  | _ => .bad
def max2D : MF := fun ds W => match ds with
  | [.int i, .int j] => .ok (.int (if j > i then j else i)) W
  | _ => .bad
def min2D : MF := fun ds W => match ds with
  | [.int i, .int j] => .ok (.int (if j < i then j else i)) W
  | _ => .bad
def intD : MF := fun ds W => match ds with
  | [.int i] => .ok (.int i) W
  | [.bl k] => .ok (.int (if k then 1 else 0)) W
  | _ => .bad
def strD : MF := fun ds W => match ds with
  | [.int i] => if i.natAbs.log2 < 1920 then .ok (.str (toString i)) W else .bad
  | _ => .bad
def intsOf : List D → Option (List Int)
  | [] => some []
  | .int i :: r => match intsOf r with
    | some l => some (i :: l)
    | none => none
  | _ :: _ => none
def blsOf : List D → Option (List Bool)
  | [] => some []
  | .bl i :: r => match blsOf r with
    | some l => some (i :: l)
    | none => none
  | _ :: _ => none
def sumD : MF := fun ds W => match ds with
  | [d] => match sqlOf W d with
    | some xs => match intsOf xs with
      | some ns => .ok (.int ns.sum) W
      | none => .bad
    | none => .bad
  | _ => .bad
def allD : MF := fun ds W => match ds with
  | [d] => match sqlOf W d with
    | some xs => match blsOf xs with
      | some bs => .ok (.bl (bs.all id)) W
      | none => .bad
    | none => .bad
  | _ => .bad
/-- list(x): a new list that will not change -/
def listD : MF := fun ds W => match ds with
  | [.tup xs] => .ok (.lst xs) W
  | [d] => match sqlOf W d with
    | some xs => .ok (.lst xs) W
    | none => .bad
  | _ => .bad
def tupleD : MF := fun ds W => match ds with
  | [.tup xs] => .ok (.tup xs) W
  | [d] => match sqlOf W d with
    | some xs => .ok (.tup xs) W
    | none => .bad
  | _ => .bad
theorem calm_len : CalmF lenD := fun ds W => by
  unfold lenD
  split
  · exact .ite True.intro True.intro
  · exact True.intro
  · split <;> exact True.intro
  · exact True.intro
theorem calm_abs : CalmF absD := fun ds W => by unfold absD; split <;> exact True.intro
theorem calm_max2 : CalmF max2D := fun ds W => by unfold max2D; split <;> exact True.intro
theorem calm_min2 : CalmF min2D := fun ds W => by unfold min2D; split <;> exact True.intro
theorem calm_int : CalmF intD := fun ds W => by unfold intD; split <;> exact True.intro
theorem calm_str : CalmF strD := fun ds W => by
  unfold strD
  split
  · exact .ite True.intro True.intro
  · exact True.intro
theorem calm_sum : CalmF sumD := fun ds W => by
  unfold sumD
  split
  · split
    · split <;> exact True.intro
    · exact True.intro
  · exact True.intro
theorem calm_all : CalmF allD := fun ds W => by
  unfold allD
  split
  · split
    · split <;> exact True.intro
    · exact True.intro
  · exact True.intro
theorem calm_list : CalmF listD := fun ds W => by
  unfold listD
  split
  · exact True.intro
  · split <;> exact True.intro
  · exact True.intro
theorem calm_tuple : CalmF tupleD := fun ds W => by
  unfold tupleD
  split
  · exact True.intro
  · split <;> exact True.intro
  · exact True.intro
section
variable {K : PySem.W.Frag} {μ : Lo} {H : Hp}
theorem ints_rep : ∀ {xs : List D} {vs : List V} {ns : List Int}, Reps K μ H vs xs → intsOf xs = some ns → vs = ns.map V.int
  | [], _, _, r, e => by
    cases e
    exact r
  | .int i :: xs, _, _, r, e => by
    obtain ⟨v, vs, rfl, r1, r2⟩ := r
    unfold intsOf at e
    split at e
    · rename_i l hl
      cases e
      cases r1
      rw [ints_rep r2 hl]
      rfl
    · cases e
  | .non :: _, _, _, _, e => by cases e
  | .bl _ :: _, _, _, _, e => by cases e
  | .str _ :: _, _, _, _, e => by cases e
  | .tup _ :: _, _, _, _, e => by cases e
  | .lst _ :: _, _, _, _, e => by cases e
  | .obj _ _ :: _, _, _, _, e => by cases e
  | .cell _ :: _, _, _, _, e => by cases e
  | .raw _ :: _, _, _, _, e => by cases e
  | .scr _ :: _, _, _, _, e => by cases e
  | .exo _ _ _ _ :: _, _, _, _, e => by cases e
theorem bls_rep : ∀ {xs : List D} {vs : List V} {ns : List Bool}, Reps K μ H vs xs → blsOf xs = some ns → vs = ns.map V.bl
  | [], _, _, r, e => by
    cases e
    exact r
  | .bl i :: xs, _, _, r, e => by
    obtain ⟨v, vs, rfl, r1, r2⟩ := r
    unfold blsOf at e
    split at e
    · rename_i l hl
      cases e
      cases r1
      rw [bls_rep r2 hl]
      rfl
    · cases e
  | .non :: _, _, _, _, e => by cases e
  | .int _ :: _, _, _, _, e => by cases e
  | .str _ :: _, _, _, _, e => by cases e
  | .tup _ :: _, _, _, _, e => by cases e
  | .lst _ :: _, _, _, _, e => by cases e
  | .obj _ _ :: _, _, _, _, e => by cases e
  | .cell _ :: _, _, _, _, e => by cases e
  | .raw _ :: _, _, _, _, e => by cases e
  | .scr _ :: _, _, _, _, e => by cases e
  | .exo _ _ _ _ :: _, _, _, _, e => by cases e
end
section
variable {X : Cx}
theorem bi_len : BI X (.builtin "len") lenD := fun pins s σ H vs us Q I r h => by
  obtain ⟨μ, W, ds, S, rs, p⟩ := h
  unfold lenD at p
  split at p
  · obtain ⟨hc, p⟩ := p.ite
    obtain ⟨v, rfl, r1⟩ := reps1 rs
    cases r1
    exact call_len_str pins s σ H _ us Q I r ⟨_, rfl, hc, Pst.val S p rfl⟩
  · obtain ⟨v, rfl, r1⟩ := reps1 rs
    obtain ⟨a, vs, rfl, ha, ra⟩ := r1
    exact call_len_seq pins s σ H _ us Q I r ⟨a, vs, rfl, .inr ha, by rw [ra.length]; exact Pst.val S p rfl⟩
  · split at p
    · rename_i xs hx
      obtain ⟨v, rfl, r1⟩ := reps1 rs
      obtain ⟨a, vs, rfl, ha, ra⟩ := sql_at S r1 hx
      exact call_len_seq pins s σ H _ us Q I r ⟨a, vs, rfl, .inl ha, by rw [ra.length]; exact Pst.val S p rfl⟩
    · exact p.elim
  · exact p.elim
theorem bi_abs : BI X (.builtin "abs") absD := fun pins s σ H vs us Q I r h => by
  obtain ⟨μ, W, ds, S, rs, p⟩ := h
  unfold absD at p
  split at p
  · obtain ⟨v, rfl, r1⟩ := reps1 rs
    cases r1
    exact call_abs pins s σ H _ us Q I r ⟨_, rfl, Pst.val S p rfl⟩
  · exact p.elim
theorem bi_max2 (hc : X.calm = true) : BI X (.builtin "max") max2D := fun pins s σ H vs us Q I r h => by
  obtain ⟨μ, W, ds, S, rs, p⟩ := h
  unfold max2D at p
  split at p
  · obtain ⟨v, u, rfl, r1, r2⟩ := reps2 rs
    cases r1; cases r2
    exact call_max2 hc pins s σ H _ us Q I r ⟨_, _, rfl, Pst.val S p rfl⟩
  · exact p.elim
theorem bi_min2 (hc : X.calm = true) : BI X (.builtin "min") min2D := fun pins s σ H vs us Q I r h => by
  obtain ⟨μ, W, ds, S, rs, p⟩ := h
  unfold min2D at p
  split at p
  · obtain ⟨v, u, rfl, r1, r2⟩ := reps2 rs
    cases r1; cases r2
    exact call_min2 hc pins s σ H _ us Q I r ⟨_, _, rfl, Pst.val S p rfl⟩
  · exact p.elim
theorem bi_int : BI X (.type "int") intD := fun pins s σ H vs us Q I r h => by
  obtain ⟨μ, W, ds, S, rs, p⟩ := h
  unfold intD at p
  split at p
  · obtain ⟨v, rfl, r1⟩ := reps1 rs
    cases r1
    exact call_int1 pins s σ H _ us Q I r (.inl ⟨_, rfl, Pst.val S p rfl⟩)
  · obtain ⟨v, rfl, r1⟩ := reps1 rs
    cases r1
    exact call_int1 pins s σ H _ us Q I r (.inr ⟨_, rfl, Pst.val S p rfl⟩)
  · exact p.elim
theorem bi_str : BI X (.type "str") strD := fun pins s σ H vs us Q I r h => by
  obtain ⟨μ, W, ds, S, rs, p⟩ := h
  unfold strD at p
  split at p
  · obtain ⟨hc, p⟩ := p.ite
    obtain ⟨v, rfl, r1⟩ := reps1 rs
    cases r1
    exact call_str_int pins s σ H _ us Q I r ⟨_, rfl, hc, Pst.val S p rfl⟩
  · exact p.elim
theorem bi_repr : BI X (.builtin "repr") strD := fun pins s σ H vs us Q I r h => by
  obtain ⟨μ, W, ds, S, rs, p⟩ := h
  unfold strD at p
  split at p
  · obtain ⟨hc, p⟩ := p.ite
    obtain ⟨v, rfl, r1⟩ := reps1 rs
    cases r1
    exact SkE.call_repr_int pins s σ H _ us Q I r ⟨_, rfl, hc, Pst.val S p rfl⟩
  · exact p.elim
theorem bi_sum (hc : X.calm = true) : BI X (.builtin "sum") sumD := fun pins s σ H vs us Q I r h => by
  obtain ⟨μ, W, ds, S, rs, p⟩ := h
  unfold sumD at p
  split at p
  · split at p
    · rename_i xs hx
      split at p
      · rename_i ns hn
        obtain ⟨v, rfl, r1⟩ := reps1 rs
        obtain ⟨a, vs, rfl, ha, ra⟩ := sql_at S r1 hx
        rw [ints_rep ra hn] at ha
        exact cr_sum hc pins s σ H _ us Q I r ⟨a, ns, rfl, ha, Pst.val S p rfl⟩
      · exact p.elim
    · exact p.elim
  · exact p.elim
theorem bi_all (hc : X.calm = true) : BI X (.builtin "all") allD := fun pins s σ H vs us Q I r h => by
  obtain ⟨μ, W, ds, S, rs, p⟩ := h
  unfold allD at p
  split at p
  · split at p
    · rename_i xs hx
      split at p
      · rename_i ns hn
        obtain ⟨v, rfl, r1⟩ := reps1 rs
        obtain ⟨a, vs, rfl, ha, ra⟩ := sql_at S r1 hx
        rw [bls_rep ra hn] at ha
        exact cr_all hc pins s σ H _ us Q I r ⟨a, ns, rfl, ha, Pst.val S p rfl⟩
      · exact p.elim
    · exact p.elim
  · exact p.elim
theorem bi_list : BI X (.type "list") listD := fun pins s σ H vs us Q I r h => by
  obtain ⟨μ, W, ds, S, rs, p⟩ := h
  unfold listD at p
  split at p
  · obtain ⟨v, rfl, r1⟩ := reps1 rs
    obtain ⟨a, vs, rfl, ha, ra⟩ := r1
    exact call_list_of pins s σ H _ us Q I r ⟨a, vs, rfl, .inr ha, Pst.newL S ra p⟩
  · split at p
    · rename_i xs hx
      obtain ⟨v, rfl, r1⟩ := reps1 rs
      obtain ⟨a, vs, rfl, ha, ra⟩ := sql_at S r1 hx
      exact call_list_of pins s σ H _ us Q I r ⟨a, vs, rfl, .inl ha, Pst.newL S ra p⟩
    · exact p.elim
  · exact p.elim
theorem bi_tuple : BI X (.type "tuple") tupleD := fun pins s σ H vs us Q I r h => by
  obtain ⟨μ, W, ds, S, rs, p⟩ := h
  unfold tupleD at p
  split at p
  · obtain ⟨v, rfl, r1⟩ := reps1 rs
    obtain ⟨a, vs, rfl, ha, ra⟩ := r1
    exact call_tuple_of pins s σ H _ us Q I r ⟨a, vs, rfl, .inr ⟨ha, Pst.val S p ⟨a, vs, rfl, ha, ra⟩⟩⟩
  · split at p
    · rename_i xs hx
      obtain ⟨v, rfl, r1⟩ := reps1 rs
      obtain ⟨a, vs, rfl, ha, ra⟩ := sql_at S r1 hx
      exact call_tuple_of pins s σ H _ us Q I r ⟨a, vs, rfl, .inl ⟨ha, Pst.newT S ra p⟩⟩
    · exact p.elim
  · exact p.elim
end
/-! ### isinstance -/
inductive Ty where
  | none | bool | int | str | tuple | list | dict
  deriving DecidableEq
def Ty.nm : Ty → String
  | .none => "NoneType" | .bool => "bool" | .int => "int" | .str => "str" | .tuple => "tuple" | .list => "list" | .dict => "dict"
inductive TyK where
  | b (t : Ty) | o (c : Cl)
def tyOf (W : Wo) : D → Option TyK
  | .non => some (.b .none)
  | .bl _ => some (.b .bool)
  | .int _ => some (.b .int)
  | .str _ => some (.b .str)
  | .tup _ => some (.b .tuple)
  | .lst _ => some (.b .list)
  | .obj c _ => some (.o c)
  | .cell j => match W[j]? with
    | some (.lst _) => some (.b .list)
    | some (.dct _) => some (.b .dict)
    | some (.ins c _) => some (.o c)
    | _ => none
  | .raw _ => none
  | .scr _ => none
  | .exo _ _ _ _ => none
def valT (K : PySem.W.Frag) : TyK → Value
  | .b t => .type t.nm
  | .o c => .ref (cAd K c)
/-- what an instance's type asks -/
structure IsiCl (K : PySem.W.Frag) (c : Cl) : Prop where
  cl : Cls K (cAd K c)
  ha : PySem.W.findIn K (.ref (cAd K c)) "__class__" = some (some (.builtin "object.__class__"))
  hn : PySem.W.specialIn K (.builtin "object.__class__") "__get__" = some (some (.builtin "getset_descriptor.__get__"))
  ht : PySem.W.takesIn K (.builtin "object.__class__") = some true
  ho : PySem.W.mroIn K (cAd K c) (Value.type "object") = some true
theorem tyX_of {K : PySem.W.Frag} {μ : Lo} {H : Hp} {W : Wo} {v : V} {d : D} {t : TyK} (S : RepS K μ H W) (r : Rep K μ H v d) (e : tyOf W d = some t) (hc : ∀ c, t = .o c → IsiCl K c) : TyX K H v (valT K t) := by
  cases d with
  | non => cases e; cases r; exact .base .non
  | bl b => cases e; cases r; exact .base (.bl b)
  | int b => cases e; cases r; exact .base (.int b)
  | str b => cases e; cases r; exact .base (.str b)
  | tup xs =>
    cases e
    obtain ⟨a, vs, rfl, h, _⟩ := r
    rcases h with (h | ⟨o, h⟩) | ⟨o, its, n, h, hcls, _⟩
    · exact .base (.tup h)
    · exact .fTuple h
    · exact .kTuple h hcls
  | lst xs =>
    cases e
    obtain ⟨a, vs, rfl, h, _⟩ := r
    exact .base (.lst h)
  | obj c fs =>
    cases e
    obtain ⟨a, dx, vs, rfl, h, _⟩ := r
    have k := hc c rfl
    exact .base (.ins h k.cl k.ha k.hn k.ht k.ho)
  | cell j =>
    obtain ⟨a, rfl, m⟩ := r
    have e' : (match W[j]? with
      | some (.lst _) => some (TyK.b .list)
      | some (.dct _) => some (.b .dict)
      | some (.ins c _) => some (.o c)
      | _ => none) = some t := e
    split at e'
    · rename_i xs hx
      cases e'
      obtain ⟨vs, h, _⟩ := S.at_ j a _ m hx
      exact .base (.lst h)
    · rename_i xs hx
      cases e'
      obtain ⟨vs, h, _⟩ := S.at_ j a _ m hx
      exact .base (.dK h)
    · rename_i c fs hx
      cases e'
      obtain ⟨dx, vs, h, _⟩ := S.at_ j a _ m hx
      have k := hc c rfl
      exact .base (.ins h k.cl k.ha k.hn k.ht k.ho)
    · cases e'
  | raw u => cases e
  | scr ns => cases e
  | exo _ _ _ _ => cases e
def isiD (g : TyK → Option Bool) : D → Wo → Res D := fun d W => match tyOf W d with
  | some t => match g t with
    | some b => .ok (.bl b) W
    | none => .bad
  | none => .bad
/-- the answers g for the class u -/
structure IsiOk (K : PySem.W.Frag) (u : Value) (g : TyK → Option Bool) : Prop where
  one : ∀ t b, g t = some b → PySem.W.kitOne K (valT K t) u = some b
  cl : ∀ c b, g (.o c) = some b → IsiCl K c
section
variable {X : Cx} {Wx : WX} {x y : Str} {p p2 pos : Pos} {e : Expr} {m : ME} {u : Value} {cv : V} {g : TyK → Option Bool}
/-- isinstance(e, C): the class by its name -/
theorem pm_isi (hcv : PE X (.Name y p2) (tC cv)) (hk : ClsV cv u) (G : IsiOk X.K u g) (hm : X.mg "isinstance" = none) (ha : PM X Wx e m) (hg : Gl X "isinstance" := by rfl)
    (he : starEach [e, .Name y p2] X.env = (false, eval e X.env) :: starEach [.Name y p2] X.env := by rfl) (he2 : starEach [.Name y p2] X.env = (false, eval (.Name y p2) X.env) :: starEach [] X.env := by rfl) (hpl : (backTo pos (starEach [.Name y p2] X.env)).any (·.1) = false := by rfl) :
    PM X Wx (.Call (.Name "isinstance" p) [e, .Name y p2] [] pos) (mUn (isiD g) m) :=
  PE.imp (pe_callB call_isi hg hm (by decide +kernel) (pa_cons ha (pa_cons hcv pa_nil he2) he) (by decide) (by decide) he hpl) fun σ H Q h => tM.bind h fun μ δ v H1 μ1 W1 d x1 S1 E1 r1 q => by
    unfold isiD at q
    split at q
    · rename_i t ht
      split at q
      · rename_i b hb
        exact ⟨v, cv, valT X.K t, u, b, rfl, hk, tyX_of S1 r1 ht (fun c ec => G.cl c b (ec ▸ hb)), G.one t b hb, Pst.val S1 q rfl⟩
      · exact q.elim
    · exact q.elim
end
end ML
set_option Elab.async false
set_option linter.all false
set_option maxRecDepth 100000
set_option maxHeartbeats 2000000
namespace ML
open PySem PySem.Spec PyProof.Rows L2

/-! ### targets -/
abbrev GM := D → Env → Option Env
def tG (K : PySem.W.Frag) (sl : List Nat) (g : GM) : TG := fun v σ H Q => ∃ μ W δ d δ', RepS K μ H W ∧ RepE K μ H σ δ ∧ Rep K μ H v d ∧ g d δ = some δ' ∧ ∀ σ', RepE K μ H σ' δ' → σ'.length = σ.length → (∀ j, j ∉ sl → σ'[j]? = σ[j]?) → Q σ' H
def PMG (X : Cx) (tg : Expr) (sl : List Nat) (g : GM) : Prop := PG X tg (tG X.K sl g)
theorem PG.imp {X : Cx} {e : Expr} {t t' : TG} (h : PG X e t) (i : ∀ v σ H Q, t' v σ H Q → t v σ H Q) : PG X e t' := ⟨fun pins s σ H v u Q I r q => h.run pins s σ H v u Q I r (i v σ H Q q)⟩
def gNm (i : Nat) : GM := fun d δ => some (δ.set i (some d))
abbrev GMs := List D → Env → Option Env
def gNl : GMs := fun ds δ => match ds with
  | [] => some δ
  | _ => none
def gCn (g : GM) (h : GMs) : GMs := fun ds δ => match ds with
  | d :: r => match g d δ with
    | some δ1 => h r δ1
    | none => none
  | [] => none
def tGs (K : PySem.W.Frag) (sl : List Nat) (g : GMs) : TGs := fun vs σ H Q => ∃ μ W δ ds δ', RepS K μ H W ∧ RepE K μ H σ δ ∧ Reps K μ H vs ds ∧ g ds δ = some δ' ∧ ∀ σ', RepE K μ H σ' δ' → σ'.length = σ.length → (∀ j, j ∉ sl → σ'[j]? = σ[j]?) → Q σ' H
def PMGs (X : Cx) (es : List Expr) (sl : List Nat) (g : GMs) : Prop := PGs X es (tGs X.K sl g)
theorem PGs.imp {X : Cx} {e : List Expr} {t t' : TGs} (h : PGs X e t) (i : ∀ v σ H Q, t' v σ H Q → t v σ H Q) : PGs X e t' := ⟨fun pins s σ H v u Q I r q => h.run pins s σ H v u Q I r (i v σ H Q q)⟩
def gTp (n : Nat) (g : GMs) : GM := fun d δ => match d with
  | .tup ds => if ds.length = n then g ds δ else none
  | _ => none
section
variable {X : Cx} {e : Expr} {es : List Expr} {pos : Pos} {sl sr : List Nat} {g : GM} {h : GMs}
theorem pmg_name (i : Nat) {x : Str} (hN : X.N.Nodup) (hi : X.N[i]? = some x := by rfl) (hx : Loc X.env.scope x := by first | exact Or.inl rfl | exact Or.inr rfl) (hf : X.fn x = true ∨ X.env.scope.names.lookup x = some .local := by first | exact .inl rfl | exact .inr rfl) : PMG X (.Name x pos) [i] (gNm i) :=
  PG.imp (pg_name hN hi hx hf) fun v σ H Q ⟨μ, W, δ, d, δ', S, E, r, eg, k⟩ => by
    cases eg
    exact k _ (E.set r i) (by rw [List.length_set]) fun j hj => List.getElem?_set_ne (fun z => hj (by rw [← z]; exact List.mem_singleton_self _))
theorem pmgs_nil : PMGs X [] [] gNl := PGs.imp pgs_nil fun vs σ H Q ⟨μ, W, δ, ds, δ', S, E, r, eg, k⟩ => by
  unfold gNl at eg
  split at eg
  · cases eg
    exact ⟨r, k σ E rfl fun _ _ => rfl⟩
  · cases eg
theorem pmgs_cons (h1 : PMG X e sl g) (h2 : PMGs X es sr h) (hs : (assignEach (e :: es) X.env).map (·.2) = assign e X.env :: (assignEach es X.env).map (·.2) := by rfl) : PMGs X (e :: es) (sl ++ sr) (gCn g h) :=
  PGs.imp (pgs_cons h1 h2 hs) fun vs σ H Q ⟨μ, W, δ, ds, δ', S, E, r, eg, k⟩ => by
    unfold gCn at eg
    split at eg
    · rename_i d rd
      split at eg
      · rename_i δ1 e1
        obtain ⟨v, vr, rfl, r1, r2⟩ := r
        exact ⟨v, vr, rfl, μ, W, δ, d, δ1, S, E, r1, e1, fun σ1 E1 l1 k1 => ⟨μ, W, δ1, rd, δ', S, E1, r2, eg, fun σ2 E2 l2 k2 => k σ2 E2 (l2.trans l1) fun j hj => (k2 j fun z => hj (List.mem_append_right _ z)).trans (k1 j fun z => hj (List.mem_append_left _ z))⟩⟩
      · cases eg
    · cases eg
theorem pmg_tup {k n : Nat} (hc : X.calm = true) (h1 : PMGs X es sl h) (hn : (assignEach es X.env).length = n := by rfl) (hst : (assignEach es X.env).findIdx? (·.1) = none := by rfl) : PMG X (.Tuple es k pos) sl (gTp n h) :=
  PG.imp (pg_tup hc h1 hn hst) fun v σ H Q ⟨μ, W, δ, d, δ', S, E, r, eg, kk⟩ => by
    unfold gTp at eg
    split at eg
    · rename_i ds
      split at eg
      · rename_i hl
        obtain ⟨a, vs, rfl, ha, rs⟩ := r
        exact ⟨a, vs, rfl, ha, by rw [rs.length]; exact hl, μ, W, δ, ds, δ', S, E, rs, eg, kk⟩
      · cases eg
    · cases eg
end
/-! ### what is walked -/
structure ItOk (K : PySem.W.Frag) (J : It) (μ0 : Lo) (H0 : Hp) (items : List D) : Prop where
  go : ∀ μ H, Ext μ0 H0 μ H → ∀ i, i < items.length → J.go i H
  stop : ∀ μ H, Ext μ0 H0 μ H → J.stop items.length H
  yld : ∀ μ H W, Ext μ0 H0 μ H → RepS K μ H W → ∀ (i : Nat) d x H', items[i]? = some d → J.yld i H x H' → Ext μ H μ H' ∧ RepS K μ H' W ∧ Rep K μ H' x d ∧ ∀ a, H a ≠ none → H' a = H a
abbrev RI (K : PySem.W.Frag) : Lo → Hp → It → List D → Prop := fun μ H J items => ItOk K J μ H items
abbrev MI := Env → Wo → Res (List D)
def PMI (X : Cx) (Wx : WX) (tg iter : Expr) (m : MI) : Prop := PI X tg iter (tM X.K (RI X.K) m Wx)
theorem PI.imp {X : Cx} {tg e : Expr} {t t' : TI} (h : PI X tg e t) (i : ∀ σ H Q, t' σ H Q → t σ H Q) : PI X tg e t' := ⟨fun pins s σ H Q I q => h.run pins s σ H Q I (i σ H Q q)⟩
theorem PI.or {X : Cx} {tg e : Expr} {t t' : TI} (h : PI X tg e t) (h' : PI X tg e t') : PI X tg e (fun σ H Q => t σ H Q ∨ t' σ H Q) := ⟨fun pins s σ H Q I q => q.elim (fun q => h.run pins s σ H Q I q) fun q => h'.run pins s σ H Q I q⟩
theorem itL {K : PySem.W.Frag} {μ : Lo} {H : Hp} {a : Addr} {vs : List V} {ds : List D} (h : ∀ μ' H', Ext μ H μ' H' → SqL K H' a vs) (r : Reps K μ H vs ds) : ItOk K (Itl K a) μ H ds where
  go := fun μ' H' x i hi => by
    obtain ⟨v, ev, _⟩ := r.get (List.getElem?_eq_getElem hi)
    exact ⟨vs, v, h μ' H' x, ev⟩
  stop := fun μ' H' x => ⟨vs, h μ' H' x, by rw [r.length]; exact Nat.le_refl _⟩
  yld := fun μ' H' W x S i d y H2 hd ⟨e, k⟩ => by
    subst e
    obtain ⟨v, ev, rv⟩ := r.get hd
    have e2 := k vs (h μ' H2 x)
    rw [ev] at e2
    cases e2
    exact ⟨Ext.refl _ _, S, Rep.ext x rv, fun _ _ => rfl⟩
theorem itT {K : PySem.W.Frag} {μ : Lo} {H : Hp} {a : Addr} {vs : List V} {ds : List D} (h : ∀ μ' H', Ext μ H μ' H' → SqT K H' a vs) (r : Reps K μ H vs ds) : ItOk K (Itt K a) μ H ds where
  go := fun μ' H' x i hi => by
    obtain ⟨v, ev, _⟩ := r.get (List.getElem?_eq_getElem hi)
    exact ⟨vs, v, h μ' H' x, ev⟩
  stop := fun μ' H' x => ⟨vs, h μ' H' x, by rw [r.length]; exact Nat.le_refl _⟩
  yld := fun μ' H' W x S i d y H2 hd ⟨e, k⟩ => by
    subst e
    obtain ⟨v, ev, rv⟩ := r.get hd
    have e2 := k vs (h μ' H2 x)
    rw [ev] at e2
    cases e2
    exact ⟨Ext.refl _ _, S, Rep.ext x rv, fun _ _ => rfl⟩
def rngD (lo : Int) (n : Nat) : List D := (List.range n).map fun (i : Nat) => D.int (lo + i)
theorem itR {K : PySem.W.Frag} {μ : Lo} {H : Hp} (lo : Int) (n : Nat) : ItOk K (Itr lo n) μ H (rngD lo n) where
  go := fun _ _ _ i hi => by
    unfold rngD at hi
    rw [List.length_map, List.length_range] at hi
    exact hi
  stop := fun _ _ _ => by
    show n ≤ (rngD lo n).length
    unfold rngD
    rw [List.length_map, List.length_range]
    exact Nat.le_refl _
  yld := fun μ' H' W x S i d y H2 hd ⟨e, k⟩ => by
    subst e k
    unfold rngD at hd
    rw [List.getElem?_map] at hd
    cases q : (List.range n)[i]? with
    | none => rw [q] at hd; cases hd
    | some j =>
      rw [q] at hd
      have hj : j = i := by
        rw [List.getElem?_eq_some_iff] at q
        obtain ⟨_, q⟩ := q
        rw [List.getElem_range] at q
        exact q.symm
      subst hj
      cases hd
      exact ⟨Ext.refl _ _, S, rfl, fun _ _ => rfl⟩
/-- the items of a list or tuple that stands still -/
def itemsD : D → Wo → Res (List D) := fun d W => match d with
  | .tup xs => .ok xs W
  | .lst xs => .ok xs W
  | _ => .bad
def mIt (m : ME) : MI := fun δ W => (m δ W).bind itemsD
section
variable {X : Cx} {Wx : WX} {tg e : Expr} {p pos : Pos} {m : ME} {r : MA}
theorem pmi_seq (h : PM X Wx e m) : PMI X Wx tg e (mIt m) := PI.imp (PI.or (pi_list h) (pi_tup h)) fun σ H R q => by
  obtain ⟨μ, W, δ, S, E, p⟩ := q
  have p' : Pst X.K (RI X.K) μ H R (fun c d H' => Wx c d σ H') ((m δ W).bind itemsD) := p
  cases em : m δ W with
  | bad => rw [em] at p'; exact p'.elim
  | ex c fs W1 =>
    rw [em] at p'
    refine .inl ⟨μ, W, δ, S, E, ?_⟩
    rw [em]
    exact p'
  | ok d W1 =>
    rw [em] at p'
    cases d with
    | tup xs =>
      refine .inr ⟨μ, W, δ, S, E, ?_⟩
      rw [em]
      intro v μ1 H1 x1 S1 r1
      obtain ⟨a, vs, rfl, ha, rs⟩ := r1
      exact ⟨a, rfl, ⟨vs, ha⟩, p' _ μ1 H1 x1 S1 (itT (fun μ' H' x => SqT.ext x ha) rs)⟩
    | lst xs =>
      refine .inl ⟨μ, W, δ, S, E, ?_⟩
      rw [em]
      intro v μ1 H1 x1 S1 r1
      obtain ⟨a, vs, rfl, ha, na, rs⟩ := r1
      exact ⟨a, rfl, ⟨vs, SqL.of ha⟩, p' _ μ1 H1 x1 S1 (itL (fun μ' H' x => SqL.of (x.keep _ _ ha na.1)) rs)⟩
    | _ => exact p'.elim
def rng1 : List D → Wo → Res (List D) := fun ds W => match ds with
  | [.int j] => if -(2 ^ 62) ≤ j ∧ j < 2 ^ 62 then .ok (rngD 0 j.toNat) W else .bad
  | _ => .bad
def rng2 : List D → Wo → Res (List D) := fun ds W => match ds with
  | [.int i, .int j] => if -(2 ^ 62) ≤ i ∧ i < 2 ^ 62 ∧ -(2 ^ 62) ≤ j ∧ j < 2 ^ 62 then .ok (rngD i (j - i).toNat) W else .bad
  | _ => .bad
def mItA (f : List D → Wo → Res (List D)) (r : MA) : MI := fun δ W => (r δ W).bind f
theorem pmi_range1 {a : Expr} (hm : X.mg "range" = none) (ha : PMA X Wx [a] r) (hg : Gl X "range" := by rfl) (hs : starEach [a] X.env = [(false, eval a X.env)] := by rfl) : PMI X Wx tg (.Call (.Name "range" p) [a] [] pos) (mItA rng1 r) :=
  PI.imp (pi_range1 hg hm ha.pa hs) fun σ H R q => tM.bind q fun μ δ vs H1 μ1 W1 ds x1 S1 E1 r1 p => by
    unfold rng1 at p
    split at p
    · obtain ⟨hc, p⟩ := p.ite
      obtain ⟨v, rfl, rv⟩ := reps1 r1
      cases rv
      exact ⟨_, rfl, hc.1, hc.2, Pst.now (R := RI X.K) S1 (itR 0 _) p⟩
    · exact p.elim
theorem pmi_range2 {a b : Expr} (hm : X.mg "range" = none) (ha : PMA X Wx [a, b] r) (hg : Gl X "range" := by rfl) (hs : starEach [a, b] X.env = [(false, eval a X.env), (false, eval b X.env)] := by rfl) (hs2 : starEach [b] X.env = [(false, eval b X.env)] := by rfl) :
    PMI X Wx tg (.Call (.Name "range" p) [a, b] [] pos) (mItA rng2 r) :=
  PI.imp (pi_range2 hg hm ha.pa hs hs2) fun σ H R q => tM.bind q fun μ δ vs H1 μ1 W1 ds x1 S1 E1 r1 p => by
    unfold rng2 at p
    split at p
    · obtain ⟨hc, p⟩ := p.ite
      obtain ⟨v, u, rfl, rv, ru⟩ := reps2 r1
      cases rv; cases ru
      exact ⟨_, _, rfl, hc, Pst.now (R := RI X.K) S1 (itR _ _) p⟩
    · exact p.elim
end
/-! ### for -/
/-- behind a turn of a loop -/
def SR.turn (r : SR) (k : MS) : SR := match r with
  | .nx δ W => k δ W
  | .ct δ W => k δ W
  | .bk δ W => .nx δ W
  | .rt d W => .rt d W
  | .ex c fs δ W => .ex c fs δ W
  | .bad => .bad
theorem PstS.turn {K : PySem.W.Frag} {μ : Lo} {H : Hp} {D : Ends} {Wx : WX} {r : SR} {k : MS} {N : L2.St → Hp → Prop} (p : PstS K μ H D Wx (r.turn k))
    (h : ∀ σ' μ' H' δ W, Ext μ H μ' H' → RepS K μ' H' W → RepE K μ' H' σ' δ → PstS K μ' H' D Wx (k δ W) → N σ' H') : PstS K μ H { D with nx := N, ct := N, bk := D.nx } Wx r := by
  cases r with
  | nx δ W => exact fun σ' μ' H' x S E => h σ' μ' H' δ W x S E (PstS.shift x p)
  | ct δ W => exact fun σ' μ' H' x S E => h σ' μ' H' δ W x S E (PstS.shift x p)
  | bk δ W => exact p
  | rt d W => exact p
  | ex c fs δ W => exact p
  | bad => exact p
def forL (g : GM) (b : MS) : List D → MS
  | [], δ, W => .nx δ W
  | d :: r, δ, W => match g d δ with
    | none => .bad
    | some δ1 => (b δ1 W).turn (forL g b r)
def sFor (mi : MI) (g : GM) (b : MS) : MS := fun δ W => (mi δ W).toS δ fun items W1 => forL g b items δ W1
theorem drop_cons {α : Type} {l : List α} {i : Nat} {d : α} (h : l[i]? = some d) : l.drop i = d :: l.drop (i + 1) := by
  obtain ⟨hi, e⟩ := List.getElem?_eq_some_iff.mp h
  rw [List.drop_eq_getElem_cons hi, e]
theorem pms_for {X : Cx} {Wx : WX} {tg iter : Expr} {body : List Stmt} {pos : Pos} {mi : MI} {sl : List Nat} {g : GM} {b : MS} (hp : PassesOwn (model X.prog X.w) X.A X.env X.xe) (hc : X.calm = true) (hi : PMI X Wx tg iter mi) (hg : PMG X tg sl g) (hb : PMSs X Wx body b)
    (hs : ∀ x, foldedSetIterable iter X.env x = pure x := by intro _; rfl) : PMS X Wx (.For tg iter body [] pos) (sFor mi g b) :=
  PS.imp (ps_for hp hc hi hg hb hs) fun D σ H q => tS.bind q fun μ δ J H1 μ1 W1 items x1 S1 E1 ri p => by
    refine ⟨fun i m σ' H' => m = items.length - i ∧ i ≤ items.length ∧ ∃ μ' W' δ', Ext μ1 H1 μ' H' ∧ RepS X.K μ' H' W' ∧ RepE X.K μ' H' σ' δ' ∧ PstS X.K μ' H' D Wx (forL g b (items.drop i) δ' W'), ⟨_, rfl, Nat.zero_le _, μ1, W1, δ, Ext.refl _ _, S1, E1, p⟩, ?_⟩
    rintro i m σ' H' ⟨rfl, hi, μ', W', δ', x', S', E', p'⟩
    by_cases hil : i = items.length
    · subst hil
      rw [List.drop_length] at p'
      exact .inl ⟨ri.stop μ' H' x', PstS.goes S' E' p'⟩
    · have hlt : i < items.length := by omega
      have hd : items[i]? = some items[i] := List.getElem?_eq_getElem hlt
      rw [drop_cons hd] at p'
      refine .inr ⟨ri.go μ' H' x' i hlt, fun σ2 H2 => ∃ μ2 W2 δ2, Ext μ1 H1 μ2 H2 ∧ RepS X.K μ2 H2 W2 ∧ RepE X.K μ2 H2 σ2 δ2 ∧ PstS X.K μ2 H2 D Wx (forL g b (items.drop (i + 1)) δ2 W2), fun σ2 H2 h2 => ⟨items.length - (i + 1), by omega, rfl, by omega, h2⟩, fun x H2 hy => ?_⟩
      obtain ⟨xe, S2, rx, _⟩ := ri.yld μ' H' W' x' S' i _ x H2 hd hy
      have E2 := E'.ext xe
      have p2 := PstS.shift xe p'
      unfold forL at p2
      cases eg : g items[i] δ' with
      | none => rw [eg] at p2; exact p2.elim
      | some δ1 =>
        rw [eg] at p2
        refine ⟨μ', W', δ', items[i], δ1, S2, E2, rx, eg, fun σ3 E3 _ _ => ⟨μ', W', δ1, S2, E3, ?_⟩⟩
        have x2 := x'.trans xe
        exact PstS.turn p2 fun σ4 μ4 H4 δ4 W4 x4 S4 E4 p4 => ⟨μ4, W4, δ4, x2.trans x4, S4, E4, p4⟩
/-! ### while -/
def whN (t : MT) (b : MS) : Nat → MS
  | 0, _, _ => .bad
  | n + 1, δ, W => (t δ W).toS δ fun k W1 => if k then (b δ W1).turn (whN t b n) else .nx δ W1
/-- the turns that a while may take -/
def fuel : Nat := 1000000000
def sWh (t : MT) (b : MS) : MS := fun δ W => whN t b fuel δ W
theorem pms_while {X : Cx} {Wx : WX} {c : Expr} {body : List Stmt} {pos : Pos} {t : MT} {b : MS} (hp : PassesOwn (model X.prog X.w) X.A X.env X.xe) (hc : PMT X Wx c t) (hb : PMSs X Wx body b) : PMS X Wx (.While c body [] pos) (sWh t b) :=
  PS.imp (ps_while hp hc hb) fun D σ H ⟨μ, W, δ, S, E, p⟩ => by
    refine ⟨fun m σ' H' => ∃ μ' W' δ', RepS X.K μ' H' W' ∧ RepE X.K μ' H' σ' δ' ∧ PstS X.K μ' H' D Wx (whN t b m δ' W'), ⟨fuel, μ, W, δ, S, E, p⟩, ?_⟩
    rintro m σ' H' ⟨μ', W', δ', S', E', p'⟩
    cases m with
    | zero => exact p'.elim
    | succ n =>
      have q : tS X.K (fun δ W => (t δ W).toS δ fun k W1 => if k then (b δ W1).turn (whN t b n) else .nx δ W1) Wx D σ' H' := ⟨μ', W', δ', S', E', p'⟩
      refine tS.bind q fun μ1 δ1 k H1 μ2 W1 k' x1 S1 E1 r1 p1 => ?_
      have e : k = k' := r1
      subst e
      cases k with
      | false => exact PstS.goes S1 E1 p1
      | true =>
        refine ⟨fun σ3 H3 => ∃ μ3 W3 δ3, RepS X.K μ3 H3 W3 ∧ RepE X.K μ3 H3 σ3 δ3 ∧ PstS X.K μ3 H3 D Wx (whN t b n δ3 W3), fun σ3 H3 h => ⟨n, Nat.lt_succ_self n, h⟩, μ2, W1, δ1, S1, E1, ?_⟩
        exact PstS.turn p1 fun σ4 μ4 H4 δ4 W4 x4 S4 E4 p4 => ⟨μ4, W4, δ4, S4, E4, p4⟩
end ML
set_option Elab.async false
set_option linter.all false
set_option maxRecDepth 100000
set_option maxHeartbeats 2000000
namespace ML
open PySem PySem.Spec PyProof.Rows L2

section
variable {K : PySem.W.Frag} {μ : Lo} {H : Hp} {q : Addr} {us : List V} {o : HO}
theorem ne_out {a : Addr} (n : μ.No a) (m : q ∈ μ.out) : a ≠ q := fun z => n.2 (z ▸ m)
theorem SqT.touch (hq : H q = some (.lst us)) {a : Addr} {vs : List V} (h : SqT K H a vs) : SqT K (upd H q o) a vs := by
  rcases h with (h | ⟨u, h⟩) | h
  · exact .inl (.inl (by rw [upd_ne (ne_of h hq (by intro z; cases z))]; exact h))
  · exact .inl (.inr ⟨u, by rw [upd_ne (ne_of h hq (by intro z; cases z))]; exact h⟩)
  · exact .inr h
mutual
theorem Rep.touch (m : q ∈ μ.out) (hq : H q = some (.lst us)) : ∀ {v : V} {d : D}, Rep K μ H v d → Rep K μ (upd H q o) v d
  | _, .non, h => h
  | _, .bl _, h => h
  | _, .int _, h => h
  | _, .str _, h => h
  | _, .raw _, h => h
  | _, .tup _, h => by
    obtain ⟨a, vs, e, s, r⟩ := h
    exact ⟨a, vs, e, SqT.touch hq s, Reps.touch m hq r⟩
  | _, .lst _, h => by
    obtain ⟨a, vs, e, s, n, r⟩ := h
    exact ⟨a, vs, e, by rw [upd_ne (ne_out n m)]; exact s, n, Reps.touch m hq r⟩
  | _, .scr _, h => by
    obtain ⟨a, e, h⟩ := h
    refine ⟨a, e, ?_⟩
    rcases h with ⟨s, n⟩ | ⟨u, s⟩ | h
    · exact .inl ⟨by rw [upd_ne (ne_out n m)]; exact s, n⟩
    · exact .inr (.inl ⟨u, by rw [upd_ne (ne_of s hq (by intro z; cases z))]; exact s⟩)
    · exact .inr (.inr h)
  | _, .obj _ _, h => by
    obtain ⟨a, dx, vs, e, s, n, l, r⟩ := h
    exact ⟨a, dx, vs, e, by rw [upd_ne (ne_out n m)]; exact s, n, l, Reps.touch m hq r⟩
  | _, .cell i, h => h
  | _, .exo a d c fs, h => by
    obtain ⟨e, h⟩ := h
    refine ⟨e, ?_⟩
    rcases h with h | ⟨h1, h2, dd, fv, vs, h3, h4, h5, h6, h7⟩
    · exact .inl h
    · exact .inr ⟨h1, h2, dd, fv, vs, h3, by rw [upd_ne (ne_of h4 hq (by intro z; cases z))]; exact h4, h5, h6, Reps.touch m hq h7⟩
theorem Reps.touch (m : q ∈ μ.out) (hq : H q = some (.lst us)) : ∀ {vs : List V} {ds : List D}, Reps K μ H vs ds → Reps K μ (upd H q o) vs ds
  | _, [], h => h
  | _, _ :: _, h => by
    obtain ⟨v, r, e, h1, h2⟩ := h
    exact ⟨v, r, e, Rep.touch m hq h1, Reps.touch m hq h2⟩
end
theorem RepS.touch {W : Wo} (S : RepS K μ H W) (m : q ∈ μ.out) (hq : H q = some (.lst us)) : RepS K μ (upd H q o) W where
  nd := S.nd
  len := S.len
  off := S.off
  there := fun a z => upd_live a (S.there a z)
  at_ := fun i a mo e1 e2 => by
    have ne : a ≠ q := fun z => S.off a (List.mem_of_getElem? e1) (z ▸ m)
    have h := S.at_ i a mo e1 e2
    cases mo with
    | lst ds =>
      obtain ⟨vs, e, r⟩ := h
      exact ⟨vs, by rw [upd_ne ne]; exact e, Reps.touch m hq r⟩
    | ins c ds =>
      obtain ⟨dx, vs, e, l, r⟩ := h
      exact ⟨dx, vs, by rw [upd_ne ne]; exact e, l, Reps.touch m hq r⟩
    | dct kvs =>
      obtain ⟨kv, e, l, r⟩ := h
      exact ⟨kv, by rw [upd_ne ne]; exact e, l, Reps.touch m hq r⟩
    | tab P z =>
      obtain ⟨e0, ps, e, l, r⟩ := h
      refine ⟨e0, ps, by rw [upd_ne ne]; exact e, l, fun pos cv hc => ?_⟩
      obtain ⟨c, h1, h2, h3⟩ := r pos cv hc
      exact ⟨c, h1, by rw [upd_ne fun z => by rw [z, hq] at h2; cases h2]; exact h2, h3⟩
theorem RepE.touch {σ : L2.St} {δ : Env} (E : RepE K μ H σ δ) (m : q ∈ μ.out) (hq : H q = some (.lst us)) : RepE K μ (upd H q o) σ δ := ⟨E.len, fun i d e => by
  obtain ⟨v, ev, r⟩ := E.at_ i d e
  exact ⟨v, ev, Rep.touch m hq r⟩⟩
theorem Lo.No.show {a : Addr} (n : μ.No a) : (μ.show q).No a := ⟨n.1, fun z => n.2 (List.mem_filter.mp z).1⟩
mutual
theorem Rep.show : ∀ {v : V} {d : D}, Rep K μ H v d → Rep K (μ.show q) H v d
  | _, .non, h => h
  | _, .bl _, h => h
  | _, .int _, h => h
  | _, .str _, h => h
  | _, .raw _, h => h
  | _, .tup _, h => by
    obtain ⟨a, vs, e, s, r⟩ := h
    exact ⟨a, vs, e, s, Reps.show r⟩
  | _, .lst _, h => by
    obtain ⟨a, vs, e, s, n, r⟩ := h
    exact ⟨a, vs, e, s, n.show, Reps.show r⟩
  | _, .scr _, h => by
    obtain ⟨a, e, h⟩ := h
    refine ⟨a, e, ?_⟩
    rcases h with ⟨s, n⟩ | h
    · exact .inl ⟨s, n.show⟩
    · exact .inr h
  | _, .obj _ _, h => by
    obtain ⟨a, dx, vs, e, s, n, l, r⟩ := h
    exact ⟨a, dx, vs, e, s, n.show, l, Reps.show r⟩
  | _, .cell i, h => h
  | _, .exo a d c fs, h => by
    obtain ⟨e, h⟩ := h
    refine ⟨e, ?_⟩
    rcases h with h | ⟨h1, h2, dd, fv, vs, h3, h4, h5, h6, h7⟩
    · exact .inl h
    · exact .inr ⟨h1, h2, dd, fv, vs, h3, h4, h5, h6, Reps.show h7⟩
theorem Reps.show : ∀ {vs : List V} {ds : List D}, Reps K μ H vs ds → Reps K (μ.show q) H vs ds
  | _, [], h => h
  | _, _ :: _, h => by
    obtain ⟨v, r, e, h1, h2⟩ := h
    exact ⟨v, r, e, Rep.show h1, Reps.show h2⟩
end
theorem RepS.show {W : Wo} (S : RepS K μ H W) : RepS K (μ.show q) H W where
  nd := S.nd
  len := S.len
  off := fun a z n => S.off a z (List.mem_filter.mp n).1
  there := fun a z => S.there a (List.mem_filter.mp z).1
  at_ := fun i a mo e1 e2 => by
    have h := S.at_ i a mo e1 e2
    cases mo with
    | lst ds =>
      obtain ⟨vs, e, r⟩ := h
      exact ⟨vs, e, Reps.show r⟩
    | ins c ds =>
      obtain ⟨dx, vs, e, l, r⟩ := h
      exact ⟨dx, vs, e, l, Reps.show r⟩
    | dct kvs =>
      obtain ⟨kv, e, l, r⟩ := h
      exact ⟨kv, e, l, Reps.show r⟩
    | tab P z => exact h
theorem RepS.hide {W : Wo} (S : RepS K μ H W) (h : H q = none) : RepS K (μ.hide q) (upd H q o) W where
  nd := S.nd
  len := S.len
  off := fun a z n => by
    rcases List.mem_cons.mp n with n | n
    · exact (S.notMem h).1 (n ▸ z)
    · exact S.off a z n
  there := fun a z => by
    rcases List.mem_cons.mp z with z | z
    · rw [z, upd_same]; exact fun z => nomatch z
    · exact upd_live a (S.there a z)
  at_ := fun i a mo e1 e2 => RepM.ext (Ext.newOut h) (S.at_ i a mo e1 e2) fun u e => by
    rw [upd_ne (ne_of_none e h)]
    exact e
end
/-! ### list comprehensions -/
def wipeE (δ : Env) : List Nat → Env
  | [] => δ
  | v :: vs => (wipeE δ vs).set v none
theorem RepE.wipe {K : PySem.W.Frag} {μ : Lo} {H : Hp} {σ : L2.St} {δ : Env} (E : RepE K μ H σ δ) : ∀ vs : List Nat, RepE K μ H (L2.wipe σ vs) (wipeE δ vs)
  | [] => E
  | v :: vs => (RepE.wipe E vs).unset v
theorem wipe_get {σ : L2.St} {j : Nat} : ∀ {vs : List Nat}, (L2.wipe σ vs)[j]? = if j ∈ vs then (σ[j]?).map (fun _ => none) else σ[j]?
  | [] => by simp [L2.wipe]
  | v :: vs => by
    unfold L2.wipe
    by_cases hj : v = j
    · subst hj
      rw [if_pos List.mem_cons_self]
      by_cases hl : v < σ.length
      · rw [List.getElem?_set_self (by rw [L2.wipe_length]; exact hl), List.getElem?_eq_getElem hl]
        rfl
      · rw [List.getElem?_eq_none (by rw [List.length_set, L2.wipe_length]; omega), List.getElem?_eq_none (by omega)]
        rfl
    · rw [List.getElem?_set_ne hj, wipe_get (vs := vs)]
      have e : (j ∈ v :: vs) = (j ∈ vs) := by
        rw [List.mem_cons]
        exact propext ⟨fun h => h.elim (fun z => absurd z.symm hj) id, .inr⟩
      simp only [e]
theorem wipe_same {σ σ' : L2.St} {sl vs : List Nat} (hl : σ'.length = (L2.wipe σ vs).length) (h : ∀ j, j ∉ sl → σ'[j]? = (L2.wipe σ vs)[j]?) (hs : ∀ j ∈ sl, j ∈ vs) : L2.wipe σ' vs = L2.wipe σ vs := by
  refine List.ext_getElem? fun j => ?_
  rw [wipe_get, wipe_get]
  by_cases hj : j ∈ vs
  · rw [if_pos hj, if_pos hj]
    rw [L2.wipe_length] at hl
    by_cases hlt : j < σ.length
    · rw [List.getElem?_eq_getElem hlt, List.getElem?_eq_getElem (hl ▸ hlt)]
      rfl
    · rw [List.getElem?_eq_none (by omega), List.getElem?_eq_none (by omega)]
  · rw [if_neg hj, if_neg hj, h j fun z => hj (hs j z), wipe_get, if_neg hj]
def NoW : WX := fun _ _ _ _ => False
def lcL (g : GM) (tt : MT) (el : ME) (δ : Env) : List D → Wo → Res (List D)
  | [], W => .ok [] W
  | d :: r, W => match g d δ with
    | none => .bad
    | some δ1 => match tt δ1 W with
      | .ok true W1 => match el δ1 W1 with
        | .ok y W2 => match lcL g tt el δ r W2 with
          | .ok ys W3 => .ok (y :: ys) W3
          | _ => .bad
        | _ => .bad
      | .ok false W1 => lcL g tt el δ r W1
      | _ => .bad
def lcE (g : GM) (tt : MT) (el : ME) (δ : Env) (items : List D) (W : Wo) : Res D := if items.length ≤ sizeLine then match lcL g tt el δ items W with
  | .ok ys W2 => .ok (.lst ys) W2
  | _ => .bad else .bad
def mLc (mi : MI) (g : GM) (tt : MT) (el : ME) (vs : List Nat) : ME := fun δ W => (mi δ W).bind fun items W1 => lcE g tt el (wipeE δ vs) items W1
def PMTs (X : Cx) (ifs : List Expr) (t : MT) : Prop := PTs X ifs (tM X.K RB t NoW)
def mYes : MT := fun _ W => .ok true W
theorem pmts_nil {X : Cx} : PMTs X [] mYes := ⟨fun pins s σ H Q I ⟨μ, W, δ, S, E, p⟩ => pts_nil.run pins s σ H Q I (Pst.now (R := RB) S rfl p)⟩
theorem pmts_one {X : Cx} {c : Expr} {t : MT} (h : PMT X NoW c t) : PMTs X [c] t := pts_one h
section
variable {X : Cx} {Wx : WX}
/-- what a turn has reached -/
def LcAt (K : PySem.W.Frag) (μ1 : Lo) (H1 : Hp) (q : Addr) (g : GM) (tt : MT) (el : ME) (σ : L2.St) (δ : Env) (vs : List Nat) (items : List D) (F : List D → Wo → Prop) (i : Nat) (H : Hp) : Prop :=
  ∃ μ W acc vacc, Ext μ1 H1 μ H ∧ q ∈ μ.out ∧ RepS K μ H W ∧ RepE K μ H (L2.wipe σ vs) (wipeE δ vs) ∧ H q = some (.lst vacc) ∧ Reps K μ H vacc acc ∧ acc.length ≤ i ∧
    ∃ ys W2, lcL g tt el (wipeE δ vs) (items.drop i) W = .ok ys W2 ∧ F (acc ++ ys) W2
theorem lc_imp {mi : MI} {g : GM} {sl vs : List Nat} {tt : MT} {el : ME} {σ : L2.St} {H : Hp} {Q : VK} {K : PySem.W.Frag} (hs : ∀ j ∈ sl, j ∈ vs) (h : tM K (RD K) (mLc mi g tt el vs) Wx σ H Q) :
    tLc (tM K (RI K) mi Wx) (tG K sl g) (tM K RB tt NoW) (tM K (RD K) el NoW) vs σ H Q :=
  tM.bind h fun μ δ J H1 μ1 W1 items x1 S1 E1 ri p q hq => by
    unfold lcE at p
    obtain ⟨hlen, p⟩ := p.ite
    split at p
    rotate_left
    · exact p.elim
    rename_i ys W2 ey
    have nq : q ∉ μ1.out := fun z => S1.there q z hq
    have F : List D → Wo → Prop := fun ys W2 => Pst K (RD K) μ1 H1 Q (fun c d H' => Wx c d σ H') (.ok (.lst ys) W2)
    refine ⟨fun i m H' => m = items.length - i ∧ i ≤ items.length ∧ LcAt K μ1 H1 q g tt el σ δ vs items (fun ys W2 => Pst K (RD K) μ1 H1 Q (fun c d H' => Wx c d σ H') (.ok (.lst ys) W2)) i H', ⟨_, rfl, Nat.zero_le _, μ1.hide q, W1, [], [], Ext.newOut hq, List.mem_cons_self, S1.hide hq, (E1.ext (Ext.newOut hq)).wipe vs, upd_same, rfl, Nat.le_refl _, ys, W2, by rw [List.drop_zero]; exact ey, p⟩, ?_⟩
    rintro i m H' ⟨rfl, hi, μ', W', acc, vacc, x', mq, S', E', hqv, ra, hacc, ys', W3, e', p'⟩
    have nc : ∀ {μ2 : Lo} {H2 : Hp} {W2 : Wo}, Ext μ' H' μ2 H2 → RepS K μ2 H2 W2 → q ∉ μ2.cells := fun x S z => S.off q z (x.outS q mq)
    by_cases hil : i = items.length
    · subst hil
      rw [List.drop_length] at e'
      cases e'
      rw [List.append_nil] at p'
      refine .inl ⟨ri.stop μ' H' x', ?_⟩
      exact p' (.ref q) (μ'.show q) H' (x'.shown nq) S'.show ⟨q, vacc, rfl, hqv, ⟨fun z => S'.off q z mq, fun z => (of_decide_eq_true (List.mem_filter.mp z).2) rfl⟩, ra.show⟩
    · have hlt : i < items.length := by omega
      have hd : items[i]? = some items[i] := List.getElem?_eq_getElem hlt
      rw [drop_cons hd] at e'
      refine .inr ⟨ri.go μ' H' x' i hlt, fun H2 => LcAt K μ1 H1 q g tt el σ δ vs items (fun ys W2 => Pst K (RD K) μ1 H1 Q (fun c d H' => Wx c d σ H') (.ok (.lst ys) W2)) (i + 1) H2, fun H2 h2 => ⟨items.length - (i + 1), by omega, rfl, by omega, h2⟩, fun x H2 hy => ?_⟩
      obtain ⟨xe, S2, rx, kp⟩ := ri.yld μ' H' W' x' S' i _ x H2 hd hy
      have hq2 : H2 q = some (.lst vacc) := by rw [kp q (by rw [hqv]; exact fun z => nomatch z)]; exact hqv
      unfold lcL at e'
      split at e'
      · cases e'
      · rename_i δ1 eg
        refine ⟨μ', W', _, _, δ1, S2, E'.ext xe, rx, eg, fun σ2 E3 l3 k3 => ⟨wipe_same l3 k3 hs, μ', W', δ1, S2, E3, ?_⟩⟩
        split at e'
        · rename_i W4 et
          rw [et]
          intro k μ4 H4 x4 S4 ek
          have ek : k = true := ek
          subst ek
          refine ⟨μ4, W4, δ1, S4, E3.ext x4, ?_⟩
          split at e'
          · rename_i y W5 ee
            rw [ee]
            intro v μ5 H5 x5 S5 r5
            split at e'
            · rename_i ys5 W6 er
              cases e'
              have x24 := xe.trans x4
              have x25 := x24.trans x5
              have hq4 : H4 q = some (.lst vacc) := x4.keep _ _ hq2 (nc xe S2)
              have hq5 : H5 q = some (.lst vacc) := x5.keep _ _ hq4 (nc x24 S4)
              have m5 : q ∈ μ5.out := x25.outS q mq
              refine ⟨vacc, hq5, ?_, μ5, W5, acc ++ [y], vacc ++ [v], (x'.trans x25).touch hq, m5, S5.touch m5 hq5, (E'.ext x25).touch m5 hq5, upd_same, Reps.append ((ra.ext x25).touch m5 hq5) ⟨v, [], rfl, Rep.touch m5 hq5 r5, rfl⟩, ?_, ys5, W3, er, ?_⟩
              · rw [ra.length]
                omega
              · rw [List.length_append]
                show acc.length + 1 ≤ i + 1
                omega
              · rw [List.append_assoc]
                exact p'
            · cases e'
          · cases e'
        · rename_i W4 et
          rw [et]
          intro k μ4 H4 x4 S4 ek
          have ek : k = false := ek
          subst ek
          have x24 := xe.trans x4
          have hq4 : H4 q = some (.lst vacc) := x4.keep _ _ hq2 (nc xe S2)
          exact ⟨μ4, W4, acc, vacc, x'.trans x24, x24.outS q mq, S4, E'.ext x24, hq4, ra.ext x24, by omega, ys', W3, e', p'⟩
        · cases e'
theorem pm_lc {elt tg iter : Expr} {ifs : List Expr} {scope : Scope} {own : List (Str × Nat)} {pos : Pos} {mi : MI} {sl : List Nat} {g : GM} {tt : MT} {el : ME} (hc : X.calm = true) (hN : X.N.Nodup) (hi : PMI X Wx tg iter mi) (ok : BlkOk X.N X.env.scope scope own)
    (hg : ∀ (s : Shared) (H : Hp) (C : Addr) (cl : List (Str × Addr)) (fp : List Addr), PMG (X.blk s H scope (compEnvC scope cl C X.env) fp) tg sl g) (ht : ∀ (s : Shared) (H : Hp) (C : Addr) (cl : List (Str × Addr)) (fp : List Addr), PMTs (X.blk s H scope (compEnvC scope cl C X.env) fp) ifs tt)
    (he : ∀ (s : Shared) (H : Hp) (C : Addr) (cl : List (Str × Addr)) (fp : List Addr), PM (X.blk s H scope (compEnvC scope cl C X.env) fp) NoW elt el) (hsl : ∀ j ∈ sl, j ∈ own.map (·.2) := by decide) (hs : ∀ x, foldedSetIterable iter X.env x = pure x := by intro _; rfl) :
    PM X Wx (.ListComp elt [⟨tg, iter, ifs, 0⟩] scope pos) (mLc mi g tt el (own.map (·.2))) :=
  PE.imp (pe_lc (g := tG X.K sl g) (tt := tM X.K RB tt NoW) (te := tM X.K (RD X.K) el NoW) hc hN hi ok hg ht he hs) fun σ H Q h => lc_imp hsl h
theorem pms_setLc (i : Nat) {y : Str} {py : Pos} {elt tg iter : Expr} {ifs : List Expr} {scope : Scope} {own : List (Str × Nat)} {pos spos : Pos} {mi : MI} {sl : List Nat} {g : GM} {tt : MT} {el : ME} (hc : X.calm = true) (hN : X.N.Nodup)
    (hsw : swapsWith (.ListComp elt [⟨tg, iter, ifs, 0⟩] scope pos) (some (.Name y py)) spos.line X.env = pure true) (hi : PMI X Wx tg iter mi) (ok : BlkOk X.N X.env.scope scope own)
    (hg : ∀ (s : Shared) (H : Hp) (C : Addr) (cl : List (Str × Addr)) (fp : List Addr), PMG (X.blk s H scope (compEnvC scope cl C X.env) fp) tg sl g) (ht : ∀ (s : Shared) (H : Hp) (C : Addr) (cl : List (Str × Addr)) (fp : List Addr), PMTs (X.blk s H scope (compEnvC scope cl C X.env) fp) ifs tt)
    (he : ∀ (s : Shared) (H : Hp) (C : Addr) (cl : List (Str × Addr)) (fp : List Addr), PM (X.blk s H scope (compEnvC scope cl C X.env) fp) NoW elt el) (hsl : ∀ j ∈ sl, j ∈ own.map (·.2) := by decide) (hy : X.N[i]? = some y := by rfl) (hyl : X.env.scope.names.lookup y = some .local := by rfl) (hs : ∀ x, foldedSetIterable iter X.env x = pure x := by intro _; rfl) :
    PMS X Wx (.Assign [.Name y py] (.ListComp elt [⟨tg, iter, ifs, 0⟩] scope pos) spos) (sSet i (mLc mi g tt el (own.map (·.2)))) :=
  PS.imp (ps_setLc (g := tG X.K sl g) (tt := tM X.K RB tt NoW) (te := tM X.K (RD X.K) el NoW) hc hN hy hyl hsw hi ok hg ht he hs) fun D σ H h => lc_imp hsl (tS.bind h fun μ δ b H1 μ1 W1 d x1 S1 E1 r1 p => PstS.goes S1 (E1.set r1 i) p)
end
end ML
set_option Elab.async false
set_option linter.all false
set_option maxRecDepth 100000
set_option maxHeartbeats 2000000
namespace ML
open PySem PySem.Spec PyProof.Rows L2
/-! ### the text's defs as they stand -/
/-- the def st stands at the module's name x -/
def FnAt (K : PySem.W.Frag) (mg : Str → Option Value) (x : Str) (st : Stmt) (dvs : List V) (kws : List (Str × V)) : Prop := ∃ f fd, mg x = some (.ref f) ∧ FunD K x x (defArgs st) (defBody st) (defScope st) dvs kws f fd
/-- the built-in names stand for the built-ins -/
structure Blt (mg : Str → Option Value) : Prop where
  len_ : mg "len" = none
  abs_ : mg "abs" = none
  max_ : mg "max" = none
  min_ : mg "min" = none
  int_ : mg "int" = none
  str_ : mg "str" = none
  repr_ : mg "repr" = none
  sum_ : mg "sum" = none
  all_ : mg "all" = none
  list_ : mg "list" = none
  tuple_ : mg "tuple" = none
  bool_ : mg "bool" = none
  dict_ : mg "dict" = none
  range_ : mg "range" = none
  enumerate_ : mg "enumerate" = none
  zip_ : mg "zip" = none
  sorted_ : mg "sorted" = none
  isinstance_ : mg "isinstance" = none
  super_ : mg "super" = none
  set_ : mg "set" = none
  any_ : mg "any" = none
  reversed_ : mg "reversed" = none
  map_ : mg "map" = none
section
variable {P : Program} {w : World} {K : PySem.W.Frag} {mg : Str → Option Value} {base : Heap}
/-- a def of the module without defaults -/
theorem gl_fn {x : Str} {st : Stmt} {kws : List (Str × V)} {N ps : List Str} {k : Nat} {m : MS} (A : FnAt K mg x st [] kws) (S : FnScope N ps (defScope st))
    (hb : ∀ (kV doc pm : Value) (an : Option Addr) (cdv ct : Value) (us : List Value), us.length = ps.length → bindArgs (PySem.W.fnOf x x (defArgs st) (defBody st) (defScope st) .none kV doc pm an cdv ct) ⟨us, []⟩ = pure (ps.zip us))
    (hbody : ∀ (f : Addr) (cdv : Value) (A : Around) (outer : List PySem.Env) (s : Shared) (H : Hp) (E : XK), Room k (A.deeper (envOfC x (defScope st) s.heap.objs.size f cdv)) → Takes (defX P w K mg base N x (defScope st) f cdv A outer s H E) (fun c d _ H' => E c d H') →
      PMSs (defX P w K mg base N x (defScope st) f cdv A outer s H E) (fun c d _ H' => E c d H') (defBody st) m) : GlM P w K mg base (k + 1) x ps.length (mRun N.length ps.length m) := by
  obtain ⟨f, fd, hm, F⟩ := A
  exact ⟨f, hm, F.kp, fd, ps, [], [], _, fn_M F S (hbody f), F.bindsN hb, .nil, fun vs H Q E h => by rw [List.append_nil]; exact h⟩
/-- the same by a nicer function -/
theorem GlM.as {k n : Nat} {x : Str} {m m' : MF} (G : GlM P w K mg base k x n m) (h : ∀ ds W, m' ds W = .bad ∨ m ds W = m' ds W) : GlM P w K mg base k x n m' := by
  obtain ⟨f, hm, kp, fd, ps, ds, dvs, sp, G, hb, hd, imp⟩ := G
  refine ⟨f, hm, kp, fd, ps, ds, dvs, sp, G, hb, hd, fun vs H Q E ⟨hl, μ, W, ds, S, r, p⟩ => imp vs H Q E ⟨hl, μ, W, ds, S, r, ?_⟩⟩
  rcases h ds W with e | e
  · rw [e] at p
    exact p.elim
  · rw [e]
    exact p
theorem GlM.up {j k n : Nat} {x : Str} {m : MF} (G : GlM P w K mg base j x n m) (h : j ≤ k) : GlM P w K mg base k x n m := by
  obtain ⟨f, hm, kp, fd, ps, ds, dvs, sp, G, hb, hd, imp⟩ := G
  exact ⟨f, hm, kp, fd, ps, ds, dvs, sp, G.mono h, hb, hd, imp⟩
end
end ML
set_option Elab.async false
set_option linter.all false
set_option maxRecDepth 100000
set_option maxHeartbeats 4000000
namespace ML
open PySem PySem.Spec PyProof.Rows L2
/-! ### an own exception class over any built-in one -/
structure ExB (B newId initId : String) (tl : List Value) : Prop where
  F : ExcBaseFacts B newId initId tl
  SF : StoreFacts B tl "object.__setattr__" "object"
  ob : tl.contains (.type "object") = true
/-- own classes ahead of the built-in ones -/
inductive RefsT (tl : List Value) : List Value → Prop
  | base : RefsT tl tl
  | cons (c : Addr) {r : List Value} : RefsT tl r → RefsT tl (.ref c :: r)
def refsTB (tl : List Value) : List Value → Bool
  | .ref c :: r => decide (Value.ref c :: r = tl) || refsTB tl r
  | l => decide (l = tl)
theorem refsTB_ok {tl : List Value} : ∀ {l : List Value}, refsTB tl l = true → RefsT tl l
  | .ref c :: r, h => by
    rcases Bool.or_eq_true_iff.mp (show (decide (Value.ref c :: r = tl) || refsTB tl r) = true from h) with h | h
    · rw [of_decide_eq_true h]; exact .base
    · exact .cons c (refsTB_ok h)
  | [], h => by rw [of_decide_eq_true (show decide ([] = tl) = true from h)]; exact .base
  | .none :: _, h => by rw [of_decide_eq_true (show decide (_ = tl) = true from h)]; exact .base
  | .ellipsis :: _, h => by rw [of_decide_eq_true (show decide (_ = tl) = true from h)]; exact .base
  | .notImplemented :: _, h => by rw [of_decide_eq_true (show decide (_ = tl) = true from h)]; exact .base
  | .bool _ :: _, h => by rw [of_decide_eq_true (show decide (_ = tl) = true from h)]; exact .base
  | .int _ _ :: _, h => by rw [of_decide_eq_true (show decide (_ = tl) = true from h)]; exact .base
  | .float _ _ :: _, h => by rw [of_decide_eq_true (show decide (_ = tl) = true from h)]; exact .base
  | .str _ _ :: _, h => by rw [of_decide_eq_true (show decide (_ = tl) = true from h)]; exact .base
  | .bytes _ _ :: _, h => by rw [of_decide_eq_true (show decide (_ = tl) = true from h)]; exact .base
  | .type _ :: _, h => by rw [of_decide_eq_true (show decide (_ = tl) = true from h)]; exact .base
  | .builtin _ :: _, h => by rw [of_decide_eq_true (show decide (_ = tl) = true from h)]; exact .base
section
variable {B newId initId : String} {tl l : List Value}
theorem RefsT.pass (b : ExB B newId initId tl) (self : Value) (r : RefsT tl l) : refuseLoop self "__setattr__" l = pure () := by
  induction r with
  | base => exact b.SF.passes self
  | cons c _ ih => rw [refuseLoop_ref]; exact ih
theorem RefsT.has (r : RefsT tl l) (x : String) : l.contains (.type x) = tl.contains (.type x) := by
  induction r with
  | base => rfl
  | cons c _ ih =>
    rw [List.contains_cons, ih]
    have e : ((Value.type x : Value) == Value.ref c) = false := beq_eq_false_iff_ne.mpr fun z => nomatch z
    rw [e, Bool.false_or]
theorem RefsT.full (b : ExB B newId initId tl) (r : RefsT tl l) : l.isEmpty = false := by
  cases l with
  | nil =>
    have z := r.has "object"
    rw [b.ob] at z
    cases z
  | cons _ _ => rfl
end
section
open PySem.W PySem.HandSPX Builtin Builtin.ObjectAttr
variable {B newId initId : String} {tl : List Value} {prog : Program} {w : World} {A : Around} {R : Result → Shared → Prop} {hp : Heap} {g : Array GenState} {d : Drawn} {t : Nat} {os : OsState}
/-- the first field of an exception that has no dict yet -/
theorem first_field {K : Frag} {name : Str} {tk : Tok} {v : Value} {x C : Addr} {fv : Array Value} {cd : ClassData} (b : ExB B newId initId tl)
    (X : K.In hp) (hx : hp.get? x = some { cls := .ref C, data := .fields fv }) (hcd : clsIn K C = some cd) (hm : RefsT tl cd.mro) (hh : cd.hasDict = true) (ha : findIn K (.ref C) name = some none)
    (hq : ∀ h' tk' dx, (∀ b o, b ≠ x → hp.get? b = some o → h'.get? b = some o) → hp.objs.size ≤ dx → dx ≠ x → h'.get? x = some { cls := .ref C, dict := some dx, data := .fields fv } →
      h'.Ns1 dx (fun y => if y = name then some v else none) → R (.ok (.ret .none)) ⟨h', g, d, tk', os⟩) :
    codeAny (model prog w) A (.call (.builtin "object.__setattr__") ⟨[.ref x, .str name tk, v], []⟩) R ⟨hp, g, d, t, os⟩ := by
  have at_x : InstAt hp x { cls := .ref C, data := .fields fv } C none := ⟨hx, rfl, rfl, trivial⟩
  have so := F.store_object
  have full := hm.full b
  have isob : cd.mro.contains (.type "object") = true := (hm.has "object").trans b.ob
  have ne_x : x ≠ hp.objs.size := Nat.ne_of_lt (Heap.lt_size hx)
  have isi : Looks (model prog w) hp (isInstance (.ref x) (.type "object")) true := at_x.type.andThen (looks_mroIn X (by unfold mroIn; rw [hcd, Option.bind_some, if_neg (by rw [full]; decide), isob]))
  refine codeAny_call_builtin so.slot.plain so.entry (@check_slot (model prog w) _ _ ⟨hp, g, d, t, os⟩ "object.__setattr__" "object" "__setattr__" (.ref x) [.str name tk, v] [] _ so.kind so.split isi (so.args (.ref x) (.str name tk) v) ?_)
  have mro : Looks (model prog w) hp (mroOf (.ref C)) cd.mro := (looks_clsIn X hcd).andThen .now
  have no3 : Looks (model prog w) hp (storeTaker? none) none := .now
  have cdat : Looks (model prog w) hp (classData C) cd := looks_clsIn X hcd
  rw [osa_eq, refuse_eq]
  refine wpAny_bind (wpAny_bind (at_x.type.at (wpAny_bind (mro.at ?_))))
  rw [hm.pass b]
  refine wpAny_pure (wpAny_bind (at_x.type.at (wpAny_bind ((looks_findIn X ha).at (wpAny_bind (no3.at ?_))))))
  show wpAny _ _ (storeInOwnDict (.ref x) (.ref C) (.str name tk) name v false) _ _ _
  obtain ⟨nm, bs, mro, ns, qn, hd, sn, sb, ab, col, del⟩ := cd
  dsimp only at hh
  subst hh
  unfold storeInOwnDict ownDictForStores
  repeat (first | with_reducible refine store_in_new ?_ ?_ | with_reducible refine wpAny_loadPart_at hx ?_ | with_reducible refine cdat.at ?_ | wp_step)
  · exact ⟨_, #[], _, (Heap.get?_update_ne _ _ _ _ ne_x.symm).trans (Heap.get?_push_at rfl rfl), rfl, fun e he => absurd he (by simp), fun _ => rfl⟩
  · intro h' tk' hn' hs
    have hx1 : (hp.push { cls := .type "dict", data := .dict #[] }).get? x = some { cls := .ref C, data := .fields fv } := Heap.get?_push_of_some _ hx
    refine hq h' tk' hp.objs.size (fun b o hb ho => ?_) (Nat.le_refl _) ne_x.symm ?_ hn'
    · exact (hs.2 b (Nat.ne_of_lt (Heap.lt_size ho))).trans ((Heap.get?_update_ne _ _ _ _ hb).trans (Heap.get?_push_of_some _ ho))
    · exact (hs.2 x ne_x).trans (Heap.get?_update_self _ hx1 rfl)
end
/-- what the written part says of such a class -/
structure OexG (K : PySem.W.Frag) (C : Addr) (newId : String) (tl : List Value) : Prop where
  cls : ∃ nm q N bs bm sn sub ab col dd k0 k1 k2 k3 k5, K.lookup C = some (excClassObj nm q C N bs bm true sn sub ab col dd k0 k1 k2 k3 k5 newId) ∧ RefsT tl bm
  sa : PySem.W.findIn K (.ref C) "__setattr__" = some (some (.builtin "object.__setattr__"))
  exC : PySem.W.subIn K (.ref C) (.type "BaseException") = some true
  tyC : PySem.W.typeIn K (.ref C) = some (.type "type")
  kC : PySem.W.keepIn K (.ref C) = true
section
variable {X : Cx} {pins : List (Addr × Obj)} {σ : L2.St} {H : Hp} {s : Shared} {a C : Addr} {f : Str} {y : V} {u : Value} {B newId initId : String} {tl : List Value}
theorem first_put {Q : Unit → Shared → Prop} {E : Value → Shared → Prop} {A : Around} (b : ExB B newId initId tl) (T : OexG X.K C newId tl) (I : Inv X pins σ H s) (e : H a = some (exo a C none)) (hno : PySem.W.findIn X.K (.ref C) f = some none) (ry : RelV y u)
    (h : ∀ dx s', H dx = none → dx ≠ a → Inv X pins σ (upd (upd H dx (exd dx [(f, y)])) a (exo a C (some dx))) s' → Q () s') : wpAny (model X.prog X.w) A (setAttr (.ref a) f u) Q E s := by
  obtain ⟨nm, q, N, bs, bm, sn, sub, ab, col, dd, k0, k1, k2, k3, k5, hC, hbm⟩ := T.cls
  have hcl : PySem.W.clsIn X.K C = some { name := nm, bases := bs, mro := .ref C :: bm, ns := N, qualname := q, hasDict := true, slotNames := sn, subclasses := sub, abstract := ab, collection := col, hasDel := false } := by
    unfold PySem.W.clsIn
    rw [hC]
  obtain ⟨t1, ho⟩ := exo_at I.hok e
  obtain ⟨hp, g, d, t, os⟩ := s
  refine PySem.W.set_plain I.kIn (ox := { cls := .ref C, dict := none, data := .fields #[.ref t1, .none, .none, .none, .bool false, .none] }) (od := none) ⟨ho, rfl, rfl, trivial⟩ T.sa ?_
  refine first_field b I.kIn ho hcl (.cons C hbm) rfl hno (fun h' tk' dx k dn dne hx hn => ?_)
  have hnd : H dx = none := I.hok.fresh dn
  have old_dx : ∀ {c : Addr} {o : Obj}, hp.get? c = some o → c ≠ dx := fun {c o} z => Nat.ne_of_lt (Nat.lt_of_lt_of_le (Heap.lt_size z) dn)
  have free_a : ∀ {c : Addr}, H c = none → c ≠ a := fun {c} n z => by
    rw [z, e] at n
    cases n
  have U : Un X.fs [] H (upd (upd H dx (exd dx [(f, y)])) a (exo a C (some dx))) hp h' := by
    refine ⟨fun c o z n _ _ => k c o (free_a n) z, fun c o z n _ _ => ⟨o.slots, k c o (free_a n) z⟩, fun c o z n _ => ?_, fun c o z _ => ?_, fun c xs z => ?_, fun c o v z => ?_, fun c ps z => ⟨#[], ?_⟩⟩
    · rw [upd_ne (free_a n), upd_ne (old_dx z)]
      exact n
    · by_cases hb : c = a
      · exact ⟨_, by rw [hb]; exact hx⟩
      · exact ⟨o, k c o hb z⟩
    · rw [upd_ne (at_ne e z exo_tup), upd_ne (ne_of_none z hnd)]
      exact z
    · rw [upd_ne (at_ne e z exo_frz), upd_ne (ne_of_none z hnd)]
      exact z
    · rw [upd_ne (at_ne e z exo_tbl), upd_ne (ne_of_none z hnd), z]
      simp
  refine h dx _ hnd dne (I.un (t' := tk') U fun c o z => ?_)
  by_cases hb : c = a
  · subst hb
    rw [upd_same] at z
    cases z
    exact exo_ok hx
  · rw [upd_ne hb] at z
    by_cases hbd : c = dx
    · subst hbd
      rw [upd_same] at z
      cases z
      refine exd_ok hn fun g => ?_
      rw [lookup_put]
      by_cases hg : g = f
      · rw [if_pos hg, if_pos hg]
        exact ry
      · rw [if_neg hg, if_neg hg]
        exact trivial
    · rw [upd_ne hbd] at z
      refine (I.hok c o z).stay (fun v w hc q => k v w ?_ q) (fun v q => ?_) fun v xs q => ?_
      · rcases hc with rfl | hc
        · exact hb
        · exact at_ne e hc exo_own
      · rw [upd_ne (at_ne e q exo_own), upd_ne (ne_of_none q hnd)]
        exact q
      · rw [upd_ne (at_ne e q exo_tup), upd_ne (ne_of_none q hnd)]
        exact q
/-- the promise of an __init__ that keeps its one argument under f -/
def spI (f : Str) (C : Addr) : Sp := fun vs H Q _ => ∃ a y, vs = [.ref a, y] ∧ H a = some (exo a C none) ∧ ∀ dx, H dx = none → dx ≠ a → Q .non (upd (upd H dx (exd dx [(f, y)])) a (exo a C (some dx)))
theorem ps_first {o e : Expr} {to te : TE} {p' pos : Pos} (b : ExB B newId initId tl) (T : OexG X.K C newId tl) (hno : PySem.W.findIn X.K (.ref C) f = some none) (ho : PE X o to) (he : PE X e te) (hs : swapsWith e (some (.Attribute o f p')) pos.line X.env = pure false := by rfl) :
    PS X (.Assign [.Attribute o f p'] e pos) (fun D σ H => te σ H fun y H1 => to σ H1 fun x H2 => ∃ a, x = .ref a ∧ H2 a = some (exo a C none) ∧ ∀ dx, H2 dx = none → dx ≠ a → D.nx σ (upd (upd H2 dx (exd dx [(f, y)])) a (exo a C (some dx)))) := by
  refine ⟨fun pins s σ H D I h => ?_⟩
  refine plainObj_wpAny_Assign_Attribute (thn (he.run pins s σ H _ I h) fun v s1 ⟨y, H1, I1, r1, q1⟩ => thn (ho.run pins s1 σ H1 _ I1 q1) fun u s2 ⟨x, H2, I2, r2, a, ex, ea, q⟩ => ?_) hs
  subst ex
  obtain rfl : u = Value.ref a := r2
  exact first_put b T I2 ea hno r1 fun dx s' n ne J => ⟨σ, _, J, q dx n ne⟩
/-- C(v, ..), C's own __init__ keeping sp -/
theorem mk_call {CX : CXT} {fI : Addr} {k : Nat} {fd : FuncData} {ps : List Str} {sp : Sp} {us : List Value} {vs : List V} {Q : XK} (b : ExB B newId initId tl) (T : OexG X.K C newId tl) (iC : PySem.W.findIn X.K (.ref C) "__init__" = some (some (.ref fI))) (tI : PySem.W.typeIn X.K (.ref fI) = some (.type "function"))
    (F1 : FnOk X.prog X.w X.K X.mg X.base CX k fI fd ps sp) (hr : Room (k + 1) X.A) (hb : Binds X.K fd ps []) (hx : Passes CX X (fun _ _ _ => False)) (I1 : Inv X pins σ H s) (r1 : Vals vs us) (hz : vs.length ≤ 1000)
    (q1 : ∀ a, H a = none → sp (.ref a :: vs) (upd H a (exo a C none)) (fun v H2 => v = .non ∧ ∃ (d : Addr) (fs : List (Str × V)), H2 a = some (exo a C (some d)) ∧ H2 d = some (exd d fs) ∧ H d = none ∧ Q (.ref C) (some d) (upd (del H2 a) d (.xd fs))) (fun _ _ _ => False)) :
    wpAny (model X.prog X.w) X.A (call (.ref C) us) (MkP X pins σ Q) X.xe s := by
  obtain ⟨nm, q, N, bs, bm, sn, sub, ab, col, dd, k0, k1, k2, k3, k5, hC, hbm⟩ := T.cls
  obtain ⟨hp, g, dr, tk, os⟩ := s
  have up1 : hp.objs.size ≤ hp.objs.size + 1 := Nat.le_succ _
  have at_a := q1 (hp.objs.size + 1) (I1.hok.fresh up1)
  have kk : ∀ c o, hp.get? c = some o → ((hp.push (PySem.W.kdv_tup us)).push (PySem.HandSPX.excO C hp.objs.size)).get? c = some o := fun c o e => Heap.get?_push_of_some _ (Heap.get?_push_of_some _ e)
  have got : ((hp.push (PySem.W.kdv_tup us)).push (PySem.HandSPX.excO C hp.objs.size)).get? (hp.objs.size + 1) = some (PySem.HandSPX.excO C hp.objs.size) := by heap_get
  have I2 : Inv X pins σ (upd H (hp.objs.size + 1) (exo (hp.objs.size + 1) C none)) ⟨(hp.push (PySem.W.kdv_tup us)).push (PySem.HandSPX.excO C hp.objs.size), g, dr, tk, os⟩ :=
    I1.laid (t' := tk) (a := hp.objs.size + 1) (o := exo (hp.objs.size + 1) C none) kk up1 (exo_ok got)
  have r2 : Vals (V.ref (hp.objs.size + 1) :: vs) (Value.ref (hp.objs.size + 1) :: us) := .cons rfl r1
  have hl : ((Value.ref (hp.objs.size + 1) :: us) ++ []).length = ps.length := by
    rw [List.append_nil, ← r2.length]
    exact F1.len _ _ _ _ at_a
  have hus : us.length ≤ sizeLine := by
    rw [← Paired.length r1, sizeLine_eq]
    omega
  refine wpAny_call (PySem.HandSPX.call_own b.F (fun x => hbm.has x) (I1.kIn _ _ hC) (PySem.W.looks_findIn I1.kIn iC) (fun self => PySem.W.bind_fn I1.kIn self tI) hus
    (codeAny_mono (F1.run _ X.stack _ _ ⟨Value.ref (hp.objs.size + 1) :: us, []⟩ (Value.ref (hp.objs.size + 1) :: us) _ _ (fun _ _ _ => False) (hr.make C us []) (I2.env0.make C us [])
      (by have z := hb _ (Value.ref (hp.objs.size + 1) :: us) I2.kIn hl; rw [List.append_nil] at z; exact z) r2 at_a) fun r s' hq' => ?_))
  cases r with
  | error er => exact hx pins σ _ _ er s' I2 hq'
  | ok fl =>
    cases fl with
    | ret u =>
      obtain ⟨v, H2, os2, bare2, un2, hok2, rv, ev, d, fs, ea, ed, hd1, q2⟩ := hq'
      subst ev
      obtain ⟨h2, g2, d2, t2, os'⟩ := s'
      exact ⟨rv, mk_end (raises_own T.exC T.tyC) I1 up1 kk un2 hok2 os2 bare2 ea ed hd1 q2⟩
    | next => exact False.elim hq'
    | brk => exact False.elim hq'
    | cont => exact False.elim hq'
end
/-! ### raise -/
/-- C(v, ..) makes an exception whose fields are the values -/
def MkX (X : Cx) (c : Cl) : Prop := ∀ (pins : List (Addr × Obj)) (s : Shared) (σ : L2.St) (H : Hp) (vs : List V) (us : List Value) (Q : XK), Inv X pins σ H s → Vals vs us → vs.length = c.fl.length →
  (∀ d fv, H d = none → (∀ (i : Nat) (f : Str), c.fl[i]? = some f → fv.lookup f = vs[i]?) → Q (.ref (cAd X.K c)) (some d) (upd H d (.xd fv))) → wpAny (model X.prog X.w) X.A (call (.ref (cAd X.K c)) us) (MkP X pins σ Q) X.xe s
def sRaise (c : Cl) : MS := fun δ W => .ex c [] δ W
def sRaiseI (c : Cl) (r : MA) : MS := fun δ W => (r δ W).toS δ fun ds W1 => if c.fl ≠ [] ∧ ds.length = c.fl.length then .ex c ds δ W1 else .bad
/-- an own exception class without own __init__ -/
structure ExcO (K : PySem.W.Frag) (mg : Str → Option Value) (c : Cl) : Prop where
  fl : c.fl = []
  gC : mg c.nm = some (.ref (cAd K c))
  base : ∃ B newId initId tl, ExcBaseFacts B newId initId tl ∧ PySem.W.excIn K (cAd K c) tl newId = true
  kC : PySem.W.keepIn K (.ref (cAd K c)) = true
  r1 : PySem.W.subIn K (.ref (cAd K c)) (.type "BaseException") = some true
  r2 : PySem.W.typeIn K (.ref (cAd K c)) = some (.type "type")
section
variable {X : Cx} {Wx : WX} {c : Cl} {p p2 pos pos2 : Pos} {e : Expr} {es : List Expr} {r : MA}
theorem repX_new {K : PySem.W.Frag} {μ : Lo} {H : Hp} {W : Wo} {vs : List V} {ds : List D} {d : Addr} {fv : List (Str × V)} (S : RepS K μ H W) (rs : Reps K μ H vs ds) (h1 : c.fl ≠ []) (h2 : ds.length = c.fl.length) (hd : H d = none)
    (hf : ∀ (i : Nat) (f : Str), c.fl[i]? = some f → fv.lookup f = vs[i]?) : RepX K μ (upd H d (.xd fv)) (.ref (cAd K c)) (some d) c ds :=
  ⟨rfl, fun _ => ⟨rfl, .inr ⟨h1, h2, d, fv, vs, rfl, upd_same, (S.notMem hd).1, hf, Reps.ext (Ext.new hd) rs⟩⟩⟩
theorem pms_raise {x m : Str} {j : Nat} (T : ExcO X.K X.mg c) (hc : X.calm = true) (tk : Takes X Wx) (hx : x = c.nm := by rfl) (hg : Gl X x := by rfl) (hdb : (x == ("__debug__" : Str)) = false := by decide) :
    PMS X Wx (.Raise (some (.Call (.Name x p) [.Constant (.str m) j p2] [] pos)) none pos2) (sRaise c) := by
  obtain ⟨B, newId, initId, tl, F, q⟩ := T.base
  refine PS.imp (ps_raise hc tk (pmk_own F q (by rw [hx]; exact T.gC) T.kC (raises_own T.r1 T.r2) hg hdb)) fun D σ H ⟨μ, W, δ, S, E, p⟩ => ?_
  exact p _ _ σ μ H (Ext.refl _ _) S E ⟨rfl, fun _ => ⟨rfl, .inl ⟨T.fl, rfl, rfl⟩⟩⟩
theorem pms_raiseI {x : Str} (T : MkX X c) (gC : X.mg c.nm = some (.ref (cAd X.K c))) (kC : PySem.W.keepIn X.K (.ref (cAd X.K c)) = true) (hc : X.calm = true) (tk : Takes X Wx) (ha : PMA X Wx (e :: es) r) (hx : x = c.nm := by rfl) (hl : (e :: es).length = c.fl.length := by rfl) (hg : Gl X x := by rfl) (hdb : (x == ("__debug__" : Str)) = false := by decide)
    (he : starEach (e :: es) X.env = (false, eval e X.env) :: starEach es X.env := by rfl) (hpl : (backTo pos (starEach es X.env)).any (·.1) = false := by rfl) :
    PMS X Wx (.Raise (some (.Call (.Name x p) (e :: es) [] pos)) none pos2) (sRaiseI c r) := by
  have mk : PMk X (.Call (.Name x p) (e :: es) [] pos) (fun σ H Q => tM X.K (RL X.K) r Wx σ H fun vs H1 => vs.length = c.fl.length ∧ ∀ d fv, H1 d = none → (∀ (i : Nat) (f : Str), c.fl[i]? = some f → fv.lookup f = vs[i]?) → Q (.ref (cAd X.K c)) (some d) (upd H1 d (.xd fv))) := by
    intro pins s σ H Q I h
    refine wpAny_Call_Name_kw (ld_glob I hg (by rw [hx]; exact gC) ?_ hdb)
    exact PySem.W.callWith_K (h₀ := X.base) I.ok.mod.kin kC (thn (ha.pa.run pos pins s σ H _ I h) fun us s1 ⟨vs, H1, I1, r1, hz, q1⟩ => ⟨I1.kIn, T pins s1 σ H1 vs us Q I1 r1 hz q1⟩) he hpl
  refine PS.imp (ps_raise hc tk mk) fun D σ H h => tS.bind h fun μ δ vs H1 μ1 W1 ds x1 S1 E1 rs q => ?_
  by_cases hcd : c.fl ≠ [] ∧ ds.length = c.fl.length
  · rw [if_pos hcd] at q
    refine ⟨by rw [rs.length]; exact hcd.2, fun d fv hd hf => q _ _ σ μ1 _ (Ext.new hd) (S1.new hd) (E1.ext (Ext.new hd)) (repX_new S1 rs hcd.1 hcd.2 hd hf)⟩
  · rw [if_neg hcd] at q
    exact q.elim
end
/-- such a class of one field, and its __init__ -/
structure ExcI (P : Program) (w : World) (K : PySem.W.Frag) (mg : Str → Option Value) (base : Heap) (c : Cl) : Prop where
  mkx : ∀ X : Cx, X.prog = P → X.w = w → X.K = K → X.mg = mg → X.base = base → Room 2 X.A → MkX X c
  gC : mg c.nm = some (.ref (cAd K c))
  kC : PySem.W.keepIn K (.ref (cAd K c)) = true
section
variable {P : Program} {w : World} {K : PySem.W.Frag} {mg : Str → Option Value} {base : Heap} {c : Cl} {B newId initId : String} {tl : List Value}
theorem excI_of {f : Str} {fI : Addr} {fd : FuncData} (b : ExB B newId initId tl) (T : OexG K (cAd K c) newId tl) (hfl : c.fl = [f]) (gC : mg c.nm = some (.ref (cAd K c))) (iC : PySem.W.findIn K (.ref (cAd K c)) "__init__" = some (some (.ref fI))) (tI : PySem.W.typeIn K (.ref fI) = some (.type "function"))
    (F : FnOk P w K mg base (L2.CX P w) 1 fI fd ["self", f] (spI f (cAd K c))) (hb : Binds K fd ["self", f] []) : ExcI P w K mg base c where
  gC := gC
  kC := T.kC
  mkx := by
    rintro X rfl rfl rfl rfl rfl hr pins s σ H vs us Q I r hl q
    rw [hfl] at hl
    match vs, hl with
    | [y], _ =>
      refine mk_call b T iC tI F hr hb (fun pins σ H s e s' _ ⟨_, _, _, _, _, _, _, _, _, _, _, _, z⟩ => z.elim) I r (by show 1 ≤ 1000; decide) fun a ha => ⟨a, y, rfl, upd_same, fun dx hdx hne => ?_⟩
      have hH : H dx = none := by rw [upd_ne hne] at hdx; exact hdx
      refine ⟨rfl, dx, [(f, y)], upd_same, by rw [upd_ne hne, upd_same], hH, ?_⟩
      have e : upd (del (upd (upd (upd H a (exo a (cAd X.K c) none)) dx (exd dx [(f, y)])) a (exo a (cAd X.K c) (some dx))) a) dx (.xd [(f, y)]) = upd H dx (.xd [(f, y)]) := by
        funext z
        unfold upd del
        by_cases h1 : z = dx
        · rw [if_pos h1, if_pos h1]
        · rw [if_neg h1, if_neg h1]
          by_cases h2 : z = a
          · rw [if_pos h2, h2, ha]
          · rw [if_neg h2]
            show (if z = a then _ else if z = dx then _ else if z = a then _ else H z) = H z
            rw [if_neg h2, if_neg h1, if_neg h2]
      rw [e]
      refine q dx _ hH fun i g hg => ?_
      rw [hfl] at hg
      match i, hg with
      | 0, hg =>
        cases hg
        show List.lookup f [(f, y)] = some y
        rw [List.lookup_cons, beq_self_eq_true]
theorem initI_of {f : Str} {fI : Addr} {fd : FuncData} {x qual : Str} {st : Stmt} {kws : List (Str × V)} {p1 p2 p3 p4 : Pos} (b : ExB B newId initId tl) (T : OexG K (cAd K c) newId tl) (hno : PySem.W.findIn K (.ref (cAd K c)) f = some none)
    (F : FunD K x qual (defArgs st) (defBody st) (defScope st) [] kws fI fd) (S : FnScope ["self", f] ["self", f] (defScope st)) (v0 : Vis (defScope st) "self") (v1 : Vis (defScope st) f) (hd : (f == ("__debug__" : Str)) = false) (hcd : (f == ("__classdict__" : Str)) = false)
    (hbody : defBody st = [.Assign [.Attribute (.Name "self" p1) f p2] (.Name f p3) p4])
    (hsw : ∀ env, swapsWith (.Name f p3) (some (.Attribute (.Name "self" p1) f p2)) p4.line env = pure false) : FnOk P w K mg base (L2.CX P w) 1 fI fd ["self", f] (spI f (cAd K c)) := by
  refine okM F S (fun vs H Q E h => ?_) fun cdv A outer s H vs Q E hr h => ?_
  · obtain ⟨a, y, rfl, _⟩ := h
    rfl
  · obtain ⟨a, y, rfl, ea, k⟩ := h
    rw [hbody]
    refine ⟨_, pss_one (ps_first b T hno (pe_var (i := 0) rfl v0) (pe_var (i := 1) rfl v1 hd hcd) (hsw _)), ?_⟩
    exact ⟨y, rfl, _, rfl, a, rfl, ea, k⟩
end
end ML
set_option Elab.async false
set_option linter.all false
set_option maxRecDepth 100000
set_option maxHeartbeats 2000000
namespace ML
open PySem PySem.Spec PyProof.Rows L2
/-! ### expressions that leave the table of generators as it is -/
def PGe (X : Cx) (e : Expr) (t : TE) : Prop := ∀ (pins : List (Addr × Obj)) (s : Shared) (σ : L2.St) (H : Hp) (Q : VK), Inv X pins σ H s → t σ H Q → wpAny (model X.prog X.w) X.A (eval e X.env) (fun u s' => s'.gens = s.gens ∧ EP X pins σ Q u s') X.xe s
def PGt (X : Cx) (e : Expr) (t : TT) : Prop := ∀ (pins : List (Addr × Obj)) (s : Shared) (σ : L2.St) (H : Hp) (Q : Bool → Hp → Prop), Inv X pins σ H s → t σ H Q → wpAny (model X.prog X.w) X.A (isTrue e X.env (eval e X.env)) (fun b s' => s'.gens = s.gens ∧ TP X pins σ Q b s') X.xe s
def PGa (X : Cx) (es : List Expr) (t : TA) : Prop := ∀ (pos : Pos) (pins : List (Addr × Obj)) (s : Shared) (σ : L2.St) (H : Hp) (Q : List V → Hp → Prop), Inv X pins σ H s → t σ H Q → wpAny (model X.prog X.w) X.A (spliced (backTo pos (starEach es X.env))) (fun us s' => s'.gens = s.gens ∧ AP X pins σ Q us s') X.xe s
def OpG (X : Cx) (f : Value → Value → Sem Value) (r : R2) : Prop :=
  ∀ (pins : List (Addr × Obj)) (s : Shared) (σ : L2.St) (H : Hp) (x y : V) (v u : Value) (Q : VK), Inv X pins σ H s → RelV x v → RelV y u → r x y H Q →
    wpAny (model X.prog X.w) X.A (f v u) (fun z s' => s'.gens = s.gens ∧ EP X pins σ Q z s') X.xe s
abbrev W0 : WX := fun _ _ _ _ => False
def PMg (X : Cx) (e : Expr) (m : ME) : Prop := PGe X e (tM X.K (RD X.K) m W0)
structure PMgA (X : Cx) (es : List Expr) (m : MA) : Prop where
  pa : PGa X es (tM X.K (RL X.K) m W0)
  len : ∀ δ W ds W', m δ W = .ok ds W' → ds.length = es.length
section
variable {X : Cx} {e a b : Expr} {pos : Pos} {es : List Expr} {t t' ta tb : TE}
theorem PGe.imp (h : PGe X e t) (i : ∀ σ H Q, t' σ H Q → t σ H Q) : PGe X e t' := fun pins s σ H Q I q => h pins s σ H Q I (i σ H Q q)
theorem pge_var {i : Nat} {x : Str} {pos : Pos} (hN : X.N[i]? = some x) (hv : Vis X.env.scope x) (hd : (x == ("__debug__" : Str)) = false := by decide) (hcd : (x == ("__classdict__" : Str)) = false := by decide) : PGe X (.Name x pos) (tVar i) := by
  intro pins s σ H Q I h
  obtain ⟨v, e, h⟩ := h
  obtain ⟨m, hn, hl⟩ := I.loc
  obtain ⟨u, r, l⟩ := hl i x v hN e hv
  have fin : s.gens = s.gens ∧ EP X pins σ Q u s := ⟨rfl, v, H, I, r, h⟩
  rcases l with ⟨hk, hm⟩ | ⟨hk, c, hc, hcell⟩
  · exact wpAny_Name (wpAny_loadName_local I.ok.kind hk hn hm fin) hd
  · rcases hk with hk | hk
    · exact wpAny_Name (wpAny_loadName_cell I.ok.kind hk hc hcell fin) hd
    · exact wpAny_Name (wpAny_loadName_free I.ok.kind hk hc hcell fin hcd) hd
theorem pge_int {i j pos} : PGe X (.Constant (.int i) j pos) (tC (.int i)) := fun _ _ _ H _ I h => wpAny_Constant_int ⟨rfl, .int i, H, I.tok _, ⟨_, rfl⟩, h⟩
theorem pge_op {op : Operator} {r : R2} (ho : OpG X (binaryOp op) r) (ha : PGe X a ta) (hb : PGe X b tb) : PGe X (.BinOp a op b pos) (tOp r ta tb) := by
  intro pins s σ H Q I h
  exact wpAny_BinOp (thn (ha pins s σ H _ I h) fun v s1 ⟨g1, x, H1, I1, r1, q1⟩ => thn (hb pins s1 σ H1 _ I1 q1) fun u s2 ⟨g2, y, H2, I2, r2, q2⟩ =>
    thn (ho pins s2 σ H2 x y v u Q I2 r1 r2 q2) fun z s3 ⟨g3, q3⟩ => ⟨g3.trans (g2.trans g1), q3⟩)
theorem pgt_cmp {op : CmpOp} {r : R2} (ho : OpG X (compareOp op) r) (ha : PGe X a ta) (hb : PGe X b tb) (hm : behindInMarks op b = false) : PGt X (.Compare a [op] [b] pos) (tTest (tOp r ta tb)) := by
  intro pins s σ H Q I h
  refine wpAny_isTrue_Compare1 (thn (ha pins s σ H _ I h) fun v s1 ⟨g1, x, H1, I1, r1, q1⟩ => thn (hb pins s1 σ H1 _ I1 q1) fun u s2 ⟨g2, y, H2, I2, r2, q2⟩ =>
    thn (ho pins s2 σ H2 x y v u _ I2 r1 r2 q2) fun c s3 ⟨g3, z, H3, I3, r3, k, e, q3⟩ => ?_) hm
  subst e
  cases r3
  exact wpAny_truthy_bool ⟨g3.trans (g2.trans g1), H3, I3, q3⟩
theorem pge_ixT {i : Nat} {j pos'} (ha : PGe X a ta) : PGe X (.Subscript a (.Constant (.int (i : Int)) j pos') pos) (tOp (rIxT X.K) ta (tC (.int i))) := by
  intro pins s σ H Q I h
  refine Subscript_ (thn (ha pins s σ H _ I h) fun v s1 ⟨g1, x, H1, I1, r1, q1⟩ => thn (pge_int pins s1 σ H1 _ I1 q1) fun u s2 ⟨g2, y, H2, I2, ry, q⟩ => ?_)
  obtain ⟨p, xs, k, z, rfl, rfl, hq, he, q⟩ := q
  cases r1
  obtain ⟨t, rfl⟩ := ry
  obtain ⟨its, r, pl, hz⟩ := I2.tuple hq
  obtain ⟨n, h1, h2, h3, h4, h5⟩ := atI_get he
  obtain ⟨w, ew, rw'⟩ := r.get h2
  have hl := r.length
  have hn := line63
  have fin : s2.gens = s.gens ∧ EP X pins σ Q w s2 := ⟨g2.trans g1, z, H2, I2, rw', q⟩
  exact subscriptTail_builtinR (x := w) pl.typeIs slot_tuple_getitem.lookup
    (getItem_tuple (j := n) (Q := fun r s' => r = w ∧ (s'.gens = s.gens ∧ EP X pins σ Q r s')) pl (by omega) (by omega) (by rw [List.size_toArray, ← hl]; exact h1) (by simpa using ew) ⟨rfl, fin⟩) rfl
theorem pga_nil : PGa X [] tNil := fun _ _ _ _ H Q I h => Calls.spliced_nil ⟨rfl, [], H, I, .nil, h⟩
theorem pga_cons {t : TA} (ha : PGe X e ta) (hr : PGa X es t) (hs : starEach (e :: es) X.env = (false, eval e X.env) :: starEach es X.env := by rfl) : PGa X (e :: es) (tCons ta t) := by
  intro pos pins s σ H Q I h
  rw [hs]
  show wpAny _ _ (spliced ((false, eval e X.env) :: backTo pos (starEach es X.env))) _ _ s
  refine Calls.spliced_cons (thn (ha pins s σ H _ I h) fun u s1 ⟨g1, x, H1, I1, r1, q1⟩ => ?_)
  exact thn (hr pos pins s1 σ H1 _ I1 q1) fun us s2 ⟨g2, xs, H2, I2, r2, q2⟩ => ⟨g2.trans g1, x :: xs, H2, I2, .cons r1 r2, q2⟩
theorem pge_tup {x1} {t : TA} (h : PGa X es t) : PGe X (.Tuple es x1 pos) (tTup t) := by
  intro pins s σ H Q I hq
  refine wpAny_Tuple_spliced (thn (h pos pins s σ H _ I hq) fun us s1 ⟨g1, xs, H1, I1, r, z, q⟩ => ⟨by rw [← r.length]; exact z, ?_⟩)
  have hf : H1 s1.heap.objs.size = none := I1.hok.fresh (Nat.le_refl _)
  refine ⟨g1, .ref s1.heap.objs.size, upd H1 s1.heap.objs.size (.tup xs), I1.laid (t' := s1.toks) (fun b u e => Heap.get?_push_of_some _ e) (Nat.le_refl _) ?_, rfl, q _ hf⟩
  exact ⟨z, us, r, ⟨_, Heap.get?_push_size _ rfl, rfl, _, rfl⟩⟩
/-! ### calls -/
abbrev SpQ := List V → Hp → VK → Prop
structure FnG (P : Program) (w : World) (K : PySem.W.Frag) (mg : Str → Option Value) (base : Heap) (k : Nat) (f : Addr) (fd : FuncData) (ps : List Str) (sp : SpQ) : Prop where
  len : ∀ vs H Q, sp vs H Q → vs.length = ps.length
  run : ∀ (A : Around) (outer : List PySem.Env) (s : Shared) (H : Hp) (args : Args) (us : List Value) (vs : List V) (Q : VK), Room k A → Env0 P w K mg base A outer s H → BindsTo s fd args (ps.zip us) → Vals vs us → sp vs H Q →
    codeAny (model P w) A (.call (.ref f) args) (fun r s' => match r with
      | .ok (.ret u) => s'.gens = s.gens ∧ CE outer P w H s Q u s'
      | _ => False) s
theorem run_fnG {k : Nat} {f : Addr} {fd : FuncData} {ps : List Str} {sp : SpQ} {pins : List (Addr × Obj)} {σ : L2.St} {H : Hp} {s : Shared} {Q : VK} {us : List Value} {vs : List V} (F : FnG X.prog X.w X.K X.mg X.base k f fd ps sp) (hr : Room k X.A) (hb : Binds X.K fd ps [])
    (I : Inv X pins σ H s) (r : Vals vs us) (h : sp vs H Q) : wpAny (model X.prog X.w) X.A (call (.ref f) us) (fun u s' => s'.gens = s.gens ∧ EP X pins σ Q u s') X.xe s := by
  have hl : us.length = ps.length := by rw [← r.length]; exact F.len _ _ _ h
  have hb' := hb s us I.kIn (by rw [List.append_nil]; exact hl)
  rw [List.append_nil] at hb'
  refine wpAny_call (codeAny_mono (F.run X.A X.stack s H ⟨us, []⟩ us vs Q hr I.env0 hb' r h) fun r s' hq => ?_)
  cases r with
  | error e => exact hq.elim
  | ok fl =>
    cases fl with
    | ret u => exact ⟨hq.1, I.after hq.2⟩
    | next => exact False.elim hq
    | brk => exact False.elim hq
    | cont => exact False.elim hq
def tCallG (sp : SpQ) (t : TA) : TE := fun σ H Q => t σ H fun vs H1 => sp vs H1 Q
theorem pge_call {k : Nat} {f : Addr} {fd : FuncData} {ps : List Str} {sp : SpQ} {x : Str} {p : Pos} {t : TA} (F : FnG X.prog X.w X.K X.mg X.base k f fd ps sp) (hr : Room k X.A) (hg : Gl X x) (hm : X.mg x = some (.ref f)) (hk : PySem.W.keepIn X.K (.ref f) = true) (hb : Binds X.K fd ps [])
    (ha : PGa X (e :: es) t) (hdb : (x == ("__debug__" : Str)) = false := by decide) (he : starEach (e :: es) X.env = (false, eval e X.env) :: starEach es X.env := by rfl) (hpl : (backTo pos (starEach es X.env)).any (·.1) = false := by rfl) :
    PGe X (.Call (.Name x p) (e :: es) [] pos) (tCallG sp t) := by
  intro pins s σ H Q I h
  refine wpAny_Call_Name_kw (ld_glob I hg hm ?_ hdb)
  refine PySem.W.callWith_K (h₀ := X.base) I.ok.mod.kin hk (thn (ha pos pins s σ H _ I h) fun us s1 ⟨g1, vs, H1, I1, r, q⟩ => ⟨I1.kIn, ?_⟩) he hpl
  exact thn (run_fnG F hr hb I1 r q) fun u s2 ⟨g2, z⟩ => ⟨g2.trans g1, z⟩
end
/-- a def that returns such an expression -/
theorem fnG_of {P : Program} {w : World} {K : PySem.W.Frag} {mg : Str → Option Value} {base : Heap} {k : Nat} {x qual : Str} {params : Arguments} {body : List Stmt} {scope : Scope} {f : Addr} {fd : FuncData} {kws : List (Str × V)} {N ps : List Str} {sp : SpQ} {e : Expr} {pos : Pos}
    (F : FunD K x qual params body scope [] kws f fd) (S : FnScope N ps scope) (len : ∀ vs H Q, sp vs H Q → vs.length = ps.length) (hb : body = [.Return (some e) pos])
    (hbody : ∀ (cdv : Value) (A : Around) (outer : List PySem.Env) (s : Shared) (H : Hp) (vs : List V) (Q : VK), Room k (A.deeper (envOfC qual scope s.heap.objs.size f cdv)) → sp vs H Q →
      ∃ t, PGe (cxOf (L2.CX P w) P w K mg base N qual scope f cdv A outer s H (fun _ _ _ => False)) e t ∧ t (L2.start N vs) H Q) : FnG P w K mg base (k + 1) f fd ps sp := by
  obtain ⟨oc, od, dV, kV, doc, pm, an, cdv, ct, osl, rfl, lk, hcd, _, _⟩ := F.ex
  subst hb
  refine ⟨len, fun A outer s H args us vs Q hr e0 hb r hsp => ?_⟩
  have hl := len _ _ _ hsp
  have KX : K.In s.heap := e0.mod.kin.keeps fun b o e => (e0.bs b o e).1
  have lim : s.heap.NoLimit := e0.mod.nolimit.keeps fun b o e => (e0.bs b o e).1
  have hkind : ∀ y ∈ ps.zip us, scope.names.lookup y.1 = some .local ∨ (scope.names.lookup y.1 = some .cell ∧ ((cellsFrom (s.heap.objs.size + 1) scope.names []).lookup y.1).isSome = true) := fun ⟨n, v⟩ hy => by
    rcases S.par n (List.of_mem_zip hy).1 with q | q
    · exact .inl q
    · exact .inr ⟨q, PySem.W.cellsFrom_some _ _ _ (.inl q)⟩
  refine codeAny_call_function hr.depth (KX _ _ lk) rfl S.co S.gen rfl (PySem.W.codeRec_of KX hcd) (hb _ _ _ _ ?_)
  refine wpAny_newFunctionEnv_cells S.kind hkind fun env he s1 x => ?_
  subst he
  refine ⟨lim.keeps x.toInCall.keep, codeAny_func ?_⟩
  obtain ⟨t, ht, hq⟩ := hbody cdv A outer s H vs Q (hr.deeper _) hsp
  have I : Inv (cxOf (L2.CX P w) P w K mg base N qual scope f cdv A outer s H (fun _ _ _ => False)) [] (L2.start N vs) H s1 := inv_start S hr.hd e0 hl r x
  have gs : s1.gens = s.gens := by obtain ⟨h1, tk, e1, _⟩ := x.done; rw [e1]
  refine wpAny_execs_cons (wpAny_Return_some (wpAny_mono (ht [] s1 (L2.start N vs) H Q I hq) (fun u s' ⟨g, v, H', J, rv, q⟩ => ?_) fun e s' hx => ?_))
  · exact ⟨g.trans gs, v, H', J.os, J.bare, J.base, J.hok, rv, q⟩
  · refine wpAny_mono hx (fun _ s'' hc => ?_) fun _ s'' hc => ?_
    · obtain ⟨_, _, _, _, _, _, _, _, _, _, _, _, z⟩ := hc
      exact z.elim
    · obtain ⟨_, _, _, _, _, _, _, _, _, _, _, _, z⟩ := hc
      exact z.elim
/-! ### by mirrors -/
theorem op_subG {X : Cx} : OpG X (binaryOp .Sub) (rM X.K subD) := fun pins s σ H x y v u Q I rx ry h => by
  obtain ⟨μ, W, d, e, S, rd, re, p⟩ := h
  unfold subD at p
  split at p
  · cases rd; cases re
    obtain ⟨t, rfl⟩ := rx
    obtain ⟨t', rfl⟩ := ry
    exact sub_int ⟨rfl, .int (_ - _), H, I.tok _, ⟨_, rfl⟩, Pst.val S p rfl⟩
  · exact p.elim
def mulI : DOp := fun d e W => match d, e with
  | .int i, .int j => if big i j then .ok (.int (i * j)) W else .bad
  | _, _ => .bad
theorem calm_mulI (d e : D) (W : Wo) : Calm (mulI d e W) := by
  unfold mulI
  split
  · exact .ite trivial trivial
  · trivial
theorem op_mulG {X : Cx} : OpG X (binaryOp .Mult) (rM X.K mulI) := fun pins s σ H x y v u Q I rx ry h => by
  obtain ⟨μ, W, d, e, S, rd, re, p⟩ := h
  unfold mulI at p
  split at p
  · obtain ⟨hc, p⟩ := p.ite
    cases rd; cases re
    obtain ⟨t, rfl⟩ := rx
    obtain ⟨t', rfl⟩ := ry
    refine mul_int ⟨rfl, .int (_ * _), H, I.tok _, ⟨_, rfl⟩, Pst.val S p rfl⟩ (CMulW.ok ?_)
    have hc' := of_decide_eq_true hc
    unfold CMulW
    omega
  · exact p.elim
def idxT : DOp := fun d e W => match d, e with
  | .tup xs, .int i => match atI xs i with
    | some x => .ok x W
    | none => .bad
  | _, _ => .bad
theorem calm_idxT (d e : D) (W : Wo) : Calm (idxT d e W) := by
  unfold idxT
  split
  · split <;> trivial
  · trivial
section
variable {X : Cx} {e a b : Expr} {pos : Pos} {es : List Expr} {m ma mb : ME} {r : MA}
theorem gm_var (i : Nat) {x : Str} (hN : X.N[i]? = some x := by rfl) (hv : Vis X.env.scope x := by first | exact Or.inl rfl | exact Or.inr (Or.inl rfl) | exact Or.inr (Or.inr rfl)) (hd : (x == ("__debug__" : Str)) = false := by decide)
    (hcd : (x == ("__classdict__" : Str)) = false := by decide) : PMg X (.Name x pos) (mVar i) := (pge_var hN hv hd hcd).imp fun σ H Q h => by
  obtain ⟨μ, W, δ, S, E, p⟩ := h
  unfold mVar at p
  split at p
  · rename_i d hd
    obtain ⟨v, e, r⟩ := E.at_ i d hd
    exact ⟨v, e, p v μ H (Ext.refl _ _) S r⟩
  · exact p.elim
theorem gm_int {i j} : PMg X (.Constant (.int i) j pos) (mC (.int i)) := pge_int.imp fun σ H Q h => tM.pure (d := D.int i) h fun _ => rfl
theorem gm_op {op : Operator} {f : DOp} (ho : OpG X (binaryOp op) (rM X.K f)) (hc : ∀ d e W, Calm (f d e W)) (ha : PMg X a ma) (hb : PMg X b mb) : PMg X (.BinOp a op b pos) (mBin f ma mb) := (pge_op ho ha hb).imp fun σ H Q h => mBin_imp hc h
theorem gm_ix {i : Nat} {j pos'} (ha : PMg X a ma) : PMg X (.Subscript a (.Constant (.int (i : Int)) j pos') pos) (mBin idxT ma (mC (.int (i : Int)))) := (pge_ixT ha).imp fun σ H Q h => tM.bind h fun μ δ x H1 μ1 W1 d x1 S1 E1 r1 p => by
  have p : Pst X.K (RD X.K) μ1 H1 Q _ (idxT d (.int (i : Int)) W1) := p
  unfold idxT at p
  split at p
  · rename_i xs n hk _
    cases hk
    split at p
    · rename_i c hcz
      obtain ⟨q, vs, rfl, hp, rs⟩ := r1
      obtain ⟨v, ev, rv⟩ := rs.at hcz
      exact ⟨q, vs, i, v, rfl, rfl, hp, ev, p v μ1 H1 (Ext.refl _ _) S1 rv⟩
    · exact p.elim
  · exact p.elim
theorem gma_nil : PMgA X [] aNil := ⟨fun pos pins s σ H Q I h => pga_nil pos pins s σ H Q I (tM.pure (d := ([] : List D)) (v := ([] : List V)) h fun _ => rfl), fun _ _ _ _ e => by cases e; rfl⟩
theorem gma_cons (ha : PMg X e m) (hr : PMgA X es r) (hs : starEach (e :: es) X.env = (false, eval e X.env) :: starEach es X.env := by rfl) : PMgA X (e :: es) (aCons m r) := by
  refine ⟨?_, fun δ W ds W' h => ?_⟩
  rotate_left
  · unfold aCons at h
    cases e1 : m δ W with
    | ok d W1 =>
      rw [e1] at h
      have h : ((r δ W1).bind fun ds W2 => Res.ok (d :: ds) W2) = .ok ds W' := h
      cases e2 : r δ W1 with
      | ok ds2 W2 =>
        rw [e2] at h
        cases h
        rw [List.length_cons, List.length_cons, hr.len δ W1 ds2 _ e2]
      | ex c fs W2 => rw [e2] at h; cases h
      | bad => rw [e2] at h; cases h
    | ex c fs W2 => rw [e1] at h; cases h
    | bad => rw [e1] at h; cases h
  exact fun pos pins s σ H Q I h => pga_cons ha hr.pa hs pos pins s σ H Q I (tM.bind h fun μ δ x H1 μ1 W1 d x1 S1 E1 r1 p => ⟨μ1, W1, δ, S1, E1, (Pst.bind p).imp (fun y μ' H2 _ ⟨μ2, W2, ds, x2, S2, r2, q⟩ =>
    Pst.now (R := RL X.K) S2 (b := x :: y) (a := d :: ds) ⟨x, y, rfl, Rep.ext x2 r1, r2⟩ q) fun _ _ _ h => h⟩)
theorem gm_tup {k} (h : PMgA X es r) : PMg X (.Tuple es k pos) (mTup r) := (pge_tup h.pa).imp fun σ H Q h => tM.bind h fun μ δ xs H1 μ1 W1 ds x1 S1 E1 r1 p => by
  obtain ⟨hc, p⟩ := p.ite
  exact ⟨by rw [r1.length]; exact hc, Pst.newT S1 r1 p⟩
end
def spG (K : PySem.W.Frag) (n : Nat) (m : MF) : SpQ := fun vs H Q => spN K n m vs H Q fun _ _ _ => False
/-- such a def as a global -/
def GlG (P : Program) (w : World) (K : PySem.W.Frag) (mg : Str → Option Value) (base : Heap) (k : Nat) (x : Str) (n : Nat) (m : MF) : Prop := ∃ f fd ps, mg x = some (.ref f) ∧ PySem.W.keepIn K (.ref f) = true ∧ FnG P w K mg base k f fd ps (spG K n m) ∧ Binds K fd ps []
theorem gm_call {X : Cx} {x : Str} {p pos : Pos} {e : Expr} {es : List Expr} {m : MF} {r : MA} {k : Nat} (G : GlG X.prog X.w X.K X.mg X.base k x (e :: es).length m) (hr : Room k X.A) (ha : PMgA X (e :: es) r) (hg : Gl X x := by rfl)
    (hdb : (x == ("__debug__" : Str)) = false := by decide) (he : starEach (e :: es) X.env = (false, eval e X.env) :: starEach es X.env := by rfl) (hpl : (backTo pos (starEach es X.env)).any (·.1) = false := by rfl) :
    PMg X (.Call (.Name x p) (e :: es) [] pos) (mCall m r) := by
  obtain ⟨f, fd, ps, hm, hk, F, hb⟩ := G
  refine (pge_call F hr hg hm hk hb ha.pa hdb he hpl).imp fun σ H Q h => ?_
  obtain ⟨μ, W, δ, S, E, q⟩ := h
  have q' : Pst X.K (RD X.K) μ H Q (fun c d H' => W0 c d σ H') ((r δ W).bind m) := q
  refine ⟨μ, W, δ, S, E, ?_⟩
  cases er : r δ W with
  | ok ds W1 =>
    rw [er] at q'
    exact fun vs μ1 H1 x1 S1 r1 => ⟨by rw [r1.length]; exact ha.len δ W ds W1 er, μ1, W1, ds, S1, r1, Pst.shift x1 q'⟩
  | ex c fs W1 =>
    rw [er] at q'
    exact q'
  | bad =>
    rw [er] at q'
    exact q'
theorem glG {P : Program} {w : World} {K : PySem.W.Frag} {mg : Str → Option Value} {base : Heap} {x : Str} {st : Stmt} {kws : List (Str × V)} {N ps : List Str} {k : Nat} {m : ME} {e : Expr} {pos : Pos} (A : FnAt K mg x st [] kws) (S : FnScope N ps (defScope st)) (hl : N.length = ps.length)
    (hb : ∀ (kV doc pm : Value) (an : Option Addr) (cdv ct : Value) (us : List Value), us.length = ps.length → bindArgs (PySem.W.fnOf x x (defArgs st) (defBody st) (defScope st) .none kV doc pm an cdv ct) ⟨us, []⟩ = pure (ps.zip us)) (hB : defBody st = [.Return (some e) pos])
    (hbody : ∀ (f : Addr) (cdv : Value) (A : Around) (outer : List PySem.Env) (s : Shared) (H : Hp), Room k (A.deeper (envOfC x (defScope st) s.heap.objs.size f cdv)) →
      PMg (cxOf (L2.CX P w) P w K mg base N x (defScope st) f cdv A outer s H (fun _ _ _ => False)) e m) : GlG P w K mg base (k + 1) x ps.length (fun ds W => m (ds.map some) W) := by
  obtain ⟨f, fd, hm, F⟩ := A
  refine ⟨f, fd, ps, hm, F.kp, fnG_of F S (fun vs H Q h => h.1) hB (fun cdv A outer s H vs Q hr h => ⟨_, hbody f cdv A outer s H hr, ?_⟩), F.bindsN hb⟩
  obtain ⟨hv, μ, W, ds, S1, r, p⟩ := h
  have es : L2.start N vs = vs.map some ++ List.replicate (N.length - ps.length) none := by
    unfold L2.start
    rw [hv]
  have ed : (ds.map some ++ List.replicate (N.length - ps.length) none : List (Option D)) = ds.map some := by
    rw [hl, Nat.sub_self]
    exact List.append_nil _
  rw [es]
  refine ⟨μ, W, _, S1, RepE.args r _, ?_⟩
  rw [ed]
  exact p
end ML
set_option Elab.async false
set_option linter.all false
set_option maxRecDepth 100000
set_option maxHeartbeats 2000000
namespace ML
open PySem PySem.Spec PyProof.Rows L2
open Sem (wp)
open AutoSeq1 (wpAny_loadPart')
/-! ### enumerate over a generator -/
section
variable {P : Program} {w : World} {A : Around} {E : Value → Shared → Prop} {s : Shared}
theorem nextOf_gen {a : Addr} {g n : Nat} {gs : GenState} {F : Nat → Shared → Shared → Prop} {Y : Protocol} {Q : Value → Shared → Prop} (hh : A.handled = none)
    (hl : s.heap.NoLimit) (hroom : A.depth < recursionLimit) (hg : s.heap.IsGen a g) (hgs : s.gens[g]? = some gs)
    (hgo : gs.Goes (model P w) A.in1 (fun n s₀ r s₁ => (r = .ok (.ret .none) ∨ r = .ok .next) ∧ F n s₀ s₁) Y n (.send .none) (s.setGen g .running))
    (hY : ∀ v s₁ gs', gs'.bare = true → Y (n - 1) (s.setGen g .running) v s₁ (fun r' s'' => match n with
        | 0 => False
        | m + 1 => gs'.Goes (model P w) A.in1 (fun n s₀ r s₁ => (r = .ok (.ret .none) ∨ r = .ok .next) ∧ F n s₀ s₁) Y m r' s'') → Q v (s₁.setGen g gs'))
    (hP : ∀ s₁, F n (s.setGen g .running) s₁ → ∀ h' x, (∀ b o, s₁.heap.get? b = some o → h'.get? b = some o) → (∃ o, h'.get? x = some o ∧ o.cls = .type "StopIteration") → E (.ref x) { s₁.setGen g .finished with heap := h' }) :
    wpAny (model P w) A (Builtin.SmallTypes.nextOf (.ref a)) Q E s := by
  unfold Builtin.SmallTypes.nextOf
  refine wpAny_bind (wpAny_callSpecial?_slot (name := Str.ofString "__next__") hg.typeIs slot_gen_next
    (wpAny_call_entry slot_gen_next hg.typeIs entry_gen_next ?_ (args_gen_next _)))
  show wpAny _ A.in1 (Builtin.Generator.genWake (.ref a) (.send .none)) _ _ s
  unfold Builtin.Generator.genWake
  refine wpAny_bind (wpAny_holding (wpAny_genNumber hg (wpAny_bind (wpAny_genState hgs ?_))))
  cases gs with
  | running => exact hgo.elim
  | finished => exact hgo.elim
  | _ =>
    refine wpAny_bind (wpAny_roomToWake hl hroom ?_)
    show wpAny _ A.in1 (.resume g (.send .none) [] _) _ _ s
    refine wpAny_resumeQ hgs hgo (fun x s₁ hx => ?_) (fun v s₁ gs' hb hv => ?_)
    · obtain ⟨hr, hp⟩ := hx
      have hres : End.result (.ret x) = .returned .none := by
        rcases hr with hr | hr <;> rw [hr] <;> rfl
      first | rw [hres] | simp only [hres]
      show wpAny _ A.in1 (newExc (.type "StopIteration") [] >>= _) _ _ _
      refine wpAny_bind ?_
      simp only [newExc, newTuple]
      refine wpAny_bind (wpAny_newObj_type ?_ (by size_fits))
      refine wpAny_bind (m := firstArgMember _ _) (wpAny_of_eq (a := Value.none) (by first | rfl | (simp only [firstArgMember]; rfl)) ?_)
      refine wpAny_newObj_type ?_ (by size_fits)
      simp only [raiseNew]
      refine wpAny_bind (wpAny_bind (wpAny_handled ?_))
      first | rw [show A.in1.handled = none from hh] | rw [hh]
      refine wpAny_throw ?_
      exact hP s₁ hp _ _ (fun b o hb => Heap.get?_push_of_some _ (Heap.get?_push_of_some _ hb)) ⟨_, Heap.get?_push_size _ rfl, rfl⟩
    · exact wpAny_pure ⟨v, rfl, wpAny_pure (hY v s₁ gs' hb hv)⟩
theorem enum_next_any {e it : Addr} {i : Int} {old : Value} {Q : Option Value → Shared → Prop} (he : IsEnum s.heap e it i old)
    (hn : wpAny (model P w) A.in1 (Builtin.SmallTypes.nextOf (.ref it)) (fun x s₁ => IsEnum s₁.heap e it i old ∧ ∀ h' tk, IsEnumOut h' e it (i + 1) x s₁.heap.objs.size →
        h'.get? s₁.heap.objs.size = some { cls := .type "tuple", data := .seq #[.int i tk, x] } → h'.objs.size = s₁.heap.objs.size + 1 → (∀ b o, b ≠ e → s₁.heap.get? b = some o → h'.get? b = some o) →
        Q (some (.ref s₁.heap.objs.size)) { s₁ with heap := h', toks := tk + 1 })
      (fun x s₁ => (∃ a o, x = .ref a ∧ s₁.heap.get? a = some o ∧ o.cls = .type "StopIteration") ∧ Q none s₁) s) :
    wpAny (model P w) A (pyNext (.ref e)) Q E s := by
  have hT : s.TypeIs (.ref e) "enumerate" := ⟨_, he, rfl⟩
  unfold pyNext
  refine wpAny_bind (wpAny_attempt (wpAny_callSpecial?_slot (name := Str.ofString "__next__") hT F.slot_enumerate_next
    (wpAny_call_entry F.slot_enumerate_next hT F.entry_enumerate_next ?_ (F.args_enumerate_next_1 _))))
  show wpAny _ _ (field (.ref e) 2 >>= _) _ _ _
  refine wpAny_bind (wpAny_field he rfl (x := .ref it) rfl ?_)
  refine wpAny_bind (wpAny_mono hn (fun x s₁ hx => ?_) fun x s₁ hx => ?_)
  rotate_left
  · obtain ⟨⟨a, o, rfl, ho, hc⟩, hq⟩ := hx
    refine wpAny_bind (wpAny_isInstance (T := "StopIteration") (b := true) ⟨o, ho, hc⟩ isSubtype_stop ?_)
    exact wpAny_pure hq
  obtain ⟨he₁, hQ⟩ := hx
  obtain ⟨hp, g, d, tk, os⟩ := s₁
  show wpAny _ _ (field (.ref e) 3 >>= _) _ _ ⟨hp, g, d, tk, os⟩
  refine wpAny_bind (wpAny_field he₁ rfl (x := rawInt i) rfl ?_)
  show wpAny _ _ (field (.ref e) 4 >>= _) _ _ ⟨hp, g, d, tk, os⟩
  refine wpAny_bind (wpAny_field he₁ rfl (x := .none) rfl ?_)
  show wpAny _ _ (mkInt i >>= _) _ _ ⟨hp, g, d, tk, os⟩
  refine wpAny_bind (wpAny_mkInt ?_)
  show wpAny _ _ (setField (.ref e) 3 (rawInt (i + 1)) >>= _) _ _ ⟨hp, g, d, tk + 1, os⟩
  refine wpAny_bind (wpAny_setField_rec he₁ (by simp) fun h₂ he₂ hs₂ => ?_)
  replace hs₂ : Heap.SameBut e hp h₂ := hs₂
  replace he₂ : IsEnum h₂ e it (i + 1) old := he₂
  show wpAny _ _ (setField (.ref e) 4 .none >>= _) _ _ ⟨h₂, g, d, tk + 1, os⟩
  refine wpAny_bind (wpAny_setField_rec he₂ (by simp) fun h₃ he₃ hs₃ => ?_)
  replace hs₃ : Heap.SameBut e h₂ h₃ := hs₃
  replace he₃ : IsEnum h₃ e it (i + 1) old := he₃
  show wpAny _ _ (newTuple [.int i tk, x] >>= _) _ _ ⟨h₃, g, d, tk + 1, os⟩
  refine wpAny_bind (wpAny_newTuple ?_)
  have he₄ : IsEnum (h₃.push { cls := .type "tuple", data := .seq #[.int i tk, x] }) e it (i + 1) old := Heap.get?_push_of_some _ he₃
  generalize hh₄ : h₃.push { cls := .type "tuple", data := .seq #[.int i tk, x] } = h₄ at he₄
  have hsz : h₃.objs.size = hp.objs.size := by rw [hs₃.1, hs₂.1]
  have hel : e < hp.objs.size := Heap.lt_size he₁
  have ht₄ : h₄.get? hp.objs.size = some { cls := .type "tuple", data := .seq #[.int i tk, x] } := by rw [← hh₄, ← hsz]; exact Heap.get?_push_size _ rfl
  have hz₄ : h₄.objs.size = hp.objs.size + 1 := by rw [← hh₄, Heap.size_push, hsz]
  have hk₄ : ∀ b o, b ≠ e → hp.get? b = some o → h₄.get? b = some o := fun b o hbe hb => by
    rw [← hh₄]; exact Heap.get?_push_of_some _ (hs₃.extBut b o hbe (hs₂.extBut b o hbe hb))
  show wpAny _ _ (Builtin.SmallTypes.ownedTupleIsFree (.ref e) >>= _) _ _ ⟨h₄, g, d, tk + 1, os⟩
  rw [hsz]
  clear hh₄ he₃ hs₃ he₂ hs₂ hsz h₃ h₂
  refine wpAny_bind ?_
  · unfold Builtin.SmallTypes.ownedTupleIsFree
    refine wpAny_bind (wpAny_field he₄ rfl (x := .none) rfl (wpAny_pure ?_))
    simp only [if_true]
    refine wpAny_bind (wpAny_rule ?_)
    refine wpAny_bind (wpAny_field he₄ rfl (x := old) rfl ?_)
    refine wpAny_bind (wpAny_setField_rec he₄ (by simp) fun h₅ he₅ hs₅ => ?_)
    replace hs₅ : Heap.SameBut e h₄ h₅ := hs₅
    replace he₅ : IsEnum h₅ e it (i + 1) x := he₅
    show wpAny _ _ (Builtin.SmallTypes.ownedTupleHandOut (.ref e) (.ref hp.objs.size) >>= _) _ _ ⟨h₅, g, d, tk + 1, os⟩
    refine wpAny_bind ?_
    · unfold Builtin.SmallTypes.ownedTupleHandOut
      refine wpAny_bind (wpAny_setField_rec he₅ (by simp) fun h₆ he₆ hs₆ => ?_)
      replace hs₆ : Heap.SameBut e h₅ h₆ := hs₆
      replace he₆ : IsEnumOut h₆ e it (i + 1) x hp.objs.size := he₆
      refine wpAny_setField_rec he₆ (by simp) fun h₇ he₇ hs₇ => ?_
      replace hs₇ : Heap.SameBut e h₆ h₇ := hs₇
      replace he₇ : IsEnumOut h₇ e it (i + 1) x hp.objs.size := he₇
      refine wpAny_bind (wpAny_letGo (wpAny_pure ⟨_, rfl, wpAny_pure (hQ h₇ tk he₇ ?_ ?_ ?_)⟩))
      · exact hs₇.extBut _ _ (Nat.ne_of_gt hel) (hs₆.extBut _ _ (Nat.ne_of_gt hel) (hs₅.extBut _ _ (Nat.ne_of_gt hel) ht₄))
      · rw [hs₇.1, hs₆.1, hs₅.1, hz₄]
      · exact fun b o hbe hb => hs₇.extBut b o hbe (hs₆.extBut b o hbe (hs₅.extBut b o hbe (hk₄ b o hbe hb)))
end
theorem meets_enumerate_newG (l : Addr) (g : Nat) :
    Meets (Builtin.«enumerate.__new__» ⟨[.type "enumerate", .ref l], []⟩) (fun _ R s => s.heap.IsGen l g ∧
      R (.ok (.ret (.ref s.heap.objs.size))) { s with heap := s.heap.push { cls := .type "enumerate", data := .fields #[.none, .bool false, .ref l, rawInt 0, .none, .none] } }) :=
  .of_wp fun prog w A R s h => by
    obtain ⟨hp, g, d, tk, os⟩ := s; obtain ⟨hl, h⟩ := h
    have hsub := sub_enumerate
    obtain ⟨o, nm, qn, ho, hc, hd, hsl⟩ := id hl
    wp_walk using wpAny_loadPart' ho
    refine wpAny_stack_any fun st => wpAny_pure ?_
    split
    · rename_i c _ _ _ _ _
      cases (c == Value.type "enumerate")
      · wp_walk using wpAny_loadPart' ho, wpAny_pyIter_gen hl
        exact ⟨_, rfl, h⟩
      · wp_walk using wpAny_loadPart' ho, wpAny_pyIter_gen hl
        exact ⟨_, rfl, h⟩
    · wp_walk using wpAny_loadPart' ho, wpAny_pyIter_gen hl
      exact ⟨_, rfl, h⟩
theorem call_enumerate_gen {P : Program} {w : World} {A : Around} {E : Value → Shared → Prop} {s : Shared} {l : Addr} {g : Nat} {Q : Value → Shared → Prop} (hL : s.heap.IsGen l g)
    (h : ∀ h', IsEnum h' s.heap.objs.size l 0 .none → h'.objs.size = s.heap.objs.size + 1 →
      (∀ b o, s.heap.get? b = some o → h'.get? b = some o) → Q (.ref s.heap.objs.size) { s with heap := h' }) :
    wpAny (model P w) A (call (.type "enumerate") [.ref l]) Q E s := by
  refine callType_new F.called_enumerate (by decide) (F.typeCall_enumerate_1 _) (F.newCall_enumerate_1 _) (fun obj => F.args_object_init_2 obj _) F.entry_enumerate_new
    (meets_enumerate_newG l g) ⟨hL, ?_⟩
  have he : IsEnum (s.heap.push { cls := .type "enumerate", data := .fields #[.none, .bool false, .ref l, rawInt 0, .none, .none] }) s.heap.objs.size l 0 .none :=
    Heap.get?_push_size s.heap (o := { cls := .type "enumerate", data := .fields #[.none, .bool false, .ref l, rawInt 0, .none, .none] }) rfl
  exact ⟨⟨_, he, rfl⟩, h _ he (by rw [Heap.size_push]) fun b o x => Heap.get?_push_of_some _ x⟩
end ML
set_option Elab.async false
set_option linter.all false
set_option maxRecDepth 100000
set_option maxHeartbeats 2000000
namespace ML
open PySem PySem.Spec PyProof.Rows L2
open Sem (wp)
open AutoSeq1 (wpAny_loadPart')
/-! ### enumerate(tuple) -/
theorem meets_enumerate_newT (l : Addr) (items : Array Value) :
    Meets (Builtin.«enumerate.__new__» ⟨[.type "enumerate", .ref l], []⟩) (fun _ R s => s.heap.IsTuple l items ∧
      R (.ok (.ret (.ref (s.heap.push { cls := .type "tuple_iterator", data := .fields #[.ref l, .int 0 0] }).objs.size)))
        { s with heap := (s.heap.push { cls := .type "tuple_iterator", data := .fields #[.ref l, .int 0 0] }).push { cls := .type "enumerate", data := .fields #[.none, .bool false, .ref s.heap.objs.size, rawInt 0, .none, .none] } }) :=
  .of_wp fun prog w A R s h => by
    obtain ⟨hp, g, d, tk, os⟩ := s; obtain ⟨hl, h⟩ := h
    have hsub := sub_enumerate
    obtain ⟨o, ho, hc, n, hd⟩ := id hl
    wp_walk using wpAny_loadPart' ho
    refine wpAny_stack_any fun st => wpAny_pure ?_
    split
    · rename_i c _ _ _ _ _
      cases (c == Value.type "enumerate")
      · wp_walk using wpAny_loadPart' ho, wpAny_pyIter_tuple hl
        exact ⟨_, rfl, h⟩
      · wp_walk using wpAny_loadPart' ho, wpAny_pyIter_tuple hl
        exact ⟨_, rfl, h⟩
    · wp_walk using wpAny_loadPart' ho, wpAny_pyIter_tuple hl
      exact ⟨_, rfl, h⟩
theorem call_enumerate_tuple {P : Program} {w : World} {A : Around} {E : Value → Shared → Prop} {s : Shared} {l : Addr} {items : Array Value} {Q : Value → Shared → Prop} (hL : s.heap.IsTuple l items)
    (h : ∀ h', IsEnum h' (s.heap.objs.size + 1) s.heap.objs.size 0 .none → h'.IsTupleIter s.heap.objs.size l 0 → h'.objs.size = s.heap.objs.size + 2 →
      (∀ b o, s.heap.get? b = some o → h'.get? b = some o) → Q (.ref (s.heap.objs.size + 1)) { s with heap := h' }) :
    wpAny (model P w) A (call (.type "enumerate") [.ref l]) Q E s := by
  refine callType_new F.called_enumerate (by decide) (F.typeCall_enumerate_1 _) (F.newCall_enumerate_1 _) (fun obj => F.args_object_init_2 obj _) F.entry_enumerate_new
    (meets_enumerate_newT l items) ⟨hL, ?_⟩
  have hz : (s.heap.push { cls := .type "tuple_iterator", data := .fields #[.ref l, .int 0 0] }).objs.size = s.heap.objs.size + 1 := Heap.size_push ..
  show _ ∧ _
  rw [hz]
  have he : IsEnum ((s.heap.push { cls := .type "tuple_iterator", data := .fields #[.ref l, .int 0 0] }).push
      { cls := .type "enumerate", data := .fields #[.none, .bool false, .ref s.heap.objs.size, rawInt 0, .none, .none] }) (s.heap.objs.size + 1) s.heap.objs.size 0 .none := by
    have := Heap.get?_push_size (s.heap.push { cls := .type "tuple_iterator", data := .fields #[.ref l, .int 0 0] })
      (o := { cls := .type "enumerate", data := .fields #[.none, .bool false, .ref s.heap.objs.size, rawInt 0, .none, .none] }) rfl
    rw [hz] at this; exact this
  refine ⟨⟨_, he, rfl⟩, h _ he ⟨_, Heap.get?_push_of_some _ (Heap.get?_push_size _ rfl), rfl, rfl⟩ (by rw [Heap.size_push, hz]) fun b o x => Heap.get?_push_of_some _ (Heap.get?_push_of_some _ x)⟩
def IteT (K : PySem.W.Frag) (a : Addr) : It :=
  ⟨fun i H => ∃ (xs : List V) (x : V), SqT K H a xs ∧ xs[i]? = some x, fun i H v H' => ∃ T x, v = .ref T ∧ H T = none ∧ H' = upd H T (.tup [.int (i : Nat), x]) ∧ ∀ xs, SqT K H a xs → xs[i]? = some x, fun i H => ∃ xs : List V, SqT K H a xs ∧ xs.length ≤ i⟩
theorem turn_enumT {P : Program} {w : World} {K : PySem.W.Frag} {elts : List Expr} {kk : Nat} {tpos : Pos} (a e it : Addr) :
    Turn P w K (.Tuple elts kk tpos) (IteT K a) [e, it] e (fun i h => (∃ old, IsEnum h e it ((i : Nat) : Int) old) ∧ h.IsTupleIter it a i ∧ e ≠ it) where
  mem := by simp
  obj := fun i h st b hb => by
    obtain ⟨⟨old, he⟩, ⟨o, ho, hc, hd⟩, _⟩ := st
    have e' : b = e ∨ b = it := by simpa using hb
    rcases e' with z | z
    · rw [z]; exact ⟨_, he, fun v q => nomatch q⟩
    · rw [z]; exact ⟨o, ho, fun v q => by rw [hd] at q; cases q⟩
  keep := fun i h h' st k => let ⟨⟨old, he⟩, hi, hne⟩ := st; ⟨⟨old, k e (by simp) _ he⟩, hi.at fun o q => k it (by simp) o q, hne⟩
  item := by
    intro X hP hw hK hc i pins s σ H E I hf st hg
    subst hP hw hK
    obtain ⟨⟨old, he⟩, hit, hne⟩ := st
    obtain ⟨xs, x, hq, hx⟩ := hg
    obtain ⟨its, rv, p, hz⟩ := I.tuple hq
    have p : s.heap.IsTuple a its.toArray := p
    obtain ⟨u, hu, ru⟩ := rv.get hx
    have hel : e < s.heap.objs.size := Heap.lt_size he
    have hil : it < s.heap.objs.size := by obtain ⟨_, q, _⟩ := hit; exact Heap.lt_size q
    have hai : a ≠ it := fun z => by
      obtain ⟨o1, e1, c1, _⟩ := p
      obtain ⟨o2, e2, c2, _⟩ := hit
      rw [z, e2] at e1
      cases e1
      rw [c2] at c1
      exact absurd (Value.type.inj c1) (by decide)
    have hea : e ∉ [it, a] := fun z => by
      rcases List.mem_cons.mp z with z | z
      · exact hne z
      · rw [List.mem_singleton.mp z] at he
        obtain ⟨o1, e1, c1, _⟩ := p
        have he2 : s.heap.get? a = some _ := he
        rw [e1] at he2
        cases he2
        exact absurd (Value.type.inj c1) (by decide)
    have hl : i < its.toArray.size := by rw [List.size_toArray, ← rv.length]; exact (List.getElem?_eq_some_iff.mp hx).1
    refine wpAny_pyNext_enum_itemD (Draws.tuple (A := X.A.in1) (I.ok.hd hc) it a hai its.toArray) he ⟨hit, p⟩ hl hne hea fun x' h' tk hPx ho hit' hT hsz hk => ?_
    have ex : x' = u := by
      have h1 : its.toArray[i]? = some x' := hPx
      have h2 : its.toArray[i]? = some u := by simpa using hu
      rw [h1] at h2
      exact Option.some.inj h2
    subst ex
    refine ⟨_, rfl, wpAny_letOwnedTupleGo_enum (s := { s with heap := h', toks := tk + 1 }) ho fun h'' he' sb => ?_⟩
    have hT2 : h''.get? s.heap.objs.size = some { cls := .type "tuple", data := .seq #[.int i tk, x'] } := (sb.2 _ (Nat.ne_of_gt hel)).trans hT
    have new : ObjOk X.prog X.w (upd H s.heap.objs.size (.tup [.int (i : Nat), x])) h'' s.heap.objs.size (.tup [.int (i : Nat), x]) :=
      ⟨by show 2 ≤ sizeLine; decide, [.int i tk, x'], .cons ⟨_, rfl⟩ (.cons ru .nil), ⟨_, hT2, rfl, _, rfl⟩⟩
    have I1 : Inv X pins σ (upd H s.heap.objs.size (.tup [.int (i : Nat), x])) { s with heap := h'', toks := tk + 1 } :=
      I.turnedNew (ch := [e, it]) (fun b ob hb q => (sb.2 b (fun z => hb (by simp [z]))).trans (hk b ob (fun z => hb (by simp [z])) (fun z => hb (by simp [z])) q)) hf (Nat.le_refl _) new
    refine ⟨.ref s.heap.objs.size, _, I1, rfl, ⟨_, x, rfl, I.hok.fresh (Nat.le_refl _), rfl, fun ys hy => by rw [I.tuple_inj hy hq]; exact hx⟩, ⟨⟨x', ?_⟩, hit'.1.at fun o q => (sb.2 it (Ne.symm hne)).trans q, hne⟩, fun b hb => ?_⟩
    · have e1 : ((i + 1 : Nat) : Int) = (i : Int) + 1 := by omega
      rw [e1]; exact he'
    · have hb' : b < s.heap.objs.size := by
        have e' : b = e ∨ b = it := by simpa using hb
        rcases e' with z | z
        · rw [z]; exact hel
        · rw [z]; exact hil
      rw [upd_ne (Nat.ne_of_lt hb')]
      exact (hf b hb).1
  done := by
    intro X hP hw hK hc i pins s σ H E I hf st hg
    subst hP hw hK
    obtain ⟨⟨old, he⟩, hit, hne⟩ := st
    obtain ⟨xs, hq, hx⟩ := hg
    obtain ⟨its, rv, p, hz⟩ := I.tuple hq
    have p : s.heap.IsTuple a its.toArray := p
    obtain ⟨f0, f1, f2, f3, f4, f5⟩ := hf it (by simp)
    have hT : s.TypeIs (.ref e) "enumerate" := ⟨_, he, rfl⟩
    have hl := rv.length
    unfold pyNext
    refine wpAny_bind (wpAny_attempt (wpAny_callSpecial?_slot (name := Str.ofString "__next__") hT F.slot_enumerate_next
      (wpAny_call_entry F.slot_enumerate_next hT F.entry_enumerate_next ?_ (F.args_enumerate_next_1 _))))
    show wpAny _ _ (field (.ref e) 2 >>= _) _ _ _
    refine wpAny_bind (wpAny_field he rfl (x := .ref it) rfl ?_)
    refine wpAny_bind (wpAny_nextOf_tuple_end (A := X.A.in1) (I.ok.hd hc) hit p (by simp; omega) fun h' x he' hx' => ?_)
    obtain ⟨o, ho, hc⟩ := hx'
    refine wpAny_bind (wpAny_isInstance (T := "StopIteration") (b := true) ⟨o, ho, hc⟩ isSubtype_stop ?_)
    exact wpAny_pure ⟨rfl, I.turned (t' := s.toks) (fun b o hb q => he' b o hb q) f0 f1 f3 f4 f5⟩
  self := fun A i s Q E st h => let ⟨⟨_, he⟩, _⟩ := st; wpAny_pyIter_enum he h
def iEnumT (K : PySem.W.Frag) (ta : TA) : TI := fun σ H R => ta σ H fun vs H1 => ∃ a xs, vs = [.ref a] ∧ SqT K H1 a xs ∧ R (IteT K a) H1
theorem pi_enumT {X : Cx} {e : Expr} {ta : TA} {p pos tpos : Pos} {elts : List Expr} {kk : Nat} (hg : Gl X "enumerate") (hm : X.mg "enumerate" = none) (ha : PA X [e] ta) (hs : starEach [e] X.env = [(false, eval e X.env)] := by rfl) :
    PI X (.Tuple elts kk tpos) (.Call (.Name "enumerate" p) [e] [] pos) (iEnumT X.K ta) := by
  refine ⟨fun pins s σ H R I h => ?_⟩
  refine Call_ (ld_blt I hg hm boot_enumerate (PyProof.Rows.callWith_type1 (thn (ha.run pos pins s σ H _ I h) fun us s1 ⟨vs, H1, I1, r1, q1⟩ => ?_) hs rfl))
  obtain ⟨a, xs, ex, hq, q⟩ := q1
  subst ex
  cases r1 with
  | cons r rr =>
    cases rr
    cases r
    obtain ⟨its, rv, p', hz⟩ := I1.tuple hq
    refine call_enumerate_tuple (show s1.heap.IsTuple a its.toArray from p') fun h' he hit hsz hk => wpAny_pyIter_enum he ?_
    have I2 : Inv X pins σ H1 { s1 with heap := h' } := I1.kept (t' := s1.toks) hk
    refine ⟨s1.heap.objs.size + 1, [s1.heap.objs.size + 1, s1.heap.objs.size], _, _, H1, rfl, I2, turn_enumT a (s1.heap.objs.size + 1) s1.heap.objs.size, ⟨⟨.none, he⟩, hit, Nat.succ_ne_self _⟩, fun b hb => ?_, q⟩
    have e' : b = s1.heap.objs.size + 1 ∨ b = s1.heap.objs.size := by simpa using hb
    have hle : s1.heap.objs.size ≤ b := by
      rcases e' with z | z
      · rw [z]; exact Nat.le_add_right _ _
      · rw [z]; exact Nat.le_refl _
    exact I1.fpOk hle (I1.hok.fresh hle)
/-! ### by mirrors -/
def enumD : Nat → List D → List D
  | _, [] => []
  | k, d :: r => .tup [.int (k : Nat), d] :: enumD (k + 1) r
theorem enumD_len (k : Nat) (ds : List D) : (enumD k ds).length = ds.length := by
  induction ds generalizing k with
  | nil => rfl
  | cons d r ih => show (enumD (k + 1) r).length + 1 = _; rw [ih]; rfl
theorem enumD_get (k i : Nat) (ds : List D) : (enumD k ds)[i]? = ds[i]?.map fun d => D.tup [.int ((k + i : Nat) : Nat), d] := by
  induction ds generalizing k i with
  | nil => rfl
  | cons d r ih =>
    cases i with
    | zero => rfl
    | succ i =>
      show (enumD (k + 1) r)[i]? = r[i]?.map _
      rw [ih]
      have e : k + 1 + i = k + (i + 1) := by omega
      rw [e]
theorem itE {K : PySem.W.Frag} {μ : Lo} {H : Hp} {J : It} {vs : List V} {ds : List D} {Sq : Hp → List V → Prop}
    (hJ : J = ⟨fun i H => ∃ (xs : List V) (x : V), Sq H xs ∧ xs[i]? = some x, fun i H v H' => ∃ T x, v = .ref T ∧ H T = none ∧ H' = upd H T (.tup [.int (i : Nat), x]) ∧ ∀ xs, Sq H xs → xs[i]? = some x, fun i H => ∃ xs : List V, Sq H xs ∧ xs.length ≤ i⟩)
    (h : ∀ μ' H', Ext μ H μ' H' → Sq H' vs) (r : Reps K μ H vs ds) : ItOk K J μ H (enumD 0 ds) where
  go := fun μ' H' x i hi => by
    subst hJ
    rw [enumD_len] at hi
    obtain ⟨v, ev, _⟩ := r.get (List.getElem?_eq_getElem hi)
    exact ⟨vs, v, h μ' H' x, ev⟩
  stop := fun μ' H' x => by
    subst hJ
    exact ⟨vs, h μ' H' x, by rw [r.length, enumD_len]; exact Nat.le_refl _⟩
  yld := fun μ' H' W x S i d y H2 hd hy => by
    subst hJ
    obtain ⟨T, z, rfl, hT, rfl, k⟩ := hy
    rw [enumD_get, Nat.zero_add] at hd
    cases hd0 : ds[i]? with
    | none => rw [hd0] at hd; cases hd
    | some d0 =>
      rw [hd0] at hd
      cases hd
      obtain ⟨v, ev, rv⟩ := r.get hd0
      have e2 := k vs (h μ' H' x)
      rw [ev] at e2
      cases e2
      refine ⟨Ext.new hT, S.new hT, ⟨T, _, rfl, SqT.of upd_same, _, _, rfl, rfl, _, _, rfl, Rep.ext (Ext.trans x (Ext.new hT)) rv, rfl⟩, fun a ha => upd_ne fun z => ha (z ▸ hT)⟩
def enumIt : List D → Wo → Res (List D) := fun ds W => match ds with
  | [.tup xs] => .ok (enumD 0 xs) W
  | [.lst xs] => .ok (enumD 0 xs) W
  | _ => .bad
theorem PI.orA {X : Cx} {tg e : Expr} {t t' : TI} (h : PI X tg e t) (h' : PI X tg e t') : PI X tg e (fun σ H Q => t σ H Q ∨ t' σ H Q) := PI.or h h'
theorem pmi_enum {X : Cx} {Wx : WX} {e : Expr} {r : MA} {p pos tpos : Pos} {elts : List Expr} {kk : Nat} (hm : X.mg "enumerate" = none) (ha : PMA X Wx [e] r) (hg : Gl X "enumerate" := by rfl) (hs : starEach [e] X.env = [(false, eval e X.env)] := by rfl) :
    PMI X Wx (.Tuple elts kk tpos) (.Call (.Name "enumerate" p) [e] [] pos) (mItA enumIt r) :=
  PI.imp (PI.or (pi_enum hg hm ha.pa hs) (pi_enumT hg hm ha.pa hs)) fun σ H R q => by
    obtain ⟨μ, W, δ, S, E, p⟩ := q
    have p' : Pst X.K (RI X.K) μ H R (fun c d H' => Wx c d σ H') ((r δ W).bind enumIt) := p
    cases em : r δ W with
    | bad => rw [em] at p'; exact p'.elim
    | ex c fs W1 =>
      rw [em] at p'
      refine .inl ⟨μ, W, δ, S, E, ?_⟩
      rw [em]
      exact p'
    | ok ds W1 =>
      rw [em] at p'
      have p2 : Pst X.K (RI X.K) μ H R (fun c d H' => Wx c d σ H') (enumIt ds W1) := p'
      unfold enumIt at p2
      split at p2
      · rename_i xs
        refine .inr ⟨μ, W, δ, S, E, ?_⟩
        rw [em]
        intro vs μ1 H1 x1 S1 r1
        obtain ⟨v, rfl, rv⟩ := reps1 r1
        obtain ⟨a, ws, rfl, ha, rs⟩ := rv
        exact ⟨a, ws, rfl, ha, p2 _ μ1 H1 x1 S1 (itE (Sq := fun H xs => SqT X.K H a xs) rfl (fun μ' H' x => SqT.ext x ha) rs)⟩
      · rename_i xs
        refine .inl ⟨μ, W, δ, S, E, ?_⟩
        rw [em]
        intro vs μ1 H1 x1 S1 r1
        obtain ⟨v, rfl, rv⟩ := reps1 r1
        obtain ⟨a, ws, rfl, ha, na, rs⟩ := rv
        exact ⟨a, ws, rfl, SqL.of ha, p2 _ μ1 H1 x1 S1 (itE (Sq := fun H xs => SqL X.K H a xs) rfl (fun μ' H' x => SqL.of (x.keep _ _ ha na.1)) rs)⟩
      · exact p2.elim
end ML
set_option Elab.async false
set_option linter.all false
set_option maxRecDepth 100000
set_option maxHeartbeats 2000000
namespace ML
open PySem PySem.Spec PyProof.Rows L2
open Sem (wp)
/-! ### a generator's for -/
section
variable {P : Program} {w : World} {A : Around} {R : GenEnd} {Y : Protocol} {n : Nat} {s₀ : Shared} {c : Code} {fs : List Frame} {s : Shared} {env : PySem.Env}
  {K : Flow → Sem PySem.Fin} {H : Value → Sem PySem.Fin} {gd : Bool → Bool} {lv : List Value → List Value} {target iter : Expr} {body orelse : List Stmt} {pos : Pos} {it : Value}
theorem seg_For (hs : ∀ x, foldedSetIterable iter env x = pure x)
    (h : wpAny (model P w) (A.over c fs) (eval iter env) (fun x s₁ => wpAny (model P w) (A.over c fs) (pyIter x) (fun it s₂ => ∀ p, Seg (model P w) A R Y n s₀ (.forLoop target it body orelse env) ((model P w).den (.forLoop target it body orelse env))
      (.ret (fun r => ((match r with | .ok f => (.pure f : Sem Flow) | .error e => .raise e).onRaise (cameBack env)).wrap K H gd lv) none (gd false) (lv []) c p [] :: fs) s₂) (fun _ _ => False) s₁) (fun _ _ => False) s) :
    Seg (model P w) A R Y n s₀ c ((exec (.For target iter body orelse pos) env).wrap K H gd lv) fs s := by
  rw [exec_For]
  refine seg_bind_wrap (wpAny_standAt ?_)
  refine seg_bind_wrap (wpAny_mono h (fun x s₁ h₁ => ?_) fun _ _ z => z.elim)
  refine seg_bind_wrap (wpAny_of_eq (hs x) ?_)
  refine seg_bind_wrap (wpAny_standAt ?_)
  refine seg_bind_wrap (wpAny_holding (wpAny_mono h₁ (fun it s₂ h₂ => ?_) fun _ _ z => z.elim))
  exact seg_call h₂
theorem seg_forLoop
    (h : wpAny (model P w) (A.over (.forLoop target it body orelse env) fs) (pyNext it) (fun r s₁ => match r with
      | none => Seg (model P w) A R Y n s₀ (.forLoop target it body orelse env) (.pure (.again (.block orelse env))) fs s₁
      | some v => wpAny (model P w) (A.over (.forLoop target it body orelse env) fs) (letOwnedTupleGo target it v) (fun _ s₂ => wpAny (model P w) (A.over (.forLoop target it body orelse env) fs) (assign target env v) (fun _ s₃ =>
          Seg (model P w) A R Y n s₀ (.forLoop target it body orelse env) ((execs body env).wrap (fun f => match f with
            | .next | .cont => .pure (.again (.forLoop target it body orelse env))
            | .brk => .pure (.done .next)
            | .ret v => .pure (.done (.ret v))) (fun e => (do noteFrame e env; theTreesLotGoes e : Sem Unit).wrap (fun _ => .raise e) .raise id id) id id) fs s₃) (fun _ _ => False) s₂) (fun _ _ => False) s₁) (fun _ _ => False) s) :
    Seg (model P w) A R Y n s₀ (.forLoop target it body orelse env) ((model P w).den (.forLoop target it body orelse env)) fs s := by
  show Seg _ A R Y n s₀ _ ((forTurn target it body orelse env).onRaise (fun x => do noteFrame x env; theTreesLotGoes x)) fs s
  unfold forTurn
  rw [Sem.onRaise_eq_wrap]
  refine seg_bind_wrap (wpAny_standAt ?_)
  refine seg_bind_wrap (wpAny_onRaise (wpAny_mono h (fun r s₁ h₁ => ?_) fun _ _ z => z.elim))
  cases r with
  | none => exact h₁
  | some v =>
    refine seg_bind_wrap (wpAny_mono h₁ (fun _ s₂ h₂ => ?_) fun _ _ z => z.elim)
    refine seg_bind_wrap (wpAny_mono h₂ (fun _ s₃ h₃ => ?_) fun _ _ z => z.elim)
    rw [Sem.bind_eq_wrap', Sem.wrap_wrap]
    rw [Sem.wrap_congr (execs body env) _ _ (K' := fun f => match f with
            | .next | .cont => .pure (.again (.forLoop target it body orelse env))
            | .brk => .pure (.done .next)
            | .ret v => .pure (.done (.ret v))) (H' := (fun e => (do noteFrame e env; theTreesLotGoes e : Sem Unit).wrap (fun _ => .raise e) .raise id id))
        (fun f => by cases f <;> rfl)
        (fun e => by first | exact Sem.bind_eq_wrap _ _ | (show (do noteFrame e env; theTreesLotGoes e : Sem Unit).bind (fun _ => .raise e) = _; rw [Sem.bind_eq_wrap]))]
    exact h₃
end
end ML
set_option Elab.async false
set_option linter.all false
set_option maxRecDepth 100000
set_option maxHeartbeats 2000000
namespace ML
open PySem PySem.Spec PyProof.Rows L2
/-! ### a generator's context at a wake -/
def cutS (s : Shared) (n : Addr) : Shared := { s with heap := ⟨s.heap.objs.extract 0 n, s.heap.life⟩ }
def cutH (H : Hp) (n : Addr) : Hp := fun b => if b < n then H b else none
theorem cut_lt {s : Shared} {n b : Addr} (h : b < n) : (cutS s n).heap.get? b = s.heap.get? b := by
  show (match (s.heap.objs.extract 0 n)[b]? with
    | some ⟨_, _, .freed, _⟩ => none
    | o => o) = s.heap.get? b
  have e : (s.heap.objs.extract 0 n)[b]? = s.heap.objs[b]? := by
    rw [Array.getElem?_extract]
    have h' : @LT.lt Nat _ b n := h
    by_cases hb : @LT.lt Nat _ b s.heap.objs.size
    · rw [if_pos (by rw [Nat.sub_zero]; exact Nat.lt_min.mpr ⟨h', hb⟩), Nat.zero_add]
    · rw [if_neg (by rw [Nat.sub_zero]; exact fun z => hb (Nat.lt_min.mp z).2)]
      rw [Array.getElem?_eq_none (Nat.le_of_not_lt hb)]
  rw [e]
  rfl
theorem cut_size {s : Shared} {n : Addr} : (cutS s n).heap.objs.size ≤ n := by
  show (s.heap.objs.extract 0 n).size ≤ n
  rw [Array.size_extract]
  omega
theorem cut_get {s : Shared} {n b : Addr} {o : Obj} (h : (cutS s n).heap.get? b = some o) : b < n ∧ s.heap.get? b = some o := by
  have hb : b < n := Nat.lt_of_lt_of_le (Heap.lt_size h) cut_size
  rw [cut_lt hb] at h
  exact ⟨hb, h⟩
theorem cutH_lt {H : Hp} {n b : Addr} (h : b < n) : cutH H n b = H b := if_pos h
theorem cutH_some {H : Hp} {n b : Addr} {o : HO} (h : cutH H n b = some o) : H b = some o := by
  unfold cutH at h
  split at h
  · exact h
  · cases h
def gX (P : Program) (w : World) (K : PySem.W.Frag) (mg : Str → Option Value) (base : Heap) (N : List Str) (env : PySem.Env) (A : Around) (stack : List PySem.Env) (s : Shared) (H : Hp) : Cx where
  prog := P
  w := w
  K := K
  mg := mg
  base := base
  A := A
  N := N
  s_0 := cutS s env.locals
  H_0 := cutH H env.locals
  env := env
  outer := stack
  stack := env :: stack
  ex := []
  fn := fun _ => true
  calm := true
  pn := []
  xe := fun _ _ => False
theorem frames_cut {base h h' : Heap} : ∀ {l : List PySem.Env}, h.FunFrames base l → (∀ b ∈ frs l, h'.get? b = h.get? b) → h'.FunFrames base l
  | [], _, _ => trivial
  | env :: rest, ⟨hk, ⟨L, o, hf, hb, ho, hd⟩, hr⟩, k => by
    have hL : L ∈ frs (env :: rest) := by
      unfold frs
      rw [List.filterMap_cons, hf]
      exact List.mem_cons_self
    refine ⟨hk, ⟨L, o, hf, hb, (k L hL).trans ho, hd⟩, frames_cut hr fun b z => k b ?_⟩
    unfold frs
    rw [List.filterMap_cons, hf]
    exact List.mem_cons_of_mem _ z
/-- what a generator's frame asks of its caller's state -/
structure GB (K : PySem.W.Frag) (mg : Str → Option Value) (base : Heap) (env : PySem.Env) (A : Around) (stack : List PySem.Env) : Prop where
  mod : Mod K mg base
  kind : env.scope.kind = .function
  glob : env.globals = mainGlobals
  blt : env.builtins = builtinsNs
  cells : env.cells = []
  nocell : ∀ x, ¬ (env.kindOf x = some .cell ∨ env.kindOf x = some .free)
  hd : A.handled = none
  frames : A.frames = some (env :: stack)
  frame : env.frame = some env.locals
  bsz : base.objs.size ≤ env.locals
  young : ∀ b ∈ frs stack, b < env.locals
theorem gInv {P : Program} {w : World} {K : PySem.W.Frag} {mg : Str → Option Value} {base : Heap} {N : List Str} {env : PySem.Env} {A : Around} {stack : List PySem.Env} {X : Cx} {pins pins' : List (Addr × Obj)} {σ σg : L2.St} {H : Hp} {s : Shared} (g : GB K mg base env A stack)
    (hP : X.prog = P) (hw : X.w = w) (hbase : X.base = base) (hst : X.stack = stack) (I : Inv X pins σ H s) (hb : base.objs.size ≤ X.s_0.heap.objs.size) (hfree : H env.locals = none)
    (loc : ∃ m, s.heap.Ns env.locals m ∧ ∀ (i : Nat) (x : Str) (v : V), N[i]? = some x → σg[i]? = some (some v) → Vis env.scope x → ∃ u, RelV v u ∧ Look env s.heap m x u) (hl : σg.length = N.length)
    (hp : ∀ p ∈ pins', s.heap.get? p.1 = some p.2 ∧ H p.1 = none ∧ p.1 ≠ env.locals ∧ p.1 ∉ frs stack ∧ ∀ v, p.2.data ≠ .cell v) :
    Inv (gX P w K mg base N env A stack s H) pins' σg H s := by
  subst hP hw hbase hst
  have lt : ∀ b o, X.base.get? b = some o → b < env.locals := fun b o e => Nat.lt_of_lt_of_le (Heap.lt_size e) g.bsz
  have nc : ∀ x c, env.cells.lookup x = some c → False := fun x c e => by rw [g.cells] at e; cases e
  refine ⟨⟨g.mod, g.kind, g.glob, g.blt, cut_size, fun x y c e => (nc x c e).elim, fun x z => (g.nocell x z).elim, fun x c _ e => (nc x c e).elim, fun _ => g.hd, g.frames, .inr ⟨rfl, g.frame⟩, fun b z => absurd z (by simp [gX]),
      fun b o e => ?_, ?_, fun b o _ => by simp [gX], fun b z => absurd z (by simp [gX]), frames_cut I.stack fun b z => cut_lt (g.young b z), fun b z => ?_⟩,
    rfl, I.bare, ⟨fun b o e n hb hx => (cut_get e).2, fun b o e n hb hx => ⟨o.slots, (cut_get e).2⟩, fun b o e n hx => ?_, fun b o e hx => ⟨o, (cut_get e).2⟩, fun b xs e => cutH_some e, fun b o u e => cutH_some e, fun b ps e => ⟨#[], ?_⟩⟩,
    loc, fun x c e => (nc x c e).elim, hfree, fun x c e => (nc x c e).elim, hp, I.hok, hl⟩
  · obtain ⟨h1, h2⟩ := I.bs b o e
    exact ⟨(cut_lt (lt b o e)).trans h1, (cutH_lt (lt b o e)).trans h2⟩
  · show X.base.objs.size ≤ (s.heap.objs.extract 0 env.locals).size
    rw [Array.size_extract]
    have h1 := g.bsz
    have h2 := I.sz
    have h3 : X.base.objs.size ≤ s.heap.objs.size := Nat.le_trans hb h2
    omega
  · show cutH H env.locals b = none
    rw [cutH_lt (g.young b z)]
    exact I.stkFree b z
  · have hb := (cut_get e).1
    have n' : cutH H env.locals b = none := n
    rw [cutH_lt hb] at n'
    exact n'
  · rw [cutH_some e]
    simp
/-- back to the caller -/
theorem gBack {P : Program} {w : World} {K : PySem.W.Frag} {mg : Str → Option Value} {base : Heap} {N : List Str} {env : PySem.Env} {A : Around} {X : Cx} {pins gp : List (Addr × Obj)} {σ σg : L2.St} {H H1 : Hp} {s s1 : Shared} {μ μ1 : Lo} {W : Wo}
    (hP : X.prog = P) (hw : X.w = w) (I : Inv X pins σ H s) (J : Inv (gX P w K mg base N env A X.stack s H) gp σg H1 s1) (S : RepS K μ H W) (x : Ext μ H μ1 H1)
    (hcell : X.env.cells = []) (hL : X.env.locals < env.locals) (hpn : ∀ p ∈ X.pn ++ pins, p.1 < env.locals) : Inv X pins σ H1 s1 := by
  subst hP hw
  have nc : ∀ y c, X.env.cells.lookup y = some c → False := fun y c e => by rw [hcell] at e; cases e
  have old : ∀ b o, X.s_0.heap.get? b = some o → b < env.locals ∧ b ≠ X.env.locals := fun b o e => by
    have h1 := Nat.lt_of_lt_of_le (Heap.lt_size e) I.ok.above
    exact ⟨Nat.lt_trans h1 hL, Nat.ne_of_lt h1⟩
  have nst : ∀ b, b ≠ X.env.locals → b ∉ X.fs → b ∉ frs X.stack := fun b h1 h2 z => (List.mem_cons.mp (I.stkSub b z)).elim h1 h2
  have nex : ∀ b : Addr, b ∉ (gX X.prog X.w K mg base N env A X.stack s H).ex := fun b z => absurd z (by simp [gX])
  have at_ : ∀ b o, s.heap.get? b = some o → b < env.locals → (gX X.prog X.w K mg base N env A X.stack s H).s_0.heap.get? b = some o := fun b o e hb => (cut_lt hb).trans e
  have hn : ∀ b, H b = none → b < env.locals → (gX X.prog X.w K mg base N env A X.stack s H).H_0 b = none := fun b e hb => (cutH_lt hb).trans e
  have os1 : s1.os = s.os := J.os
  refine ⟨I.ok, os1.trans I.os, J.bare, ⟨fun b o e n hb hx => ?_, fun b o e n hb hx => ?_, fun b o e n hx => ?_, fun b o e hx => ?_, fun b xs e => x.keepT _ _ (I.base.tups b xs e), fun b o u e => x.keepZ _ _ _ (I.base.frzs b o u e), fun b ps e => ?_⟩,
    ?_, fun y c e => (nc y c e).elim, ?_, fun y c e => (nc y c e).elim, fun p hp => ?_, J.hok, I.len⟩
  · obtain ⟨h1, h2⟩ := old b o e
    exact J.base.keep b o (at_ b o (I.base.keep b o e n hb hx) h1) (hn b (I.base.free b o e n hx) h1) (nst b h2 hb) (nex b)
  · obtain ⟨h1, h2⟩ := old b o e
    obtain ⟨sl, e1⟩ := I.base.slot b o e n hb hx
    obtain ⟨sl', e2⟩ := J.base.any (at_ b _ e1 h1) (hn b (I.base.free b o e n hx) h1) (nex b)
    exact ⟨sl', e2⟩
  · obtain ⟨h1, h2⟩ := old b o e
    obtain ⟨o', e1⟩ := I.base.there b o e hx
    exact J.base.free b o' (at_ b o' e1 h1) (hn b (I.base.free b o e n hx) h1) (nex b)
  · obtain ⟨h1, h2⟩ := old b o e
    obtain ⟨o', e1⟩ := I.base.there b o e hx
    exact J.base.there b o' (at_ b o' e1 h1) (nex b)
  · obtain ⟨more, e1⟩ := I.base.tbls b ps e
    obtain ⟨m2, e2⟩ := x.keepB b _ e1
    exact ⟨more ++ m2, by rw [e2, Array.append_assoc]⟩
  · obtain ⟨m, ⟨o, es, ep, ho, r⟩, hl⟩ := I.loc
    obtain ⟨sl, e1⟩ := J.base.any (at_ _ _ ho hL) (hn _ I.free hL) (nex _)
    refine ⟨m, ⟨_, es, ep, e1, r⟩, fun i y v h1 h2 h3 => ?_⟩
    obtain ⟨u, ru, l⟩ := hl i y v h1 h2 h3
    refine ⟨u, ru, ?_⟩
    rcases l with l | ⟨_, c, e, _⟩
    · exact .inl l
    · exact (nc y c e).elim
  · obtain ⟨m, ⟨o, es, ep, ho, r⟩, hl⟩ := I.loc
    exact J.base.free _ o (at_ _ _ ho hL) (hn _ I.free hL) (nex _)
  · obtain ⟨h1, h2, h3, h4, h5⟩ := I.pin p hp
    have hb := hpn p hp
    exact ⟨J.base.keep _ _ (at_ _ _ h1 hb) (hn _ h2 hb) (nst _ h3 h4) (nex _), J.base.free _ _ (at_ _ _ h1 hb) (hn _ h2 hb) (nex _), h3, h4, h5⟩
end ML
set_option Elab.async false
set_option linter.all false
set_option maxRecDepth 100000
set_option maxHeartbeats 2000000
namespace ML
open PySem PySem.Spec PyProof.Rows L2
open Sem (wp)
/-- what is chosen at a wake -/
structure GT where
  H : Hp
  σ : L2.St
  μ : Lo
  W : Wo
  δ : Env
instance : Nonempty GT := ⟨⟨fun _ => none, [], ⟨[], []⟩, [], []⟩⟩
noncomputable def gsel (LI : Nat → Shared → GT → Prop) (m : Nat) (s : Shared) : GT := Classical.epsilon (LI m s)
theorem gsel_ok {LI : Nat → Shared → GT → Prop} {m : Nat} {s : Shared} (h : ∃ t, LI m s t) : LI m s (gsel LI m s) := Classical.epsilon_spec h
/-- the standing facts of a generator that walks enumerate(its first parameter) -/
structure GP where
  X : Cx
  pins : List (Addr × Obj)
  N : List Str
  p0 : Str
  env : PySem.Env
  A : Around
  xs : List D
  dC : D
  a : Addr
  ga : Addr
  go : Obj
  e : Addr
  e2 : Addr
  it2 : Addr
  J : It
  tn : Nat → Heap → Prop
  tg : Expr
  ye : Expr
  yp : Pos
  ypos : Pos
  ty : Nat → D
def GP.gx (p : GP) (s : Shared) (H : Hp) : Cx := gX p.X.prog p.X.w p.X.K p.X.mg p.X.base p.N p.env (p.A.deeper p.env) p.X.stack s H
/-- the caller's state while the generator sleeps -/
structure GV (p : GP) (m : Nat) (s : Shared) (t : GT) : Prop where
  inv : Inv p.X p.pins t.σ t.H s
  rep : RepS p.X.K t.μ t.H t.W
  seq : Rep p.X.K t.μ t.H (.ref p.a) p.dC
  gaO : s.heap.get? p.ga = some p.go ∧ t.H p.ga = none
  eO : ∃ eo, s.heap.get? p.e = some eo ∧ t.H p.e = none ∧ ∀ v, eo.data ≠ .cell v
  ns : ∃ mm, s.heap.Ns p.env.locals mm ∧ mm p.p0 = some (.ref p.a)
  lf : t.H p.env.locals = none
  le : m ≤ p.xs.length
/-- .. it stands in its loop -/
structure GI2 (p : GP) (m : Nat) (s : Shared) (H : Hp) : Prop where
  tn : p.tn (p.xs.length - m) s.heap
  e2 : H p.e2 = none
  it2 : H p.it2 = none
/-- behind a run of the generator -/
structure GO (p : GP) (t : GT) (s₀ s1 : Shared) (H1 : Hp) (μ1 : Lo) : Prop where
  inv : Inv p.X p.pins t.σ H1 s1
  ext : Ext t.μ t.H μ1 H1
  rep : RepS p.X.K μ1 H1 t.W
  gaO : s1.heap.get? p.ga = some p.go ∧ H1 p.ga = none
  eO : s1.heap.get? p.e = s₀.heap.get? p.e ∧ H1 p.e = none
  ns : ∃ mm, s1.heap.Ns p.env.locals mm ∧ mm p.p0 = some (.ref p.a)
  lf : H1 p.env.locals = none
def GYp (p : GP) (LI : Nat → Shared → GT → Prop) : Protocol := fun n s₀ v s1 kap =>
  (∃ H1 μ1 x, n < p.xs.length ∧ GO p (gsel LI (n + 1) s₀) s₀ s1 H1 μ1 ∧ RelV x v ∧ Rep p.X.K μ1 H1 x (p.ty (p.xs.length - (n + 1))) ∧ GI2 p n s1 H1) ∧ ∀ s'', (∃ t, LI n s'' t) → kap (.send .none) s''
def GF (p : GP) (LI : Nat → Shared → GT → Prop) : Nat → Shared → Shared → Prop := fun n s₀ s1 => ∃ H1 μ1, GO p (gsel LI n s₀) s₀ s1 H1 μ1
def GRp (p : GP) (LI : Nat → Shared → GT → Prop) : GenEnd := fun n s₀ r s1 => (r = .ok (.ret .none) ∨ r = .ok .next) ∧ n = 0 ∧ GF p LI n s₀ s1
structure GH (p : GP) (LI : Nat → Shared → GT → Prop) : Prop where
  gb : GB p.X.K p.X.mg p.X.base p.env (p.A.deeper p.env) p.X.stack
  bs : p.X.base.objs.size ≤ p.X.s_0.heap.objs.size
  cell : p.X.env.cells = []
  lt : p.X.env.locals < p.env.locals
  pn : ∀ q ∈ p.X.pn ++ p.pins, q.1 < p.env.locals
  N0 : p.N[0]? = some p.p0
  N3 : p.N.length = 3
  v0 : Vis p.env.scope p.p0
  l1 : p.env.locals < p.ga
  l2 : p.ga < p.e
  l3 : p.e < p.it2
  l4 : p.it2 < p.e2
  goc : ∀ v, p.go.data ≠ .cell v
  T : Turn p.X.prog p.X.w p.X.K p.tg p.J [p.e2, p.it2] p.e2 p.tn
  it : ∀ μ H, Rep p.X.K μ H (.ref p.a) p.dC → ItOk p.X.K p.J μ H (enumD 0 p.xs)
  gv : ∀ m s t, LI m s t → GV p m s t
  gi : ∀ m s t, LI m s t → m < p.xs.length → GI2 p m s t.H
  sp : ∀ s H, ∃ g my, PMG (p.gx s H) p.tg [1, 2] g ∧ PM (p.gx s H) W0 p.ye my ∧ ∀ (i : Nat) x, p.xs[i]? = some x → ∃ δ', g (.tup [.int (i : Nat), x]) [some p.dC, none, none] = some δ' ∧ ∀ W, my δ' W = .ok (p.ty i) W
  hco : p.env.scope.isCoroutine = false
  hin : interactive p.env = false
section
variable {p : GP} {LI : Nat → Shared → GT → Prop}
theorem GH.frs_ne (h : GH p LI) {b : Addr} (hb : p.env.locals < b) : b ∉ frs p.X.stack := fun z => absurd (Nat.lt_trans (h.gb.young b z) hb) (Nat.lt_irrefl _)
theorem GH.fp (h : GH p LI) {s : Shared} {H0 H : Hp} {eo : Obj} (e2 : H p.e2 = none) (it2 : H p.it2 = none) : ∀ b ∈ [p.e2, p.it2], FpOk (p.gx s H0) [(p.ga, p.go), (p.e, eo)] H b := fun b hb => by
  have l1 := h.l1; have l2 := h.l2; have l3 := h.l3; have l4 := h.l4
  have hb' : H b = none ∧ p.e < b := by
    rcases List.mem_cons.mp hb with z | z
    · rw [z]; exact ⟨e2, Nat.lt_trans l3 l4⟩
    · rw [List.mem_singleton.mp z]; exact ⟨it2, l3⟩
  have hL : p.env.locals < b := Nat.lt_trans l1 (Nat.lt_trans l2 hb'.2)
  refine ⟨hb'.1, Nat.ne_of_gt hL, h.frs_ne hL, .inr (Nat.le_trans cut_size (Nat.le_of_lt hL)), fun x c e => ?_, fun q hq => ?_⟩
  · have e : p.env.cells.lookup x = some c := e
    rw [h.gb.cells] at e
    cases e
  · have hq : q ∈ [(p.ga, p.go), (p.e, eo)] := hq
    rcases List.mem_cons.mp hq with z | z
    · rw [z]; exact Nat.ne_of_lt (Nat.lt_trans l2 hb'.2)
    · rw [List.mem_singleton.mp z]; exact Nat.ne_of_lt hb'.2
/-- the generator's invariant at a wake -/
theorem GV.inv' (h : GH p LI) {m : Nat} {s : Shared} {t : GT} (v : GV p m s t) : ∃ eo, s.heap.get? p.e = some eo ∧ (∀ v, eo.data ≠ .cell v) ∧ Inv (p.gx s t.H) [(p.ga, p.go), (p.e, eo)] [some (.ref p.a), none, none] t.H s := by
  obtain ⟨eo, e1, e2, e3⟩ := v.eO
  refine ⟨eo, e1, e3, gInv h.gb rfl rfl rfl rfl v.inv h.bs v.lf ?_ h.N3.symm fun q hq => ?_⟩
  · obtain ⟨mm, hn, h0⟩ := v.ns
    refine ⟨mm, hn, fun i x u h1 h2 h3 => ?_⟩
    match i, h2 with
    | 0, h2 =>
      cases h2
      rw [h.N0] at h1
      cases h1
      refine ⟨.ref p.a, rfl, .inl ⟨?_, h0⟩⟩
      rcases h3 with k | k | k
      · exact k
      · exact absurd (.inl k) (h.gb.nocell p.p0)
      · exact absurd (.inr k) (h.gb.nocell p.p0)
    | 1, h2 => cases h2
    | 2, h2 => cases h2
    | i + 3, h2 => simp at h2
  · rcases List.mem_cons.mp hq with z | z
    · rw [z]
      exact ⟨v.gaO.1, v.gaO.2, Nat.ne_of_gt h.l1, h.frs_ne h.l1, h.goc⟩
    · rw [List.mem_singleton.mp z]
      have l := Nat.lt_trans h.l1 h.l2
      exact ⟨e1, e2, Nat.ne_of_gt l, h.frs_ne l, e3⟩
/-- back at the caller -/
theorem GH.out (h : GH p LI) {m : Nat} {s₀ s1 : Shared} {t : GT} {H1 : Hp} {μ1 : Lo} {eo : Obj} {σg : L2.St} {more : List (Addr × Obj)} (v : GV p m s₀ t) (he : s₀.heap.get? p.e = some eo) (J : Inv (p.gx s₀ t.H) ([(p.ga, p.go), (p.e, eo)] ++ more) σg H1 s1)
    (x : Ext t.μ t.H μ1 H1) (S : RepS p.X.K μ1 H1 t.W) (h0 : σg[0]? = some (some (.ref p.a))) : GO p t s₀ s1 H1 μ1 where
  inv := gBack rfl rfl v.inv J v.rep x h.cell h.lt h.pn
  ext := x
  rep := S
  gaO := by
    obtain ⟨h1, h2, _⟩ := J.pin (p.ga, p.go) (List.mem_append_right _ List.mem_cons_self)
    exact ⟨h1, h2⟩
  eO := by
    obtain ⟨h1, h2, _⟩ := J.pin (p.e, eo) (List.mem_append_right _ (List.mem_cons_of_mem _ List.mem_cons_self))
    exact ⟨h1.trans he.symm, h2⟩
  ns := by
    obtain ⟨mm, hn, hl⟩ := J.loc
    obtain ⟨u, ru, l⟩ := hl 0 p.p0 (.ref p.a) h.N0 h0 h.v0
    have e : u = .ref p.a := ru
    subst e
    rcases l with ⟨_, k⟩ | ⟨_, c, e, _⟩
    · exact ⟨mm, hn, k⟩
    · have e : p.env.cells.lookup p.p0 = some c := e
      rw [h.gb.cells] at e
      cases e
  lf := J.free
abbrev GP.body (p : GP) : List Stmt := [.Expr (.Yield (some p.ye) p.yp) p.ypos]
abbrev GP.loop (p : GP) : Code := .forLoop p.tg (.ref p.e2) p.body [] p.env
/-- the generator's loop -/
theorem gLoop (h : GH p LI) {fs : List Frame} (hov : ∀ c', c' = p.loop ∨ c' = Code.block [] p.env → p.A.over c' fs = p.A.deeper p.env) (hfs : splitAtGen fs = none) (hfg : fs.any Frame.guarded = false)
    (hend : ∀ s₀ s1, GF p LI 0 s₀ s1 → Seg (model p.X.prog p.X.w) p.A (GRp p LI) (GYp p LI) 0 s₀ (.block [] p.env) (.pure (.done .next)) fs s1) :
    ∀ (m : Nat) (s₀ s : Shared) (H : Hp) (μ : Lo) (eo : Obj) (σg : L2.St), LI m s₀ (gsel LI m s₀) → s₀.heap.get? p.e = some eo → Inv (p.gx s₀ (gsel LI m s₀).H) [(p.ga, p.go), (p.e, eo)] σg H s → σg[0]? = some (some (.ref p.a)) →
      Ext (gsel LI m s₀).μ (gsel LI m s₀).H μ H → RepS p.X.K μ H (gsel LI m s₀).W → GI2 p m s H → Seg (model p.X.prog p.X.w) p.A (GRp p LI) (GYp p LI) m s₀ p.loop ((model p.X.prog p.X.w).den p.loop) fs s := by
  intro m
  induction m with
  | zero =>
    intro s₀ s H μ eo σg hLI heo J h0 x S I2
    have v := h.gv _ _ _ hLI
    have io := h.it _ _ v.seq
    refine seg_forLoop ?_
    rw [hov _ (.inl rfl)]
    have hst : p.J.stop p.xs.length H := by
      have q := io.stop μ H x
      rw [enumD_len] at q
      exact q
    have tn := I2.tn
    rw [Nat.sub_zero] at tn
    refine wpAny_mono (h.T.done (p.gx s₀ (gsel LI 0 s₀).H) rfl rfl rfl rfl p.xs.length _ s σg H (fun _ _ => False) J (h.fp I2.e2 I2.it2) tn hst) (fun r s1 ⟨hr, J1⟩ => ?_) fun _ _ z => z
    subst hr
    refine seg_again rfl ?_
    show Seg _ _ _ _ _ _ _ (do return Fin.done (← (execs [] p.env).onRaise (fun x => do noteFrame x p.env; theTreesLotGoes x))) _ _
    refine seg_bind (wpAny_onRaise (wpAny_execs_nil ?_))
    exact hend s₀ s1 ⟨H, μ, h.out (more := []) v heo J1 x S h0⟩
  | succ m ih =>
    intro s₀ s H μ eo σg hLI heo J h0 x S I2
    have v := h.gv _ _ _ hLI
    have io := h.it _ _ v.seq
    have hm : m < p.xs.length := v.le
    have hi : p.xs.length - (m + 1) < p.xs.length := by omega
    obtain ⟨d, hd⟩ : ∃ d, p.xs[p.xs.length - (m + 1)]? = some d := ⟨_, List.getElem?_eq_getElem hi⟩
    have hd' : (enumD 0 p.xs)[p.xs.length - (m + 1)]? = some (.tup [.int ((p.xs.length - (m + 1) : Nat) : Int), d]) := by rw [enumD_get, hd, Nat.zero_add]; rfl
    obtain ⟨g, my, hg, hy, hspec⟩ := h.sp s₀ (gsel LI (m + 1) s₀).H
    obtain ⟨δ', eg, ey⟩ := hspec _ d hd
    have stat : ∀ {H' : Hp}, H' p.e2 = none → H' p.it2 = none → ∀ b ∈ [p.e2, p.it2], FpOk (p.gx s₀ (gsel LI (m + 1) s₀).H) [(p.ga, p.go), (p.e, eo)] H' b := fun a b => h.fp a b
    refine seg_forLoop ?_
    rw [hov _ (.inl rfl)]
    refine wpAny_mono (h.T.item (p.gx s₀ (gsel LI (m + 1) s₀).H) rfl rfl rfl rfl (p.xs.length - (m + 1)) _ s σg H (fun _ _ => False) J (stat I2.e2 I2.it2) I2.tn (io.go μ H x _ (by rw [enumD_len]; exact hi))) (fun r s1 ⟨u, hr, h1⟩ => ?_) fun _ _ z => z
    subst hr
    refine wpAny_mono h1 (fun _ s5 ⟨z, H5, J5, r5, y5, t5, f5⟩ => ?_) fun _ _ z => z
    obtain ⟨x5, S5, rz, k5⟩ := io.yld μ H _ x S _ _ z H5 hd' y5
    have J5' := J5.pinned (stat (f5 p.e2 (by simp)) (f5 p.it2 (by simp))) (h.T.obj _ _ t5)
    have E5 : RepE p.X.K μ H5 σg [some p.dC, none, none] := by
      refine ⟨by rw [J.len]; exact h.N3, fun i d0 e0 => ?_⟩
      match i, e0 with
      | 0, e0 =>
        cases e0
        exact ⟨.ref p.a, h0, Rep.ext (Ext.trans x x5) v.seq⟩
      | 1, e0 => cases e0
      | 2, e0 => cases e0
      | i + 3, e0 => simp at e0
    refine wpAny_mono (hg.run _ s5 σg H5 z u (fun σ' H' => H' = H5 ∧ RepE p.X.K μ H5 σ' δ' ∧ σ'[0]? = σg[0]?) J5' r5 ⟨μ, _, _, _, δ', S5, E5, rz, eg, fun σ' E' _ k' => ⟨rfl, E', k' 0 (by decide)⟩⟩) (fun _ s6 ⟨σ6, H6, J6, e6, E6, k6⟩ => ?_) fun _ _ z => z
    subst e6
    refine seg_execs_cons ?_
    refine seg_Expr_Yield hfs rfl hfg ?_ h.hco h.hin
    rw [hov _ (.inl rfl)]
    refine wpAny_mono (hy.run _ s6 σ6 H6 (fun y H' => ∃ μ', Ext μ H6 μ' H' ∧ RepS p.X.K μ' H' (gsel LI (m + 1) s₀).W ∧ Rep p.X.K μ' H' y (p.ty (p.xs.length - (m + 1)))) J6 ⟨μ, _, δ', S5, E6, ?_⟩) (fun w s7 ⟨y, H7, J7, r7, μ7, x7, S7, R7⟩ => ?_) fun _ _ z => z.elim
    · rw [ey]
      exact fun y μ' H' x' S' R' => ⟨μ', x', S', R'⟩
    intro kap hk
    have xx := Ext.trans (Ext.trans x x5) x7
    have hout : GO p (gsel LI (m + 1) s₀) s₀ s7 H7 μ7 := h.out v heo J7 xx S7 (k6.trans h0)
    have e7 : p.xs.length - (m + 1) + 1 = p.xs.length - m := by omega
    have t7 : p.tn (p.xs.length - m) s7.heap := by
      rw [← e7]
      exact h.T.keep _ _ _ t5 fun b hb o e => (J7.pin (b, o) (List.mem_append_right _ (List.mem_append_right _ (mem_pinsAt hb e)))).1
    have own : ∀ b ∈ [p.e2, p.it2], H7 b = none := fun b hb => by
      obtain ⟨o, e, _⟩ := h.T.obj _ _ t5 b hb
      exact (J7.pin (b, o) (List.mem_append_right _ (List.mem_append_right _ (mem_pinsAt hb e)))).2.1
    refine ⟨⟨H7, μ7, y, hm, hout, r7, R7, t7, own _ (by simp), own _ (by simp)⟩, fun s'' hl => hk .none s'' ?_⟩
    have hL := gsel_ok hl
    have v' := h.gv _ _ _ hL
    obtain ⟨eo', he', _, J'⟩ := v'.inv' h
    refine seg_execs_nil ?_
    exact seg_again rfl (ih s'' s'' _ _ eo' _ hL he' J' rfl (Ext.refl _ _) v'.rep (h.gi _ _ _ hL hm))
end
end ML
set_option Elab.async false
set_option linter.all false
set_option maxRecDepth 100000
set_option maxHeartbeats 2000000
namespace ML
open PySem PySem.Spec PyProof.Rows L2
open Sem (wp)
/-! ### stores that leave the table of generators as it is -/
section
variable {X : Cx} {pins : List (Addr × Obj)} {σ : L2.St} {H : Hp} {s : Shared}
theorem store_gens {M : Model} {A : Around} {E : Value → Shared → Prop} {i : Nat} {x : Str} {v : V} {u : Value} {Q : Unit → Shared → Prop} (I : Inv X pins σ H s) (hN : X.N.Nodup) (hi : X.N[i]? = some x) (hx : X.env.scope.names.lookup x = some .local) (r : RelV v u)
    (h : ∀ s', s'.gens = s.gens → Inv X pins (σ.set i (some v)) H s' → Q () s') : wpAny M A (storeName X.env x u) Q E s := by
  obtain ⟨m, hn, hl⟩ := id I.loc
  have hcls : (X.env.scope.kind == .class || (X.env.scope.kind == .module && X.env.locals != X.env.globals)) = false := by rw [I.ok.kind]; rfl
  have hiσ : i < σ.length := by rw [I.len]; exact (List.getElem?_eq_some_iff.mp hi).1
  refine wpAny_storeName_local hx hn (fun h' hn' hs => h _ rfl ?_) hcls
  obtain ⟨oL, _, _, hoL, _⟩ := id hn
  have off : ∀ b o, X.s_0.heap.get? b = some o → b ≠ X.env.locals := fun b o e => Nat.ne_of_lt (Nat.lt_of_lt_of_le (Heap.lt_size e) I.ok.above)
  have same : ∀ b o, b ≠ X.env.locals → s.heap.get? b = some o → h'.get? b = some o := fun b o hb e => (hs.2 b hb).trans e
  exact {
    ok := I.ok, os := I.os, bare := I.bare, free := I.free, freeC := I.freeC
    base := {
      keep := fun b o e n hb hx => same b o (off b o e) (I.base.keep b o e n hb hx)
      slot := fun b o e n hb hx => let ⟨sl, e1⟩ := I.base.slot b o e n hb hx; ⟨sl, same b _ (off b o e) e1⟩
      free := I.base.free
      there := fun b o e hx => let ⟨o', e1⟩ := I.base.there b o e hx; ⟨o', same b o' (off b o e) e1⟩
      tups := I.base.tups, frzs := I.base.frzs, tbls := I.base.tbls }
    loc := by
      refine ⟨_, hn', fun j y w e1 e2 e3 => ?_⟩
      by_cases hj : j = i
      · subst hj
        rw [hi] at e1
        cases e1
        rw [List.getElem?_set_self hiσ] at e2
        cases e2
        exact ⟨u, r, .inl ⟨hx, if_pos rfl⟩⟩
      · rw [List.getElem?_set_ne (Ne.symm hj)] at e2
        obtain ⟨u', r', q⟩ := hl j y w e1 e2 e3
        refine ⟨u', r', q.elim (fun ⟨k, e⟩ => .inl ⟨k, ?_⟩) fun ⟨k, c, e, z⟩ => .inr ⟨k, c, e, z.sameBut hs (I.cne y c e)⟩⟩
        have ne : y ≠ x := fun e => hj (nodup_ix hN e1 (e ▸ hi))
        exact (if_neg ne).trans e
    cell := fun y c e => let ⟨w, z⟩ := I.cell y c e; ⟨w, z.sameBut hs (I.cne y c e)⟩
    pin := fun p hp => let ⟨e, n, ne, nf, d⟩ := I.pin p hp; ⟨same _ _ ne e, n, ne, nf, d⟩
    hok := fun b ob e => by
      refine (I.hok b ob e).stay (fun c w hc q => same c w (fun z => ?_) q) (fun _ q => q) fun _ _ q => q
      rcases hc with hc | hc
      · rw [← hc, z, I.free] at e
        cases e
      · rw [z, I.free] at hc
        cases hc
    len := (List.length_set ..).trans I.len }
end
def PGg (X : Cx) (tg : Expr) (t : TG) : Prop := ∀ (pins : List (Addr × Obj)) (s : Shared) (σ : L2.St) (H : Hp) (v : V) (u : Value) (Q : L2.St → Hp → Prop), Inv X pins σ H s → RelV v u → t v σ H Q →
    wpAny (model X.prog X.w) X.A (assign tg X.env u) (fun _ s' => s'.gens = s.gens ∧ ∃ σ' H', Inv X pins σ' H' s' ∧ Q σ' H') X.xe s
def PGgs (X : Cx) (ts : List Expr) (t : TGs) : Prop := ∀ (pins : List (Addr × Obj)) (s : Shared) (σ : L2.St) (H : Hp) (vs : List V) (us : List Value) (Q : L2.St → Hp → Prop), Inv X pins σ H s → Vals vs us → t vs σ H Q →
    wpAny (model X.prog X.w) X.A (assignInOrder ((assignEach ts X.env).map (·.2)) us) (fun _ s' => s'.gens = s.gens ∧ ∃ σ' H', Inv X pins σ' H' s' ∧ Q σ' H') X.xe s
section
variable {X : Cx} {pos : Pos}
theorem pgg_name {i : Nat} {x : Str} (hN : X.N.Nodup) (hi : X.N[i]? = some x) (hx : X.env.scope.names.lookup x = some .local) : PGg X (.Name x pos) (gName i) := fun pins s σ H v u Q I r h =>
  wpAny_assign_Name (store_gens I hN hi hx r fun s' g I' => ⟨g, _, H, I', h⟩)
theorem pggs_nil : PGgs X [] gNil := by
  intro pins s σ H vs us Q I r h
  obtain ⟨e, h⟩ := h
  subst e
  cases r
  exact assignInOrder_nil ⟨rfl, σ, H, I, h⟩
theorem pggs_cons {e : Expr} {es : List Expr} {t : TG} {u : TGs} (h1 : PGg X e t) (h2 : PGgs X es u)
    (hs : (assignEach (e :: es) X.env).map (·.2) = assign e X.env :: (assignEach es X.env).map (·.2) := by rfl) : PGgs X (e :: es) (gCons t u) := by
  intro pins s σ H vs us Q I r h
  obtain ⟨v, vr, e1, h⟩ := h
  subst e1
  cases r with
  | cons r rr =>
    rw [hs]
    refine assignInOrder_cons (thn (h1 pins s σ H _ _ _ I r h) fun _ s1 ⟨g1, σ1, H1, I1, q1⟩ => ?_)
    exact thn (h2 pins s1 σ1 H1 _ _ Q I1 rr q1) fun _ s2 ⟨g2, q2⟩ => ⟨g2.trans g1, q2⟩
theorem pgg_tup {es : List Expr} {k : Nat} {t : TGs} {n : Nat} (hc : X.calm = true) (h : PGgs X es t)
    (hn : (assignEach es X.env).length = n := by rfl) (hst : (assignEach es X.env).findIdx? (·.1) = none := by rfl) : PGg X (.Tuple es k pos) (gTup X.K n t) := by
  intro pins s σ H v u Q I r hw
  obtain ⟨a, xs, e1, hq, hl, hw⟩ := hw
  subst e1
  cases r
  obtain ⟨its, rv, ht, hz⟩ := I.tuple hq
  refine assign_Tuple_tuple (I.ok.hd hc) ht (by simp [hn, ← hl, rv.length]) hst fun h' hx => ?_
  have I1 : Inv X pins σ H { s with heap := h' } := I.kept (t' := s.toks) fun b o e => hx b o (Nat.ne_of_lt (Heap.lt_size e)) e
  exact h pins { s with heap := h' } σ H xs _ Q I1 (by simpa using rv) hw
end
/-! ### the first wake -/
section
variable {p : GP} {LI : Nat → Shared → GT → Prop}
def GKind (p : GP) : Prop :=
  ((∀ μ H, Rep p.X.K μ H (.ref p.a) p.dC → ∃ vs : List V, SqL p.X.K H p.a vs) ∧ (∀ i hh, hh.IsListIter p.it2 p.a i → (∃ old, IsEnum hh p.e2 p.it2 ((i : Nat) : Int) old) → p.e2 ≠ p.it2 → p.tn i hh)) ∨
  ((∀ μ H, Rep p.X.K μ H (.ref p.a) p.dC → ∃ vs : List V, SqT p.X.K H p.a vs) ∧ (∀ i hh, hh.IsTupleIter p.it2 p.a i → (∃ old, IsEnum hh p.e2 p.it2 ((i : Nat) : Int) old) → p.e2 ≠ p.it2 → p.tn i hh))
theorem gFirst (h : GH p LI) {q1 q2 q3 fpos : Pos} {s : Shared} (hl : ∃ t, LI p.xs.length s t) (hit : p.it2 = s.heap.objs.size) (he2 : p.e2 = s.heap.objs.size + 1)
    (hgl : p.env.kindOf "enumerate" = some .globalImplicit) (hm : p.X.mg "enumerate" = none) (hloc : p.env.scope.names.lookup p.p0 = some .local) (hdb : (p.p0 == ("__debug__" : Str)) = false)
    (hkind : GKind p)
    (hst : starEach [.Name p.p0 q2] p.env = [(false, eval (.Name p.p0 q2) p.env)])
    (hfold : ∀ x, foldedSetIterable (.Call (.Name "enumerate" q1) [.Name p.p0 q2] [] q3) p.env x = pure x) :
    Seg (model p.X.prog p.X.w) p.A (GRp p LI) (GYp p LI) p.xs.length s (.func [.For p.tg (.Call (.Name "enumerate" q1) [.Name p.p0 q2] [] q3) p.body [] fpos] p.env)
      ((model p.X.prog p.X.w).den (.func [.For p.tg (.Call (.Name "enumerate" q1) [.Name p.p0 q2] [] q3) p.body [] fpos] p.env)) [] s := by
  have hL := gsel_ok hl
  have v := h.gv _ _ _ hL
  obtain ⟨eo, he, hec, J⟩ := v.inv' h
  have ne2 : p.e2 ≠ p.it2 := by rw [he2, hit]; exact Nat.succ_ne_self _
  have fin : ∀ (h' : Heap) (fs : List Frame), (∀ c', c' = p.loop ∨ c' = Code.block [] p.env → p.A.over c' fs = p.A.deeper p.env) → splitAtGen fs = none → fs.any Frame.guarded = false →
      (∀ s₀ s1, GF p LI 0 s₀ s1 → Seg (model p.X.prog p.X.w) p.A (GRp p LI) (GYp p LI) 0 s₀ (.block [] p.env) (.pure (.done .next)) fs s1) →
      (∀ b o, s.heap.get? b = some o → h'.get? b = some o) → p.tn 0 h' →
      Seg (model p.X.prog p.X.w) p.A (GRp p LI) (GYp p LI) p.xs.length s (.forLoop p.tg (.ref (s.heap.objs.size + 1)) p.body [] p.env) ((model p.X.prog p.X.w).den (.forLoop p.tg (.ref (s.heap.objs.size + 1)) p.body [] p.env)) fs { s with heap := h' } := fun h' fs a1 a2 a3 a4 hk ht => by
    have J2 : Inv (p.gx s (gsel LI p.xs.length s).H) [(p.ga, p.go), (p.e, eo)] [some (.ref p.a), none, none] (gsel LI p.xs.length s).H { s with heap := h' } := J.kept (t' := s.toks) hk
    rw [← he2]
    exact gLoop h a1 a2 a3 a4 p.xs.length s { s with heap := h' } _ _ eo _ hL he J2 rfl (Ext.refl _ _) v.rep ⟨by rw [Nat.sub_self]; exact ht, J.hok.fresh (by rw [he2]; exact Nat.le_succ _), J.hok.fresh (by rw [hit]; exact Nat.le_refl _)⟩
  refine seg_func (seg_execs_cons ?_)
  refine seg_For hfold ?_
  rw [GenW.over_func]
  refine Call_ (ld_blt J hgl hm boot_enumerate (PyProof.Rows.callWith_type1 ?_ hst rfl))
  obtain ⟨mm, hn, h0⟩ := v.ns
  rw [hst]
  refine Calls.spliced_cons (wpAny_Name (wpAny_loadName_local h.gb.kind hloc hn h0 (Calls.spliced_nil ?_)) hdb)
  rcases hkind with ⟨hq, ht⟩ | ⟨hq, ht⟩
  · obtain ⟨vs, hq⟩ := hq _ _ v.seq
    obtain ⟨its, rv, pl, hz⟩ := J.list hq
    refine call_enumerate_list pl.isList fun h' he' hit' hsz hk => wpAny_pyIter_enum he' ?_
    refine fun q => fin h' _ (fun c' hc => ?_) rfl rfl (fun s₀ s1 hF => ?_) hk (ht 0 h' (by rw [hit]; exact hit') ⟨_, by rw [hit, he2]; exact he'⟩ ne2)
    · rcases hc with rfl | rfl
      · exact (GenW.over_loop rfl rfl).trans GenW.over_func
      · exact (GenW.over_loop rfl rfl).trans GenW.over_func
    · refine seg_leaf (.ok .next) ?_
      show Seg _ _ _ _ _ _ _ (leafOf (.ok (.ret .none))) [] _
      exact seg_end (.ok (.ret .none)) ⟨.inl rfl, rfl, hF⟩
  · obtain ⟨vs, hq⟩ := hq _ _ v.seq
    obtain ⟨its, rv, pl, hz⟩ := J.tuple hq
    refine call_enumerate_tuple (show s.heap.IsTuple p.a its.toArray from pl) fun h' he' hit' hsz hk => wpAny_pyIter_enum he' ?_
    refine fun q => fin h' _ (fun c' hc => ?_) rfl rfl (fun s₀ s1 hF => ?_) hk (ht 0 h' (by rw [hit]; exact hit') ⟨_, by rw [hit, he2]; exact he'⟩ ne2)
    · rcases hc with rfl | rfl
      · exact (GenW.over_loop rfl rfl).trans GenW.over_func
      · exact (GenW.over_loop rfl rfl).trans GenW.over_func
    · refine seg_leaf (.ok .next) ?_
      show Seg _ _ _ _ _ _ _ (leafOf (.ok (.ret .none))) [] _
      exact seg_end (.ok (.ret .none)) ⟨.inl rfl, rfl, hF⟩
end
end ML
set_option Elab.async false
set_option linter.all false
set_option maxRecDepth 100000
set_option maxHeartbeats 2000000
namespace ML
open PySem PySem.Spec PyProof.Rows L2
open Sem (wp)
/-! ### targets, tests -/
def PMGg (X : Cx) (tg : Expr) (sl : List Nat) (g : GM) : Prop := PGg X tg (tG X.K sl g)
def PMGgs (X : Cx) (es : List Expr) (sl : List Nat) (g : GMs) : Prop := PGgs X es (tGs X.K sl g)
theorem PGg.imp {X : Cx} {e : Expr} {t t' : TG} (h : PGg X e t) (i : ∀ v σ H Q, t' v σ H Q → t v σ H Q) : PGg X e t' := fun pins s σ H v u Q I r q => h pins s σ H v u Q I r (i v σ H Q q)
theorem PGgs.imp {X : Cx} {e : List Expr} {t t' : TGs} (h : PGgs X e t) (i : ∀ v σ H Q, t' v σ H Q → t v σ H Q) : PGgs X e t' := fun pins s σ H v u Q I r q => h pins s σ H v u Q I r (i v σ H Q q)
section
variable {X : Cx} {e a b : Expr} {es : List Expr} {pos : Pos} {sl sr : List Nat} {g : GM} {h : GMs}
theorem pmgg_name (i : Nat) {x : Str} (hN : X.N.Nodup) (hi : X.N[i]? = some x := by rfl) (hx : X.env.scope.names.lookup x = some .local := by rfl) : PMGg X (.Name x pos) [i] (gNm i) :=
  (pgg_name hN hi hx).imp fun v σ H Q ⟨μ, W, δ, d, δ', S, E, r, eg, k⟩ => by
    cases eg
    exact k _ (E.set r i) (by rw [List.length_set]) fun j hj => List.getElem?_set_ne (fun z => hj (by rw [← z]; exact List.mem_singleton_self _))
theorem pmggs_nil : PMGgs X [] [] gNl := pggs_nil.imp fun vs σ H Q ⟨μ, W, δ, ds, δ', S, E, r, eg, k⟩ => by
  unfold gNl at eg
  split at eg
  · cases eg
    exact ⟨r, k σ E rfl fun _ _ => rfl⟩
  · cases eg
theorem pmggs_cons (h1 : PMGg X e sl g) (h2 : PMGgs X es sr h) (hs : (assignEach (e :: es) X.env).map (·.2) = assign e X.env :: (assignEach es X.env).map (·.2) := by rfl) : PMGgs X (e :: es) (sl ++ sr) (gCn g h) :=
  (pggs_cons h1 h2 hs).imp fun vs σ H Q ⟨μ, W, δ, ds, δ', S, E, r, eg, k⟩ => by
    unfold gCn at eg
    split at eg
    · rename_i d rd
      split at eg
      · rename_i δ1 e1
        obtain ⟨v, vr, rfl, r1, r2⟩ := r
        exact ⟨v, vr, rfl, μ, W, δ, d, δ1, S, E, r1, e1, fun σ1 E1 l1 k1 => ⟨μ, W, δ1, rd, δ', S, E1, r2, eg, fun σ2 E2 l2 k2 => k σ2 E2 (l2.trans l1) fun j hj => (k2 j fun z => hj (List.mem_append_right _ z)).trans (k1 j fun z => hj (List.mem_append_left _ z))⟩⟩
      · cases eg
    · cases eg
theorem pmgg_tup {k n : Nat} (hc : X.calm = true) (h1 : PMGgs X es sl h) (hn : (assignEach es X.env).length = n := by rfl) (hst : (assignEach es X.env).findIdx? (·.1) = none := by rfl) : PMGg X (.Tuple es k pos) sl (gTp n h) :=
  (pgg_tup hc h1 hn hst).imp fun v σ H Q ⟨μ, W, δ, d, δ', S, E, r, eg, kk⟩ => by
    unfold gTp at eg
    split at eg
    · rename_i ds
      split at eg
      · rename_i hl
        obtain ⟨a, vs, rfl, ha, rs⟩ := r
        exact ⟨a, vs, rfl, ha, by rw [rs.length]; exact hl, μ, W, δ, ds, δ', S, E, rs, eg, kk⟩
      · cases eg
    · cases eg
def PMgT (X : Cx) (e : Expr) (m : MT) : Prop := PGt X e (tM X.K RB m W0)
theorem gmt_cmp {op : CmpOp} {f : DOp} {ma mb : ME} (ho : OpG X (compareOp op) (rM X.K f)) (hc : ∀ d e W, Calm (f d e W)) (ha : PMg X a ma) (hb : PMg X b mb) (hm : behindInMarks op b = false) : PMgT X (.Compare a [op] [b] pos) (mTst (mBin f ma mb)) :=
  fun pins s σ H Q I h => pgt_cmp ho ha hb hm pins s σ H Q I (mBin_imp hc (mTst_imp h))
def cmpG (k : Int → Int → Bool) : DOp := fun d e W => match d, e with
  | .int i, .int j => .ok (.bl (k i j)) W
  | _, _ => .bad
theorem calm_cmpG {k : Int → Int → Bool} (d e : D) (W : Wo) : Calm (cmpG k d e W) := by
  unfold cmpG
  split <;> trivial
theorem op_ltG : OpG X (compareOp .Lt) (rM X.K (cmpG fun i j => decide (i < j))) := fun pins s σ H x y v u Q I rx ry h => by
  obtain ⟨μ, W, d, e, S, rd, re, p⟩ := h
  unfold cmpG at p
  split at p
  · cases rd; cases re
    obtain ⟨t, rfl⟩ := rx
    obtain ⟨t', rfl⟩ := ry
    exact lt_int ⟨rfl, .bl _, H, I, rfl, Pst.val S p rfl⟩
  · exact p.elim
theorem op_eqG : OpG X (compareOp .Eq) (rM X.K (cmpG fun i j => i == j)) := fun pins s σ H x y v u Q I rx ry h => by
  obtain ⟨μ, W, d, e, S, rd, re, p⟩ := h
  unfold cmpG at p
  split at p
  · cases rd; cases re
    obtain ⟨t, rfl⟩ := rx
    obtain ⟨t', rfl⟩ := ry
    exact eq_int ⟨rfl, .bl _, H, I, rfl, Pst.val S p rfl⟩
  · exact p.elim
end
/-! ### for .. in enumerate(generator): if test: leave -/
def genL (g : GM) (t : MT) (b : MS) : List D → MS
  | [], δ, W => .nx δ W
  | d :: r, δ, W => match g d δ with
    | none => .bad
    | some δ1 => match t δ1 W with
      | .ok k W1 => if k then (match b δ1 W1 with
          | .rt d W2 => .rt d W2
          | .ex c fs δ2 W2 => .ex c fs δ2 W2
          | _ => .bad)
        else genL g t b r δ1 W1
      | _ => .bad
def sGen (ty : List D → List D) (mc : ME) (g : GM) (t : MT) (b : MS) : MS := fun δ W => (mc δ W).toS δ fun d W1 => match d with
  | .lst xs => genL g t b (enumD 0 (ty xs)) δ W1
  | .tup xs => genL g t b (enumD 0 (ty xs)) δ W1
  | _ => .bad
theorem Inv.setG {X : Cx} {pins : List (Addr × Obj)} {σ : L2.St} {H : Hp} {s : Shared} {g : Nat} {x : GenState} (I : Inv X pins σ H s) (hx : x.bare = true) : Inv X pins σ H (s.setGen g x) :=
  I.call' (ch := []) rfl (Un.kept fun b o e => e) I.hok (allBare_setGen I.bare hx) fun b z => absurd z (by simp)
/-- what is known of the generator's def -/
structure GDef (K : PySem.W.Frag) (mg : Str → Option Value) (x : Str) (f : Addr) (fd : FuncData) (body : List Stmt) (scope : Scope) (p0 : Str) : Prop where
  hm : mg x = some (.ref f)
  F : ∃ params kws, FunD K x x params body scope [] kws f fd
  kp : PySem.W.keepIn K (.ref f) = true
  hb : Binds K fd [p0] []
/-- what the generator's text says -/
structure GText (P : Program) (w : World) (K : PySem.W.Frag) (mg : Str → Option Value) (base : Heap) (x : Str) (f : Addr) (scope : Scope) (p0 : Str) (N : List Str) (tg : Expr) (ye : Expr) (ty : List D → List D) (q1 q2 q3 : Pos) : Prop where
  kind : scope.kind = .function
  co : scope.isCoroutine = false
  gen : scope.isGenerator = true
  N0 : N[0]? = some p0
  N3 : N.length = 3
  loc : scope.names.lookup p0 = some .local
  tup : ∃ elts kk tpos, tg = .Tuple elts kk tpos
  cells : ∀ n, cellsFrom n scope.names [] = []
  nocell : ∀ y, ¬ (scope.names.lookup y = some .cell ∨ scope.names.lookup y = some .free)
  enum : ∀ n cdv, (envOfC x scope n f cdv).kindOf "enumerate" = some .globalImplicit
  menum : mg "enumerate" = none
  hdb : (p0 == ("__debug__" : Str)) = false
  hst : ∀ n cdv, starEach [.Name p0 q2] (envOfC x scope n f cdv) = [(false, eval (.Name p0 q2) (envOfC x scope n f cdv))]
  hfold : ∀ n cdv y, foldedSetIterable (.Call (.Name "enumerate" q1) [.Name p0 q2] [] q3) (envOfC x scope n f cdv) y = pure y
  hin : ∀ n cdv, interactive (envOfC x scope n f cdv) = false
  tlen : ∀ xs, (ty xs).length = xs.length
  sp : ∀ (n : Addr) (cdv : Value) (A : Around) (stack : List PySem.Env) (s : Shared) (H : Hp) (dC : D) (xs : List D), dC = .lst xs ∨ dC = .tup xs →
    ∃ g my, PMG (gX P w K mg base N (envOfC x scope n f cdv) A stack s H) tg [1, 2] g ∧ PM (gX P w K mg base N (envOfC x scope n f cdv) A stack s H) W0 ye my ∧
      ∀ (i : Nat) y, xs[i]? = some y → ∃ δ' d, (ty xs)[i]? = some d ∧ g (.tup [.int (i : Nat), y]) [some dC, none, none] = some δ' ∧ ∀ W, my δ' W = .ok d W
end ML
set_option Elab.async false
set_option linter.all false
set_option maxRecDepth 100000
set_option maxHeartbeats 4000000
namespace ML
open PySem PySem.Spec PyProof.Rows L2
open Sem (wp)
/-- the wake's word: all that the caller needs -/
def genLI (p : GP) (Dn : Ends) (Wx : WX) (g : GM) (t : MT) (b : MS) (items : List D) (m : Nat) (s : Shared) (τ : GT) : Prop :=
  GV p m s τ ∧ (m < p.xs.length → GI2 p m s τ.H) ∧ RepE p.X.K τ.μ τ.H τ.σ τ.δ ∧ PstS p.X.K τ.μ τ.H Dn Wx (genL g t b (items.drop (p.xs.length - m)) τ.δ τ.W) ∧ ∃ old, IsEnum s.heap p.e p.ga ((p.xs.length - m : Nat) : Int) old
def genJ (K : PySem.W.Frag) (a : Addr) : D → It
  | .tup _ => IteT K a
  | _ => Ite K a
def genTn (a e2 it2 : Addr) : D → Nat → Heap → Prop
  | .tup _ => fun i h => (∃ old, IsEnum h e2 it2 ((i : Nat) : Int) old) ∧ h.IsTupleIter it2 a i ∧ e2 ≠ it2
  | _ => fun i h => (∃ old, IsEnum h e2 it2 ((i : Nat) : Int) old) ∧ h.IsListIter it2 a i ∧ e2 ≠ it2
structure GB0 where
  X : Cx
  pins : List (Addr × Obj)
  N : List Str
  p0 : Str
  env : PySem.Env
  xs : List D
  d : D
  a : Addr
  ga : Addr
  go : Obj
  e : Addr
  tg : Expr
  ye : Expr
  yp : Pos
  ypos : Pos
  ty : List D → List D
def GB0.p (q : GB0) (e2 it2 : Addr) : GP where
  X := q.X
  pins := q.pins
  N := q.N
  p0 := q.p0
  env := q.env
  A := q.X.A.in1.in1
  xs := q.xs
  dC := q.d
  a := q.a
  ga := q.ga
  go := q.go
  e := q.e
  e2 := e2
  it2 := it2
  J := genJ q.X.K q.a q.d
  tn := genTn q.a e2 it2 q.d
  tg := q.tg
  ye := q.ye
  yp := q.yp
  ypos := q.ypos
  ty := fun i => ((q.ty q.xs)[i]?).getD .non
section
variable {q : GB0} {Wx : WX} {x : Str} {f : Addr} {scope : Scope} {q1 q2 q3 fpos : Pos} {Dn : Ends} {g : GM} {t : MT} {b : MS} {cdv : Value}
structure GB1 (q : GB0) (x : Str) (f : Addr) (scope : Scope) (cdv : Value) (q1 q2 q3 : Pos) : Prop where
  Gt : GText q.X.prog q.X.w q.X.K q.X.mg q.X.base x f scope q.p0 q.N q.tg q.ye q.ty q1 q2 q3
  env : ∃ n, q.env = envOfC x scope n f cdv
  d : q.d = .lst q.xs ∨ q.d = .tup q.xs
  mod : Mod q.X.K q.X.mg q.X.base
  hd : q.X.A.handled = none
  fr : q.X.A.frames = some q.X.stack
  bsz : q.X.base.objs.size ≤ q.X.s_0.heap.objs.size
  s0 : q.X.s_0.heap.objs.size ≤ q.X.env.locals
  young : ∀ b ∈ frs q.X.stack, b < q.env.locals
  cell : q.X.env.cells = []
  lt : q.X.env.locals < q.env.locals
  pn : ∀ z ∈ q.X.pn ++ q.pins, z.1 < q.env.locals
  l1 : q.env.locals < q.ga
  l2 : q.ga < q.e
  goc : ∀ v, q.go.data ≠ .cell v
theorem GB1.gh (B : GB1 q x f scope cdv q1 q2 q3) {e2 it2 : Addr} (h1 : q.e < it2) (h2 : it2 < e2) : GH (q.p e2 it2) (genLI (q.p e2 it2) Dn Wx g t b (enumD 0 (q.ty q.xs))) where
  gb := {
    mod := B.mod
    kind := by obtain ⟨n, e⟩ := B.env; show q.env.scope.kind = _; rw [e]; exact B.Gt.kind
    glob := by obtain ⟨n, e⟩ := B.env; show q.env.globals = _; rw [e]; rfl
    blt := by obtain ⟨n, e⟩ := B.env; show q.env.builtins = _; rw [e]; rfl
    cells := by obtain ⟨n, e⟩ := B.env; show q.env.cells = _; rw [e]; exact B.Gt.cells _
    nocell := by obtain ⟨n, e⟩ := B.env; show ∀ x, ¬ (q.env.scope.names.lookup x = _ ∨ q.env.scope.names.lookup x = _); rw [e]; exact B.Gt.nocell
    hd := B.hd
    frames := Around.frames_deeper B.fr
    frame := by obtain ⟨n, e⟩ := B.env; show q.env.frame = some q.env.locals; rw [e]; rfl
    bsz := Nat.le_trans (Nat.le_trans B.bsz B.s0) (Nat.le_of_lt B.lt)
    young := B.young }
  bs := B.bsz
  cell := B.cell
  lt := B.lt
  pn := B.pn
  N0 := B.Gt.N0
  N3 := B.Gt.N3
  v0 := by obtain ⟨n, e⟩ := B.env; show q.env.scope.names.lookup _ = _ ∨ _; rw [e]; exact .inl B.Gt.loc
  l1 := B.l1
  l2 := B.l2
  l3 := h1
  l4 := h2
  goc := B.goc
  T := by
    obtain ⟨elts, kk, tpos, et⟩ := B.Gt.tup
    show Turn q.X.prog q.X.w q.X.K q.tg (genJ q.X.K q.a q.d) [e2, it2] e2 (genTn q.a e2 it2 q.d)
    rw [et]
    rcases B.d with e | e
    · rw [e]; exact turn_enum q.a e2 it2
    · rw [e]; exact turn_enumT q.a e2 it2
  it := fun μ H r => by
    show ItOk q.X.K (genJ q.X.K q.a q.d) μ H (enumD 0 q.xs)
    have r : Rep q.X.K μ H (.ref q.a) q.d := r
    rcases B.d with e | e
    · rw [e] at r ⊢
      obtain ⟨a, vs, ea, ha, na, rs⟩ := r
      cases ea
      exact itE (Sq := fun H xs => SqL q.X.K H q.a xs) rfl (fun μ' H' x => SqL.of (x.keep _ _ ha na.1)) rs
    · rw [e] at r ⊢
      obtain ⟨a, vs, ea, ha, rs⟩ := r
      cases ea
      exact itE (Sq := fun H xs => SqT q.X.K H q.a xs) rfl (fun μ' H' x => SqT.ext x ha) rs
  gv := fun m s t h => h.1
  gi := fun m s t h => h.2.1
  sp := fun s H => by
    obtain ⟨n, e⟩ := B.env
    show ∃ g my, PMG (gX q.X.prog q.X.w q.X.K q.X.mg q.X.base q.N q.env (q.X.A.in1.in1.deeper q.env) q.X.stack s H) q.tg [1, 2] g ∧ PM (gX q.X.prog q.X.w q.X.K q.X.mg q.X.base q.N q.env (q.X.A.in1.in1.deeper q.env) q.X.stack s H) W0 q.ye my ∧ ∀ (i : Nat) x, q.xs[i]? = some x → ∃ δ', g (.tup [.int (i : Nat), x]) [some q.d, none, none] = some δ' ∧ ∀ W, my δ' W = .ok (((q.ty q.xs)[i]?).getD .non) W
    rw [e]
    obtain ⟨g, my, h1, h2, h3⟩ := B.Gt.sp n cdv (q.X.A.in1.in1.deeper (envOfC x scope n f cdv)) q.X.stack s H q.d q.xs B.d
    refine ⟨g, my, h1, h2, fun i y hy => ?_⟩
    obtain ⟨δ', d, e1, e2, e3⟩ := h3 i y hy
    refine ⟨δ', e2, fun W => ?_⟩
    rw [e1]
    exact e3 W
  hco := by obtain ⟨n, e⟩ := B.env; show q.env.scope.isCoroutine = _; rw [e]; exact B.Gt.co
  hin := by obtain ⟨n, e⟩ := B.env; show interactive q.env = _; rw [e]; exact B.Gt.hin _ _
theorem GB1.kind (B : GB1 q x f scope cdv q1 q2 q3) {e2 it2 : Addr} : GKind (q.p e2 it2) := by
  rcases B.d with e | e
  · refine .inl ⟨fun μ H r => ?_, fun i hh h1 h2 h3 => ?_⟩
    · have r : Rep q.X.K μ H (.ref q.a) q.d := r
      rw [e] at r
      obtain ⟨a, vs, ea, ha, na, rs⟩ := r
      cases ea
      exact ⟨vs, SqL.of ha⟩
    · show genTn q.a e2 it2 q.d i hh
      rw [e]
      exact ⟨h2, h1, h3⟩
  · refine .inr ⟨fun μ H r => ?_, fun i hh h1 h2 h3 => ?_⟩
    · have r : Rep q.X.K μ H (.ref q.a) q.d := r
      rw [e] at r
      obtain ⟨a, vs, ea, ha, rs⟩ := r
      cases ea
      exact ⟨vs, ha⟩
    · show genTn q.a e2 it2 q.d i hh
      rw [e]
      exact ⟨h2, h1, h3⟩
/-- the generator goes on at s -/
def GoAt (q : GB0) (Dn : Ends) (Wx : WX) (g : GM) (t : MT) (b : MS) (e2 it2 : Addr) (m : Nat) (gs : GenState) (s : Shared) : Prop :=
  gs.Goes (model q.X.prog q.X.w) q.X.A.in1.in1 (GRp (q.p e2 it2) (genLI (q.p e2 it2) Dn Wx g t b (enumD 0 (q.ty q.xs)))) (GYp (q.p e2 it2) (genLI (q.p e2 it2) Dn Wx g t b (enumD 0 (q.ty q.xs)))) m (.send .none) s
theorem GB1.first (B : GB1 q x f scope cdv q1 q2 q3) {s : Shared} {fpos : Pos} (he : q.e < s.heap.objs.size) (hl : ∃ τ, genLI (q.p (s.heap.objs.size + 1) s.heap.objs.size) Dn Wx g t b (enumD 0 (q.ty q.xs)) q.xs.length s τ) :
    GoAt q Dn Wx g t b (s.heap.objs.size + 1) s.heap.objs.size q.xs.length (.fresh (.func [.For q.tg (.Call (.Name "enumerate" q1) [.Name q.p0 q2] [] q3) [.Expr (.Yield (some q.ye) q.yp) q.ypos] [] fpos] q.env)) s := by
  obtain ⟨n, e⟩ := B.env
  refine ⟨rfl, gFirst (B.gh he (Nat.lt_succ_self _)) hl rfl rfl ?_ B.Gt.menum ?_ B.Gt.hdb B.kind ?_ ?_⟩
  · show q.env.kindOf _ = _; rw [e]; exact B.Gt.enum _ _
  · show q.env.scope.names.lookup _ = _; rw [e]; exact B.Gt.loc
  · show starEach [.Name q.p0 q2] q.env = [(false, eval (.Name q.p0 q2) q.env)]; rw [e]; exact B.Gt.hst _ _
  · show ∀ x, foldedSetIterable _ q.env x = pure x; rw [e]; exact B.Gt.hfold _ _
end
end ML
set_option Elab.async false
set_option linter.all false
set_option maxRecDepth 100000
set_option maxHeartbeats 4000000
namespace ML
open PySem PySem.Spec PyProof.Rows L2
open Sem (wp)
section
variable {q : GB0} {Wx : WX} {x : Str} {f : Addr} {scope : Scope} {q1 q2 q3 fpos : Pos} {Dn : Ends} {g : GM} {t : MT} {b : MS} {cdv : Value} {gn : Nat} {code : Code}
structure GC0 (q : GB0) (Dn : Ends) (Wx : WX) (g : GM) (t : MT) (b : MS) (m : Nat) (s : Shared) (τ : GT) : Prop where
  inv : Inv q.X q.pins τ.σ τ.H s
  rep : RepS q.X.K τ.μ τ.H τ.W
  seq : Rep q.X.K τ.μ τ.H (.ref q.a) q.d
  gaO : s.heap.get? q.ga = some q.go ∧ τ.H q.ga = none
  eO : ∃ old, IsEnum s.heap q.e q.ga ((q.xs.length - m : Nat) : Int) old
  he : τ.H q.e = none
  ns : ∃ mm, s.heap.Ns q.env.locals mm ∧ mm q.p0 = some (.ref q.a)
  lf : τ.H q.env.locals = none
  le : m ≤ q.xs.length
  E : RepE q.X.K τ.μ τ.H τ.σ τ.δ
  P : PstS q.X.K τ.μ τ.H Dn Wx (genL g t b ((enumD 0 (q.ty q.xs)).drop (q.xs.length - m)) τ.δ τ.W)
theorem GC0.li {m : Nat} {s : Shared} {τ : GT} {e2 it2 : Addr} {gs : GenState} (c : GC0 q Dn Wx g t b m s τ) (h : m < q.xs.length → GI2 (q.p e2 it2) m s τ.H) (hb : gs.bare = true) : genLI (q.p e2 it2) Dn Wx g t b (enumD 0 (q.ty q.xs)) m (s.setGen gn gs) τ := by
  obtain ⟨old, ho⟩ := c.eO
  exact ⟨⟨ML.Inv.setG c.inv hb, c.rep, c.seq, c.gaO, ⟨_, ho, c.he, fun v z => by cases z⟩, c.ns, c.lf, c.le⟩, fun hm => ⟨(h hm).tn, (h hm).e2, (h hm).it2⟩, c.E, c.P, old, ho⟩
/-- the loop's invariant -/
def GInvL (q : GB0) (Dn : Ends) (Wx : WX) (g : GM) (t : MT) (b : MS) (gn : Nat) (code : Code) (m : Nat) (s : Shared) : Prop :=
  ∃ τ gs, GC0 q Dn Wx g t b m s τ ∧ s.gens[gn]? = some gs ∧
    ((m = q.xs.length ∧ gs = .fresh code) ∨ ∃ e2 it2, q.e < it2 ∧ it2 < e2 ∧ m < q.xs.length ∧ GI2 (q.p e2 it2) m s τ.H ∧ ∀ s'', (∃ τ', genLI (q.p e2 it2) Dn Wx g t b (enumD 0 (q.ty q.xs)) m s'' τ') → GoAt q Dn Wx g t b e2 it2 m gs s'')
/-- behind the generator's run: an item, or the end -/
theorem gNext (B : GB1 q x f scope cdv q1 q2 q3) (hc : q.X.calm = true) {k : Nat} (hr : Room k q.X.A) (hcode : code = .func [.For q.tg (.Call (.Name "enumerate" q1) [.Name q.p0 q2] [] q3) [.Expr (.Yield (some q.ye) q.yp) q.ypos] [] fpos] q.env)
    (hgo : ∃ nm qn, q.go.cls = .type "generator" ∧ q.go.data = .fields #[.int gn 0, nm, qn] ∧ q.go.slots = #[]) {m : Nat} {s : Shared} {Q : Option Value → Shared → Prop} {E : Value → Shared → Prop} (hI : GInvL q Dn Wx g t b gn code m s)
    (hend : m = 0 → ∀ s' σ H, Inv q.X q.pins σ H s' → Dn.nx σ H → Q none s')
    (hitem : ∀ m' s' σ H μ W δ T v y gs e2 it2 old, m = m' + 1 → Inv q.X q.pins σ H s' → RepS q.X.K μ H W → RepE q.X.K μ H σ δ → Rep q.X.K μ H (.ref q.a) q.d → s'.heap.get? q.ga = some q.go → H q.ga = none → H q.e = none →
      (∃ mm, s'.heap.Ns q.env.locals mm ∧ mm q.p0 = some (.ref q.a)) → H q.env.locals = none → IsEnumOut s'.heap q.e q.ga (((q.xs.length - m : Nat) : Int) + 1) v T → s'.heap.objs.size = T + 1 → H T = none →
      (∃ tk, s'.heap.get? T = some { cls := .type "tuple", data := .seq #[.int ((q.xs.length - m : Nat) : Int) tk, v] }) → RelV y v → Rep q.X.K μ H y (((q.ty q.xs)[q.xs.length - m]?).getD .non) →
      PstS q.X.K μ H Dn Wx (genL g t b ((enumD 0 (q.ty q.xs)).drop (q.xs.length - m)) δ W) → s'.gens[gn]? = some gs → q.e < it2 → it2 < e2 → m' < q.xs.length → GI2 (q.p e2 it2) m' s' H →
      (∀ s'', (∃ τ', genLI (q.p e2 it2) Dn Wx g t b (enumD 0 (q.ty q.xs)) m' s'' τ') → GoAt q Dn Wx g t b e2 it2 m' gs s'') → q.e < T → old = v → Q (some (.ref T)) s') :
    wpAny (model q.X.prog q.X.w) q.X.A (pyNext (.ref q.e)) Q E s := by
  obtain ⟨τ, gs, c, hg, hph⟩ := hI
  obtain ⟨old, ho⟩ := c.eO
  have hgl : gn < s.gens.size := (Array.getElem?_eq_some_iff.mp hg).1
  have hel : q.e < s.heap.objs.size := Heap.lt_size ho
  -- the phase
  obtain ⟨e2, it2, l3, l4, hm2, hgo2, hLI⟩ : ∃ e2 it2, q.e < it2 ∧ it2 < e2 ∧ (m < q.xs.length → GI2 (q.p e2 it2) m s τ.H) ∧ GoAt q Dn Wx g t b e2 it2 m gs (s.setGen gn .running) ∧
      (∃ τ', genLI (q.p e2 it2) Dn Wx g t b (enumD 0 (q.ty q.xs)) m (s.setGen gn .running) τ') := by
    rcases hph with ⟨hm, hgs⟩ | ⟨e2, it2, l3, l4, hm, i2, hk⟩
    · have hl : ∃ τ', genLI (q.p (s.heap.objs.size + 1) s.heap.objs.size) Dn Wx g t b (enumD 0 (q.ty q.xs)) m (s.setGen gn .running) τ' := ⟨τ, c.li (fun z => absurd hm (Nat.ne_of_lt z)) rfl⟩
      refine ⟨s.heap.objs.size + 1, s.heap.objs.size, hel, Nat.lt_succ_self _, fun z => absurd hm (Nat.ne_of_lt z), ?_, hl⟩
      rw [hgs, hcode, hm]
      rw [hm] at hl
      exact B.first (s := s.setGen gn .running) hel hl
    · have hl : ∃ τ', genLI (q.p e2 it2) Dn Wx g t b (enumD 0 (q.ty q.xs)) m (s.setGen gn .running) τ' := ⟨τ, c.li (fun _ => i2) rfl⟩
      exact ⟨e2, it2, l3, l4, fun _ => i2, hk _ hl, hl⟩
  have H0 : GH (q.p e2 it2) (genLI (q.p e2 it2) Dn Wx g t b (enumD 0 (q.ty q.xs))) := B.gh l3 l4
  have hsel := gsel_ok hLI
  obtain ⟨v0, _, E0, P0, old0, ho0⟩ := hsel
  have isg : s.heap.IsGen q.ga gn := by
    obtain ⟨nm, qn, h1, h2, h3⟩ := hgo
    exact ⟨q.go, nm, qn, c.gaO.1, h1, h2, h3⟩
  refine enum_next_any ho (GenW.wpAny_gsz (n := gn + 1) hgl (nextOf_gen (A := q.X.A.in1) (F := fun n s₀ s₁ => n = 0 ∧ GF (q.p e2 it2) (genLI (q.p e2 it2) Dn Wx g t b (enumD 0 (q.ty q.xs))) n s₀ s₁) (n := m) B.hd c.inv.nolimit hr.depth isg hg hgo2 (fun v s₁ gs' hb hY hsz => ?_) (fun s₁ hF h' x hk hx hsz => ?_)))
  · -- an item
    cases m with
    | zero => exact (hY.2 _ hLI).elim
    | succ m' =>
      obtain ⟨⟨H1, μ1, y, hlt, go, rv, ry, i2⟩, hk⟩ := hY
      have hsz1 : gn < s₁.gens.size := by
        have e : (s₁.setGen gn gs').gens.size = s₁.gens.size := GenW.setGen_size _ _ _
        have hsz : gn + 1 ≤ (s₁.setGen gn gs').gens.size := hsz
        omega
      have ee : s₁.heap.get? q.e = some _ := go.eO.1.trans ho
      refine ⟨ee, fun h' tk hout hT hs1 hkp => ?_⟩
      have lT : q.e < s₁.heap.objs.size := Heap.lt_size ee
      have llt := B.lt
      have l1 := B.l1
      have l2 := B.l2
      have ne : ∀ {b : Addr}, b < q.e → b ≠ q.e := fun h => Nat.ne_of_lt h
      have nfs : q.e ∉ q.X.fs := fun z => by
        have e1 : q.e ∉ frs q.X.stack := H0.frs_ne (Nat.lt_trans l1 l2)
        refine e1 ?_
        rcases go.inv.ok.stk with es | ⟨es, hf⟩
        · have es : q.X.stack = q.X.outer := es
          rw [es]; exact z
        · have es : q.X.stack = q.X.env :: q.X.outer := es
          have hf : q.X.env.frame = some q.X.env.locals := hf
          rw [es]
          unfold frs
          rw [List.filterMap_cons, hf]
          exact List.mem_cons_of_mem _ z
      have nce : ∀ y c, q.X.env.cells.lookup y = some c → c ≠ q.e := fun y c e => by rw [B.cell] at e; cases e
      have fpe : FpOk q.X q.pins H1 q.e := ⟨go.eO.2, Nat.ne_of_gt (Nat.lt_trans (Nat.lt_trans llt l1) l2), nfs, .inr (Nat.le_of_lt (Nat.lt_of_le_of_lt B.s0 (Nat.lt_trans (Nat.lt_trans llt l1) l2))), nce, fun z hz => Nat.ne_of_lt (Nat.lt_trans (B.pn z hz) (Nat.lt_trans l1 l2))⟩
      have I' : Inv q.X q.pins (gsel (genLI (q.p e2 it2) Dn Wx g t b (enumD 0 (q.ty q.xs))) (m' + 1) (s.setGen gn .running)).σ H1 (s₁.setGen gn gs') := ML.Inv.setG go.inv hb
      have I2 : Inv q.X q.pins (gsel (genLI (q.p e2 it2) Dn Wx g t b (enumD 0 (q.ty q.xs))) (m' + 1) (s.setGen gn .running)).σ H1 { s₁.setGen gn gs' with heap := h', toks := tk + 1 } :=
        I'.turned (it := q.e) (fun b o hb' e => hkp b o hb' e) fpe.1 fpe.2.1 fpe.2.2.2.1 fpe.2.2.2.2.1 fpe.2.2.2.2.2
      have gi2 : GI2 (q.p e2 it2) m' { s₁.setGen gn gs' with heap := h', toks := tk + 1 } H1 := by
        refine ⟨H0.T.keep _ _ _ i2.tn fun b hb o e => hkp b o (fun z => ?_) e, i2.e2, i2.it2⟩
        have hb : b ∈ [e2, it2] := hb
        rcases List.mem_cons.mp hb with z' | z'
        · rw [z'] at z; exact absurd z (Nat.ne_of_gt (Nat.lt_trans l3 l4))
        · rw [List.mem_singleton.mp z'] at z; exact absurd z (Nat.ne_of_gt l3)
      have nsL : ∃ mm, h'.Ns q.env.locals mm ∧ mm q.p0 = some (.ref q.a) := by
        obtain ⟨mm, ⟨o, es, ep, ho', r⟩, h0⟩ := go.ns
        exact ⟨mm, ⟨o, es, ep, hkp _ _ (ne (Nat.lt_trans l1 l2)) ho', r⟩, h0⟩
      refine hitem m' _ _ H1 μ1 _ _ s₁.heap.objs.size v y gs' e2 it2 v rfl I2 go.rep (E0.ext go.ext) (Rep.ext go.ext v0.seq) (hkp _ _ (ne l2) go.gaO.1) go.gaO.2 go.eO.2 nsL go.lf hout hs1 (go.inv.hok.fresh (Nat.le_refl _)) ⟨tk, hT⟩ rv ry (PstS.shift go.ext P0) ?_ l3 l4 hlt gi2 (fun s'' hl => hk s'' hl) lT rfl
      show (s₁.setGen gn gs').gens[gn]? = some gs'
      exact setGen_at hsz1
  · -- the end
    obtain ⟨hm0, H1, μ1, go⟩ := hF
    subst hm0
    obtain ⟨o, hox, hoc⟩ := hx
    refine ⟨⟨x, o, rfl, hox, hoc⟩, hend rfl _ _ H1 ((ML.Inv.setG (g := gn) (x := .finished) go.inv rfl).kept (t' := s₁.toks) hk) ?_⟩
    have P1 := PstS.shift go.ext P0
    have e : (enumD 0 (q.ty q.xs)).drop (q.xs.length - 0) = [] := by
      rw [Nat.sub_zero]
      exact List.drop_eq_nil_of_le (by rw [enumD_len, B.Gt.tlen]; exact Nat.le_refl _)
    have P2 : PstS q.X.K μ1 H1 Dn Wx (genL g t b ((enumD 0 (q.ty q.xs)).drop (q.xs.length - 0)) (gsel (genLI (q.p e2 it2) Dn Wx g t b (enumD 0 (q.ty q.xs))) 0 (s.setGen gn .running)).δ (gsel (genLI (q.p e2 it2) Dn Wx g t b (enumD 0 (q.ty q.xs))) 0 (s.setGen gn .running)).W) := P1
    rw [e] at P2
    exact PstS.goes go.rep (E0.ext go.ext) P2
end
end ML
set_option Elab.async false
set_option linter.all false
set_option maxRecDepth 100000
set_option maxHeartbeats 4000000
namespace ML
open PySem PySem.Spec PyProof.Rows L2
open Sem (wp)
theorem gLoopC {q : GB0} {Wx : WX} {x : Str} {f : Addr} {scope : Scope} {q1 q2 q3 fpos : Pos} {Dn : Ends} {g : GM} {t : MT} {b : MS} {cdv : Value} {gn : Nat} {code : Code} {elts : List Expr} {kk : Nat} {tpos ipos : Pos} {c : Expr} {suite : List Stmt} {sl : List Nat} {k : Nat} {s : Shared}
    (B : GB1 q x f scope cdv q1 q2 q3) (hp : PassesOwn (model q.X.prog q.X.w) q.X.A q.X.env q.X.xe) (hc : q.X.calm = true) (hr : Room k q.X.A) (hcode : code = .func [.For q.tg (.Call (.Name "enumerate" q1) [.Name q.p0 q2] [] q3) [.Expr (.Yield (some q.ye) q.yp) q.ypos] [] fpos] q.env)
    (hgo : ∃ nm qn, q.go.cls = .type "generator" ∧ q.go.data = .fields #[.int gn 0, nm, qn] ∧ q.go.slots = #[])
    (hg : PMGg q.X (.Tuple elts kk tpos) sl g) (ht : PMgT q.X c t) (hb : PMSs q.X Wx suite b) (h0 : GInvL q Dn Wx g t b gn code q.xs.length s) :
    codeAny (model q.X.prog q.X.w) q.X.A (.forLoop (.Tuple elts kk tpos) (.ref q.e) [.If c suite [] ipos] [] q.X.env)
      (fun r s' => match r with | .ok f => SP q.X q.pins Dn f s' | .error e => cameBackBy (model q.X.prog q.X.w) q.X.A q.X.env q.X.xe e s') s := by
  refine codeAny_forLoop_any (GInvL q Dn Wx g t b gn code) (fun m s hI => ?_) _ h0
  refine gNext B hc hr hcode hgo hI (fun hm s' σ H I' q' => wpAny_execs_nil ⟨σ, H, I', q'⟩) ?_
  intro m' s1 σ H μ W δ T v y gs e2 it2 old hm I1 S1 E1 Rq1 gaO hga hqe ns lf hout hsz hT hTo rv ry P1 hgn l3 l4 hlt i2 hk lT hold
  subst hm
  obtain ⟨tk, hTo⟩ := hTo
  have H0 : GH (q.p e2 it2) (genLI (q.p e2 it2) Dn Wx g t b (enumD 0 (q.ty q.xs))) := B.gh l3 l4
  have llt := B.lt
  have l1 := B.l1
  have l2 := B.l2
  have nst : q.e ∉ frs q.X.stack := H0.frs_ne (Nat.lt_trans l1 l2)
  have sub : ∀ b, b ∈ q.X.fs → b ∈ frs q.X.stack := fun b z => by
    rcases I1.ok.stk with es | ⟨es, hf⟩
    · rw [es]; exact z
    · rw [es]
      unfold frs
      rw [List.filterMap_cons, hf]
      exact List.mem_cons_of_mem _ z
  have up : ∀ b, q.env.locals ≤ b → b ≠ q.X.env.locals ∧ b ∉ q.X.fs ∧ (b ∈ q.X.ex ∨ q.X.s_0.heap.objs.size ≤ b) ∧ (∀ y c, q.X.env.cells.lookup y = some c → c ≠ b) ∧ ∀ z ∈ q.X.pn ++ q.pins, z.1 ≠ b := fun b hb =>
    ⟨Nat.ne_of_gt (Nat.lt_of_lt_of_le llt hb), fun z => absurd (Nat.lt_of_lt_of_le (B.young b (sub b z)) hb) (Nat.lt_irrefl _), .inr (Nat.le_of_lt (Nat.lt_of_le_of_lt B.s0 (Nat.lt_of_lt_of_le llt hb))), fun y c e => (by rw [B.cell] at e; cases e), fun z hz => Nat.ne_of_lt (Nat.lt_of_lt_of_le (B.pn z hz) hb)⟩
  have leT : q.env.locals ≤ T := Nat.le_of_lt (Nat.lt_trans (Nat.lt_trans l1 l2) lT)
  have lee : q.env.locals ≤ q.e := Nat.le_of_lt (Nat.lt_trans l1 l2)
  -- the pair goes to the targets
  refine wpAny_letOwnedTupleGo_enum hout fun h2 he2 sb => ?_
  have hT2 : h2.get? T = some { cls := .type "tuple", data := .seq #[.int ((q.xs.length - (m' + 1) : Nat) : Int) tk, v] } := (sb.2 _ (Nat.ne_of_gt lT)).trans hTo
  have keep2 : ∀ b o, b ≠ q.e → s1.heap.get? b = some o → h2.get? b = some o := fun b o hb e => (sb.2 b hb).trans e
  have I2a : Inv q.X q.pins σ H { s1 with heap := h2 } := I1.turned (t' := s1.toks) (it := q.e) (fun b o hb e => keep2 b o hb e) hqe (up _ lee).1 (up _ lee).2.2.1 (up _ lee).2.2.2.1 (up _ lee).2.2.2.2
  have tupOk : ObjOk q.X.prog q.X.w (upd H T (.tup [.int ((q.xs.length - (m' + 1) : Nat) : Int), y])) h2 T (.tup [.int ((q.xs.length - (m' + 1) : Nat) : Int), y]) :=
    ⟨by show 2 ≤ sizeLine; decide, [.int _ tk, v], .cons ⟨_, rfl⟩ (.cons rv .nil), ⟨_, hT2, rfl, _, rfl⟩⟩
  have hH2 : HOk q.X.prog q.X.w (upd H T (.tup [.int ((q.xs.length - (m' + 1) : Nat) : Int), y])) h2 := fun b o e => by
    by_cases hb : b = T
    · subst hb
      rw [upd_same] at e
      cases e
      exact tupOk
    · rw [upd_ne hb] at e
      refine (I2a.hok b o e).stay (fun _ _ _ z => z) (fun w z => ?_) fun w xs z => ?_
      · rw [upd_ne (ne_of_none z hT)]; exact z
      · rw [upd_ne (ne_of_none z hT)]; exact z
  have I2 : Inv q.X q.pins σ (upd H T (.tup [.int ((q.xs.length - (m' + 1) : Nat) : Int), y])) { s1 with heap := h2 } := by
    refine I2a.call' (ch := [T]) rfl ?_ hH2 I2a.bare fun b hb => ?_
    · refine ⟨fun b o e n _ _ => e, fun b o e n _ _ => ⟨o.slots, e⟩, fun b o e n hx => ?_, fun b o e _ => ⟨o, e⟩, fun b xs e => ?_, fun b o u e => ?_, fun b ps e => ⟨#[], ?_⟩⟩
      · rw [upd_ne (fun z => hx (by rw [z]; exact List.mem_singleton_self _))]; exact n
      · rw [upd_ne (ne_of_none e hT)]; exact e
      · rw [upd_ne (ne_of_none e hT)]; exact e
      · rw [upd_ne (ne_of_none e hT), e]; simp
    · rw [List.mem_singleton.mp hb]
      obtain ⟨u1, u2, u3, u4, u5⟩ := up T leT
      exact ⟨u3, u1, u4, u5⟩
  have xT : Ext μ H μ (upd H T (.tup [.int ((q.xs.length - (m' + 1) : Nat) : Int), y])) := Ext.new hT
  have S2 := S1.new (o := .tup [.int ((q.xs.length - (m' + 1) : Nat) : Int), y]) hT
  have E2 := E1.ext xT
  have P2 := PstS.shift xT P1
  have hit : (enumD 0 (q.ty q.xs))[q.xs.length - (m' + 1)]? = some (.tup [.int ((q.xs.length - (m' + 1) : Nat) : Int), ((q.ty q.xs)[q.xs.length - (m' + 1)]?).getD .non]) := by
    have hl : q.xs.length - (m' + 1) < (q.ty q.xs).length := by rw [B.Gt.tlen]; omega
    rw [enumD_get, List.getElem?_eq_getElem hl, Nat.zero_add]
    rfl
  rw [drop_cons hit] at P2
  have em : q.xs.length - (m' + 1) + 1 = q.xs.length - m' := by omega
  rw [em] at P2
  -- the pins
  obtain ⟨mm, ⟨oL, es, ep, hoL, hodL, hres⟩, hmm⟩ := ns
  have fpo := H0.T.obj _ _ i2.tn
  have pins2 : ∀ z ∈ [(q.ga, q.go), (q.env.locals, oL)] ++ pinsAt [e2, it2] h2, h2.get? z.1 = some z.2 ∧ upd H T (.tup [.int ((q.xs.length - (m' + 1) : Nat) : Int), y]) z.1 = none ∧ z.1 ≠ q.X.env.locals ∧ z.1 ∉ q.X.fs ∧ ∀ v, z.2.data ≠ .cell v := fun z hz => by
    rcases List.mem_append.mp hz with hz | hz
    · rcases List.mem_cons.mp hz with hz | hz
      · rw [hz]
        refine ⟨keep2 _ _ (Nat.ne_of_lt l2) gaO, ?_, (up _ (Nat.le_of_lt l1)).1, (up _ (Nat.le_of_lt l1)).2.1, B.goc⟩
        rw [upd_ne (Nat.ne_of_lt (Nat.lt_trans l2 lT))]; exact hga
      · rw [List.mem_singleton.mp hz]
        refine ⟨keep2 _ _ (Nat.ne_of_lt (Nat.lt_trans l1 l2)) hoL, ?_, (up _ (Nat.le_refl _)).1, (up _ (Nat.le_refl _)).2.1, fun v hv => ?_⟩
        · rw [upd_ne (Nat.ne_of_lt (Nat.lt_trans (Nat.lt_trans l1 l2) lT))]; exact lf
        · have hv : oL.data = .cell v := hv
          rw [hodL] at hv; cases hv
    · obtain ⟨hb, e⟩ := of_pinsAt hz
      have hbb : q.e < z.1 ∧ H z.1 = none := by
        rcases List.mem_cons.mp hb with w | w
        · rw [w]; exact ⟨Nat.lt_trans l3 l4, i2.e2⟩
        · rw [List.mem_singleton.mp w]; exact ⟨l3, i2.it2⟩
      obtain ⟨o, e1, hnc⟩ := fpo z.1 hb
      have e2' := keep2 _ _ (Nat.ne_of_gt hbb.1) e1
      rw [e] at e2'
      cases e2'
      have hle : q.env.locals ≤ z.1 := Nat.le_of_lt (Nat.lt_trans (Nat.lt_trans l1 l2) hbb.1)
      refine ⟨e, ?_, (up _ hle).1, (up _ hle).2.1, hnc⟩
      by_cases hzT : z.1 = T
      · exfalso
        have h1 : h2.get? z.1 = some z.2 := e
        rw [hzT, hT2] at h1
        have hne := fpo z.1 hb
        obtain ⟨o', e1', _⟩ := hne
        have e3 : z.1 < s1.heap.objs.size := Heap.lt_size e1'
        rcases List.mem_cons.mp hb with w | w
        · have tn := i2.tn
          have tne : ∃ oe, s1.heap.get? e2 = some oe ∧ oe.cls = .type "enumerate" := by
            have tn : genTn q.a e2 it2 q.d (q.xs.length - m') s1.heap := tn
            rcases B.d with ed | ed
            · rw [ed] at tn; obtain ⟨⟨old, h⟩, _⟩ := tn; exact ⟨_, h, rfl⟩
            · rw [ed] at tn; obtain ⟨⟨old, h⟩, _⟩ := tn; exact ⟨_, h, rfl⟩
          obtain ⟨oe, h3, h4⟩ := tne
          have h5 := hTo
          rw [← hzT, w] at h5
          rw [h3] at h5
          cases h5
          exact absurd (Value.type.inj h4) (by decide)
        · have w := List.mem_singleton.mp w
          have tn := i2.tn
          have tne : ∃ oe T, s1.heap.get? it2 = some oe ∧ oe.cls = .type T ∧ T ≠ "tuple" := by
            have tn : genTn q.a e2 it2 q.d (q.xs.length - m') s1.heap := tn
            rcases B.d with ed | ed
            · rw [ed] at tn; obtain ⟨_, ⟨o, h, hc, _⟩, _⟩ := tn; exact ⟨_, _, h, hc, by decide⟩
            · rw [ed] at tn; obtain ⟨_, ⟨o, h, hc, _⟩, _⟩ := tn; exact ⟨_, _, h, hc, by decide⟩
          obtain ⟨oe, Tn, h3, h4, h6⟩ := tne
          have h5 := hTo
          rw [← hzT, w] at h5
          rw [h3] at h5
          cases h5
          exact h6 (Value.type.inj h4).symm
      · rw [upd_ne hzT]; exact hbb.2
  have he3 : h2.get? q.e = some _ := he2
  have pinE : ∀ z ∈ (q.e, ({ cls := .type "enumerate", dict := none, data := .fields #[.none, .bool false, .ref q.ga, rawInt (((q.xs.length - (m' + 1) : Nat) : Int) + 1), .none, v], slots := #[] } : Obj)) :: ([(q.ga, q.go), (q.env.locals, oL)] ++ pinsAt [e2, it2] h2), h2.get? z.1 = some z.2 ∧ upd H T (.tup [.int ((q.xs.length - (m' + 1) : Nat) : Int), y]) z.1 = none ∧ z.1 ≠ q.X.env.locals ∧ z.1 ∉ q.X.fs ∧ ∀ v, z.2.data ≠ .cell v := fun z hz => by
    rcases List.mem_cons.mp hz with hz | hz
    · rw [hz]
      refine ⟨he3, ?_, (up _ lee).1, (up _ lee).2.1, fun v hv => by cases hv⟩
      rw [upd_ne (Nat.ne_of_lt lT)]; exact hqe
    · exact pins2 z hz
  have I3 : Inv q.X (q.pins ++ (q.e, ({ cls := .type "enumerate", dict := none, data := .fields #[.none, .bool false, .ref q.ga, rawInt (((q.xs.length - (m' + 1) : Nat) : Int) + 1), .none, v], slots := #[] } : Obj)) :: ([(q.ga, q.go), (q.env.locals, oL)] ++ pinsAt [e2, it2] h2)) σ (upd H T (.tup [.int ((q.xs.length - (m' + 1) : Nat) : Int), y])) { s1 with heap := h2 } :=
    I2.pins_of fun z hz => (List.mem_append.mp hz).elim (fun w => I2.pin z (List.mem_append_right _ w)) (pinE z)
  generalize hpl : (q.e, ({ cls := .type "enumerate", dict := none, data := .fields #[.none, .bool false, .ref q.ga, rawInt (((q.xs.length - (m' + 1) : Nat) : Int) + 1), .none, v], slots := #[] } : Obj)) :: ([(q.ga, q.go), (q.env.locals, oL)] ++ pinsAt [e2, it2] h2) = pl at I3
  unfold genL at P2
  cases eg : g (.tup [.int ((q.xs.length - (m' + 1) : Nat) : Int), ((q.ty q.xs)[q.xs.length - (m' + 1)]?).getD .non]) δ with
  | none => rw [eg] at P2; exact P2.elim
  | some δ1 =>
    rw [eg] at P2
    have rT : Rep q.X.K μ (upd H T (.tup [.int ((q.xs.length - (m' + 1) : Nat) : Int), y])) (.ref T) (.tup [.int ((q.xs.length - (m' + 1) : Nat) : Int), ((q.ty q.xs)[q.xs.length - (m' + 1)]?).getD .non]) := ⟨T, _, rfl, SqT.of upd_same, _, _, rfl, rfl, _, _, rfl, Rep.ext xT ry, rfl⟩
    refine wpAny_passesOwn hp (thn (hg _ _ σ _ (.ref T) (.ref T) (fun σ' H' => H' = upd H T (.tup [.int ((q.xs.length - (m' + 1) : Nat) : Int), y]) ∧ RepE q.X.K μ H' σ' δ1) I3 rfl ⟨μ, W, δ, _, δ1, S2, E2, rT, eg, fun σ' E' _ _ => ⟨rfl, E'⟩⟩) fun _ s3 ⟨g3, σ3, H3, I3', e3, E3⟩ => ?_)
    subst e3
    -- what stands at the next turn
    have again : ∀ {σ4 : L2.St} {H4 : Hp} {s4 : Shared} {μ4 : Lo} {W4 : Wo} {δ4 : Env}, s4.gens = s3.gens → Inv q.X (q.pins ++ pl) σ4 H4 s4 → Ext μ (upd H T (.tup [.int ((q.xs.length - (m' + 1) : Nat) : Int), y])) μ4 H4 → RepS q.X.K μ4 H4 W4 → RepE q.X.K μ4 H4 σ4 δ4 → PstS q.X.K μ4 H4 Dn Wx (genL g t b ((enumD 0 (q.ty q.xs)).drop (q.xs.length - m')) δ4 W4) →
        GInvL q Dn Wx g t b gn code m' s4 := fun {σ4 H4 s4 μ4 W4 δ4} g4 I4 x4 S4 E4 P4 => by
      have at_ : ∀ z ∈ pl, s4.heap.get? z.1 = some z.2 ∧ H4 z.1 = none := fun z hz => by
        obtain ⟨h1, h2, _⟩ := I4.pin z (List.mem_append_right _ (List.mem_append_right _ hz))
        exact ⟨h1, h2⟩
      rw [← hpl] at at_
      have aE := at_ _ List.mem_cons_self
      have aG := at_ _ (List.mem_cons_of_mem _ (List.mem_append_left _ List.mem_cons_self))
      have aL := at_ _ (List.mem_cons_of_mem _ (List.mem_append_left _ (List.mem_cons_of_mem _ List.mem_cons_self)))
      have aI : ∀ b ∈ [e2, it2], ∃ o, h2.get? b = some o ∧ s4.heap.get? b = some o ∧ H4 b = none := fun b hb => by
        obtain ⟨o, e1, _⟩ := fpo b hb
        have hbb : q.e < b := by
          rcases List.mem_cons.mp hb with w | w
          · rw [w]; exact Nat.lt_trans l3 l4
          · rw [List.mem_singleton.mp w]; exact l3
        have e2' := keep2 _ _ (Nat.ne_of_gt hbb) e1
        obtain ⟨h1, h2'⟩ := at_ (b, o) (List.mem_cons_of_mem _ (List.mem_append_right _ (mem_pinsAt hb e2')))
        exact ⟨o, e2', h1, h2'⟩
      have ee : IsEnum s4.heap q.e q.ga ((q.xs.length - m' : Nat) : Int) v := by
        have z := aE.1
        have e1 : ((q.xs.length - (m' + 1) : Nat) : Int) + 1 = ((q.xs.length - m' : Nat) : Int) := by omega
        rw [e1] at z
        exact z
      refine ⟨⟨H4, σ4, μ4, W4, δ4⟩, gs, ⟨I4.pins_of fun z hz => I4.pin z (List.mem_append_right _ (List.mem_append_left _ hz)), S4, Rep.ext (xT.trans x4) Rq1, aG, ⟨_, ee⟩, aE.2, ⟨mm, ⟨oL, es, ep, aL.1, hodL, hres⟩, hmm⟩, aL.2, Nat.le_of_lt hlt, E4, P4⟩, ?_, .inr ⟨e2, it2, l3, l4, hlt, ⟨?_, ?_, ?_⟩, hk⟩⟩
      · rw [g4, g3]; exact hgn
      · refine H0.T.keep _ _ _ i2.tn fun b hb o e => ?_
        obtain ⟨o', e1, e2', _⟩ := aI b hb
        have hbb : q.e < b := by
          rcases List.mem_cons.mp hb with w | w
          · rw [w]; exact Nat.lt_trans l3 l4
          · rw [List.mem_singleton.mp w]; exact l3
        have e3 := keep2 _ _ (Nat.ne_of_gt hbb) e
        rw [e1] at e3
        cases e3
        exact e2'
      · exact (aI e2 (by simp)).choose_spec.2.2
      · exact (aI it2 (by simp)).choose_spec.2.2
    -- the test
    refine wpAny_execs_cons (wpAny_If ?_)
    have tq : tM q.X.K RB t W0 σ3 (upd H T (.tup [.int ((q.xs.length - (m' + 1) : Nat) : Int), y])) (fun k H4 => ∃ μ4 W4, Ext μ (upd H T (.tup [.int ((q.xs.length - (m' + 1) : Nat) : Int), y])) μ4 H4 ∧ RepS q.X.K μ4 H4 W4 ∧ RepE q.X.K μ4 H4 σ3 δ1 ∧ PstS q.X.K μ4 H4 Dn Wx (if k then (match b δ1 W4 with
          | .rt d W2 => .rt d W2
          | .ex c fs δ2 W2 => .ex c fs δ2 W2
          | _ => .bad)
        else genL g t b ((enumD 0 (q.ty q.xs)).drop (q.xs.length - m')) δ1 W4)) := by
      refine ⟨μ, W, δ1, S2, E3, ?_⟩
      cases et : t δ1 W with
      | ok k W4 =>
        have P2' : PstS q.X.K μ (upd H T (.tup [.int ((q.xs.length - (m' + 1) : Nat) : Int), y])) Dn Wx (match t δ1 W with
          | .ok k W1 => if k then (match b δ1 W1 with
              | .rt d W2 => .rt d W2
              | .ex c fs δ2 W2 => .ex c fs δ2 W2
              | _ => .bad)
            else genL g t b ((enumD 0 (q.ty q.xs)).drop (q.xs.length - m')) δ1 W1
          | _ => .bad) := P2
        rw [et] at P2'
        intro k' μ4 H4 x4 S4 r4
        have r4 : k' = k := r4
        subst r4
        exact ⟨μ4, W4, x4, S4, E3.ext x4, PstS.shift x4 P2'⟩
      | ex c fs W4 =>
        have P2' : PstS q.X.K μ (upd H T (.tup [.int ((q.xs.length - (m' + 1) : Nat) : Int), y])) Dn Wx (match t δ1 W with
          | .ok k W1 => if k then (match b δ1 W1 with
              | .rt d W2 => .rt d W2
              | .ex c fs δ2 W2 => .ex c fs δ2 W2
              | _ => .bad)
            else genL g t b ((enumD 0 (q.ty q.xs)).drop (q.xs.length - m')) δ1 W1
          | _ => .bad) := P2
        rw [et] at P2'
        exact P2'.elim
      | bad =>
        have P2' : PstS q.X.K μ (upd H T (.tup [.int ((q.xs.length - (m' + 1) : Nat) : Int), y])) Dn Wx (match t δ1 W with
          | .ok k W1 => if k then (match b δ1 W1 with
              | .rt d W2 => .rt d W2
              | .ex c fs δ2 W2 => .ex c fs δ2 W2
              | _ => .bad)
            else genL g t b ((enumD 0 (q.ty q.xs)).drop (q.xs.length - m')) δ1 W1
          | _ => .bad) := P2
        rw [et] at P2'
        exact P2'.elim
    refine wpAny_passesOwn hp (thn (ht _ s3 σ3 _ _ I3' tq) fun kb s4 ⟨g4, H4, I4, μ4, W4, x4, S4, E4, P4⟩ => ?_)
    cases kb with
    | false => exact wpAny_execs_nil (wpAny_execs_nil ⟨m', Nat.lt_succ_self _, again g4 I4 x4 S4 E4 P4⟩)
    | true =>
      have P5 : PstS q.X.K μ4 H4 Dn Wx (match b δ1 W4 with
          | .rt d W2 => .rt d W2
          | .ex c fs δ2 W2 => .ex c fs δ2 W2
          | _ => .bad) := P4
      have bq : tS q.X.K b Wx { Dn with nx := fun _ _ => False, bk := fun _ _ => False, ct := fun _ _ => False } σ3 H4 := by
        refine ⟨μ4, W4, δ1, S4, E4, ?_⟩
        cases eb : b δ1 W4 with
        | nx _ _ => rw [eb] at P5; exact P5.elim
        | bk _ _ => rw [eb] at P5; exact P5.elim
        | ct _ _ => rw [eb] at P5; exact P5.elim
        | bad => rw [eb] at P5; exact P5.elim
        | rt d W2 => rw [eb] at P5; exact P5
        | ex c fs δ2 W2 => rw [eb] at P5; exact P5
      refine wpAny_passesOwn hp (thn (hb.run _ s4 σ3 H4 _ I4 bq) fun fl s5 hfl => ?_)
      cases fl with
      | next => obtain ⟨_, _, _, z⟩ := hfl; exact z.elim
      | brk => obtain ⟨_, _, _, z⟩ := hfl; exact z.elim
      | cont => obtain ⟨_, _, _, z⟩ := hfl; exact z.elim
      | ret u =>
        obtain ⟨z, σ5, H5, I5, rz, hz⟩ := hfl
        exact ⟨z, σ5, H5, I5.pins_of fun z hz => I5.pin z (List.mem_append_right _ (List.mem_append_left _ hz)), rz, hz⟩
end ML
set_option Elab.async false
set_option linter.all false
set_option maxRecDepth 100000
set_option maxHeartbeats 4000000
namespace ML
open PySem PySem.Spec PyProof.Rows L2
open Sem (wp)
section
variable {X : Cx} {Wx : WX} {x p0 : Str} {f : Addr} {fd : FuncData} {scope : Scope} {N : List Str} {tg ye : Expr} {yp ypos fpos q1 q2 q3 : Pos} {ty : List D → List D} {k : Nat}
  {ce c : Expr} {suite : List Stmt} {elts : List Expr} {kk : Nat} {tpos r1 r2 r3 r4 ipos pos : Pos} {mc : ME} {sl : List Nat} {g : GM} {t : MT} {b : MS}
theorem pms_gen (hp : PassesOwn (model X.prog X.w) X.A X.env X.xe) (hc : X.calm = true) (hcell : X.env.cells = []) (hr : Room k X.A)
    (Gd : GDef X.K X.mg x f fd [.For tg (.Call (.Name "enumerate" q1) [.Name p0 q2] [] q3) [.Expr (.Yield (some ye) yp) ypos] [] fpos] scope p0)
    (Gt : GText X.prog X.w X.K X.mg X.base x f scope p0 N tg ye ty q1 q2 q3)
    (hmc : PM X Wx ce mc) (hg : PMGg X (.Tuple elts kk tpos) sl g) (ht : PMgT X c t) (hb : PMSs X Wx suite b)
    (hgl : Gl X x) (hge : Gl X "enumerate") (hdb : (x == ("__debug__" : Str)) = false)
    (hs1 : starEach [.Call (.Name x r2) [ce] [] r3] X.env = [(false, eval (.Call (.Name x r2) [ce] [] r3) X.env)])
    (hs2 : starEach [ce] X.env = (false, eval ce X.env) :: starEach [] X.env) (hs3 : (backTo r3 (starEach [] X.env)).any (·.1) = false)
    (hs4 : ∀ y, foldedSetIterable (.Call (.Name "enumerate" r1) [.Call (.Name x r2) [ce] [] r3] [] r4) X.env y = pure y) :
    PMS X Wx (.For (.Tuple elts kk tpos) (.Call (.Name "enumerate" r1) [.Call (.Name x r2) [ce] [] r3] [] r4) [.If c suite [] ipos] [] pos) (sGen ty mc g t b) := by
  refine ⟨fun pins s σ H D I h => ?_⟩
  have hq := tS.bind (P := fun v H1 => ∃ μ1 W1 δ d, RepS X.K μ1 H1 W1 ∧ RepE X.K μ1 H1 σ δ ∧ Rep X.K μ1 H1 v d ∧ PstS X.K μ1 H1 D Wx (match d with
      | .lst xs => genL g t b (enumD 0 (ty xs)) δ W1
      | .tup xs => genL g t b (enumD 0 (ty xs)) δ W1
      | _ => .bad)) h fun μ δ v H1 μ1 W1 d x1 S1 E1 rr p => ⟨μ1, W1, δ, d, S1, E1, rr, p⟩
  refine wpAny_For ?_ hs4
  refine Call_ (ld_blt I hge Gt.menum boot_enumerate (PyProof.Rows.callWith_type1 ?_ hs1 rfl))
  rw [hs1]
  refine Calls.spliced_cons ?_
  refine wpAny_Call_Name_kw (ld_glob I hgl Gd.hm ?_ hdb)
  refine PySem.W.callWith_K (h₀ := X.base) I.ok.mod.kin Gd.kp ?_ hs2 hs3
  rw [hs2]
  refine Calls.spliced_cons (thn (hmc.run pins s σ H _ I hq) fun u s1 ⟨v, H1, I1, rv, μ1, W1, δ, d, S1, E1, rd, pp⟩ => Calls.spliced_nil ⟨I1.kIn, ?_⟩)
  -- the corners
  obtain ⟨xs, a, hxs, hva, hpp⟩ : ∃ xs a, (d = .lst xs ∨ d = .tup xs) ∧ v = .ref a ∧ PstS X.K μ1 H1 D Wx (genL g t b (enumD 0 (ty xs)) δ W1) := by
    cases d with
    | lst xs =>
      obtain ⟨a, _, e, _⟩ := rd
      exact ⟨xs, a, .inl rfl, e, pp⟩
    | tup xs =>
      obtain ⟨a, _, e, _⟩ := rd
      exact ⟨xs, a, .inr rfl, e, pp⟩
    | _ => exact pp.elim
  subst hva
  obtain rfl : u = Value.ref a := rv
  -- the call
  obtain ⟨params, kws, F⟩ := Gd.F
  obtain ⟨oc, od, dV, kV, doc, pm, an, cdv, ct, osl, rfl, lk, hcd, _, _⟩ := F.ex
  have hb' := Gd.hb s1 [.ref a] I1.kIn rfl
  have KX := I1.kIn
  have hkind : ∀ y ∈ [p0].zip [Value.ref a], scope.names.lookup y.1 = some .local ∨ (scope.names.lookup y.1 = some .cell ∧ ((cellsFrom (s1.heap.objs.size + 1) scope.names []).lookup y.1).isSome = true) := fun ⟨n, z⟩ hy => by
    have e := (List.of_mem_zip hy).1
    rw [List.mem_singleton.mp e]
    exact .inl Gt.loc
  refine wpAny_call (codeAny_call_generator hr.depth (KX _ _ lk) rfl Gt.co Gt.gen rfl (PySem.W.codeRec_of KX hcd) (hb' _ _ _ _ ?_))
  refine wpAny_newFunctionEnv_cells Gt.kind hkind fun env he s2 xx => ?_
  subst he
  refine ⟨I1.nolimit.keeps xx.toInCall.keep, ?_⟩
  -- the state behind the call
  obtain ⟨h2, tk2, es2, hk2⟩ := xx.done
  subst es2
  have hns : h2.Ns s1.heap.objs.size (bindL (envOfC x scope s1.heap.objs.size f cdv).kindOf ([p0].zip [Value.ref a]) fun _ => none) := xx.toInCall.ns
  have hLlt : s1.heap.objs.size < h2.objs.size := hns.lt
  have I2 : Inv X pins σ H1 { s1 with heap := h2, toks := tk2 } := I1.kept hk2
  refine Calls.spliced_nil ?_
  have hgo : ∀ (go : Obj) (nm qn : Value) (tk3 : Nat), go.cls = .type "generator" → go.data = .fields #[.int s1.gens.size 0, nm, qn] → go.slots = #[] → (∀ h : Heap, (h.push go).get? h.objs.size = some go) →
      wpAny (model X.prog X.w) X.A (call (.type "enumerate") [.ref h2.objs.size]) (fun v s3 => wpAny (model X.prog X.w) X.A (pyIter v) (fun it s4 => codeAny (model X.prog X.w) X.A (.forLoop (.Tuple elts kk tpos) it [.If c suite [] ipos] [] X.env)
        (fun r s' => match r with | .ok f => SP X pins D f s' | .error e => cameBackBy (model X.prog X.w) X.A X.env X.xe e s') s4) X.xe s3) X.xe
        { s1 with heap := h2.push go, toks := tk3, gens := s1.gens.push (.fresh (.func [.For tg (.Call (.Name "enumerate" q1) [.Name p0 q2] [] q3) [.Expr (.Yield (some ye) yp) ypos] [] fpos] (envOfC x scope s1.heap.objs.size f cdv))) } := by
    intro go nm qn tk3 g1 g2 g3 g4
    have hga := g4 h2
    refine call_enumerate_gen (l := h2.objs.size) (g := s1.gens.size) ⟨go, nm, qn, hga, g1, g2, g3⟩ fun h3 he3 hsz3 hk3 => wpAny_pyIter_enum he3 ?_
    have hsp : (h2.push go).objs.size = h2.objs.size + 1 := Heap.size_push ..
    have hk23 : ∀ b o, h2.get? b = some o → h3.get? b = some o := fun b o e => hk3 b o (Heap.get?_push_of_some _ e)
    have I3 : Inv X pins σ H1 ({ s1 with heap := h3, toks := tk3, gens := s1.gens.push (.fresh (.func [.For tg (.Call (.Name "enumerate" q1) [.Name p0 q2] [] q3) [.Expr (.Yield (some ye) yp) ypos] [] fpos] (envOfC x scope s1.heap.objs.size f cdv))) } : Shared) :=
      I2.call' (ch := []) rfl (Un.kept hk23) (I2.hok.kept hk23) (AllBare.push I1.bare rfl) fun b z => absurd z (by simp)
    have free : ∀ {b : Addr}, s1.heap.objs.size ≤ b → H1 b = none := fun h => I1.hok.fresh h
    have B : GB1 ⟨X, pins, N, p0, envOfC x scope s1.heap.objs.size f cdv, xs, d, a, h2.objs.size, go, (h2.push go).objs.size, tg, ye, yp, ypos, ty⟩ x f scope cdv q1 q2 q3 := {
      Gt := Gt
      env := ⟨_, rfl⟩
      d := hxs
      mod := I1.ok.mod
      hd := I1.ok.hd hc
      fr := I1.ok.frames
      bsz := I1.ok.bsz
      s0 := I1.ok.above
      young := fun b hb => by
        obtain ⟨_, o, ho, _⟩ := I1.stack.mem hb
        exact Heap.lt_size ho
      cell := hcell
      lt := I1.lt
      pn := fun z hz => Heap.lt_size (I1.pin z hz).1
      l1 := hLlt
      l2 := by show h2.objs.size < (h2.push go).objs.size; rw [hsp]; exact Nat.lt_succ_self _
      goc := fun v z => by have z : go.data = .cell v := z; rw [g2] at z; cases z }
    have nsF : ∃ mm, h3.Ns s1.heap.objs.size mm ∧ mm p0 = some (.ref a) := by
      obtain ⟨o, es, ep, ho, r⟩ := hns
      exact ⟨_, ⟨o, es, ep, hk23 _ _ ho, r⟩, bindL_get (P := [p0]) (vs := [Value.ref a]) (List.nodup_cons.mpr ⟨List.not_mem_nil, List.nodup_nil⟩) (i := 0) rfl rfl Gt.loc⟩
    refine gLoopC (gn := s1.gens.size) (fpos := fpos) B hp hc hr rfl ⟨nm, qn, g1, g2, g3⟩ hg ht hb ⟨⟨H1, σ, μ1, W1, δ⟩, _, ⟨I3, S1, rd, ⟨hk3 _ _ hga, free (Nat.le_of_lt hLlt)⟩, ⟨.none, ?_⟩, free ?_, nsF, free (Nat.le_refl _), Nat.le_refl _, E1, ?_⟩, ?_, .inl ⟨rfl, rfl⟩⟩
    · show IsEnum h3 (h2.push go).objs.size h2.objs.size ((xs.length - xs.length : Nat) : Int) .none
      rw [Nat.sub_self]
      exact he3
    · show s1.heap.objs.size ≤ (h2.push go).objs.size
      rw [hsp]; exact Nat.le_succ_of_le (Nat.le_of_lt hLlt)
    · show PstS X.K μ1 H1 D Wx (genL g t b ((enumD 0 (ty xs)).drop (xs.length - xs.length)) δ W1)
      rw [Nat.sub_self]
      exact hpp
    · exact Array.getElem?_push_size ..
  exact hgo _ _ _ _ rfl rfl rfl fun h => Heap.get?_push_size _ rfl
end
end ML
set_option Elab.async false
set_option linter.all false
set_option maxRecDepth 100000
set_option maxHeartbeats 2000000
namespace ML
open PySem PySem.Spec PyProof.Rows L2
/-! ### what mirrors compute -/
section
variable {δ : Env} {W W1 W2 : Wo} {d e : D} {ds : List D} {ma mb m : ME} {r : MA} {f : MF} {op : DOp}
theorem mBin_ok (h1 : ma δ W = .ok d W1) (h2 : mb δ W1 = .ok e W2) : mBin op ma mb δ W = op d e W2 := by unfold mBin; rw [h1]; show (mb δ W1).bind _ = _; rw [h2]; rfl
theorem mCall_ok (h : r δ W = .ok ds W1) : mCall f r δ W = f ds W1 := by unfold mCall; rw [h]; rfl
theorem aCons_ok (h1 : m δ W = .ok d W1) (h2 : r δ W1 = .ok ds W2) : aCons m r δ W = .ok (d :: ds) W2 := by unfold aCons; rw [h1]; show (r δ W1).bind _ = _; rw [h2]; rfl
theorem mTup_ok (h : r δ W = .ok ds W1) (hl : ds.length ≤ sizeLine) : mTup r δ W = .ok (.tup ds) W1 := by unfold mTup; rw [h]; exact if_pos hl
theorem mLst_ok (h : r δ W = .ok ds W1) (hl : ds.length ≤ sizeLine) : mLst r δ W = .ok (.lst ds) W1 := by unfold mLst; rw [h]; exact if_pos hl
end
/-! ### triples -/
def triD (xs : List D) : List D := (List.range xs.length).map fun i => .tup [xs.getD ((i + xs.length - 1) % xs.length) .non, xs.getD i .non, xs.getD ((i + 1) % xs.length) .non]
theorem triD_len (xs : List D) : (triD xs).length = xs.length := by
  unfold triD
  rw [List.length_map, List.length_range]
theorem atI_nn {α : Type} (xs : List α) (i : Nat) (h : i < xs.length) : atI xs (i : Int) = xs[i]? := by
  unfold atI ixN
  rw [if_pos (Int.natCast_nonneg i), if_pos (by omega)]
  rfl
theorem atI_prev {α : Type} (xs : List α) (i : Nat) (h : i < xs.length) : atI xs ((i : Int) - 1) = xs[(i + xs.length - 1) % xs.length]? := by
  unfold atI ixN
  by_cases h0 : i = 0
  · subst h0
    rw [if_neg (by decide), if_pos (by omega)]
    show xs[_]? = xs[_]?
    congr 1
    rw [Nat.mod_eq_of_lt (by omega)]
    omega
  · rw [if_pos (by omega), if_pos (by omega)]
    show xs[_]? = xs[_]?
    congr 1
    have e : i + xs.length - 1 = (i - 1) + xs.length := by omega
    rw [e, Nat.add_mod_right, Nat.mod_eq_of_lt (by omega)]
    omega
theorem sql_lst (W : Wo) (xs : List D) : sqlOf W (.lst xs) = some xs := rfl
theorem idx_lst {W : Wo} {xs : List D} {i : Int} {x : D} (h : atI xs i = some x) : idxD (.lst xs) (.int i) W = .ok x W := by
  show (match sqlOf W (.lst xs) with
    | some xs => match atI xs i with
      | some x => Res.ok x W
      | none => .bad
    | none => .bad) = _
  rw [sql_lst]
  show (match atI xs i with
      | some x => Res.ok x W
      | none => .bad) = _
  rw [h]
theorem idx_tup {W : Wo} {xs : List D} {i : Int} {x : D} (h : atI xs i = some x) : idxD (.tup xs) (.int i) W = .ok x W := by
  show (match atI xs i with
      | some x => Res.ok x W
      | none => .bad) = _
  rw [h]
theorem mod_pos {W : Wo} {i j : Int} (h : 0 < j) : modD (.int i) (.int j) W = .ok (.int (i % j)) W := if_pos h
def my_triples : ME := mTup (aCons (mBin idxD (mVar 0) (mBin subD (mVar 1) (mC (.int 1)))) (aCons (mVar 2) (aCons (mBin idxD (mVar 0) (mBin modD (mBin addD (mVar 1) (mC (.int 1))) (mCall lenD (aCons (mVar 0) aNil)))) aNil)))
theorem my_triples_ok {xs : List D} {dC y : D} {i : Nat} (hd : dC = .lst xs ∨ dC = .tup xs) (hy : xs[i]? = some y) : ∃ d, (triD xs)[i]? = some d ∧ ∀ W, my_triples [some dC, some (.int (i : Nat)), some y] W = .ok d W := by
  obtain ⟨hi, ey⟩ := List.getElem?_eq_some_iff.mp hy
  have hp : (i + xs.length - 1) % xs.length < xs.length := Nat.mod_lt _ (by omega)
  have hn : (i + 1) % xs.length < xs.length := Nat.mod_lt _ (by omega)
  refine ⟨.tup [xs.getD ((i + xs.length - 1) % xs.length) .non, xs.getD i .non, xs.getD ((i + 1) % xs.length) .non], ?_, fun W => ?_⟩
  · unfold triD
    rw [List.getElem?_map, List.getElem?_range hi]
    rfl
  have a1 : atI xs ((i : Int) - 1) = some (xs.getD ((i + xs.length - 1) % xs.length) .non) := by
    rw [atI_prev xs i hi, List.getD_eq_getElem?_getD, List.getElem?_eq_getElem hp]
    rfl
  have a2 : atI xs (((i : Int) + 1) % (xs.length : Int)) = some (xs.getD ((i + 1) % xs.length) .non) := by
    have e : ((i : Int) + 1) % (xs.length : Int) = (((i + 1) % xs.length : Nat) : Int) := by rw [Int.natCast_emod]; rfl
    rw [e, atI_nn xs _ hn, List.getD_eq_getElem?_getD, List.getElem?_eq_getElem hn]
    rfl
  have a3 : xs.getD i .non = y := by rw [List.getD_eq_getElem?_getD, hy]; rfl
  have l0 : (0 : Int) < (xs.length : Int) := by omega
  rw [a3]
  rcases hd with rfl | rfl
  · exact mTup_ok (aCons_ok ((mBin_ok rfl (rfl : _ = Res.ok (D.int ((i : Int) - 1)) W)).trans (idx_lst a1)) (aCons_ok rfl (aCons_ok ((mBin_ok rfl ((mBin_ok (rfl : _ = Res.ok (D.int ((i : Int) + 1)) W) ((mCall_ok (aCons_ok rfl rfl)).trans (by rfl : lenD [_] W = .ok (.int xs.length) W))).trans (mod_pos l0))).trans (idx_lst a2)) rfl))) (by show 3 ≤ sizeLine; decide)
  · exact mTup_ok (aCons_ok ((mBin_ok rfl (rfl : _ = Res.ok (D.int ((i : Int) - 1)) W)).trans (idx_tup a1)) (aCons_ok rfl (aCons_ok ((mBin_ok rfl ((mBin_ok (rfl : _ = Res.ok (D.int ((i : Int) + 1)) W) ((mCall_ok (aCons_ok rfl rfl)).trans (by rfl : lenD [_] W = .ok (.int xs.length) W))).trans (mod_pos l0))).trans (idx_tup a2)) rfl))) (by show 3 ≤ sizeLine; decide)
end ML
set_option Elab.async false
set_option linter.all false
set_option maxRecDepth 100000
set_option maxHeartbeats 2000000
namespace ML
open PySem PySem.Spec PyProof.Rows L2
/-! ### a cell is written -/
theorem nodup_ixA {α : Type} : ∀ {l : List α} {i j : Nat} {x : α}, l.Nodup → l[i]? = some x → l[j]? = some x → i = j
  | [], _, _, _, _, h, _ => by simp at h
  | a :: l, 0, 0, _, _, _, _ => rfl
  | a :: l, 0, j + 1, x, n, h1, h2 => by
    have h1 : some a = some x := h1
    cases h1
    exact absurd (List.mem_of_getElem? (show l[j]? = some a from h2)) (List.nodup_cons.mp n).1
  | a :: l, i + 1, 0, x, n, h1, h2 => by
    have h2 : some a = some x := h2
    cases h2
    exact absurd (List.mem_of_getElem? (show l[i]? = some a from h1)) (List.nodup_cons.mp n).1
  | a :: l, i + 1, j + 1, x, n, h1, h2 => congrArg Nat.succ (nodup_ixA (List.nodup_cons.mp n).2 (show l[i]? = some x from h1) h2)
/-- an object that may change -/
def Mutb (o : HO) : Prop := (∀ xs, o ≠ .tup xs) ∧ (∀ b u, o ≠ .frz b u)
section
variable {K : PySem.W.Frag} {μ : Lo} {H : Hp} {W : Wo} {a : Addr} {j : Nat} {o o' : HO} {m m' : MO}
theorem RepM.mutb (r : RepM K μ H a m) : ∃ o, H a = some o ∧ Mutb o := by
  cases m with
  | lst ds => obtain ⟨vs, e, _⟩ := r; exact ⟨_, e, (fun _ z => nomatch z), fun _ _ z => nomatch z⟩
  | ins c ds => obtain ⟨dx, vs, e, _⟩ := r; exact ⟨_, e, (fun _ z => nomatch z), fun _ _ z => nomatch z⟩
  | dct kvs => obtain ⟨kv, e, _⟩ := r; exact ⟨_, e, (fun _ z => nomatch z), fun _ _ z => nomatch z⟩
  | tab P q => obtain ⟨_, ps, e, _⟩ := r; exact ⟨_, e, (fun _ z => nomatch z), fun _ _ z => nomatch z⟩
theorem RepS.cellOf (S : RepS K μ H W) (hj : μ.cells[j]? = some a) : ∃ m, W[j]? = some m ∧ RepM K μ H a m := by
  have hl : j < W.length := by rw [← S.len]; exact (List.getElem?_eq_some_iff.mp hj).1
  exact ⟨W[j], List.getElem?_eq_getElem hl, S.at_ j a _ hj (List.getElem?_eq_getElem hl)⟩
theorem Ext.put (S : RepS K μ H W) (hj : μ.cells[j]? = some a) (nt : ∀ ps, H a ≠ some (.tbl ps)) : Ext μ H μ (upd H a o') := by
  obtain ⟨m, _, r⟩ := S.cellOf hj
  obtain ⟨o, e, mt⟩ := r.mutb
  have mem := List.mem_of_getElem? hj
  refine ⟨⟨[], by simp⟩, fun _ h => h, fun _ h => .inl h, fun b u q n => ?_, fun b m n => absurd m n, fun b q => upd_live b q, fun b xs q => ?_, fun b u v q => ?_, fun b ps q => ⟨#[], ?_⟩⟩
  · rw [upd_ne (fun z => n (by rw [z]; exact mem))]; exact q
  · rw [upd_ne (fun z => by rw [z, e] at q; exact mt.1 _ (Option.some.inj q))]; exact q
  · rw [upd_ne (fun z => by rw [z, e] at q; exact mt.2 _ _ (Option.some.inj q))]; exact q
  · rw [upd_ne (fun z => by rw [z] at q; exact nt ps q)]; simpa using q
theorem RepS.put (S : RepS K μ H W) (hj : μ.cells[j]? = some a) (nt : ∀ ps, H a ≠ some (.tbl ps)) (r : RepM K μ (upd H a o') a m') : RepS K μ (upd H a o') (W.set j m') where
  nd := S.nd
  len := by rw [List.length_set]; exact S.len
  off := S.off
  there := fun b h => upd_live b (S.there b h)
  at_ := fun i b m1 h1 h2 => by
    by_cases hi : j = i
    · subst hi
      have hl : j < W.length := by rw [← S.len]; exact (List.getElem?_eq_some_iff.mp hj).1
      rw [List.getElem?_set_self hl] at h2
      rw [hj] at h1
      cases h1
      cases h2
      exact r
    · rw [List.getElem?_set_ne hi] at h2
      have ne : b ≠ a := fun z => by
        subst z
        exact hi (nodup_ixA S.nd hj h1)
      exact RepM.ext (Ext.put S hj nt) (S.at_ i b m1 h1 h2) fun u e => by rw [upd_ne ne]; exact e
end
/-! ### self.f = e -/
theorem putF_zip {f : Str} {y : V} : ∀ {fl : List Str} {vs : List V} {i : Nat}, fl.Nodup → fl[i]? = some f → i ≤ vs.length → vs.length ≤ fl.length → putF f y (fl.zip vs) = fl.zip (if i < vs.length then vs.set i y else vs ++ [y])
  | [], _, _, _, h, _, _ => by simp at h
  | g :: fl, [], 0, n, h, _, _ => by
    have h : some g = some f := h
    cases h
    show putF f y [] = (f :: fl).zip ([] ++ [y])
    show [(f, y)] = (f, y) :: fl.zip []
    rw [List.zip_nil_right]
  | g :: fl, [], i + 1, n, h, hl, _ => absurd hl (by simp)
  | g :: fl, v :: vs, 0, n, h, _, _ => by
    have h : some g = some f := h
    cases h
    show putF f y ((f, v) :: fl.zip vs) = _
    unfold putF
    rw [if_pos rfl]
    rfl
  | g :: fl, v :: vs, i + 1, n, h, hl, hk => by
    have h' : fl[i]? = some f := h
    have ne : ¬ g = f := fun z => (List.nodup_cons.mp n).1 (by rw [z]; exact List.mem_of_getElem? h')
    have ih := putF_zip (y := y) (List.nodup_cons.mp n).2 h' (Nat.le_of_succ_le_succ hl) (Nat.le_of_succ_le_succ hk)
    show putF f y ((g, v) :: fl.zip vs) = _
    unfold putF
    rw [if_neg ne, ih]
    by_cases hi : i < vs.length
    · rw [if_pos hi, if_pos (show i + 1 < (v :: vs).length from Nat.succ_lt_succ hi)]
      rfl
    · rw [if_neg hi, if_neg (show ¬ i + 1 < (v :: vs).length from fun z => hi (Nat.lt_of_succ_lt_succ z))]
      rfl
def setAt (i : Nat) (d : D) (fs : List D) : Option (List D) := if i < fs.length then some (fs.set i d) else if i = fs.length then some (fs ++ [d]) else none
/-- o.f = e: o a cell -/
def sFldS (g : Cl → Option Nat) (mo me : ME) : MS := fun δ W => (me δ W).toS δ fun y W1 => (mo δ W1).toS δ fun o W2 => match o with
  | .cell j => match W2[j]? with
    | some (.ins c fs) => match g c with
      | some i => match setAt i y fs with
        | some fs' => .nx δ (W2.set j (.ins c fs'))
        | none => .bad
      | none => .bad
    | _ => .bad
  | _ => .bad
theorem Reps.set {K : PySem.W.Frag} {μ : Lo} {H : Hp} {y : V} {d : D} (r : Rep K μ H y d) : ∀ {vs : List V} {ds : List D} (i : Nat), Reps K μ H vs ds → Reps K μ H (vs.set i y) (ds.set i d)
  | _, [], _, h => by
    have e : _ = ([] : List V) := h
    subst e
    exact rfl
  | _, _ :: _, 0, h => by
    obtain ⟨v, rr, rfl, h1, h2⟩ := h
    exact ⟨y, rr, rfl, r, h2⟩
  | _, _ :: _, i + 1, h => by
    obtain ⟨v, rr, rfl, h1, h2⟩ := h
    exact ⟨v, rr.set i y, rfl, h1, Reps.set r i h2⟩
theorem PstS.toM {K : PySem.W.Frag} {α β : Type} {R : Lo → Hp → β → α → Prop} {Wx : WX} {m : Res α} {f : α → Wo → SR} {σ : L2.St} {H : Hp} {Dn : Ends} {μ : Lo} {δ : Env} (E : RepE K μ H σ δ) (p : PstS K μ H Dn Wx (m.toS δ f)) :
    Pst K R μ H (fun b H' => ∃ μ1 W1 a, Ext μ H μ1 H' ∧ RepS K μ1 H' W1 ∧ RepE K μ1 H' σ δ ∧ R μ1 H' b a ∧ PstS K μ1 H' Dn Wx (f a W1)) (fun c d H' => Wx c d σ H') m := by
  cases m with
  | ok a W1 => exact fun b μ1 H1 x1 S1 r1 => ⟨μ1, W1, a, x1, S1, E.ext x1, r1, PstS.shift x1 p⟩
  | ex c fs W1 => exact fun cls dd μ1 H1 x1 S1 r1 => p cls dd σ μ1 H1 x1 S1 (E.ext x1) r1
  | bad => exact p
theorem ins_cell {K : PySem.W.Frag} {μ : Lo} {H : Hp} {W : Wo} {j : Nat} {c : Cl} {fs : List D} {v : V} (S : RepS K μ H W) (r : Rep K μ H v (.cell j)) (e : W[j]? = some (.ins c fs)) :
    ∃ a dx vs, v = .ref a ∧ μ.cells[j]? = some a ∧ H a = some (.ins (cAd K c) dx (c.fl.zip vs)) ∧ fs.length ≤ c.fl.length ∧ Reps K μ H vs fs := by
  obtain ⟨a, rfl, hj⟩ := r
  obtain ⟨dx, vs, h1, h2, h3⟩ := S.at_ j a _ hj e
  exact ⟨a, dx, vs, rfl, hj, h1, h2, h3⟩
section
variable {X : Cx} {Wx : WX} {o e : Expr} {f : Str} {pos pos' : Pos} {mo me : ME}
theorem pms_fld {g : Cl → Option Nat} (hg : ∀ c i, g c = some i → FldOk X.K c i f) (ho : PM X Wx o mo) (he : PM X Wx e me) (hs : swapsWith e (some (.Attribute o f pos')) pos.line X.env = pure false := by rfl) : PMS X Wx (.Assign [.Attribute o f pos'] e pos) (sFldS g mo me) :=
  PS.imp (ps_fld ho he hs) fun Dn σ H h => tS.bind h fun μ δ y H1 μ1 W1 dy x1 S1 E1 ry p => by
    refine ⟨μ1, W1, δ, S1, E1, Pst.imp (PstS.toM (R := RD X.K) E1 p) (fun ov μ' H' _ ⟨μ2, W2, d, x2, S2, E2, rd, q⟩ => ?_) fun _ _ _ z => z⟩
    cases d with
    | cell j =>
      have q : PstS X.K μ2 H' Dn Wx (match W2[j]? with
        | some (.ins c fs) => match g c with
          | some i => match setAt i dy fs with
            | some fs' => .nx δ (W2.set j (.ins c fs'))
            | none => .bad
          | none => .bad
        | _ => .bad) := q
      split at q
      · rename_i c fs hW
        split at q
        · rename_i i hi
          split at q
          · rename_i fs' hf
            obtain ⟨a, dx, vs, rfl, hj, ha, hl, rs⟩ := ins_cell S2 rd hW
            have k := hg c i hi
            have hlen := rs.length
            have hil : i < c.fl.length := (List.getElem?_eq_some_iff.mp k.at_).1
            have hfl : c.fl.length ≤ 4 := by cases c <;> decide
            have hz : (c.fl.zip vs).length ≤ 4 := by rw [List.length_zip]; omega
            refine ⟨a, cAd X.K c, dx, _, rfl, ha, k.cl, k.na, by omega, ?_⟩
            have iv : i ≤ vs.length := by
              unfold setAt at hf
              split at hf
              · omega
              · split at hf
                · omega
                · cases hf
            rw [putF_zip k.nd k.at_ iv (by omega)]
            have xp := Ext.put (o' := .ins (cAd X.K c) dx (c.fl.zip (if i < vs.length then vs.set i y else vs ++ [y]))) S2 hj (fun ps z => by rw [ha] at z; cases z)
            generalize hvs : (if i < vs.length then vs.set i y else vs ++ [y]) = us at xp ⊢
            have ry2 := Rep.ext (x2.trans xp) ry
            have rs2 := Reps.ext xp rs
            refine q _ μ2 _ xp (S2.put hj (fun ps z => by rw [ha] at z; cases z) ⟨dx, _, upd_same, ?_, ?_⟩) (E2.ext xp)
            · unfold setAt at hf
              split at hf
              · cases hf; rw [List.length_set]; exact hl
              · split at hf
                · cases hf; rw [List.length_append, List.length_singleton]; omega
                · cases hf
            · unfold setAt at hf
              split at hf
              · rename_i hlt
                cases hf
                rw [if_pos (by omega)] at hvs
                subst hvs
                exact Reps.set ry2 i rs2
              · split at hf
                · cases hf
                  rw [if_neg (by omega)] at hvs
                  subst hvs
                  exact Reps.append rs2 ⟨y, [], rfl, ry2, rfl⟩
                · cases hf
          · exact q.elim
        · exact q.elim
      · exact q.elim
    | _ => exact q.elim
end
end ML
set_option Elab.async false
set_option linter.all false
set_option maxRecDepth 100000
set_option maxHeartbeats 2000000
namespace ML
open PySem PySem.Spec PyProof.Rows L2
/-! ### C(..) at a state's own slots -/
section
variable {X : Cx} {CX : CXT} {k : Nat} {f C : Addr} {fd : FuncData} {ps : List Str} {sp : Sp} {dvs : List V} {ds : List Value} {E : XK}
theorem run_makeAt {pins : List (Addr × Obj)} {σ : L2.St} {H : Hp} {s : Shared} {Q : VK} {us : List Value} {vs : List V} (M : Mk X.K C f) (F : FnOk X.prog X.w X.K X.mg X.base CX k f fd ps sp) (hr : Room (k + 1) X.A) (hb : Binds X.K fd ps ds) (hd : Vals dvs ds)
    (hx : PassesAt CX X σ E) (I : Inv X pins σ H s) (r : Vals vs us)
    (h : ∀ x dx, H x = none → H dx = none → dx ≠ x → sp (.ref x :: (vs ++ dvs)) (upd (upd H dx (.own x)) x (.ins C dx [])) (fun v H2 => v = .non ∧ Q (.ref x) H2) E) :
    wpAny (model X.prog X.w) X.A (call (.ref C) us) (EP X pins σ Q) X.xe s := by
  have hq := h (s.heap.objs.size + 1) s.heap.objs.size (I.hok.fresh (Nat.le_succ _)) (I.hok.fresh (Nat.le_refl _)) (Nat.ne_of_lt (Nat.lt_succ_self _))
  have I2 := Inv.made (C := C) I
  have r2 : Vals (V.ref (s.heap.objs.size + 1) :: (vs ++ dvs)) (Value.ref (s.heap.objs.size + 1) :: (us ++ ds)) := .cons rfl (r.append hd)
  have hl : (Value.ref (s.heap.objs.size + 1) :: us ++ ds).length = ps.length := r2.length.symm.trans (F.len _ _ _ _ hq)
  refine wpAny_call (make_map (f := f) I.kIn M.makes M.init (beq_iff_eq.mp M.fn) (codeAny_mono (F.run _ X.stack _ _ ⟨Value.ref (s.heap.objs.size + 1) :: us, []⟩ (Value.ref (s.heap.objs.size + 1) :: (us ++ ds)) _ _ E (hr.make C us [])
    (I2.env0.make C us []) (hb _ (Value.ref (s.heap.objs.size + 1) :: us) I2.kIn hl) r2 hq) fun r s' hq' => ?_))
  match r, hq' with
  | .error e, hq' => exact hx pins _ _ e s' I2 hq'
  | .ok (.ret u), hq' =>
    obtain ⟨v, H', I3, rv, ev, q3⟩ := I2.after hq'
    subst ev
    exact ⟨rv, ⟨V.ref (s.heap.objs.size + 1), H', I3, rfl, q3⟩⟩
  | .ok .next, hq' => exact False.elim hq'
  | .ok .brk, hq' => exact False.elim hq'
  | .ok .cont, hq' => exact False.elim hq'
end
/-! ### the cells that a datum names -/
mutual
def loD (k : Nat) : D → Bool
  | .cell i => decide (i < k)
  | .tup ds => loL k ds
  | .lst ds => loL k ds
  | .obj _ ds => loL k ds
  | .exo _ _ _ ds => loL k ds
  | _ => true
def loL (k : Nat) : List D → Bool
  | [] => true
  | d :: ds => loD k d && loL k ds
end
def loM (k : Nat) : MO → Bool
  | .lst ds => loL k ds
  | .ins _ ds => loL k ds
  | .dct kvs => loL k (kvs.map (·.2))
  | .tab _ _ => true
section
variable {K : PySem.W.Frag} {μ : Lo} {H : Hp}
mutual
theorem Rep.lo : ∀ {v : V} {d : D}, Rep K μ H v d → loD μ.cells.length d = true
  | _, .non, _ => rfl
  | _, .bl _, _ => rfl
  | _, .int _, _ => rfl
  | _, .str _, _ => rfl
  | _, .raw _, _ => rfl
  | _, .scr _, _ => rfl
  | _, .cell i, ⟨a, _, h⟩ => decide_eq_true (List.getElem?_eq_some_iff.mp h).1
  | _, .tup _, ⟨_, _, _, _, r⟩ => Reps.lo r
  | _, .lst _, ⟨_, _, _, _, _, r⟩ => Reps.lo r
  | _, .obj _ _, ⟨_, _, _, _, _, _, _, r⟩ => Reps.lo r
  | _, .exo _ _ _ _, ⟨_, .inl ⟨_, e, _⟩⟩ => by rw [e]; rfl
  | _, .exo _ _ _ _, ⟨_, .inr ⟨_, _, _, _, _, _, _, _, _, r⟩⟩ => Reps.lo r
theorem Reps.lo : ∀ {vs : List V} {ds : List D}, Reps K μ H vs ds → loL μ.cells.length ds = true
  | _, [], _ => rfl
  | _, _ :: _, ⟨_, _, _, h1, h2⟩ => by
    show (loD _ _ && loL _ _) = true
    rw [Rep.lo h1, Reps.lo h2]
    rfl
end
theorem RepM.lo {a : Addr} {m : MO} (r : RepM K μ H a m) : loM μ.cells.length m = true := by
  cases m with
  | lst ds => obtain ⟨_, _, r⟩ := r; exact Reps.lo r
  | ins c ds => obtain ⟨_, _, _, _, r⟩ := r; exact Reps.lo r
  | dct kvs => obtain ⟨_, _, _, r⟩ := r; exact Reps.lo r
  | tab P q => rfl
variable {cs more : List Addr}
mutual
theorem Rep.lower (hc : μ.cells = cs ++ more) : ∀ {v : V} {d : D}, loD cs.length d = true → Rep K μ H v d → Rep K ⟨cs, μ.out⟩ H v d
  | _, .non, _, h => h
  | _, .bl _, _, h => h
  | _, .int _, _, h => h
  | _, .str _, _, h => h
  | _, .raw _, _, h => h
  | _, .scr _, _, ⟨a, e, h⟩ => ⟨a, e, h.imp (fun ⟨s, n⟩ => ⟨s, fun z => n.1 (by rw [hc]; exact List.mem_append_left _ z), n.2⟩) id⟩
  | _, .cell i, l, ⟨a, e, h⟩ => ⟨a, e, by
    have l : i < cs.length := of_decide_eq_true l
    rw [hc, List.getElem?_append_left l] at h
    exact h⟩
  | _, .tup _, l, ⟨a, vs, e, s, r⟩ => ⟨a, vs, e, s, Reps.lower hc l r⟩
  | _, .lst _, l, ⟨a, vs, e, s, n, r⟩ => ⟨a, vs, e, s, ⟨fun z => n.1 (by rw [hc]; exact List.mem_append_left _ z), n.2⟩, Reps.lower hc l r⟩
  | _, .obj _ _, l, ⟨a, dx, vs, e, s, n, hl, r⟩ => ⟨a, dx, vs, e, s, ⟨fun z => n.1 (by rw [hc]; exact List.mem_append_left _ z), n.2⟩, hl, Reps.lower hc l r⟩
  | _, .exo _ _ _ _, l, ⟨e, .inl h⟩ => ⟨e, .inl h⟩
  | _, .exo _ _ _ _, l, ⟨e, .inr ⟨h1, h2, dd, fv, vs, h3, h4, h5, h6, h7⟩⟩ => ⟨e, .inr ⟨h1, h2, dd, fv, vs, h3, h4, fun z => h5 (by rw [hc]; exact List.mem_append_left _ z), h6, Reps.lower hc l h7⟩⟩
theorem Reps.lower (hc : μ.cells = cs ++ more) : ∀ {vs : List V} {ds : List D}, loL cs.length ds = true → Reps K μ H vs ds → Reps K ⟨cs, μ.out⟩ H vs ds
  | _, [], _, h => h
  | _, _ :: _, l, ⟨v, r, e, h1, h2⟩ => by
    obtain ⟨l1, l2⟩ := Bool.and_eq_true_iff.mp (show (loD _ _ && loL _ _) = true from l)
    exact ⟨v, r, e, Rep.lower hc l1 h1, Reps.lower hc l2 h2⟩
end
theorem RepM.lower (hc : μ.cells = cs ++ more) {a : Addr} {m : MO} (l : loM cs.length m = true) (r : RepM K μ H a m) : RepM K ⟨cs, μ.out⟩ H a m := by
  cases m with
  | lst ds => obtain ⟨vs, e, r⟩ := r; exact ⟨vs, e, Reps.lower hc l r⟩
  | ins c ds => obtain ⟨dx, vs, e, hl, r⟩ := r; exact ⟨dx, vs, e, hl, Reps.lower hc l r⟩
  | dct kvs => obtain ⟨kv, e, hk, r⟩ := r; exact ⟨kv, e, hk, Reps.lower hc l r⟩
  | tab P q =>
    obtain ⟨e0, ps, e, t, r⟩ := r
    refine ⟨e0, ps, e, t, fun pos cv h => ?_⟩
    obtain ⟨c, h1, h2, h3⟩ := r pos cv h
    exact ⟨c, h1, h2, fun z => h3 (by rw [hc]; exact List.mem_append_left _ z)⟩
theorem RepS.lower {W Z : Wo} (hc : μ.cells = cs ++ more) (hl : cs.length = W.length) (S : RepS K μ H (W ++ Z)) (lo : ∀ m ∈ W, loM cs.length m = true) : RepS K ⟨cs, μ.out⟩ H W where
  nd := by have n := S.nd; rw [hc] at n; exact (List.nodup_append.mp n).1
  len := hl
  off := fun a m => S.off a (by rw [hc]; exact List.mem_append_left _ m)
  there := S.there
  at_ := fun i a m h1 h2 => by
    have hi := (List.getElem?_eq_some_iff.mp h2).1
    have h1 : cs[i]? = some a := h1
    refine RepM.lower hc (lo m (List.mem_of_getElem? h2)) (S.at_ i a m ?_ ?_)
    · rw [hc, List.getElem?_append_left (hl ▸ hi)]; exact h1
    · rw [List.getElem?_append_left hi]; exact h2
end
/-! ### an instance that stands still once it is made -/
abbrev IR := Option (List D ⊕ (Cl × List D))
def mMakeF (c : Cl) (F : List D → IR) (r : MA) : ME := fun δ W => (r δ W).bind fun ds W1 => match F ds with
  | none => .bad
  | some (.inl fs) => .ok (.obj c fs) W1
  | some (.inr (c', fs')) => .ex c' fs' W1
def InitLaw (c : Cl) (mi : MF) (F : List D → IR) : Prop := ∀ ds W, F ds = none ∨ (∃ fs, F ds = some (.inl fs) ∧ loL W.length fs = true ∧ mi (.cell W.length :: ds) (W ++ [.ins c []]) = .ok .non (W ++ [.ins c fs])) ∨
  (∃ c' fs' fs, F ds = some (.inr (c', fs')) ∧ loL W.length fs' = true ∧ mi (.cell W.length :: ds) (W ++ [.ins c []]) = .ex c' fs' (W ++ [.ins c fs]))
structure MkC (P : Program) (w : World) (K : PySem.W.Frag) (mg : Str → Option Value) (base : Heap) (k : Nat) (c : Cl) (n : Nat) (mi : MF) : Prop where
  gC : mg c.nm = some (.ref (cAd K c))
  mkx : ∃ f, Mk K (cAd K c) f ∧ FnM P w K mg base k f (n + 1) mi
section
variable {X : Cx} {Wx : WX} {x : Str} {p pos : Pos} {e : Expr} {es : List Expr} {r : MA} {k : Nat} {c : Cl} {mi : MF} {F : List D → IR}
theorem ext_made {K : PySem.W.Frag} {μ : Lo} {H : Hp} {a dx : Addr} {C : Addr} (ha : H a = none) (hd : H dx = none) (ne : dx ≠ a) : Ext μ H (μ.add a) (upd (upd H dx (.own a)) a (.ins C dx [])) :=
  (Ext.new hd).trans (Ext.newCell (by rw [upd_ne (Ne.symm ne)]; exact ha))
theorem pm_make (M : MkC X.prog X.w X.K X.mg X.base k c (e :: es).length mi) (L : InitLaw c mi F) (hr : Room (k + 1) X.A) (tk : Takes X Wx) (ha : PMA X Wx (e :: es) r) (hx : x = c.nm := by rfl) (hg : Gl X x := by rfl)
    (hdb : (x == ("__debug__" : Str)) = false := by decide) (he : starEach (e :: es) X.env = (false, eval e X.env) :: starEach es X.env := by rfl) (hpl : (backTo pos (starEach es X.env)).any (·.1) = false := by rfl) :
    PM X Wx (.Call (.Name x p) (e :: es) [] pos) (mMakeF c F r) := by
  obtain ⟨f, Mk, fm⟩ := M.mkx
  obtain ⟨fd, ps, ds0, dvs, sp, G, hb, hd, imp⟩ := fm.ex
  refine ⟨fun pins s σ H Q I h => ?_⟩
  refine wpAny_Call_Name_kw (ld_glob I hg (by rw [hx]; exact M.gC) ?_ hdb)
  have h2 := tM.bind (P := fun vs H1 => ∃ μ1 W1 ds, RepS X.K μ1 H1 W1 ∧ Reps X.K μ1 H1 vs ds ∧ Pst X.K (RD X.K) μ1 H1 Q (fun c d H' => Wx c d σ H') (match F ds with
    | none => .bad
    | some (.inl fs) => .ok (.obj c fs) W1
    | some (.inr (c', fs')) => .ex c' fs' W1)) h fun μ δ vs H1 μ1 W1 ds x1 S1 E1 r1 p => ⟨μ1, W1, ds, S1, r1, p⟩
  have hlen : ∀ us s1, AP X pins σ (fun vs H1 => ∃ μ1 W1 ds, RepS X.K μ1 H1 W1 ∧ Reps X.K μ1 H1 vs ds ∧ Pst X.K (RD X.K) μ1 H1 Q (fun c d H' => Wx c d σ H') (match F ds with
    | none => .bad
    | some (.inl fs) => .ok (.obj c fs) W1
    | some (.inr (c', fs')) => .ex c' fs' W1)) us s1 → True := fun _ _ _ => trivial
  obtain ⟨μ0, W0, δ0, S0, E0, p0⟩ := h
  have hpa : tM X.K (RL X.K) r Wx σ H fun vs H1 => vs.length = (e :: es).length ∧ ∃ μ1 W1 ds, RepS X.K μ1 H1 W1 ∧ Reps X.K μ1 H1 vs ds ∧ Pst X.K (RD X.K) μ1 H1 Q (fun c d H' => Wx c d σ H') (match F ds with
    | none => .bad
    | some (.inl fs) => .ok (.obj c fs) W1
    | some (.inr (c', fs')) => .ex c' fs' W1) := by
    refine ⟨μ0, W0, δ0, S0, E0, ?_⟩
    have p' : Pst X.K (RD X.K) μ0 H Q (fun c d H' => Wx c d σ H') ((r δ0 W0).bind fun ds W1 => match F ds with
      | none => .bad
      | some (.inl fs) => .ok (.obj c fs) W1
      | some (.inr (c', fs')) => .ex c' fs' W1) := p0
    cases er : r δ0 W0 with
    | ok ds W1 =>
      rw [er] at p'
      exact fun vs μ1 H1 x1 S1 r1 => ⟨by rw [r1.length]; exact ha.len δ0 W0 ds W1 er, μ1, W1, ds, S1, r1, Pst.shift x1 p'⟩
    | ex c fs W1 => rw [er] at p'; exact p'
    | bad => rw [er] at p'; exact p'
  refine PySem.W.callWith_K (h₀ := X.base) I.ok.mod.kin Mk.kp (thn (ha.pa.run pos pins s σ H _ I hpa) fun us s1 ⟨vs, H1, I1, r1, hz, μ1, W1, ds, S1, rs, q⟩ => ⟨I1.kIn, ?_⟩) he hpl
  refine run_makeAt Mk G hr hb hd (passAt tk σ) I1 r1 fun a dx hna hnd ne => ?_
  refine imp (.ref a :: vs) _ _ _ ⟨congrArg Nat.succ hz, μ1.add a, W1 ++ [.ins c []], .cell W1.length :: ds, ?_, ?_, ?_⟩
  · exact (S1.new hnd).newC (by rw [upd_ne (Ne.symm ne)]; exact hna) ⟨dx, [], by rw [upd_same, List.zip_nil_right], Nat.zero_le _, rfl⟩
  · refine ⟨_, vs, rfl, ⟨a, rfl, ?_⟩, Reps.ext (ext_made (K := X.K) hna hnd ne) rs⟩
    show (μ1.cells ++ [a])[W1.length]? = some a
    rw [← S1.len, List.getElem?_append_right (Nat.le_refl _), Nat.sub_self]
    rfl
  have low : ∀ (μ3 : Lo) (H3 : Hp) (fs : List D), Ext (μ1.add a) (upd (upd H1 dx (.own a)) a (.ins (cAd X.K c) dx [])) μ3 H3 → RepS X.K μ3 H3 (W1 ++ [.ins c fs]) →
      μ3.cells = μ1.cells ++ [a] ∧ Ext μ1 H1 ⟨μ1.cells, μ3.out⟩ H3 ∧ RepS X.K ⟨μ1.cells, μ3.out⟩ H3 W1 := fun μ3 H3 fs x3 S3 => by
    obtain ⟨l, hl⟩ := x3.pre
    have hl : μ3.cells = (μ1.cells ++ [a]) ++ l := hl
    have e0 : l = [] := by
      have e1 := S3.len
      have e2 := S1.len
      rw [hl, List.length_append, List.length_append, e2, List.length_append] at e1
      have e1 : W1.length + 1 + l.length = W1.length + 1 := e1
      exact List.eq_nil_of_length_eq_zero (by omega)
    subst e0
    rw [List.append_nil] at hl
    have xx := (ext_made (K := X.K) (C := cAd X.K c) hna hnd ne).trans x3
    refine ⟨hl, ⟨⟨[], by simp⟩, xx.outS, xx.outN, fun b o h n => xx.keep b o h n, fun b m n => absurd m n, xx.live, xx.keepT, xx.keepZ, xx.keepB⟩, S3.lower hl S1.len fun m hm => ?_⟩
    obtain ⟨i, hi⟩ := List.getElem?_of_mem hm
    have hlt : i < μ1.cells.length := by rw [S1.len]; exact (List.getElem?_eq_some_iff.mp hi).1
    exact (S1.at_ i _ m (List.getElem?_eq_getElem hlt) hi).lo
  rcases L ds W1 with e1 | ⟨fs, e1, lo, e2⟩ | ⟨c', fs', fs, e1, lo, e2⟩
  · rw [e1] at q; exact q.elim
  · rw [e1] at q
    rw [e2]
    intro b μ3 H3 x3 S3 rb
    obtain ⟨hl, xl, Sl⟩ := low μ3 H3 fs x3 S3
    have hk : μ3.cells[W1.length]? = some a := by rw [hl, ← S1.len, List.getElem?_append_right (Nat.le_refl _), Nat.sub_self]; rfl
    obtain ⟨dx', vs', h1, h2, h3⟩ := S3.at_ W1.length a (.ins c fs) hk (by rw [List.getElem?_append_right (Nat.le_refl _), Nat.sub_self]; rfl)
    refine ⟨rb, q (.ref a) _ H3 xl Sl ⟨a, dx', vs', rfl, h1, ⟨fun z => ?_, S3.off a (List.mem_of_getElem? hk)⟩, h2, Reps.lower hl (by rw [S1.len]; exact lo) h3⟩⟩
    have n := S3.nd
    rw [hl] at n
    exact (List.nodup_append.mp n).2.2 a z a (List.mem_singleton_self _) rfl
  · rw [e1] at q
    rw [e2]
    intro cls dd μ3 H3 x3 S3 rx
    obtain ⟨hl, xl, Sl⟩ := low μ3 H3 fs x3 S3
    exact q cls dd _ H3 xl Sl ⟨rx.1, fun z => Rep.lower hl (by show loL μ1.cells.length fs' = true; rw [S1.len]; exact lo) (rx.2 z)⟩
end
end ML
set_option Elab.async false
set_option linter.all false
set_option maxRecDepth 100000
set_option maxHeartbeats 2000000
namespace ML
open PySem PySem.Spec PyProof.Rows L2
/-! ### methods, properties -/
structure MtC (P : Program) (w : World) (K : PySem.W.Frag) (mg : Str → Option Value) (base : Heap) (k : Nat) (c : Cl) (name : Str) (n : Nat) (m : MF) : Prop where
  cl : Cls K (cAd K c)
  nf : name ∉ c.fl
  mt : ∃ f, Meth K (cAd K c) name f ∧ FnM P w K mg base k f (n + 1) m
theorem zip_none {f : Str} : ∀ {fl : List Str} {vs : List V}, f ∉ fl → (fl.zip vs).lookup f = none
  | [], _, _ => rfl
  | _ :: _, [], _ => rfl
  | g :: fl, v :: vs, h => by
    rw [List.zip_cons_cons, List.lookup_cons, beq_eq_false_iff_ne.mpr fun z => h (by rw [z]; exact List.mem_cons_self)]
    exact zip_none fun z => h (List.mem_cons_of_mem _ z)
def mMeth (g : Cl → Option MF) (mo : ME) (r : MA) : ME := fun δ W => (mo δ W).bind fun o W1 => match insOf W1 o with
  | some (c, _) => match g c with
    | some m => (r δ W1).bind fun ds W2 => m (o :: ds) W2
    | none => .bad
  | none => .bad
section
variable {X : Cx} {Wx : WX} {o e : Expr} {es : List Expr} {name : Str} {apos pos : Pos} {mo : ME} {r : MA} {k : Nat} {g : Cl → Option MF}
theorem pm_meth {pl : Sem Bool} (hg : ∀ c m, g c = some m → MtC X.prog X.w X.K X.mg X.base k c name (e :: es).length m) (hr : Room k X.A) (tk : Takes X Wx) (ho : PM X Wx o mo) (ha : PMA X Wx (e :: es) r)
    (hst : starEach (e :: es) X.env = (false, eval e X.env) :: starEach es X.env := by rfl) (hpl : (backTo pos (starEach es X.env)).any (·.1) = false := by rfl)
    (ht : eval (.Call (.Attribute o name apos) (e :: es) [] pos) X.env = (do
      let ov ← eval o X.env
      standAt apos.atName
      let (f, first) ← holding [ov] (getMethod ov name pl)
      callWith pos f first (backTo pos (starEach (e :: es) X.env)) (backToKw pos (keywordEach [] X.env))) := by rfl) :
    PM X Wx (.Call (.Attribute o name apos) (e :: es) [] pos) (mMeth g mo r) := by
  refine ⟨fun pins s σ H Q I h => ?_⟩
  have h2 : tM X.K (RD X.K) mo Wx σ H fun x H1 => ∃ a dx c vs m, x = .ref a ∧ H1 a = some (.ins (cAd X.K c) dx (c.fl.zip vs)) ∧ g c = some m ∧ tM X.K (RL X.K) r Wx σ H1 fun us H2 => us.length = (e :: es).length ∧ spM X.K m (x :: us) H2 Q (fun c d H' => Wx c d σ H') :=
    tM.bind h fun μ δ x H1 μ1 W1 d x1 S1 E1 r1 p => by
      have p : Pst X.K (RD X.K) μ1 H1 Q _ (match insOf W1 d with
        | some (c, _) => match g c with
          | some m => (r δ W1).bind fun ds W2 => m (d :: ds) W2
          | none => .bad
        | none => .bad) := p
      split at p
      · rename_i c fs hi
        split at p
        · rename_i m hm
          obtain ⟨a, dx, vs, rfl, ha', hl, rs⟩ := ins_at S1 r1 hi
          refine ⟨a, dx, c, vs, m, rfl, ha', hm, μ1, W1, δ, S1, E1, ?_⟩
          cases er : r δ W1 with
          | ok ds W2 =>
            rw [er] at p
            exact fun us μ2 H2 x2 S2 r2 => ⟨by rw [r2.length]; exact ha.len δ W1 ds W2 er, μ2, W2, d :: ds, S2, ⟨_, us, rfl, Rep.ext x2 r1, r2⟩, Pst.shift x2 p⟩
          | ex c fs W2 => rw [er] at p; exact p
          | bad => rw [er] at p; exact p
        · exact p.elim
      · exact p.elim
  refine PySem.W.methodCall_KW (pl := pl) (thn (ho.run pins s σ H _ I h2) fun u s1 ⟨x, H1, I1, rx, a, dx, c, vs, m, ex, ea, hm, q⟩ => ?_) ht
  subst ex
  obtain rfl : u = Value.ref a := rx
  have M := hg c m hm
  obtain ⟨f, mt, F⟩ := M.mt
  refine getmeth_ok I1 ea M.cl mt (zip_none M.nf) ?_
  refine PySem.W.callWith_K (first := [.ref a]) (h₀ := X.base) I.ok.mod.kin mt.kp (thn (ha.pa.run pos pins s1 σ H1 _ I1 q) fun us s2 ⟨vs2, H2, I2, r2, hz, q2⟩ => ⟨I2.kIn, ?_⟩) hst hpl
  exact F.calls hr tk pins s2 σ H2 (.ref a :: vs2) (.ref a :: us) Q I2 (.cons rfl r2) (congrArg Nat.succ hz) q2
theorem pm_meth0 {pl : Sem Bool} (hg : ∀ c m, g c = some m → MtC X.prog X.w X.K X.mg X.base k c name 0 m) (hr : Room k X.A) (tk : Takes X Wx) (ho : PM X Wx o mo)
    (ht : eval (.Call (.Attribute o name apos) [] [] pos) X.env = (do
      let ov ← eval o X.env
      standAt apos.atName
      let (f, first) ← holding [ov] (getMethod ov name pl)
      callWith pos f first (backTo pos (starEach [] X.env)) (backToKw pos (keywordEach [] X.env))) := by rfl) :
    PM X Wx (.Call (.Attribute o name apos) [] [] pos) (mMeth g mo aNil) := by
  refine ⟨fun pins s σ H Q I h => ?_⟩
  have h2 : tM X.K (RD X.K) mo Wx σ H fun x H1 => ∃ a dx c vs m, x = .ref a ∧ H1 a = some (.ins (cAd X.K c) dx (c.fl.zip vs)) ∧ g c = some m ∧ spM X.K m [x] H1 Q (fun c d H' => Wx c d σ H') :=
    tM.bind h fun μ δ x H1 μ1 W1 d x1 S1 E1 r1 p => by
      have p : Pst X.K (RD X.K) μ1 H1 Q _ (match insOf W1 d with
        | some (c, _) => match g c with
          | some m => m [d] W1
          | none => .bad
        | none => .bad) := p
      split at p
      · rename_i c fs hi
        split at p
        · rename_i m hm
          obtain ⟨a, dx, vs, rfl, ha', hl, rs⟩ := ins_at S1 r1 hi
          exact ⟨a, dx, c, vs, m, rfl, ha', hm, μ1, W1, [d], S1, ⟨_, [], rfl, r1, rfl⟩, p⟩
        · exact p.elim
      · exact p.elim
  refine PySem.W.methodCall_KW (pl := pl) (thn (ho.run pins s σ H _ I h2) fun u s1 ⟨x, H1, I1, rx, a, dx, c, vs, m, ex, ea, hm, q⟩ => ?_) ht
  subst ex
  obtain rfl : u = Value.ref a := rx
  have M := hg c m hm
  obtain ⟨f, mt, F⟩ := M.mt
  refine getmeth_ok I1 ea M.cl mt (zip_none M.nf) ?_
  exact PySem.W.callWith_K0 (first := [.ref a]) I1.kIn mt.kp (F.calls hr tk pins s1 σ H1 [.ref a] [.ref a] Q I1 (.cons rfl .nil) rfl q)
end
/-- a property of the class -/
structure PrC (P : Program) (w : World) (K : PySem.W.Frag) (mg : Str → Option Value) (base : Heap) (k : Nat) (c : Cl) (name : Str) (m : MF) : Prop where
  cl : Cls K (cAd K c)
  pr : ∃ p g, PropOf K (cAd K c) name p g ∧ FnM P w K mg base k g 1 m
/-- exceptions are not looked at -/
def Res.calmed {α : Type} (r : Res α) : Res α := match r with
  | .ex _ _ _ => .bad
  | r => r
def mProp (g : Cl → Option MF) (mo : ME) : ME := fun δ W => (mo δ W).bind fun o W1 => match insOf W1 o with
  | some (c, _) => match g c with
    | some m => (m [o] W1).calmed
    | none => .bad
  | none => .bad
section
variable {X : Cx} {Wx : WX} {o : Expr} {name : Str} {pos : Pos} {mo : ME} {k : Nat} {g : Cl → Option MF}
theorem Pst.uncalm {K : PySem.W.Frag} {α β : Type} {R : Lo → Hp → β → α → Prop} {μ : Lo} {H : Hp} {Q : β → Hp → Prop} {Wx Wy : XW} {r : Res α} (h : Pst K R μ H Q Wx r.calmed) : Pst K R μ H Q Wy r := by
  cases r with
  | ok a W => exact h
  | ex c fs W => exact h.elim
  | bad => exact h
theorem getpropM {pins : List (Addr × Obj)} {σ : L2.St} {H : Hp} {s : Shared} {Q : VK} {b : Bool} {E' : Value → Shared → Prop} {C p gg a dx : Addr} {fs : List (Str × V)} {m : MF} (I : Inv X pins σ H s) (ea : H a = some (.ins C dx fs)) (c : Cls X.K C) (hp : PropOf X.K C name p gg)
    (F : FnM X.prog X.w X.K X.mg X.base k gg 1 m) (hr : Room (k + 1) X.A) (q : spM X.K m [.ref a] H Q fun _ _ _ => False) : wpAny (model X.prog X.w) X.A (getAttr (.ref a) name b) (EP X pins σ Q) E' s := by
  obtain ⟨fd, ps, ds, dvs, sp, G, hb, hd, imp⟩ := F.ex
  have hs := imp [.ref a] H Q (fun _ _ _ => False) ⟨rfl, q⟩
  obtain ⟨mA, Oa, _⟩ := ins_get I.hok ea
  obtain ⟨od, Ia, _⟩ := Oa.look
  obtain ⟨rest, er⟩ := hp.rec_
  have It := I.tok (s.toks + 1)
  have ln : (Value.ref a :: ds).length = ps.length := by
    have e1 := G.len _ _ _ _ hs
    have e2 := hd.length
    rw [← e1]
    show ds.length + 1 = dvs.length + 1
    omega
  have isC : (PySem.W.clsIn X.K C).isSome = true := by
    obtain ⟨cd, e, _⟩ := PySem.W.any_some c.hd
    simp [e]
  have pl := PySem.W.plainGet_of (c.get name)
  have go := G.run X.A.in1 X.stack { s with toks := s.toks + 1 } H ⟨[.ref a], []⟩ (.ref a :: ds) (.ref a :: dvs) Q (fun _ _ _ => False) hr.in1 It.env0.in1 (hb _ [.ref a] It.kIn ln) (.cons rfl hd) hs
  refine PySem.W.get_bind I.kIn Ia pl.1 (PySem.W.findObj_data isC hp.at_ hp.get hp.tak) pl.2 (wpAny_call (PySem.W.prop_get (s := { s with toks := s.toks + 1 }) I.kIn er (codeAny_mono go fun z s' hz => ?_)))
  match z, hz with
  | .error er, ⟨_, _, _, _, _, _, _, _, _, _, _, _, no⟩ => exact no.elim
  | .ok (.ret u), hz =>
    obtain ⟨v, H', I3, rv, q3⟩ := It.after hz
    show wpAny _ _ (handedOut u) _ _ _
    rw [PySem.W.handedOut_of (handed_of rv)]
    exact wpAny_pure ⟨v, H', I3, rv, q3⟩
  | .ok .next, hz => exact False.elim hz
  | .ok .brk, hz => exact False.elim hz
  | .ok .cont, hz => exact False.elim hz
theorem pm_prop (hg : ∀ c m, g c = some m → PrC X.prog X.w X.K X.mg X.base k c name m) (hr : Room (k + 1) X.A) (ho : PM X Wx o mo) (hab : attributeBase o name X.env (eval o X.env) = eval o X.env := by rfl) : PM X Wx (.Attribute o name pos) (mProp g mo) := by
  refine ⟨fun pins s σ H Q I h => ?_⟩
  have h2 : tM X.K (RD X.K) mo Wx σ H fun x H1 => ∃ a dx c vs m, x = .ref a ∧ H1 a = some (.ins (cAd X.K c) dx (c.fl.zip vs)) ∧ g c = some m ∧ spM X.K m [x] H1 Q (fun _ _ _ => False) :=
    tM.bind h fun μ δ x H1 μ1 W1 d x1 S1 E1 r1 p => by
      have p : Pst X.K (RD X.K) μ1 H1 Q _ (match insOf W1 d with
        | some (c, _) => match g c with
          | some m => (m [d] W1).calmed
          | none => .bad
        | none => .bad) := p
      split at p
      · rename_i c fs hi
        split at p
        · rename_i m hm
          obtain ⟨a, dx, vs, rfl, ha', hl, rs⟩ := ins_at S1 r1 hi
          exact ⟨a, dx, c, vs, m, rfl, ha', hm, μ1, W1, [d], S1, ⟨_, [], rfl, r1, rfl⟩, p.uncalm⟩
        · exact p.elim
      · exact p.elim
  refine attr_of hab (thn (ho.run pins s σ H _ I h2) fun u s1 ⟨x, H1, I1, rx, a, dx, c, vs, m, ex, ea, hm, q⟩ => ?_)
  subst ex
  obtain rfl : u = Value.ref a := rx
  have M := hg c m hm
  obtain ⟨p, gg, pr, F⟩ := M.pr
  exact getpropM I1 ea M.cl pr F hr q
end
end ML
set_option Elab.async false
set_option linter.all false
set_option maxRecDepth 100000
set_option maxHeartbeats 2000000
namespace ML
open PySem PySem.Spec PyProof.Rows L2
/-! ### several except clauses, some with a name -/
abbrev ClT := Value × Option Nat × (Addr → Value → Option Addr → TS)
def endsU (D : Ends) (i : Nat) : Ends := { nx := fun σ' H' => D.nx (σ'.set i none) H', rt := D.rt, bk := fun σ' H' => D.bk (σ'.set i none) H', ct := fun σ' H' => D.ct (σ'.set i none) H' }
def wishM (K : PySem.W.Frag) (Wout : WX) (D : Ends) : List ClT → WX
  | [] => Wout
  | (c, none, ts) :: r => fun cls d σ H => ∃ b, PySem.W.exmOne K cls c = some b ∧ (b = true → ∀ a, H a = none → ts a cls d D σ H) ∧ (b = false → wishM K Wout D r cls d σ H)
  | (c, some i, ts) :: r => fun cls d σ H => ∃ b, PySem.W.exmOne K cls c = some b ∧ (b = true → ∀ a, H a = none → ts a cls d (endsU D i) (σ.set i (some (.ref a))) H) ∧ (b = false → wishM K Wout D r cls d σ H)
inductive HdsM (X : Cx) : List ExceptHandler → List ClT → Prop
  | nil : HdsM X [] []
  | plain {x : Str} {c : Value} {ts : Addr → Value → Option Addr → TS} {b₀ : Stmt} {suite : List Stmt} {np pos' : Pos} {hds : List ExceptHandler} {l : List ClT} (hc : Names X x c)
      (hsu : ∀ (a : Addr) (oe : Obj) (cls : Value) (d : Option Addr) (pn : List (Addr × Obj)), Zc cls d oe → (∃ vs, oe.data = .fields vs) → PSs (X.suite a ((a, oe) :: pn)) (b₀ :: suite) (ts a cls d)) (r : HdsM X hds l) :
      HdsM X (.ExceptHandler (some (.Name x np)) none (b₀ :: suite) pos' :: hds) ((c, none, ts) :: l)
  | named {x n : Str} {c : Value} {i : Nat} {ts : Addr → Value → Option Addr → TS} {b₀ : Stmt} {suite : List Stmt} {np pos' : Pos} {hds : List ExceptHandler} {l : List ClT} (hc : Names X x c) (hi : X.N[i]? = some n) (hln : X.env.kindOf n = some .local)
      (hsu : ∀ (a : Addr) (oe : Obj) (cls : Value) (d : Option Addr) (pn : List (Addr × Obj)), Zc cls d oe → (∃ vs, oe.data = .fields vs) → PSs (X.suite a ((a, oe) :: pn)) (b₀ :: suite) (ts a cls d)) (r : HdsM X hds l) :
      HdsM X (.ExceptHandler (some (.Name x np)) (some n) (b₀ :: suite) pos' :: hds) ((c, some i, ts) :: l)
section
variable {X : Cx} {body : List Stmt} {h₀ : ExceptHandler} {hds : List ExceptHandler} {l : List ClT} {pos : Pos} {tb : WX → TS} {Wout : WX}
theorem ps_tryM (hs : X.stack = X.env :: X.outer) (hf : X.env.frame = some X.env.locals) (hN : X.N.Nodup) (tk : Takes X Wout)
    (hb : ∀ (W : WX) (pn : List (Addr × Obj)) (xe : Value → Shared → Prop), Takes (X.tr pn xe) W → PassesOwn (model X.prog X.w) X.A X.env xe → PSs (X.tr pn xe) body (tb W))
    (hh : HdsM X (h₀ :: hds) l) : PS X (.Try body (h₀ :: hds) [] [] pos) (fun D σ H => tb (wishM X.K Wout D l) D σ H) := by
  refine ⟨fun pins s σ H D I h => ?_⟩
  have ok := I.ok
  have hfr : X.A.frames = some (X.env :: X.outer) := by rw [ok.frames, hs]
  refine wpAny_Try_except ?_
  refine wpAny_mono ((hb (wishM X.K Wout D l) (X.pn ++ pins) (fun e s₁ => wpAny (model X.prog X.w) X.A (noteFrame e X.env) (fun _ s₂ => wpAny (model X.prog X.w) X.A (setFlight e none) (fun _ s₃ =>
    wpAny (model X.prog X.w) X.A (handleBy e X.env (h₀ :: hds)) (SP X pins D) X.xe s₃) X.xe s₂) X.xe s₁) (fun u s' xx => ?_) PassesOwn.looking).run [] s σ H D (I.toTry _) h) (fun f s1 hsp => ?_) (fun e s1 he => he)
  · obtain ⟨a, B, sI, pins', σ', H', cls, d, rfl, J', nb, up, sky, na, os, ag, w⟩ := xx
    have J : Inv X pins σ' H' sI := J'.ofTry ok
    have sky' : Sky B (X.env :: X.outer) a (Zc cls d) X.env.locals s'.heap := by rw [← hs]; exact sky
    show wpAny (model X.prog X.w) X.A (noteFrame (.ref a) X.env) _ _ _
    refine Sky.land Zc.steady hfr hf sky' fun h3 fl3 up3 => ?_
    have J3 : Inv X pins σ' H' { s' with heap := h3 } := J.landed nb fl3.1 (up.trans up3) os ag
    obtain ⟨oe3, vs3, he3, hz3, hd3⟩ := fl3.there
    have nfr : a ∉ frs (X.env :: X.outer) := fun hm => by
      obtain ⟨_, o', e', hnf⟩ := fl3.2.2.1.mem hm
      rw [he3] at e'
      cases e'
      exact hnf _ hd3
    have nL : a ≠ X.env.locals := fun z => nfr (List.mem_filterMap.mpr ⟨X.env, List.mem_cons_self, by rw [hf, z]⟩)
    have nF : a ∉ X.fs := fun hm => by
      obtain ⟨e, he, q⟩ := List.mem_filterMap.mp hm
      exact nfr (List.mem_filterMap.mpr ⟨e, List.mem_cons_of_mem _ he, q⟩)
    have S3 := J3.suite he3 hd3 na nL nF
    have LT : PySem.W.Looks (model X.prog X.w) h3 (typeOf (.ref a)) cls := fun A Q E s k q => wpAny_typeOf_ref (k _ _ he3) (by rw [hz3.1]; exact q)
    have test : ∀ {x : Str} {c : Value} {np : Pos} {Q : Value → Shared → Prop} {E : Value → Shared → Prop}, Names X x c → Q c { s' with heap := h3 } → wpAny (model X.prog X.w) (X.A.mark (some (.ref a))) (eval (.Name x np) X.env) Q E { s' with heap := h3 } := fun {x c np Q E} hc q => by
      obtain ⟨hg, hdbg, hm | ⟨hm, hv, hnn⟩⟩ := hc
      · exact ld_glob (X := X.suite a ((a, oe3) :: (X.pn ++ pins))) S3 hg hm q hdbg
      · exact ld_blt (X := X.suite a ((a, oe3) :: (X.pn ++ pins))) S3 hg hm hv q hnn hdbg
    have go : ∀ {hds' : List ExceptHandler} {l' : List ClT}, HdsM X hds' l' → wishM X.K Wout D l' cls d σ' H' →
        wpAny (model X.prog X.w) X.A (handleBy (.ref a) X.env hds') (SP X pins D) X.xe { s' with heap := h3 } := by
      intro hds' l' hk
      induction hk with
      | nil =>
        intro w
        refine wpAny_handleBy_nil ?_
        obtain ⟨k1, k2, k3, oe, vs, T, oT, ts', he, hz, hd, h1, hr⟩ := id fl3
        unfold PySem.passOn
        refine wpAny_bind (wpAny_field he hd h1 ?_)
        rw [if_neg (show ¬ ((Value.ref T == Value.none) = true) from by simp)]
        have fin : wpAny (model X.prog X.w) X.A (setFlight (.ref a) X.env.frame) (fun _ s4 => wpAny (model X.prog X.w) X.A (throw (.ref a) : Sem Flow) (SP X pins D) X.xe s4) X.xe { s' with heap := h3 } := by
          rw [hf]
          refine HandSPX.setFlight_upZ fl3 fun h4 hh4 up4 => wpAny_throw (tk _ _ ?_)
          exact ⟨a, B, sI, pins, σ', H', cls, d, rfl, J, nb, (up.trans up3).trans up4, .inr (.inr (by rw [hs]; exact hh4)), na, os, ag, w⟩
        first
          | exact wpAny_bind (wpAny_pure (wpAny_bind fin))
          | exact wpAny_bind fin
      | @plain x c ts b₀ suite np pos' hds2 l2 hc hsu r ih =>
        intro w
        obtain ⟨b, hb1, hyes, hno⟩ := w
        refine wpAny_handleBy_cons (codeAny_handlers_test ?_) (by intro q; cases q)
        have LM := PySem.W.exm_one (M := model X.prog X.w) (J3.kIn) LT hb1
        refine test hc (LM.here ?_)
        cases b with
        | true =>
          refine codeAny_handlers_suite ?_
          refine HandSPX.lands_againZ fl3 fun h4 fl4 up4 => ?_
          have J4 : Inv X pins σ' H' { s' with heap := h4 } := J.landed nb fl4.1 ((up.trans up3).trans up4) os ag
          obtain ⟨oe4, vs4, he4, hz4, hd4⟩ := fl4.there
          have S4 := J4.suite he4 hd4 na nL nF
          refine wpAny_mono ((hsu a oe4 cls d (X.pn ++ pins) hz4 ⟨_, hd4⟩).run [] _ _ H' _ S4 (hyes rfl a na)) (fun f s6 hsp => ?_) (fun _ _ z => False.elim z)
          cases f with
          | next => obtain ⟨σ6, H6, S6, q6⟩ := hsp; exact ⟨_, _, S6.unsuite ok, q6⟩
          | brk => obtain ⟨σ6, H6, S6, q6⟩ := hsp; exact ⟨_, _, S6.unsuite ok, q6⟩
          | cont => obtain ⟨σ6, H6, S6, q6⟩ := hsp; exact ⟨_, _, S6.unsuite ok, q6⟩
          | ret u => obtain ⟨v6, σ6, H6, S6, r6, q6⟩ := hsp; exact ⟨_, _, _, S6.unsuite ok, r6, q6⟩
        | false =>
          show wpAny _ X.A (handleBy (.ref a) X.env hds2) _ _ _
          exact ih (hno rfl)
      | @named x n c i ts b₀ suite np pos' hds2 l2 hc hi hln hsu r ih =>
        intro w
        obtain ⟨b, hb1, hyes, hno⟩ := w
        refine wpAny_handleBy_cons (codeAny_handlers_test ?_) (by intro q; cases q)
        have LM := PySem.W.exm_one (M := model X.prog X.w) (J3.kIn) LT hb1
        refine test hc (LM.here ?_)
        cases b with
        | true =>
          refine codeAny_handlers_suite_as ?_
          refine HandSPX.lands_againZ fl3 fun h4 fl4 up4 => ?_
          have J4 : Inv X pins σ' H' { s' with heap := h4 } := J.landed nb fl4.1 ((up.trans up3).trans up4) os ag
          obtain ⟨oe4, vs4, he4, hz4, hd4⟩ := fl4.there
          have S4 := J4.suite he4 hd4 na nL nF
          refine store_ok (X := X.suite a ((a, oe4) :: (X.pn ++ pins))) (v := .ref a) S4 hN hi (.inl hln) rfl (fun s5 S5 => ?_) (.inr hln)
          refine wpAny_mono ((hsu a oe4 cls d (X.pn ++ pins) hz4 ⟨_, hd4⟩).run [] s5 _ H' _ S5 (hyes rfl a na)) (fun f s6 hsp => ?_) (fun _ _ z => False.elim z)
          have end_ : ∀ {σ6 : L2.St} {H6 : Hp} {Q : Shared → Prop}, Inv (X.suite a ((a, oe4) :: (X.pn ++ pins))) [] σ6 H6 s6 → (∀ s7, Inv X pins (σ6.set i none) H6 s7 → Q s7) →
              wpAny (model X.prog X.w) X.A (do bindName X.env n .none; unbindBehindTheSuite X.env n pos') (fun _ s7 => Q s7) X.xe s6 := fun {σ6 H6 Q} S6 hq => gone_ok (S6.unsuite ok) hN hi hln hq
          cases f with
          | next => obtain ⟨σ6, H6, S6, q6⟩ := hsp; exact end_ S6 fun s7 J7 => ⟨_, _, J7, q6⟩
          | brk => obtain ⟨σ6, H6, S6, q6⟩ := hsp; exact end_ S6 fun s7 J7 => ⟨_, _, J7, q6⟩
          | cont => obtain ⟨σ6, H6, S6, q6⟩ := hsp; exact end_ S6 fun s7 J7 => ⟨_, _, J7, q6⟩
          | ret u => obtain ⟨v6, σ6, H6, S6, r6, q6⟩ := hsp; exact end_ S6 fun s7 J7 => ⟨_, _, _, J7, r6, q6⟩
        | false =>
          show wpAny _ X.A (handleBy (.ref a) X.env hds2) _ _ _
          exact ih (hno rfl)
    exact go hh w
  · cases f with
    | next => obtain ⟨σ', H', J', q⟩ := hsp; exact wpAny_execs_nil ⟨σ', H', J'.ofTry ok, q⟩
    | brk => obtain ⟨σ', H', J', q⟩ := hsp; exact ⟨σ', H', J'.ofTry ok, q⟩
    | cont => obtain ⟨σ', H', J', q⟩ := hsp; exact ⟨σ', H', J'.ofTry ok, q⟩
    | ret u => obtain ⟨v, σ', H', J', r, q⟩ := hsp; exact ⟨v, σ', H', J'.ofTry ok, r, q⟩
end
end ML
set_option Elab.async false
set_option linter.all false
set_option maxRecDepth 100000
set_option maxHeartbeats 2000000
namespace ML
open PySem PySem.Spec PyProof.Rows L2
/-! ### try, by mirrors -/
structure CM where
  cv : Value
  i : Option Nat
  mt : Cl → Option Bool
  sm : Addr → Option Addr → Cl → MS
def SR.unset (i : Nat) : SR → SR
  | .nx δ W => .nx (δ.set i none) W
  | .bk δ W => .bk (δ.set i none) W
  | .ct δ W => .ct (δ.set i none) W
  | .rt d W => .rt d W
  | .ex _ _ _ _ => .bad
  | .bad => .bad
def SR.noex : SR → SR
  | .ex _ _ _ _ => .bad
  | r => r
def pick : List CM → Cl → List D → MS
  | [], c, fs, δ, W => .ex c fs δ W
  | k :: r, c, fs, δ, W => match k.mt c with
    | some true => match k.i with
      | some i => (k.sm 0 none c (δ.set i (some (.exo 0 none c fs))) W).unset i
      | none => (k.sm 0 none c δ W).noex
    | some false => pick r c fs δ W
    | none => .bad
def sTry (sb : MS) (ks : List CM) : MS := fun δ W => match sb δ W with
  | .ex c fs δ1 W1 => pick ks c fs δ1 W1
  | r => r
def CM.t (K : PySem.W.Frag) (k : CM) : ClT := (k.cv, k.i, fun a cls d D σ H => ∃ c0, cls = .ref (cAd K c0) ∧ tS K (k.sm a d c0) W0 D σ H)
/-- the clauses' texts -/
inductive CMok (X : Cx) : List ExceptHandler → List CM → Prop
  | nil : CMok X [] []
  | plain {x : Str} {k : CM} {b₀ : Stmt} {suite : List Stmt} {np pos' : Pos} {hds : List ExceptHandler} {l : List CM} (hi : k.i = none) (hc : Names X x k.cv) (mt : ∀ c b, k.mt c = some b → PySem.W.exmOne X.K (.ref (cAd X.K c)) k.cv = some b)
      (hsu : ∀ (a : Addr) (oe : Obj) (c : Cl) (d : Option Addr) (pn : List (Addr × Obj)), Zc (.ref (cAd X.K c)) d oe → (∃ vs, oe.data = .fields vs) → PMSs (X.suite a ((a, oe) :: pn)) W0 (b₀ :: suite) (k.sm a d c))
      (ind : ∀ (a : Addr) (d : Option Addr) (c : Cl), k.sm a d c = k.sm 0 none c) (r : CMok X hds l) : CMok X (.ExceptHandler (some (.Name x np)) none (b₀ :: suite) pos' :: hds) (k :: l)
  | named {x n : Str} {k : CM} {i : Nat} {b₀ : Stmt} {suite : List Stmt} {np pos' : Pos} {hds : List ExceptHandler} {l : List CM} (hk : k.i = some i) (hc : Names X x k.cv) (hi : X.N[i]? = some n) (hln : X.env.kindOf n = some .local) (mt : ∀ c b, k.mt c = some b → PySem.W.exmOne X.K (.ref (cAd X.K c)) k.cv = some b)
      (hsu : ∀ (a : Addr) (oe : Obj) (c : Cl) (d : Option Addr) (pn : List (Addr × Obj)), Zc (.ref (cAd X.K c)) d oe → (∃ vs, oe.data = .fields vs) → PMSs (X.suite a ((a, oe) :: pn)) W0 (b₀ :: suite) (k.sm a d c))
      (ind : ∀ (a : Addr) (d : Option Addr) (c : Cl) (fs : List D) (δ : Env) (W : Wo), k.mt c = some true → (c.fl = [] → d = none) → (k.sm a d c (δ.set i (some (.exo a d c fs))) W).unset i = (k.sm 0 none c (δ.set i (some (.exo 0 none c fs))) W).unset i) (r : CMok X hds l) : CMok X (.ExceptHandler (some (.Name x np)) (some n) (b₀ :: suite) pos' :: hds) (k :: l)
section
variable {X : Cx} {Wx : WX} {body : List Stmt} {h₀ : ExceptHandler} {hds : List ExceptHandler} {ks : List CM} {pos : Pos} {sb : MS}
theorem CMok.t (h : CMok X hds ks) : HdsM X hds (ks.map (CM.t X.K)) := by
  have su : ∀ {k : CM} {sts : List Stmt}, (∀ (a : Addr) (oe : Obj) (c : Cl) (d : Option Addr) (pn : List (Addr × Obj)), Zc (.ref (cAd X.K c)) d oe → (∃ vs, oe.data = .fields vs) → PMSs (X.suite a ((a, oe) :: pn)) W0 sts (k.sm a d c)) →
      ∀ (a : Addr) (oe : Obj) (cls : Value) (d : Option Addr) (pn : List (Addr × Obj)), Zc cls d oe → (∃ vs, oe.data = .fields vs) → PSs (X.suite a ((a, oe) :: pn)) sts (fun D σ H => ∃ c0, cls = .ref (cAd X.K c0) ∧ tS X.K (k.sm a d c0) W0 D σ H) := fun {k sts} hsu a oe cls d pn hz hv =>
    ⟨fun pins s σ H D I ⟨c0, e, h⟩ => (hsu a oe c0 d pn (e ▸ hz) hv).run pins s σ H D I h⟩
  induction h with
  | nil => exact .nil
  | @plain x k b₀ suite np pos' hds l hi hc mt hsu ind r ih =>
    show HdsM X _ ((k.cv, k.i, _) :: _)
    rw [hi]
    exact .plain hc (su hsu) ih
  | @named x n k i b₀ suite np pos' hds l hk hc hi hln mt hsu ind r ih =>
    show HdsM X _ ((k.cv, k.i, _) :: _)
    rw [hk]
    exact .named hc hi hln (su hsu) ih
theorem PstS.noex {K : PySem.W.Frag} {μ : Lo} {H : Hp} {Dn : Ends} {r : SR} (h : PstS K μ H Dn Wx r.noex) : PstS K μ H Dn W0 r := by
  cases r with
  | nx δ W => exact h
  | bk δ W => exact h
  | ct δ W => exact h
  | rt d W => exact h
  | ex c fs δ W => exact h.elim
  | bad => exact h
theorem PstS.unset {K : PySem.W.Frag} {μ : Lo} {H : Hp} {Dn : Ends} {r : SR} {i : Nat} (h : PstS K μ H Dn Wx (r.unset i)) : PstS K μ H (endsU Dn i) W0 r := by
  cases r with
  | nx δ W => exact fun σ' μ' H' x S E => h _ μ' H' x S (E.unset i)
  | bk δ W => exact fun σ' μ' H' x S E => h _ μ' H' x S (E.unset i)
  | ct δ W => exact fun σ' μ' H' x S E => h _ μ' H' x S (E.unset i)
  | rt d W => exact h
  | ex c fs δ W => exact h.elim
  | bad => exact h
theorem pick_ok (h : CMok X hds ks) {c : Cl} {fs : List D} {δ : Env} {W : Wo} {σ : L2.St} {H : Hp} {μ : Lo} {Dn : Ends} {cls : Value} {d : Option Addr} (S : RepS X.K μ H W) (E : RepE X.K μ H σ δ) (rx : RepX X.K μ H cls d c fs)
    (p : PstS X.K μ H Dn Wx (pick ks c fs δ W)) : wishM X.K Wx Dn (ks.map (CM.t X.K)) cls d σ H := by
  induction h with
  | nil => exact p cls d σ μ H (Ext.refl _ _) S E rx
  | @plain x k b₀ suite np pos' hds l hi hc mt hsu ind r ih =>
    show wishM X.K Wx Dn ((k.cv, k.i, _) :: _) cls d σ H
    unfold pick at p
    cases hm : k.mt c with
    | none => rw [hm] at p; exact p.elim
    | some b =>
      rw [hm] at p
      rw [hi] at p ⊢
      refine ⟨b, by rw [rx.1]; exact mt c b hm, fun hb a ha => ⟨c, rx.1, μ, W, δ, S, E, ?_⟩, fun hb => ?_⟩
      · subst hb
        rw [ind]
        exact PstS.noex p
      · subst hb
        exact ih p
  | @named x n k i b₀ suite np pos' hds l hk hc hi hln mt hsu ind r ih =>
    show wishM X.K Wx Dn ((k.cv, k.i, _) :: _) cls d σ H
    unfold pick at p
    cases hm : k.mt c with
    | none => rw [hm] at p; exact p.elim
    | some b =>
      rw [hm] at p
      rw [hk] at p ⊢
      refine ⟨b, by rw [rx.1]; exact mt c b hm, fun hb a ha => ⟨c, rx.1, μ, W, δ.set i (some (.exo a d c fs)), S, E.set (rx.2 a) i, ?_⟩, fun hb => ?_⟩
      · subst hb
        have p : PstS X.K μ H Dn Wx ((k.sm 0 none c (δ.set i (some (.exo 0 none c fs))) W).unset i) := p
        have hd : c.fl = [] → d = none := fun z => by
          obtain ⟨_, ⟨_, _, h⟩ | ⟨h, _⟩⟩ := rx.2 0
          · exact h
          · exact absurd z h
        rw [← ind a d c fs δ W hm hd] at p
        exact PstS.unset p
      · subst hb
        exact ih p
theorem pms_try (hs : X.stack = X.env :: X.outer) (hf : X.env.frame = some X.env.locals) (hN : X.N.Nodup) (tk : Takes X Wx)
    (hb : ∀ (W : WX) (pn : List (Addr × Obj)) (xe : Value → Shared → Prop), Takes (X.tr pn xe) W → PassesOwn (model X.prog X.w) X.A X.env xe → PMSs (X.tr pn xe) W body sb)
    (hh : CMok X (h₀ :: hds) ks) : PMS X Wx (.Try body (h₀ :: hds) [] [] pos) (sTry sb ks) :=
  PS.imp (ps_tryM hs hf hN tk (tb := fun W => tS X.K sb W) hb hh.t) fun Dn σ H ⟨μ, W, δ, S, E, p⟩ => by
    refine ⟨μ, W, δ, S, E, ?_⟩
    unfold sTry at p
    cases q : sb δ W with
    | nx δ1 W1 => rw [q] at p; exact p
    | rt d W1 => rw [q] at p; exact p
    | bk δ1 W1 => rw [q] at p; exact p
    | ct δ1 W1 => rw [q] at p; exact p
    | bad => rw [q] at p; exact p.elim
    | ex c fs δ1 W1 =>
      rw [q] at p
      exact fun cls dd σ' μ' H' x S' E' rx => pick_ok hh S' E' rx (PstS.shift x p)
end
/-! ### e.f, isinstance(e, C) in a suite -/
def mXf (a : Addr) (d : Option Addr) (c : Cl) (i : Nat) (m : ME) : ME := fun δ W => (m δ W).bind fun v W1 => match v with
  | .exo a' d' c' fs => if a' = a ∧ d' = d ∧ c' = c then (match fs[i]? with
      | some x => .ok x W1
      | none => .bad) else .bad
  | _ => .bad
theorem pm_xf {X : Cx} {a : Addr} {oe : Obj} {c : Cl} {d : Option Addr} {pn : List (Addr × Obj)} {e : Expr} {m : ME} {pos : Pos} {n : Str} {i : Nat} (T : XfC X.K (cAd X.K c)) (hno : PySem.W.findIn X.K (.ref (cAd X.K c)) n = some none) (hi : c.fl[i]? = some n)
    (hz : Zc (.ref (cAd X.K c)) d oe) (hf : ∃ vs, oe.data = .fields vs) (he : PM (X.suite a ((a, oe) :: pn)) W0 e m) (hb : attributeBase e n X.env (eval e X.env) = eval e X.env := by rfl) : PM (X.suite a ((a, oe) :: pn)) W0 (.Attribute e n pos) (mXf a d c i m) :=
  PE.imp (pe_xf T hno hz hf he hb) fun σ H Q h => tM.bind h fun μ δ x H1 μ1 W1 v x1 S1 E1 r1 p => by
    cases v with
    | exo a' d' c' fs =>
      have p2 : Pst X.K (RD X.K) μ1 H1 Q _ (if a' = a ∧ d' = d ∧ c' = c then (match fs[i]? with
        | some x => .ok x W1
        | none => .bad) else .bad) := p
      obtain ⟨⟨e1, e2, e3⟩, p3⟩ := Pst.ite p2
      subst e1 e2 e3
      cases hy : fs[i]? with
      | some y =>
        rw [hy] at p3
        obtain ⟨e1, ⟨h1, h2, _⟩ | ⟨h1, h2, dd, fv, vs, h3, h4, h5, h6, h7⟩⟩ := r1
        · rw [h2] at hy; cases hy
        · obtain ⟨u, eu, ru⟩ := h7.get hy
          exact ⟨e1, rfl, dd, fv, u, h3, h4, (h6 i n hi).trans eu, Pst.val S1 p3 ru⟩
      | none => rw [hy] at p3; exact p3.elim
    | _ => exact p.elim
/-- isinstance(e, S): e the exception of a class without fields -/
def mIsE (a : Addr) (d : Option Addr) (c : Cl) (b : Bool) (m : ME) : ME := match d with
  | some _ => mBad
  | none => fun δ W => (m δ W).bind fun v W1 => match v with
    | .exo a' d' c' _ => if a' = a ∧ c' = c then .ok (.bl b) W1 else .bad
    | _ => .bad
theorem pm_isE {X : Cx} {a : Addr} {oe : Obj} {c : Cl} {d : Option Addr} {pn : List (Addr × Obj)} {e : Expr} {m : ME} {p p2 pos : Pos} {x : Str} {b : Bool} {S : Addr} (T : ExcC X.K (cAd X.K c)) (hm : X.mg "isinstance" = none) (gS : X.mg x = some (.ref S)) (hk : PySem.W.kitOne X.K (.ref (cAd X.K c)) (.ref S) = some b)
    (hz : Zc (.ref (cAd X.K c)) d oe) (hf : ∃ vs, oe.data = .fields vs) (he : PM (X.suite a ((a, oe) :: pn)) W0 e m) (hg : Gl X "isinstance" := by rfl) (hg2 : Gl X x := by rfl) (hdb : (x == ("__debug__" : Str)) = false := by decide)
    (h1 : starEach (e :: [.Name x p2]) X.env = (false, eval e X.env) :: starEach [.Name x p2] X.env := by rfl) (h2 : (backTo pos (starEach [.Name x p2] X.env)).any (·.1) = false := by rfl) (h3 : starEach [.Name x p2] X.env = (false, eval (.Name x p2) X.env) :: starEach [] X.env := by rfl)
    (hv : bootBuiltins "isinstance" = some (.builtin "isinstance") := by decide +kernel) :
    PM (X.suite a ((a, oe) :: pn)) W0 (.Call (.Name "isinstance" p) [e, .Name x p2] [] pos) (mIsE a d c b m) := by
  cases d with
  | none =>
    refine PE.imp (pe_callB (call_isE T hz hf) hg hm hv (pa_cons he (pa_cons (pe_glob (X := X.suite a ((a, oe) :: pn)) (v := .ref S) hg2 gS rfl hdb) pa_nil h3) h1) (by decide) (by decide) h1 h2) fun σ H Q h => tM.bind h fun μ δ v H1 μ1 W1 d x1 S1 E1 r1 q => ?_
    cases d with
    | exo a' d' c' fs =>
      have q2 : Pst X.K (RD X.K) μ1 H1 Q _ (if a' = a ∧ c' = c then .ok (.bl b) W1 else .bad) := q
      obtain ⟨⟨e1, e3⟩, q3⟩ := Pst.ite q2
      subst e1 e3
      obtain ⟨ev, _⟩ := r1
      subst ev
      exact ⟨.ref S, .ref S, b, rfl, fun u ru => ru, hk, Pst.val S1 q3 rfl⟩
    | _ => exact q.elim
  | some _ => exact pm_bad
end ML
set_option Elab.async false
set_option linter.all false
set_option maxRecDepth 100000
set_option maxHeartbeats 2000000
namespace ML
open PySem PySem.Spec PyProof.Rows L2
/-! ### xs[::-1] -/
def revD : D → Wo → Res D := fun d W => match sqlOf W d with
  | some xs => .ok (.lst xs.reverse) W
  | none => .bad
theorem Reps.reverse {K : PySem.W.Frag} {μ : Lo} {H : Hp} : ∀ {vs : List V} {ds : List D}, Reps K μ H vs ds → Reps K μ H vs.reverse ds.reverse
  | _, [], h => by
    have e : _ = ([] : List V) := h
    subst e
    exact rfl
  | _, _ :: _, h => by
    obtain ⟨v, r, rfl, h1, h2⟩ := h
    rw [List.reverse_cons, List.reverse_cons]
    exact Reps.append (Reps.reverse h2) ⟨v, [], rfl, h1, rfl⟩
section
variable {X : Cx} {Wx : WX} {e a b : Expr} {m ma mb : ME} {r : MA}
theorem pm_revL {k : Nat} {p1 p2 p3 pos : Pos} (he : PM X Wx e m) : PM X Wx (.Subscript e (.Slice none none (some (.UnaryOp .USub (.Constant (.int 1) k p1) p2)) p3) pos) (mUn revD m) :=
  PE.imp (pe_revL he) fun σ H Q h => tM.bind h fun μ δ x H1 μ1 W1 d x1 S1 E1 r1 p => by
    have p : Pst X.K (RD X.K) μ1 H1 Q _ (revD d W1) := p
    unfold revD at p
    split at p
    · rename_i xs hx
      obtain ⟨q, vs, rfl, hq, rs⟩ := sql_at S1 r1 hx
      exact ⟨q, vs, rfl, hq, Pst.newL S1 rs.reverse p⟩
    · exact p.elim
/-! ### xs[lo:hi] -/
abbrev MO1 := Env → Wo → Res (Option Int)
def PMO (X : Cx) (Wx : WX) (e : Option Expr) (m : MO1) : Prop := PO X e (tM X.K (fun _ _ (o o' : Option Int) => o = o') m Wx)
theorem PO.imp {X : Cx} {e : Option Expr} {t t' : TO} (h : PO X e t) (i : ∀ σ H Q, t' σ H Q → t σ H Q) : PO X e t' := ⟨fun pins s σ H Q I q => h.run pins s σ H Q I (i σ H Q q)⟩
def oNone : MO1 := fun _ W => .ok none W
def oSome (m : ME) : MO1 := fun δ W => (m δ W).bind fun d W1 => match d with
  | .int i => .ok (some i) W1
  | _ => .bad
theorem pmo_none : PMO X Wx none oNone := PO.imp po_none fun σ H Q h => tM.pure (d := (none : Option Int)) h fun _ => rfl
theorem pmo_some (h : PM X Wx e m) : PMO X Wx (some e) (oSome m) := PO.imp (po_some h) fun σ H Q h => tM.bind h fun μ δ x H1 μ1 W1 d x1 S1 E1 r1 p => by
  cases d with
  | int i => exact ⟨i, r1, p (some i) μ1 H1 (Ext.refl _ _) S1 rfl⟩
  | _ => exact p.elim
def cutD (xs : List D) (lo hi : Option Int) : List D := (xs.drop (HT.sIx xs.length 0 lo)).take (HT.sIx xs.length xs.length hi - HT.sIx xs.length 0 lo)
def slD (d : D) (lo hi : Option Int) (W : Wo) : Res D := match sqlOf W d with
  | some xs => .ok (.lst (cutD xs lo hi)) W
  | none => .bad
def mSl (m : ME) (ml mh : MO1) : ME := fun δ W => (m δ W).bind fun d W1 => (ml δ W1).bind fun lo W2 => (mh δ W2).bind fun hi W3 => slD d lo hi W3
theorem pm_sl {lo hi : Option Expr} {ml mh : MO1} {p2 pos : Pos} (he : PM X Wx e m) (hl : PMO X Wx lo ml) (hh : PMO X Wx hi mh) : PM X Wx (.Subscript e (.Slice lo hi none p2) pos) (mSl m ml mh) :=
  PE.imp (pe_slice sl_list he hl hh) fun σ H Q h => tM.bind h fun μ δ x H1 μ1 W1 d x1 S1 E1 r1 p =>
    ⟨μ1, W1, δ, S1, E1, (Pst.bind (R := fun _ _ (o o' : Option Int) => o = o') p).imp (fun l μ' H2 _ ⟨μ2, W2, lo', x2, S2, el, q⟩ =>
      ⟨μ2, W2, δ, S2, E1.ext x2, (Pst.bind (R := fun _ _ (o o' : Option Int) => o = o') q).imp (fun u μ'' H3 _ ⟨μ3, W3, hi', x3, S3, eh, q3⟩ => by
        have el : l = lo' := el
        have eh : u = hi' := eh
        subst el eh
        have q3 : Pst X.K (RD X.K) μ3 H3 Q _ (slD d l u W3) := q3
        unfold slD at q3
        split at q3
        · rename_i xs hx
          obtain ⟨q, vs, rfl, hq, rs⟩ := sql_at S3 (Rep.ext (x2.trans x3) r1) hx
          refine ⟨q, vs, rfl, hq, ?_⟩
          have e1 := rs.length
          unfold cutV
          rw [e1]
          exact Pst.newL S3 ((rs.drop _).take _) q3
        · exact q3.elim) fun _ _ _ z => z⟩) fun _ _ _ z => z⟩
/-! ### min of tuples of ints -/
def tupsOf : List D → Option (List (List Int))
  | [] => some []
  | .tup xs :: r => match intsOf xs with
    | some n => match tupsOf r with
      | some l => some (n :: l)
      | none => none
    | none => none
  | _ :: _ => none
def minTD : MF := fun ds W => match ds with
  | [.lst xs] => match tupsOf xs with
    | some ns => match xs[argBest (fun i j => HT.lexLt (ns.getD i []) (ns.getD j [])) (xs.length - 1)]? with
      | some x => .ok x W
      | none => .bad
    | none => .bad
  | _ => .bad
theorem calm_minT : CalmF minTD := fun ds W => by
  unfold minTD
  split
  · split
    · split <;> trivial
    · trivial
  · trivial
theorem argBest_le (bt : Nat → Nat → Bool) : ∀ k, argBest bt k ≤ k
  | 0 => Nat.le_refl _
  | k + 1 => by
    unfold argBest
    split
    · exact Nat.le_refl _
    · exact Nat.le_succ_of_le (argBest_le bt k)
theorem tups_at : ∀ {xs : List D} {ns : List (List Int)} {i : Nat} {x : D}, tupsOf xs = some ns → xs[i]? = some x → ∃ ys, x = .tup ys ∧ intsOf ys = some (ns.getD i [])
  | [], _, _, _, _, h => by simp at h
  | .tup ys :: r, ns, i, x, h, hx => by
    unfold tupsOf at h
    split at h
    · rename_i n hn
      cases hl : tupsOf r with
      | none => rw [hl] at h; cases h
      | some l =>
        rw [hl] at h
        cases h
        cases i with
        | zero =>
          have hx : some (D.tup ys) = some x := hx
          cases hx
          exact ⟨ys, rfl, hn⟩
        | succ i => exact tups_at (xs := r) (ns := l) (i := i) hl hx
    · cases h
  | .non :: _, _, _, _, h, _ => by cases h
  | .bl _ :: _, _, _, _, h, _ => by cases h
  | .int _ :: _, _, _, _, h, _ => by cases h
  | .str _ :: _, _, _, _, h, _ => by cases h
  | .lst _ :: _, _, _, _, h, _ => by cases h
  | .obj _ _ :: _, _, _, _, h, _ => by cases h
  | .cell _ :: _, _, _, _, h, _ => by cases h
  | .raw _ :: _, _, _, _, h, _ => by cases h
  | .scr _ :: _, _, _, _, h, _ => by cases h
  | .exo _ _ _ _ :: _, _, _, _, h, _ => by cases h
theorem bi_minT (hc : X.calm = true) (hu : X.A.units + 1 < cLine) : BI X (.builtin "min") minTD := fun pins s σ H vs us Q I r h => by
  obtain ⟨μ, W, ds, S, rs, p⟩ := h
  unfold minTD at p
  split at p
  · rename_i xs
    split at p
    · rename_i ns hns
      split at p
      · rename_i x hx
        obtain ⟨v, rfl, rv⟩ := reps1 rs
        obtain ⟨a, ws, rfl, ha, na, rs⟩ := rv
        rw [Vals.ref1 r]
        obtain ⟨its, rits, pl, hz⟩ := I.list (SqL.of ha)
        have hl1 := rs.length
        have hl2 := rits.length
        have hpos : 0 < xs.length := Nat.lt_of_le_of_lt (Nat.zero_le _) (List.getElem?_eq_some_iff.mp hx).1
        have item : ∀ (i : Nat) (u : Value), its.toArray[i]? = some u → ∃ y w, xs[i]? = some y ∧ ws[i]? = some w ∧ L2.RelV w u ∧ Rep X.K μ H w y := fun i u hu => by
          have hi : i < xs.length := by
            have := (Array.getElem?_eq_some_iff.mp hu).1
            rw [List.size_toArray] at this
            omega
          obtain ⟨w, ew, rw'⟩ := rs.get (List.getElem?_eq_getElem hi)
          obtain ⟨u', eu', ru'⟩ := rits.get ew
          have : its.toArray[i]? = some u' := by simpa using eu'
          rw [hu] at this
          cases this
          exact ⟨_, w, List.getElem?_eq_getElem hi, ew, ru', rw'⟩
        have tupAt : ∀ (i : Nat) (u : Value), its.toArray[i]? = some u → ∃ (q : Addr) (ks : List Value), u = .ref q ∧ IsTup s.heap q ks.toArray ∧ IntsAre ks.toArray.toList (ns.getD i []) := fun i u hu => by
          obtain ⟨y, w, hy, hw, ru, ry⟩ := item i u hu
          obtain ⟨ys, rfl, hi⟩ := tups_at hns hy
          obtain ⟨q, zs, rfl, hq, rz⟩ := ry
          have e := ints_rep rz hi
          subst e
          obtain ⟨ks, rk, pk, _⟩ := I.tuple hq
          have ru : u = .ref q := ru
          exact ⟨q, ks, ru, pk, intsAre_of rk⟩
        have hh := I.ok.hd hc
        refine call_min_walkH (PySem.W.iter_listW (A := X.A.in1) hh pl.isList fun s₂ e Wk st hfp hw hk => ?_)
        refine ⟨_, _, _, _, _, _, _, s.heap, (fun i j => HT.lexLt (ns.getD i []) (ns.getD j [])), rfl, Wk, st, hfp, by rw [List.size_toArray]; omega, hw, hk, fun i j vi vj s' Q' E' hk' hi hj hq => ?_, fun v s' hP m => ?_⟩
        · obtain ⟨q1, k1, e1, t1, n1⟩ := tupAt i vi hi
          obtain ⟨q2, k2, e2, t2, n2⟩ := tupAt j vj hj
          subst e1 e2
          obtain ⟨o1, h1, r1⟩ := t1
          obtain ⟨o2, h2, r2⟩ := t2
          exact HT.lt_tupInts ⟨o1, hk' _ _ h1, r1⟩ ⟨o2, hk' _ _ h2, r2⟩ n1 n2 hu hq
        · obtain ⟨h', tk, rfl, hk'⟩ := PySem.W.moved_old e rfl m
          obtain ⟨y, w, hy, hw', ru, ry⟩ := item _ v hP
          have e1 : its.toArray.size - 1 = xs.length - 1 := by rw [List.size_toArray]; omega
          rw [e1, hx] at hy
          cases hy
          exact ⟨w, H, I.kept hk', ru, Pst.val S p ry⟩
      · exact p.elim
    · exact p.elim
  · exact p.elim
end
/-! ### xs.index(y) -/
def idxOf (xs : List D) (y : D) (W : Wo) : Res D := match pdsOf xs with
  | some ds => match pdOf y with
    | some d => if SeqAt.shaped (.list ds) = true ∧ SeqAt.shaped d = true then (match ds.findIdx? (fun z => PyData.eqv z d) with
        | some j => .ok (.int (j : Nat)) W
        | none => .bad) else .bad
    | none => .bad
  | none => .bad
def mIndex (mo me : ME) : ME := fun δ W => (mo δ W).bind fun o W1 => match o with
  | .lst xs => (me δ W1).bind fun y W2 => idxOf xs y W2
  | _ => .bad
theorem pd_lst {xs : List D} {ds : List PyData} (h : pdsOf xs = some ds) : pdOf (.lst xs) = some (.list ds) := by
  show (match pdsOf xs with
    | some l => some (PyData.list l)
    | none => none) = _
  rw [h]
section
variable {X : Cx} {Wx : WX} {o e : Expr} {mo me : ME} {apos cpos : Pos}
theorem pm_index (hu : X.A.units + 65 < cLine) (ho : PM X Wx o mo) (he : PM X Wx e me)
    (hbase : attributeBase o "index" X.env (eval o X.env) = eval o X.env := by rfl)
    (hfew : ((backTo cpos (starEach [e] X.env)).all (fun x => !x.1) && (backToKw cpos (keywordEach [] X.env)).all (fun x => x.1.isSome)
      && decide ([e].length + ([] : List Keyword).length + (if ([] : List Keyword).isEmpty then 0 else 1) < 30)) = true := by rfl)
    (hline : (apos.endLine == cpos.line) = true := by rfl) (hs : starEach [e] X.env = (false, eval e X.env) :: starEach [] X.env := by rfl) (hplain : (backTo cpos (starEach [] X.env)).any (·.1) = false := by rfl) :
    PM X Wx (.Call (.Attribute o "index" apos) [e] [] cpos) (mIndex mo me) :=
  PE.imp (pe_bm PySem.F.plainAttrs_list PySem.F.slot_list_index PySem.F.type_list_index (mt_indexD hu) ho (pa_cons he pa_nil hs) hbase hfew hline hs hplain) fun σ H Q h => tM.bind h fun μ δ x H1 μ1 W1 d x1 S1 E1 r1 p => by
    cases d with
    | lst xs =>
      have p : Pst X.K (RD X.K) μ1 H1 Q _ ((me δ W1).bind fun y W2 => idxOf xs y W2) := p
      have r1' := r1
      obtain ⟨a, vs, rfl, ha, na, rs⟩ := r1
      refine ⟨.inl ⟨rfl, vs, SqL.of ha⟩, μ1, W1, δ, S1, E1, (Pst.bind (R := RD X.K) p).imp (fun y μ' H2 _ ⟨μ2, W2, dy, x2, S2, ry, q⟩ => ?_) fun _ _ _ z => z⟩
      have q : Pst X.K (RD X.K) μ2 H2 Q _ (idxOf xs dy W2) := q
      unfold idxOf at q
      cases hds : pdsOf xs with
      | none => rw [hds] at q; exact q.elim
      | some ds =>
        rw [hds] at q
        cases hdd : pdOf dy with
        | none => rw [hdd] at q; exact q.elim
        | some dd =>
          rw [hdd] at q
          have q0 : Pst X.K (RD X.K) μ2 H2 Q _ (if SeqAt.shaped (.list ds) = true ∧ SeqAt.shaped dd = true then (match ds.findIdx? (fun z => PyData.eqv z dd) with
            | some j => .ok (.int (j : Nat)) W2
            | none => .bad) else .bad) := q
          obtain ⟨⟨c1, c2⟩, q1⟩ := Pst.ite q0
          cases hj : ds.findIdx? (fun z => PyData.eqv z dd) with
          | none => rw [hj] at q1; exact q1.elim
          | some j =>
            rw [hj] at q1
            obtain ⟨hlt, h1, h2⟩ := List.findIdx?_eq_some_iff_getElem.mp hj
            refine ⟨a, y, dd, ds, j, ds[j], rfl, rfl, pd_rep (Rep.ext x2 r1') (pd_lst hds), pd_rep ry hdd, c1, c2, List.getElem?_eq_getElem hlt, h1, fun k z hm hz => ?_, Pst.val S2 q1 rfl⟩
            obtain ⟨hml, rfl⟩ := List.getElem?_eq_some_iff.mp hz
            have := h2 k hm
            simpa using this
    | _ => exact p.elim
end
theorem units65 {k : Nat} {A : Around} (r : Room k A) : A.units + 65 < cLine := by have := r.un; omega
theorem units1 {k : Nat} {A : Around} (r : Room k A) : A.units + 1 < cLine := by have := r.un; omega
end ML
set_option Elab.async false
set_option linter.all false
set_option maxRecDepth 100000
set_option maxHeartbeats 2000000
namespace ML
open PySem PySem.Spec PyProof.Rows L2
/-! ### constants of the module, of a class -/
/-- a datum that is no object -/
def atomV : D → Option V
  | .non => some .non
  | .bl b => some (.bl b)
  | .int i => some (.int i)
  | .str x => some (.str x)
  | _ => none
theorem atom_rep {K : PySem.W.Frag} {μ : Lo} {H : Hp} {d : D} {v : V} (h : atomV d = some v) : Rep K μ H v d := by
  cases d with
  | non => cases h; rfl
  | bl b => cases h; rfl
  | int i => cases h; rfl
  | str x => cases h; rfl
  | _ => cases h
def ConAt (mg : Str → Option Value) (x : Str) (d : D) : Prop := ∃ u v, mg x = some u ∧ RelV v u ∧ atomV d = some v
def CConAt (K : PySem.W.Frag) (mg : Str → Option Value) (c : Cl) (f : Str) (d : D) : Prop := mg c.nm = some (.ref (cAd K c)) ∧ ∃ mc v u, ClX.CRead K (cAd K c) mc ∧ ClX.CVal K (cAd K c) mc f v u ∧ atomV d = some v
section
variable {X : Cx} {Wx : WX} {x : Str} {p pos p1 p2 : Pos} {e a b : Expr} {m ma mb : ME} {r : MA}
theorem pm_con {d : D} (h : ConAt X.mg x d) (hg : Gl X x := by rfl) (hd : (x == ("__debug__" : Str)) = false := by decide) : PM X Wx (.Name x pos) (mC d) := by
  obtain ⟨u, v, hm, rv, ha⟩ := h
  exact PE.imp (pe_glob hg hm rv hd) fun σ H Q h => tM.pure (d := d) h fun μ => atom_rep ha
theorem pm_ccon {c : Cl} {f : Str} {d : D} (h : CConAt X.K X.mg c f d) (hx : x = c.nm := by rfl) (hg : Gl X x := by rfl) (hd : (x == ("__debug__" : Str)) = false := by decide) (hb : attributeBase (.Name x p) f X.env (eval (.Name x p) X.env) = eval (.Name x p) X.env := by rfl) : PM X Wx (.Attribute (.Name x p) f pos) (mC d) := by
  obtain ⟨hm, mc, v, u, h1, h2, h3⟩ := h
  subst hx
  exact PE.imp (ClX.pe_cval (pe_glob (v := .ref (cAd X.K c)) hg hm rfl hd) hb) fun σ H Q h => ⟨_, mc, v, u, rfl, h1, h2, tM.pure (d := d) h fun μ => atom_rep h3⟩
/-! ### target = e -/
def sAsg (m : ME) (g : GM) : MS := fun δ W => (m δ W).toS δ fun d W1 => match g d δ with
  | some δ1 => .nx δ1 W1
  | none => .bad
theorem pms_asg {tg : Expr} {sl : List Nat} {g : GM} (he : PM X Wx e m) (hg : PMG X tg sl g) (hs : swapsWithSole [tg] e pos.line X.env = pure false := by rfl) (hw : swappedStores [tg] e X.env = pure none := by rfl)
    (h1 : (assignEach [tg] X.env).map (·.2) = [assign tg X.env] := by rfl) : PMS X Wx (.Assign [tg] e pos) (sAsg m g) :=
  PS.imp (ps_asg he hg hs hw h1) fun Dn σ H h => tS.bind h fun μ δ v H1 μ1 W1 d x1 S1 E1 r1 p => by
    have p : PstS X.K μ1 H1 Dn Wx (match g d δ with
      | some δ1 => .nx δ1 W1
      | none => .bad) := p
    cases eg : g d δ with
    | none => rw [eg] at p; exact p.elim
    | some δ1 =>
      rw [eg] at p
      exact ⟨μ1, W1, δ, d, δ1, S1, E1, r1, eg, fun σ' E' _ _ => PstS.goes S1 E' p⟩
/-- a, b = x, y -/
def sPar (i j : Nat) (r : MA) : MS := fun δ W => (r δ W).toS δ fun ds W1 => match ds with
  | [d, d'] => .nx ((δ.set i (some d)).set j (some d')) W1
  | _ => .bad
theorem pms_par {i j : Nat} {y : Str} {px py pt pt2 : Pos} {kt k2 : Nat} (hc : X.calm = true) (hN : X.N.Nodup) (hij : i ≠ j) (ha : PMA X Wx [a, b] r) (hi : X.N[i]? = some x := by rfl) (hj : X.N[j]? = some y := by rfl)
    (hx : X.env.scope.names.lookup x = some .local := by rfl) (hy : X.env.scope.names.lookup y = some .local := by rfl) (hw : swappedStores [.Tuple [.Name x px, .Name y py] kt pt] (.Tuple [a, b] k2 pt2) X.env = pure (some [x, y]) := by rfl)
    (hs : swapsWithSole [.Tuple [.Name x px, .Name y py] kt pt] (.Tuple [a, b] k2 pt2) pos.line X.env = pure false := by rfl) :
    PMS X Wx (.Assign [.Tuple [.Name x px, .Name y py] kt pt] (.Tuple [a, b] k2 pt2) pos) (sPar i j r) :=
  PS.imp (ps_par hc hN hi hj hij hx hy ha.pa hw hs) fun Dn σ H h => tS.bind h fun μ δ vs H1 μ1 W1 ds x1 S1 E1 r1 p => by
    exact match ds, r1, p with
      | [d, d'], r1, p => by
        obtain ⟨v, u, e2, rv, ru⟩ := reps2 (show Reps X.K μ1 H1 vs [d, d'] from r1)
        exact ⟨v, u, e2, PstS.goes S1 ((E1.set rv i).set ru j) p⟩
      | [], _, p => p.elim
      | [_], _, p => p.elim
      | _ :: _ :: _ :: _, _, p => p.elim
/-! ### isinstance(e, (C, ..)) -/
/-- the answers for any of them -/
def gAny : List (TyK → Option Bool) → TyK → Option Bool
  | [], _ => some false
  | g :: r, t => match g t, gAny r t with
    | some a, some b => some (a || b)
    | _, _ => none
end
/-! ### defs of a class -/
structure MtAt (K : PySem.W.Frag) (c : Cl) (name : Str) (st : Stmt) (dvs : List V) (kws : List (Str × V)) (f : Addr) (fd : FuncData) : Prop where
  mt : Meth K (cAd K c) name f
  F : FunD K name (c.nm ++ "." ++ name) (defArgs st) (defBody st) (defScope st) dvs kws f fd
section
variable {P : Program} {w : World} {K : PySem.W.Frag} {mg : Str → Option Value} {base : Heap}
/-- a method's def without defaults -/
theorem fn_meth {x qual : Str} {st : Stmt} {kws : List (Str × V)} {N ps : List Str} {k : Nat} {m : MS} {f : Addr} {fd : FuncData} (F : FunD K x qual (defArgs st) (defBody st) (defScope st) [] kws f fd) (S : FnScope N ps (defScope st))
    (hb : ∀ (kV doc pm : Value) (an : Option Addr) (cdv ct : Value) (us : List Value), us.length = ps.length → bindArgs (PySem.W.fnOf x qual (defArgs st) (defBody st) (defScope st) .none kV doc pm an cdv ct) ⟨us, []⟩ = pure (ps.zip us))
    (hbody : ∀ (cdv : Value) (A : Around) (outer : List PySem.Env) (s : Shared) (H : Hp) (E : XK), Room k (A.deeper (envOfC qual (defScope st) s.heap.objs.size f cdv)) → Takes (defX P w K mg base N qual (defScope st) f cdv A outer s H E) (fun c d _ H' => E c d H') →
      PMSs (defX P w K mg base N qual (defScope st) f cdv A outer s H E) (fun c d _ H' => E c d H') (defBody st) m) : FnM P w K mg base (k + 1) f ps.length (mRun N.length ps.length m) :=
  ⟨F.kp, fd, ps, [], [], _, fn_M F S hbody, F.bindsN hb, .nil, fun vs H Q E h => by rw [List.append_nil]; exact h⟩
theorem FnM.up {j k n : Nat} {f : Addr} {m : MF} (G : FnM P w K mg base j f n m) (h : j ≤ k) : FnM P w K mg base k f n m := by
  obtain ⟨kp, fd, ps, ds, dvs, sp, G, hb, hd, imp⟩ := G
  exact ⟨kp, fd, ps, ds, dvs, sp, G.mono h, hb, hd, imp⟩
end
end ML
namespace ML
open PySem PySem.Spec PyProof.Rows L2
section
variable {X : Cx} {Wx : WX} {y z : Str} {p p2 p3 pt pos : Pos} {kt : Nat} {e : Expr} {m : ME} {u1 u2 : Value} {c1 c2 : V} {g1 g2 : TyK → Option Bool}
theorem pm_isi2 (hc1 : PE X (.Name y p2) (tC c1)) (k1 : ClsV c1 u1) (G1 : IsiOk X.K u1 g1) (hc2 : PE X (.Name z p3) (tC c2)) (k2 : ClsV c2 u2) (G2 : IsiOk X.K u2 g2) (hm : X.mg "isinstance" = none) (ha : PM X Wx e m) (hg : Gl X "isinstance" := by rfl)
    (he : starEach [e, .Tuple [.Name y p2, .Name z p3] kt pt] X.env = (false, eval e X.env) :: starEach [.Tuple [.Name y p2, .Name z p3] kt pt] X.env := by rfl)
    (he2 : starEach [.Tuple [.Name y p2, .Name z p3] kt pt] X.env = (false, eval (.Tuple [.Name y p2, .Name z p3] kt pt) X.env) :: starEach [] X.env := by rfl)
    (he3 : starEach [.Name y p2, .Name z p3] X.env = (false, eval (.Name y p2) X.env) :: starEach [.Name z p3] X.env := by rfl) (he4 : starEach [.Name z p3] X.env = (false, eval (.Name z p3) X.env) :: starEach [] X.env := by rfl)
    (hpl : (backTo pos (starEach [.Tuple [.Name y p2, .Name z p3] kt pt] X.env)).any (·.1) = false := by rfl) :
    PM X Wx (.Call (.Name "isinstance" p) [e, .Tuple [.Name y p2, .Name z p3] kt pt] [] pos) (mUn (isiD (gAny [g1, g2])) m) :=
  PE.imp (pe_callB call_isiT hg hm (by decide +kernel) (pa_cons ha (pa_cons (pe_tup (pa_cons hc1 (pa_cons hc2 pa_nil he4) he3)) pa_nil he2) he) (by decide) (by decide) he hpl) fun σ H Q h => tM.bind h fun μ δ v H1 μ1 W1 d x1 S1 E1 r1 q => by
    have q : Pst X.K (RD X.K) μ1 H1 Q _ (isiD (gAny [g1, g2]) d W1) := q
    unfold isiD at q
    cases ht : tyOf W1 d with
    | none => rw [ht] at q; exact q.elim
    | some t =>
      rw [ht] at q
      have q : Pst X.K (RD X.K) μ1 H1 Q _ (match gAny [g1, g2] t with
        | some b => .ok (.bl b) W1
        | none => .bad) := q
      cases hb : gAny [g1, g2] t with
      | none => rw [hb] at q; exact q.elim
      | some b =>
        rw [hb] at q
        have hb' : (match g1 t, gAny [g2] t with
          | some a, some b => some (a || b)
          | _, _ => none) = some b := hb
        have hb2 : gAny [g2] t = (match g2 t, some false with
          | some a, some b => some (a || b)
          | _, _ => none) := rfl
        cases e1 : g1 t with
        | none => rw [e1] at hb'; cases hb'
        | some b1 =>
          cases e2 : g2 t with
          | none => rw [e1, hb2, e2] at hb'; cases hb'
          | some b2 =>
            rw [e1, hb2, e2] at hb'
            have e3 : (b1 || (b2 || false)) = b := Option.some.inj hb'
            refine ⟨by show 2 ≤ sizeLine; decide, fun T hT => ?_⟩
            have x2 : Ext μ1 H1 μ1 (upd H1 T (.tup [c1, c2])) := Ext.new hT
            refine ⟨v, T, [c1, c2], valT X.K t, [u1, u2], b, rfl, upd_same, .cons k1 (.cons k2 .nil), tyX_of (S1.new hT) (Rep.ext x2 r1) ht fun c hc => ?_, ?_, Pst.val (S1.new hT) (Pst.shift x2 q) rfl⟩
            · subst hc; exact G1.cl c b1 e1
            · have h1 := G1.one t b1 e1
              have h2 := G2.one t b2 e2
              show (match PySem.W.kitOne X.K (valT X.K t) u1 with
                | some true => some true
                | some false => (match PySem.W.kitOne X.K (valT X.K t) u2 with
                  | some true => some true
                  | some false => some false
                  | none => none)
                | none => none) = some b
              rw [h1, h2, ← e3]
              cases b1 <;> cases b2 <;> rfl
end
end ML
set_option Elab.async false
set_option linter.all false
set_option maxRecDepth 100000
set_option maxHeartbeats 2000000
namespace ML
open PySem PySem.Spec PyProof.Rows L2
/-! ### xs[i] = e, xs.append(e): xs a cell -/
def putIx (o i v : D) (W : Wo) : Option Wo := match o, i with
  | .cell j, .int k => match W[j]? with
    | some (.lst xs) => match ixN xs.length k with
      | some n => some (W.set j (.lst (xs.set n v)))
      | none => none
    | _ => none
  | _, _ => none
def sPut (mo mi me : ME) : MS := fun δ W => (me δ W).toS δ fun v W1 => (mo δ W1).toS δ fun o W2 => (mi δ W2).toS δ fun i W3 => match putIx o i v W3 with
  | some W4 => .nx δ W4
  | none => .bad
theorem lst_cell {K : PySem.W.Frag} {μ : Lo} {H : Hp} {W : Wo} {j : Nat} {xs : List D} {v : V} (S : RepS K μ H W) (r : Rep K μ H v (.cell j)) (e : W[j]? = some (.lst xs)) : ∃ a vs, v = .ref a ∧ μ.cells[j]? = some a ∧ H a = some (.lst vs) ∧ Reps K μ H vs xs := by
  obtain ⟨a, rfl, hj⟩ := r
  obtain ⟨vs, h1, h2⟩ := S.at_ j a _ hj e
  exact ⟨a, vs, rfl, hj, h1, h2⟩
section
variable {X : Cx} {Wx : WX} {o i e : Expr} {mo mi me : ME} {pos pos' : Pos}
theorem pms_put (ho : PM X Wx o mo) (hi : PM X Wx i mi) (he : PM X Wx e me) (hs : swapsWithSole [.Subscript o i pos'] e pos.line X.env = pure false := by rfl) (hw : swappedStores [.Subscript o i pos'] e X.env = pure none := by rfl)
    (h1 : (assignEach [.Subscript o i pos'] X.env).map (·.2) = [assign (.Subscript o i pos') X.env] := by rfl)
    (ha : ∀ v, assign (.Subscript o i pos') X.env v = (do
      let ov ← holding [v] (eval o X.env)
      let iv ← holding [v, ov] (eval i X.env)
      standAt pos'
      holding [v, ov, iv] (setItem ov iv v)
      release [v, ov, iv] []) := by intro _; rfl) : PMS X Wx (.Assign [.Subscript o i pos'] e pos) (sPut mo mi me) :=
  PS.imp (ps_asg he (pg_sub ho hi set_list ha) hs hw h1) fun Dn σ H h => tS.bind h fun μ δ v H1 μ1 W1 dv x1 S1 E1 rv p => by
    refine ⟨μ1, W1, δ, S1, E1, Pst.imp (PstS.toM (R := RD X.K) E1 p) (fun ov μ' H' _ ⟨μ2, W2, do_, x2, S2, E2, ro, q⟩ => ?_) fun _ _ _ z => z⟩
    refine ⟨μ2, W2, δ, S2, E2, Pst.imp (PstS.toM (R := RD X.K) E2 q) (fun iv μ'' H'' _ ⟨μ3, W3, di, x3, S3, E3, ri, q3⟩ => ?_) fun _ _ _ z => z⟩
    have q3 : PstS X.K μ3 H'' Dn Wx (match putIx do_ di dv W3 with
      | some W4 => .nx δ W4
      | none => .bad) := q3
    cases hp : putIx do_ di dv W3 with
    | none => rw [hp] at q3; exact q3.elim
    | some W4 =>
      rw [hp] at q3
      cases do_ with
      | cell j =>
        cases di with
        | int k =>
          have hp : (match W3[j]? with
            | some (.lst xs) => match ixN xs.length k with
              | some n => some (W3.set j (.lst (xs.set n dv)))
              | none => none
            | _ => none) = some W4 := hp
          split at hp
          · rename_i xs hW
            cases hn : ixN xs.length k with
            | none => rw [hn] at hp; cases hp
            | some n =>
              rw [hn] at hp
              cases hp
              obtain ⟨a, vs, e1, hj, ha', rs⟩ := lst_cell S3 (Rep.ext x3 ro) hW
              subst e1
              have ri : iv = .int k := ri
              subst ri
              have xp := Ext.put (o' := .lst (vs.set n v)) S3 hj (fun ps z => by rw [ha'] at z; cases z)
              exact ⟨a, vs, k, n, rfl, rfl, ha', by rw [rs.length]; exact hn, q3 σ μ3 _ xp (S3.put hj (fun ps z => by rw [ha'] at z; cases z) ⟨_, upd_same, Reps.set (Rep.ext ((x2.trans x3).trans xp) rv) n (Reps.ext xp rs)⟩) (E3.ext xp)⟩
          · cases hp
        | _ => cases hp
      | _ => cases di <;> cases hp
def appD (o v : D) (W : Wo) : Res D := match o with
  | .cell j => match W[j]? with
    | some (.lst xs) => if xs.length < sizeLine then .ok .non (W.set j (.lst (xs ++ [v]))) else .bad
    | _ => .bad
  | _ => .bad
/-- the object first, then the item -/
def mApp (mo me : ME) : ME := fun δ W => (mo δ W).bind fun o W1 => match o with
  | .cell j => match W1[j]? with
    | some (.lst _) => (me δ W1).bind fun v W2 => appD (.cell j) v W2
    | _ => .bad
  | _ => .bad
theorem pm_app {apos cpos : Pos} (ho : PM X Wx o mo) (he : PM X Wx e me)
    (hbase : attributeBase o "append" X.env (eval o X.env) = eval o X.env := by rfl)
    (hfew : ((backTo cpos (starEach [e] X.env)).all (fun x => !x.1) && (backToKw cpos (keywordEach [] X.env)).all (fun x => x.1.isSome)
      && decide ([e].length + ([] : List Keyword).length + (if ([] : List Keyword).isEmpty then 0 else 1) < 30)) = true := by rfl)
    (hline : (apos.endLine == cpos.line) = true := by rfl) (hs : starEach [e] X.env = (false, eval e X.env) :: starEach [] X.env := by rfl) (hplain : (backTo cpos (starEach [] X.env)).any (·.1) = false := by rfl) :
    PM X Wx (.Call (.Attribute o "append" apos) [e] [] cpos) (mApp mo me) :=
  PE.imp (pe_bm PySem.F.plainAttrs_list PySem.slot_list_append PySem.F.type_list_append mt_append ho (pa_cons he pa_nil hs) hbase hfew hline hs hplain) fun σ H Q h => tM.bind h fun μ δ x H1 μ1 W1 d x1 S1 E1 r1 p => by
    cases d with
    | cell j =>
      have p : Pst X.K (RD X.K) μ1 H1 Q _ (match W1[j]? with
        | some (.lst _) => (me δ W1).bind fun v W2 => appD (.cell j) v W2
        | _ => .bad) := p
      split at p
      · rename_i xs hW
        obtain ⟨a, vs, e1, hj, ha', rs⟩ := lst_cell S1 r1 hW
        subst e1
        refine ⟨.inl ⟨rfl, vs, SqL.of ha'⟩, μ1, W1, δ, S1, E1, (Pst.bind (R := RD X.K) p).imp (fun y μ' H2 _ ⟨μ2, W2, dy, x2, S2, ry, q⟩ => ?_) fun _ _ _ z => z⟩
        have q : Pst X.K (RD X.K) μ2 H2 Q _ (match W2[j]? with
          | some (.lst xs) => if xs.length < sizeLine then .ok .non (W2.set j (.lst (xs ++ [dy]))) else .bad
          | _ => .bad) := q
        split at q
        · rename_i xs2 hW2
          obtain ⟨hc, q1⟩ := Pst.ite q
          obtain ⟨l, e⟩ := x2.pre
          obtain ⟨a2, vs2, e2, hj2, ha2, rs2⟩ := lst_cell S2 (Rep.ext x2 ⟨a, rfl, hj⟩) hW2
          cases e2
          have xp := Ext.put (o' := .lst (vs2 ++ [y])) S2 hj2 (fun ps z => by rw [ha2] at z; cases z)
          exact ⟨a, vs2, y, rfl, rfl, ha2, by rw [rs2.length]; exact hc, q1 .non μ2 _ xp (S2.put hj2 (fun ps z => by rw [ha2] at z; cases z) ⟨_, upd_same, Reps.append (Reps.ext xp rs2) ⟨y, [], rfl, Rep.ext xp ry, rfl⟩⟩) rfl⟩
        · exact q.elim
      · exact p.elim
    | _ => exact p.elim
/-! ### texts -/
def strsOf : List D → Option (List Str)
  | [] => some []
  | .str x :: r => match strsOf r with
    | some l => some (x :: l)
    | none => none
  | _ :: _ => none
theorem strs_rep {K : PySem.W.Frag} {μ : Lo} {H : Hp} : ∀ {xs : List D} {vs : List V} {ns : List Str}, Reps K μ H vs xs → strsOf xs = some ns → vs = ns.map V.str
  | [], _, _, r, h => by
    have e : _ = ([] : List V) := r
    subst e
    cases h
    rfl
  | .str x :: r, _, _, ⟨v, rr, ev, h1, h2⟩, h => by
    unfold strsOf at h
    cases hl : strsOf r with
    | none => rw [hl] at h; cases h
    | some l =>
      rw [hl] at h
      cases h
      have h1 : v = .str x := h1
      rw [ev, h1, strs_rep h2 hl]
      rfl
  | .non :: _, _, _, _, h => by cases h
  | .bl _ :: _, _, _, _, h => by cases h
  | .int _ :: _, _, _, _, h => by cases h
  | .tup _ :: _, _, _, _, h => by cases h
  | .lst _ :: _, _, _, _, h => by cases h
  | .obj _ _ :: _, _, _, _, h => by cases h
  | .cell _ :: _, _, _, _, h => by cases h
  | .raw _ :: _, _, _, _, h => by cases h
  | .scr _ :: _, _, _, _, h => by cases h
  | .exo _ _ _ _ :: _, _, _, _, h => by cases h
/-- sep.join(xs), sep a written text -/
def mJoin (a : Str) (m : ME) : ME := fun δ W => (m δ W).bind fun d W1 => match d with
  | .lst xs => match strsOf xs with
    | some ys => if (ys.map (·.length)).sum + ys.length * a.length ≤ 16777216 then .ok (.str (Txt.join a ys)) W1 else .bad
    | none => .bad
  | _ => .bad
theorem pm_join {a : Str} {k : Nat} {cp apos : Pos} (he : PM X Wx e me) (hs : starEach [e] X.env = [(false, eval e X.env)] := by rfl) (hbase : attributeBase (.Constant (.str a) k cp) "join" X.env (eval (.Constant (.str a) k cp) X.env) = eval (.Constant (.str a) k cp) X.env := by rfl) (hline : (apos.endLine == pos.line) = true := by rfl) :
    PM X Wx (.Call (.Attribute (.Constant (.str a) k cp) "join" apos) [e] [] pos) (mJoin a me) :=
  PE.imp (pe_join pe_str he hs hbase hline) fun σ H Q h => by
    have h2 : tM X.K (RD X.K) me Wx σ H fun y H1 => ∃ a', ∃ p, ∃ ys : List Str, V.str a = .str a' ∧ [y] = [.ref p] ∧ (SqL X.K H1 p (ys.map V.str) ∨ SqT X.K H1 p (ys.map V.str)) ∧ (ys.map (·.length)).sum + ys.length * a'.length ≤ 16777216 ∧ Q (.str (Txt.join a' ys)) H1 :=
      tM.bind h fun μ δ x H1 μ1 W1 d x1 S1 E1 r1 p => by
        cases d with
        | lst xs =>
          have p : Pst X.K (RD X.K) μ1 H1 Q _ (match strsOf xs with
            | some ys => if (ys.map (·.length)).sum + ys.length * a.length ≤ 16777216 then .ok (.str (Txt.join a ys)) W1 else .bad
            | none => .bad) := p
          cases hx : strsOf xs with
          | none => rw [hx] at p; exact p.elim
          | some ys =>
            rw [hx] at p
            obtain ⟨hc, p1⟩ := Pst.ite p
            obtain ⟨q, vs, rfl, hq, na, rs⟩ := r1
            have ev := strs_rep rs hx
            subst ev
            exact ⟨a, q, ys, rfl, rfl, .inl (SqL.of hq), hc, Pst.val S1 p1 rfl⟩
        | _ => exact p.elim
    exact ⟨⟨a, rfl⟩, h2⟩
/-! ### f-strings -/
/-- {x}: a text or an int -/
def fmtD (d : D) (W : Wo) : Res D := match d with
  | .str y => if y.length ≤ sizeLine then .ok (.str y) W else .bad
  | .int i => if i.natAbs.log2 < 1920 then .ok (.str (toString i)) W else .bad
  | _ => .bad
theorem pm_fmt (he : PM X Wx e me) : PM X Wx (.FormattedValue e (-1) none pos) (mUn fmtD me) := PE.imp (pe_fmt he) fun σ H Q h => tM.bind h fun μ δ x H1 μ1 W1 d x1 S1 E1 r1 p => by
  cases d with
  | str y =>
    have p : Pst X.K (RD X.K) μ1 H1 Q _ (if y.length ≤ sizeLine then .ok (.str y) W1 else .bad) := p
    obtain ⟨hc, p1⟩ := Pst.ite p
    exact .inl ⟨y, r1, hc, Pst.val S1 p1 rfl⟩
  | int i =>
    have p : Pst X.K (RD X.K) μ1 H1 Q _ (if i.natAbs.log2 < 1920 then .ok (.str (toString i)) W1 else .bad) := p
    obtain ⟨hc, p1⟩ := Pst.ite p
    exact .inr ⟨i, r1, hc, Pst.val S1 p1 rfl⟩
  | _ => exact p.elim
/-- the parts behind the text so far -/
def mJs : List ME → Str → ME
  | [], acc => fun _ W => .ok (.str acc) W
  | m :: ms, acc => fun δ W => (m δ W).bind fun d W1 => match d with
    | .str y => if (acc ++ y).length ≤ sizeLine then mJs ms (acc ++ y) δ W1 else .bad
    | _ => .bad
inductive PMJ (X : Cx) (Wx : WX) : List Expr → List ME → Prop where
  | nil : PMJ X Wx [] []
  | cons {e : Expr} {m : ME} {es : List Expr} {ms : List ME} (h : PM X Wx e m) (r : PMJ X Wx es ms) : PMJ X Wx (e :: es) (m :: ms)
theorem pmj_pj {es : List Expr} {ms : List ME} (h : PMJ X Wx es ms) : PJ X es (ms.map fun m => tM X.K (RD X.K) m Wx) := by
  induction h with
  | nil => exact .nil
  | cons h r ih => exact .cons h ih
theorem js_imp {K : PySem.W.Frag} {Wx : WX} {σ : L2.St} {Q : VK} : ∀ (ms : List ME) (acc : Str) {H : Hp}, tM K (RD K) (mJs ms acc) Wx σ H Q → tJs (ms.map fun m => tM K (RD K) m Wx) acc σ H fun out H1 => Q (.str out) H1
  | [], acc, H, h => tM.pure (d := D.str acc) h fun _ => rfl
  | m :: ms, acc, H, h => tM.bind h fun μ δ x H1 μ1 W1 d x1 S1 E1 r1 p => by
    cases d with
    | str y =>
      have p : Pst K (RD K) μ1 H1 Q _ (if (acc ++ y).length ≤ sizeLine then mJs ms (acc ++ y) δ W1 else .bad) := p
      obtain ⟨hc, p1⟩ := Pst.ite p
      exact ⟨y, r1, hc, js_imp ms (acc ++ y) ⟨μ1, W1, δ, S1, E1, p1⟩⟩
    | _ => exact p.elim
theorem pm_js {v1 v2 : Expr} {rest : List Expr} {ms : List ME} (h : PMJ X Wx (v1 :: v2 :: rest) ms) : PM X Wx (.JoinedStr (v1 :: v2 :: rest) pos) (mJs ms Str.empty) := PE.imp (pe_joined (pmj_pj h)) fun σ H Q q => js_imp ms Str.empty q
end
end ML
set_option Elab.async false
set_option linter.all false
set_option maxRecDepth 100000
set_option maxHeartbeats 2000000
namespace ML
open PySem PySem.Spec PyProof.Rows L2
/-! ### defs with defaults, called with n values -/
/-- the defaults as data -/
inductive Atoms : List V → List D → Prop
  | nil : Atoms [] []
  | cons {v : V} {d : D} {vs : List V} {ds : List D} (h : atomV d = some v) (r : Atoms vs ds) : Atoms (v :: vs) (d :: ds)
theorem Atoms.reps {K : PySem.W.Frag} {μ : Lo} {H : Hp} {vs : List V} {ds : List D} (h : Atoms vs ds) : Reps K μ H vs ds := by
  induction h with
  | nil => exact rfl
  | cons h r ih => exact ⟨_, _, rfl, atom_rep h, ih⟩
section
variable {P : Program} {w : World} {K : PySem.W.Frag} {mg : Str → Option Value} {base : Heap}
theorem fn_dflt {x qual : Str} {st : Stmt} {dvs : List V} {kws : List (Str × V)} {N ps : List Str} {k : Nat} {m : MS} {f : Addr} {fd : FuncData} {dd : List D} (n j : Nat) (F : FunD K x qual (defArgs st) (defBody st) (defScope st) dvs kws f fd) (S : FnScope N ps (defScope st)) (hd : dvs ≠ []) (hn : n + (dvs.length - j) = ps.length) (hdd : Atoms (dvs.drop j) dd)
    (hb : ∀ (T : Addr) (kV doc pm : Value) (an : Option Addr) (cdv ct : Value) (us its : List Value), us.length = n → its.length = dvs.length →
      ∃ k, bindArgs (PySem.W.fnOf x qual (defArgs st) (defBody st) (defScope st) (.ref T) kV doc pm an cdv ct) ⟨us, []⟩ = seqItems? (.ref T) >>= k ∧ k (some its.toArray) = pure (ps.zip (us ++ its.drop j)))
    (hbody : ∀ (cdv : Value) (A : Around) (outer : List PySem.Env) (s : Shared) (H : Hp) (E : XK), Room k (A.deeper (envOfC qual (defScope st) s.heap.objs.size f cdv)) → Takes (defX P w K mg base N qual (defScope st) f cdv A outer s H E) (fun c d _ H' => E c d H') →
      PMSs (defX P w K mg base N qual (defScope st) f cdv A outer s H E) (fun c d _ H' => E c d H') (defBody st) m) : FnM P w K mg base (k + 1) f n (fun ds W => mRun N.length ps.length m (ds ++ dd) W) := by
  obtain ⟨ds, rd, bd⟩ := F.binds1 n j hd hn hb
  refine ⟨F.kp, fd, ps, ds, dvs.drop j, _, fn_M F S hbody, bd, rd, fun vs H Q E ⟨hl, μ, W, dl, S1, r, p⟩ => ⟨?_, μ, W, dl ++ dd, S1, Reps.append r hdd.reps, p⟩⟩
  rw [List.length_append, List.length_drop, hl]
  exact hn
theorem gl_dflt {x : Str} {st : Stmt} {dvs : List V} {kws : List (Str × V)} {N ps : List Str} {k : Nat} {m : MS} {dd : List D} (n j : Nat) (A : FnAt K mg x st dvs kws) (S : FnScope N ps (defScope st)) (hd : dvs ≠ []) (hn : n + (dvs.length - j) = ps.length) (hdd : Atoms (dvs.drop j) dd)
    (hb : ∀ (T : Addr) (kV doc pm : Value) (an : Option Addr) (cdv ct : Value) (us its : List Value), us.length = n → its.length = dvs.length →
      ∃ k, bindArgs (PySem.W.fnOf x x (defArgs st) (defBody st) (defScope st) (.ref T) kV doc pm an cdv ct) ⟨us, []⟩ = seqItems? (.ref T) >>= k ∧ k (some its.toArray) = pure (ps.zip (us ++ its.drop j)))
    (hbody : ∀ (f : Addr) (cdv : Value) (A : Around) (outer : List PySem.Env) (s : Shared) (H : Hp) (E : XK), Room k (A.deeper (envOfC x (defScope st) s.heap.objs.size f cdv)) → Takes (defX P w K mg base N x (defScope st) f cdv A outer s H E) (fun c d _ H' => E c d H') →
      PMSs (defX P w K mg base N x (defScope st) f cdv A outer s H E) (fun c d _ H' => E c d H') (defBody st) m) : GlM P w K mg base (k + 1) x n (fun ds W => mRun N.length ps.length m (ds ++ dd) W) := by
  obtain ⟨f, fd, hm, F⟩ := A
  exact ⟨f, hm, fn_dflt n j F S hd hn hdd hb (hbody f)⟩
end
/-! ### name op= e -/
def sAug (op : DOp) (i : Nat) (m : ME) : MS := fun δ W => match δ[i]? with
  | some (some d) => (m δ W).toS δ fun e W1 => (op d e W1).toS δ fun x W2 => .nx (δ.set i (some x)) W2
  | _ => .bad
section
variable {X : Cx} {Wx : WX} {x : Str} {e : Expr} {m : ME} {pos pos' : Pos}
def IopM (X : Cx) (op : Operator) (f : DOp) : Prop := PIp X op (rM X.K f)
theorem pms_aug {op : Operator} {f : DOp} (i : Nat) (ho : IopM X op f) (hc : ∀ d e W, Calm (f d e W)) (hN : X.N.Nodup) (he : PM X Wx e m) (hi : X.N[i]? = some x := by rfl) (hx : Loc X.env.scope x := by first | exact Or.inl rfl | exact Or.inr rfl)
    (hf : X.fn x = true ∨ X.env.scope.names.lookup x = some .local := by first | exact .inl rfl | exact .inr rfl) : PMS X Wx (.AugAssign (.Name x pos') op e pos) (sAug f i m) :=
  PS.imp (ps_aug hN hi hx he ho hf) fun Dn σ H ⟨μ, W, δ, S, E, p⟩ => by
    unfold sAug at p
    cases hd : δ[i]? with
    | none => rw [hd] at p; exact p.elim
    | some od =>
      cases od with
      | none => rw [hd] at p; exact p.elim
      | some d =>
        rw [hd] at p
        obtain ⟨v, ev, rv⟩ := E.at_ i d hd
        refine ⟨v, ev, μ, W, δ, S, E, Pst.imp (PstS.toM (R := RD X.K) E p) (fun y μ' H' _ ⟨μ1, W1, de, x1, S1, E1, re, q⟩ => ?_) fun _ _ _ z => z⟩
        refine ⟨μ1, W1, d, de, S1, Rep.ext x1 rv, re, ?_⟩
        have c := hc d de W1
        cases ho : f d de W1 with
        | ok z W2 =>
          rw [ho] at q
          exact fun b μ2 H2 x2 S2 rz => PstS.goes S2 ((E1.ext x2).set rz i) (PstS.shift x2 q)
        | ex _ _ _ => rw [ho] at c; exact c.elim
        | bad => rw [ho] at q; exact q.elim
end
/-- a mirror expression over its parameters, as a mirror function -/
def gmf (m : ME) : MF := fun ds W => m (ds.map some) W
end ML
set_option Elab.async false
set_option linter.all false
set_option maxRecDepth 100000
set_option maxHeartbeats 2000000
namespace ML
open PySem PySem.Spec PyProof.Rows L2
/-! ### a suite's e.f and isinstance(e, C), by tables -/
def mXfG (fx : Cl → Option Nat) (a : Addr) (d : Option Addr) (c : Cl) (m : ME) : ME := match fx c with
  | some i => mXf a d c i m
  | none => mBad
def mIsG (g : Cl → Option Bool) (a : Addr) (d : Option Addr) (c : Cl) (m : ME) : ME := match g c with
  | some b => mIsE a d c b m
  | none => mBad
/-- the classes' field n -/
def FxOk (K : PySem.W.Frag) (n : Str) (fx : Cl → Option Nat) : Prop := ∀ c i, fx c = some i → XfC K (cAd K c) ∧ PySem.W.findIn K (.ref (cAd K c)) n = some none ∧ c.fl[i]? = some n
/-- which classes the clause takes -/
def EmOk (K : PySem.W.Frag) (x : Cl) (g : Cl → Option Bool) : Prop := ∀ c b, g c = some b → PySem.W.exmOne K (.ref (cAd K c)) (.ref (cAd K x)) = some b
def IsOk (K : PySem.W.Frag) (x : Cl) (g : Cl → Option Bool) : Prop := ∀ c b, g c = some b → ExcC K (cAd K c) ∧ PySem.W.kitOne K (.ref (cAd K c)) (.ref (cAd K x)) = some b
section
variable {X : Cx} {a : Addr} {oe : Obj} {c : Cl} {d : Option Addr} {pn : List (Addr × Obj)} {e : Expr} {m : ME} {pos : Pos}
theorem pm_xfG {n : Str} {fx : Cl → Option Nat} (T : FxOk X.K n fx) (hz : Zc (.ref (cAd X.K c)) d oe) (hf : ∃ vs, oe.data = .fields vs) (he : PM (X.suite a ((a, oe) :: pn)) W0 e m) (hb : attributeBase e n X.env (eval e X.env) = eval e X.env := by rfl) :
    PM (X.suite a ((a, oe) :: pn)) W0 (.Attribute e n pos) (mXfG fx a d c m) := by
  unfold mXfG
  cases h : fx c with
  | none => exact pm_bad
  | some i =>
    obtain ⟨t1, t2, t3⟩ := T c i h
    exact pm_xf t1 t2 t3 hz hf he hb
theorem pm_isG {p p2 : Pos} {x : Str} {k : Cl} {g : Cl → Option Bool} (T : IsOk X.K k g) (hm : X.mg "isinstance" = none) (gS : X.mg x = some (.ref (cAd X.K k)))
    (hz : Zc (.ref (cAd X.K c)) d oe) (hf : ∃ vs, oe.data = .fields vs) (he : PM (X.suite a ((a, oe) :: pn)) W0 e m) (hg : Gl X "isinstance" := by rfl) (hg2 : Gl X x := by rfl) (hdb : (x == ("__debug__" : Str)) = false := by decide)
    (h1 : starEach (e :: [.Name x p2]) X.env = (false, eval e X.env) :: starEach [.Name x p2] X.env := by rfl) (h2 : (backTo pos (starEach [.Name x p2] X.env)).any (·.1) = false := by rfl) (h3 : starEach [.Name x p2] X.env = (false, eval (.Name x p2) X.env) :: starEach [] X.env := by rfl) :
    PM (X.suite a ((a, oe) :: pn)) W0 (.Call (.Name "isinstance" p) [e, .Name x p2] [] pos) (mIsG g a d c m) := by
  unfold mIsG
  cases h : g c with
  | none => exact pm_bad
  | some b =>
    obtain ⟨t1, t2⟩ := T c b h
    exact pm_isE t1 hm gS t2 hz hf he hg hg2 hdb h1 h2 h3
end
theorem setAt_get (δ : Env) (i : Nat) (x : D) : (δ.set i (some x))[i]? = if i < δ.length then some (some x) else none := by
  by_cases h : i < δ.length
  · rw [if_pos h, List.getElem?_set_self h]
  · rw [if_neg h, List.getElem?_eq_none (by rw [List.length_set]; omega)]
/-- the suite's answer tells nothing of the exception's address -/
theorem mXfG_ind {fx : Cl → Option Nat} {a : Addr} {d : Option Addr} {c : Cl} {fs : List D} {δ : Env} {W : Wo} {i : Nat} :
    mXfG fx a d c (mVar i) (δ.set i (some (.exo a d c fs))) W = mXfG fx 0 none c (mVar i) (δ.set i (some (.exo 0 none c fs))) W := by
  unfold mXfG
  cases fx c with
  | none => rfl
  | some j =>
    simp only [mXf, mVar, setAt_get]
    by_cases h : i < δ.length
    · simp [h, Res.bind]
    · simp [h, Res.bind]
theorem mIsG_ind {g : Cl → Option Bool} {a : Addr} {d : Option Addr} {c : Cl} {fs : List D} {δ : Env} {W : Wo} {i : Nat} (hd : d = none) :
    mIsG g a d c (mVar i) (δ.set i (some (.exo a d c fs))) W = mIsG g 0 none c (mVar i) (δ.set i (some (.exo 0 none c fs))) W := by
  subst hd
  unfold mIsG
  cases g c with
  | none => rfl
  | some b =>
    simp only [mIsE, mVar, setAt_get]
    by_cases h : i < δ.length
    · simp [h, Res.bind]
    · simp [h, Res.bind]
theorem mVar_ne {i j : Nat} {x y : Option D} {δ : Env} {W : Wo} (h : j ≠ i) : mVar j (δ.set i x) W = mVar j (δ.set i y) W := by
  simp only [mVar, List.getElem?_set_ne (Ne.symm h)]
/-! ### two mirrors that answer alike, each in its locals -/
def EInd {α : Type} (m m' : Env → Wo → Res α) (δ δ' : Env) : Prop := ∀ W, m δ W = m' δ' W
section
variable {δ δ' : Env} {m m' : ME} {r r' : MA} {i : Nat}
theorem ind_c {d : D} : EInd (mC d) (mC d) δ δ' := fun _ => rfl
theorem ind_nil : EInd aNil aNil δ δ' := fun _ => rfl
theorem ind_cons (h : EInd m m' δ δ') (k : EInd r r' δ δ') : EInd (aCons m r) (aCons m' r') δ δ' := fun W => by
  unfold aCons
  show Res.bind (m δ W) _ = Res.bind (m' δ' W) _
  rw [h W]
  cases m' δ' W with
  | ok a W1 => show Res.bind (r δ W1) _ = Res.bind (r' δ' W1) _; rw [k W1]
  | ex _ _ _ => rfl
  | bad => rfl
theorem ind_lst (h : EInd r r' δ δ') : EInd (mLst r) (mLst r') δ δ' := fun W => by
  unfold mLst
  show Res.bind (r δ W) _ = Res.bind (r' δ' W) _
  rw [h W]
theorem ind_tup (h : EInd r r' δ δ') : EInd (mTup r) (mTup r') δ δ' := fun W => by
  unfold mTup
  show Res.bind (r δ W) _ = Res.bind (r' δ' W) _
  rw [h W]
theorem ind_call {f : MF} (h : EInd r r' δ δ') : EInd (mCall f r) (mCall f r') δ δ' := fun W => by
  unfold mCall
  show Res.bind (r δ W) _ = Res.bind (r' δ' W) _
  rw [h W]
theorem ind_var {j : Nat} {x y : Option D} (h : j ≠ i) : EInd (mVar j) (mVar j) (δ.set i x) (δ.set i y) := fun _ => mVar_ne h
theorem ind_xf {fx : Cl → Option Nat} {a : Addr} {d : Option Addr} {c : Cl} {fs : List D} : EInd (mXfG fx a d c (mVar i)) (mXfG fx 0 none c (mVar i)) (δ.set i (some (.exo a d c fs))) (δ.set i (some (.exo 0 none c fs))) := fun _ => mXfG_ind
theorem ind_is {g : Cl → Option Bool} {a : Addr} {d : Option Addr} {c : Cl} {fs : List D} (hd : d = none) : EInd (mIsG g a d c (mVar i)) (mIsG g 0 none c (mVar i)) (δ.set i (some (.exo a d c fs))) (δ.set i (some (.exo 0 none c fs))) := fun _ => mIsG_ind hd
theorem ind_rt (h : EInd m m' δ δ') (W : Wo) : (sRt m δ W).unset i = (sRt m' δ' W).unset i := by
  unfold sRt
  show SR.unset i (Res.toS (m δ W) δ _) = SR.unset i (Res.toS (m' δ' W) δ' _)
  rw [h W]
  cases m' δ' W with
  | ok a W1 => rfl
  | ex _ _ _ => rfl
  | bad => rfl
end
/-! ### a clause, its class's address aside -/
def cmK (v : Value) (i : Option Nat) (g : Cl → Option Bool) (sm : Addr → Option Addr → Cl → MS) : CM := ⟨v, i, g, sm⟩
abbrev cm (i : Option Nat) (g : Cl → Option Bool) (sm : Addr → Option Addr → Cl → MS) : CM := cmK .none i g sm
def CM.er (k : CM) : CM := cmK .none k.i k.mt k.sm
theorem pick_er : ∀ (ks : List CM) (c : Cl) (fs : List D) (δ : Env) (W : Wo), pick (ks.map CM.er) c fs δ W = pick ks c fs δ W
  | [], _, _, _, _ => rfl
  | k :: r, c, fs, δ, W => by
    show (match k.mt c with
      | some true => match k.i with
        | some i => (k.sm 0 none c (δ.set i (some (.exo 0 none c fs))) W).unset i
        | none => (k.sm 0 none c δ W).noex
      | some false => pick (r.map CM.er) c fs δ W
      | none => .bad) = _
    rw [pick_er r c fs δ W]
    rfl
theorem pms_try2 {X : Cx} {Wx : WX} {body : List Stmt} {h₀ : ExceptHandler} {hds : List ExceptHandler} {ks ks' : List CM} {pos : Pos} {sb : MS} (hs : X.stack = X.env :: X.outer) (hf : X.env.frame = some X.env.locals) (hN : X.N.Nodup) (tk : Takes X Wx)
    (hb : ∀ (W : WX) (pn : List (Addr × Obj)) (xe : Value → Shared → Prop), Takes (X.tr pn xe) W → PassesOwn (model X.prog X.w) X.A X.env xe → PMSs (X.tr pn xe) W body sb)
    (hh : CMok X (h₀ :: hds) ks) (he : ks.map CM.er = ks' := by rfl) : PMS X Wx (.Try body (h₀ :: hds) [] [] pos) (sTry sb ks') := by
  have e : sTry sb ks' = sTry sb ks := by
    funext δ W
    unfold sTry
    cases sb δ W with
    | ex c fs δ1 W1 => show pick ks' c fs δ1 W1 = pick ks c fs δ1 W1; rw [← he, pick_er]
    | _ => rfl
  rw [e]
  exact pms_try hs hf hN tk hb hh
end ML
set_option Elab.async false
set_option linter.all false
set_option maxRecDepth 100000
set_option maxHeartbeats 2000000
namespace ML
open PySem PySem.Spec PyProof.Rows L2
/-! ### dicts: their entries as data -/
def keyD : D → Option Key
  | .int i => some (.inl i)
  | .str x => some (.inr x)
  | _ => none
def valD (kvs : List (Key × D)) (k : Key) : Option D := (kvs.find? fun kv => decide (kv.1 = k)).map (·.2)
def hasD (kvs : List (Key × D)) (k : Key) : Bool := kvs.any fun kv => decide (kv.1 = k)
def putD (kvs : List (Key × D)) (k : Key) (d : D) : List (Key × D) := if hasD kvs k = true then kvs.map (fun kv => if kv.1 = k then (kv.1, d) else kv) else kvs ++ [(k, d)]
def dropD (kvs : List (Key × D)) (k : Key) : List (Key × D) := kvs.filter fun kv => decide (kv.1 ≠ k)
inductive DK (K : PySem.W.Frag) (μ : Lo) (H : Hp) : List (Key × V) → List (Key × D) → Prop
  | nil : DK K μ H [] []
  | cons {k : Key} {v : V} {d : D} {kv : List (Key × V)} {kd : List (Key × D)} (r : Rep K μ H v d) (h : DK K μ H kv kd) : DK K μ H ((k, v) :: kv) ((k, d) :: kd)
section
variable {K : PySem.W.Frag} {μ μ' : Lo} {H H' : Hp} {W : Wo}
theorem DK.of : ∀ {kv : List (Key × V)} {kd : List (Key × D)}, kv.map (·.1) = kd.map (·.1) → Reps K μ H (kv.map (·.2)) (kd.map (·.2)) → DK K μ H kv kd
  | [], [], _, _ => .nil
  | [], _ :: _, h, _ => by cases h
  | _ :: _, [], h, _ => by cases h
  | (k, v) :: kv, (k', d) :: kd, h, r => by
    rw [List.map_cons, List.map_cons] at h
    injection h with h1 h2
    have h1 : k = k' := h1
    subst h1
    obtain ⟨v', r', e, r1, r2⟩ := r
    injection e with e1 e2
    have e1 : v = v' := e1
    subst e1
    subst e2
    exact .cons r1 (DK.of h2 r2)
theorem DK.to {kv : List (Key × V)} {kd : List (Key × D)} (h : DK K μ H kv kd) : kv.map (·.1) = kd.map (·.1) ∧ Reps K μ H (kv.map (·.2)) (kd.map (·.2)) := by
  induction h with
  | nil => exact ⟨rfl, rfl⟩
  | cons r h ih => exact ⟨by rw [List.map_cons, List.map_cons, ih.1], _, _, rfl, r, ih.2⟩
theorem DK.length {kv : List (Key × V)} {kd : List (Key × D)} (h : DK K μ H kv kd) : kv.length = kd.length := by
  induction h with
  | nil => rfl
  | cons r h ih => rw [List.length_cons, List.length_cons, ih]
theorem DK.ext {kv : List (Key × V)} {kd : List (Key × D)} (x : Ext μ H μ' H') (h : DK K μ H kv kd) : DK K μ' H' kv kd := by
  induction h with
  | nil => exact .nil
  | cons r h ih => exact .cons (Rep.ext x r) ih
/-- an entry -/
theorem DK.val {kv : List (Key × V)} {kd : List (Key × D)} (h : DK K μ H kv kd) (k : Key) : (∃ v d, valV kv k = some v ∧ valD kd k = some d ∧ Rep K μ H v d) ∨ (valV kv k = none ∧ valD kd k = none) := by
  induction h with
  | nil => exact .inr ⟨rfl, rfl⟩
  | @cons j v d kv kd r h ih =>
    by_cases e : j = k
    · exact .inl ⟨v, d, valV_pos e, by unfold valD; rw [List.find?_cons_of_pos (by simpa using e)]; rfl, r⟩
    · rw [valV_neg (p := (j, v)) e]
      have e2 : valD ((j, d) :: kd) k = valD kd k := by unfold valD; rw [List.find?_cons_of_neg (by simpa using e)]
      rw [e2]
      exact ih
theorem hasD_val (k : Key) : ∀ kd : List (Key × D), hasD kd k = (valD kd k).isSome
  | [] => rfl
  | (j, d) :: kd => by
    by_cases e : j = k
    · unfold hasD valD
      rw [List.find?_cons_of_pos (by simpa using e), List.any_cons, decide_eq_true e]
      rfl
    · have e2 : valD ((j, d) :: kd) k = valD kd k := by unfold valD; rw [List.find?_cons_of_neg (by simpa using e)]
      rw [e2, ← hasD_val k kd]
      unfold hasD
      rw [List.any_cons, decide_eq_false e, Bool.false_or]
theorem DK.put {kv : List (Key × V)} {kd : List (Key × D)} (h : DK K μ H kv kd) (k : Key) {v : V} {d : D} (r : Rep K μ H v d) : DK K μ H (putK kv k v) (putD kd k d) := by
  have hk := h.to.1
  have e : (kv.any fun kv => decide (kv.1 = k)) = hasD kd k := by
    have e1 : (kv.any fun kv => decide (kv.1 = k)) = (kv.map (·.1)).any fun j => decide (j = k) := by rw [List.any_map]; rfl
    have e2 : hasD kd k = (kd.map (·.1)).any fun j => decide (j = k) := by unfold hasD; rw [List.any_map]; rfl
    rw [e1, e2, hk]
  unfold putK putD
  rw [e]
  by_cases q : hasD kd k = true
  · rw [if_pos q, if_pos q]
    clear hk e q
    induction h with
    | nil => exact .nil
    | @cons j v' d' kv kd r' h ih =>
      rw [List.map_cons, List.map_cons]
      by_cases e : j = k
      · rw [if_pos (show (j, v').1 = k from e), if_pos (show (j, d').1 = k from e)]
        exact .cons r ih
      · rw [if_neg (show ¬ (j, v').1 = k from e), if_neg (show ¬ (j, d').1 = k from e)]
        exact .cons r' ih
  · rw [if_neg q, if_neg q]
    clear hk e q
    induction h with
    | nil => exact .cons r .nil
    | cons r' h ih => exact .cons r' ih
theorem DK.drop {kv : List (Key × V)} {kd : List (Key × D)} (h : DK K μ H kv kd) (k : Key) : DK K μ H (dropK kv k) (dropD kd k) := by
  induction h with
  | nil => exact .nil
  | @cons j v d kv kd r h ih =>
    unfold dropK dropD
    rw [List.filter_cons, List.filter_cons]
    by_cases e : j = k
    · rw [if_neg (by simpa using e), if_neg (by simpa using e)]
      exact ih
    · rw [if_pos (by simpa using e), if_pos (by simpa using e)]
      exact .cons r ih
theorem key_rep {v : V} {d : D} {k : Key} (r : Rep K μ H v d) (e : keyD d = some k) : v = kV k := by
  cases d with
  | int i => cases e; exact r
  | str x => cases e; exact r
  | _ => cases e
theorem dct_cell {j : Nat} {kd : List (Key × D)} {v : V} (S : RepS K μ H W) (r : Rep K μ H v (.cell j)) (e : W[j]? = some (.dct kd)) : ∃ a kv, v = .ref a ∧ μ.cells[j]? = some a ∧ H a = some (.dK kv) ∧ DK K μ H kv kd := by
  obtain ⟨a, rfl, hj⟩ := r
  obtain ⟨kv, h1, h2, h3⟩ := S.at_ j a _ hj e
  exact ⟨a, kv, rfl, hj, h1, DK.of h2 h3⟩
end
def dctOf (W : Wo) : D → Option (List (Key × D))
  | .cell j => match W[j]? with
    | some (.dct kd) => some kd
    | _ => none
  | _ => none
theorem dctOf_cell {W : Wo} {d : D} {kd : List (Key × D)} (h : dctOf W d = some kd) : ∃ j, d = .cell j ∧ W[j]? = some (.dct kd) := by
  cases d with
  | cell j =>
    have h : (match W[j]? with
      | some (.dct kd) => some kd
      | _ => none) = some kd := h
    split at h
    · rename_i kd' e
      cases h
      exact ⟨j, rfl, e⟩
    · cases h
  | _ => cases h
/-! ### {}, dict(d), len(d) -/
def mDctC : ME := fun _ W => .ok (.cell W.length) (W ++ [.dct []])
/-- dict(d): a new one with the same entries -/
def dictD : MF := fun ds W => match ds with
  | [d] => match dctOf W d with
    | some kd => .ok (.cell W.length) (W ++ [.dct kd])
    | none => .bad
  | _ => .bad
theorem calm_dict : CalmF dictD := fun ds W => by
  unfold dictD
  split
  · split <;> exact True.intro
  · exact True.intro
/-- len of anything but an instance -/
def lenD2 : MF := fun ds W => match ds with
  | [d] => match dctOf W d with
    | some kd => .ok (.int kd.length) W
    | none => lenD [d] W
  | _ => .bad
theorem calm_len2 : CalmF lenD2 := fun ds W => by
  unfold lenD2
  split
  · split
    · exact True.intro
    · exact calm_len _ _
  · exact True.intro
section
variable {X : Cx} {Wx : WX} {pos : Pos}
theorem pm_dctC : PM X Wx (.Dict [] [] pos) mDctC := PE.imp pe_dnewK fun σ H Q ⟨μ, W, δ, S, E, p⟩ => Pst.newC (m' := .dct []) (o := fun _ => .dK []) S (fun q hq => ⟨[], upd_same, rfl, rfl⟩) p
theorem bi_dict : BI X (.type "dict") dictD := fun pins s σ H vs us Q I r h => by
  obtain ⟨μ, W, ds, S, rs, p⟩ := h
  unfold dictD at p
  split at p
  · split at p
    · rename_i d kd hd
      obtain ⟨v, rfl, r1⟩ := reps1 rs
      obtain ⟨j, rfl, hW⟩ := dctOf_cell hd
      obtain ⟨a, kv, rfl, hj, ha, dk⟩ := dct_cell S r1 hW
      refine call_dictD pins s σ H _ us Q I r ⟨a, kv, rfl, .inl ha, ?_⟩
      exact Pst.newC (m' := .dct kd) (o := fun _ => .dK kv) S (fun q hq => ⟨kv, upd_same, dk.to.1, Reps.ext (Ext.newCell hq) dk.to.2⟩) p
    · exact p.elim
  · exact p.elim
theorem bi_len2 : BI X (.builtin "len") lenD2 := fun pins s σ H vs us Q I r h => by
  obtain ⟨μ, W, ds, S, rs, p⟩ := h
  unfold lenD2 at p
  split at p
  · split at p
    · rename_i d kd hd
      obtain ⟨v, rfl, r1⟩ := reps1 rs
      obtain ⟨j, rfl, hW⟩ := dctOf_cell hd
      obtain ⟨a, kv, rfl, hj, ha, dk⟩ := dct_cell S r1 hW
      exact call_lenD pins s σ H _ us Q I r ⟨a, kv, rfl, ha, by rw [dk.length]; exact Pst.val S p rfl⟩
    · exact bi_len pins s σ H vs us Q I r ⟨μ, W, _, S, rs, p⟩
  · exact p.elim
end
/-! ### d[k], k in d -/
/-- of two readings of one and the same thing -/
theorem PE.or {X : Cx} {e : Expr} {t t' : TE} (h : PE X e t) (h' : PE X e t') : PE X e (fun σ H Q => t σ H Q ∨ t' σ H Q) := ⟨fun pins s σ H Q I q => q.elim (h.run pins s σ H Q I) (h'.run pins s σ H Q I)⟩
theorem PS.or {X : Cx} {e : Stmt} {t t' : TS} (h : PS X e t) (h' : PS X e t') : PS X e (fun D σ H => t D σ H ∨ t' D σ H) := ⟨fun pins s σ H Q I q => q.elim (h.run pins s σ H Q I) (h'.run pins s σ H Q I)⟩
theorem PSet.or {X : Cx} {t t' : TSet} (h : PSet X t) (h' : PSet X t') : PSet X (fun o i v H Q => t o i v H Q ∨ t' o i v H Q) := fun pins s σ H o i v ov iv u Q I ro ri rv q => q.elim (h pins s σ H o i v ov iv u Q I ro ri rv) (h' pins s σ H o i v ov iv u Q I ro ri rv)
def dgetD : DOp := fun d e W => match dctOf W d with
  | some kd => match keyD e with
    | some k => match valD kd k with
      | some x => .ok x W
      | none => .bad
    | none => .bad
  | none => .bad
def idxD2 : DOp := fun d e W => if (dctOf W d).isSome then dgetD d e W else idxD d e W
theorem mBin_split {K : PySem.W.Frag} {Wx : WX} {c : D → Wo → Bool} {f g : DOp} {ma mb : ME} {σ : L2.St} {H : Hp} {Q : VK} (h : tM K (RD K) (mBin (fun d e W => if c d W then f d e W else g d e W) ma mb) Wx σ H Q) : tM K (RD K) (mBin f ma mb) Wx σ H Q ∨ tM K (RD K) (mBin g ma mb) Wx σ H Q := by
  obtain ⟨μ, W, δ, S, E, p⟩ := h
  have e : mBin (fun d e W => if c d W then f d e W else g d e W) ma mb δ W = mBin f ma mb δ W ∨ mBin (fun d e W => if c d W then f d e W else g d e W) ma mb δ W = mBin g ma mb δ W := by
    unfold mBin
    cases ma δ W with
    | ok d W1 =>
      show (mb δ W1).bind _ = (mb δ W1).bind _ ∨ (mb δ W1).bind _ = (mb δ W1).bind _
      cases mb δ W1 with
      | ok e W2 =>
        show (if c d W2 = true then f d e W2 else g d e W2) = f d e W2 ∨ (if c d W2 = true then f d e W2 else g d e W2) = g d e W2
        by_cases q : c d W2 = true
        · exact .inl (if_pos q)
        · exact .inr (if_neg q)
      | ex _ _ _ => exact .inl rfl
      | bad => exact .inl rfl
    | ex _ _ _ => exact .inl rfl
    | bad => exact .inl rfl
  rcases e with e | e
  · exact .inl ⟨μ, W, δ, S, E, by rw [← e]; exact p⟩
  · exact .inr ⟨μ, W, δ, S, E, by rw [← e]; exact p⟩
theorem calm_dget (d e : D) (W : Wo) : Calm (dgetD d e W) := by
  unfold dgetD
  split
  · split
    · split <;> trivial
    · trivial
  · trivial
section
variable {X : Cx} {Wx : WX} {pos : Pos} {a b : Expr} {ma mb : ME}
theorem pm_ix2 (hu : X.A.units + 1 < cLine) (ha : PM X Wx a ma) (hb : PM X Wx b mb) (hn : NoSl b := by intro _ _; rfl) (hs : PlainIx b := by intro _ _; rfl) : PM X Wx (.Subscript a b pos) (mBin idxD2 ma mb) :=
  PE.imp (PE.or (pe_dget hu ha hb hn) (pm_ix (pos := pos) ha hb hs)) fun σ H Q h => by
    rcases mBin_split (c := fun d W => (dctOf W d).isSome) h with h | h
    · refine .inl (tM.bind h fun μ δ x H1 μ1 W1 d x1 S1 E1 r1 p => ⟨μ1, W1, δ, S1, E1, (Pst.bind p).imp (fun y μ' H2 _ ⟨μ2, W2, e, x2, S2, r2, q⟩ => ?_) fun _ _ _ h => h⟩)
      have q5 : Pst X.K (RD X.K) μ2 H2 Q (fun c d H' => Wx c d σ H') (match dctOf W2 d with
        | some kd => match keyD e with
          | some k => match valD kd k with
            | some x => .ok x W2
            | none => .bad
          | none => .bad
        | none => .bad) := q
      split at q5
      · rename_i kd hd
        split at q5
        · rename_i k hk
          split at q5
          · rename_i z hz
            obtain ⟨j, rfl, hW⟩ := dctOf_cell hd
            obtain ⟨p, kv, rfl, hj, hp, dk⟩ := dct_cell S2 (Rep.ext x2 r1) hW
            rcases dk.val k with ⟨v, d', e1, e2, rv⟩ | ⟨_, e2⟩
            · rw [hz] at e2
              cases e2
              rw [key_rep r2 hk]
              exact ⟨p, v, rfl, by rw [← e1]; exact DGet.k hp, Pst.val S2 q5 rv⟩
            · rw [hz] at e2; cases e2
          · exact q5.elim
        · exact q5.elim
      · exact q5.elim
    · exact .inr h
end
/-- y in x: a dict's key, one sign of a text, data in a list -/
def inD (neg : Bool) : DOp := fun e d W => match dctOf W d with
  | some kd => match keyD e with
    | some k => .ok (.bl (if neg then !hasD kd k else hasD kd k)) W
    | none => .bad
  | none => match d with
    | .str z => match e with
      | .str c => if c.cps.size = 1 then .ok (.bl (if neg then !decide (c.cps.getD 0 0 ∈ z.cps.toList) else decide (c.cps.getD 0 0 ∈ z.cps.toList))) W else .bad
      | _ => .bad
    | d => match pdW W d, pdW W e with
      | some (.list ps), some q => if SeqAt.shaped q = true ∧ SeqAt.shaped (.list ps) = true then .ok (.bl (if neg then !ps.any (fun z => PyData.eqv z q) else ps.any fun z => PyData.eqv z q)) W else .bad
      | _, _ => .bad
theorem calm_in (neg : Bool) (d e : D) (W : Wo) : Calm (inD neg d e W) := by
  unfold inD
  split
  · split <;> trivial
  · split
    · split
      · exact .ite trivial trivial
      · trivial
    · split
      · exact .ite trivial trivial
      · trivial
theorem one_sign {c : Str} (h : c.cps.size = 1) : c = ⟨#[c.cps.getD 0 0]⟩ := by
  obtain ⟨a⟩ := c
  have h : a.size = 1 := h
  congr 1
  apply Array.ext
  · rw [h]; rfl
  · intro i h1 h2
    have : i = 0 := by omega
    subst this
    show a[0] = a.getD 0 0
    simp [Array.getD, h]
section
variable {X : Cx}
theorem op_inM2 (hu : X.A.units + 65 < cLine) : OpM X (compareOp .In) (inD false) := fun pins s σ H x y v u Q I rx ry h => by
  obtain ⟨μ, W, e, d, S, re, rd, p⟩ := h
  unfold inD at p
  split at p
  · rename_i kd hd
    split at p
    · rename_i k hk
      obtain ⟨j, rfl, hW⟩ := dctOf_cell hd
      obtain ⟨a, kv, rfl, hj, ha, dk⟩ := dct_cell S rd hW
      have ev := key_rep re hk
      subst ev
      obtain rfl : u = Value.ref a := ry
      refine d_in (by omega) I (DGet.k ha) rx fun s' I' => ⟨.bl (valV kv k).isSome, H, I', rfl, ?_⟩
      have e1 : (valV kv k).isSome = hasD kd k := by
        rw [hasD_val]
        rcases dk.val k with ⟨v, d', e1, e2, _⟩ | ⟨e1, e2⟩ <;> rw [e1, e2] <;> rfl
      rw [e1]
      exact Pst.val S p rfl
    · exact p.elim
  · split at p
    · split at p
      · rename_i z _ _ c
        obtain ⟨hc, p⟩ := p.ite
        have e1 : x = .str c := re
        have e2 : y = .str z := rd
        subst e1 e2
        exact op_in_sign pins s σ H _ _ v u Q I rx ry ⟨c.cps.getD 0 0, z, congrArg V.str (one_sign hc), rfl, Pst.val S p rfl⟩
      · exact p.elim
    · split at p
      · rename_i ps q e1 e2
        obtain ⟨hc, p⟩ := p.ite
        exact op_inD hu pins s σ H _ _ v u Q I rx ry ⟨q, ps, pdW_rep S re e2, pdW_rep S rd e1, hc.1, hc.2, Pst.val S p rfl⟩
      · exact p.elim
theorem op_notInM2 (hu : X.A.units + 65 < cLine) : OpM X (compareOp .NotIn) (inD true) := fun pins s σ H x y v u Q I rx ry h => by
  obtain ⟨μ, W, e, d, S, re, rd, p⟩ := h
  unfold inD at p
  split at p
  · rename_i kd hd
    split at p
    · rename_i k hk
      obtain ⟨j, rfl, hW⟩ := dctOf_cell hd
      obtain ⟨a, kv, rfl, hj, ha, dk⟩ := dct_cell S rd hW
      have ev := key_rep re hk
      subst ev
      obtain rfl : u = Value.ref a := ry
      refine d_notIn (by omega) I (DGet.k ha) rx fun s' I' => ⟨.bl (!(valV kv k).isSome), H, I', rfl, ?_⟩
      have e1 : (valV kv k).isSome = hasD kd k := by
        rw [hasD_val]
        rcases dk.val k with ⟨v, d', e1, e2, _⟩ | ⟨e1, e2⟩ <;> rw [e1, e2] <;> rfl
      rw [e1]
      exact Pst.val S p rfl
    · exact p.elim
  · split at p
    · split at p
      · rename_i z _ _ c
        obtain ⟨hc, p⟩ := p.ite
        have e1 : x = .str c := re
        have e2 : y = .str z := rd
        subst e1 e2
        exact op_notIn_sign pins s σ H _ _ v u Q I rx ry ⟨c.cps.getD 0 0, z, congrArg V.str (one_sign hc), rfl, Pst.val S p rfl⟩
      · exact p.elim
    · split at p
      · rename_i ps q e1 e2
        obtain ⟨hc, p⟩ := p.ite
        exact op_notInD hu pins s σ H _ _ v u Q I rx ry ⟨q, ps, pdW_rep S re e2, pdW_rep S rd e1, hc.1, hc.2, Pst.val S p rfl⟩
      · exact p.elim
end
/-! ### o[i] = v, o a list's or a dict's cell; del d[k] -/
def putIx2 (o i v : D) (W : Wo) : Option Wo := match dctOf W o with
  | some kd => match o, keyD i with
    | .cell j, some k => if kd.length < sizeLine then some (W.set j (.dct (putD kd k v))) else none
    | _, _ => none
  | none => putIx o i v W
def sPut2 (mo mi me : ME) : MS := fun δ W => (me δ W).toS δ fun v W1 => (mo δ W1).toS δ fun o W2 => (mi δ W2).toS δ fun i W3 => match putIx2 o i v W3 with
  | some W4 => .nx δ W4
  | none => .bad
def delIx (o i : D) (W : Wo) : Option Wo := match dctOf W o with
  | some kd => match o, keyD i with
    | .cell j, some k => if hasD kd k then some (W.set j (.dct (dropD kd k))) else none
    | _, _ => none
  | none => none
def sDel (mo mi : ME) : MS := fun δ W => (mo δ W).toS δ fun o W1 => (mi δ W1).toS δ fun i W2 => match delIx o i W2 with
  | some W3 => .nx δ W3
  | none => .bad
section
variable {X : Cx} {Wx : WX} {o i e : Expr} {mo mi me : ME} {pos pos' : Pos}
theorem pms_put2 (hu : X.A.units + 1 < cLine) (ho : PM X Wx o mo) (hi : PM X Wx i mi) (he : PM X Wx e me) (hs : swapsWithSole [.Subscript o i pos'] e pos.line X.env = pure false := by rfl) (hw : swappedStores [.Subscript o i pos'] e X.env = pure none := by rfl)
    (h1 : (assignEach [.Subscript o i pos'] X.env).map (·.2) = [assign (.Subscript o i pos') X.env] := by rfl)
    (ha : ∀ v, assign (.Subscript o i pos') X.env v = (do
      let ov ← holding [v] (eval o X.env)
      let iv ← holding [v, ov] (eval i X.env)
      standAt pos'
      holding [v, ov, iv] (setItem ov iv v)
      release [v, ov, iv] []) := by intro _; rfl) : PMS X Wx (.Assign [.Subscript o i pos'] e pos) (sPut2 mo mi me) :=
  PS.imp (ps_asg he (pg_sub ho hi (PSet.or (set_dict hu) set_list) ha) hs hw h1) fun Dn σ H h => tS.bind h fun μ δ v H1 μ1 W1 dv x1 S1 E1 rv p => by
    refine ⟨μ1, W1, δ, S1, E1, Pst.imp (PstS.toM (R := RD X.K) E1 p) (fun ov μ' H' _ ⟨μ2, W2, do_, x2, S2, E2, ro, q⟩ => ?_) fun _ _ _ z => z⟩
    refine ⟨μ2, W2, δ, S2, E2, Pst.imp (PstS.toM (R := RD X.K) E2 q) (fun iv μ'' H'' _ ⟨μ3, W3, di, x3, S3, E3, ri, q3⟩ => ?_) fun _ _ _ z => z⟩
    have q3 : PstS X.K μ3 H'' Dn Wx (match putIx2 do_ di dv W3 with
      | some W4 => .nx δ W4
      | none => .bad) := q3
    cases hp : putIx2 do_ di dv W3 with
    | none => rw [hp] at q3; exact q3.elim
    | some W4 =>
      rw [hp] at q3
      unfold putIx2 at hp
      split at hp
      · rename_i kd hd
        obtain ⟨j, rfl, hW⟩ := dctOf_cell hd
        split at hp
        · rename_i jj k ej hk
          cases ej
          split at hp
          · rename_i hl
            cases hp
            obtain ⟨a, kv, e1, hj, ha', dk⟩ := dct_cell S3 (Rep.ext x3 ro) hW
            subst e1
            have xp := Ext.put (o' := .dK (putK kv k v)) S3 hj (fun ps z => by rw [ha'] at z; cases z)
            have dk2 := (dk.ext xp).put k (Rep.ext ((x2.trans x3).trans xp) rv)
            rw [key_rep ri hk]
            refine .inl ⟨a, _, rfl, DPut.k ha' (by rw [dk.length]; exact hl), q3 σ μ3 _ xp (S3.put hj (fun ps z => by rw [ha'] at z; cases z) ⟨_, upd_same, dk2.to.1, dk2.to.2⟩) (E3.ext xp)⟩
          · cases hp
        · cases hp
      · refine .inr ?_
        cases do_ with
        | cell j =>
          cases di with
          | int k =>
            have hp : (match W3[j]? with
              | some (.lst xs) => match ixN xs.length k with
                | some n => some (W3.set j (.lst (xs.set n dv)))
                | none => none
              | _ => none) = some W4 := hp
            split at hp
            · rename_i xs hW
              cases hn : ixN xs.length k with
              | none => rw [hn] at hp; cases hp
              | some n =>
                rw [hn] at hp
                cases hp
                obtain ⟨a, vs, e1, hj, ha', rs⟩ := lst_cell S3 (Rep.ext x3 ro) hW
                subst e1
                have ri : iv = .int k := ri
                subst ri
                have xp := Ext.put (o' := .lst (vs.set n v)) S3 hj (fun ps z => by rw [ha'] at z; cases z)
                exact ⟨a, vs, k, n, rfl, rfl, ha', by rw [rs.length]; exact hn, q3 σ μ3 _ xp (S3.put hj (fun ps z => by rw [ha'] at z; cases z) ⟨_, upd_same, Reps.set (Rep.ext ((x2.trans x3).trans xp) rv) n (Reps.ext xp rs)⟩) (E3.ext xp)⟩
            · cases hp
          | _ => cases hp
        | _ => cases di <;> cases hp
theorem pms_del {tpos : Pos} (ho : PM X Wx o mo) (hi : PM X Wx i mi) : PMS X Wx (.Delete [.Subscript o i tpos] pos) (sDel mo mi) :=
  PS.imp (ps_ddel ho hi) fun Dn σ H h => tS.bind h fun μ δ ov H1 μ1 W1 do_ x1 S1 E1 ro p => by
    refine ⟨μ1, W1, δ, S1, E1, Pst.imp (PstS.toM (R := RD X.K) E1 p) (fun iv μ' H' _ ⟨μ2, W2, di, x2, S2, E2, ri, q⟩ => ?_) fun _ _ _ z => z⟩
    have q : PstS X.K μ2 H' Dn Wx (match delIx do_ di W2 with
      | some W3 => .nx δ W3
      | none => .bad) := q
    cases hp : delIx do_ di W2 with
    | none => rw [hp] at q; exact q.elim
    | some W4 =>
      rw [hp] at q
      unfold delIx at hp
      split at hp
      · rename_i kd hd
        obtain ⟨j, rfl, hW⟩ := dctOf_cell hd
        split at hp
        · rename_i jj k ej hk
          cases ej
          split at hp
          · rename_i hk2
            cases hp
            obtain ⟨a, kv, e1, hj, ha', dk⟩ := dct_cell S2 (Rep.ext x2 ro) hW
            subst e1
            have xp := Ext.put (o' := .dK (dropK kv k)) S2 hj (fun ps z => by rw [ha'] at z; cases z)
            have dk2 := (dk.ext xp).drop k
            refine ⟨a, kv, k, rfl, ha', key_rep ri hk, ?_, q σ μ2 _ xp (S2.put hj (fun ps z => by rw [ha'] at z; cases z) ⟨_, upd_same, dk2.to.1, dk2.to.2⟩) (E2.ext xp)⟩
            rw [hasD_val] at hk2
            rcases dk.val k with ⟨v, d', e1, e2, _⟩ | ⟨e1, e2⟩
            · rw [e1]; rfl
            · rw [e2] at hk2; cases hk2
          · cases hp
        · cases hp
      · cases hp
end
end ML
set_option Elab.async false
set_option linter.all false
set_option maxRecDepth 100000
set_option maxHeartbeats 2000000
namespace ML
open PySem PySem.Spec PyProof.Rows L2
/-! ### keyword-only parameters -/
section
variable {P : Program} {w : World} {K : PySem.W.Frag} {mg : Str → Option Value} {base : Heap}
/-- n values are written, all keyword-only ones lack -/
theorem fn_kw0 {x qual : Str} {st : Stmt} {kws : List (Str × V)} {N ps : List Str} {k : Nat} {m : MS} {f : Addr} {fd : FuncData} {dd : List D} (n : Nat) (F : FunD K x qual (defArgs st) (defBody st) (defScope st) [] kws f fd) (S : FnScope N ps (defScope st)) (hk : kws ≠ []) (hn : n + kws.length = ps.length) (hdd : Atoms (kws.map (·.2)) dd)
    (hb : ∀ (D : Addr) (doc pm : Value) (an : Option Addr) (cdv ct : Value) (us ks : List Value), us.length = n → ks.length = kws.length →
      KwChain D ((kws.map (·.1)).zip ks) (bindArgs (PySem.W.fnOf x qual (defArgs st) (defBody st) (defScope st) .none (.ref D) doc pm an cdv ct) ⟨us, []⟩) (ps.zip (us ++ ks)))
    (hbody : ∀ (cdv : Value) (A : Around) (outer : List PySem.Env) (s : Shared) (H : Hp) (E : XK), Room k (A.deeper (envOfC qual (defScope st) s.heap.objs.size f cdv)) → Takes (defX P w K mg base N qual (defScope st) f cdv A outer s H E) (fun c d _ H' => E c d H') →
      PMSs (defX P w K mg base N qual (defScope st) f cdv A outer s H E) (fun c d _ H' => E c d H') (defBody st) m) : FnM P w K mg base (k + 1) f n (fun ds W => mRun N.length ps.length m (ds ++ dd) W) := by
  obtain ⟨ds, rd, bd⟩ := F.binds0 n hk hn hb
  refine ⟨F.kp, fd, ps, ds, kws.map (·.2), _, fn_M F S hbody, bd, rd, fun vs H Q E ⟨hl, μ, W, dl, S1, r, p⟩ => ⟨?_, μ, W, dl ++ dd, S1, Reps.append r hdd.reps, p⟩⟩
  rw [List.length_append, List.length_map, hl]
  exact hn
/-- called with n values and the keywords ks; m gets the values, then the keywords' -/
structure FnK (P : Program) (w : World) (K : PySem.W.Frag) (mg : Str → Option Value) (base : Heap) (k : Nat) (f : Addr) (n : Nat) (ks : List Str) (m : MF) : Prop where
  kp : PySem.W.keepIn K (.ref f) = true
  ex : ∃ (fd : FuncData) (ps : List Str) (sp : Sp) (g : List Value → List Value → List Value) (gV : List V → List V → List V), FnOk P w K mg base (L2.CX P w) k f fd ps sp ∧ KBn K fd ps n ks g gV ∧
    ∀ vs zs H Q E, vs.length = n → zs.length = ks.length → spM K m (vs ++ zs) H Q E → sp (gV vs zs) H Q E
/-- all keyword-only ones are written, in their order -/
theorem fn_kwK {x qual : Str} {st : Stmt} {kws : List (Str × V)} {N ps : List Str} {k : Nat} {m : MS} {f : Addr} {fd : FuncData} (n : Nat) (ks : List Str) (F : FunD K x qual (defArgs st) (defBody st) (defScope st) [] kws f fd) (S : FnScope N ps (defScope st)) (hk : kws ≠ []) (hn : n + ks.length = ps.length)
    (hb : ∀ (D : Addr) (doc pm : Value) (an : Option Addr) (cdv ct : Value) (us ws : List Value), us.length = n → ws.length = ks.length →
      bindArgs (PySem.W.fnOf x qual (defArgs st) (defBody st) (defScope st) .none (.ref D) doc pm an cdv ct) ⟨us, ks.zip ws⟩ = pure (ps.zip (us ++ ws)))
    (hbody : ∀ (cdv : Value) (A : Around) (outer : List PySem.Env) (s : Shared) (H : Hp) (E : XK), Room k (A.deeper (envOfC qual (defScope st) s.heap.objs.size f cdv)) → Takes (defX P w K mg base N qual (defScope st) f cdv A outer s H E) (fun c d _ H' => E c d H') →
      PMSs (defX P w K mg base N qual (defScope st) f cdv A outer s H E) (fun c d _ H' => E c d H') (defBody st) m) : FnK P w K mg base (k + 1) f n ks (mRun N.length ps.length m) := by
  obtain ⟨mv, bd⟩ := F.kbinds0 n ks [] (fun us _ ws => us ++ ws) hk (fun q h => nomatch h) (fun r1 _ r3 => r1.append r3) fun D doc pm an cdv ct us mv ws l1 _ l3 => hb D doc pm an cdv ct us ws l1 l3
  exact ⟨F.kp, fd, ps, _, _, _, fn_M F S hbody, bd, fun vs zs H Q E l1 l2 h => ⟨by rw [List.length_append, l1, l2]; exact hn, h⟩⟩
theorem FnK.up {j k n : Nat} {ks : List Str} {f : Addr} {m : MF} (G : FnK P w K mg base j f n ks m) (h : j ≤ k) : FnK P w K mg base k f n ks m := by
  obtain ⟨kp, fd, ps, sp, g, gV, G, hb, imp⟩ := G
  exact ⟨kp, fd, ps, sp, g, gV, G.mono h, hb, imp⟩
end
/-- keywords' values -/
structure PMK (X : Cx) (Wx : WX) (kws : List Keyword) (m : MA) : Prop where
  pk : PK X kws (tM X.K (RL X.K) m Wx)
  len : ∀ δ W ds W', m δ W = .ok ds W' → ds.length = kws.length
theorem PK.imp {X : Cx} {e : List Keyword} {t t' : TA} (h : PK X e t) (i : ∀ σ H Q, t' σ H Q → t σ H Q) : PK X e t' := ⟨fun p pins s σ H Q I q => h.run p pins s σ H Q I (i σ H Q q)⟩
section
variable {X : Cx} {Wx : WX} {e : Expr} {kws : List Keyword} {pos kpos : Pos} {m : ME} {r : MA} {nm : Option Str}
theorem pmk_nil : PMK X Wx [] aNil := ⟨PK.imp pk_nil fun σ H Q h => tM.pure (d := ([] : List D)) (v := ([] : List V)) h fun _ => rfl, fun _ _ _ _ e => by cases e; rfl⟩
theorem aCons_len {δ : Env} {W W' : Wo} {ds : List D} {n : Nat} (h : aCons m r δ W = .ok ds W') (hr : ∀ W ds W', r δ W = .ok ds W' → ds.length = n) : ds.length = n + 1 := by
  unfold aCons at h
  cases e1 : m δ W with
  | ok d W1 =>
    rw [e1] at h
    have h : ((r δ W1).bind fun ds W2 => Res.ok (d :: ds) W2) = .ok ds W' := h
    cases e2 : r δ W1 with
    | ok ds2 W2 =>
      rw [e2] at h
      cases h
      rw [List.length_cons, hr W1 ds2 _ e2]
    | ex c fs W2 => rw [e2] at h; cases h
    | bad => rw [e2] at h; cases h
  | ex c fs W2 => rw [e1] at h; cases h
  | bad => rw [e1] at h; cases h
theorem pmk_cons (ha : PM X Wx e m) (hr : PMK X Wx kws r) : PMK X Wx (⟨nm, e, kpos⟩ :: kws) (aCons m r) :=
  ⟨PK.imp (pk_cons ha hr.pk) fun σ H Q h => tM.bind h fun μ δ x H1 μ1 W1 d x1 S1 E1 r1 p => ⟨μ1, W1, δ, S1, E1, (Pst.bind p).imp (fun y μ' H2 _ ⟨μ2, W2, ds, x2, S2, r2, q⟩ =>
    Pst.now (R := RL X.K) S2 (b := x :: y) (a := d :: ds) ⟨x, y, rfl, Rep.ext x2 r1, r2⟩ q) fun _ _ _ h => h⟩, fun δ W ds W' h => aCons_len h fun W ds W' => hr.len δ W ds W'⟩
end
section
variable {X : Cx} {Wx : WX} {σ : L2.St} {pins : List (Addr × Obj)} {H : Hp} {s : Shared} {Q : VK} {us ws : List Value} {vs zs : List V} {k n : Nat} {f : Addr} {ks : List Str} {m : MF}
theorem FnK.calls (F : FnK X.prog X.w X.K X.mg X.base k f n ks m) (hr : Room k X.A) (tk : Takes X Wx) (I : Inv X pins σ H s) (r : Vals vs us) (rz : Vals zs ws) (l1 : vs.length = n) (l2 : zs.length = ks.length)
    (h : spM X.K m (vs ++ zs) H Q (fun c d H' => Wx c d σ H')) : wpAny (model X.prog X.w) X.A (call (.ref f) us (ks.zip ws)) (EP X pins σ Q) X.xe s := by
  obtain ⟨fd, ps, sp, g, gV, G, hb, imp⟩ := F.ex
  have r2 := hb.rel r rz
  refine wpAny_call (codeAny_mono (G.run X.A X.stack s H ⟨us, ks.zip ws⟩ (g us ws) (gV vs zs) Q (WE Wx σ) hr I.env0 (hb.to s us ws I.kIn (r.length.symm.trans l1) (rz.length.symm.trans l2)) r2 (imp vs zs H Q _ l1 l2 h)) fun r s' hq => ?_)
  cases r with
  | error e => exact passAt tk σ pins H s e s' I hq
  | ok fl =>
    cases fl with
    | ret u => exact I.after hq
    | next => exact False.elim hq
    | brk => exact False.elim hq
    | cont => exact False.elim hq
/-- C(.., k = v ..), the new instance a cell -/
theorem FnK.makes {C : Addr} (M : Mk X.K C f) (F : FnK X.prog X.w X.K X.mg X.base k f (n + 1) ks m) (hr : Room (k + 1) X.A) (tk : Takes X Wx) (I : Inv X pins σ H s) (r : Vals vs us) (rz : Vals zs ws) (l1 : vs.length = n) (l2 : zs.length = ks.length)
    (h : ∀ x dx, H x = none → H dx = none → dx ≠ x → spM X.K m (.ref x :: vs ++ zs) (upd (upd H dx (.own x)) x (.ins C dx [])) (fun v H2 => v = .non ∧ Q (.ref x) H2) (fun c d H' => Wx c d σ H')) :
    wpAny (model X.prog X.w) X.A (call (.ref C) us (ks.zip ws)) (EP X pins σ Q) X.xe s := by
  obtain ⟨fd, ps, sp, g, gV, G, hb, imp⟩ := F.ex
  have hq := h (s.heap.objs.size + 1) s.heap.objs.size (I.hok.fresh (Nat.le_succ _)) (I.hok.fresh (Nat.le_refl _)) (Nat.ne_of_lt (Nat.lt_succ_self _))
  have I2 := Inv.made (C := C) I
  have r1 : Vals (V.ref (s.heap.objs.size + 1) :: vs) (Value.ref (s.heap.objs.size + 1) :: us) := .cons rfl r
  have r2 := hb.rel r1 rz
  have n1 : (Value.ref (s.heap.objs.size + 1) :: us).length = n + 1 := by
    rw [List.length_cons, ← r.length, l1]
  have n2 : (V.ref (s.heap.objs.size + 1) :: vs).length = n + 1 := by
    rw [List.length_cons, l1]
  refine wpAny_call (make_map (f := f) I.kIn M.makes M.init (beq_iff_eq.mp M.fn) (codeAny_mono (G.run _ X.stack _ _ ⟨Value.ref (s.heap.objs.size + 1) :: us, ks.zip ws⟩ (g (Value.ref (s.heap.objs.size + 1) :: us) ws) _ _ (WE Wx σ) (hr.make C us (ks.zip ws))
    (I2.env0.make C us (ks.zip ws)) (hb.to _ (Value.ref (s.heap.objs.size + 1) :: us) ws I2.kIn n1 (rz.length.symm.trans l2)) r2 (imp _ zs _ _ _ n2 l2 hq)) fun r s' hq' => ?_))
  cases r with
  | error e => exact passAt tk σ pins _ _ e s' I2 hq'
  | ok fl =>
    cases fl with
    | ret u =>
      obtain ⟨v, H', I3, rv, ev, q3⟩ := I2.after hq'
      subst ev
      exact ⟨rv, ⟨V.ref (s.heap.objs.size + 1), H', I3, rfl, q3⟩⟩
    | next => exact False.elim hq'
    | brk => exact False.elim hq'
    | cont => exact False.elim hq'
end
/-! ### instances that are cells -/
/-- behind __init__ -/
def madeC (i : Nat) (r : Res D) : Res D := r.bind fun u W2 => match u with
  | .non => .ok (.cell i) W2
  | _ => .bad
def mMakeC (c : Cl) (m : MF) (r : MA) : ME := fun δ W => (r δ W).bind fun ds W1 => madeC W1.length (m (.cell W1.length :: ds) (W1 ++ [.ins c []]))
def mMakeCK (c : Cl) (m : MF) (r rk : MA) : ME := fun δ W => (r δ W).bind fun ds W1 => (rk δ W1).bind fun zs W2 => madeC W2.length (m (.cell W2.length :: ds ++ zs) (W2 ++ [.ins c []]))
section
variable {K : PySem.W.Frag} {μ1 : Lo} {H1 : Hp} {W1 : Wo} {Q : VK} {Wy : XW} {c : Cl} {m : MF} {a dx : Addr} {us : List V} {ds : List D}
theorem made_use (S1 : RepS K μ1 H1 W1) (rs : Reps K μ1 H1 us ds) (q : Pst K (RD K) μ1 H1 Q Wy (madeC W1.length (m (.cell W1.length :: ds) (W1 ++ [.ins c []])))) (hna : H1 a = none) (hnd : H1 dx = none) (ne : dx ≠ a) :
    spM K m (.ref a :: us) (upd (upd H1 dx (.own a)) a (.ins (cAd K c) dx [])) (fun v H2 => v = .non ∧ Q (.ref a) H2) Wy := by
  refine ⟨μ1.add a, W1 ++ [.ins c []], .cell W1.length :: ds, ?_, ?_, ?_⟩
  · exact (S1.new hnd).newC (by rw [upd_ne (Ne.symm ne)]; exact hna) ⟨dx, [], by rw [upd_same, List.zip_nil_right], Nat.zero_le _, rfl⟩
  · refine ⟨_, us, rfl, ⟨a, rfl, ?_⟩, Reps.ext (ext_made (K := K) hna hnd ne) rs⟩
    show (μ1.cells ++ [a])[W1.length]? = some a
    rw [← S1.len, List.getElem?_append_right (Nat.le_refl _), Nat.sub_self]
    rfl
  · unfold madeC at q
    cases em : m (.cell W1.length :: ds) (W1 ++ [.ins c []]) with
    | ok u W2 =>
      rw [em] at q
      cases u with
      | non =>
        intro b μ3 H3 x3 S3 rb
        refine ⟨rb, q (.ref a) μ3 H3 ((ext_made (K := K) hna hnd ne).trans x3) S3 ⟨a, rfl, ?_⟩⟩
        obtain ⟨l, hl⟩ := x3.pre
        have hl : μ3.cells = (μ1.cells ++ [a]) ++ l := hl
        rw [hl, List.append_assoc, ← S1.len, List.getElem?_append_right (Nat.le_refl _), Nat.sub_self]
        rfl
      | _ => exact q.elim
    | ex c' fs' W2 =>
      rw [em] at q
      intro cls dd μ3 H3 x3 S3 rx
      exact q cls dd μ3 H3 ((ext_made (K := K) hna hnd ne).trans x3) S3 rx
    | bad => rw [em] at q; exact q.elim
end
/-- what a call of the class with keywords asks -/
structure MkK (P : Program) (w : World) (K : PySem.W.Frag) (mg : Str → Option Value) (base : Heap) (k : Nat) (c : Cl) (n : Nat) (ks : List Str) (mi : MF) : Prop where
  gC : mg c.nm = some (.ref (cAd K c))
  mkx : ∃ f, Mk K (cAd K c) f ∧ FnK P w K mg base k f (n + 1) ks mi
section
variable {X : Cx} {Wx : WX} {x : Str} {p pos : Pos} {e : Expr} {es : List Expr} {kws : List Keyword} {r rk : MA} {k : Nat} {c : Cl} {mi : MF} {ks : List Str}
theorem pm_makeC (M : MkC X.prog X.w X.K X.mg X.base k c (e :: es).length mi) (hr : Room (k + 1) X.A) (tk : Takes X Wx) (ha : PMA X Wx (e :: es) r) (hx : x = c.nm := by rfl) (hg : Gl X x := by rfl)
    (hdb : (x == ("__debug__" : Str)) = false := by decide) (he : starEach (e :: es) X.env = (false, eval e X.env) :: starEach es X.env := by rfl) (hpl : (backTo pos (starEach es X.env)).any (·.1) = false := by rfl) :
    PM X Wx (.Call (.Name x p) (e :: es) [] pos) (mMakeC c mi r) := by
  obtain ⟨f, Mk, fm⟩ := M.mkx
  obtain ⟨fd, ps, ds0, dvs, sp, G, hb, hd, imp⟩ := fm.ex
  refine ⟨fun pins s σ H Q I h => ?_⟩
  refine wpAny_Call_Name_kw (ld_glob I hg (by rw [hx]; exact M.gC) ?_ hdb)
  obtain ⟨μ, W, δ, S, E, q⟩ := h
  have q' : Pst X.K (RD X.K) μ H Q (fun c d H' => Wx c d σ H') ((r δ W).bind fun ds W1 => madeC W1.length (mi (.cell W1.length :: ds) (W1 ++ [.ins c []]))) := q
  have hpa : tM X.K (RL X.K) r Wx σ H fun vs H1 => vs.length = (e :: es).length ∧ ∃ μ1 W1 ds, RepS X.K μ1 H1 W1 ∧ Reps X.K μ1 H1 vs ds ∧ Pst X.K (RD X.K) μ1 H1 Q (fun c d H' => Wx c d σ H') (madeC W1.length (mi (.cell W1.length :: ds) (W1 ++ [.ins c []]))) := by
    refine ⟨μ, W, δ, S, E, ?_⟩
    cases er : r δ W with
    | ok ds W1 =>
      rw [er] at q'
      exact fun vs μ1 H1 x1 S1 r1 => ⟨by rw [r1.length]; exact ha.len δ W ds W1 er, μ1, W1, ds, S1, r1, Pst.shift x1 q'⟩
    | ex c fs W1 => rw [er] at q'; exact q'
    | bad => rw [er] at q'; exact q'
  refine PySem.W.callWith_K (h₀ := X.base) I.ok.mod.kin Mk.kp (thn (ha.pa.run pos pins s σ H _ I hpa) fun us s1 ⟨vs, H1, I1, r1, hz, μ1, W1, ds, S1, rs, q⟩ => ⟨I1.kIn, ?_⟩) he hpl
  refine run_makeAt Mk G hr hb hd (passAt tk σ) I1 r1 fun a dx hna hnd ne => ?_
  exact imp (.ref a :: vs) _ _ _ ⟨congrArg Nat.succ hz, made_use S1 rs q hna hnd ne⟩
/-- C() -/
theorem pm_makeC0 (M : MkC X.prog X.w X.K X.mg X.base k c 0 mi) (hr : Room (k + 1) X.A) (tk : Takes X Wx) (hx : x = c.nm := by rfl) (hg : Gl X x := by rfl)
    (hdb : (x == ("__debug__" : Str)) = false := by decide) : PM X Wx (.Call (.Name x p) [] [] pos) (mMakeC c mi aNil) := by
  obtain ⟨f, Mk, fm⟩ := M.mkx
  obtain ⟨fd, ps, ds0, dvs, sp, G, hb, hd, imp⟩ := fm.ex
  refine ⟨fun pins s σ H Q I h => ?_⟩
  refine wpAny_Call_Name_kw (ld_glob I hg (by rw [hx]; exact M.gC) ?_ hdb)
  obtain ⟨μ, W, δ, S, E, q⟩ := h
  have q' : Pst X.K (RD X.K) μ H Q (fun c d H' => Wx c d σ H') (madeC W.length (mi (.cell W.length :: []) (W ++ [.ins c []]))) := q
  refine PySem.W.callWith_K0 I.kIn Mk.kp ?_
  refine run_makeAt Mk G hr hb hd (passAt tk σ) I (us := []) (vs := []) .nil fun a dx hna hnd ne => ?_
  exact imp [.ref a] _ _ _ ⟨rfl, made_use (us := []) (ds := []) S rfl q' hna hnd ne⟩
/-- C(k = v, ..) -/
theorem pm_makeCK0 (M : MkK X.prog X.w X.K X.mg X.base k c 0 ks mi) (hr : Room (k + 1) X.A) (tk : Takes X Wx) (hkw : PMK X Wx kws rk) (hx : x = c.nm := by rfl) (hg : Gl X x := by rfl)
    (hall : (backToKw pos (keywordEach kws X.env)).all (·.1.isSome) = true := by rfl) (hks : (backToKw pos (keywordEach kws X.env)).filterMap (·.1) = ks := by rfl) (hlk : kws.length = ks.length := by rfl) (hdb : (x == ("__debug__" : Str)) = false := by decide)
    (hpl : ((backTo pos (starEach [] X.env)).any (·.1) || (backToKw pos (keywordEach kws X.env)).any (·.1.isNone)) = false := by rfl) :
    PM X Wx (.Call (.Name x p) [] kws pos) (mMakeCK c mi aNil rk) := by
  obtain ⟨f, Mk, F⟩ := M.mkx
  refine ⟨fun pins s σ H Q I h => ?_⟩
  refine wpAny_Call_Name_kw (ld_glob I hg (by rw [hx]; exact M.gC) ?_ hdb)
  obtain ⟨μ, W, δ, S, E, q⟩ := h
  have q' : Pst X.K (RD X.K) μ H Q (fun c d H' => Wx c d σ H') ((rk δ W).bind fun zs W2 => madeC W2.length (mi (.cell W2.length :: [] ++ zs) (W2 ++ [.ins c []]))) := q
  have hpa : tM X.K (RL X.K) rk Wx σ H fun vs H1 => vs.length = ks.length ∧ ∃ μ1 W1 ds, RepS X.K μ1 H1 W1 ∧ Reps X.K μ1 H1 vs ds ∧ Pst X.K (RD X.K) μ1 H1 Q (fun c d H' => Wx c d σ H') (madeC W1.length (mi (.cell W1.length :: [] ++ ds) (W1 ++ [.ins c []]))) := by
    refine ⟨μ, W, δ, S, E, ?_⟩
    cases er : rk δ W with
    | ok ds W1 =>
      rw [er] at q'
      exact fun vs μ1 H1 x1 S1 r1 => ⟨by rw [r1.length, hkw.len δ W ds W1 er, hlk], μ1, W1, ds, S1, r1, Pst.shift x1 q'⟩
    | ex c fs W1 => rw [er] at q'; exact q'
    | bad => rw [er] at q'; exact q'
  refine PySem.W.callWith_KW0 (h₀ := X.base) I.ok.mod.kin Mk.kp hall ?_ hpl
  refine thn (hkw.pk.run pos pins s σ H _ I hpa) fun ws s2 ⟨zs, H2, I2, rz, hz, μ1, W1, ds, S1, rs, q⟩ => ⟨I2.kIn, ?_⟩
  rw [hks]
  exact FnK.makes (us := []) (vs := []) Mk F hr tk I2 .nil rz rfl hz fun a dx hna hnd ne => made_use (us := zs) S1 rs q hna hnd ne
end
end ML
set_option Elab.async false
set_option linter.all false
set_option maxRecDepth 100000
set_option maxHeartbeats 2000000
namespace ML
open PySem PySem.Spec PyProof.Rows L2
/-! ### a def called from within a built-in -/
section
variable {X : Cx} {Wx : WX} {k n : Nat} {f : Addr} {m : MF} {pins : List (Addr × Obj)} {σ : L2.St} {H : Hp} {s : Shared} {Q : VK} {E : XK} {vs : List V} {us : List Value} {A : Around}
theorem FnM.codeAt (F : FnM X.prog X.w X.K X.mg X.base k f n m) (hr : Room k A) (e0 : Env0 X.prog X.w X.K X.mg X.base A X.stack s H) (I : Inv X pins σ H s) (r : Vals vs us) (l : vs.length = n) (h : spM X.K m vs H Q E) :
    codeAny (model X.prog X.w) A (.call (.ref f) ⟨us, []⟩) (fun r s' => match r with | .ok (.ret u) => EP X pins σ Q u s' | .ok _ => False | .error e => L2.CX X.prog X.w X.stack H s E e s') s := by
  obtain ⟨fd, ps, ds, dvs, sp, G, hb, hd, imp⟩ := F.ex
  have h2 := imp vs H Q E ⟨l, h⟩
  have r2 : Vals (vs ++ dvs) (us ++ ds) := r.append hd
  have hl : (us ++ ds).length = ps.length := by rw [← r2.length]; exact G.len _ _ _ _ h2
  refine codeAny_mono (G.run A X.stack s H ⟨us, []⟩ (us ++ ds) (vs ++ dvs) Q E hr e0 (hb s us I.kIn hl) r2 h2) fun r s' hq => ?_
  cases r with
  | error e => exact hq
  | ok fl =>
    cases fl with
    | ret u => exact I.after hq
    | next => exact False.elim hq
    | brk => exact False.elim hq
    | cont => exact False.elim hq
theorem noCX {e : Value} {s' : Shared} {outer : List PySem.Env} {P : Program} {w : World} (h : L2.CX P w outer H s (fun _ _ _ => False) e s') : False := by
  obtain ⟨_, _, _, _, _, _, _, _, _, _, _, _, z⟩ := h
  exact z
end
/-! ### len(o) by o's own __len__ -/
structure LnC (P : Program) (w : World) (K : PySem.W.Frag) (mg : Str → Option Value) (base : Heap) (k : Nat) (c : Cl) (m : MF) : Prop where
  at_ : ∃ f, PySem.W.findIn K (.ref (cAd K c)) "__len__" = some (some (.ref f)) ∧ PySem.W.isFn K (.ref f) = true ∧ FnM P w K mg base k f 1 m
def lenIns (r : Res D) : Res D := match r with
  | .ok (.int n) W => if 0 ≤ n ∧ n < 2 ^ 63 then .ok (.int n) W else .bad
  | _ => .bad
def lenD3 (g : Cl → Option MF) : MF := fun ds W => match ds with
  | [d] => match insOf W d with
    | some (c, _) => match g c with
      | some m => lenIns (m [d] W)
      | none => .bad
    | none => lenD2 [d] W
  | _ => .bad
theorem calm_lenIns (r : Res D) : Calm (lenIns r) := by
  unfold lenIns
  split
  · exact .ite trivial trivial
  · trivial
theorem calm_len3 (g : Cl → Option MF) : CalmF (lenD3 g) := fun ds W => by
  unfold lenD3
  split
  · split
    · split
      · exact calm_lenIns _
      · trivial
    · exact calm_len2 _ _
  · trivial
section
variable {X : Cx} {Wx : WX} {k : Nat} {g : Cl → Option MF}
theorem bi_len3 (hr : Room (k + 1) X.A) (hg : ∀ c m, g c = some m → LnC X.prog X.w X.K X.mg X.base k c m) : BI X (.builtin "len") (lenD3 g) := fun pins s σ H vs us Q I r h => by
  obtain ⟨μ, W, ds, S, rs, p⟩ := h
  unfold lenD3 at p
  split at p
  · split at p
    · rename_i d _ c fs hi
      split at p
      · rename_i m hm
        obtain ⟨v, rfl, r1⟩ := reps1 rs
        obtain ⟨a, dx, ws, rfl, ha, hl, rws⟩ := ins_at S r1 hi
        obtain rfl := Vals.ref1 r
        obtain ⟨f, h1, h2, F⟩ := (hg c m hm).at_
        obtain ⟨mA, O, _, _, _, _⟩ := ins_get I.hok ha
        obtain ⟨od, J, _⟩ := O.look
        obtain ⟨mm, Fr⟩ := I.fr
        refine PySem.W.len_K Fr I.ok.mod.kin J h1 h2 (wpAny_call (codeAny_mono (F.codeAt (A := X.A.in1) (vs := [.ref a]) (us := [.ref a]) (Q := fun v H' => ∃ n : Int, v = .int n ∧ (0 ≤ n ∧ n < 2 ^ 63) ∧ Q (.int n) H') (E := fun _ _ _ => False) hr.in1 I.env0.in1 I (.cons rfl .nil) rfl ?_) fun r s' hq => ?_))
        · refine ⟨μ, W, [d], S, rs, ?_⟩
          unfold lenIns at p
          cases em : m [d] W with
          | ok x W1 =>
            rw [em] at p
            cases x with
            | int n =>
              obtain ⟨hc, p⟩ := Pst.ite p
              intro v μ1 H1 x1 S1 r1
              exact ⟨n, r1, hc, p (.int n) μ1 H1 x1 S1 rfl⟩
            | _ => exact p.elim
          | ex _ _ _ => rw [em] at p; exact p.elim
          | bad => rw [em] at p; exact p.elim
        · cases r with
          | error e => exact (noCX hq).elim
          | ok fl =>
            cases fl with
            | ret u =>
              obtain ⟨v, H', I', rv, n, rfl, hc, q⟩ := hq
              obtain ⟨t, rfl⟩ := rv
              exact ⟨hc, .int n, H', I'.tok _, ⟨_, rfl⟩, q⟩
            | next => exact False.elim hq
            | brk => exact False.elim hq
            | cont => exact False.elim hq
      · exact p.elim
    · exact bi_len2 pins s σ H vs us Q I r ⟨μ, W, _, S, rs, p⟩
  · exact p.elim
end
/-! ### o.f = e, f a property with a setter -/
structure StC (P : Program) (w : World) (K : PySem.W.Frag) (mg : Str → Option Value) (base : Heap) (k : Nat) (c : Cl) (name : Str) (m : MF) : Prop where
  cl : Cls K (cAd K c)
  at_ : ∃ p f, PySem.W.takerIn K (cAd K c) name = some (some (.ref p)) ∧ PySem.W.typeIn K (.ref p) = some (.type "property") ∧ (∃ a rest, PySem.W.recIn K p "property" = some (a :: .ref f :: rest)) ∧ FnM P w K mg base k f 2 m
def sPropS (g : Cl → Option MF) (mo me : ME) : MS := fun δ W => (me δ W).toS δ fun y W1 => (mo δ W1).toS δ fun o W2 => match insOf W2 o with
  | some (c, _) => match g c with
    | some m => (m [o, y] W2).toS δ fun _ W3 => .nx δ W3
    | none => .bad
  | none => .bad
section
variable {X : Cx} {Wx : WX} {o e : Expr} {name : Str} {pos pos' : Pos} {mo me : ME} {k : Nat} {g : Cl → Option MF}
theorem pms_prop (hg : ∀ c m, g c = some m → StC X.prog X.w X.K X.mg X.base k c name m) (hr : Room (k + 2) X.A) (tk : Takes X Wx) (ho : PM X Wx o mo) (he : PM X Wx e me) (hs : swapsWith e (some (.Attribute o name pos')) pos.line X.env = pure false := by rfl) :
    PMS X Wx (.Assign [.Attribute o name pos'] e pos) (sPropS g mo me) := by
  refine ⟨fun pins s σ H Dn I h => ?_⟩
  have h2 : tM X.K (RD X.K) me Wx σ H fun y H1 => tM X.K (RD X.K) mo Wx σ H1 fun x H2 => ∃ a dx c vs m, x = .ref a ∧ H2 a = some (.ins (cAd X.K c) dx (c.fl.zip vs)) ∧ g c = some m ∧ spM X.K m [x, y] H2 (fun _ H3 => Dn.nx σ H3) (fun c d H' => Wx c d σ H') :=
    tS.bind h fun μ δ y H1 μ1 W1 dy x1 S1 E1 ry p => by
      refine ⟨μ1, W1, δ, S1, E1, Pst.imp (PstS.toM (R := RD X.K) E1 p) (fun ov μ' H' _ ⟨μ2, W2, d, x2, S2, E2, rd, q⟩ => ?_) fun _ _ _ z => z⟩
      have q : PstS X.K μ2 H' Dn Wx (match insOf W2 d with
        | some (c, _) => match g c with
          | some m => (m [d, dy] W2).toS δ fun _ W3 => .nx δ W3
          | none => .bad
        | none => .bad) := q
      split at q
      · rename_i c fs hi
        split at q
        · rename_i m hm
          obtain ⟨a, dx, vs, rfl, ha', hl, rs⟩ := ins_at S2 rd hi
          refine ⟨a, dx, c, vs, m, rfl, ha', hm, μ2, W2, [d, dy], S2, ⟨_, _, rfl, rd, _, _, rfl, Rep.ext x2 ry, rfl⟩, ?_⟩
          exact Pst.imp (PstS.toM (R := RD X.K) E2 q) (fun u μ3 H3 _ ⟨μ4, W4, _, x4, S4, E4, _, q4⟩ => PstS.goes S4 E4 q4) fun _ _ _ z => z
        · exact q.elim
      · exact q.elim
  refine plainObj_wpAny_Assign_Attribute (thn (he.run pins s σ H _ I h2) fun u s1 ⟨y, H1, I1, ry, q⟩ => thn (ho.run pins s1 σ H1 _ I1 q) fun ov s2 ⟨x, H2, I2, rx, a, dx, c, vs, m, ex, ea, hm, q2⟩ => ?_) hs
  subst ex
  obtain rfl : ov = Value.ref a := rx
  have M := hg c m hm
  obtain ⟨p, f, h1, h2, ⟨a0, rest, h3⟩, F⟩ := M.at_
  obtain ⟨mA, O, _, _, _, _⟩ := ins_get I2.hok ea
  obtain ⟨od, J, _⟩ := O.look
  have I3 := I2.tok (s2.toks + 1)
  refine PySem.W.set_plain I2.kIn J M.cl.sa (PySem.W.osa_descr (s := { s2 with toks := s2.toks + 1 }) PySem.W.KF.slot_pset I2.kIn J M.cl.po h1 h2 (PySem.W.prop_set (s := { s2 with toks := s2.toks + 1 }) I2.kIn h3 ?_))
  refine codeAny_mono (F.codeAt (vs := [.ref a, y]) (us := [.ref a, u]) hr.in1.in1 I3.env0.in1.in1 I3 (.cons rfl (.cons ry .nil)) rfl q2) fun r s' hq => ?_
  cases r with
  | error er => exact passAt tk σ pins H2 _ er s' I3 hq
  | ok fl =>
    cases fl with
    | ret w =>
      obtain ⟨v, H', I', rv, q⟩ := hq
      exact ⟨σ, H', I', q⟩
    | next => exact False.elim hq
    | brk => exact False.elim hq
    | cont => exact False.elim hq
end
/-! ### o.m(k = v, ..) -/
structure MtK (P : Program) (w : World) (K : PySem.W.Frag) (mg : Str → Option Value) (base : Heap) (k : Nat) (c : Cl) (name : Str) (n : Nat) (ks : List Str) (m : MF) : Prop where
  cl : Cls K (cAd K c)
  nf : name ∉ c.fl
  mt : ∃ f, Meth K (cAd K c) name f ∧ FnK P w K mg base k f (n + 1) ks m
def mMethK (g : Cl → Option MF) (mo : ME) (rk : MA) : ME := fun δ W => (mo δ W).bind fun o W1 => match insOf W1 o with
  | some (c, _) => match g c with
    | some m => (rk δ W1).bind fun ds W2 => m (o :: ds) W2
    | none => .bad
  | none => .bad
section
variable {X : Cx} {Wx : WX} {o e : Expr} {kws : List Keyword} {name : Str} {apos pos : Pos} {mo : ME} {rk : MA} {k : Nat} {g : Cl → Option MF} {ks : List Str}
theorem pm_methK0 {pl : Sem Bool} (hg : ∀ c m, g c = some m → MtK X.prog X.w X.K X.mg X.base k c name 0 ks m) (hr : Room k X.A) (tk : Takes X Wx) (ho : PM X Wx o mo) (hkw : PMK X Wx kws rk)
    (hall : (backToKw pos (keywordEach kws X.env)).all (·.1.isSome) = true := by rfl) (hks : (backToKw pos (keywordEach kws X.env)).filterMap (·.1) = ks := by rfl) (hlk : kws.length = ks.length := by rfl)
    (hpl : ((backTo pos (starEach [] X.env)).any (·.1) || (backToKw pos (keywordEach kws X.env)).any (·.1.isNone)) = false := by rfl)
    (ht : eval (.Call (.Attribute o name apos) [] kws pos) X.env = (do
      let ov ← eval o X.env
      standAt apos.atName
      let (f, first) ← holding [ov] (getMethod ov name pl)
      callWith pos f first (backTo pos (starEach [] X.env)) (backToKw pos (keywordEach kws X.env))) := by rfl) :
    PM X Wx (.Call (.Attribute o name apos) [] kws pos) (mMethK g mo rk) := by
  refine ⟨fun pins s σ H Q I h => ?_⟩
  have h2 : tM X.K (RD X.K) mo Wx σ H fun x H1 => ∃ a dx c vs m, x = .ref a ∧ H1 a = some (.ins (cAd X.K c) dx (c.fl.zip vs)) ∧ g c = some m ∧ tM X.K (RL X.K) rk Wx σ H1 fun us H2 => us.length = ks.length ∧ spM X.K m (x :: us) H2 Q (fun c d H' => Wx c d σ H') :=
    tM.bind h fun μ δ x H1 μ1 W1 d x1 S1 E1 r1 p => by
      have p : Pst X.K (RD X.K) μ1 H1 Q _ (match insOf W1 d with
        | some (c, _) => match g c with
          | some m => (rk δ W1).bind fun ds W2 => m (d :: ds) W2
          | none => .bad
        | none => .bad) := p
      split at p
      · rename_i c fs hi
        split at p
        · rename_i m hm
          obtain ⟨a, dx, vs, rfl, ha', hl, rs⟩ := ins_at S1 r1 hi
          refine ⟨a, dx, c, vs, m, rfl, ha', hm, μ1, W1, δ, S1, E1, ?_⟩
          cases er : rk δ W1 with
          | ok ds W2 =>
            rw [er] at p
            exact fun us μ2 H2 x2 S2 r2 => ⟨by rw [r2.length, hkw.len δ W1 ds W2 er, hlk], μ2, W2, d :: ds, S2, ⟨_, us, rfl, Rep.ext x2 r1, r2⟩, Pst.shift x2 p⟩
          | ex c fs W2 => rw [er] at p; exact p
          | bad => rw [er] at p; exact p
        · exact p.elim
      · exact p.elim
  refine PySem.W.methodCall_KW (pl := pl) (thn (ho.run pins s σ H _ I h2) fun u s1 ⟨x, H1, I1, rx, a, dx, c, vs, m, ex, ea, hm, q⟩ => ?_) ht
  subst ex
  obtain rfl : u = Value.ref a := rx
  have M := hg c m hm
  obtain ⟨f, mt, F⟩ := M.mt
  refine getmeth_ok I1 ea M.cl mt (zip_none M.nf) ?_
  refine PySem.W.callWith_KW0 (first := [.ref a]) (h₀ := X.base) I.ok.mod.kin mt.kp hall ?_ hpl
  refine thn (hkw.pk.run pos pins s1 σ H1 _ I1 q) fun ws s2 ⟨zs, H2, I2, rz, hz, q2⟩ => ⟨I2.kIn, ?_⟩
  rw [hks]
  exact F.calls hr tk I2 (vs := [.ref a]) (us := [.ref a]) (.cons rfl .nil) rz rfl hz q2
end
end ML
set_option Elab.async false
set_option linter.all false
set_option maxRecDepth 100000
set_option maxHeartbeats 2000000
namespace ML
open PySem PySem.Spec PyProof.Rows L2
/-! ### match -/
/-- none: not served; some none: no match; else what is bound -/
abbrev MPt := D → Wo → Option (Option (List (Nat × D)))
def setAll (δ : Env) : List (Nat × D) → Env
  | [] => δ
  | (i, d) :: r => setAll (δ.set i (some d)) r
def BindsR (X : Cx) (μ : Lo) (H : Hp) : List (Nat × D) → List (Str × Value) → Prop
  | [], bs => bs = []
  | (i, d) :: r, bs => ∃ n u bs' v, bs = (n, u) :: bs' ∧ X.N[i]? = some n ∧ Loc X.env.scope n ∧ (X.fn n = true ∨ X.env.scope.names.lookup n = some .local) ∧ RelV v u ∧ Rep X.K μ H v d ∧ BindsR X μ H r bs'
def MatR (X : Cx) (μ : Lo) (H : Hp) : Option (List (Nat × D)) → Option (List (Str × Value)) → Prop
  | none, q => q = none
  | some l, q => ∃ bs, q = some bs ∧ BindsR X μ H l bs
def PPat (X : Cx) (p : Pattern) (mp : MPt) : Prop := ∀ (pins : List (Addr × Obj)) (s : Shared) (σ : L2.St) (H : Hp) (v : V) (u : Value) (μ : Lo) (W : Wo) (d : D) (r : Option (List (Nat × D))), Inv X pins σ H s → RelV v u → RepS X.K μ H W → Rep X.K μ H v d → mp d W = some r →
  wpAny (model X.prog X.w) X.A (matchPattern p X.env u) (fun q s' => Inv X pins σ H s' ∧ MatR X μ H r q) X.xe s
abbrev MPts := List D → Wo → Option (Option (List (Nat × D)))
def PPats (X : Cx) (p : List Pattern) (mp : MPts) : Prop := ∀ (pins : List (Addr × Obj)) (s : Shared) (σ : L2.St) (H : Hp) (vs : List V) (us : List Value) (μ : Lo) (W : Wo) (ds : List D) (r : Option (List (Nat × D))), Inv X pins σ H s → Vals vs us → RepS X.K μ H W → Reps X.K μ H vs ds → mp ds W = some r →
  wpAny (model X.prog X.w) X.A (matchEach p X.env us) (fun q s' => Inv X pins σ H s' ∧ MatR X μ H r q) X.xe s
section
variable {X : Cx} {μ : Lo} {H : Hp} {W : Wo}
theorem BindsR.append : ∀ {l l' : List (Nat × D)} {bs bs' : List (Str × Value)}, BindsR X μ H l bs → BindsR X μ H l' bs' → BindsR X μ H (l ++ l') (bs ++ bs')
  | [], _, _, _, h, h' => by
    have e : _ = ([] : List (Str × Value)) := h
    rw [e]
    exact h'
  | (i, d) :: l, _, _, _, ⟨n, u, bs', v, e, h1, h2, h3, h4, h5, h6⟩, h' => ⟨n, u, bs' ++ _, v, by rw [e]; rfl, h1, h2, h3, h4, h5, BindsR.append h6 h'⟩
theorem binds_store {pins : List (Addr × Obj)} {Q : Unit → Shared → Prop} (hN : X.N.Nodup) : ∀ {l : List (Nat × D)} {bs : List (Str × Value)} {σ : L2.St} {δ : Env} {s : Shared}, BindsR X μ H l bs → RepE X.K μ H σ δ → Inv X pins σ H s →
    (∀ σ' s', Inv X pins σ' H s' → RepE X.K μ H σ' (setAll δ l) → Q () s') → wpAny (model X.prog X.w) X.A (assignInOrder (bs.map fun (n, _) => bindName X.env n) (bs.map (·.2))) Q X.xe s
  | [], _, σ, _, s, h, E, I, k => by
    have e : _ = ([] : List (Str × Value)) := h
    rw [e]
    exact assignInOrder_nil (k σ s I E)
  | (i, d) :: l, _, σ, _, s, ⟨n, u, bs', v, e, h1, h2, h3, h4, h5, h6⟩, E, I, k => by
    rw [e]
    exact assignInOrder_cons (wpAny_bindName (store_ok I hN h1 h2 h4 (fun s2 I2 => binds_store hN h6 (E.set h5 i) I2 k) h3))
variable {pos ppos : Pos} {x : Str} {ps : List Pattern} {p : Pattern} {mp : MPt} {mps : MPts}
def pCap (i : Nat) : MPt := fun d _ => some (some [(i, d)])
theorem pp_cap (i : Nat) (hi : X.N[i]? = some x := by rfl) (hx : Loc X.env.scope x := by first | exact Or.inl rfl | exact Or.inr rfl) (hf : X.fn x = true ∨ X.env.scope.names.lookup x = some .local := by first | exact .inl rfl | exact .inr rfl) : PPat X (.MatchAs none (some x) pos) (pCap i) :=
  fun pins s σ H v u μ W d r I rv S rd e => by
    cases e
    exact wpAny_matchPattern_Capture ⟨I, _, rfl, x, u, [], v, rfl, hi, hx, hf, rv, rd, rfl⟩
def pWild : MPt := fun _ _ => some (some [])
theorem pp_wild : PPat X (.MatchAs none none pos) pWild := fun pins s σ H v u μ W d r I rv S rd e => by
  cases e
  exact wpAny_matchPattern_Capture ⟨I, _, rfl, rfl⟩
/-- a text -/
def pStr (z : Str) : MPt := fun d W => match pdW W d with
  | some p => if SeqAt.shaped p = true then some (if PyData.eqv p (.str z) then some [] else none) else none
  | none => none
theorem pp_str {z : Str} {j} (hu : X.A.units + 64 < cLine) (hz : SeqAt.shaped (PyData.str z) = true := by decide +kernel) : PPat X (.MatchValue (.Constant (.str z) j ppos) pos) (pStr z) := fun pins s σ H v u μ W d r I rv S rd e => by
  unfold pStr at e
  split at e
  · rename_i p hp
    split at e
    · rename_i hs
      refine wpAny_matchPattern_Value (wpAny_mono (Q := fun c s' => EP X pins σ (fun y H' => y = .str z ∧ H' = H) c s') (pe_str.run pins s σ H _ I ⟨rfl, rfl⟩) (fun c s1 ⟨y, H1, I1, ry, ey, eH⟩ => ?_) fun _ _ z => z)
      subst ey eH
      refine wpAny_mono (Q := fun c s' => EP X pins σ (fun y H' => y = .bl (PyData.eqv p (.str z)) ∧ H' = H1) c s') (op_eqD hu pins s1 σ H1 v (.str z) u c _ I1 rv ry ⟨p, .str z, pdW_rep S rd hp, .str z, hs, hz, rfl, rfl⟩) (fun w s2 ⟨y, H2, I2, rw_, ey, eH⟩ => ?_) fun _ _ z => z
      subst ey eH
      obtain rfl : w = Value.bool _ := rw_
      refine wpAny_truthy_bool ?_
      have e := Option.some.inj e
      cases hb : PyData.eqv p (.str z) with
      | true =>
        rw [hb] at e
        rw [if_pos rfl] at e ⊢
        subst e
        exact ⟨I2, _, rfl, rfl⟩
      | false =>
        rw [hb] at e
        rw [if_neg Bool.false_ne_true] at e ⊢
        subst e
        exact ⟨I2, rfl⟩
    · cases e
  · cases e
def pNil : MPts := fun _ _ => some (some [])
def pCons (p : MPt) (q : MPts) : MPts := fun ds W => match ds with
  | d :: r => match p d W with
    | some (some l) => match q r W with
      | some (some l') => some (some (l ++ l'))
      | some none => some none
      | none => none
    | some none => some none
    | none => none
  | [] => none
theorem pps_nil : PPats X [] pNil := fun pins s σ H vs us μ W ds r I rv S rd e => by
  cases e
  exact wpAny_matchEach_nil ⟨I, _, rfl, rfl⟩
theorem pps_cons (h1 : PPat X p mp) (h2 : PPats X ps mps) (hs : p.isStar = false := by rfl) : PPats X (p :: ps) (pCons mp mps) := fun pins s σ H vs us μ W ds r I rv S rd e => by
  unfold pCons at e
  split at e
  · rename_i d dr
    obtain ⟨v, vr, rfl, r1, r2⟩ := rd
    cases rv with
    | cons rv rvs =>
      split at e
      · rename_i l hl
        refine wpAny_matchEach_cons (wpAny_mono (h1 pins s σ H v _ μ W d _ I rv S r1 hl) (fun q s1 ⟨I1, bs, eq, hb⟩ => ?_) fun _ _ z => z) hs
        subst eq
        split at e
        · rename_i l' hl'
          cases e
          refine wpAny_mono (h2 pins s1 σ H vr _ μ W dr _ I1 rvs S r2 hl') (fun q s2 ⟨I2, bs', eq, hb'⟩ => ?_) fun _ _ z => z
          subst eq
          exact ⟨I2, _, rfl, hb.append hb'⟩
        · rename_i hl'
          cases e
          refine wpAny_mono (h2 pins s1 σ H vr _ μ W dr _ I1 rvs S r2 hl') (fun q s2 ⟨I2, eq⟩ => ?_) fun _ _ z => z
          subst eq
          exact ⟨I2, rfl⟩
        · cases e
      · rename_i hl
        cases e
        refine wpAny_matchEach_cons (wpAny_mono (h1 pins s σ H v _ μ W d _ I rv S r1 hl) (fun q s1 ⟨I1, eq⟩ => ?_) fun _ _ z => z) hs
        subst eq
        exact ⟨I1, rfl⟩
      · cases e
  · cases e
/-- a tuple of that many -/
def pSeq (n : Nat) (q : MPts) : MPt := fun d W => match d with
  | .tup ds => if ds.length = n then q ds W else some none
  | _ => none
theorem pp_seq (hc : X.calm = true) (h : PPats X ps mps) (hstar : ps.findIdx? (·.isStar) = none := by rfl) (hwild : (ps.all fun p => p.isWildcard || (p.isStar && p.names.isEmpty)) = false := by rfl) : PPat X (.MatchSequence ps pos) (pSeq ps.length mps) := fun pins s σ H v u μ W d r I rv S rd e => by
  unfold pSeq at e
  split at e
  · rename_i ds
    obtain ⟨a, vs, rfl, ha, rs⟩ := rd
    obtain rfl : u = Value.ref a := rv
    obtain ⟨its, rvs, ht, hz⟩ := I.tuple ha
    have hl : its.toArray.size = ds.length := by rw [List.size_toArray, ← rvs.length, rs.length]
    have hfit : (its.toArray.size : Int) < 2 ^ 63 := by
      rw [List.size_toArray, ← rvs.length]
      have : sizeLine = 16777216 := rfl
      omega
    split at e
    · rename_i hn
      refine matchSeq_tuple_hit ht hfit (hl.trans hn) ?_ hstar hwild
      rw [← hn, ← hl]
      refine unpackItems_tuple (I.ok.hd hc) (s := { s with toks := s.toks + 1 + 1 }) ht fun h' hx => ?_
      have I1 : Inv X pins σ H { s with heap := h', toks := s.toks + 1 + 1 } := I.kept (t' := s.toks + 1 + 1) fun b o e => hx b o (Nat.ne_of_lt (Heap.lt_size e)) e
      exact h pins _ σ H vs _ μ W ds r I1 (by simpa using rvs) S rs e
    · rename_i hn
      cases e
      exact matchSeq_tuple_miss ht hfit (fun z => hn (hl.symm.trans z)) ⟨I.tok _, rfl⟩ hstar hwild
  · cases e
end
/-! ### its cases -/
inductive PCases (X : Cx) (Wx : WX) : List MatchCase → List (MPt × MS) → Prop
  | nil : PCases X Wx [] []
  | cons {p : Pattern} {body : List Stmt} {cs : List MatchCase} {mp : MPt} {m : MS} {ms : List (MPt × MS)} (hp : PPat X p mp) (hb : PMSs X Wx body m) (hr : PCases X Wx cs ms) : PCases X Wx (⟨p, none, body⟩ :: cs) ((mp, m) :: ms)
def matchL : List (MPt × MS) → D → MS
  | [], _ => sNx
  | (p, b) :: r, d => fun δ W => match p d W with
    | some (some l) => b (setAll δ l) W
    | some none => matchL r d δ W
    | none => .bad
def sMatch (me : ME) (cs : List (MPt × MS)) : MS := fun δ W => (me δ W).toS δ fun d W1 => matchL cs d δ W1
section
variable {X : Cx} {Wx : WX} {e : Expr} {pos : Pos} {me : ME} {cs : List MatchCase} {ms : List (MPt × MS)}
theorem match_run {pins : List (Addr × Obj)} {σ : L2.St} {H : Hp} {v : V} {u : Value} {μ : Lo} {W : Wo} {d : D} {δ : Env} {Dn : Ends} (hN : X.N.Nodup) (rv : RelV v u) (S : RepS X.K μ H W) (E : RepE X.K μ H σ δ) (rd : Rep X.K μ H v d) (c : PCases X Wx cs ms) :
    ∀ (s : Shared) (b : Bool), Inv X pins σ H s → PstS X.K μ H Dn Wx (matchL ms d δ W) → wpAny (model X.prog X.w) X.A (matchCases cs X.env u b) (SP X pins Dn) X.xe s := by
  induction c with
  | nil => exact fun s b I p => wpAny_matchCases_nil ⟨σ, H, I, PstS.goes S E p⟩
  | @cons pt body cs mp m ms hp hb hr ih =>
    intro s b I p
    have p : PstS X.K μ H Dn Wx (match mp d W with
      | some (some l) => m (setAll δ l) W
      | some none => matchL ms d δ W
      | none => .bad) := p
    split at p
    · rename_i l hl
      refine wpAny_matchCases_cons (wpAny_mono (hp pins s σ H v u μ W d _ I rv S rd hl) (fun q s1 ⟨I1, bs, eq, hbs⟩ => ?_) fun _ _ z => z)
      subst eq
      exact binds_store hN hbs E I1 fun σ' s2 I2 E2 => hb.run pins s2 σ' H Dn I2 ⟨μ, W, _, S, E2, p⟩
    · rename_i hl
      refine wpAny_matchCases_cons (wpAny_mono (hp pins s σ H v u μ W d _ I rv S rd hl) (fun q s1 ⟨I1, eq⟩ => ?_) fun _ _ z => z)
      subst eq
      exact ih s1 false I1 p
    · exact p.elim
theorem pms_match (hN : X.N.Nodup) (he : PM X Wx e me) (hc : PCases X Wx cs ms) : PMS X Wx (.Match e cs pos) (sMatch me ms) := by
  refine ⟨fun pins s σ H Dn I h => ?_⟩
  have h2 : tM X.K (RD X.K) me Wx σ H fun x H1 => ∃ μ W δ d, RepS X.K μ H1 W ∧ RepE X.K μ H1 σ δ ∧ Rep X.K μ H1 x d ∧ PstS X.K μ H1 Dn Wx (matchL ms d δ W) := tS.bind h fun μ δ x H1 μ1 W1 d x1 S1 E1 r1 p => ⟨μ1, W1, δ, d, S1, E1, r1, p⟩
  exact wpAny_Match (thn (he.run pins s σ H _ I h2) fun u s1 ⟨x, H1, I1, rx, μ, W, δ, d, S, E, rd, p⟩ => match_run hN rx S E rd hc s1 true I1 p)
end
end ML
set_option Elab.async false
set_option linter.all false
set_option maxRecDepth 100000
set_option maxHeartbeats 2000000
namespace ML
open PySem PySem.Spec PyProof.Rows L2
/-! ### del xs[-n:] -/
theorem filterMap_from {α : Type} (a N : Nat) (f : α × Nat → Option α) (h : ∀ x k, k < N → f (x, k) = if a ≤ k then none else some x) : ∀ (l : List α) (j : Nat), j + l.length ≤ N → (l.zipIdx j).filterMap f = l.take (a - j)
  | [], j, _ => by simp
  | x :: l, j, hN => by
    rw [List.length_cons] at hN
    rw [List.zipIdx_cons, List.filterMap_cons, h x j (by omega)]
    by_cases hj : a ≤ j
    · rw [if_pos hj, show a - j = 0 by omega, List.take_zero]
      show List.filterMap f (l.zipIdx (j + 1)) = []
      rw [filterMap_from a N f h l (j + 1) (by omega), show a - (j + 1) = 0 by omega, List.take_zero]
    · rw [if_neg hj]
      show x :: List.filterMap f (l.zipIdx (j + 1)) = _
      rw [filterMap_from a N f h l (j + 1) (by omega), show a - j = (a - (j + 1)) + 1 by omega, List.take_succ_cons]
theorem sel_tail {α : Type} {s t : Int} {k : Nat} {x : α} {b : Bool} (h : b = (decide (s ≤ (k : Int)) && decide ((k : Int) < t) && ((k : Int) - s) % 1 == 0)) (h0 : 0 ≤ s) (hk : (k : Int) < t) : (if b = true then (none : Option α) else some x) = if s.toNat ≤ k then none else some x := by
  have e : b = decide (s ≤ (k : Int)) := by
    rw [h, decide_eq_true hk, Bool.and_true, show ((k : Int) - s) % 1 = 0 by omega]
    simp
  rw [e]
  by_cases q : s ≤ (k : Int)
  · rw [if_pos (decide_eq_true q), if_pos (by omega)]
  · rw [if_neg (by simpa using q), if_neg (by omega)]
theorem bounds_tail {k : Int} {n : Nat} (h0 : k < 0) (h1 : 0 ≤ (n : Int) + k) : sliceBounds (some k) none none n = ((n : Int) + k, (n : Int), 1) := by
  simp only [sliceBounds, Option.getD_none]
  simp only [h0, if_true, show (1 : Int) > 0 by decide]
  congr 1
  · omega
section
variable {prog : Program} {w : World} {A : Around} {E : Value → Shared → Prop} {s : Shared}
theorem delItem_tail {l sl : Addr} {items : Array Value} {n : Nat} {vl : Value} {k : Int} {Q : Unit → Shared → Prop} (e : s.heap.get? l = some { cls := .type "list", data := .seq items n })
    (hs : s.heap.IsSliceOf sl vl .none .none) (pl : IsPart vl (some k)) (h0 : k < 0) (h1 : 0 ≤ (items.size : Int) + k) (hsz : items.size ≤ sizeLine)
    (h : ∀ f : Array Value → Array Value, f items = (items.toList.take ((items.size : Int) + k).toNat).toArray → Q () { s with heap := s.heap.update l (Obj.mapSeq f) }) :
    wpAny (model prog w) A (delItem (.ref l) (.ref sl)) Q E s := by
  have hl : s.heap.IsList l items := PySem.IsL.isList e
  obtain ⟨os, hos, hcs, hds⟩ := id hs
  have hTs : s.TypeIs (.ref sl) "slice" := ⟨os, hos, hcs⟩
  have hstep : ¬ ((rawPart none == rawInt 0) = true) := Bool.false_ne_true
  refine wpAny_delItem_slot hl.typeIs (by decide) PySem.F.slot_list_delitem (wpAny_call_entry PySem.F.slot_list_delitem hl.typeIs PySem.F.entry_list_delitem ?_ (PySem.F.args_list_delitem_2 _ _))
  show wpAny _ _ (Builtin.List.listSubscript? (.ref sl) >>= _) _ _ s
  refine wpAny_bind ?_
  unfold Builtin.List.listSubscript?
  refine wpAny_bind (wpAny_specialOf hTs slice_no_index ?_)
  simp only [Option.isNone_none, if_true]
  refine wpAny_pure ?_
  show wpAny _ _ (typeOf (.ref sl) >>= _) _ _ s
  refine wpAny_bind (wpAny_typeOf hTs ?_)
  first
    | rw [if_neg (by decide)]
    | refine PySem.W.KFB.if_not (by decide) ?_
  rw [listSliceParts_eq]
  refine wpAny_bind (wpAny_bind (wpAny_field hos hds (x := .none) rfl (wpAny_bind (wpAny_listPart .none ?_))))
  rw [if_neg hstep]
  refine wpAny_bind (wpAny_field hos hds (x := vl) rfl (wpAny_bind (wpAny_listPart pl ?_)))
  refine wpAny_bind (wpAny_field hos hds (x := .none) rfl (wpAny_bind (wpAny_listPart .none (wpAny_pure ?_))))
  show wpAny _ _ (Builtin.List.listItems (.ref l) >>= _) _ _ s
  unfold Builtin.List.listItems
  refine wpAny_bind (wpAny_bind (wpAny_seqItems e rfl (wpAny_pure ?_)))
  refine wpAny_bind (wpAny_of_eq ((sliceIndices_raw (some k) none none items.size (by simp)).trans (congrArg (pure : Int × Int × Int → Sem (Int × Int × Int)) (bounds_tail h0 h1))) ?_)
  refine wpAny_bind (wpAny_rule ?_)
  refine wpAny_bind (wpAny_updateSeq (hz := hsz) (_hz' := ?hz) e rfl ?_)
  case hz =>
    show (List.filterMap _ items.toList.zipIdx).toArray.size ≤ _
    rw [List.size_toArray]
    refine Nat.le_trans (List.length_filterMap_le _ _) ?_
    rw [List.length_zipIdx]
    show items.size ≤ _
    omega
  refine wpAny_bind (wpAny_letGo (wpAny_pure ⟨.none, rfl, h _ ?_⟩))
  show (List.filterMap _ items.toList.zipIdx).toArray = _
  congr 1
  refine (filterMap_from ((items.size : Int) + k).toNat items.size _ (fun x j hj => ?_) items.toList 0 (by show 0 + items.size ≤ _; omega)).trans (by rw [Nat.sub_zero])
  exact sel_tail (t := (items.size : Int)) (by with_unfolding_all rfl) h1 (by omega)
end
def delTail (o i : D) (W : Wo) : Option Wo := match o, i with
  | .cell j, .int k => match W[j]? with
    | some (.lst xs) => if k < 0 ∧ 0 ≤ (xs.length : Int) + k then some (W.set j (.lst (xs.take ((xs.length : Int) + k).toNat))) else none
    | _ => none
  | _, _ => none
theorem delTail_of {o i : D} {W W3 : Wo} (h : delTail o i W = some W3) : ∃ j k xs, o = .cell j ∧ i = .int k ∧ W[j]? = some (.lst xs) ∧ (k < 0 ∧ 0 ≤ (xs.length : Int) + k) ∧ W3 = W.set j (.lst (xs.take ((xs.length : Int) + k).toNat)) := by
  unfold delTail at h
  split at h
  · rename_i j k
    split at h
    · rename_i xs hW
      split at h
      · rename_i hc
        cases h
        exact ⟨j, k, xs, rfl, rfl, hW, hc, rfl⟩
      · cases h
    · cases h
  · cases h
def sDelTail (mo mi : ME) : MS := fun δ W => (mo δ W).toS δ fun o W1 => (mi δ W1).toS δ fun i W2 => match delTail o i W2 with
  | some W3 => .nx δ W3
  | none => .bad
section
variable {X : Cx} {Wx : WX} {o i : Expr} {mo mi : ME} {pos p2 tpos : Pos}
theorem pms_delTail (ho : PM X Wx o mo) (hi : PM X Wx i mi) : PMS X Wx (.Delete [.Subscript o (.Slice (some i) none none p2) tpos] pos) (sDelTail mo mi) := by
  refine ⟨fun pins s σ H Dn I h => ?_⟩
  have h2 : tM X.K (RD X.K) mo Wx σ H fun x H1 => tM X.K (RD X.K) mi Wx σ H1 fun y H2 => ∃ a vs k, x = .ref a ∧ y = .int k ∧ H2 a = some (.lst vs) ∧ k < 0 ∧ 0 ≤ (vs.length : Int) + k ∧ Dn.nx σ (upd H2 a (.lst (vs.take ((vs.length : Int) + k).toNat))) :=
    tS.bind h fun μ δ x H1 μ1 W1 d x1 S1 E1 rx p => by
      refine ⟨μ1, W1, δ, S1, E1, Pst.imp (PstS.toM (R := RD X.K) E1 p) (fun iv μ' H' _ ⟨μ2, W2, di, x2, S2, E2, ri, q⟩ => ?_) fun _ _ _ z => z⟩
      have q : PstS X.K μ2 H' Dn Wx (match delTail d di W2 with
        | some W3 => .nx δ W3
        | none => .bad) := q
      cases hp : delTail d di W2 with
      | none => rw [hp] at q; exact q.elim
      | some W3 =>
        rw [hp] at q
        obtain ⟨j, k, xs, rfl, rfl, hW, hc, rfl⟩ := delTail_of hp
        obtain ⟨a, vs, e1, hj, ha', rs⟩ := lst_cell S2 (Rep.ext x2 rx) hW
        subst e1
        have xp := Ext.put (o' := .lst (vs.take ((vs.length : Int) + k).toNat)) S2 hj (fun ps z => by rw [ha'] at z; cases z)
        refine ⟨a, vs, k, rfl, ri, ha', hc.1, by rw [rs.length]; exact hc.2, q σ μ2 _ xp (S2.put hj (fun ps z => by rw [ha'] at z; cases z) ⟨_, upd_same, ?_⟩) (E2.ext xp)⟩
        rw [← rs.length]
        exact (Reps.ext xp rs).take _
  refine wpAny_Delete (wpAny_deleteEach_cons (wpAny_delete_Subscript (thn (ho.run pins s σ H _ I h2) fun u s1 ⟨x, H1, I1, rx, q⟩ => ?_)))
  refine wpAny_Slice ?_
  rw [evalPart_some]
  refine thn (hi.run pins s1 σ H1 _ I1 q) fun iv s2 ⟨y, H2, I2, ry, a, vs, k, ex, ey, ha, h0, h1, q2⟩ => ?_
  subst ex ey
  obtain rfl : u = Value.ref a := rx
  obtain ⟨t, rfl⟩ := ry
  rw [evalPart_none]
  refine wpAny_pure (wpAny_pure ?_)
  have I3 : Inv X pins σ H2 { s2 with heap := s2.heap.push { cls := .type "slice", data := .fields #[.int k t, .none, .none] } } := I2.kept (t' := s2.toks) fun b ob q => Heap.get?_push_of_some _ q
  obtain ⟨z, its, n, r, hl, e⟩ := I3.lstM ha
  refine delItem_tail (n := n) e (Heap.IsSliceOf.new ..) (.int k t) h0 (by rw [List.size_toArray, ← hl]; exact h1) (by rw [List.size_toArray, ← hl]; exact z) fun f hf => wpAny_deleteEach_nil ⟨σ, _, ?_, q2⟩
  refine I3.lset (its' := its.take ((vs.length : Int) + k).toNat) (t' := _) ha e ?_ (r.take _) ?_
  · rw [hf, List.size_toArray, ← hl]
  · rw [List.length_take]; omega
end
end ML
set_option Elab.async false
set_option linter.all false
set_option maxRecDepth 100000
set_option maxHeartbeats 2000000
namespace ML
open PySem PySem.Spec PyProof.Rows L2
/-! ### super().m(..) as a def's first statement -/
/-- what is known of such a def: D the class around it, C the instance's class, f2 what super().m finds -/
structure SupD (P : Program) (K : PySem.W.Frag) (F : NdefX.NF) (f C D f2 : Addr) (m : Str) : Prop where
  ex : ∃ (oc : Value) (od : Option Addr) (kV doc pm : Value) (an : Option Addr) (ct : Value) (osl : Array (Option Value)), K.lookup f = some ⟨oc, od, .func (PySem.W.fnX F.name F.qual F.params F.body F.scope F.cl .none kV doc pm an (.ref F.c) ct), osl⟩
  kp : PySem.W.keepIn K (.ref f) = true
  cd : PySem.W.codeIn K (.ref F.c) F.qual = true
  fl : ∃ ccl cdd vs ccs file tf, K.lookup F.c = some ⟨ccl, cdd, .fields vs, ccs⟩ ∧ vs[2]? = some (.str file tf) ∧ ((P.main.file : Str) == file) = true
  cell : ∃ cc cl cld csl, F.cl = [(("__class__" : Str), cc)] ∧ K.lookup cc = some ⟨cl, cld, .cell (some (.ref D)), csl⟩
  dcls : ∃ cdD, PySem.W.clsIn K D = some cdD
  ccls : ∃ cdC, PySem.W.clsIn K C = some cdC
  sub : PySem.W.mroIn K C (.ref D) = some true
  opq : PySem.W.nsIn K cStatics "thirdparty.any" = some none
  at_ : PySem.W.ks_superIn K C D m = some (some (.ref f2))
  ty : PySem.W.typeIn K (.ref f2) = some (.type "function")
  fn2 : PySem.W.fnIn K f2 = true
  top : (P.main.scope.names.lookup ("super" : Str)).isSome = false
def sSup (c : Cl) (m2 : MF) (r : MA) : ML.MS := fun (δ : ML.Env) (W : Wo) => match δ[(0 : Nat)]? with
  | some (some (.cell j)) => match W[j]? with
    | some (.ins c' _) => if c' = c then (r δ W).toS δ fun ds W1 => (m2 (.cell j :: ds) W1).toS δ fun _ W2 => .nx δ W2 else .bad
    | _ => .bad
  | _ => .bad
abbrev supX (P : Program) (w : World) (K : PySem.W.Frag) (mg : Str → Option Value) (base : Heap) (N : List Str) (F : NdefX.NF) (f : Addr) (A : Around) (outer : List PySem.Env) (s : Shared) (H : Hp) (E : XK) : Cx := NdefX.ncx (L2.CX P w) P w K mg base N F f A outer s H E
section
variable {P : Program} {w : World} {K : PySem.W.Frag} {mg : Str → Option Value} {base : Heap}
theorem env_class {F : NdefX.NF} {f L cc : Addr} (h : F.cl = [(("__class__" : Str), cc)]) : NdefX.envF F f L = PySem.W.ksEnv F.qual F.scope L f (.ref F.c) cc := by
  show PySem.W.envX _ _ _ _ _ F.cl = _
  rw [h]
theorem fn_sup {N ps : List Str} {k : Nat} {F : NdefX.NF} {f D f2 : Addr} {c : Cl} {m : Str} {m2 : MF} {r : MA} {rest : MS} {p0 p1 p2 p3 p4 : Pos} {e : Expr} {es : List Expr} {bs : List Stmt} {self : Str}
    (S : SupD P K F f (cAd K c) D f2 m) (hbd : F.body = .Expr (.Call (.Attribute (.Call (.Name "super" p0) [] [] p1) m p2) (e :: es) [] p3) p4 :: bs) (hsup : mg "super" = none) (G : FnM P w K mg base k f2 ((e :: es).length + 1) m2)
    (Sc : NdefX.NScope N ps ["__class__"] F.scope) (hks : F.scope.names.lookup ("super" : Str) = some .globalImplicit) (hself : ps[0]? = some self) (hp0 : ∃ ar, (F.params.posonlyargs ++ F.params.args).head? = some ar ∧ ar.arg = self) (hat : (m == ("__class__" : Str)) = false)
    (hb : ∀ (kV doc pm : Value) (an : Option Addr) (ct : Value) (us : List Value), us.length = ps.length → bindArgs (PySem.W.fnX F.name F.qual F.params F.body F.scope F.cl .none kV doc pm an (.ref F.c) ct) ⟨us, []⟩ = pure (ps.zip us))
    (ha : ∀ (A : Around) (outer : List PySem.Env) (s : Shared) (H : Hp) (E : XK), PMA (supX P w K mg base N F f A outer s H E) (fun c d _ H' => E c d H') (e :: es) r)
    (hst : ∀ (A : Around) (outer : List PySem.Env) (s : Shared) (H : Hp) (E : XK), starEach (e :: es) (supX P w K mg base N F f A outer s H E).env = (false, eval e (supX P w K mg base N F f A outer s H E).env) :: starEach es (supX P w K mg base N F f A outer s H E).env)
    (hpl : ∀ (A : Around) (outer : List PySem.Env) (s : Shared) (H : Hp) (E : XK), (backTo p3 (starEach es (supX P w K mg base N F f A outer s H E).env)).any (·.1) = false)
    {pl : Around → List PySem.Env → Shared → Hp → XK → Sem Bool} (hev : ∀ (A : Around) (outer : List PySem.Env) (s : Shared) (H : Hp) (E : XK), eval (.Call (.Attribute (.Call (.Name "super" p0) [] [] p1) m p2) (e :: es) [] p3) (supX P w K mg base N F f A outer s H E).env = (do
      let ov ← attributeBase (.Call (.Name "super" p0) [] [] p1) m (supX P w K mg base N F f A outer s H E).env (eval (.Call (.Name "super" p0) [] [] p1) (supX P w K mg base N F f A outer s H E).env)
      standAt p2.atName
      let (fx, first) ← holding [ov] (getMethod ov m (pl A outer s H E))
      callWith p3 fx first (backTo p3 (starEach (e :: es) (supX P w K mg base N F f A outer s H E).env)) []))
    (hsw : ∀ (A : Around) (outer : List PySem.Env) (s : Shared) (H : Hp) (E : XK), swapsWith (.Call (.Attribute (.Call (.Name "super" p0) [] [] p1) m p2) (e :: es) [] p3) none p4.line (supX P w K mg base N F f A outer s H E).env = pure false)
    (hrest : ∀ (A : Around) (outer : List PySem.Env) (s : Shared) (H : Hp) (E : XK), Room k (A.deeper (NdefX.envF F f s.heap.objs.size)) → Takes (supX P w K mg base N F f A outer s H E) (fun c d _ H' => E c d H') →
      PMSs (supX P w K mg base N F f A outer s H E) (fun c d _ H' => E c d H') bs rest) : FnM P w K mg base (k + 1) f ps.length (mRun N.length ps.length (sSeq (sSup c m2 r) rest)) := by
  obtain ⟨oc, od, kV, doc, pm, an, ct, osl, lk⟩ := S.ex
  obtain ⟨cc, cl, cld, csl, hcl, lkc⟩ := S.cell
  refine ⟨S.kp, _, ps, [], [], spN K ps.length (mRun N.length ps.length (sSeq (sSup c m2 r) rest)), ⟨fun vs H Q E h => h.1, fun A outer s H args us vs Q E hr e0 hbind rv hsp => ?_⟩, .all (hb kV doc pm an ct), .nil, fun vs H Q E h => by rw [List.append_nil]; exact h⟩
  obtain ⟨hl, μ, W, ds, S1, rs, p⟩ := hsp
  have KX : K.In s.heap := e0.mod.kin.keeps fun b o e => (e0.bs b o e).1
  have lim : s.heap.NoLimit := e0.mod.nolimit.keeps fun b o e => (e0.bs b o e).1
  have hKn : ∀ b o, K.lookup b = some o → H b = none := fun b o e => (e0.bs b o (e0.mod.kin b o e)).2
  refine ks_codeAny_call_defAt (fd := PySem.W.fnX F.name F.qual F.params F.body F.scope F.cl .none kV doc pm an (.ref F.c) ct) (body := F.body) (binds := ps.zip us) hr.depth (KX _ _ lk) rfl lim (PySem.W.codeRec_of KX S.cd) rfl hbind Sc.nocell (fun ⟨y, _⟩ hy => Sc.par y (List.of_mem_zip hy).1) (fun h₁ hns kp => ?_) Sc.co Sc.gen Sc.kind
  have C : NdefX.CellsAt F.cl ["__class__"] [none] s.heap H := by
    rw [hcl]
    refine ⟨rfl, fun y c0 e => ?_, fun x y c0 h1 h2 => ?_, fun i y hi => ?_⟩
    · have e : (match y == ("__class__" : Str) with | true => some cc | false => none) = some c0 := e
      split at e
      · cases e
        exact ⟨hKn _ _ lkc, _, _, KX _ _ lkc, rfl⟩
      · cases e
    · have h1 : (match x == ("__class__" : Str) with | true => some cc | false => none) = some c0 := h1
      have h2 : (match y == ("__class__" : Str) with | true => some cc | false => none) = some c0 := h2
      split at h1
      · rename_i q1
        split at h2
        · rename_i q2
          exact (beq_iff_eq.mp q1).trans (beq_iff_eq.mp q2).symm
        · cases h2
      · cases h1
    · match i, hi with
      | 0, hi =>
        cases hi
        exact ⟨cc, rfl, fun v z => nomatch z⟩
      | _ + 1, hi => cases hi
  have I : Inv (supX P w K mg base N F f A outer s H E) [] (NdefX.startF N vs [none]) H { s with heap := h₁, toks := s.toks + (ps.zip us).length } := NdefX.inv_startN Sc hr.hd e0 hl rv C hns kp
  have hX : (supX P w K mg base N F f A outer s H E).A = A.deeper (NdefX.envF F f s.heap.objs.size) := rfl
  have tk : Takes (supX P w K mg base N F f A outer s H E) (fun c d _ H' => E c d H') := takes_of rfl rfl rfl rfl
  have hNl : ps.length + 1 ≤ N.length := by
    have q := congrArg List.length Sc.pre
    rw [List.length_take, List.length_append] at q
    have q : min (ps.length + 1) N.length = ps.length + 1 := q
    omega
  have hst0 : NdefX.startF N vs [none] = vs.map some ++ List.replicate (N.length - ps.length) none := by
    unfold NdefX.startF
    congr 1
    rw [show N.length - ps.length = (N.length - vs.length - 1) + 1 by omega, List.replicate_succ]
    rfl
  have hE : RepE K μ H (NdefX.startF N vs [none]) (ds.map some ++ List.replicate (N.length - ps.length) none) := by
    rw [hst0]
    exact RepE.args rs _
  have hS : tS K (sSeq (sSup c m2 r) rest) (fun c d _ H' => E c d H') { nx := fun _ H' => Q .non H', rt := Q } (NdefX.startF N vs [none]) H := by
    refine ⟨μ, W, _, S1, hE, ?_⟩
    unfold mRun at p
    cases q : (sSeq (sSup c m2 r) rest) (ds.map some ++ List.replicate (N.length - ps.length) none) W with
    | nx δ1 W1 =>
      rw [q] at p
      exact fun σ' μ' H' x1 S' _ => p .non μ' H' x1 S' rfl
    | rt d W1 => rw [q] at p; exact p
    | bk δ1 W1 => rw [q] at p; exact p.elim
    | ct δ1 W1 => rw [q] at p; exact p.elim
    | ex c fs δ1 W1 =>
      rw [q] at p
      exact fun cls dd σ' μ' H' x1 S' _ rx => p cls dd μ' H' x1 S' rx
    | bad => rw [q] at p; exact p.elim
  clear p hE
  obtain ⟨μ, W, δ, S1, hE, p⟩ := sSeq_imp hS
  have p9 : PstS K μ H { nx := tS K rest (fun c d _ H' => E c d H') { nx := fun _ H' => Q .non H', rt := Q }, rt := Q } (fun c d _ H' => E c d H') (match δ[(0 : Nat)]? with
    | some (some (.cell j)) => match W[j]? with
      | some (.ins c' _) => if c' = c then (r δ W).toS δ fun ds W1 => (m2 (.cell j :: ds) W1).toS δ fun _ W2 => .nx δ W2 else .bad
      | _ => .bad
    | _ => .bad) := p
  clear p hS
  split at p9
  rotate_left
  · exact p9.elim
  rename_i j hj
  split at p9
  rotate_left
  · exact p9.elim
  rename_i c' fs hW
  split at p9
  rotate_left
  · exact p9.elim
  rename_i hcc
  subst hcc
  obtain ⟨v0, hv0, rv0⟩ := hE.at_ 0 _ hj
  obtain ⟨a, dx, ws, rfl, hcj, hHa, _, _⟩ := ins_cell S1 rv0 hW
  have hvs0 : vs[0]? = some (.ref a) := by
    have hv0 : (NdefX.startF N vs [none])[0]? = some (some (.ref a)) := hv0
    have hps : 0 < ps.length := (List.getElem?_eq_some_iff.mp hself).1
    unfold NdefX.startF at hv0
    rw [List.getElem?_append_left (by rw [List.length_map, hl]; exact hps), List.getElem?_map] at hv0
    cases q : vs[0]? with
    | none => rw [q] at hv0; cases hv0
    | some z => rw [q] at hv0; cases hv0; rfl
  obtain ⟨u0, hu0, ru0⟩ := rv.get hvs0
  obtain rfl : u0 = Value.ref a := ru0
  have ndP : ps.Nodup := by
    have q := Sc.nd.sublist (List.take_sublist (ps.length + 1) N)
    rw [show ps.length + 1 = ps.length + ([("__class__" : Str)]).length from rfl, Sc.pre] at q
    exact (List.nodup_append.mp q).1
  obtain ⟨cdD, hD⟩ := S.dcls
  obtain ⟨oD, hD1, hD2⟩ : ∃ oD, K.lookup D = some oD ∧ oD.data = .cls cdD := by
    unfold PySem.W.clsIn at hD
    split at hD
    · rename_i c d cd' sl ho
      cases hD
      exact ⟨_, ho, rfl⟩
    · cases hD
  obtain ⟨cdC, hC⟩ := S.ccls
  obtain ⟨ccl, cdd, cvs, ccs, file, tf, lkcode, hvs2, hfile⟩ := S.fl
  obtain ⟨ar, hp1, hp2⟩ := hp0
  have KI := I.kIn
  obtain ⟨mA, O, _, _, _, _⟩ := ins_get I.hok hHa
  obtain ⟨oda, J, _⟩ := O.look
  have hms := S.at_
  unfold PySem.W.ks_superIn at hms
  rw [hC] at hms
  have hms : PySem.W.alongIn K m ((cdC.mro.dropWhile (· != .ref D)).drop 1) = some (some (.ref f2)) := hms
  obtain ⟨of, hof, hofc⟩ : ∃ of, K.lookup f2 = some of ∧ of.cls = .type "function" := by
    have ht' : (K.lookup f2).map (·.cls) = some (.type "function") := S.ty
    cases z : K.lookup f2 with
    | none => rw [z] at ht'; cases ht'
    | some of => rw [z] at ht'; exact ⟨of, rfl, Option.some.inj ht'⟩
  have fin : ∀ (fl : Flow) (s' : Shared), SP (supX P w K mg base N F f A outer s H E) [] { nx := fun _ H' => Q .non H', rt := Q } fl s' → CR (L2.CX P w) outer P w H s Q E (.ok (.ret (match fl with | .ret v => v | _ => .none))) s' := fun fl s' hs => by
    cases fl with
    | ret u =>
      obtain ⟨v, σ', H', J, rv, q⟩ := hs
      exact ⟨v, H', J.os, J.bare, J.base, J.hok, rv, q⟩
    | next =>
      obtain ⟨σ', H', J, q⟩ := hs
      exact ⟨.non, H', J.os, J.bare, J.base, J.hok, rfl, q⟩
    | brk => obtain ⟨_, _, _, q⟩ := hs; exact False.elim q
    | cont => obtain ⟨_, _, _, q⟩ := hs; exact False.elim q
  have hex : execs F.body (NdefX.envF F f s.heap.objs.size) = execs (.Expr (.Call (.Attribute (.Call (.Name "super" p0) [] [] p1) m p2) (e :: es) [] p3) p4 :: bs) (NdefX.envF F f s.heap.objs.size) := by rw [hbd]
  show PySem.wpAt (model P w) (supX P w K mg base N F f A outer s H E).A (.func F.body (NdefX.envF F f s.heap.objs.size)) (execs F.body (NdefX.envF F f s.heap.objs.size)) _ (supX P w K mg base N F f A outer s H E).xe _
  rw [hex]
  refine ks_wpAt_execs_cons (ks_wpAt_Expr_any (ks_wpAt_MethodCall (ks_wpAt_super_base hks (Sc.frk "__class__" (by simp)) hat rfl (KI _ _ lk) rfl hp1 rfl (KI _ _ lkcode) rfl hvs2 hfile S.top ?_) (hev A outer s H E)) I.quiet (hsw A outer s H E))
  obtain ⟨mb, hb1, hb2⟩ := I.mod.blt
  refine PySem.W.ks_loadName_global Sc.kind hks (Calls.loadGlobal_builtin (env := NdefX.envF F f s.heap.objs.size) (v := .type "super") (I.mod.glob.keeps I.bk) hsup (hb1.keeps I.bk) ((hb2 _ (by decide)).trans (by decide +kernel)) ⟨rfl, ?_⟩)
  refine wpAny_loadName_free Sc.kind (Sc.frk "__class__" (by simp)) (by show F.cl.lookup _ = some cc; rw [hcl]; rfl) ⟨_, KI _ _ lkc, rfl⟩ ?_
  rw [hp2]
  refine wpAny_loadName_local Sc.kind (Sc.par self (List.mem_of_getElem? hself)) hns (NdefX.zip_look ndP hself hu0) ?_
  refine ks_wpAny_isType_cls (KI _ _ hD1) hD2 ⟨rfl, ?_⟩
  refine ks_wpAny_call_super (KI _ _ hD1) hD2 J.at_ J.cls (fun c0 e0 => by have := J.no; unfold PySem.W.notCls at this; rw [e0] at this; exact Bool.noConfusion this) (PySem.W.looks_mroIn KI S.sub) (fun h' e' k' => ?_)
  have I2 : Inv (supX P w K mg base N F f A outer s H E) [] (NdefX.startF N vs [none]) H { s with heap := h', toks := s.toks + (ps.zip us).length } := I.kept k'
  obtain ⟨mA2, O2, _, _, _, _⟩ := ins_get I2.hok hHa
  obtain ⟨oda2, J2, _⟩ := O2.look
  refine ks_wpAny_getMethod_super e' (PySem.W.looks_opaque I2.kIn S.opq) (l₀ := cdC.mro) (fun A Q E s k q => wpAny_bind ((PySem.W.looks_clsIn I2.kIn hC) A _ E s k (wpAny_pure q))) rfl I2.kIn hms (I2.kIn _ _ hof) hofc (PySem.W.ks_ne I2.kIn J2 hC) hat ?_
  have so : s.heap.objs.size < h'.objs.size := I2.lt
  have hq0 : H h'.objs.size = none := I2.hok.fresh (Nat.le_refl _)
  have I3 : Inv (supX P w K mg base N F f A outer s H E) [(h'.objs.size, PySem.W.methodObj (.ref f2) (.ref a))] (NdefX.startF N vs [none]) H { s with heap := h'.push { cls := .type "method", data := .fields #[.ref f2, .ref a] }, toks := s.toks + (ps.zip us).length + 1 } := by
    refine (I2.kept (t' := s.toks + (ps.zip us).length + 1) (fun b o e => Heap.get?_push_of_some _ e)).pins_of fun p hp => ?_
    rw [List.mem_singleton.mp hp]
    exact ⟨Heap.get?_push_at rfl rfl, hq0, Nat.ne_of_gt so, I2.nofs (Nat.le_refl _), fun v z => nomatch z⟩
  have hargs : tM K (RL K) r (fun c d _ H' => E c d H') (NdefX.startF N vs [none]) H fun zs H1 => zs.length = (e :: es).length ∧ spM K m2 (.ref a :: zs) H1 (fun _ H' => tS K rest (fun c d _ H' => E c d H') { nx := fun _ H' => Q .non H', rt := Q } (NdefX.startF N vs [none]) H') E := by
    refine ⟨μ, W, δ, S1, hE, ?_⟩
    cases er : r δ W with
    | ok ds1 W1 =>
      rw [er] at p9
      exact fun zs μ1 H1 x1 S2 r1 => ⟨by rw [r1.length]; exact (ha A outer s H E).len δ W ds1 W1 er, μ1, W1, .cell j :: ds1, S2, ⟨_, zs, rfl, Rep.ext x1 rv0, r1⟩, Pst.imp (PstS.toM (R := RD K) (hE.ext x1) (PstS.shift x1 p9)) (fun u μ3 H3 _ ⟨μ4, W4, _, x4, S4, E4, _, q4⟩ => PstS.goes S4 E4 q4) fun _ _ _ z => z⟩
    | ex c fs W1 =>
      rw [er] at p9
      exact fun cls dd μ1 H1 x1 S2 r1 => p9 cls dd _ μ1 H1 x1 S2 (hE.ext x1) r1
    | bad => rw [er] at p9; exact p9.elim
  have hes : starEach (e :: es) (NdefX.envF F f s.heap.objs.size) = (false, eval e (NdefX.envF F f s.heap.objs.size)) :: starEach es (NdefX.envF F f s.heap.objs.size) := hst A outer s H E
  have hrun := (ha A outer s H E).pa.run p3 _ _ _ H _ I3 hargs
  have hrun : wpAny _ _ (spliced (backTo p3 (starEach (e :: es) (NdefX.envF F f s.heap.objs.size)))) _ _ _ := hrun
  rw [hes] at hrun
  rw [hes]
  refine PySem.W.callWith_of (P := PySem.W.MethP K h'.objs.size f2 (.ref a)) (by have z : (backTo p3 (starEach es (NdefX.envF F f s.heap.objs.size))).any (·.1) = false := hpl A outer s H E; show ((false || (backTo p3 (starEach es (NdefX.envF F f s.heap.objs.size))).any (·.1)) || false) = false; rw [z]; rfl) (PySem.W.keeps_M S.fn2) (PySem.Calls.evalArgs_plain ?_)
  refine wpAny_mono hrun (fun us2 s2 ⟨zs, H2, I4, rz, hz, q⟩ => ?_) fun _ _ z => z
  have pin := I4.pin (h'.objs.size, PySem.W.methodObj (.ref f2) (.ref a)) (by simp)
  refine ⟨⟨pin.1, I4.kIn⟩, wpAny_call (ks_codeAny_call_bound pin.1 (codeAny_mono (G.codeAt (X := supX P w K mg base N F f A outer s H E) (vs := .ref a :: zs) (us := .ref a :: us2) (hr.deeper _) I4.env0 I4 (.cons rfl rz) (congrArg Nat.succ hz) q) fun r s3 hq => ?_))⟩
  cases r with
  | error e => exact passAt tk _ _ H2 s2 e s3 I4 hq
  | ok fl =>
    cases fl with
    | ret u =>
      obtain ⟨v, H3, I5, _, q5⟩ := hq
      refine wpAt_of_wpAny (wpAny_mono ((hrest A outer s H E (hr.deeper _) tk).run [] s3 _ H3 _ (I5.pins_of fun p hp => absurd hp (by simp)) q5) (fun fl s4 hs => fin fl s4 hs) fun e s4 z => z)
    | next => exact False.elim hq
    | brk => exact False.elim hq
    | cont => exact False.elim hq
end
end ML
set_option Elab.async false
set_option linter.all false
set_option maxRecDepth 100000
set_option maxHeartbeats 2000000
namespace ML
open PySem PySem.Spec PyProof.Rows L2
/-! ### * of great ints by small ones -/
def smallI (i : Int) : Bool := decide (-(2 ^ 64) < i ∧ i < 2 ^ 64)
def mulS2 : DOp := fun d e W => match d, e with
  | .int i, .int j => if (big i j || smallI i || smallI j) = true then .ok (.int (i * j)) W else .bad
  | d, e => mulS d e W
theorem calm_mulS2 (d e : D) (W : Wo) : Calm (mulS2 d e W) := by
  unfold mulS2
  split
  · exact .ite trivial trivial
  · exact calm_mulS _ _ _
section
variable {X : Cx}
theorem op_mulM2 : OpM X (binaryOp .Mult) mulS2 := fun pins s σ H x y v u Q I rx ry h => by
  obtain ⟨μ, W, d, e, S, rd, re, p⟩ := h
  unfold mulS2 at p
  split at p
  · rename_i i j
    obtain ⟨hc, p⟩ := Pst.ite p
    rw [Bool.or_eq_true, Bool.or_eq_true] at hc
    have rd' : x = .int i := rd
    have re' : y = .int j := re
    rcases hc with (hc | hc) | hc
    · exact op_mulM pins s σ H x y v u Q I rx ry ⟨μ, W, .int i, .int j, S, rd, re, by show Pst X.K _ μ H Q _ (if big i j then Res.ok (D.int (i * j)) W else Res.bad); rw [if_pos hc]; exact p⟩
    · subst rd' re'
      exact op_mul pins s σ H _ _ v u Q I rx ry ⟨i, j, rfl, rfl, .inl (of_decide_eq_true hc), Pst.val S p rfl⟩
    · subst rd' re'
      exact op_mul pins s σ H _ _ v u Q I rx ry ⟨i, j, rfl, rfl, .inr (of_decide_eq_true hc), Pst.val S p rfl⟩
  · exact op_mulM pins s σ H x y v u Q I rx ry ⟨μ, W, d, e, S, rd, re, p⟩
end
/-! ### a text sign by sign -/
def signD (c : Nat) : D := .str ⟨#[c]⟩
def itemsD2 : D → Wo → Res (List D) := fun d W => match d with
  | .str x => if x.length ≤ sizeLine then .ok (x.cps.toList.map signD) W else .bad
  | d => itemsD d W
def mIt2 (m : ME) : MI := fun δ W => (m δ W).bind itemsD2
theorem itS {K : PySem.W.Frag} {μ : Lo} {H : Hp} (x : Str) : ItOk K (Its x) μ H (x.cps.toList.map signD) where
  go := fun _ _ _ i hi => by
    rw [List.length_map, Array.length_toList] at hi
    exact hi
  stop := fun _ _ _ => by
    show x.cps.size ≤ _
    rw [List.length_map, Array.length_toList]
    exact Nat.le_refl _
  yld := fun μ' H' W x' S i d y H2 hd ⟨e, c, hc, k⟩ => by
    subst e k
    rw [List.getElem?_map, Array.getElem?_toList, hc] at hd
    cases hd
    exact ⟨Ext.refl _ _, S, rfl, fun _ _ => rfl⟩
theorem pmi_seq2 {X : Cx} {Wx : WX} {tg e : Expr} {m : ME} (h : PM X Wx e m) : PMI X Wx tg e (mIt2 m) := PI.imp (PI.or (pi_str h) (pmi_seq h)) fun σ H R q => by
  obtain ⟨μ, W, δ, S, E, p⟩ := q
  have p' : Pst X.K (RI X.K) μ H R (fun c d H' => Wx c d σ H') ((m δ W).bind itemsD2) := p
  by_cases hs : ∃ x W1, m δ W = .ok (.str x) W1
  · obtain ⟨x, W1, em⟩ := hs
    rw [em] at p'
    have p' : Pst X.K (RI X.K) μ H R (fun c d H' => Wx c d σ H') (if x.length ≤ sizeLine then .ok (x.cps.toList.map signD) W1 else .bad) := p'
    obtain ⟨hl, p'⟩ := Pst.ite p'
    refine .inl ⟨μ, W, δ, S, E, ?_⟩
    rw [em]
    intro v μ1 H1 x1 S1 r1
    exact ⟨x, r1, p' _ μ1 H1 x1 S1 (itS x)⟩
  · refine .inr ⟨μ, W, δ, S, E, ?_⟩
    show Pst X.K (RI X.K) μ H R (fun c d H' => Wx c d σ H') ((m δ W).bind itemsD)
    cases em : m δ W with
    | bad => rw [em] at p'; exact p'
    | ex c fs W1 => rw [em] at p'; exact p'
    | ok d W1 =>
      rw [em] at p'
      cases d with
      | str x => exact absurd ⟨x, W1, em⟩ hs
      | _ => exact p'
end ML
set_option Elab.async false
set_option linter.all false
set_option maxRecDepth 100000
set_option maxHeartbeats 2000000
namespace ML
open PySem PySem.Spec PyProof.Rows L2
/-! ### the head: what the heap behind the top says, by decidable words -/
abbrev Fg := PySem.W.Frag
/-- paths -/
abbrev gAt (K : Fg) (x : Str) : Addr := He.ga K x
abbrev mAt (K : Fg) (C : Addr) (m : Str) : Addr := He.ma K C m
def getterOf (K : Fg) (p : Addr) : Addr := match PySem.W.recIn K p "property" with
  | some (.ref g :: _) => g
  | _ => 0
def setterOf (K : Fg) (p : Addr) : Addr := match PySem.W.recIn K p "property" with
  | some (_ :: .ref g :: _) => g
  | _ => 0
def allCl : List Cl := [.ShapeError, .InvalidInteger, .InvalidPoint, .InvalidDirection, .InvalidMap, .InvalidName, .InvalidTriangulation, .InvalidCommand, .InvalidPolygon, .DegenerateCorner, .CrossingEdges, .NotConvex, .InvalidAction, .RunFailed] ++
  [.InvalidText, .UnknownName, .NameInUse, .NotFlippable, .NothingToUndo, .LimitExceeded, .GridMap, .Polygon, .ConvexPolygon, .Basis, .Mesh, .Collection, .Console]
theorem cl_mem (c : Cl) : c ∈ allCl := by cases c <;> decide
def allTy : List Ty := [.none, .bool, .int, .str, .tuple, .list, .dict]
theorem ty_mem (t : Ty) : t ∈ allTy := by cases t <;> decide
section
variable {K : Fg} {h : Heap} {mg : Str → Option Value} {P : Program} {w : World} {base : Heap}
theorem all2 {a b : Bool} (q : (a && b) = true) : a = true ∧ b = true := by simpa using q
/-! names -/
abbrev QGlo (K : Fg) (x : Str) : Prop := PySem.W.nsIn K mainGlobals x = some (some (.ref (gAt K x)))
abbrev QFree (K : Fg) (x : Str) : Prop := PySem.W.nsIn K mainGlobals x = some none
theorem glo_of (X : K.In h) (G : h.Ns mainGlobals mg) {x : Str} (q : QGlo K x) : mg x = some (.ref (gAt K x)) := PySem.W.mg_of X G q
theorem gC_of (X : K.In h) (G : h.Ns mainGlobals mg) {c : Cl} (q : QGlo K c.nm) : mg c.nm = some (.ref (cAd K c)) := glo_of X G q
theorem free_of (X : K.In h) (G : h.Ns mainGlobals mg) {x : Str} (q : QFree K x) : mg x = none := PySem.W.mg_none_of X G q
def conB (K : Fg) (x : Str) (d : D) : Bool := match PySem.W.nsIn K mainGlobals x, atomV d with
  | some (some u), some v => He.relB v u
  | _, _ => false
theorem con_of (X : K.In h) (G : h.Ns mainGlobals mg) {x : Str} {d : D} (q : conB K x d = true) : ConAt mg x d := by
  unfold conB at q
  split at q
  · rename_i u v h1 h2
    exact ⟨u, v, PySem.W.mg_of X G h1, He.relB_ok q, h2⟩
  · cases q
/-! classes -/
abbrev QCls (K : Fg) (C : Addr) : Prop := PySem.W.plainGet K C Str.empty = true ∧ PySem.W.hasDictIn K C = true ∧ PySem.W.plainOver K C = true ∧ PySem.W.findIn K (.ref C) "__setattr__" = some (some (.builtin "object.__setattr__"))
theorem cls_of {C : Addr} (q : QCls K C) : Cls K C := ⟨q.1, q.2.1, q.2.2.1, q.2.2.2⟩
abbrev QIsi (K : Fg) (C : Addr) : Prop := QCls K C ∧ PySem.W.findIn K (.ref C) "__class__" = some (some (.builtin "object.__class__")) ∧ PySem.W.specialIn K (.builtin "object.__class__") "__get__" = some (some (.builtin "getset_descriptor.__get__")) ∧
  PySem.W.takesIn K (.builtin "object.__class__") = some true ∧ PySem.W.mroIn K C (Value.type "object") = some true
theorem isiCl_of {c : Cl} (q : QIsi K (cAd K c)) : IsiCl K c := ⟨cls_of q.1, q.2.1, q.2.2.1, q.2.2.2.1, q.2.2.2.2⟩
def isiB (K : Fg) (u : Value) (g : TyK → Option Bool) : Bool := (allTy.all fun t => match g (.b t) with
  | some b => decide (PySem.W.kitOne K (.type t.nm) u = some b)
  | none => true) && allCl.all fun c => match g (.o c) with
  | some b => decide (PySem.W.kitOne K (.ref (cAd K c)) u = some b ∧ QIsi K (cAd K c))
  | none => true
theorem isi_of {u : Value} {g : TyK → Option Bool} (q : isiB K u g = true) : IsiOk K u g := by
  obtain ⟨q1, q2⟩ := all2 q
  have key : ∀ c b, g (.o c) = some b → PySem.W.kitOne K (.ref (cAd K c)) u = some b ∧ QIsi K (cAd K c) := fun c b e => by
    have z := List.all_eq_true.mp q2 c (cl_mem c)
    rw [e] at z
    exact of_decide_eq_true z
  refine ⟨fun t b e => ?_, fun c b e => isiCl_of (key c b e).2⟩
  cases t with
  | b t =>
    have z := List.all_eq_true.mp q1 t (ty_mem t)
    rw [e] at z
    exact of_decide_eq_true z
  | o c => exact (key c b e).1
def fldB (K : Fg) (g : Cl → Option Nat) (f : Str) : Bool := allCl.all fun c => match g c with
  | some i => decide (c.fl[i]? = some f ∧ c.fl.Nodup ∧ QCls K (cAd K c) ∧ PySem.W.findIn K (.ref (cAd K c)) f = some none)
  | none => true
theorem fld_of {g : Cl → Option Nat} {f : Str} (q : fldB K g f = true) (c : Cl) (i : Nat) (e : g c = some i) : FldOk K c i f := by
  have z := List.all_eq_true.mp q c (cl_mem c)
  rw [e] at z
  obtain ⟨h1, h2, h3, h4⟩ := of_decide_eq_true z
  exact ⟨h1, h2, cls_of h3, h4⟩
abbrev QMk (K : Fg) (C : Addr) : Prop := PySem.W.makesIn K C = true ∧ PySem.W.findIn K (.ref C) "__init__" = some (some (.ref (mAt K C "__init__"))) ∧ PySem.W.isFn K (.ref (mAt K C "__init__")) = true ∧ PySem.W.keepIn K (.ref C) = true
theorem mk_of {C : Addr} (q : QMk K C) : Mk K C (mAt K C "__init__") := ⟨q.1, q.2.1, q.2.2.1, q.2.2.2⟩
abbrev QMeth (K : Fg) (C : Addr) (m : Str) : Prop := PySem.W.findIn K (.ref C) m = some (some (.ref (mAt K C m))) ∧ PySem.W.isFn K (.ref (mAt K C m)) = true ∧ PySem.W.keepIn K (.ref (mAt K C m)) = true
theorem meth_of {C : Addr} {m : Str} (q : QMeth K C m) : Meth K C m (mAt K C m) := ⟨q.1, q.2.1, q.2.2⟩
abbrev QLen (K : Fg) (C : Addr) : Prop := PySem.W.findIn K (.ref C) "__len__" = some (some (.ref (mAt K C "__len__"))) ∧ PySem.W.isFn K (.ref (mAt K C "__len__")) = true
def recB (K : Fg) (p : Addr) : Bool := match PySem.W.recIn K p "property" with
  | some (.ref _ :: _) => true
  | _ => false
theorem rec_of {p : Addr} (q : recB K p = true) : ∃ rest, PySem.W.recIn K p "property" = some (.ref (getterOf K p) :: rest) := by
  unfold recB at q
  split at q
  · rename_i g rest e
    refine ⟨rest, ?_⟩
    unfold getterOf
    rw [e]
  · cases q
def rec2B (K : Fg) (p : Addr) : Bool := match PySem.W.recIn K p "property" with
  | some (_ :: .ref _ :: _) => true
  | _ => false
theorem rec2_of {p : Addr} (q : rec2B K p = true) : ∃ a rest, PySem.W.recIn K p "property" = some (a :: .ref (setterOf K p) :: rest) := by
  unfold rec2B at q
  split at q
  · rename_i a g rest e
    refine ⟨a, rest, ?_⟩
    unfold setterOf
    rw [e]
  · cases q
abbrev QProp (K : Fg) (C : Addr) (f : Str) : Prop := PySem.W.findIn K (.ref C) f = some (some (.ref (mAt K C f))) ∧ PySem.W.specialIn K (.ref (mAt K C f)) "__get__" = some (some (.builtin "property.__get__")) ∧ PySem.W.takesIn K (.ref (mAt K C f)) = some true ∧ recB K (mAt K C f) = true
theorem prop_of {C : Addr} {f : Str} (q : QProp K C f) : PropOf K C f (mAt K C f) (getterOf K (mAt K C f)) := ⟨q.1, q.2.1, q.2.2.1, rec_of q.2.2.2⟩
abbrev QSet (K : Fg) (C : Addr) (f : Str) : Prop := PySem.W.takerIn K C f = some (some (.ref (mAt K C f))) ∧ PySem.W.typeIn K (.ref (mAt K C f)) = some (.type "property") ∧ rec2B K (mAt K C f) = true
def cconB (K : Fg) (C : Addr) (f : Str) (d : D) : Bool := PySem.W.readsIn K C (.type "type") && (decide (PySem.W.specialIn K (.ref C) "__getattribute__" = some (some (.builtin "type.__getattribute__"))) && match PySem.W.findCls K (.ref C) (.type "type") f, atomV d with
  | some (.val u), some v => He.relB v u
  | _, _ => false)
theorem ccon_of {c : Cl} {f : Str} {d : D} (gC : mg c.nm = some (.ref (cAd K c))) (q : cconB K (cAd K c) f d = true) : CConAt K mg c f d := by
  obtain ⟨q1, q⟩ := all2 q
  obtain ⟨q2, q3⟩ := all2 q
  split at q3
  · rename_i u v h1 h2
    exact ⟨gC, .type "type", v, u, ⟨q1, of_decide_eq_true q2⟩, ⟨h1, He.relB_ok q3⟩, h2⟩
  · cases q3
/-! exceptions -/
def emB (K : Fg) (x : Cl) (g : Cl → Option Bool) : Bool := allCl.all fun c => match g c with
  | some b => decide (PySem.W.exmOne K (.ref (cAd K c)) (.ref (cAd K x)) = some b)
  | none => true
theorem em_of {x : Cl} {g : Cl → Option Bool} (q : emB K x g = true) : EmOk K x g := fun c b e => by
  have z := List.all_eq_true.mp q c (cl_mem c)
  rw [e] at z
  exact of_decide_eq_true z
abbrev QExc (K : Fg) (C : Addr) : Prop := PySem.W.findIn K (.ref C) "__getattribute__" = some (some (.builtin "BaseException.__getattribute__")) ∧ PySem.W.findIn K (.ref C) "__getattr__" = some none ∧ PySem.W.subIn K (.ref C) (.type "BaseException") = some true ∧ PySem.W.hasDictIn K C = true
abbrev QExcI (K : Fg) (C : Addr) : Prop := QExc K C ∧ PySem.W.findIn K (.ref C) "__class__" = some (some (.builtin "object.__class__")) ∧ PySem.W.specialIn K (.builtin "object.__class__") "__get__" = some (some (.builtin "getset_descriptor.__get__")) ∧
  PySem.W.takesIn K (.builtin "object.__class__") = some true ∧ PySem.W.mroIn K C (.type "object") = some true
def isB (K : Fg) (x : Cl) (g : Cl → Option Bool) : Bool := allCl.all fun c => match g c with
  | some b => decide (QExcI K (cAd K c) ∧ PySem.W.kitOne K (.ref (cAd K c)) (.ref (cAd K x)) = some b)
  | none => true
theorem is_of {x : Cl} {g : Cl → Option Bool} (q : isB K x g = true) : IsOk K x g := fun c b e => by
  have z := List.all_eq_true.mp q c (cl_mem c)
  rw [e] at z
  obtain ⟨⟨⟨a1, a2, a3, a4⟩, b1, b2, b3, b4⟩, k⟩ := of_decide_eq_true z
  exact ⟨⟨a1, a2, a3, a4, b1, b2, b3, b4⟩, k⟩
def fxB (K : Fg) (n : Str) (fx : Cl → Option Nat) : Bool := allCl.all fun c => match fx c with
  | some i => decide (QExc K (cAd K c) ∧ PySem.W.findIn K (.ref (cAd K c)) n = some none ∧ c.fl[i]? = some n)
  | none => true
theorem fx_of {n : Str} {fx : Cl → Option Nat} (q : fxB K n fx = true) : FxOk K n fx := fun c i e => by
  have z := List.all_eq_true.mp q c (cl_mem c)
  rw [e] at z
  obtain ⟨⟨a1, a2, a3, a4⟩, k1, k2⟩ := of_decide_eq_true z
  exact ⟨⟨a1, a2, a3, a4⟩, k1, k2⟩
abbrev QExcO (K : Fg) (C : Addr) (tl : List Value) (newId : String) : Prop := PySem.W.excIn K C tl newId = true ∧ PySem.W.keepIn K (.ref C) = true ∧ PySem.W.subIn K (.ref C) (.type "BaseException") = some true ∧ PySem.W.typeIn K (.ref C) = some (.type "type")
theorem excO_of {c : Cl} {B newId initId : String} {tl : List Value} (F : ExcBaseFacts B newId initId tl) (hfl : c.fl = []) (gC : mg c.nm = some (.ref (cAd K c))) (q : QExcO K (cAd K c) tl newId) : ExcO K mg c :=
  ⟨hfl, gC, ⟨B, newId, initId, tl, F, q.1⟩, q.2.1, q.2.2.1, q.2.2.2⟩
/-- an own exception class as it stands -/
def oexB (K : Fg) (C : Addr) (newId : String) (tl : List Value) : Bool := match K.lookup C with
  | some ⟨.type t, _, .cls ⟨_, _, mro, _, _, hd, _, _, _, _, dl⟩, ⟨sl⟩⟩ => (match mro, sl with
    | .ref C' :: bm, [_, _, _, _, some (.builtin n), _] => decide (t = "type" ∧ C' = C ∧ n = newId ∧ hd = true ∧ dl = false) && refsTB tl bm
    | _, _ => false)
  | _ => false
theorem oexB_at {C : Addr} {newId : String} {tl : List Value} (q : oexB K C newId tl = true) : ∃ nm q N bs bm sn sub ab col dd k0 k1 k2 k3 k5, K.lookup C = some (excClassObj nm q C N bs bm true sn sub ab col dd k0 k1 k2 k3 k5 newId) ∧ RefsT tl bm := by
  unfold oexB at q
  split at q
  · rename_i t od nm bs mro N qn hd sn sub ab col dl sl hC
    split at q
    · rename_i C' bm k0 k1 k2 k3 n k5
      obtain ⟨q1, q2⟩ := all2 q
      obtain ⟨rfl, rfl, rfl, rfl, rfl⟩ := of_decide_eq_true q1
      exact ⟨_, _, _, _, bm, _, _, _, _, _, _, _, _, _, _, hC, refsTB_ok q2⟩
    · cases q
  · cases q
abbrev QExcN (K : Fg) (C : Addr) (newId : String) (tl : List Value) (f : Str) : Prop := oexB K C newId tl = true ∧ PySem.W.findIn K (.ref C) "__setattr__" = some (some (.builtin "object.__setattr__")) ∧ PySem.W.subIn K (.ref C) (.type "BaseException") = some true ∧ PySem.W.typeIn K (.ref C) = some (.type "type") ∧
  PySem.W.keepIn K (.ref C) = true ∧ PySem.W.findIn K (.ref C) f = some none ∧ PySem.W.findIn K (.ref C) "__init__" = some (some (.ref (mAt K C "__init__"))) ∧ PySem.W.typeIn K (.ref (mAt K C "__init__")) = some (.type "function")
theorem excN_of {c : Cl} {B newId initId : String} {tl : List Value} {f : Str} {x qual : Str} {st : Stmt} {fd : FuncData} {p1 p2 p3 p4 : Pos} (b : ExB B newId initId tl) (hfl : c.fl = [f]) (gC : mg c.nm = some (.ref (cAd K c))) (q : QExcN K (cAd K c) newId tl f)
    (F : FunD K x qual (defArgs st) (defBody st) (defScope st) [] [] (mAt K (cAd K c) "__init__") fd) (S : FnScope ["self", f] ["self", f] (defScope st)) (v0 : Vis (defScope st) "self") (v1 : Vis (defScope st) f) (hd : (f == ("__debug__" : Str)) = false) (hcd : (f == ("__classdict__" : Str)) = false)
    (hbody : defBody st = [.Assign [.Attribute (.Name "self" p1) f p2] (.Name f p3) p4]) (hsw : ∀ env, swapsWith (.Name f p3) (some (.Attribute (.Name "self" p1) f p2)) p4.line env = pure false)
    (hb : ∀ (kV doc pm : Value) (an : Option Addr) (cdv ct : Value) (us : List Value), us.length = (["self", f] : List Str).length → bindArgs (PySem.W.fnOf x qual (defArgs st) (defBody st) (defScope st) .none kV doc pm an cdv ct) ⟨us, []⟩ = pure ((["self", f] : List Str).zip us)) : ExcI P w K mg base c := by
  obtain ⟨q1, q2, q3, q4, q5, q6, q7, q8⟩ := q
  have T : OexG K (cAd K c) newId tl := ⟨oexB_at q1, q2, q3, q4, q5⟩
  exact excI_of b T hfl gC q7 q8 (initI_of b T q6 F S v0 v1 hd hcd hbody hsw) (F.bindsN hb)
theorem exB_Value : ExB "ValueError" "ValueError.__new__" "ValueError.__init__" [.type "ValueError", .type "Exception", .type "BaseException", .type "object"] := ⟨PySem.F.excBase_ValueError, PySem.F.store_ValueError, by decide +kernel⟩
theorem exB_Overflow : ExB "OverflowError" "OverflowError.__new__" "OverflowError.__init__" [.type "OverflowError", .type "ArithmeticError", .type "Exception", .type "BaseException", .type "object"] := ⟨PySem.F.excBase_OverflowError, PySem.F.store_OverflowError, by decide +kernel⟩
theorem exB_Lookup : ExB "LookupError" "LookupError.__new__" "LookupError.__init__" [.type "LookupError", .type "Exception", .type "BaseException", .type "object"] := ⟨PySem.F.excBase_LookupError, PySem.F.store_LookupError, by decide +kernel⟩
end
/-! ### defs by paths -/
structure Df where
  ad : Fg → Addr
  nm : Str
  qual : Str
  ps : Arguments
  body : List Stmt
  scope : Scope
  dfl : List V
  kwd : List (Str × V)
abbrev Sg : Type := Option (((Str × Str) × Arguments × FuncBody × Scope) × (Addr × List (Str × Addr)) × Addr)
def sgOf (fd : FuncData) : Sg := some (((fd.name, fd.qualname), fd.params, fd.body, fd.scope), (fd.globals, fd.closure), fd.builtins)
def sgAt (K : Fg) (a : Addr) : Sg := match K.lookup a with
  | some ⟨_, _, .func fd, _⟩ => sgOf fd
  | _ => none
def Df.sg (d : Df) (cl : List (Str × Addr)) : Sg := some (((d.nm, d.qual), d.ps, .stmts d.body, d.scope), (mainGlobals, cl), builtinsNs)
def Df.ok (K : Fg) (d : Df) : Bool := PySem.W.keepIn K (.ref (d.ad K)) && match K.lookup (d.ad K) with
  | some ⟨_, _, .func fd, _⟩ => PySem.W.codeIn K fd.code d.qual && (He.dflB K fd.defaults d.dfl && He.kwdB K fd.kwdefaults d.kwd)
  | _ => false
theorem Df.fun_ {K : Fg} {d : Df} (e : sgAt K (d.ad K) = d.sg []) (c : d.ok K = true) : ∃ fd, FunD K d.nm d.qual d.ps d.body d.scope d.dfl d.kwd (d.ad K) fd := by
  obtain ⟨kp, c⟩ := all2 c
  unfold sgAt at e
  split at c
  · rename_i oc od fd osl lk
    rw [lk] at e
    obtain ⟨c1, c⟩ := all2 c
    obtain ⟨c2, c3⟩ := all2 c
    obtain ⟨an, aq, ap, ab, as, ag, ac, ad, ak, ao, am, aa, ae, at_, ai⟩ := fd
    have e1 := Option.some.inj (show some (((an, aq), ap, ab, as), (ag, ac), ai) = some (((d.nm, d.qual), d.ps, FuncBody.stmts d.body, d.scope), (mainGlobals, []), builtinsNs) from e)
    have e2 := (Prod.mk.inj e1).1
    have e3 := (Prod.mk.inj e1).2
    have e4 := (Prod.mk.inj e2).1
    have e5 := (Prod.mk.inj e2).2
    have e6 := (Prod.mk.inj e3).1
    have r1 : an = d.nm := (Prod.mk.inj e4).1
    have r2 : aq = d.qual := (Prod.mk.inj e4).2
    have r3 : ap = d.ps := (Prod.mk.inj e5).1
    have r4 : ab = .stmts d.body := (Prod.mk.inj (Prod.mk.inj e5).2).1
    have r5 : as = d.scope := (Prod.mk.inj (Prod.mk.inj e5).2).2
    have r6 : ag = mainGlobals := (Prod.mk.inj e6).1
    have r7 : ac = [] := (Prod.mk.inj e6).2
    have r8 : ai = builtinsNs := (Prod.mk.inj e3).2
    subst r1 r2 r3 r4 r5 r6 r7 r8
    exact ⟨_, ⟨oc, od, ad, ak, ao, am, aa, ae, at_, osl, rfl, lk, c1, He.dflB_ok c2, He.kwdB_ok c3⟩, kp⟩
  · cases c
/-! ### super() -/
def codeAt (K : Fg) (f : Addr) : Addr := match K.lookup f with
  | some ⟨_, _, .func fd, _⟩ => (match fd.code with
    | .ref c => c
    | _ => 0)
  | _ => 0
def closAt (K : Fg) (f : Addr) : List (Str × Addr) := match K.lookup f with
  | some ⟨_, _, .func fd, _⟩ => fd.closure
  | _ => []
def cellCls (K : Fg) (f : Addr) : Addr := match closAt K f with
  | [(_, cc)] => (match K.lookup cc with
    | some ⟨_, _, .cell (some (.ref D)), _⟩ => D
    | _ => 0)
  | _ => 0
def sup2 (K : Fg) (C D : Addr) (m : Str) : Addr := match PySem.W.ks_superIn K C D m with
  | some (some (.ref f)) => f
  | _ => 0
def supB (K : Fg) (file : Str) (qual : Str) (f C : Addr) (m : Str) : Bool := PySem.W.keepIn K (.ref f) && (PySem.W.codeIn K (.ref (codeAt K f)) qual && ((match K.lookup f with
    | some ⟨_, _, .func fd, _⟩ => (match fd.code, fd.defaults with
      | .ref _, .none => true
      | _, _ => false)
    | _ => false) && ((match K.lookup (codeAt K f) with
    | some ⟨_, _, .fields vs, _⟩ => (match (vs[2]? : Option Value) with
      | some (Value.str x _) => file == x
      | _ => false)
    | _ => false) && ((match closAt K f with
    | [(x, cc)] => decide (x = "__class__") && (match K.lookup cc with
      | some ⟨_, _, .cell (some (.ref _)), _⟩ => true
      | _ => false)
    | _ => false) && ((PySem.W.clsIn K (cellCls K f)).isSome && ((PySem.W.clsIn K C).isSome && decide (PySem.W.mroIn K C (.ref (cellCls K f)) = some true ∧ PySem.W.nsIn K cStatics "thirdparty.any" = some none ∧ PySem.W.ks_superIn K C (cellCls K f) m = some (some (.ref (sup2 K C (cellCls K f) m))) ∧
      PySem.W.typeIn K (.ref (sup2 K C (cellCls K f) m)) = some (.type "function") ∧ PySem.W.fnIn K (sup2 K C (cellCls K f) m) = true)))))))
theorem sup_of {K : Fg} {P : Program} {d : Df} {C : Addr} {m : Str} (hd : d.dfl = []) (e : sgAt K (d.ad K) = d.sg (closAt K (d.ad K))) (q : supB K P.main.file d.qual (d.ad K) C m = true) (top : (P.main.scope.names.lookup ("super" : Str)).isSome = false) :
    SupD P K ⟨d.nm, d.qual, d.ps, d.body, d.scope, closAt K (d.ad K), codeAt K (d.ad K)⟩ (d.ad K) C (cellCls K (d.ad K)) (sup2 K C (cellCls K (d.ad K)) m) m := by
  obtain ⟨q1, q⟩ := all2 q
  obtain ⟨q2, q⟩ := all2 q
  obtain ⟨q3, q⟩ := all2 q
  obtain ⟨q4, q⟩ := all2 q
  obtain ⟨q5, q⟩ := all2 q
  obtain ⟨q6, q⟩ := all2 q
  obtain ⟨q7, q8⟩ := all2 q
  obtain ⟨s1, s2, s3, s4, s5⟩ := of_decide_eq_true q8
  refine { ex := ?_, kp := q1, cd := q2, fl := ?_, cell := ?_, dcls := Option.isSome_iff_exists.mp q6, ccls := Option.isSome_iff_exists.mp q7, sub := s1, opq := s2, at_ := s3, ty := s4, fn2 := s5, top := top }
  · split at q3
    · rename_i oc od fd osl lk
      split at q3
      · rename_i c hc hdv
        obtain ⟨an, aq, ap, ab, as, ag, ac, ad, ak, ao, am, aa, ae, at_, ai⟩ := fd
        have hc : ae = .ref c := hc
        have hdv : ad = .none := hdv
        subst hc hdv
        have k1 : codeAt K (d.ad K) = c := by unfold codeAt; rw [lk]
        have k2 : closAt K (d.ad K) = ac := by unfold closAt; rw [lk]
        unfold sgAt at e
        rw [lk, k2] at e
        have e1 := Option.some.inj (show some (((an, aq), ap, ab, as), (ag, ac), ai) = some (((d.nm, d.qual), d.ps, FuncBody.stmts d.body, d.scope), (mainGlobals, ac), builtinsNs) from e)
        have e2 := (Prod.mk.inj e1).1
        have e3 := (Prod.mk.inj e1).2
        have r1 : an = d.nm := (Prod.mk.inj (Prod.mk.inj e2).1).1
        have r2 : aq = d.qual := (Prod.mk.inj (Prod.mk.inj e2).1).2
        have e5 := (Prod.mk.inj e2).2
        have r3 : ap = d.ps := (Prod.mk.inj e5).1
        have r4 : ab = .stmts d.body := (Prod.mk.inj (Prod.mk.inj e5).2).1
        have r5 : as = d.scope := (Prod.mk.inj (Prod.mk.inj e5).2).2
        have r6 : ag = mainGlobals := (Prod.mk.inj (Prod.mk.inj e3).1).1
        have r8 : ai = builtinsNs := (Prod.mk.inj e3).2
        rw [k1, k2]
        subst r1 r2 r3 r4 r5 r6 r8
        exact ⟨oc, od, ak, ao, am, aa, at_, osl, lk⟩
      · cases q3
    · cases q3
  · split at q4
    · rename_i a b vs s lk
      split at q4
      · rename_i x t hv
        exact ⟨a, b, vs, s, x, t, lk, hv, q4⟩
      · cases q4
    · cases q4
  · split at q5
    · rename_i x cc hx
      obtain ⟨u1, u2⟩ := all2 q5
      have u1 : x = "__class__" := of_decide_eq_true u1
      subst u1
      split at u2
      · rename_i a b D s lk
        refine ⟨cc, a, b, s, hx, ?_⟩
        have : cellCls K (d.ad K) = D := by unfold cellCls; rw [hx]; simp only [lk]
        rw [this]
        exact lk
      · cases u2
    · cases q5
/-! ### the hook -/
def vRef : Value → List Addr
  | .ref a => [a]
  | _ => []
/-- what an object leads to: a class to its names alone, a record to its fields if it is a property -/
def refsM (o : Obj) : List Addr := match o.data with
  | .dict es _ => es.toList.flatMap fun e => vRef e.val
  | .func fd => vRef fd.code ++ (vRef fd.defaults ++ (vRef fd.kwdefaults ++ fd.closure.map (·.2)))
  | .cls cd => [cd.ns]
  | .fields vs => (match o.cls with
    | .type n => (match n == "property" with
      | true => vs.toList.flatMap vRef
      | false => [])
    | _ => [])
  | _ => []
def nextM (g : Addr → Option Obj) (as : List Addr) : List Addr := as.flatMap fun a => match g a with
  | some o => refsM o
  | none => []
/-- step by step, each step's addresses alone -/
def goM (g : Addr → Option Obj) : Nat → List Addr → List Addr
  | 0, as => as
  | n + 1, as => as ++ goM g n (nextM g as)
def asM (g : Addr → Option Obj) (n : Nat) : List Addr := goM g n [mainGlobals, cStatics]
/-- what is looked at: the words, the defs; the defs with a closure -/
structure Hd where
  n : Nat
  ex : List (Fg → Bool)
  fn : List Df
  cn : List Df
abbrev HAl : Type := Bool × List Sg × List Sg
def Hd.obs (H : Hd) (K : Fg) : HAl := ((H.ex.all fun e => e K) && H.fn.all fun d => d.ok K, H.fn.map fun d => sgAt K (d.ad K), H.cn.map fun d => match sgAt K (d.ad K) with
  | some (a, (b, _), c) => some (a, (b, []), c)
  | none => none)
def Hd.val (H : Hd) : HAl := (true, H.fn.map fun d => d.sg [], H.cn.map fun d => d.sg [])
structure Hd.Says (H : Hd) (K : Fg) : Prop where
  eq : H.obs K = H.val
def Hd.obG (H : Hd) (g : Addr → Option Obj) : HAl := H.obs (He.frG g (asM g H.n))
def Hd.hook (H : Hd) : PySem.W.Hook where
  α := HAl
  obs := fun s => H.obG s.heap.get?
  val := fun _ => H.val
  says := fun _ h => ∃ K : Fg, K.In h ∧ H.Says K
  of := fun _ _ e => ⟨_, He.frG_in, ⟨e⟩⟩
  keeps := fun _ _ _ ⟨K, hK, c⟩ k => ⟨K, PySem.W.Frag.In.keeps hK k, c⟩
theorem Hd.obG_eq {H : Hd} {g : Addr → Option Obj} {s : Shared} (h : ∀ a, g a = s.heap.get? a) : H.obG g = H.hook.obs s := by
  rw [show g = s.heap.get? from funext h]
  rfl
section
variable {H : Hd} {K : Fg}
theorem Hd.Says.word (c : H.Says K) (i : Nat) {e : Fg → Bool} (h : H.ex[i]? = some e) : e K = true :=
  List.all_eq_true.mp (all2 (congrArg (fun z : HAl => z.1) c.eq)).1 e (List.mem_of_getElem? h)
theorem Hd.Says.defn (c : H.Says K) (i : Nat) {d : Df} (h : H.fn[i]? = some d) : ∃ fd, FunD K d.nm d.qual d.ps d.body d.scope d.dfl d.kwd (d.ad K) fd := by
  have e : H.fn.map (fun d => sgAt K (d.ad K)) = H.fn.map (fun d => d.sg []) := congrArg (fun z : HAl => z.2.1) c.eq
  have e2 := congrArg (fun l : List Sg => l[i]?) e
  have e2 : (H.fn.map fun d => sgAt K (d.ad K))[i]? = (H.fn.map fun d => d.sg [])[i]? := e2
  rw [List.getElem?_map, List.getElem?_map, h] at e2
  exact Df.fun_ (Option.some.inj e2) (List.all_eq_true.mp (all2 (congrArg (fun z : HAl => z.1) c.eq)).2 d (List.mem_of_getElem? h))
theorem Hd.Says.clos (c : H.Says K) (i : Nat) {d : Df} (h : H.cn[i]? = some d) : sgAt K (d.ad K) = d.sg (closAt K (d.ad K)) := by
  have e := congrArg (fun z : HAl => z.2.2[i]?) c.eq
  have e : (H.cn.map fun d => match sgAt K (d.ad K) with
    | some (a, (b, _), c) => (some (a, (b, []), c) : Sg)
    | none => none)[i]? = (H.cn.map fun d => d.sg [])[i]? := e
  rw [List.getElem?_map, List.getElem?_map, h] at e
  have e := Option.some.inj e
  have k : ∀ sg : Sg, sgAt K (d.ad K) = sg → sg = d.sg (closAt K (d.ad K)) := fun sg es => by
    have e3 : (match (generalizing := false) sg with
      | some (a, (b, _), c) => (some (a, (b, []), c) : Sg)
      | none => none) = d.sg [] := by
      rw [← es]
      exact e
    unfold sgAt at es
    split at es
    · rename_i oc od fd osl lk
      have k2 : closAt K (d.ad K) = fd.closure := by unfold closAt; rw [lk]
      rw [k2]
      subst es
      obtain ⟨an, aq, ap, ab, as, ag, ac, ad, ak, ao, am, aa, ae, at_, ai⟩ := fd
      have e1 := Option.some.inj (show some (((an, aq), ap, ab, as), (ag, ([] : List (Str × Addr))), ai) = some (((d.nm, d.qual), d.ps, FuncBody.stmts d.body, d.scope), (mainGlobals, []), builtinsNs) from e3)
      have r1 : ((an, aq), ap, ab, as) = ((d.nm, d.qual), d.ps, FuncBody.stmts d.body, d.scope) := (Prod.mk.inj e1).1
      have r2 : ag = mainGlobals := (Prod.mk.inj (Prod.mk.inj e1).2).1 |> fun z => (Prod.mk.inj z).1
      have r3 : ai = builtinsNs := (Prod.mk.inj (Prod.mk.inj e1).2).2
      show some (((an, aq), ap, ab, as), (ag, ac), ai) = some (((d.nm, d.qual), d.ps, FuncBody.stmts d.body, d.scope), (mainGlobals, ac), builtinsNs)
      rw [r1, r2, r3]
    · subst es
      cases e3
  exact k _ rfl
end
end ML
set_option Elab.async false
set_option linter.all false
set_option maxRecDepth 100000
set_option maxHeartbeats 2000000
namespace ML
open PySem PySem.Spec PyProof.Rows L2
/-! ### the law's promise -/
theorem script_rep {K : PySem.W.Frag} {μ : Lo} {H : Hp} {a : Addr} {ns : List Int} (h : SqL K H a (ns.map V.int)) (hn : μ.No a) : Rep K μ H (.ref a) (.scr ns) := by
  refine ⟨a, rfl, ?_⟩
  rcases h with (h | ⟨o, h⟩) | h
  · exact .inl ⟨h, hn⟩
  · exact .inr (.inl ⟨o, h⟩)
  · exact .inr (.inr fun H' => .inr h)
theorem law_promise {K : PySem.W.Frag} {m : MF} {ns : List Int} {H : Hp} {a : Addr} (h : ∃ W', m [.scr ns] [] = .ok (.bl true) W') (hS : SqL K H a (ns.map V.int)) : spN K 1 m [.ref a] H (fun v _ => v = .bl true) fun _ _ _ => False := by
  obtain ⟨W', e⟩ := h
  refine ⟨rfl, ⟨[], []⟩, [], [.scr ns], ⟨List.nodup_nil, rfl, fun a z => absurd z (by simp), fun a z => absurd z (by simp), fun i a m z => absurd z (by simp)⟩, ⟨.ref a, [], rfl, script_rep hS ⟨by simp, by simp⟩, rfl⟩, ?_⟩
  rw [e]
  exact fun b μ' H' _ _ r => r
/-! ### the law's def at the caller's place, no repr under way there -/
/-- the script alone is tracked, if the written part does not name it -/
def scH (a : Addr) (o : Obj) (ns : List Int) (known : Bool) : Hp := fun b => if known = false ∧ b = a then some (.frz o (.lst (ns.map V.int))) else none
theorem scH_off {a b : Addr} {o : Obj} {ns : List Int} {kn : Bool} (h : ¬ (kn = false ∧ b = a)) : scH a o ns kn b = none := if_neg h
theorem scH_on {a b : Addr} {o : Obj} {ns : List Int} {kn : Bool} {u : HO} (h : scH a o ns kn b = some u) : kn = false ∧ b = a ∧ u = .frz o (.lst (ns.map V.int)) := by
  unfold scH at h
  split at h
  · rename_i c
    exact ⟨c.1, c.2, (Option.some.inj h).symm⟩
  · cases h
theorem law_callM {P : Program} {w : World} {K : PySem.W.Frag} {mg mb : Str → Option Value} {k : Nat} {fa a : Addr} {fd : FuncData} {x : Str} {sp : Sp} {s : Shared} {vs : List Value} {ns : List Int} (kin : K.In s.heap) (gl : s.heap.Ns mainGlobals mg) (bl : s.heap.Ns builtinsNs mb)
    (boot : ∀ y : Str, y ≠ "__name__" → mb y = bootBuiltins y) (nl : s.heap.NoLimit) (noG : s.gens = #[]) (at_ : s.heap.get? a = some { cls := .type "list", data := .seq vs.toArray }) (isI : IntsAre vs ns) (sz : ns.length ≤ sizeLine) (hr : Room k callerA)
    (F : ∀ base : Heap, FnOk P w K mg base (L2.CX P w) k fa fd [x] sp) (bd : ∀ (s : Shared) (u : Value), BindsTo s fd ⟨[u], []⟩ [(x, u)]) (pr : ∀ H : Hp, SqL K H a (ns.map V.int) → sp [.ref a] H (fun v _ => v = .bl true) fun _ _ _ => False) :
    codeAny (model P w) callerA (.call (.ref fa) ⟨[.ref a], []⟩) (fun r s' => r = .ok (.ret (.bool true)) ∧ OldK s.heap s'.heap ∧ s'.os = s.os ∧ AllBare s'.gens) s := by
  have vi := vals_ints isI
  have lv := isI.length
  obtain ⟨kn, ekn⟩ : ∃ kn, (K.lookup a).isSome = kn := ⟨_, rfl⟩
  obtain ⟨H, eH⟩ : ∃ H, scH a { cls := .type "list", data := .seq vs.toArray } ns kn = H := ⟨_, rfl⟩
  have on : ∀ {b : Addr} {u : HO}, H b = some u → kn = false ∧ b = a ∧ u = .frz { cls := .type "list", data := .seq vs.toArray } (.lst (ns.map V.int)) := fun e => scH_on (eH ▸ e)
  have hS : SqL K H a (ns.map V.int) := by
    cases kn with
    | false => exact .inl (.inr ⟨_, by rw [← eH]; exact if_pos ⟨rfl, rfl⟩⟩)
    | true =>
      obtain ⟨o, lo⟩ := Option.isSome_iff_exists.mp ekn
      have e := kin a o lo
      rw [at_] at e
      cases e
      exact .inr ⟨_, vs.toArray, _, lo, rfl, rfl, rfl, by rw [List.size_toArray, lv]; exact sz, by simpa using vi⟩
  have ok : HOk P w H s.heap := fun b u e => by
    obtain ⟨_, rfl, rfl⟩ := on e
    exact ⟨at_, by rw [List.length_map]; exact sz, vs, _, vi, at_⟩
  have offD : ∀ {b : Addr} {o : Obj} {es : Array DictEntry} {n : Nat}, s.heap.get? b = some o → o.data = .dict es n → H b = none := fun {b o es n} e d => by
    cases q : H b with
    | none => rfl
    | some u =>
      obtain ⟨_, rfl, _⟩ := on q
      rw [at_] at e
      cases e
      cases (show Data.seq vs.toArray _ = Data.dict es n from d)
  have low : ∀ {b : Addr} {m : Str → Option Value}, s.heap.Ns b m → (hidT s.heap H).Ns b m := fun ⟨o, es, n, e, d, r⟩ => ⟨o, es, n, hidT_get e (offD e d), d, r⟩
  have kb : K.In (hidT s.heap H) := fun b o e => hidT_get (kin b o e) (by
    cases q : H b with
    | none => rfl
    | some u =>
      obtain ⟨f, rfl, _⟩ := on q
      rw [e] at ekn
      rw [f] at ekn
      cases ekn)
  obtain ⟨mc, l1, l2⟩ := nl
  have env : Env0 P w K mg (hidT s.heap H) callerA [] s H := ⟨rfl, ⟨kb, low gl, ⟨mb, low bl, boot⟩, ⟨mc, low l1, l2⟩⟩, fun b o e => of_hidT e, Nat.le_of_eq (hidT_size _ _), trivial, fun b z => (nomatch z), ok, .of_eq noG⟩
  refine codeAny_mono ((F (hidT s.heap H)).run callerA [] s H ⟨[.ref a], []⟩ [.ref a] [.ref a] _ _ hr env (bd s (.ref a)) (.cons rfl .nil) (pr H hS)) fun r t ht => ?_
  match r, ht with
  | .error e, ⟨_, _, _, _, _, _, _, _, _, _, _, _, no⟩ => exact no.elim
  | .ok .next, ht => exact False.elim ht
  | .ok .brk, ht => exact False.elim ht
  | .ok .cont, ht => exact False.elim ht
  | .ok (.ret u), ⟨v, H', os, bare, un, ok', rv, q⟩ =>
    have q : v = .bl true := q
    subst q
    have eu : u = Value.bool true := rv
    subst eu
    refine ⟨rfl, OldK.of_keep fun b o e => ?_, os, bare⟩
    cases q : H b with
    | none => exact un.keep b o e q (fun z => nomatch (show b ∈ ([] : List Addr) from z)) (by simp)
    | some y =>
      obtain ⟨_, rfl, rfl⟩ := on q
      have old := (ok b _ q).1
      have new := (ok' b _ (un.frzs b _ _ q)).1
      rw [old] at e
      cases e
      exact new
theorem law_walk {l : PySem.W.OpenLaw} {k : Nat} {q : Program} {loose : List Str} {XP : (Str → Option Value) → Heap → Prop} {d : DefRec} {x : Str} {m : MF} {hd : Hd} (hn : l.most = some 63) (hdf : d.params.defaults = []) (hr : Room k callerA)
    (hm : ∀ ns : List Int, ns.length ≤ 63 → (∀ z ∈ ns, Builtin.Int.intBits z ≤ 1048576) → ∃ W', m [.scr ns] [] = .ok (.bl true) W')
    (F : ∀ (w : World) (mg : Str → Option Value) (fa : Addr) (h : Heap) (K : PySem.W.Frag), K.In h → hd.Says K → h.Ns mainGlobals mg → mg d.name = some (.ref fa) →
      ∃ fd : FuncData, (∀ (s : Shared) (u : Value), BindsTo s fd ⟨[u], []⟩ [(x, u)]) ∧ ∀ base : Heap, FnOk l.prog w K mg base (L2.CX l.prog w) k fa fd [x] (spN K 1 m)) :
    PySem.W.WalkO q loose XP (hd.hook.says) l.row.toRowW d [] (fun f vs => PySem.call f vs) := by
  refine Att.attach_callB hn hdf fun w s₀ s₁ mg mb fa o pm cd doc a vs ns G Y ho hd' hcd hmg hobj hints hlen hbits hg => ?_
  obtain ⟨K, KX, c⟩ := Y
  obtain ⟨fd, hb, hF⟩ := F w mg fa _ K KX c G.T.g hmg
  exact law_callM KX G.T.g G.T.b G.T.builtins G.T.nolimit hg hobj hints (Nat.le_trans hlen (by decide)) hr hF hb fun H hS => law_promise (hm ns hlen hbits) hS
end ML
set_option Elab.async false
set_option linter.all false
set_option maxRecDepth 100000
set_option maxHeartbeats 2000000
namespace ML
open PySem PySem.Spec PyProof.Rows L2
/-! ### a lambda is made -/
/-- the table is longer, the lambda's code is new; or nothing is changed -/
def TabGrown (q : Str) (P : Addr) (ps ps' : Array Value) (H H1 : Hp) (c' : Addr) : Prop := (H1 = H ∧ ps' = ps) ∨ ((∃ more, ps' = ps ++ more) ∧ H c' = none ∧ H1 = upd (upd H P (.tbl ps')) c' (LamX.CodeO c' q))
def CodesIn (q : Str) (H : Hp) (ps : Array Value) : Prop := ∀ (pos : Pos) (cv : Value), codeAmong pos ps.toList = some cv → ∃ c, cv = .ref c ∧ H c = some (LamX.CodeO c q)
abbrev lamO (q : Str) (params : Arguments) (body : Expr) (scope : Scope) (cl : List (Str × Addr)) (pm : Value) (c' : Addr) (ctv : Value) : Obj := PySem.W.kla_obj "<lambda>" q params body scope cl pm c' ctv
section
variable {X : Cx} {pins : List (Addr × Obj)} {σ : L2.St} {H : Hp} {s : Shared}
theorem lam_mk {c P : Addr} {ps : Array Value} {params : Arguments} {body : Expr} {scope : Scope} {pos : Pos} {E : Value → Shared → Prop} {Q : Value → Shared → Prop} (I : Inv X pins σ H s) (TB : LamX.TabB X.base X.mg c P) (hcode : X.env.code = .ref c)
    (hP : H P = some (.tbl ps)) (ht : TriplesOk ps.toList) (ha : CodesIn (X.env.qual ++ "<lambda>") H ps) (hdef : defaultsOf params X.env = ([], [])) (L : LamX.LamS X.env.scope scope)
    (h : ∀ (f c' : Addr) (pm ctv : Value) (H1 : Hp) (s' : Shared) (ps' : Array Value), Inv X pins σ H1 s' → TabGrown (X.env.qual ++ "<lambda>") P ps ps' H H1 c' → TriplesOk ps'.toList → CodesIn (X.env.qual ++ "<lambda>") H1 ps' →
      s'.heap.get? f = some (lamO (X.env.qual ++ "<lambda>") params body scope (cloFrom X.env.cells scope.names []) pm c' ctv) → H1 f = none → f ∉ frs X.stack → H1 c' = some (LamX.CodeO c' (X.env.qual ++ "<lambda>")) → Q (.ref f) s') :
    wpAny (model X.prog X.w) X.A (eval (.Lambda params body scope pos) X.env) Q E s := by
  have clo := LamX.LamS.has L I.ok
  refine PySem.W.kla_eval hdef ?_
  have mem0 : s.heap.get? P = some { cls := .none, data := .fields ps } := I.hok P _ hP
  have mods : s.heap.BuiltinsAt X.mg P := TB.bm.keeps I.bk
  -- no frame is as young
  have young : ∀ b : Addr, s.heap.objs.size ≤ b → b ∉ frs X.stack := fun b hb z => (List.mem_cons.mp (I.stkSub b z)).elim (fun e => Nat.lt_irrefl b (Nat.lt_of_lt_of_le (e ▸ I.lt) hb)) fun e => I.nofs hb e
  cases q : codeAmong pos ps.toList with
  | some cv =>
    obtain ⟨c', rfl, hco⟩ := ha pos cv q
    refine PySem.W.kla_makeFunctionHit (mg := X.mg) (c := c) (P := P) (ps := ps) (closure_ok clo) I.ok.glob (I.mod.glob.keeps I.bk) hcode (TB.code.keeps I.bk) mem0 ht q mods fun ctv hp tk kp sz => ?_
    exact h hp.objs.size c' ((X.mg "__name__").getD .none) ctv H _ ps (I.kept fun b o e => Heap.get?_push_of_some _ (kp b o e)) (.inl ⟨rfl, rfl⟩) ht ha (Heap.get?_push_size _ rfl) (I.hok.fresh sz) (young _ sz) hco
  | none =>
    refine PySem.W.kla_makeFunction (mg := X.mg) (c := c) (P := P) (ps := ps) (closure_ok clo) I.ok.glob (I.mod.glob.keeps I.bk) hcode (TB.code.keeps I.bk) mem0 ht q TB.gP mods fun c' ctv hp tk kp ge lt rec_ tb => ?_
    obtain ⟨c2, oc, vs, t, ec, e1, e2, e3⟩ := rec_
    cases ec
    have sz : s.heap.objs.size ≤ hp.objs.size := Nat.le_trans ge (Nat.le_of_lt lt)
    have free : H c' = none := I.hok.fresh ge
    have J := LamX.inv_table (t' := tk) (q := X.env.qual ++ "<lambda>") (more := #[rawInt pos.line, rawInt pos.col, .ref c']) (h' := hp.push (lamO (X.env.qual ++ "<lambda>") params body scope (cloFrom X.env.cells scope.names []) ((X.mg "__name__").getD .none) c' ctv)) I hP
      (fun b o nb e => Heap.get?_push_of_some _ (kp b o nb e)) (Heap.get?_push_of_some _ tb) ge ⟨oc, vs, t, Heap.get?_push_of_some _ e1, e2, e3⟩
    have app : (ps ++ #[rawInt pos.line, rawInt pos.col, .ref c']).toList = ps.toList ++ [rawInt pos.line, rawInt pos.col, .ref c'] := Array.toList_append
    have nP : P ≠ hp.objs.size := Nat.ne_of_lt (Nat.lt_of_lt_of_le (Heap.lt_size mem0) sz)
    have old : ∀ {b : Addr} {q : Str}, H b = some (LamX.CodeO b q) → upd (upd H P (.tbl (ps ++ #[rawInt pos.line, rawInt pos.col, .ref c']))) c' (LamX.CodeO c' (X.env.qual ++ "<lambda>")) b = some (LamX.CodeO b q) := fun {b q} e => by
      have n1 : b ≠ c' := ne_of_none e free
      have n2 : b ≠ P := fun z => by
        rw [z, hP] at e
        exact LamX.codeO_ne _ (Option.some.inj e).symm
      rw [upd_ne n1, upd_ne n2]
      exact e
    refine h hp.objs.size c' ((X.mg "__name__").getD .none) ctv _ _ (ps ++ #[rawInt pos.line, rawInt pos.col, .ref c']) J (.inr ⟨⟨_, rfl⟩, free, rfl⟩) (by rw [app]; exact PySem.TriplesOk_snoc _ _ _ _ ht) (fun p cv e => ?_) (Heap.get?_push_size _ rfl) ?_ (young _ sz) upd_same
    · rw [app] at e
      rcases LamX.among_app _ ht e with z | z
      · obtain ⟨c0, z1, z2⟩ := ha p cv z
        exact ⟨c0, z1, old z2⟩
      · exact ⟨c', z, upd_same⟩
    · rw [upd_ne (show hp.objs.size ≠ c' from Nat.ne_of_gt lt), upd_ne (Ne.symm nP)]
      exact I.hok.fresh sz
theorem nd_ix {l : List Addr} (h : l.Nodup) : ∀ {i j : Nat} {a : Addr}, l[i]? = some a → l[j]? = some a → i = j := by
  induction l with
  | nil => intro i j a e; simp at e
  | cons b r ih =>
    obtain ⟨n, hr⟩ := List.nodup_cons.mp h
    intro i j a e1 e2
    match i, j with
    | 0, 0 => rfl
    | 0, j + 1 =>
      have e1 : b = a := by simpa using e1
      exact absurd (List.mem_of_getElem? (show r[j]? = some a by simpa using e2)) (e1 ▸ n)
    | i + 1, 0 =>
      have e2 : b = a := by simpa using e2
      exact absurd (List.mem_of_getElem? (show r[i]? = some a by simpa using e1)) (e2 ▸ n)
    | i + 1, j + 1 => rw [ih hr (show r[i]? = some a by simpa using e1) (show r[j]? = some a by simpa using e2)]
/-- the cells stay as they are but for the table -/
theorem TabGrown.ext {K : PySem.W.Frag} {μ : Lo} {W : Wo} {H1 : Hp} {q x : Str} {P c' : Addr} {ps ps' : Array Value} {j : Nat} (g : TabGrown q P ps ps' H H1 c') (S : RepS K μ H W) (hj : μ.cells[j]? = some P) (hW : W[j]? = some (.tab x q)) (hP : H P = some (.tbl ps)) (ht : TriplesOk ps'.toList) (ha : CodesIn q H1 ps') :
    Ext μ H μ H1 ∧ RepS K μ H1 W := by
  rcases g with ⟨rfl, rfl⟩ | ⟨⟨more, em⟩, free, rfl⟩
  · exact ⟨Ext.refl _ _, S⟩
  have nc : ∀ {b : Addr} {o : HO}, H b = some o → b ≠ c' := fun e => ne_of_none e free
  have mP : P ∈ μ.cells := List.mem_of_getElem? hj
  have x : Ext μ H μ (upd (upd H P (.tbl ps')) c' (LamX.CodeO c' q)) := {
    pre := ⟨[], by simp⟩
    outS := fun _ h => h
    outN := fun _ h => .inl h
    keep := fun a o e n => by rw [upd_ne (nc e), upd_ne (fun z => n (by rw [z]; exact mP))]; exact e
    fresh := fun a m n => absurd m n
    live := fun a h => upd_live a (upd_live a h)
    keepT := fun a xs e => by rw [upd_ne (nc e), upd_ne (fun z => by rw [z, hP] at e; cases e)]; exact e
    keepZ := fun a o u e => by rw [upd_ne (nc e), upd_ne (fun z => by rw [z, hP] at e; cases e)]; exact e
    keepB := fun a qs e => by
      rw [upd_ne (nc e)]
      by_cases z : a = P
      · subst z
        rw [hP] at e
        cases e
        exact ⟨more, by rw [upd_same, em]⟩
      · rw [upd_ne z]
        exact ⟨#[], by simpa using e⟩ }
  refine ⟨x, S.nd, S.len, S.off, fun a h => x.live a (S.there a h), fun i a m e1 e2 => ?_⟩
  have old := S.at_ i a m e1 e2
  by_cases z : a = P
  · subst z
    have ij : i = j := nd_ix S.nd e1 hj
    subst ij
    rw [hW] at e2
    cases e2
    obtain ⟨ea, ps0, f1, f2, f3⟩ := old
    rw [hP] at f1
    cases f1
    refine ⟨ea, ps', by rw [upd_ne (nc hP), upd_same], ht, fun pos cv hc => ?_⟩
    obtain ⟨c, h1, h2⟩ := ha pos cv hc
    refine ⟨c, h1, h2, fun m => ?_⟩
    by_cases zc : c = c'
    · rw [zc] at m
      exact (S.notMem free).1 m
    · rw [upd_ne zc] at h2
      by_cases zP : c = a
      · rw [zP, upd_same] at h2
        exact LamX.codeO_ne _ (Option.some.inj h2).symm
      · rw [upd_ne zP] at h2
        obtain ⟨k, hk⟩ := List.getElem?_of_mem m
        have lk : k < W.length := by rw [← S.len]; exact (List.getElem?_eq_some_iff.mp hk).1
        have r := S.at_ k c _ hk (List.getElem?_eq_getElem lk)
        cases em : W[k] with
        | lst ds => rw [em] at r; obtain ⟨vs, e, _⟩ := r; rw [e] at h2; cases h2
        | ins d ds => rw [em] at r; obtain ⟨dx, vs, e, _⟩ := r; rw [e] at h2; cases h2
        | dct kvs => rw [em] at r; obtain ⟨kv, e, _⟩ := r; rw [e] at h2; cases h2
        | tab x' q' => rw [em] at r; obtain ⟨_, ps2, e, _⟩ := r; rw [e] at h2; exact LamX.codeO_ne _ (Option.some.inj h2).symm
  · exact RepM.ext x old fun u e => by rw [upd_ne (nc e), upd_ne z]; exact e
end
end ML
set_option Elab.async false
set_option linter.all false
set_option maxRecDepth 100000
set_option maxHeartbeats 2000000
namespace ML
open PySem PySem.Spec PyProof.Rows L2
/-! ### the lambda is called by the def that got it -/
section
variable {X : Cx} {pins : List (Addr × Obj)} {σ : L2.St} {H : Hp} {s : Shared}
theorem lam_act {Eg : XK} {Ng : List Str} {qg : Str} {sg : Scope} {g f c' : Addr} {cdg pm ctv : Value} {params : Arguments} {body : Expr} {scope : Scope} {k i : Nat} {a : Str} {pn : List (Addr × Obj)} {xe : Value → Shared → Prop} {W : WX} {m : ME} {p1 p2 : Pos}
    (I : Inv X pins σ H s) (L : LamX.LamS X.env.scope scope) (mem : s.heap.get? f = some (lamO (X.env.qual ++ "<lambda>") params body scope (cloFrom X.env.cells scope.names []) pm c' ctv)) (nH : H f = none) (nF : f ∉ frs X.stack)
    (nb : bindArgs (PySem.W.kla_fn "<lambda>" (X.env.qual ++ "<lambda>") params body scope (cloFrom X.env.cells scope.names []) pm (.ref c') ctv) ⟨[], []⟩ = pure [])
    (tk : Takes ((defX X.prog X.w X.K X.mg X.base Ng qg sg g cdg X.A X.stack s H Eg).tr pn xe) W) (hr : Room (k + 1) (X.A.deeper (envOfC qg sg s.heap.objs.size g cdg)))
    (hbody : ∀ (A : Around) (outer : List PySem.Env) (t : Shared) (H' : Hp) (E : XK), Room k (A.deeper (LamX.lamEnv X scope t.heap.objs.size f c')) → Takes (LamX.lamCx X A outer t H' E scope f c') (fun c d _ H' => E c d H') → PM (LamX.lamCx X A outer t H' E scope f c') (fun c d _ H' => E c d H') body m)
    (hN : Ng[i]? = some a) (hv : Vis sg a) (hd : (a == ("__debug__" : Str)) = false) (hcd : (a == ("__classdict__" : Str)) = false) :
    PE ((defX X.prog X.w X.K X.mg X.base Ng qg sg g cdg X.A X.stack s H Eg).tr pn xe) (.Call (.Name a p1) [] [] p2)
      (fun τ G Q => τ[i]? = some (some (.ref f)) ∧ G c' = some (LamX.CodeO c' (X.env.qual ++ "<lambda>")) ∧ tM X.K (RD X.K) m (fun c d _ H' => W c d τ H') σ G Q) := by
  refine ⟨fun pz sz τ G Q J ⟨ht, hc, hm⟩ => wpAny_Call_Name_kw (thn ((pe_var (pos := p1) (i := i) hN hv hd hcd).run pz sz τ G (fun v G1 => v = .ref f ∧ G1 = G) J ⟨.ref f, ht, rfl, rfl⟩) fun u s1 ⟨v, G1, J1, rv, ev, eG⟩ => ?_)⟩
  subst ev eG
  obtain rfl : u = Value.ref f := rv
  have at_ : s1.heap.get? f = some (lamO (X.env.qual ++ "<lambda>") params body scope (cloFrom X.env.cells scope.names []) pm c' ctv) := J1.base.keep f _ mem nH nF fun z => nomatch (show f ∈ ([] : List Addr) from z)
  refine PySem.W.callWith_F0 ⟨_, _, _, _, at_⟩ ?_
  obtain ⟨⟨oc, vs, t, e1, e2, e3⟩, _, _⟩ := J1.hok c' _ hc
  refine wpAny_call (codeAny_mono (R := CR (L2.CX X.prog X.w) (envOfC qg sg s.heap.objs.size g cdg :: X.stack) X.prog X.w G1 s1 Q (fun c d H' => W c d τ H')) ?_ fun r s' hq => ?_)
  · refine PySem.W.kla_callFunE hr.depth at_ rfl L.co L.gen rfl ⟨c', oc, vs, t, rfl, e1, e2, e3⟩ ?_
    refine wpAny_of_eq nb (wpAny_newFunctionEnv (fun y hy => (L.own y hy).2) (fun y hy => absurd hy (by simp)) (fun hp ns sb => ⟨J1.nolimit.fresh _ sb, ?_⟩) L.kind)
    have kp : ∀ b o, s1.heap.get? b = some o → hp.get? b = some o := fun b o e => sb.extBut b o (Nat.ne_of_lt (Heap.lt_size e)) (Heap.get?_push_of_some _ e)
    have T := LamX.lam_start2 (E := fun c d H' => W c d τ H') (A := X.A.deeper (envOfC qg sg s.heap.objs.size g cdg)) (f := f) (c' := c') (tk := s1.toks + ([] : List (Str × Value)).length) I L J1.env0 hr.hd J1.base ns kp
    have P := hbody (X.A.deeper (envOfC qg sg s.heap.objs.size g cdg)) (envOfC qg sg s.heap.objs.size g cdg :: X.stack) s1 G1 (fun c d H' => W c d τ H') (hr.deeper _) (takes_of rfl rfl rfl rfl)
    show codeAny _ _ (.expr body (LamX.lamEnv X scope s1.heap.objs.size f c')) _ _
    exact PySem.W.kla_codeExpr (wpAny_mono (P.run [] _ _ G1 Q T hm) (fun v s' ⟨y, G2, T2, ry, hy⟩ => ⟨y, G2, T2.os, T2.bare, T2.base, T2.hok, ry, hy⟩) fun e s' he => he)
  · match r, hq with
    | .error e, hq => exact passAt tk τ pz _ s1 e s' J1 hq
    | .ok (.ret u), hq => exact J1.after hq
    | .ok .next, hq => exact False.elim hq
    | .ok .brk, hq => exact False.elim hq
    | .ok .cont, hq => exact False.elim hq
end
end ML
set_option Elab.async false
set_option linter.all false
set_option maxRecDepth 100000
set_option maxHeartbeats 2000000
namespace ML
open PySem PySem.Spec PyProof.Rows L2
/-! ### x(lambda: e), x a def that tries it -/
def lamEnd : SR → Res D
  | .rt d W => .ok d W
  | .nx _ W => .ok .non W
  | _ => .bad
/-- the table of x's lambdas stands at j; n names in the def that tries; ret: it returns what comes -/
def mLam (j : Nat) (x q : Str) (n : Nat) (ks : List CM) (ret : Bool) (m : ME) : ME := fun δ W => match W[j]? with
  | some (.tab x' q') => if x' = x ∧ q' = q then (match m δ W with
    | .ok d W1 => .ok (if ret then d else .non) W1
    | .ex c fs W1 => lamEnd (pick ks c fs (List.replicate n none) W1)
    | .bad => .bad) else .bad
  | _ => .bad
def lamBody (ret : Bool) (a : Str) (p1 p2 p3 p4 p5 p8 : Pos) (j : Nat) (hds : List ExceptHandler) : List Stmt := match ret with
  | true => [.Try [.Return (some (.Call (.Name a p1) [] [] p2)) p3] hds [] [] p8]
  | false => [.Try [.Expr (.Call (.Name a p1) [] [] p2) p3] hds [] [] p8, .Return (some (.Constant .none j p4)) p5]
/-- a def that tries what it gets -/
structure LamTo (P : Program) (w : World) (K : PySem.W.Frag) (mg : Str → Option Value) (base : Heap) (x a : Str) (N : List Str) (ret : Bool) (ks : List CM) : Prop where
  ex : ∃ (g : Addr) (fd : FuncData) (pg : Arguments) (sg : Scope) (kws : List (Str × V)) (p1 p2 p3 p4 p5 p8 : Pos) (j : Nat) (h0 : ExceptHandler) (hds : List ExceptHandler), mg x = some (.ref g) ∧ FunD K x x pg (lamBody ret a p1 p2 p3 p4 p5 p8 j (h0 :: hds)) sg [] kws g fd ∧
    FnScope N [a] sg ∧ Vis sg a ∧ Binds K fd [a] [] ∧ (∀ (n : Addr) (cdv : Value), swapsWith (.Call (.Name a p1) [] [] p2) none p3.line (envOfC x sg n g cdv) = pure false) ∧
    ∀ (cdv : Value) (A : Around) (outer : List PySem.Env) (s : Shared) (H : Hp), ∃ ks' : List CM, ks'.map CM.er = ks ∧ CMok (defX P w K mg base N x sg g cdv A outer s H fun _ _ _ => False) (h0 :: hds) ks'
theorem lamEnd_ok {K : PySem.W.Frag} {μ : Lo} {H : Hp} {Q : VK} {Wx : XW} {r : SR} {Wo : WX} (h : Pst K (RD K) μ H Q Wx (lamEnd r)) : PstS K μ H { nx := fun _ H' => Q .non H', rt := Q } Wo r := by
  cases r with
  | rt d W => exact h
  | nx δ W => exact fun σ' μ' H' x S _ => h .non μ' H' x S rfl
  | bk δ W => exact h.elim
  | ct δ W => exact h.elim
  | ex c fs δ W => exact h.elim
  | bad => exact h.elim
theorem RepE.empty {K : PySem.W.Frag} {μ : Lo} {H : Hp} {σ : L2.St} {n : Nat} (h : σ.length = n) : RepE K μ H σ (List.replicate n none) := ⟨by rw [List.length_replicate]; exact h, fun i d e => by
  rw [List.getElem?_replicate] at e
  split at e <;> cases e⟩
section
variable {X : Cx} {Wx : WX}
theorem pm_lam {j k : Nat} {x xm a q : Str} {N : List Str} {ret : Bool} {ks : List CM} {params : Arguments} {body : Expr} {scope : Scope} {p lpos pos : Pos} {m : ME}
    (F : LamTo X.prog X.w X.K X.mg X.base x a N ret ks) (TB : LamX.TabB X.base X.mg (cdAd X.K (fnAd X.K xm)) (tbAd X.K xm)) (hcode : X.env.code = .ref (cdAd X.K (fnAd X.K xm))) (hq : X.env.qual ++ "<lambda>" = q) (hr : Room (k + 2) X.A) (L : LamX.LamS X.env.scope scope)
    (hbody : ∀ (A : Around) (outer : List PySem.Env) (t : Shared) (H' : Hp) (E : XK) (f c' : Addr), Room k (A.deeper (LamX.lamEnv X scope t.heap.objs.size f c')) → Takes (LamX.lamCx X A outer t H' E scope f c') (fun c d _ H' => E c d H') → PM (LamX.lamCx X A outer t H' E scope f c') (fun c d _ H' => E c d H') body m)
    (hN : N[0]? = some a := by rfl) (hg : Gl X x := by rfl) (hdef : defaultsOf params X.env = ([], []) := by rfl) (hdb : (x == ("__debug__" : Str)) = false := by decide) (hd : (a == ("__debug__" : Str)) = false := by decide) (hcd : (a == ("__classdict__" : Str)) = false := by decide)
    (nb : ∀ (q : Str) (cl : List (Str × Addr)) (pm cv ctv : Value), bindArgs (PySem.W.kla_fn "<lambda>" q params body scope cl pm cv ctv) ⟨[], []⟩ = pure [] := by intro _ _ _ _ _; rfl) :
    PM X Wx (.Call (.Name x p) [.Lambda params body scope lpos] [] pos) (mLam j xm q N.length ks ret m) := by
  obtain ⟨g, fd, pg, sg, kws, p1, p2, p3, p4, p5, p8, jj, h0, hds, hm, FD, FS, hv, hb, hsw, hk⟩ := F.ex
  have kp := FD.kp
  obtain ⟨oc, od, dV, kV, doc, pm, an, cdv, ct, osl, rfl, lk, hcd', _⟩ := FD.ex
  refine ⟨fun pins s σ H Q I h => ?_⟩
  obtain ⟨μ, W, δ, S, E, h⟩ := h
  unfold mLam at h
  split at h
  rotate_left
  · exact h.elim
  rename_i x' q' hW
  obtain ⟨⟨ex, eq⟩, hx⟩ := Pst.ite h
  clear h
  subst ex eq hq
  have hj : j < μ.cells.length := by rw [S.len]; exact (List.getElem?_eq_some_iff.mp hW).1
  obtain ⟨ea, ps, hP, ht, hcs⟩ := S.at_ j _ _ (List.getElem?_eq_getElem hj) hW
  have hj' : μ.cells[j]? = some (tbAd X.K x') := by rw [List.getElem?_eq_getElem hj, ea]
  rw [ea] at hP
  refine wpAny_Call_Name_kw (ld_glob I hg hm ?_ hdb)
  refine PySem.W.callWith_K (h₀ := X.base) I.ok.mod.kin kp ?_ (by rfl) (by rfl)
  show wpAny _ _ (spliced ((false, eval (.Lambda params body scope lpos) X.env) :: backTo pos (starEach [] X.env))) _ _ s
  refine Calls.spliced_cons (lam_mk I TB hcode hP ht (fun pos cv e => let ⟨c, h1, h2, _⟩ := hcs pos cv e; ⟨c, h1, h2⟩) hdef L fun f c' pm' ctv H1 s' ps' I1 gr ht' ha' mem nH nF hco => Calls.spliced_nil ⟨I1.kIn, ?_⟩)
  obtain ⟨xt, S1⟩ := gr.ext S hj' hW hP ht' ha'
  have E1 := E.ext xt
  have h1 := Pst.shift xt hx
  refine wpAny_call (codeAny_mono (R := CR (L2.CX X.prog X.w) X.stack X.prog X.w H1 s' Q fun _ _ _ => False) ?_ fun r s2 hz => ?_)
  rotate_left
  · match r, hz with
    | .error e, ⟨_, _, _, _, _, _, _, _, _, _, _, _, no⟩ => exact no.elim
    | .ok (.ret u), hz => exact I1.after hz
    | .ok .next, hz => exact False.elim hz
    | .ok .brk, hz => exact False.elim hz
    | .ok .cont, hz => exact False.elim hz
  refine LamX.run_ofS (N := N) (ps := [a]) (us := [.ref f]) (vs := [.ref f]) lk hcd' FS hr.r I1.env0 (hb s' [.ref f] I1.kIn rfl) (.cons rfl .nil) rfl fun hr' => ?_
  have hr2 : Room (k + 1) (X.A.deeper (envOfC x sg s'.heap.objs.size g cdv)) := ⟨hr', hr.g⟩
  obtain ⟨ks', ek, hh⟩ := hk cdv X.A X.stack s' H1
  subst ek
  have act : ∀ (V : WX) (pn : List (Addr × Obj)) (xe : Value → Shared → Prop), Takes ((defX X.prog X.w X.K X.mg X.base N x sg g cdv X.A X.stack s' H1 fun _ _ _ => False).tr pn xe) V → PE ((defX X.prog X.w X.K X.mg X.base N x sg g cdv X.A X.stack s' H1 fun _ _ _ => False).tr pn xe) (.Call (.Name a p1) [] [] p2) _ :=
    fun V pn xe tk => lam_act (i := 0) I1 L mem nH nF (nb _ _ _ _ _) tk hr2 (fun A outer t H' E2 hr3 => hbody A outer t H' E2 f c' hr3) hN hv hd hcd
  have st0 : (L2.start N [V.ref f])[0]? = some (some (V.ref f)) := rfl
  have stl : (L2.start N [V.ref f]).length = N.length := by
    unfold L2.start
    rw [List.length_append, List.length_map, List.length_replicate]
    cases N with
    | nil => cases hN
    | cons _ r => show 1 + (r.length + 1 - 1) = r.length + 1; omega
  -- what an exception meets
  have met : ∀ {c : Cl} {fs : List D} {W1 : Wo} {μ1 : Lo} {G : Hp}, Pst X.K (RD X.K) μ1 G Q (fun c d H' => Wx c d σ H') (lamEnd (pick (ks'.map CM.er) c fs (List.replicate N.length none) W1)) → ∀ cls dd μ' H', Ext μ1 G μ' H' → RepS X.K μ' H' W1 → RepX X.K μ' H' cls dd c fs →
      wishM X.K (fun _ _ _ _ => False) { nx := fun _ H' => Q .non H', rt := Q } (ks'.map (CM.t X.K)) cls dd (L2.start N [V.ref f]) H' := fun {c fs W1 μ1 G} hp cls dd μ' H' x2 S2 rx => by
    rw [pick_er] at hp
    exact pick_ok hh S2 (RepE.empty stl) rx (PstS.shift x2 (lamEnd_ok hp))
  cases ret with
  | true =>
    refine ⟨_, pss_one (ps_tryM (X := defX X.prog X.w X.K X.mg X.base N x sg g cdv X.A X.stack s' H1 fun _ _ _ => False) rfl rfl FS.nd (takes_of rfl rfl rfl rfl) (fun V pn xe tk _ => pss_one (ps_ret (act V pn xe tk))) hh.t), st0, hco, μ, W, δ, S1, E1, ?_⟩
    cases em : m δ W with
    | ok d W1 => rw [em] at h1; exact h1
    | ex c fs W1 => rw [em] at h1; exact met h1
    | bad => rw [em] at h1; exact h1.elim
  | false =>
    refine ⟨_, pss_cons (ps_tryM (X := defX X.prog X.w X.K X.mg X.base N x sg g cdv X.A X.stack s' H1 fun _ _ _ => False) rfl rfl FS.nd (takes_of rfl rfl rfl rfl) (fun V pn xe tk _ => pss_one (ps_expr (act V pn xe tk) (hsw _ _))) hh.t) (pss_one (ps_ret pe_non)), st0, hco, μ, W, δ, S1, E1, ?_⟩
    cases em : m δ W with
    | ok d W1 =>
      rw [em] at h1
      exact fun b μ' H' x2 S2 _ => h1 .non μ' H' x2 S2 rfl
    | ex c fs W1 => rw [em] at h1; exact met h1
    | bad => rw [em] at h1; exact h1.elim
end
end ML
set_option Elab.async false
set_option linter.all false
set_option maxRecDepth 100000
set_option maxHeartbeats 2000000
namespace ML
open PySem PySem.Spec PyProof.Rows L2
/-! ### a lambda with one default, an int -/
structure LamD (N : List Str) (sc scope : Scope) (b : Str) : Prop where
  kind : scope.kind = .function
  co : scope.isCoroutine = false
  gen : scope.isGenerator = false
  cell : ∀ y ∈ scope.names, y.2 ≠ .cell
  loc : ∀ y ∈ N, scope.names.lookup y ≠ some .local
  free : ∀ y ∈ scope.names, y.2 = .free → sc.names.lookup y.1 = some .cell ∨ sc.names.lookup y.1 = some .free
  b : scope.names.lookup b = some .local
def lamDB (N : List Str) (sc scope : Scope) (b : Str) : Bool :=
  decide (scope.kind = .function) && (!scope.isCoroutine && (!scope.isGenerator && ((scope.names.all fun y => !decide (y.2 = .cell)) && ((N.all fun y => !decide (scope.names.lookup y = some .local)) &&
    ((scope.names.all fun y => !decide (y.2 = .free) || (decide (sc.names.lookup y.1 = some .cell) || decide (sc.names.lookup y.1 = some .free))) && decide (scope.names.lookup b = some .local))))))
theorem lamD_by {N : List Str} {sc scope : Scope} {b : Str} (h : lamDB N sc scope b = true) : LamD N sc scope b := by
  unfold lamDB at h
  simp only [Bool.and_eq_true, Bool.or_eq_true, Bool.not_eq_true', decide_eq_true_eq, decide_eq_false_iff_not, List.all_eq_true] at h
  obtain ⟨h1, h2, h3, h4, h5, h6, h7⟩ := h
  exact ⟨h1, h2, h3, h4, h5, fun y hy e => (h6 y hy).resolve_left (fun z => z e), h7⟩
section
variable {X : Cx} {pins : List (Addr × Obj)} {σ : L2.St} {H HZ : Hp} {s s1 : Shared}
theorem LamD.has {scope : Scope} {b : Str} (L : LamD X.N X.env.scope scope b) (ok : X.Ok) (y : Str × NameKind) (hy : y ∈ scope.names) (e : y.2 = .free) : ∃ c, X.env.cells.lookup y.1 = some c := (L.free y hy e).elim (fun k => ok.has _ (.inl k)) fun k => ok.has _ (.inr k)
/-- the context of its body -/
theorem lamD_start {A : Around} {outer : List PySem.Env} {E : XK} {scope : Scope} {b : Str} {f c' : Addr} {hp : Heap} {tk : Nat} {mm : Str → Option Value} (I : Inv X pins σ H s) (L : LamD X.N X.env.scope scope b) (e0 : Env0 X.prog X.w X.K X.mg X.base A outer s1 HZ)
    (hd : A.handled = none) (un : Un (frs X.stack) [] H HZ s.heap s1.heap) (ns : hp.Ns s1.heap.objs.size mm) (kp : ∀ b o, s1.heap.get? b = some o → hp.get? b = some o) : Inv (LamX.lamCx X A outer s1 HZ E scope f c') [] σ HZ { s1 with heap := hp, toks := tk } := by
  have clo := L.has I.ok
  have back : ∀ {y : Str} {c : Addr}, (cloFrom X.env.cells scope.names []).lookup y = some c → X.env.cells.lookup y = some c := fun {y c} e => by
    rcases cloFrom_mem (PySem.mem_of_lookup e) with z | ⟨z1, z2⟩
    · exact nomatch z
    · obtain ⟨c1, e1⟩ := clo _ z1 rfl
      have e1 : X.env.cells.lookup y = some c1 := e1
      have e2 : c = c1 := by rw [z2, e1] <;> rfl
      rw [e2, e1]
  have fwd : ∀ {y : Str}, scope.names.lookup y = some .free → ∃ c, (cloFrom X.env.cells scope.names []).lookup y = some c := fun {y} e => mem_lookup (cloFrom_has (cells := X.env.cells) (acc := []) (show (y, NameKind.free) ∈ scope.names from PySem.mem_of_lookup e))
  have cells : ∀ {c : Addr} {v : Option Value}, H c = none → s.heap.IsCell c v → hp.IsCell c v := fun {c v} n ⟨o, ho, d⟩ => (un.any ho n (by simp)).elim fun sl q => ⟨_, kp _ _ q, d⟩
  have no : ∀ b : Addr, b ∉ (LamX.lamCx X A outer s1 HZ E scope f c').ex := fun b z => nomatch (show b ∈ ([] : List Addr) from z)
  refine ⟨⟨e0.mod, L.kind, rfl, rfl, Nat.le_refl _, fun y z c a1 a2 => I.ok.inj y z c (back a1) (back a2), fun y hy => ?_, fun y c z => (nomatch (show false = true from z)), fun _ => hd, Around.frames_deeper e0.frames, .inr ⟨rfl, rfl⟩, fun b z => (no b z).elim, e0.bs, e0.bsz, fun b _ _ => no b,
      fun b z => (no b z).elim, e0.funs, e0.frf⟩,
    rfl, e0.bare, Un.kept kp, ⟨_, ns, fun i y v a1 a2 a3 => ?_⟩, fun y c a1 => ?_, e0.hok.fresh (Nat.le_refl _), fun y c a1 => ?_, fun q hq => (nomatch (show q ∈ ([] : List (Addr × Obj)) from hq)), e0.hok.kept kp, I.len⟩
  · have hy : scope.names.lookup y = some .cell ∨ scope.names.lookup y = some .free := hy
    exact hy.elim (fun hy => (L.cell _ (PySem.mem_of_lookup hy) rfl).elim) fwd
  · have a3 : Vis scope y := a3
    rcases a3 with k | k | k
    · exact (L.loc y (List.mem_of_getElem? (show X.N[i]? = some y from a1)) k).elim
    · exact (L.cell _ (PySem.mem_of_lookup k) rfl).elim
    · obtain ⟨m, hn, look⟩ := I.loc
      have fr := L.free _ (PySem.mem_of_lookup k) rfl
      have vis : Vis X.env.scope y := .inr fr
      obtain ⟨u, ru, lu⟩ := look i y v a1 a2 vis
      obtain ⟨c2, h2⟩ := fwd k
      refine ⟨u, ru, .inr ⟨.inr k, c2, h2, ?_⟩⟩
      rcases lu with ⟨k', _⟩ | ⟨_, c3, e', z⟩
      · have k' : X.env.scope.names.lookup y = some .local := k'
        have fr : X.env.scope.names.lookup y = some .cell ∨ X.env.scope.names.lookup y = some .free := fr
        rw [k'] at fr
        exact (fr.elim (fun z => nomatch z) fun z => nomatch z)
      · have c1 := back h2
        rw [c1] at e'
        cases e'
        exact cells (I.freeC y _ c1) z
  · exact (I.cell y c (back a1)).elim fun u z => ⟨u, cells (I.freeC y c (back a1)) z⟩
  · obtain ⟨v, o, ho, d⟩ := I.cell y c (back a1)
    exact un.free c o ho (I.freeC y c (back a1)) (by simp)
abbrev lamOD (q : Str) (params : Arguments) (body : Expr) (scope : Scope) (cl : List (Str × Addr)) (dV doc pm : Value) (c' : Addr) (ctv : Value) : Obj := PySem.W.kdv_obj "<lambda>" q params (.expr body) scope cl dV doc pm c' ctv
theorem lam_mkD {c P : Addr} {ps : Array Value} {params : Arguments} {body : Expr} {scope : Scope} {pos dpos : Pos} {i : Int} {jj : Nat} {b : Str} {E : Value → Shared → Prop} {Q : Value → Shared → Prop} (I : Inv X pins σ H s) (TB : LamX.TabB X.base X.mg c P) (hcode : X.env.code = .ref c)
    (hP : H P = some (.tbl ps)) (ht : TriplesOk ps.toList) (ha : CodesIn (X.env.qual ++ "<lambda>") H ps) (hdef : params.defaults = [.Constant (.int i) jj dpos]) (hkd : params.kw_defaults = []) (L : LamD X.N X.env.scope scope b)
    (h : ∀ (f c' T : Addr) (t : Tok) (doc pm ctv : Value) (H1 : Hp) (s' : Shared) (ps' : Array Value), Inv X pins σ H1 s' → TabGrown (X.env.qual ++ "<lambda>") P ps ps' H H1 c' → TriplesOk ps'.toList → CodesIn (X.env.qual ++ "<lambda>") H1 ps' →
      s'.heap.get? f = some (lamOD (X.env.qual ++ "<lambda>") params body scope (cloFrom X.env.cells scope.names []) (.ref T) doc pm c' ctv) → H1 f = none → f ∉ frs X.stack → s'.heap.get? T = some (PySem.W.kdv_tup [.int i t]) → H1 T = none → T ∉ frs X.stack →
      H1 c' = some (LamX.CodeO c' (X.env.qual ++ "<lambda>")) → Q (.ref f) s') :
    wpAny (model X.prog X.w) X.A (eval (.Lambda params body scope pos) X.env) Q E s := by
  have clo := L.has I.ok
  refine PySem.W.kdv_lam (by rw [hdef]; rfl) hkd ?_
  rw [hdef]
  refine PySem.W.kdv_all1 (wpAny_Constant_int (PySem.W.kdv_all0 ?_))
  have I0 : Inv X pins σ H { s with toks := s.toks + 1 } := I.tok _
  generalize ({ s with toks := s.toks + 1 } : Shared) = s0 at I0 ⊢
  rw [makeFunction_eq]
  simp only [List.zip_nil_right, List.filterMap_nil, List.isEmpty_nil, if_true, pure_bind, List.isEmpty_cons, Bool.false_eq_true, if_false]
  refine wpAny_bind (wpAny_newTextTuple ?_)
  have I2 : Inv X pins σ H { s0 with heap := s0.heap.push (PySem.W.kdv_tup [Value.int i s.toks]) } := I0.kept (t' := s0.toks) fun b o e => Heap.get?_push_of_some _ e
  have lT : s0.heap.objs.size < (s0.heap.push (PySem.W.kdv_tup [Value.int i s.toks])).objs.size := by rw [Heap.size_push]; exact Nat.lt_succ_self _
  have aT : (s0.heap.push (PySem.W.kdv_tup [Value.int i s.toks])).get? s0.heap.objs.size = some (PySem.W.kdv_tup [Value.int i s.toks]) := Heap.get?_push_size _ rfl
  have nT : H s0.heap.objs.size = none := I0.hok.fresh (Nat.le_refl _)
  have young : ∀ b : Addr, s0.heap.objs.size ≤ b → b ∉ frs X.stack := fun b hb z => (List.mem_cons.mp (I0.stkSub b z)).elim (fun e => Nat.lt_irrefl b (Nat.lt_of_lt_of_le (e ▸ I0.lt) hb)) fun e => I0.nofs hb e
  generalize s0.heap.push (PySem.W.kdv_tup [Value.int i s.toks]) = h2 at I2 lT aT ⊢
  have mem0 : h2.get? P = some { cls := .none, data := .fields ps } := I2.hok P _ hP
  have mods : h2.BuiltinsAt X.mg P := TB.bm.keeps I2.bk
  cases q : codeAmong pos ps.toList with
  | some cv =>
    obtain ⟨c', rfl, hco⟩ := ha pos cv q
    refine PySem.W.kdv_makeTailHit (mg := X.mg) (c := c) (P := P) (ps := ps) (closure_ok clo) I2.ok.glob (I2.mod.glob.keeps I2.bk) hcode (TB.code.keeps I2.bk) mem0 ht q mods fun ctv doc hp tk kp sz => ?_
    exact h hp.objs.size c' _ s.toks doc ((X.mg "__name__").getD .none) ctv H _ ps (I2.kept fun b o e => Heap.get?_push_of_some _ (kp b o e)) (.inl ⟨rfl, rfl⟩) ht ha (Heap.get?_push_size _ rfl) (I2.hok.fresh sz) (young _ (Nat.le_trans (Nat.le_of_lt lT) sz))
      (Heap.get?_push_of_some _ (kp _ _ aT)) nT (young _ (Nat.le_refl _)) hco
  | none =>
    refine PySem.W.kdv_makeTail (mg := X.mg) (c := c) (P := P) (ps := ps) (closure_ok clo) I2.ok.glob (I2.mod.glob.keeps I2.bk) hcode (TB.code.keeps I2.bk) mem0 ht q TB.gP mods fun c' ctv doc hp tk kp ge lt rec_ tb => ?_
    obtain ⟨c2, oc, vs, t, ec, e1, e2, e3⟩ := rec_
    cases ec
    have sz : h2.objs.size ≤ hp.objs.size := Nat.le_trans ge (Nat.le_of_lt lt)
    have free : H c' = none := I2.hok.fresh ge
    have nP : P ≠ hp.objs.size := Nat.ne_of_lt (Nat.lt_of_lt_of_le (Heap.lt_size mem0) sz)
    have TP : s0.heap.objs.size ≠ P := fun z => by rw [z, hP] at nT; cases nT
    have J := LamX.inv_table (t' := tk) (q := X.env.qual ++ "<lambda>") (more := #[rawInt pos.line, rawInt pos.col, .ref c']) (h' := hp.push (lamOD (X.env.qual ++ "<lambda>") params body scope (cloFrom X.env.cells scope.names []) (.ref s0.heap.objs.size) doc ((X.mg "__name__").getD .none) c' ctv)) I2 hP
      (fun b o nb e => Heap.get?_push_of_some _ (kp b o nb e)) (Heap.get?_push_of_some _ tb) ge ⟨oc, vs, t, Heap.get?_push_of_some _ e1, e2, e3⟩
    have app : (ps ++ #[rawInt pos.line, rawInt pos.col, .ref c']).toList = ps.toList ++ [rawInt pos.line, rawInt pos.col, .ref c'] := Array.toList_append
    have old : ∀ {b : Addr} {q : Str}, H b = some (LamX.CodeO b q) → upd (upd H P (.tbl (ps ++ #[rawInt pos.line, rawInt pos.col, .ref c']))) c' (LamX.CodeO c' (X.env.qual ++ "<lambda>")) b = some (LamX.CodeO b q) := fun {b q} e => by
      have n1 : b ≠ c' := ne_of_none e free
      have n2 : b ≠ P := fun z => by
        rw [z, hP] at e
        exact LamX.codeO_ne _ (Option.some.inj e).symm
      rw [upd_ne n1, upd_ne n2]
      exact e
    refine h hp.objs.size c' s0.heap.objs.size s.toks doc ((X.mg "__name__").getD .none) ctv _ _ (ps ++ #[rawInt pos.line, rawInt pos.col, .ref c']) J (.inr ⟨⟨_, rfl⟩, free, rfl⟩) (by rw [app]; exact PySem.TriplesOk_snoc _ _ _ _ ht) (fun p cv e => ?_) (Heap.get?_push_size _ rfl) ?_ (young _ (Nat.le_trans (Nat.le_of_lt lT) sz))
      (Heap.get?_push_of_some _ (kp _ _ TP aT)) ?_ (young _ (Nat.le_refl _)) upd_same
    · rw [app] at e
      rcases LamX.among_app _ ht e with z | z
      · obtain ⟨c0, z1, z2⟩ := ha p cv z
        exact ⟨c0, z1, old z2⟩
      · exact ⟨c', z, upd_same⟩
    · rw [upd_ne (show hp.objs.size ≠ c' from Nat.ne_of_gt lt), upd_ne (Ne.symm nP)]
      exact I2.hok.fresh sz
    · rw [upd_ne (Nat.ne_of_lt (Nat.lt_of_lt_of_le lT ge)), upd_ne TP]
      exact nT
end
end ML
set_option Elab.async false
set_option linter.all false
set_option maxRecDepth 100000
set_option maxHeartbeats 2000000
namespace ML
open PySem PySem.Spec PyProof.Rows L2
/-! ### .. called, with its default -/
section
variable {X : Cx} {pins : List (Addr × Obj)} {σ : L2.St} {H : Hp} {s : Shared}
theorem lam_actD {Eg : XK} {Ng : List Str} {qg : Str} {sg : Scope} {g f c' : Addr} {cdg pm ctv doc : Value} {T : Addr} {t0 : Tok} {di : Int} {b : Str} {params : Arguments} {body : Expr} {scope : Scope} {k i : Nat} {a : Str} {pn : List (Addr × Obj)} {xe : Value → Shared → Prop} {W : WX} {m : ME} {p1 p2 : Pos}
    (I : Inv X pins σ H s) (L : LamD X.N X.env.scope scope b) (mem : s.heap.get? f = some (lamOD (X.env.qual ++ "<lambda>") params body scope (cloFrom X.env.cells scope.names []) (.ref T) doc pm c' ctv)) (nH : H f = none) (nF : f ∉ frs X.stack) (memT : s.heap.get? T = some (PySem.W.kdv_tup [.int di t0])) (nT : H T = none) (nFT : T ∉ frs X.stack)
    (nb : ∃ k, bindArgs (PySem.W.kdv_fn "<lambda>" (X.env.qual ++ "<lambda>") params (.expr body) scope (cloFrom X.env.cells scope.names []) (.ref T) doc pm (.ref c') ctv) ⟨[], []⟩ = seqItems? (.ref T) >>= k ∧ k (some #[.int di t0]) = pure [(b, .int di t0)])
    (tk : Takes ((defX X.prog X.w X.K X.mg X.base Ng qg sg g cdg X.A X.stack s H Eg).tr pn xe) W) (hr : Room (k + 1) (X.A.deeper (envOfC qg sg s.heap.objs.size g cdg)))
    (hbody : ∀ (A : Around) (outer : List PySem.Env) (t : Shared) (H' : Hp) (E : XK), Room k (A.deeper (LamX.lamEnv X scope t.heap.objs.size f c')) → Takes (LamX.lamCx X A outer t H' E scope f c') (fun c d _ H' => E c d H') → PM (LamX.lamCx X A outer t H' E scope f c') (fun c d _ H' => E c d H') body m)
    (hN : Ng[i]? = some a) (hv : Vis sg a) (hd : (a == ("__debug__" : Str)) = false) (hcd : (a == ("__classdict__" : Str)) = false) :
    PE ((defX X.prog X.w X.K X.mg X.base Ng qg sg g cdg X.A X.stack s H Eg).tr pn xe) (.Call (.Name a p1) [] [] p2)
      (fun τ G Q => τ[i]? = some (some (.ref f)) ∧ G c' = some (LamX.CodeO c' (X.env.qual ++ "<lambda>")) ∧ tM X.K (RD X.K) m (fun c d _ H' => W c d τ H') σ G Q) := by
  refine ⟨fun pz sz τ G Q J ⟨ht, hc, hm⟩ => wpAny_Call_Name_kw (thn ((pe_var (pos := p1) (i := i) hN hv hd hcd).run pz sz τ G (fun v G1 => v = .ref f ∧ G1 = G) J ⟨.ref f, ht, rfl, rfl⟩) fun u s1 ⟨v, G1, J1, rv, ev, eG⟩ => ?_)⟩
  subst ev eG
  obtain rfl : u = Value.ref f := rv
  have at_ : s1.heap.get? f = some (lamOD (X.env.qual ++ "<lambda>") params body scope (cloFrom X.env.cells scope.names []) (.ref T) doc pm c' ctv) := J1.base.keep f _ mem nH nF fun z => nomatch (show f ∈ ([] : List Addr) from z)
  refine PySem.W.callWith_F0 ⟨_, _, _, _, at_⟩ ?_
  have atT : s1.heap.get? T = some (PySem.W.kdv_tup [.int di t0]) := J1.base.keep T _ memT nT nFT fun z => nomatch (show T ∈ ([] : List Addr) from z)
  obtain ⟨kk, nb1, nb2⟩ := nb
  obtain ⟨⟨oc, vs, t, e1, e2, e3⟩, _, _⟩ := J1.hok c' _ hc
  refine wpAny_call (codeAny_mono (R := CR (L2.CX X.prog X.w) (envOfC qg sg s.heap.objs.size g cdg :: X.stack) X.prog X.w G1 s1 Q (fun c d H' => W c d τ H')) ?_ fun r s' hq => ?_)
  · refine PySem.W.kla_callFunE hr.depth at_ rfl L.co L.gen rfl ⟨c', oc, vs, t, rfl, e1, e2, e3⟩ ?_
    refine (BindsTo.of_defaults (items := #[.int di t0]) (s := s1) (args := ⟨[], []⟩) rfl atT rfl nb1 nb2) _ _ _ _ (wpAny_newFunctionEnv L.cell (fun y hy => by rw [List.mem_singleton.mp hy]; exact L.b) (fun hp ns sb => ⟨J1.nolimit.fresh _ sb, ?_⟩) L.kind)
    have kp : ∀ b o, s1.heap.get? b = some o → hp.get? b = some o := fun b o e => sb.extBut b o (Nat.ne_of_lt (Heap.lt_size e)) (Heap.get?_push_of_some _ e)
    have T := lamD_start (E := fun c d H' => W c d τ H') (A := X.A.deeper (envOfC qg sg s.heap.objs.size g cdg)) (f := f) (c' := c') (tk := s1.toks + ([(b, Value.int di t0)] : List (Str × Value)).length) I L J1.env0 hr.hd J1.base ns kp
    have P := hbody (X.A.deeper (envOfC qg sg s.heap.objs.size g cdg)) (envOfC qg sg s.heap.objs.size g cdg :: X.stack) s1 G1 (fun c d H' => W c d τ H') (hr.deeper _) (takes_of rfl rfl rfl rfl)
    show codeAny _ _ (.expr body (LamX.lamEnv X scope s1.heap.objs.size f c')) _ _
    exact PySem.W.kla_codeExpr (wpAny_mono (P.run [] _ _ G1 Q T hm) (fun v s' ⟨y, G2, T2, ry, hy⟩ => ⟨y, G2, T2.os, T2.bare, T2.base, T2.hok, ry, hy⟩) fun e s' he => he)
  · match r, hq with
    | .error e, hq => exact passAt tk τ pz _ s1 e s' J1 hq
    | .ok (.ret u), hq => exact J1.after hq
    | .ok .next, hq => exact False.elim hq
    | .ok .brk, hq => exact False.elim hq
    | .ok .cont, hq => exact False.elim hq
end
section
variable {X : Cx} {Wx : WX}
theorem pm_lamD {j k jj : Nat} {di : Int} {dpos : Pos} {x xm a q b : Str} {N : List Str} {ret : Bool} {ks : List CM} {params : Arguments} {body : Expr} {scope : Scope} {p lpos pos : Pos} {m : ME}
    (F : LamTo X.prog X.w X.K X.mg X.base x a N ret ks) (TB : LamX.TabB X.base X.mg (cdAd X.K (fnAd X.K xm)) (tbAd X.K xm)) (hcode : X.env.code = .ref (cdAd X.K (fnAd X.K xm))) (hq : X.env.qual ++ "<lambda>" = q) (hr : Room (k + 2) X.A) (L : LamD X.N X.env.scope scope b)
    (hbody : ∀ (A : Around) (outer : List PySem.Env) (t : Shared) (H' : Hp) (E : XK) (f c' : Addr), Room k (A.deeper (LamX.lamEnv X scope t.heap.objs.size f c')) → Takes (LamX.lamCx X A outer t H' E scope f c') (fun c d _ H' => E c d H') → PM (LamX.lamCx X A outer t H' E scope f c') (fun c d _ H' => E c d H') body m)
    (hN : N[0]? = some a := by rfl) (hg : Gl X x := by rfl) (hdef : params.defaults = [.Constant (.int di) jj dpos] := by rfl) (hkd : params.kw_defaults = [] := by rfl) (hdb : (x == ("__debug__" : Str)) = false := by decide) (hd : (a == ("__debug__" : Str)) = false := by decide) (hcd : (a == ("__classdict__" : Str)) = false := by decide)
    (nb : ∀ (q : Str) (cl : List (Str × Addr)) (T : Addr) (doc pm cv ctv v : Value), ∃ k, bindArgs (PySem.W.kdv_fn "<lambda>" q params (.expr body) scope cl (.ref T) doc pm cv ctv) ⟨[], []⟩ = seqItems? (.ref T) >>= k ∧ k (some #[v]) = pure [(b, v)] := by intro _ _ _ _ _ _ _ _; exact ⟨_, rfl, rfl⟩) :
    PM X Wx (.Call (.Name x p) [.Lambda params body scope lpos] [] pos) (mLam j xm q N.length ks ret m) := by
  obtain ⟨g, fd, pg, sg, kws, p1, p2, p3, p4, p5, p8, j3, h0, hds, hm, FD, FS, hv, hb, hsw, hk⟩ := F.ex
  have kp := FD.kp
  obtain ⟨oc, od, dV, kV, doc, pm, an, cdv, ct, osl, rfl, lk, hcd', _⟩ := FD.ex
  refine ⟨fun pins s σ H Q I h => ?_⟩
  obtain ⟨μ, W, δ, S, E, h⟩ := h
  unfold mLam at h
  split at h
  rotate_left
  · exact h.elim
  rename_i x' q' hW
  obtain ⟨⟨ex, eq⟩, hx⟩ := Pst.ite h
  clear h
  subst ex eq hq
  have hj : j < μ.cells.length := by rw [S.len]; exact (List.getElem?_eq_some_iff.mp hW).1
  obtain ⟨ea, ps, hP, ht, hcs⟩ := S.at_ j _ _ (List.getElem?_eq_getElem hj) hW
  have hj' : μ.cells[j]? = some (tbAd X.K x') := by rw [List.getElem?_eq_getElem hj, ea]
  rw [ea] at hP
  refine wpAny_Call_Name_kw (ld_glob I hg hm ?_ hdb)
  refine PySem.W.callWith_K (h₀ := X.base) I.ok.mod.kin kp ?_ (by rfl) (by rfl)
  show wpAny _ _ (spliced ((false, eval (.Lambda params body scope lpos) X.env) :: backTo pos (starEach [] X.env))) _ _ s
  refine Calls.spliced_cons (lam_mkD I TB hcode hP ht (fun pos cv e => let ⟨c, h1, h2, _⟩ := hcs pos cv e; ⟨c, h1, h2⟩) hdef hkd L fun f c' T t0 doc' pm' ctv H1 s' ps' I1 gr ht' ha' mem nH nF memT nT nFT hco => Calls.spliced_nil ⟨I1.kIn, ?_⟩)
  obtain ⟨xt, S1⟩ := gr.ext S hj' hW hP ht' ha'
  have E1 := E.ext xt
  have h1 := Pst.shift xt hx
  refine wpAny_call (codeAny_mono (R := CR (L2.CX X.prog X.w) X.stack X.prog X.w H1 s' Q fun _ _ _ => False) ?_ fun r s2 hz => ?_)
  rotate_left
  · match r, hz with
    | .error e, ⟨_, _, _, _, _, _, _, _, _, _, _, _, no⟩ => exact no.elim
    | .ok (.ret u), hz => exact I1.after hz
    | .ok .next, hz => exact False.elim hz
    | .ok .brk, hz => exact False.elim hz
    | .ok .cont, hz => exact False.elim hz
  refine LamX.run_ofS (N := N) (ps := [a]) (us := [.ref f]) (vs := [.ref f]) lk hcd' FS hr.r I1.env0 (hb s' [.ref f] I1.kIn rfl) (.cons rfl .nil) rfl fun hr' => ?_
  have hr2 : Room (k + 1) (X.A.deeper (envOfC x sg s'.heap.objs.size g cdv)) := ⟨hr', hr.g⟩
  obtain ⟨ks', ek, hh⟩ := hk cdv X.A X.stack s' H1
  subst ek
  have act : ∀ (V : WX) (pn : List (Addr × Obj)) (xe : Value → Shared → Prop), Takes ((defX X.prog X.w X.K X.mg X.base N x sg g cdv X.A X.stack s' H1 fun _ _ _ => False).tr pn xe) V → PE ((defX X.prog X.w X.K X.mg X.base N x sg g cdv X.A X.stack s' H1 fun _ _ _ => False).tr pn xe) (.Call (.Name a p1) [] [] p2) _ :=
    fun V pn xe tk => lam_actD (i := 0) I1 L mem nH nF memT nT nFT (nb _ _ _ _ _ _ _ _) tk hr2 (fun A outer t H' E2 hr3 => hbody A outer t H' E2 f c' hr3) hN hv hd hcd
  have st0 : (L2.start N [V.ref f])[0]? = some (some (V.ref f)) := rfl
  have stl : (L2.start N [V.ref f]).length = N.length := by
    unfold L2.start
    rw [List.length_append, List.length_map, List.length_replicate]
    cases N with
    | nil => cases hN
    | cons _ r => show 1 + (r.length + 1 - 1) = r.length + 1; omega
  -- what an exception meets
  have met : ∀ {c : Cl} {fs : List D} {W1 : Wo} {μ1 : Lo} {G : Hp}, Pst X.K (RD X.K) μ1 G Q (fun c d H' => Wx c d σ H') (lamEnd (pick (ks'.map CM.er) c fs (List.replicate N.length none) W1)) → ∀ cls dd μ' H', Ext μ1 G μ' H' → RepS X.K μ' H' W1 → RepX X.K μ' H' cls dd c fs →
      wishM X.K (fun _ _ _ _ => False) { nx := fun _ H' => Q .non H', rt := Q } (ks'.map (CM.t X.K)) cls dd (L2.start N [V.ref f]) H' := fun {c fs W1 μ1 G} hp cls dd μ' H' x2 S2 rx => by
    rw [pick_er] at hp
    exact pick_ok hh S2 (RepE.empty stl) rx (PstS.shift x2 (lamEnd_ok hp))
  cases ret with
  | true =>
    refine ⟨_, pss_one (ps_tryM (X := defX X.prog X.w X.K X.mg X.base N x sg g cdv X.A X.stack s' H1 fun _ _ _ => False) rfl rfl FS.nd (takes_of rfl rfl rfl rfl) (fun V pn xe tk _ => pss_one (ps_ret (act V pn xe tk))) hh.t), st0, hco, μ, W, δ, S1, E1, ?_⟩
    cases em : m δ W with
    | ok d W1 => rw [em] at h1; exact h1
    | ex c fs W1 => rw [em] at h1; exact met h1
    | bad => rw [em] at h1; exact h1.elim
  | false =>
    refine ⟨_, pss_cons (ps_tryM (X := defX X.prog X.w X.K X.mg X.base N x sg g cdv X.A X.stack s' H1 fun _ _ _ => False) rfl rfl FS.nd (takes_of rfl rfl rfl rfl) (fun V pn xe tk _ => pss_one (ps_expr (act V pn xe tk) (hsw _ _))) hh.t) (pss_one (ps_ret pe_non)), st0, hco, μ, W, δ, S1, E1, ?_⟩
    cases em : m δ W with
    | ok d W1 =>
      rw [em] at h1
      exact fun b μ' H' x2 S2 _ => h1 .non μ' H' x2 S2 rfl
    | ex c fs W1 => rw [em] at h1; exact met h1
    | bad => rw [em] at h1; exact h1.elim
end
end ML
set_option Elab.async false
set_option linter.all false
set_option maxRecDepth 100000
set_option maxHeartbeats 2000000
namespace ML
open PySem PySem.Spec PyProof.Rows L2
/-! ### defs that make lambdas know their code -/
section
variable {P : Program} {w : World} {K : PySem.W.Frag} {mg : Str → Option Value} {base : Heap} {x qual : Str} {params : Arguments} {body : List Stmt} {scope : Scope} {dvs : List V} {kws : List (Str × V)} {f : Addr} {fd : FuncData}
theorem cdv_of {name : Str} {dV kV doc pm cdv ct oc : Value} {an od : Option Addr} {osl : Array (Option Value)} (lk : K.lookup f = some ⟨oc, od, .func (PySem.W.fnOf name qual params body scope dV kV doc pm an cdv ct), osl⟩) (hc : PySem.W.codeIn K cdv qual = true) : cdv = .ref (cdAd K f) := by
  unfold PySem.W.codeIn at hc
  split at hc
  · rename_i c
    have e : cdAd K f = c := by
      unfold cdAd
      rw [lk]
    rw [e]
  · cases hc
theorem fn_ML {N ps : List Str} {k : Nat} {m : MS} (F : FunD K x qual params body scope dvs kws f fd) (S : FnScope N ps scope)
    (hbody : ∀ (cdv : Value) (A : Around) (outer : List PySem.Env) (s : Shared) (H : Hp) (E : XK), cdv = .ref (cdAd K f) → Room k (A.deeper (envOfC qual scope s.heap.objs.size f cdv)) → Takes (defX P w K mg base N qual scope f cdv A outer s H E) (fun c d _ H' => E c d H') →
      PMSs (defX P w K mg base N qual scope f cdv A outer s H E) (fun c d _ H' => E c d H') body m) : FnOk P w K mg base (L2.CX P w) (k + 1) f fd ps (spN K ps.length (mRun N.length ps.length m)) := by
  obtain ⟨oc, od, dV, kV, doc, pm, an, cdv, ct, osl, rfl, lk, hcd, _⟩ := F.ex
  refine ⟨fun vs H Q E h => h.1, fun A outer s H args us vs Q E hr e0 hb r h => LamX.run_ofS lk hcd S hr.r e0 hb r h.1 fun hr' => ?_⟩
  refine ⟨_, hbody cdv A outer s H E (cdv_of lk hcd) ⟨hr', hr.g⟩ (takes_of rfl rfl rfl rfl), ?_⟩
  obtain ⟨hl, μ, W, ds, S1, rs, p⟩ := h
  have hlen : (L2.start N vs) = vs.map some ++ List.replicate (N.length - ps.length) none := by
    unfold L2.start
    rw [hl]
  rw [hlen]
  refine ⟨μ, W, _, S1, RepE.args rs _, ?_⟩
  unfold mRun at p
  cases q : m (ds.map some ++ List.replicate (N.length - ps.length) none) W with
  | nx δ1 W1 => rw [q] at p; exact fun σ' μ' H' x1 S' _ => p .non μ' H' x1 S' rfl
  | rt d W1 => rw [q] at p; exact p
  | bk δ1 W1 => rw [q] at p; exact p.elim
  | ct δ1 W1 => rw [q] at p; exact p.elim
  | ex c fs δ1 W1 => rw [q] at p; exact fun cls dd σ' μ' H' x1 S' _ rx => p cls dd μ' H' x1 S' rx
  | bad => rw [q] at p; exact p.elim
theorem gl_fnL {st : Stmt} {N ps : List Str} {k : Nat} {m : MS} (A : FnAt K mg x st [] kws) (fa : mg x = some (.ref (fnAd K x))) (S : FnScope N ps (defScope st))
    (hb : ∀ (kV doc pm : Value) (an : Option Addr) (cdv ct : Value) (us : List Value), us.length = ps.length → bindArgs (PySem.W.fnOf x x (defArgs st) (defBody st) (defScope st) .none kV doc pm an cdv ct) ⟨us, []⟩ = pure (ps.zip us))
    (hbody : ∀ (f : Addr) (cdv : Value) (A : Around) (outer : List PySem.Env) (s : Shared) (H : Hp) (E : XK), cdv = .ref (cdAd K (fnAd K x)) → Room k (A.deeper (envOfC x (defScope st) s.heap.objs.size f cdv)) → Takes (defX P w K mg base N x (defScope st) f cdv A outer s H E) (fun c d _ H' => E c d H') →
      PMSs (defX P w K mg base N x (defScope st) f cdv A outer s H E) (fun c d _ H' => E c d H') (defBody st) m) : GlM P w K mg base (k + 1) x ps.length (mRun N.length ps.length m) := by
  obtain ⟨f, fd, hm, F⟩ := A
  have e : f = fnAd K x := by
    rw [hm] at fa
    cases fa
    rfl
  exact ⟨f, hm, F.kp, fd, ps, [], [], _, fn_ML F S fun cdv A outer s H E hc => hbody f cdv A outer s H E (e ▸ hc), F.bindsN hb, .nil, fun vs H Q E h => by rw [List.append_nil]; exact h⟩
end
theorem fa_of {K : PySem.W.Frag} {h : Heap} {mg : Str → Option Value} (X : K.In h) (G : h.Ns mainGlobals mg) {x : Str} (q : QGlo K x) : mg x = some (.ref (fnAd K x)) := by
  have e : fnAd K x = gAt K x := by
    unfold fnAd
    rw [show PySem.W.nsIn K mainGlobals x = some (some (.ref (gAt K x))) from q]
  rw [e]
  exact glo_of X G q
/-! ### what the head tells of a table -/
abbrev emptyTab : Obj := { cls := .none, data := .fields #[] }
def tabB (K : PySem.W.Frag) (x : Str) : Bool := (K.lookup (tbAd K x)).isNone && (match K.lookup (cdAd K (fnAd K x)) with
  | some ⟨.type t, _, .fields vs, _⟩ => decide (t = "code") && ((match (vs[11]? : Option Value) with
    | some (.ref P) => decide (P ≠ cdAd K (fnAd K x))
    | _ => false) && ((match vs.getD 18 .none with
    | .str _ _ => true
    | _ => false) && ((match vs.getD 7 .none with
    | .int _ _ => true
    | _ => false) && ((match vs.getD 9 .none with
    | .bool _ => true
    | _ => false) && (match vs.getD 10 .none with
    | .int _ _ => true
    | _ => false)))))
  | _ => false)
theorem tabB_none {K : PySem.W.Frag} {x : Str} (q : tabB K x = true) : K.lookup (tbAd K x) = none := by
  have := (all2 q).1
  cases h : K.lookup (tbAd K x) with
  | none => rfl
  | some o => rw [h] at this; cases this
theorem tabB_code {K : PySem.W.Frag} {x : Str} {h : Heap} (X : K.In h) (q : tabB K x = true) : PySem.W.CodeHd h (cdAd K (fnAd K x)) (tbAd K x) := by
  have q := (all2 q).2
  split at q
  · rename_i t od vs sl lk
    obtain ⟨q1, q⟩ := all2 q
    obtain ⟨q2, q⟩ := all2 q
    obtain ⟨q3, q⟩ := all2 q
    obtain ⟨q4, q⟩ := all2 q
    obtain ⟨q5, q6⟩ := all2 q
    have q1 : t = "code" := of_decide_eq_true q1
    subst q1
    split at q2
    · rename_i P hP
      have hP : vs[11]? = some (Value.ref P) := hP
      have e : tbAd K x = P := by
        unfold tbAd
        rw [lk]
        show (match (vs[11]? : Option Value) with
          | some (.ref P) => P
          | _ => 0) = P
        rw [hP]
      have d : vs.getD 11 .none = .ref P := by
        rw [Array.getD_eq_getD_getElem?, hP]
        rfl
      rw [e]
      split at q3
      · rename_i a1 b1 h1
        split at q4
        · rename_i a2 b2 h2
          split at q5
          · rename_i b3 h3
            split at q6
            · rename_i a4 b4 h4
              exact ⟨_, vs, _, _, _, _, _, _, _, X _ _ lk, rfl, rfl, hP, d, h1, h2, h3, h4, Ne.symm (of_decide_eq_true q2)⟩
            · cases q6
          · cases q5
        · cases q4
      · cases q3
    · cases q2
  · cases q
/-! ### the law's def, tables of lambdas at hand -/
/-- a maker and its lambdas' name -/
abbrev TabN := Str × Str
def tabW (xs : List TabN) : Wo := xs.map fun p => .tab p.1 p.2
def tabA (K : PySem.W.Frag) (xs : List TabN) : List Addr := xs.map fun p => tbAd K p.1
theorem law_promiseT {K : PySem.W.Frag} {m : MF} {ns : List Int} {H : Hp} {a : Addr} {xs : List TabN} (h : ∃ W', m [.scr ns] (tabW xs) = .ok (.bl true) W') (hS : SqL K H a (ns.map V.int)) (hT : ∀ b ∈ tabA K xs, H b = some (.tbl #[])) (nd : (tabA K xs).Nodup) (ha : a ∉ tabA K xs) :
    spN K 1 m [.ref a] H (fun v _ => v = .bl true) fun _ _ _ => False := by
  obtain ⟨W', e⟩ := h
  refine ⟨rfl, ⟨tabA K xs, []⟩, tabW xs, [.scr ns], ⟨nd, by simp [tabA, tabW], fun a _ z => absurd z (by simp), fun a z => absurd z (by simp), fun i b mo e1 e2 => ?_⟩, ⟨.ref a, [], rfl, script_rep hS ⟨ha, by simp⟩, rfl⟩, ?_⟩
  · have mb := hT b (List.mem_of_getElem? e1)
    unfold tabA at e1
    unfold tabW at e2
    rw [List.getElem?_map] at e1 e2
    cases ep : xs[i]? with
    | none => rw [ep] at e1; cases e1
    | some p =>
      rw [ep] at e1 e2
      cases e1
      cases e2
      exact ⟨rfl, #[], mb, trivial, fun pos cv z => by
        have z : codeAmong pos [] = some cv := z
        simp [codeAmong] at z⟩
  · rw [e]
    exact fun b μ' H' _ _ r => r
def tbH (T : List Addr) (G : Hp) : Hp := fun b => if b ∈ T then some (.tbl #[]) else G b
theorem tbH_in {T : List Addr} {G : Hp} {b : Addr} (h : b ∈ T) : tbH T G b = some (.tbl #[]) := if_pos h
theorem tbH_out {T : List Addr} {G : Hp} {b : Addr} (h : b ∉ T) : tbH T G b = G b := if_neg h
theorem law_callT {P : Program} {w : World} {K : PySem.W.Frag} {mg mb : Str → Option Value} {k : Nat} {fa a : Addr} {fd : FuncData} {x : Str} {sp : Sp} {s : Shared} {vs : List Value} {ns : List Int} {xs : List TabN} (kin : K.In s.heap) (gl : s.heap.Ns mainGlobals mg) (bl : s.heap.Ns builtinsNs mb)
    (boot : ∀ y : Str, y ≠ "__name__" → mb y = bootBuiltins y) (nl : s.heap.NoLimit) (noG : s.gens = #[]) (at_ : s.heap.get? a = some { cls := .type "list", data := .seq vs.toArray }) (isI : IntsAre vs ns) (sz : ns.length ≤ sizeLine) (hr : Room k callerA)
    (emp : ∀ b ∈ tabA K xs, s.heap.get? b = some emptyTab) (tb : ∀ p ∈ xs, tabB K p.1 = true) (nd : (tabA K xs).Nodup)
    (bmain : ∃ (bm : Addr) (ob : Obj), mg "__builtins__" = some (.ref bm) ∧ bm ≠ builtinsNs ∧ s.heap.get? bm = some ob ∧ ob.cls = .type "module" ∧ ob.dict = some builtinsNs ∧ ob.data = .plain)
    (F : ∀ base : Heap, (∀ p ∈ xs, LamX.TabB base mg (cdAd K (fnAd K p.1)) (tbAd K p.1)) → FnOk P w K mg base (L2.CX P w) k fa fd [x] sp) (bd : ∀ (s : Shared) (u : Value), BindsTo s fd ⟨[u], []⟩ [(x, u)])
    (pr : ∀ H : Hp, SqL K H a (ns.map V.int) → (∀ b ∈ tabA K xs, H b = some (.tbl #[])) → a ∉ tabA K xs → sp [.ref a] H (fun v _ => v = .bl true) fun _ _ _ => False) :
    codeAny (model P w) callerA (.call (.ref fa) ⟨[.ref a], []⟩) (fun r s' => r = .ok (.ret (.bool true)) ∧ OldK s.heap s'.heap ∧ s'.os = s.os ∧ AllBare s'.gens) s := by
  have vi := vals_ints isI
  have lv := isI.length
  have aT : a ∉ tabA K xs := fun z => by
    have q := emp a z
    rw [at_] at q
    exact nomatch (show Data.seq vs.toArray _ = Data.fields #[] from congrArg Obj.data (Option.some.inj q))
  obtain ⟨kn, ekn⟩ : ∃ kn, (K.lookup a).isSome = kn := ⟨_, rfl⟩
  obtain ⟨H, eH⟩ : ∃ H, tbH (tabA K xs) (scH a { cls := .type "list", data := .seq vs.toArray } ns kn) = H := ⟨_, rfl⟩
  have on : ∀ {b : Addr} {u : HO}, H b = some u → (b ∈ tabA K xs ∧ u = .tbl #[]) ∨ (b ∉ tabA K xs ∧ kn = false ∧ b = a ∧ u = .frz { cls := .type "list", data := .seq vs.toArray } (.lst (ns.map V.int))) := fun {b u} e => by
    by_cases hb : b ∈ tabA K xs
    · rw [← eH, tbH_in hb] at e
      cases e
      exact .inl ⟨hb, rfl⟩
    · rw [← eH, tbH_out hb] at e
      exact .inr ⟨hb, scH_on e⟩
  have hT : ∀ b ∈ tabA K xs, H b = some (.tbl #[]) := fun b hb => by rw [← eH]; exact tbH_in hb
  have hS : SqL K H a (ns.map V.int) := by
    cases kn with
    | false => exact .inl (.inr ⟨_, by rw [← eH, tbH_out aT]; exact if_pos ⟨rfl, rfl⟩⟩)
    | true =>
      obtain ⟨o, lo⟩ := Option.isSome_iff_exists.mp ekn
      have e := kin a o lo
      rw [at_] at e
      cases e
      exact .inr ⟨_, vs.toArray, _, lo, rfl, rfl, rfl, by rw [List.size_toArray, lv]; exact sz, by simpa using vi⟩
  have ok : HOk P w H s.heap := fun b u e => by
    rcases on e with ⟨hb, rfl⟩ | ⟨_, _, rfl, rfl⟩
    · exact emp b hb
    · exact ⟨at_, by rw [List.length_map]; exact sz, vs, _, vi, at_⟩
  -- what is neither a list nor a table is not tracked
  have off : ∀ {b : Addr} {o : Obj}, s.heap.get? b = some o → (∀ xs n, o.data ≠ .seq xs n) → o.data ≠ .fields #[] → H b = none := fun {b o} e n1 n2 => by
    cases q : H b with
    | none => rfl
    | some u =>
      rcases on q with ⟨hb, _⟩ | ⟨_, _, rfl, _⟩
      · rw [emp b hb] at e
        cases e
        exact (n2 rfl).elim
      · rw [at_] at e
        cases e
        exact (n1 _ _ rfl).elim
  have base_ : ∀ {b : Addr} {o : Obj}, s.heap.get? b = some o → (∀ xs n, o.data ≠ .seq xs n) → o.data ≠ .fields #[] → (hidT s.heap H).get? b = some o := fun e n1 n2 => hidT_get e (off e n1 n2)
  have low : ∀ {b : Addr} {m : Str → Option Value}, s.heap.Ns b m → (hidT s.heap H).Ns b m := fun ⟨o, es, n, e, d, r⟩ => ⟨o, es, n, base_ e (fun xs n z => by rw [d] at z; cases z) (fun z => by rw [d] at z; cases z), d, r⟩
  have outT : ∀ b ∈ tabA K xs, K.lookup b = none := fun b hb => by
    obtain ⟨p, hp, rfl⟩ := List.mem_map.mp hb
    exact tabB_none (tb p hp)
  have kb : K.In (hidT s.heap H) := fun b o e => hidT_get (kin b o e) (by
    cases q : H b with
    | none => rfl
    | some u =>
      rcases on q with ⟨hb, _⟩ | ⟨_, f, rfl, _⟩
      · rw [outT b hb] at e
        cases e
      · rw [e] at ekn
        rw [f] at ekn
        cases ekn)
  obtain ⟨mc, l1, l2⟩ := nl
  have env : Env0 P w K mg (hidT s.heap H) callerA [] s H := ⟨rfl, ⟨kb, low gl, ⟨mb, low bl, boot⟩, ⟨mc, low l1, l2⟩⟩, fun b o e => of_hidT e, Nat.le_of_eq (hidT_size _ _), trivial, fun b z => (nomatch z), ok, .of_eq noG⟩
  have mods : ∀ p ∈ xs, LamX.TabB (hidT s.heap H) mg (cdAd K (fnAd K p.1)) (tbAd K p.1) := fun p hp => by
    have eT := emp _ (List.mem_map.mpr ⟨p, hp, rfl⟩)
    refine ⟨tabB_code kb (tb p hp), ?_, fun z => ?_⟩
    · obtain ⟨bm, ob, b1, b2, b3, b4, b5, b6⟩ := bmain
      refine ⟨bm, ob, b1, b2, fun q => ?_, fun q => ?_, base_ b3 (fun xs n z => by rw [b6] at z; cases z) (fun z => by rw [b6] at z; cases z), b4, b5, b6⟩
      · obtain ⟨o, es, n, e, d, _⟩ := gl
        rw [q, e] at b3
        cases b3
        rw [d] at b6
        cases b6
      · have b3 : s.heap.get? bm = some ob := b3
        rw [q] at b3
        rw [show s.heap.get? (tbAd K p.1) = some emptyTab from eT] at b3
        cases b3
        cases b6
    · obtain ⟨o, es, n, e, d, _⟩ := gl
      rw [z] at e
      rw [show s.heap.get? (tbAd K p.1) = some emptyTab from eT] at e
      cases e
      cases d
  refine codeAny_mono ((F (hidT s.heap H) mods).run callerA [] s H ⟨[.ref a], []⟩ [.ref a] [.ref a] _ _ hr env (bd s (.ref a)) (.cons rfl .nil) (pr H hS hT aT)) fun r t ht => ?_
  match r, ht with
  | .error e, ⟨_, _, _, _, _, _, _, _, _, _, _, _, no⟩ => exact no.elim
  | .ok .next, ht => exact False.elim ht
  | .ok .brk, ht => exact False.elim ht
  | .ok .cont, ht => exact False.elim ht
  | .ok (.ret u), ⟨v, H', os, bare, un, ok', rv, q⟩ =>
    have q : v = .bl true := q
    subst q
    have eu : u = Value.bool true := rv
    subst eu
    have stays : ∀ b o, b ∉ tabA K xs → s.heap.get? b = some o → t.heap.get? b = some o := fun b o nb e => by
      cases q : H b with
      | none => exact un.keep b o e q (fun z => nomatch (show b ∈ ([] : List Addr) from z)) (by simp)
      | some y =>
        rcases on q with ⟨hb, _⟩ | ⟨_, _, rfl, rfl⟩
        · exact (nb hb).elim
        have old := (ok b _ q).1
        have new := (ok' b _ (un.frzs b _ _ q)).1
        rw [old] at e
        cases e
        exact new
    have longer : ∀ b ∈ tabA K xs, ∃ more : Array Value, t.heap.get? b = some { cls := .none, data := .fields more } := fun b hb => by
      obtain ⟨more, z⟩ := un.tbls b #[] (hT b hb)
      exact ⟨_, ok' b _ z⟩
    refine ⟨rfl, ⟨fun b o e => ?_, fun b o e => ?_⟩, os, bare⟩
    · by_cases hb : b ∈ tabA K xs
      · obtain ⟨p, hp, ep⟩ := List.mem_map.mp hb
        obtain ⟨more, hm⟩ := longer b hb
        have eT := emp b hb
        have hd := tabB_code kin (tb p hp)
        rw [eT] at e
        cases e
        subst ep
        exact .inr (.inl ⟨(hd.tab eT).isCodeTable, rfl, #[], more, rfl, by rw [Array.empty_append]; exact hm⟩)
      · exact .inl (stays b o hb e)
    · by_cases hb : b ∈ tabA K xs
      · obtain ⟨more, hm⟩ := longer b hb
        exact ⟨_, hm⟩
      · exact ⟨o, stays b o hb e⟩
/-! ### the head's word of the tables -/
def Hd.hookT (H : Hd) (xs : List TabN) : PySem.W.Hook where
  α := HAl × List (Option Obj)
  obs := fun s => (H.obG s.heap.get?, (tabA (He.frG s.heap.get? (asM s.heap.get? H.n)) xs).map s.heap.get?)
  val := fun _ => (H.val, xs.map fun _ => some emptyTab)
  says := fun _ h => ∃ K : Fg, K.In h ∧ H.Says K ∧ ∀ b ∈ tabA K xs, h.get? b = some emptyTab
  of := fun _ _ e => ⟨_, He.frG_in, ⟨(Prod.mk.inj e).1⟩, fun b hb => by
    have e2 := (Prod.mk.inj e).2
    obtain ⟨i, hi⟩ := List.getElem?_of_mem hb
    have e3 := congrArg (fun l : List (Option Obj) => l[i]?) e2
    have e3 : (List.map _ (tabA _ xs))[i]? = (xs.map fun _ => some emptyTab)[i]? := e3
    rw [List.getElem?_map, hi, List.getElem?_map] at e3
    cases q : xs[i]? with
    | none => rw [q] at e3; cases e3
    | some p => rw [q] at e3; exact Option.some.inj e3⟩
  keeps := fun _ _ _ ⟨K, hK, c, t⟩ k => ⟨K, PySem.W.Frag.In.keeps hK k, c, fun b hb => k _ _ (t b hb)⟩
def Hd.obGT (H : Hd) (xs : List TabN) (g : Addr → Option Obj) : HAl × List (Option Obj) := (H.obG g, (tabA (He.frG g (asM g H.n)) xs).map g)
theorem Hd.obGT_eq {H : Hd} {xs : List TabN} {g : Addr → Option Obj} {s : Shared} (h : ∀ a, g a = s.heap.get? a) : H.obGT xs g = (H.hookT xs).obs s := by
  rw [show g = s.heap.get? from funext h]
  rfl
def tabsB (xs : List TabN) (K : Fg) : Bool := (xs.all fun p => tabB K p.1) && decide (tabA K xs).Nodup
theorem law_walkT {l : PySem.W.OpenLaw} {k : Nat} {q : Program} {loose : List Str} {XP : (Str → Option Value) → Heap → Prop} {d : DefRec} {x : Str} {m : MF} {hd : Hd} {xs : List TabN} (hn : l.most = some 63) (hdf : d.params.defaults = []) (hr : Room k callerA)
    (hm : ∀ ns : List Int, ns.length ≤ 63 → (∀ z ∈ ns, Builtin.Int.intBits z ≤ 1048576) → ∃ W', m [.scr ns] (tabW xs) = .ok (.bl true) W') (tbs : ∀ K, hd.Says K → tabsB xs K = true)
    (F : ∀ (w : World) (mg : Str → Option Value) (fa : Addr) (h : Heap) (K : PySem.W.Frag), K.In h → hd.Says K → h.Ns mainGlobals mg → mg d.name = some (.ref fa) →
      ∃ fd : FuncData, (∀ (s : Shared) (u : Value), BindsTo s fd ⟨[u], []⟩ [(x, u)]) ∧ ∀ base : Heap, (∀ p ∈ xs, LamX.TabB base mg (cdAd K (fnAd K p.1)) (tbAd K p.1)) → FnOk l.prog w K mg base (L2.CX l.prog w) k fa fd [x] (spN K 1 m)) :
    PySem.W.WalkO q loose XP ((hd.hookT xs).says) l.row.toRowW d [] (fun f vs => PySem.call f vs) := by
  refine Att.attach_callB hn hdf fun w s₀ s₁ mg mb fa o pm cd doc a vs ns G Y ho hd' hcd hmg hobj hints hlen hbits hg => ?_
  obtain ⟨K, KX, c, t⟩ := Y
  obtain ⟨fd, hb, hF⟩ := F w mg fa _ K KX c G.T.g hmg
  obtain ⟨t1, t2⟩ := all2 (tbs K c)
  have t2 : (tabA K xs).Nodup := of_decide_eq_true t2
  exact law_callT KX G.T.g G.T.b G.T.builtins G.T.nolimit hg hobj hints (Nat.le_trans hlen (by decide)) hr t (fun p hp => List.all_eq_true.mp t1 p hp) t2 G.T.bmain hF hb fun H hS hT hA => law_promiseT (hm ns hlen hbits) hS hT t2 hA
end ML
set_option Elab.async false
set_option linter.all false
set_option maxRecDepth 100000
set_option maxHeartbeats 2000000
namespace ML
open PySem PySem.Spec PyProof.Rows L2
/-! ### points, polygons: plain -/
abbrev P2 := Int × Int
def crossP (a b : P2) : Int := a.1 * b.2 - a.2 * b.1
def subP (e s : P2) : P2 := (e.1 - s.1, e.2 - s.2)
def turnP (a b c : P2) : Int := crossP (subP b a) (subP c b)
def dP (p : P2) : D := .tup [.int p.1, .int p.2]
def nthP (ps : List P2) (i : Nat) : P2 := ps.getD i (0, 0)
/-- the corner i with its neighbours -/
def triP (ps : List P2) (i : Nat) : P2 × P2 × P2 := (nthP ps ((i + ps.length - 1) % ps.length), nthP ps i, nthP ps ((i + 1) % ps.length))
def turnAt (ps : List P2) (i : Nat) : Int := turnP (triP ps i).1 (triP ps i).2.1 (triP ps i).2.2
/-- the edge i -/
def edgeP (ps : List P2) (i : Nat) : P2 × P2 := (nthP ps i, nthP ps ((i + 1) % ps.length))
/-- two edges have nothing in common, and no end of one lies on the other's line -/
def apartP (e f : P2 × P2) : Bool :=
  decide (turnP e.1 e.2 f.1 ≠ 0) && decide (turnP e.1 e.2 f.2 ≠ 0) && decide (turnP f.1 f.2 e.1 ≠ 0) && decide (turnP f.1 f.2 e.2 ≠ 0) &&
  !(decide (turnP e.1 e.2 f.1 * turnP e.1 e.2 f.2 < 0) && decide (turnP f.1 f.2 e.1 * turnP f.1 f.2 e.2 < 0))
def areaP (ps : List P2) : Int := ((List.range ps.length).map fun i => crossP (edgeP ps i).1 (edgeP ps i).2).sum
def ltP (a b : P2) : Bool := decide (a.1 < b.1) || (decide (a.1 = b.1) && decide (a.2 < b.2))
def minIx (ps : List P2) : Nat := argBest (fun i j => ltP (nthP ps i) (nthP ps j)) (ps.length - 1)
def minP (ps : List P2) : P2 := nthP ps (minIx ps)
def posP (q : P2) : List P2 → Nat
  | [] => 0
  | p :: r => if p = q then 0 else posP q r + 1
def rotP (ps : List P2) : List P2 := ps.drop (posP (minP ps) ps) ++ ps.take (posP (minP ps) ps)
def arrP (ps : List P2) : List P2 := rotP (if 0 < areaP ps then ps else ps.reverse)
/-- the first corner that does not turn left -/
def reflexP (ps : List P2) : Option Nat := (List.range ps.length).find? fun i => decide (turnAt ps i < 0)
def bdI (n : Nat) (i : Int) : Bool := decide (i.natAbs < 2 ^ n)
def bdP (n : Nat) (p : P2) : Bool := bdI n p.1 && bdI n p.2
def ptOf : D → Option P2
  | .tup [.int x, .int y] => some (x, y)
  | _ => none
def ptsL : List D → Option (List P2)
  | [] => some []
  | d :: r => match ptOf d, ptsL r with
    | some p, some l => some (p :: l)
    | _, _ => none
def ptsOf : D → Option (List P2)
  | .lst xs => ptsL xs
  | .tup xs => ptsL xs
  | _ => none
/-- a polygon that is valid without a second look: no corner on a line through two others that matters -/
def goodP (ps : List P2) : Bool :=
  decide (3 ≤ ps.length ∧ ps.length ≤ 60) && ps.all (bdP 2000) && (List.range ps.length).all (fun i => decide (turnAt ps i ≠ 0)) &&
  (List.range ps.length).all fun i => (List.range ps.length).all fun j => decide (j < i + 2) || decide ((j + 1) % ps.length = i) || apartP (edgeP ps i) (edgeP ps j)
def keptD (ps : List P2) : D := .tup (ps.map dP)
def reflexD : Option Nat → D
  | none => .non
  | some i => .int i
def F_Polygon : List D → IR
  | [d] => match ptsOf d with
    | some ps => if goodP ps then some (.inl [keptD (arrP ps), reflexD (reflexP (arrP ps))]) else none
    | none => none
  | _ => none
def F_ConvexPolygon : List D → IR
  | [d] => match ptsOf d with
    | some ps => if goodP ps then match reflexP (arrP ps) with
        | none => some (.inl [keptD (arrP ps), .non])
        | some i => some (.inr (.NotConvex, [.int i]))
      else none
    | none => none
  | _ => none
def intsL : List D → Option (List Int)
  | [] => some []
  | .int i :: r => match intsL r with
    | some l => some (i :: l)
    | none => none
  | _ => none
def F_GridMap_6 : List D → IR
  | [.int a, .int b, .int c, .int d, .int e, .int f] => if bdI 2000 a && bdI 2000 b && bdI 2000 c && bdI 2000 d then
      if (a * d - b * c).natAbs = 1 then some (.inl [.tup [.int a, .int b, .int c, .int d, .int e, .int f]]) else some (.inr (.InvalidMap, []))
    else none
  | _ => none
end ML
set_option Elab.async false
set_option linter.all false
set_option maxRecDepth 100000
set_option maxHeartbeats 2000000
namespace ML
open PySem PySem.Spec PyProof.Rows L2
/-! ### what operations compute -/
section
variable {W : Wo} {i j : Int} {p q : Bool} {d e : D}
theorem e_sub : subD (.int i) (.int j) W = .ok (.int (i - j)) W := rfl
theorem e_add : addD (.int i) (.int j) W = .ok (.int (i + j)) W := rfl
theorem e_lt : ltI (.int i) (.int j) W = .ok (.bl (decide (i < j))) W := rfl
theorem e_le : leI (.int i) (.int j) W = .ok (.bl (decide (i ≤ j))) W := rfl
theorem e_gt : gtI (.int i) (.int j) W = .ok (.bl (decide (j < i))) W := rfl
theorem e_ge : geI (.int i) (.int j) W = .ok (.bl (decide (j ≤ i))) W := rfl
theorem e_eqD (neg : Bool) {a b : PyData} (h1 : pdW W d = some a) (h2 : pdW W e = some b) (h3 : SeqAt.shaped a = true) (h4 : SeqAt.shaped b = true) : eqD neg d e W = .ok (.bl (if neg then !PyData.eqv a b else PyData.eqv a b)) W := by
  unfold eqD
  rw [h1, h2]
  exact if_pos ⟨h3, h4⟩
theorem e_eqI : eqD false (.int i) (.int j) W = .ok (.bl (decide (i = j))) W := by
  rw [e_eqD false (a := .int i) (b := .int j) rfl rfl rfl rfl]
  congr 2
theorem e_neI : eqD true (.int i) (.int j) W = .ok (.bl (decide (i ≠ j))) W := by
  rw [e_eqD true (a := .int i) (b := .int j) rfl rfl rfl rfl]
  congr 2
  show (!PyData.eqv (.int i) (.int j)) = _
  have h := e_eqI (W := W) (i := i) (j := j)
  rw [e_eqD false (a := .int i) (b := .int j) rfl rfl rfl rfl] at h
  have h : PyData.eqv (.int i) (.int j) = decide (i = j) := by injection h with h1; injection h1
  rw [h]
  by_cases q : i = j <;> simp [q]
theorem e_not : notD (.bl p) W = .ok (.bl (!p)) W := rfl
theorem e_neg : negD (.int i) W = .ok (.int (-i)) W := rfl
theorem e_idT {xs : List D} : idxD (.tup xs) (.int i) W = match atI xs i with
  | some x => .ok x W
  | none => .bad := rfl
theorem e_isN (neg : Bool) : isND neg .non W = .ok (.bl (!neg)) W := rfl
theorem e_isNi (neg : Bool) : isND neg (.int i) W = .ok (.bl neg) W := rfl
theorem e_mulB (h : big i j = true) : mulS2 (.int i) (.int j) W = .ok (.int (i * j)) W := if_pos (by rw [h]; rfl)
theorem e_mulL (h : smallI i = true) : mulS2 (.int i) (.int j) W = .ok (.int (i * j)) W := if_pos (by rw [h]; simp)
theorem e_mulR (h : smallI j = true) : mulS2 (.int i) (.int j) W = .ok (.int (i * j)) W := if_pos (by rw [h]; simp)
theorem e_mod (h : 0 < j) : modD (.int i) (.int j) W = .ok (.int (i % j)) W := if_pos h
theorem e_fdiv (h : 0 < j) (h2 : j.natAbs.log2 < 8999) : fdivD (.int i) (.int j) W = .ok (.int (i / j)) W := if_pos ⟨h, h2⟩
end
/-! ### sizes -/
theorem bdI_iff {n : Nat} {i : Int} : bdI n i = true ↔ i.natAbs < 2 ^ n := by unfold bdI; exact decide_eq_true_iff
theorem big_of {n m : Nat} {i j : Int} (hi : i.natAbs < 2 ^ n) (hj : j.natAbs < 2 ^ m) (h : n + m + 2 ≤ 900000) : big i j = true := by
  unfold big
  apply decide_eq_true
  have a : i.natAbs.log2 ≤ n := by
    by_cases z : i.natAbs = 0
    · rw [z]; simp
    · exact Nat.le_of_lt ((Nat.log2_lt z).mpr hi)
  have b : j.natAbs.log2 ≤ m := by
    by_cases z : j.natAbs = 0
    · rw [z]; simp
    · exact Nat.le_of_lt ((Nat.log2_lt z).mpr hj)
  omega
theorem bd_sub {n : Nat} {i j : Int} (hi : i.natAbs < 2 ^ n) (hj : j.natAbs < 2 ^ n) : (i - j).natAbs < 2 ^ (n + 1) := by
  rw [Nat.pow_succ]
  omega
theorem bd_mul {n m : Nat} {i j : Int} (hi : i.natAbs < 2 ^ n) (hj : j.natAbs < 2 ^ m) : (i * j).natAbs < 2 ^ (n + m) := by
  rw [Int.natAbs_mul, Nat.pow_add]
  rcases Nat.eq_zero_or_pos j.natAbs with z | z
  · rw [z, Nat.mul_zero]
    exact Nat.mul_pos (Nat.two_pow_pos _) (Nat.two_pow_pos _)
  · exact Nat.lt_of_lt_of_le (Nat.mul_lt_mul_of_pos_right hi z) (Nat.mul_le_mul_left _ (Nat.le_of_lt hj))
theorem bd_up {n m : Nat} {i : Int} (hi : i.natAbs < 2 ^ n) (h : n ≤ m) : i.natAbs < 2 ^ m := Nat.lt_of_lt_of_le hi (Nat.pow_le_pow_right (by decide) h)
/-! ### a turn, bounded -/
structure BP (n : Nat) (p : P2) : Prop where
  x : p.1.natAbs < 2 ^ n
  y : p.2.natAbs < 2 ^ n
theorem bdP_iff {n : Nat} {p : P2} : bdP n p = true ↔ BP n p := by
  unfold bdP
  rw [Bool.and_eq_true, bdI_iff, bdI_iff]
  exact ⟨fun ⟨a, b⟩ => ⟨a, b⟩, fun ⟨a, b⟩ => ⟨a, b⟩⟩
theorem BP.sub {n : Nat} {p q : P2} (hp : BP n p) (hq : BP n q) : BP (n + 1) (subP p q) := ⟨bd_sub hp.x hq.x, bd_sub hp.y hq.y⟩
theorem BP.cross {n : Nat} {p q : P2} (hp : BP n p) (hq : BP n q) : (crossP p q).natAbs < 2 ^ (n + n + 1) := bd_sub (bd_mul hp.x hq.y) (bd_mul hp.y hq.x)
theorem BP.turn {n : Nat} {a b c : P2} (ha : BP n a) (hb : BP n b) (hc : BP n c) : (turnP a b c).natAbs < 2 ^ (n + 1 + (n + 1) + 1) := (hb.sub ha).cross (hc.sub hb)
/-! ### steps -/
section
variable {δ δ1 : Env} {W W' : Wo}
theorem sSeq_of {m n : MS} (h : m δ W = .nx δ1 W') : sSeq m n δ W = n δ1 W' := by
  unfold sSeq
  rw [h]
theorem mRun_nx {a b : Nat} {m : MS} {ds : List D} {δ0 : Env} (e : ds.map some ++ List.replicate (a - b) none = δ0) (h : m δ0 W = .nx δ1 W') : mRun a b m ds W = .ok .non W' := by
  unfold mRun
  rw [e, h]
theorem mRun_rt {a b : Nat} {m : MS} {ds : List D} {δ0 : Env} {d : D} (e : ds.map some ++ List.replicate (a - b) none = δ0) (h : m δ0 W = .rt d W') : mRun a b m ds W = .ok d W' := by
  unfold mRun
  rw [e, h]
theorem mRun_ex {a b : Nat} {m : MS} {ds : List D} {δ0 : Env} {c : Cl} {fs : List D} (e : ds.map some ++ List.replicate (a - b) none = δ0) (h : m δ0 W = .ex c fs δ1 W') : mRun a b m ds W = .ex c fs W' := by
  unfold mRun
  rw [e, h]
theorem sSet_of {i : Nat} {m : ME} {d : D} (h : m δ W = .ok d W') : sSet i m δ W = .nx (δ.set i (some d)) W' := by
  unfold sSet
  rw [h]
  rfl
theorem sEx_of {m : ME} {d : D} (h : m δ W = .ok d W') : sEx m δ W = .nx δ W' := by
  unfold sEx
  rw [h]
  rfl
theorem sRt_of {m : ME} {d : D} (h : m δ W = .ok d W') : sRt m δ W = .rt d W' := by
  unfold sRt
  rw [h]
  rfl
theorem sIf_of {t : MT} {m n : MS} {k : Bool} (h : t δ W = .ok k W') : sIf t m n δ W = if k then m δ W' else n δ W' := by
  unfold sIf
  rw [h]
  rfl
theorem sIf_t {t : MT} {m n : MS} (h : t δ W = .ok true W') : sIf t m n δ W = m δ W' := sIf_of h
theorem sIf_f {t : MT} {m n : MS} (h : t δ W = .ok false W') : sIf t m n δ W = n δ W' := sIf_of h
theorem mCall_of {m : MF} {r : MA} {ds : List D} (h : r δ W = .ok ds W') : mCall m r δ W = m ds W' := by
  unfold mCall
  rw [h]
  rfl
theorem mItA_of {f : List D → Wo → Res (List D)} {r : MA} {ds : List D} (h : r δ W = .ok ds W') : mItA f r δ W = f ds W' := by
  unfold mItA
  rw [h]
  rfl
theorem sFor_of {mi : MI} {g : GM} {b : MS} {items : List D} (h : mi δ W = .ok items W') : sFor mi g b δ W = forL g b items δ W' := by
  unfold sFor
  rw [h]
  rfl
theorem mBin_of {op : DOp} {m n : ME} {d e : D} {W1 W2 : Wo} (h : m δ W = .ok d W1) (h2 : n δ W1 = .ok e W2) : mBin op m n δ W = op d e W2 := by
  unfold mBin
  rw [h]
  show (n δ W1).bind _ = _
  rw [h2]
  rfl
theorem mUn_of {f : D → Wo → Res D} {m : ME} {d : D} (h : m δ W = .ok d W') : mUn f m δ W = f d W' := by
  unfold mUn
  rw [h]
  rfl
theorem aCons_of {m : ME} {r : MA} {d : D} {ds : List D} {W1 : Wo} (h : m δ W = .ok d W1) (h2 : r δ W1 = .ok ds W') : aCons m r δ W = .ok (d :: ds) W' := by
  unfold aCons
  rw [h]
  show (r δ W1).bind _ = _
  rw [h2]
  rfl
theorem mTst_of {m : ME} {k : Bool} (h : m δ W = .ok (.bl k) W') : mTst m δ W = .ok k W' := by
  unfold mTst
  rw [h]
  rfl
end
/-! ### loops -/
theorem lcL_map {g : GM} {tt : MT} {el : ME} {δ : Env} {W : Wo} (f : D → D) : ∀ items : List D, (∀ x ∈ items, ∃ δ1, g x δ = some δ1 ∧ tt δ1 W = .ok true W ∧ el δ1 W = .ok (f x) W) → lcL g tt el δ items W = .ok (items.map f) W
  | [], _ => rfl
  | x :: r, h => by
    obtain ⟨δ1, h1, h2, h3⟩ := h x List.mem_cons_self
    unfold lcL
    simp only [h1, h2, h3, lcL_map f r fun y hy => h y (List.mem_cons_of_mem _ hy), List.map_cons]
theorem forL_ix {g : GM} {b : MS} (I : Nat → Env → Wo → Prop) : ∀ (items : List D) (k : Nat) (δ : Env) (W : Wo), (∀ i x δ W, items[i]? = some x → I (k + i) δ W → ∃ δ1 δ2 W2, g x δ = some δ1 ∧ b δ1 W = .nx δ2 W2 ∧ I (k + i + 1) δ2 W2) → I k δ W →
    ∃ δ2 W2, forL g b items δ W = .nx δ2 W2 ∧ I (k + items.length) δ2 W2
  | [], k, δ, W, _, h0 => ⟨δ, W, rfl, h0⟩
  | x :: r, k, δ, W, h, h0 => by
    obtain ⟨δ1, δ2, W2, h1, h2, h3⟩ := h 0 x δ W rfl h0
    obtain ⟨δ3, W3, h4, h5⟩ := forL_ix I r (k + 1) δ2 W2 (fun i y δ W hy hI => by
      obtain ⟨δ1, δ2, W2, q1, q2, q3⟩ := h (i + 1) y δ W (by simpa using hy) (by rw [show k + (i + 1) = k + 1 + i by omega]; exact hI)
      exact ⟨δ1, δ2, W2, q1, q2, by rw [show k + 1 + i + 1 = k + (i + 1) + 1 by omega]; exact q3⟩) h3
    refine ⟨δ3, W3, ?_, by rw [List.length_cons, show k + (r.length + 1) = k + 1 + r.length by omega]; exact h5⟩
    unfold forL
    simp only [h1, h2, SR.turn]
    exact h4
theorem genL_no {g : GM} {t : MT} {b : MS} (I : Env → Prop) {W : Wo} : ∀ (items : List D) (δ : Env), (∀ x ∈ items, ∀ δ, I δ → ∃ δ1, g x δ = some δ1 ∧ t δ1 W = .ok false W ∧ I δ1) → I δ → ∃ δ2, genL g t b items δ W = .nx δ2 W ∧ I δ2
  | [], δ, _, h0 => ⟨δ, rfl, h0⟩
  | x :: r, δ, h, h0 => by
    obtain ⟨δ1, h1, h2, h3⟩ := h x List.mem_cons_self δ h0
    obtain ⟨δ2, h4, h5⟩ := genL_no I r δ1 (fun y hy => h y (List.mem_cons_of_mem _ hy)) h3
    refine ⟨δ2, ?_, h5⟩
    unfold genL
    simp only [h1, h2, Bool.false_eq_true, if_false]
    exact h4
end ML
set_option Elab.async false
set_option linter.all false
set_option maxRecDepth 100000
set_option maxHeartbeats 4000000
namespace ML
open PySem PySem.Spec PyProof.Rows L2
def top (i : Nat) : Stmt := PySem.Challenge.pw_latticeshapes_k80_values_formatted.main.body.getD i (.Pass ⟨0, 0, 0, 0⟩)
def g_int : TyK → Option Bool
  | .b .none => some false
  | .b .bool => some true
  | .b .int => some true
  | .b .str => some false
  | .b .tuple => some false
  | .b .list => some false
  | .b .dict => some false
  | .o .GridMap => some false
  | .o .Polygon => some false
  | _ => none
def g_bool : TyK → Option Bool
  | .b .none => some false
  | .b .bool => some true
  | .b .int => some false
  | .b .str => some false
  | .b .tuple => some false
  | .b .list => some false
  | .b .dict => some false
  | .o .GridMap => some false
  | .o .Polygon => some false
  | _ => none
def g_str : TyK → Option Bool
  | .b .none => some false
  | .b .bool => some false
  | .b .int => some false
  | .b .str => some true
  | .b .tuple => some false
  | .b .list => some false
  | .b .dict => some false
  | .o .GridMap => some false
  | .o .Polygon => some false
  | _ => none
def g_tuple : TyK → Option Bool
  | .b .none => some false
  | .b .bool => some false
  | .b .int => some false
  | .b .str => some false
  | .b .tuple => some true
  | .b .list => some false
  | .b .dict => some false
  | .o .GridMap => some false
  | .o .Polygon => some false
  | _ => none
def g_list : TyK → Option Bool
  | .b .none => some false
  | .b .bool => some false
  | .b .int => some false
  | .b .str => some false
  | .b .tuple => some false
  | .b .list => some true
  | .b .dict => some false
  | .o .GridMap => some false
  | .o .Polygon => some false
  | _ => none
def g_dict : TyK → Option Bool
  | .b .none => some false
  | .b .bool => some false
  | .b .int => some false
  | .b .str => some false
  | .b .tuple => some false
  | .b .list => some false
  | .b .dict => some true
  | .o .GridMap => some false
  | .o .Polygon => some false
  | _ => none
def g_GridMap : TyK → Option Bool
  | .b _ => some false
  | .o .GridMap => some true
  | .o .Polygon => some false
  | _ => none
def g_Polygon : TyK → Option Bool
  | .b _ => some false
  | .o .GridMap => some false
  | .o .Polygon => some true
  | _ => none
def fl_first : Cl → Option Nat
  | _ => none
def fl_kept : Cl → Option Nat
  | .Polygon => some 0
  | _ => none
def fl_position : Cl → Option Nat
  | _ => none
def fl_reflex : Cl → Option Nat
  | .Polygon => some 1
  | _ => none
def fl_second : Cl → Option Nat
  | _ => none
def fl_six : Cl → Option Nat
  | .GridMap => some 0
  | _ => none
def em_InvalidInteger : Cl → Option Bool
  | .ShapeError => some false
  | .InvalidInteger => some true
  | .InvalidPoint => some false
  | .InvalidMap => some false
  | .InvalidPolygon => some false
  | .DegenerateCorner => some false
  | .CrossingEdges => some false
  | _ => none
def em_InvalidMap : Cl → Option Bool
  | .ShapeError => some false
  | .InvalidInteger => some false
  | .InvalidPoint => some false
  | .InvalidMap => some true
  | .InvalidPolygon => some false
  | .DegenerateCorner => some false
  | .CrossingEdges => some false
  | _ => none
def em_InvalidPoint : Cl → Option Bool
  | .ShapeError => some false
  | .InvalidInteger => some false
  | .InvalidPoint => some true
  | .InvalidMap => some false
  | .InvalidPolygon => some false
  | .DegenerateCorner => some false
  | .CrossingEdges => some false
  | _ => none
def em_InvalidPolygon : Cl → Option Bool
  | .ShapeError => some false
  | .InvalidInteger => some false
  | .InvalidPoint => some false
  | .InvalidMap => some false
  | .InvalidPolygon => some true
  | .DegenerateCorner => some false
  | .CrossingEdges => some false
  | _ => none
def fx_position : Cl → Option Nat
  | .InvalidPolygon => some 0
  | .DegenerateCorner => some 0
  | _ => none
end ML
set_option Elab.async false
set_option linter.all false
set_option maxRecDepth 100000
set_option maxHeartbeats 0
set_option synthInstance.maxSize 1000000
set_option synthInstance.maxHeartbeats 0
namespace ML
open PySem PySem.Spec PyProof.Rows L2
abbrev prog : Program := (PySem.W.OpenLaw.row PySem.Challenge.rw_latticeshapes_k80_values_formatted).prog
def tbL : List TabN := [("_law_refused", "_law_refused.<locals>.<lambda>")]
def hdf0 : Df := ⟨fun K => gAt K "_wall", "_wall", "_wall", defArgs (top 0), defBody (top 0), defScope (top 0), [], []⟩
def hdf1 : Df := ⟨fun K => gAt K "is_integer", "is_integer", "is_integer", defArgs (top 10), defBody (top 10), defScope (top 10), [], []⟩
def hdf2 : Df := ⟨fun K => gAt K "check_integer", "check_integer", "check_integer", defArgs (top 11), defBody (top 11), defScope (top 11), [.non], []⟩
def hdf3 : Df := ⟨fun K => gAt K "is_point", "is_point", "is_point", defArgs (top 13), defBody (top 13), defScope (top 13), [], []⟩
def hdf4 : Df := ⟨fun K => gAt K "check_point", "check_point", "check_point", defArgs (top 14), defBody (top 14), defScope (top 14), [], []⟩
def hdf5 : Df := ⟨fun K => gAt K "cross_of", "cross_of", "cross_of", defArgs (top 15), defBody (top 15), defScope (top 15), [], []⟩
def hdf6 : Df := ⟨fun K => gAt K "difference", "difference", "difference", defArgs (top 16), defBody (top 16), defScope (top 16), [], []⟩
def hdf7 : Df := ⟨fun K => gAt K "turn_of", "turn_of", "turn_of", defArgs (top 17), defBody (top 17), defScope (top 17), [], []⟩
def hdf8 : Df := ⟨fun K => gAt K "check_map", "check_map", "check_map", defArgs (top 20), defBody (top 20), defScope (top 20), [], []⟩
def hdf9 : Df := ⟨fun K => gAt K "check_points", "check_points", "check_points", defArgs (top 23), defBody (top 23), defScope (top 23), [], []⟩
def hdf10 : Df := ⟨fun K => gAt K "triples", "triples", "triples", defArgs (top 24), defBody (top 24), defScope (top 24), [], []⟩
def hdf11 : Df := ⟨fun K => gAt K "check_turns", "check_turns", "check_turns", defArgs (top 25), defBody (top 25), defScope (top 25), [], []⟩
def hdf12 : Df := ⟨fun K => gAt K "is_between", "is_between", "is_between", defArgs (top 26), defBody (top 26), defScope (top 26), [], []⟩
def hdf13 : Df := ⟨fun K => gAt K "is_on", "is_on", "is_on", defArgs (top 27), defBody (top 27), defScope (top 27), [], []⟩
def hdf14 : Df := ⟨fun K => gAt K "have_common_point", "have_common_point", "have_common_point", defArgs (top 28), defBody (top 28), defScope (top 28), [], []⟩
def hdf15 : Df := ⟨fun K => gAt K "edges_of", "edges_of", "edges_of", defArgs (top 29), defBody (top 29), defScope (top 29), [], []⟩
def hdf16 : Df := ⟨fun K => gAt K "check_crossings", "check_crossings", "check_crossings", defArgs (top 30), defBody (top 30), defScope (top 30), [], []⟩
def hdf17 : Df := ⟨fun K => gAt K "area_of", "area_of", "area_of", defArgs (top 31), defBody (top 31), defScope (top 31), [], []⟩
def hdf18 : Df := ⟨fun K => gAt K "arranged", "arranged", "arranged", defArgs (top 32), defBody (top 32), defScope (top 32), [], []⟩
def hdf19 : Df := ⟨fun K => gAt K "checked_corners", "checked_corners", "checked_corners", defArgs (top 33), defBody (top 33), defScope (top 33), [], []⟩
def hdf20 : Df := ⟨fun K => gAt K "first_reflex", "first_reflex", "first_reflex", defArgs (top 35), defBody (top 35), defScope (top 35), [], []⟩
def hdf21 : Df := ⟨fun K => gAt K "check_polygon", "check_polygon", "check_polygon", defArgs (top 37), defBody (top 37), defScope (top 37), [], []⟩
def hdf22 : Df := ⟨fun K => gAt K "format_integer", "format_integer", "format_integer", defArgs (top 39), defBody (top 39), defScope (top 39), [], []⟩
def hdf23 : Df := ⟨fun K => gAt K "format_point", "format_point", "format_point", defArgs (top 40), defBody (top 40), defScope (top 40), [], []⟩
def hdf24 : Df := ⟨fun K => gAt K "format_points", "format_points", "format_points", defArgs (top 41), defBody (top 41), defScope (top 41), [], []⟩
def hdf25 : Df := ⟨fun K => gAt K "format_polygon", "format_polygon", "format_polygon", defArgs (top 42), defBody (top 42), defScope (top 42), [], []⟩
def hdf26 : Df := ⟨fun K => gAt K "format_map", "format_map", "format_map", defArgs (top 43), defBody (top 43), defScope (top 43), [], []⟩
def hdf27 : Df := ⟨fun K => gAt K "_law_pool", "_law_pool", "_law_pool", defArgs (top 45), defBody (top 45), defScope (top 45), [], []⟩
def hdf28 : Df := ⟨fun K => gAt K "_law_take", "_law_take", "_law_take", defArgs (top 46), defBody (top 46), defScope (top 46), [], []⟩
def hdf29 : Df := ⟨fun K => gAt K "_law_number", "_law_number", "_law_number", defArgs (top 47), defBody (top 47), defScope (top 47), [], []⟩
def hdf30 : Df := ⟨fun K => gAt K "_law_digits", "_law_digits", "_law_digits", defArgs (top 48), defBody (top 48), defScope (top 48), [], []⟩
def hdf31 : Df := ⟨fun K => gAt K "_law_point", "_law_point", "_law_point", defArgs (top 49), defBody (top 49), defScope (top 49), [], []⟩
def hdf32 : Df := ⟨fun K => gAt K "_law_pair", "_law_pair", "_law_pair", defArgs (top 50), defBody (top 50), defScope (top 50), [], []⟩
def hdf33 : Df := ⟨fun K => gAt K "_law_error", "_law_error", "_law_error", defArgs (top 51), defBody (top 51), defScope (top 51), [], []⟩
def hdf34 : Df := ⟨fun K => gAt K "_law_refused", "_law_refused", "_law_refused", defArgs (top 52), defBody (top 52), defScope (top 52), [], []⟩
def hdf35 : Df := ⟨fun K => gAt K "law", "law", "law", defArgs (top 53), defBody (top 53), defScope (top 53), [], []⟩
def hdf36 : Df := ⟨fun K => mAt K (cAd K .GridMap) "__init__", "__init__", "GridMap.__init__", defArgs (inClass (top 19) 1), defBody (inClass (top 19) 1), defScope (inClass (top 19) 1), [.int 0, .int 0], []⟩
def hdf37 : Df := ⟨fun K => mAt K (cAd K .Polygon) "__init__", "__init__", "Polygon.__init__", defArgs (inClass (top 36) 1), defBody (inClass (top 36) 1), defScope (inClass (top 36) 1), [], []⟩
def hdf38 : Df := ⟨fun K => mAt K (cAd K .Polygon) "__len__", "__len__", "Polygon.__len__", defArgs (inClass (top 36) 3), defBody (inClass (top 36) 3), defScope (inClass (top 36) 3), [], []⟩
def hdf39 : Df := ⟨fun K => mAt K (cAd K .GridMap) "apply", "apply", "GridMap.apply", defArgs (inClass (top 19) 10), defBody (inClass (top 19) 10), defScope (inClass (top 19) 10), [], []⟩
def hdf40 : Df := ⟨fun K => mAt K (cAd K .Polygon) "edges", "edges", "Polygon.edges", defArgs (inClass (top 36) 12), defBody (inClass (top 36) 12), defScope (inClass (top 36) 12), [], []⟩
def hdf41 : Df := ⟨fun K => mAt K (cAd K .GridMap) "followed_by", "followed_by", "GridMap.followed_by", defArgs (inClass (top 19) 11), defBody (inClass (top 19) 11), defScope (inClass (top 19) 11), [], []⟩
def hdf42 : Df := ⟨fun K => mAt K (cAd K .GridMap) "image", "image", "GridMap.image", defArgs (inClass (top 19) 9), defBody (inClass (top 19) 9), defScope (inClass (top 19) 9), [], []⟩
def hdf43 : Df := ⟨fun K => mAt K (cAd K .Polygon) "image_corners", "image_corners", "Polygon.image_corners", defArgs (inClass (top 36) 14), defBody (inClass (top 36) 14), defScope (inClass (top 36) 14), [], []⟩
def hdf44 : Df := ⟨fun K => mAt K (cAd K .GridMap) "inverse", "inverse", "GridMap.inverse", defArgs (inClass (top 19) 13), defBody (inClass (top 19) 13), defScope (inClass (top 19) 13), [], []⟩
def hdf45 : Df := ⟨fun K => mAt K (cAd K .Polygon) "locate", "locate", "Polygon.locate", defArgs (inClass (top 36) 13), defBody (inClass (top 36) 13), defScope (inClass (top 36) 13), [], []⟩
def hdf46 : Df := ⟨fun K => mAt K (cAd K .Polygon) "moved", "moved", "Polygon.moved", defArgs (inClass (top 36) 15), defBody (inClass (top 36) 15), defScope (inClass (top 36) 15), [], []⟩
def hdf47 : Df := ⟨fun K => mAt K (cAd K .GridMap) "order", "order", "GridMap.order", defArgs (inClass (top 19) 15), defBody (inClass (top 19) 15), defScope (inClass (top 19) 15), [], []⟩
def hdf48 : Df := ⟨fun K => mAt K (cAd K .GridMap) "power", "power", "GridMap.power", defArgs (inClass (top 19) 14), defBody (inClass (top 19) 14), defScope (inClass (top 19) 14), [], []⟩
def hdf49 : Df := ⟨fun K => mAt K (cAd K .GridMap) "then", "then", "GridMap.then", defArgs (inClass (top 19) 12), defBody (inClass (top 19) 12), defScope (inClass (top 19) 12), [], []⟩
def hdf50 : Df := ⟨fun K => getterOf K (mAt K (cAd K .Polygon) "border_points"), "border_points", "Polygon.border_points", defArgs (inClass (top 36) 7), defBody (inClass (top 36) 7), defScope (inClass (top 36) 7), [], []⟩
def hdf51 : Df := ⟨fun K => getterOf K (mAt K (cAd K .Polygon) "corners"), "corners", "Polygon.corners", defArgs (inClass (top 36) 5), defBody (inClass (top 36) 5), defScope (inClass (top 36) 5), [], []⟩
def hdf52 : Df := ⟨fun K => getterOf K (mAt K (cAd K .GridMap) "determinant"), "determinant", "GridMap.determinant", defArgs (inClass (top 19) 7), defBody (inClass (top 19) 7), defScope (inClass (top 19) 7), [], []⟩
def hdf53 : Df := ⟨fun K => getterOf K (mAt K (cAd K .Polygon) "double_area"), "double_area", "Polygon.double_area", defArgs (inClass (top 36) 6), defBody (inClass (top 36) 6), defScope (inClass (top 36) 6), [], []⟩
def hdf54 : Df := ⟨fun K => getterOf K (mAt K (cAd K .Polygon) "inner_points"), "inner_points", "Polygon.inner_points", defArgs (inClass (top 36) 8), defBody (inClass (top 36) 8), defScope (inClass (top 36) 8), [], []⟩
def hdf55 : Df := ⟨fun K => getterOf K (mAt K (cAd K .Polygon) "is_convex"), "is_convex", "Polygon.is_convex", defArgs (inClass (top 36) 11), defBody (inClass (top 36) 11), defScope (inClass (top 36) 11), [], []⟩
def hdf56 : Df := ⟨fun K => getterOf K (mAt K (cAd K .GridMap) "is_proper"), "is_proper", "GridMap.is_proper", defArgs (inClass (top 19) 8), defBody (inClass (top 19) 8), defScope (inClass (top 19) 8), [], []⟩
def hdf57 : Df := ⟨fun K => getterOf K (mAt K (cAd K .Polygon) "middle"), "middle", "Polygon.middle", defArgs (inClass (top 36) 10), defBody (inClass (top 36) 10), defScope (inClass (top 36) 10), [], []⟩
def hdf58 : Df := ⟨fun K => getterOf K (mAt K (cAd K .GridMap) "numbers"), "numbers", "GridMap.numbers", defArgs (inClass (top 19) 6), defBody (inClass (top 19) 6), defScope (inClass (top 19) 6), [], []⟩
def hdf59 : Df := ⟨fun K => getterOf K (mAt K (cAd K .Polygon) "total_points"), "total_points", "Polygon.total_points", defArgs (inClass (top 36) 9), defBody (inClass (top 36) 9), defScope (inClass (top 36) 9), [], []⟩
def hdf60 : Df := ⟨fun K => mAt K (cAd K .DegenerateCorner) "__init__", "__init__", "DegenerateCorner.__init__", defArgs (inClass (top 7) 0), defBody (inClass (top 7) 0), defScope (inClass (top 7) 0), [], []⟩
def hdf61 : Df := ⟨fun K => mAt K (cAd K .InvalidPolygon) "__init__", "__init__", "InvalidPolygon.__init__", defArgs (inClass (top 6) 0), defBody (inClass (top 6) 0), defScope (inClass (top 6) 0), [], []⟩
abbrev HW0 (K : Fg) : Prop := (tabsB tbL K = true) ∧ (QFree K "len") ∧ (QFree K "abs") ∧ (QFree K "max") ∧ (QFree K "min") ∧ (QFree K "int") ∧ (QFree K "str") ∧ (QFree K "repr") ∧ (QFree K "sum") ∧ (QFree K "all") ∧ (QFree K "list") ∧ (QFree K "tuple")
def hw0 (K : Fg) : Bool := decide (HW0 K)
abbrev HW1 (K : Fg) : Prop := (QFree K "bool") ∧ (QFree K "dict") ∧ (QFree K "range") ∧ (QFree K "enumerate") ∧ (QFree K "zip") ∧ (QFree K "sorted") ∧ (QFree K "isinstance") ∧ (QFree K "super") ∧ (QFree K "set") ∧ (QFree K "any") ∧ (QFree K "reversed") ∧ (QFree K "map")
def hw1 (K : Fg) : Bool := decide (HW1 K)
abbrev HW2 (K : Fg) : Prop := (QGlo K "_wall") ∧ (QGlo K "is_integer") ∧ (QGlo K "check_integer") ∧ (QGlo K "is_point") ∧ (QGlo K "check_point") ∧ (QGlo K "cross_of") ∧ (QGlo K "difference") ∧ (QGlo K "turn_of") ∧ (QGlo K "check_map") ∧ (QGlo K "check_points") ∧ (QGlo K "triples") ∧ (QGlo K "check_turns")
def hw2 (K : Fg) : Bool := decide (HW2 K)
abbrev HW3 (K : Fg) : Prop := (QGlo K "is_between") ∧ (QGlo K "is_on") ∧ (QGlo K "have_common_point") ∧ (QGlo K "edges_of") ∧ (QGlo K "check_crossings") ∧ (QGlo K "area_of") ∧ (QGlo K "arranged") ∧ (QGlo K "checked_corners") ∧ (QGlo K "first_reflex") ∧ (QGlo K "check_polygon") ∧ (QGlo K "format_integer") ∧ (QGlo K "format_point")
def hw3 (K : Fg) : Bool := decide (HW3 K)
abbrev HW4 (K : Fg) : Prop := (QGlo K "format_points") ∧ (QGlo K "format_polygon") ∧ (QGlo K "format_map") ∧ (QGlo K "_law_pool") ∧ (QGlo K "_law_take") ∧ (QGlo K "_law_number") ∧ (QGlo K "_law_digits") ∧ (QGlo K "_law_point") ∧ (QGlo K "_law_pair") ∧ (QGlo K "_law_error") ∧ (QGlo K "_law_refused") ∧ (QGlo K "law")
def hw4 (K : Fg) : Bool := decide (HW4 K)
abbrev HW5 (K : Fg) : Prop := (isiB K (.type "int") g_int = true) ∧ (isiB K (.type "bool") g_bool = true) ∧ (isiB K (.type "str") g_str = true) ∧ (isiB K (.type "tuple") g_tuple = true) ∧ (isiB K (.type "list") g_list = true) ∧ (isiB K (.type "dict") g_dict = true) ∧ (QGlo K "GridMap") ∧ (isiB K (.ref (cAd K .GridMap)) g_GridMap = true) ∧ (QGlo K "Polygon") ∧ (isiB K (.ref (cAd K .Polygon)) g_Polygon = true) ∧ (fldB K fl_first "first" = true) ∧ (fldB K fl_kept "kept" = true)
def hw5 (K : Fg) : Bool := decide (HW5 K)
abbrev HW6 (K : Fg) : Prop := (fldB K fl_position "position" = true) ∧ (fldB K fl_reflex "reflex" = true) ∧ (fldB K fl_second "second" = true) ∧ (fldB K fl_six "six" = true) ∧ (conB K "MIN_CORNERS" (.int 3) = true) ∧ (cconB K (cAd K .GridMap) "MAX_ORDER" (.int 6) = true) ∧ (cconB K (cAd K .Polygon) "MAX_CORNERS" (.int 60) = true) ∧ (QCls K (cAd K .GridMap)) ∧ (QMk K (cAd K .GridMap)) ∧ (QCls K (cAd K .Polygon)) ∧ (QMk K (cAd K .Polygon)) ∧ (QLen K (cAd K .Polygon))
def hw6 (K : Fg) : Bool := decide (HW6 K)
abbrev HW7 (K : Fg) : Prop := (QMeth K (cAd K .GridMap) "apply") ∧ (QMeth K (cAd K .Polygon) "edges") ∧ (QMeth K (cAd K .GridMap) "followed_by") ∧ (QMeth K (cAd K .GridMap) "image") ∧ (QMeth K (cAd K .Polygon) "image_corners") ∧ (QMeth K (cAd K .GridMap) "inverse") ∧ (QMeth K (cAd K .Polygon) "locate") ∧ (QMeth K (cAd K .Polygon) "moved") ∧ (QMeth K (cAd K .GridMap) "order") ∧ (QMeth K (cAd K .GridMap) "power") ∧ (QMeth K (cAd K .GridMap) "then") ∧ (QProp K (cAd K .Polygon) "border_points")
def hw7 (K : Fg) : Bool := decide (HW7 K)
abbrev HW8 (K : Fg) : Prop := (QProp K (cAd K .Polygon) "corners") ∧ (QProp K (cAd K .GridMap) "determinant") ∧ (QProp K (cAd K .Polygon) "double_area") ∧ (QProp K (cAd K .Polygon) "inner_points") ∧ (QProp K (cAd K .Polygon) "is_convex") ∧ (QProp K (cAd K .GridMap) "is_proper") ∧ (QProp K (cAd K .Polygon) "middle") ∧ (QProp K (cAd K .GridMap) "numbers") ∧ (QProp K (cAd K .Polygon) "total_points") ∧ (QGlo K "InvalidInteger") ∧ (QGlo K "InvalidMap") ∧ (QGlo K "InvalidPoint")
def hw8 (K : Fg) : Bool := decide (HW8 K)
abbrev HW9 (K : Fg) : Prop := (QGlo K "InvalidPolygon") ∧ (emB K .InvalidInteger em_InvalidInteger = true) ∧ (emB K .InvalidMap em_InvalidMap = true) ∧ (emB K .InvalidPoint em_InvalidPoint = true) ∧ (emB K .InvalidPolygon em_InvalidPolygon = true) ∧ (fxB K "position" fx_position = true) ∧ (QExcO K (cAd K .InvalidInteger) [.type "ValueError", .type "Exception", .type "BaseException", .type "object"] "ValueError.__new__") ∧ (QExcO K (cAd K .InvalidMap) [.type "ValueError", .type "Exception", .type "BaseException", .type "object"] "ValueError.__new__") ∧ (QExcO K (cAd K .InvalidPoint) [.type "ValueError", .type "Exception", .type "BaseException", .type "object"] "ValueError.__new__") ∧ (QGlo K "DegenerateCorner") ∧ (QExcN K (cAd K .DegenerateCorner) "ValueError.__new__" [.type "ValueError", .type "Exception", .type "BaseException", .type "object"] "position") ∧ (QExcN K (cAd K .InvalidPolygon) "ValueError.__new__" [.type "ValueError", .type "Exception", .type "BaseException", .type "object"] "position")
def hw9 (K : Fg) : Bool := decide (HW9 K)
def hwL0 : List (Fg → Bool) := [hw0, hw1, hw2, hw3, hw4, hw5, hw6, hw7, hw8, hw9]
def hwL : List (Fg → Bool) := hwL0
def hdfL0 : List (Df) := [hdf0, hdf1, hdf2, hdf3, hdf4, hdf5, hdf6, hdf7, hdf8, hdf9, hdf10, hdf11]
def hdfL1 : List (Df) := [hdf12, hdf13, hdf14, hdf15, hdf16, hdf17, hdf18, hdf19, hdf20, hdf21, hdf22, hdf23]
def hdfL2 : List (Df) := [hdf24, hdf25, hdf26, hdf27, hdf28, hdf29, hdf30, hdf31, hdf32, hdf33, hdf34, hdf35]
def hdfL3 : List (Df) := [hdf36, hdf37, hdf38, hdf39, hdf40, hdf41, hdf42, hdf43, hdf44, hdf45, hdf46, hdf47]
def hdfL4 : List (Df) := [hdf48, hdf49, hdf50, hdf51, hdf52, hdf53, hdf54, hdf55, hdf56, hdf57, hdf58, hdf59]
def hdfL5 : List (Df) := [hdf60, hdf61]
def hdfL : List (Df) := hdfL0 ++ hdfL1 ++ hdfL2 ++ hdfL3 ++ hdfL4 ++ hdfL5
def hdcL : List (Df) := []
def nmL0 : List (PySem.Str) := ["_wall", "ShapeError", "InvalidInteger", "InvalidPoint", "InvalidMap", "InvalidPolygon", "DegenerateCorner", "CrossingEdges", "is_integer", "check_integer", "is_point", "check_point"]
def nmL1 : List (PySem.Str) := ["cross_of", "difference", "turn_of", "GridMap", "check_map", "MIN_CORNERS", "check_points", "triples", "check_turns", "is_between", "is_on", "have_common_point"]
def nmL2 : List (PySem.Str) := ["edges_of", "check_crossings", "area_of", "arranged", "checked_corners", "first_reflex", "Polygon", "check_polygon", "format_integer", "format_point", "format_points", "format_polygon"]
def nmL3 : List (PySem.Str) := ["format_map", "_law_pool", "_law_take", "_law_number", "_law_digits", "_law_point", "_law_pair", "_law_error", "_law_refused"]
def nmL : List (PySem.Str) := nmL0 ++ nmL1 ++ nmL2 ++ nmL3
def hd : Hd := ⟨5, hwL, hdfL, hdcL⟩
def ob (s : PySem.W.SharedT) : HAl × List (Option Obj) := hd.obGT tbL (HandSHeadRun.getT s)
theorem ob_eq (s : PySem.W.SharedT) : ob s = (hd.hookT tbL).obs s.abs := Hd.obGT_eq (HandSHeadRun.getT_eq s)
end ML
set_option Elab.async false
set_option linter.all false
set_option maxRecDepth 100000
set_option maxHeartbeats 0
namespace ML
open PySem PySem.Spec PyProof.Rows L2
theorem run (w : World) : HandSHeadRun.RunEq (PySem.W.OpenLaw.row PySem.Challenge.rw_latticeshapes_k80_values_formatted) (PySem.W.view prog [53]) (hd.hookT tbL) ob 20000 nmL w := by
  intro os
  kernel_rfl
end ML
set_option Elab.async false
set_option linter.all false
set_option maxRecDepth 100000
set_option maxHeartbeats 4000000
namespace ML
open PySem PySem.Spec PyProof.Rows L2
def s__wall : MS := (sWh (mTst (mC (.bl true))) sNx)
def m__wall : MF := mRun 1 1 s__wall
def s_is_integer : MS := (sRt (mAndV (mUn (isiD g_int) (mVar 0)) (mUn notD (mUn (isiD g_bool) (mVar 0)))))
def m_is_integer : MF := mRun 1 1 s_is_integer
def s_check_integer : MS := (sIf (mOr (mNot (mTst (mCall m_is_integer (aCons (mVar 0) aNil)))) (mAnd (mTst (mUn (isND true) (mVar 1))) (mTst (mBin ltI (mVar 0) (mVar 1))))) (sRaise .InvalidInteger) sNx)
def m_check_integer : MF := mRun 2 2 s_check_integer
def m_check_integer_1 : MF := fun ds W => m_check_integer (ds ++ [D.non]) W
def m_check_integer_2 : MF := fun ds W => m_check_integer (ds ++ []) W
def s_is_point : MS := (sRt (mAndV (mUn (isiD g_tuple) (mVar 0)) (mAndV (mBin (eqD false) (mCall lenD (aCons (mVar 0) aNil)) (mC (.int 2))) (mCall allD (aCons (mLc (mIt (mVar 0)) (gNm 1) mYes (mCall m_is_integer (aCons (mVar 1) aNil)) [1]) aNil)))))
def m_is_point : MF := mRun 2 1 s_is_point
def s_check_point : MS := (sIf (mNot (mTst (mCall m_is_point (aCons (mVar 0) aNil)))) (sRaise .InvalidPoint) sNx)
def m_check_point : MF := mRun 1 1 s_check_point
def s_cross_of : MS := (sRt (mBin subD (mBin mulS2 (mBin idxD (mVar 0) (mC (.int 0))) (mBin idxD (mVar 1) (mC (.int 1)))) (mBin mulS2 (mBin idxD (mVar 0) (mC (.int 1))) (mBin idxD (mVar 1) (mC (.int 0))))))
def m_cross_of : MF := mRun 2 2 s_cross_of
def g_cross_of : ME := (mBin subD (mBin mulI (mBin idxT (mVar 0) (mC (.int 0))) (mBin idxT (mVar 1) (mC (.int 1)))) (mBin mulI (mBin idxT (mVar 0) (mC (.int 1))) (mBin idxT (mVar 1) (mC (.int 0)))))
def s_difference : MS := (sRt (mTup (aCons (mBin subD (mBin idxD (mVar 0) (mC (.int 0))) (mBin idxD (mVar 1) (mC (.int 0)))) (aCons (mBin subD (mBin idxD (mVar 0) (mC (.int 1))) (mBin idxD (mVar 1) (mC (.int 1)))) aNil))))
def m_difference : MF := mRun 2 2 s_difference
def g_difference : ME := (mTup (aCons (mBin subD (mBin idxT (mVar 0) (mC (.int 0))) (mBin idxT (mVar 1) (mC (.int 0)))) (aCons (mBin subD (mBin idxT (mVar 0) (mC (.int 1))) (mBin idxT (mVar 1) (mC (.int 1)))) aNil)))
def s_turn_of : MS := (sRt (mCall m_cross_of (aCons (mCall m_difference (aCons (mVar 1) (aCons (mVar 0) aNil))) (aCons (mCall m_difference (aCons (mVar 2) (aCons (mVar 1) aNil))) aNil))))
def m_turn_of : MF := mRun 3 3 s_turn_of
def g_turn_of : ME := (mCall (gmf g_cross_of) (aCons (mCall (gmf g_difference) (aCons (mVar 1) (aCons (mVar 0) aNil))) (aCons (mCall (gmf g_difference) (aCons (mVar 2) (aCons (mVar 1) aNil))) aNil)))
def s_GridMap_init : MS := (sSeq (sFor (mIt (mTup (aCons (mVar 1) (aCons (mVar 2) (aCons (mVar 3) (aCons (mVar 4) (aCons (mVar 5) (aCons (mVar 6) aNil)))))))) (gNm 7) (sEx (mCall m_check_integer_1 (aCons (mVar 7) aNil)))) (sSeq (sIf (mTst (mBin (eqD true) (mCall absD (aCons (mBin subD (mBin mulS2 (mVar 1) (mVar 4)) (mBin mulS2 (mVar 2) (mVar 3))) aNil)) (mC (.int 1)))) (sRaise .InvalidMap) sNx) (sFldS fl_six (mVar 0) (mTup (aCons (mVar 1) (aCons (mVar 2) (aCons (mVar 3) (aCons (mVar 4) (aCons (mVar 5) (aCons (mVar 6) aNil))))))))))
def m_GridMap_init : MF := mRun 8 7 s_GridMap_init
def m_GridMap_init_5 : MF := fun ds W => m_GridMap_init (ds ++ [D.int 0, D.int 0]) W
def F_GridMap_4 : List D → IR := fun _ => none
def m_GridMap_init_6 : MF := fun ds W => m_GridMap_init (ds ++ [D.int 0]) W
def F_GridMap_5 : List D → IR := fun _ => none
def m_GridMap_init_7 : MF := fun ds W => m_GridMap_init (ds ++ []) W
def s_GridMap_eq : MS := (sRt (mAndV (mUn (isiD g_GridMap) (mVar 1)) (mBin (eqD false) (mUn (fldD fl_six) (mVar 0)) (mUn (fldD fl_six) (mVar 1)))))
def m_GridMap_eq : MF := mRun 2 2 s_GridMap_eq
def s_GridMap_repr : MS := (sSeq (sAsg (mUn (fldD fl_six) (mVar 0)) (gTp 6 (gCn (gNm 1) (gCn (gNm 2) (gCn (gNm 3) (gCn (gNm 4) (gCn (gNm 5) (gCn (gNm 6) gNl)))))))) (sRt (mJs [(mC (.str "GridMap(")), (mUn fmtD (mVar 1)), (mC (.str ", ")), (mUn fmtD (mVar 2)), (mC (.str ", ")), (mUn fmtD (mVar 3)), (mC (.str ", ")), (mUn fmtD (mVar 4)), (mC (.str ", ")), (mUn fmtD (mVar 5)), (mC (.str ", ")), (mUn fmtD (mVar 6)), (mC (.str ")"))] Str.empty)))
def m_GridMap_repr : MF := mRun 7 1 s_GridMap_repr
def s_GridMap_identity : MS := (sRt mBad)
def m_GridMap_identity : MF := mRun 1 1 s_GridMap_identity
def s_GridMap_shift : MS := (sSeq (sEx (mCall m_check_point (aCons (mVar 0) aNil))) (sRt (mMakeF .GridMap F_GridMap_6 (aCons (mC (.int 1)) (aCons (mC (.int 0)) (aCons (mC (.int 0)) (aCons (mC (.int 1)) (aCons (mBin idxD (mVar 0) (mC (.int 0))) (aCons (mBin idxD (mVar 0) (mC (.int 1))) aNil)))))))))
def m_GridMap_shift : MF := mRun 1 1 s_GridMap_shift
def s_GridMap_numbers : MS := (sRt (mUn (fldD fl_six) (mVar 0)))
def m_GridMap_numbers : MF := mRun 1 1 s_GridMap_numbers
def pr_numbers : Cl → Option MF
  | .GridMap => some m_GridMap_numbers
  | _ => none
def s_GridMap_determinant : MS := (sSeq (sAsg (mUn (fldD fl_six) (mVar 0)) (gTp 6 (gCn (gNm 1) (gCn (gNm 2) (gCn (gNm 3) (gCn (gNm 4) (gCn (gNm 5) (gCn (gNm 6) gNl)))))))) (sRt (mBin subD (mBin mulS2 (mVar 1) (mVar 4)) (mBin mulS2 (mVar 2) (mVar 3)))))
def m_GridMap_determinant : MF := mRun 7 1 s_GridMap_determinant
def pr_determinant : Cl → Option MF
  | .GridMap => some m_GridMap_determinant
  | _ => none
def s_GridMap_is_proper : MS := (sEx (mCall m__wall (aCons (mC (.int 0)) aNil)))
def m_GridMap_is_proper : MF := mRun 1 1 s_GridMap_is_proper
def pr_is_proper : Cl → Option MF
  | .GridMap => some m_GridMap_is_proper
  | _ => none
def s_GridMap_image : MS := (sSeq (sAsg (mUn (fldD fl_six) (mVar 0)) (gTp 6 (gCn (gNm 2) (gCn (gNm 3) (gCn (gNm 4) (gCn (gNm 5) (gCn (gNm 6) (gCn (gNm 7) gNl)))))))) (sRt (mTup (aCons (mBin addD (mBin addD (mBin mulS2 (mVar 2) (mBin idxD (mVar 1) (mC (.int 0)))) (mBin mulS2 (mVar 3) (mBin idxD (mVar 1) (mC (.int 1))))) (mVar 6)) (aCons (mBin addD (mBin addD (mBin mulS2 (mVar 4) (mBin idxD (mVar 1) (mC (.int 0)))) (mBin mulS2 (mVar 5) (mBin idxD (mVar 1) (mC (.int 1))))) (mVar 7)) aNil)))))
def m_GridMap_image : MF := mRun 8 2 s_GridMap_image
def mt_image : Cl → Option MF
  | .GridMap => some m_GridMap_image
  | _ => none
def s_GridMap_apply : MS := (sEx (mCall m__wall (aCons (mC (.int 1)) aNil)))
def m_GridMap_apply : MF := mRun 2 2 s_GridMap_apply
def mt_apply : Cl → Option MF
  | .GridMap => some m_GridMap_apply
  | _ => none
def s_GridMap_followed_by : MS := (sSeq (sAsg (mUn (fldD fl_six) (mVar 0)) (gTp 6 (gCn (gNm 2) (gCn (gNm 3) (gCn (gNm 4) (gCn (gNm 5) (gCn (gNm 6) (gCn (gNm 7) gNl)))))))) (sSeq (sAsg (mProp pr_numbers (mVar 1)) (gTp 6 (gCn (gNm 8) (gCn (gNm 9) (gCn (gNm 10) (gCn (gNm 11) (gCn (gNm 12) (gCn (gNm 13) gNl)))))))) (sSeq (sSet 14 (mMeth mt_image (mVar 1) (aCons (mTup (aCons (mVar 6) (aCons (mVar 7) aNil))) aNil))) (sRt (mMakeF .GridMap F_GridMap_6 (aCons (mBin addD (mBin mulS2 (mVar 8) (mVar 2)) (mBin mulS2 (mVar 9) (mVar 4))) (aCons (mBin addD (mBin mulS2 (mVar 8) (mVar 3)) (mBin mulS2 (mVar 9) (mVar 5))) (aCons (mBin addD (mBin mulS2 (mVar 10) (mVar 2)) (mBin mulS2 (mVar 11) (mVar 4))) (aCons (mBin addD (mBin mulS2 (mVar 10) (mVar 3)) (mBin mulS2 (mVar 11) (mVar 5))) (aCons (mBin idxD (mVar 14) (mC (.int 0))) (aCons (mBin idxD (mVar 14) (mC (.int 1))) aNil)))))))))))
def m_GridMap_followed_by : MF := mRun 15 2 s_GridMap_followed_by
def mt_followed_by : Cl → Option MF
  | .GridMap => some m_GridMap_followed_by
  | _ => none
def s_GridMap_inverse : MS := (sSeq (sAsg (mUn (fldD fl_six) (mVar 0)) (gTp 6 (gCn (gNm 1) (gCn (gNm 2) (gCn (gNm 3) (gCn (gNm 4) (gCn (gNm 5) (gCn (gNm 6) gNl)))))))) (sSeq (sSet 7 (mProp pr_determinant (mVar 0))) (sSeq sBad (sRt (mMakeF .GridMap F_GridMap_6 (aCons (mVar 8) (aCons (mVar 9) (aCons (mVar 10) (aCons (mVar 11) (aCons (mUn negD (mBin addD (mBin mulS2 (mVar 8) (mVar 5)) (mBin mulS2 (mVar 9) (mVar 6)))) (aCons (mUn negD (mBin addD (mBin mulS2 (mVar 10) (mVar 5)) (mBin mulS2 (mVar 11) (mVar 6)))) aNil)))))))))))
def m_GridMap_inverse : MF := mRun 12 1 s_GridMap_inverse
def mt_inverse : Cl → Option MF
  | .GridMap => some m_GridMap_inverse
  | _ => none
def s_GridMap_power : MS := (sSeq (sEx (mCall m_check_integer_1 (aCons (mVar 1) aNil))) (sSeq (sSet 2 (mIf (mTst (mBin geI (mVar 1) (mC (.int 0)))) (mVar 0) (mMeth mt_inverse (mVar 0) aNil))) (sSeq (sSet 3 (mCall absD (aCons (mVar 1) aNil))) (sSeq (sSet 4 mBad) (sSeq (sWh (mTst (mVar 3)) (sSeq (sIf (mTst (mBin (eqD false) (mBin modD (mVar 3) (mC (.int 2))) (mC (.int 1)))) (sSet 4 (mMeth mt_followed_by (mVar 4) (aCons (mVar 2) aNil))) sNx) (sSeq (sSet 2 (mMeth mt_followed_by (mVar 2) (aCons (mVar 2) aNil))) sBad))) (sRt (mVar 4)))))))
def m_GridMap_power : MF := mRun 5 2 s_GridMap_power
def mt_power : Cl → Option MF
  | .GridMap => some m_GridMap_power
  | _ => none
def s_GridMap_order : MS := (sSeq (sSet 1 (mVar 0)) (sSeq (sFor (mItA rng2 (aCons (mC (.int 1)) (aCons (mBin addD (mC (.int 6)) (mC (.int 1))) aNil))) (gNm 2) (sSeq (sIf (mTst (mBin (eqD false) (mVar 1) mBad)) (sRt (mVar 2)) sNx) (sSet 1 (mMeth mt_followed_by (mVar 1) (aCons (mVar 0) aNil))))) (sRt (mC .non))))
def m_GridMap_order : MF := mRun 3 1 s_GridMap_order
def mt_order : Cl → Option MF
  | .GridMap => some m_GridMap_order
  | _ => none
def s_check_map : MS := (sIf (mNot (mTst (mUn (isiD g_GridMap) (mVar 0)))) (sRaise .InvalidMap) sNx)
def m_check_map : MF := mRun 1 1 s_check_map
def s_check_points : MS := (sSeq (sIf (mNot (mTst (mUn (isiD (gAny [g_list, g_tuple])) (mVar 0)))) (sRaiseI .InvalidPolygon (aCons (mC .non) aNil)) sNx) (sFor (mItA enumIt (aCons (mVar 0) aNil)) (gTp 2 (gCn (gNm 1) (gCn (gNm 2) gNl))) (sIf (mNot (mTst (mCall m_is_point (aCons (mVar 2) aNil)))) (sRaiseI .InvalidPolygon (aCons (mVar 1) aNil)) sNx)))
def m_check_points : MF := mRun 3 1 s_check_points
def s_check_turns : MS := (sGen triD (mVar 0) (gTp 2 (gCn (gNm 1) (gCn (gTp 3 (gCn (gNm 2) (gCn (gNm 3) (gCn (gNm 4) gNl)))) gNl))) (mTst (mBin (cmpG (fun i j => i == j)) (mCall (gmf g_turn_of) (aCons (mVar 2) (aCons (mVar 3) (aCons (mVar 4) aNil)))) (mC (.int 0)))) (sRaiseI .DegenerateCorner (aCons (mVar 1) aNil)))
def m_check_turns : MF := mRun 5 1 s_check_turns
def s_is_between : MS := (sRt (mCall allD (aCons mBad aNil)))
def m_is_between : MF := mRun 6 3 s_is_between
def s_is_on : MS := (sRt (mAndV (mBin (eqD false) (mCall m_turn_of (aCons (mVar 1) (aCons (mVar 2) (aCons (mVar 0) aNil)))) (mC (.int 0))) (mCall m_is_between (aCons (mVar 0) (aCons (mVar 1) (aCons (mVar 2) aNil))))))
def m_is_on : MF := mRun 3 3 s_is_on
def s_have_common_point : MS := (sSeq (sAsg (mVar 0) (gTp 2 (gCn (gNm 2) (gCn (gNm 3) gNl)))) (sSeq (sAsg (mVar 1) (gTp 2 (gCn (gNm 4) (gCn (gNm 5) gNl)))) (sSeq (sSet 6 (mTup (aCons (mCall m_turn_of (aCons (mVar 2) (aCons (mVar 3) (aCons (mVar 4) aNil)))) (aCons (mCall m_turn_of (aCons (mVar 2) (aCons (mVar 3) (aCons (mVar 5) aNil)))) (aCons (mCall m_turn_of (aCons (mVar 4) (aCons (mVar 5) (aCons (mVar 2) aNil)))) (aCons (mCall m_turn_of (aCons (mVar 4) (aCons (mVar 5) (aCons (mVar 3) aNil)))) aNil)))))) (sSeq (sIf (mAnd (mTst (mBin ltI (mBin mulS2 (mBin idxD (mVar 6) (mC (.int 0))) (mBin idxD (mVar 6) (mC (.int 1)))) (mC (.int 0)))) (mTst (mBin ltI (mBin mulS2 (mBin idxD (mVar 6) (mC (.int 2))) (mBin idxD (mVar 6) (mC (.int 3)))) (mC (.int 0))))) (sRt (mC (.bl true))) sNx) (sRt (mOrV (mCall m_is_on (aCons (mVar 4) (aCons (mVar 2) (aCons (mVar 3) aNil)))) (mOrV (mCall m_is_on (aCons (mVar 5) (aCons (mVar 2) (aCons (mVar 3) aNil)))) (mOrV (mCall m_is_on (aCons (mVar 2) (aCons (mVar 4) (aCons (mVar 5) aNil)))) (mCall m_is_on (aCons (mVar 3) (aCons (mVar 4) (aCons (mVar 5) aNil))))))))))))
def m_have_common_point : MF := mRun 7 2 s_have_common_point
def s_edges_of : MS := (sRt (mLc (mItA enumIt (aCons (mVar 0) aNil)) (gTp 2 (gCn (gNm 1) (gCn (gNm 2) gNl))) mYes (mTup (aCons (mVar 2) (aCons (mBin idxD (mVar 0) (mBin modD (mBin addD (mVar 1) (mC (.int 1))) (mCall lenD (aCons (mVar 0) aNil)))) aNil))) [1, 2]))
def m_edges_of : MF := mRun 3 1 s_edges_of
def s_check_crossings : MS := (sSeq (sSet 1 (mCall m_edges_of (aCons (mVar 0) aNil))) (sSeq (sSet 2 (mCall lenD (aCons (mVar 1) aNil))) (sFor (mItA rng1 (aCons (mVar 2) aNil)) (gNm 3) (sFor (mItA rng2 (aCons (mBin addD (mVar 3) (mC (.int 2))) (aCons (mVar 2) aNil))) (gNm 4) (sIf (mAnd (mTst (mBin (eqD true) (mBin modD (mBin addD (mVar 4) (mC (.int 1))) (mVar 2)) (mVar 3))) (mTst (mCall m_have_common_point (aCons (mBin idxD (mVar 1) (mVar 3)) (aCons (mBin idxD (mVar 1) (mVar 4)) aNil))))) sBad sNx)))))
def m_check_crossings : MF := mRun 5 1 s_check_crossings
def s_area_of : MS := (sRt (mCall sumD (aCons (mLc (mIt (mCall m_edges_of (aCons (mVar 0) aNil))) (gTp 2 (gCn (gNm 1) (gCn (gNm 2) gNl))) mYes (mCall m_cross_of (aCons (mVar 1) (aCons (mVar 2) aNil))) [1, 2]) aNil)))
def m_area_of : MF := mRun 3 1 s_area_of
def s_arranged : MS := (sSeq (sSet 1 (mIf (mTst (mBin gtI (mCall m_area_of (aCons (mVar 0) aNil)) (mC (.int 0)))) (mCall listD (aCons (mVar 0) aNil)) (mUn revD (mCall listD (aCons (mVar 0) aNil))))) (sSeq (sSet 2 (mIndex (mVar 1) (mCall minTD (aCons (mVar 1) aNil)))) (sRt (mCall tupleD (aCons (mBin addD (mSl (mVar 1) (oSome (mVar 2)) oNone) (mSl (mVar 1) oNone (oSome (mVar 2)))) aNil)))))
def m_arranged : MF := mRun 3 1 s_arranged
def s_checked_corners : MS := (sSeq (sIf (mOr (mNot (mTst (mUn (isiD (gAny [g_list, g_tuple])) (mVar 0)))) (mNot (mTst (mChain leI leI (mC (.int 3)) (mCall lenD (aCons (mVar 0) aNil)) (mVar 1))))) (sRaiseI .InvalidPolygon (aCons (mC .non) aNil)) sNx) (sSeq (sEx (mCall m_check_points (aCons (mVar 0) aNil))) (sSeq (sEx (mCall m_check_turns (aCons (mVar 0) aNil))) (sSeq (sEx (mCall m_check_crossings (aCons (mVar 0) aNil))) (sRt (mCall m_arranged (aCons (mVar 0) aNil)))))))
def m_checked_corners : MF := mRun 2 2 s_checked_corners
def s_first_reflex : MS := (sSeq (sGen triD (mVar 0) (gTp 2 (gCn (gNm 1) (gCn (gTp 3 (gCn (gNm 2) (gCn (gNm 3) (gCn (gNm 4) gNl)))) gNl))) (mTst (mBin (cmpG (fun i j => decide (i < j))) (mCall (gmf g_turn_of) (aCons (mVar 2) (aCons (mVar 3) (aCons (mVar 4) aNil)))) (mC (.int 0)))) (sRt (mVar 1))) (sRt (mC .non)))
def m_first_reflex : MF := mRun 5 1 s_first_reflex
def s_Polygon_init : MS := (sSeq (sFldS fl_kept (mVar 0) (mCall m_checked_corners (aCons (mVar 1) (aCons (mC (.int 60)) aNil)))) (sFldS fl_reflex (mVar 0) (mCall m_first_reflex (aCons (mUn (fldD fl_kept) (mVar 0)) aNil))))
def m_Polygon_init : MF := mRun 2 2 s_Polygon_init
def s_Polygon_eq : MS := (sRt (mAndV (mUn (isiD g_Polygon) (mVar 1)) (mBin (eqD false) (mUn (fldD fl_kept) (mVar 0)) (mUn (fldD fl_kept) (mVar 1)))))
def m_Polygon_eq : MF := mRun 2 2 s_Polygon_eq
def s_Polygon_len : MS := (sRt (mCall lenD (aCons (mUn (fldD fl_kept) (mVar 0)) aNil)))
def m_Polygon_len : MF := mRun 1 1 s_Polygon_len
def ln_t : Cl → Option MF
  | .Polygon => some m_Polygon_len
  | _ => none
def s_Polygon_repr : MS := (sRt mBad)
def m_Polygon_repr : MF := mRun 1 1 s_Polygon_repr
def s_Polygon_corners : MS := (sRt (mUn (fldD fl_kept) (mVar 0)))
def m_Polygon_corners : MF := mRun 1 1 s_Polygon_corners
def pr_corners : Cl → Option MF
  | .Polygon => some m_Polygon_corners
  | _ => none
def s_Polygon_double_area : MS := (sEx (mCall m__wall (aCons (mC (.int 3)) aNil)))
def m_Polygon_double_area : MF := mRun 1 1 s_Polygon_double_area
def pr_double_area : Cl → Option MF
  | .Polygon => some m_Polygon_double_area
  | _ => none
def s_Polygon_border_points : MS := (sEx (mCall m__wall (aCons (mC (.int 4)) aNil)))
def m_Polygon_border_points : MF := mRun 1 1 s_Polygon_border_points
def pr_border_points : Cl → Option MF
  | .Polygon => some m_Polygon_border_points
  | _ => none
def s_Polygon_inner_points : MS := (sEx (mCall m__wall (aCons (mC (.int 5)) aNil)))
def m_Polygon_inner_points : MF := mRun 1 1 s_Polygon_inner_points
def pr_inner_points : Cl → Option MF
  | .Polygon => some m_Polygon_inner_points
  | _ => none
def s_Polygon_total_points : MS := (sEx (mCall m__wall (aCons (mC (.int 6)) aNil)))
def m_Polygon_total_points : MF := mRun 1 1 s_Polygon_total_points
def pr_total_points : Cl → Option MF
  | .Polygon => some m_Polygon_total_points
  | _ => none
def s_Polygon_middle : MS := (sEx (mCall m__wall (aCons (mC (.int 7)) aNil)))
def m_Polygon_middle : MF := mRun 1 1 s_Polygon_middle
def pr_middle : Cl → Option MF
  | .Polygon => some m_Polygon_middle
  | _ => none
def s_Polygon_is_convex : MS := (sEx (mCall m__wall (aCons (mC (.int 8)) aNil)))
def m_Polygon_is_convex : MF := mRun 1 1 s_Polygon_is_convex
def pr_is_convex : Cl → Option MF
  | .Polygon => some m_Polygon_is_convex
  | _ => none
def s_Polygon_locate : MS := (sEx (mCall m__wall (aCons (mC (.int 9)) aNil)))
def m_Polygon_locate : MF := mRun 2 2 s_Polygon_locate
def mt_locate : Cl → Option MF
  | .Polygon => some m_Polygon_locate
  | _ => none
def s_Polygon_image_corners : MS := (sEx (mCall m__wall (aCons (mC (.int 10)) aNil)))
def m_Polygon_image_corners : MF := mRun 2 2 s_Polygon_image_corners
def mt_image_corners : Cl → Option MF
  | .Polygon => some m_Polygon_image_corners
  | _ => none
def s_Polygon_moved : MS := (sEx (mCall m__wall (aCons (mC (.int 11)) aNil)))
def m_Polygon_moved : MF := mRun 2 2 s_Polygon_moved
def mt_moved : Cl → Option MF
  | .Polygon => some m_Polygon_moved
  | _ => none
def s_check_polygon : MS := (sIf (mNot (mTst (mUn (isiD g_Polygon) (mVar 0)))) (sRaiseI .InvalidPolygon (aCons (mC .non) aNil)) sNx)
def m_check_polygon : MF := mRun 1 1 s_check_polygon
def s_format_integer : MS := (sSeq (sEx (mCall m_check_integer_1 (aCons (mVar 0) aNil))) (sRt (mCall strD (aCons (mVar 0) aNil))))
def m_format_integer : MF := mRun 1 1 s_format_integer
def s_format_point : MS := (sSeq (sEx (mCall m_check_point (aCons (mVar 0) aNil))) (sRt (mJs [(mUn fmtD (mBin idxD (mVar 0) (mC (.int 0)))), (mC (.str ",")), (mUn fmtD (mBin idxD (mVar 0) (mC (.int 1))))] Str.empty)))
def m_format_point : MF := mRun 1 1 s_format_point
def s_format_points : MS := (sSeq (sEx (mCall m_check_points (aCons (mVar 0) aNil))) (sSeq (sIf (mTst (mBin (eqD false) (mCall (lenD3 ln_t) (aCons (mVar 0) aNil)) (mC (.int 0)))) (sRaiseI .InvalidPolygon (aCons (mC .non) aNil)) sNx) (sRt (mJoin " " (mLc (mIt (mVar 0)) (gNm 1) mYes (mCall m_format_point (aCons (mVar 1) aNil)) [1])))))
def m_format_points : MF := mRun 2 1 s_format_points
def s_format_polygon : MS := (sSeq (sEx (mCall m_check_polygon (aCons (mVar 0) aNil))) (sRt (mCall m_format_points (aCons (mProp pr_corners (mVar 0)) aNil))))
def m_format_polygon : MF := mRun 1 1 s_format_polygon
def s_format_map : MS := (sSeq (sEx (mCall m_check_map (aCons (mVar 0) aNil))) (sRt (mBin addD (mBin addD (mC (.str "[")) (mJoin " " (mLc (mIt (mProp pr_numbers (mVar 0))) (gNm 1) mYes (mCall strD (aCons (mVar 1) aNil)) [1]))) (mC (.str "]")))))
def m_format_map : MF := mRun 2 1 s_format_map
def s__law_pool : MS := (sSeq (sSet 2 (mC (.int 0))) (sSeq (sIf (mTst (mBin (eqD true) (mVar 0) (mLst aNil))) (sSet 2 (mBin idxD (mVar 0) (mBin modD (mVar 1) (mCall (lenD3 ln_t) (aCons (mVar 0) aNil))))) sNx) (sSeq (sSet 3 (mBin modD (mBin mulS2 (mBin addD (mBin addD (mBin modD (mVar 2) (mC (.int 2147483629))) (mBin mulS2 (mC (.int 50021)) (mVar 1))) (mC (.int 13))) (mC (.int 48271))) (mC (.int 2147483647)))) (sRt (mLstC (aCons (mBin mulS2 (mCall absD (aCons (mVar 2) aNil)) (mCall intD (aCons (mBin geI (mCall absD (aCons (mVar 2) aNil)) (mBin powD (mC (.int 10)) (mC (.int 18)))) aNil))) (aCons (mVar 3) aNil)))))))
def m__law_pool : MF := mRun 4 2 s__law_pool
def s__law_take : MS := (sSeq (sIf (mTst (mBin gtI (mBin idxD (mVar 0) (mC (.int 0))) (mC (.int 0)))) (sSeq (sSet 2 (mBin modD (mBin idxD (mVar 0) (mC (.int 0))) (mVar 1))) (sSeq (sPut (mVar 0) (mC (.int 0)) (mBin fdivD (mBin idxD (mVar 0) (mC (.int 0))) (mVar 1))) (sRt (mVar 2)))) sNx) (sSeq (sPut (mVar 0) (mC (.int 1)) (mBin modD (mBin addD (mBin mulS2 (mBin idxD (mVar 0) (mC (.int 1))) (mC (.int 48271))) (mC (.int 11))) (mC (.int 2147483647)))) (sRt (mBin modD (mBin fdivD (mBin modD (mBin mulS2 (mBin idxD (mVar 0) (mC (.int 1))) (mBin idxD (mVar 0) (mC (.int 1)))) (mC (.int 2147483629))) (mC (.int 64))) (mVar 1)))))
def m__law_take : MF := mRun 3 2 s__law_take
def s__law_number : MS := (sSeq (sPar 1 2 (aCons (mCall m__law_take (aCons (mVar 0) (aCons (mC (.int 5)) aNil))) (aCons (mBin idxD (mLst (aCons (mC (.int 1)) (aCons (mUn negD (mC (.int 1))) aNil))) (mCall m__law_take (aCons (mVar 0) (aCons (mC (.int 2)) aNil)))) aNil))) (sSeq (sIf (mTst (mBin ltI (mVar 1) (mC (.int 3)))) (sRt (mBin mulS2 (mVar 2) (mCall m__law_take (aCons (mVar 0) (aCons (mBin idxD (mLst (aCons (mC (.int 2)) (aCons (mC (.int 12)) (aCons (mC (.int 1000)) aNil)))) (mVar 1)) aNil))))) sNx) (sRt (mBin mulS2 (mVar 2) (mCall m__law_take (aCons (mVar 0) (aCons (mBin idxD (mLst (aCons (mBin powD (mC (.int 10)) (mC (.int 12))) (aCons (mBin powD (mC (.int 10)) (mC (.int 27))) aNil))) (mBin subD (mVar 1) (mC (.int 3)))) aNil)))))))
def m__law_number : MF := mRun 3 1 s__law_number
def s__law_digits : MS := (sSeq (sPar 1 2 (aCons (mC (.str "")) (aCons (mCall absD (aCons (mVar 0) aNil)) aNil))) (sSeq (sWh (mOr (mTst (mBin gtI (mVar 2) (mC (.int 0)))) (mTst (mBin (eqD false) (mVar 1) (mC (.str ""))))) (sSeq (sSet 1 (mBin addD (mBin idxD (mC (.str "0123456789")) (mBin modD (mVar 2) (mC (.int 10)))) (mVar 1))) (sSet 2 (mBin fdivD (mVar 2) (mC (.int 10)))))) (sRt (mIf (mTst (mBin ltI (mVar 0) (mC (.int 0)))) (mBin addD (mC (.str "-")) (mVar 1)) (mVar 1)))))
def m__law_digits : MF := mRun 3 1 s__law_digits
def s__law_point : MS := (sRt (mTup (aCons (mCall m__law_number (aCons (mVar 0) aNil)) (aCons (mCall m__law_number (aCons (mVar 0) aNil)) aNil))))
def m__law_point : MF := mRun 1 1 s__law_point
def s__law_pair : MS := (sRt (mBin addD (mBin addD (mCall m__law_digits (aCons (mBin idxD (mVar 0) (mC (.int 0))) aNil)) (mC (.str ","))) (mCall m__law_digits (aCons (mBin idxD (mVar 0) (mC (.int 1))) aNil))))
def m__law_pair : MF := mRun 1 1 s__law_pair
def ks__law_error : List CM := [cm none em_InvalidInteger (fun a d c => (sRt (mC (.str "integer")))), cm none em_InvalidPoint (fun a d c => (sRt (mC (.str "point")))), cm none em_InvalidMap (fun a d c => (sRt (mC (.str "map")))), cm (some 1) em_InvalidPolygon (fun a d c => (sRt (mLst (aCons (mC (.str "polygon")) (aCons (mXfG fx_position a d c (mVar 1)) aNil)))))]
def s__law_refused : MS := (sSeq (sSet 1 (mBin idxD (mLst (aCons (mC .non) (aCons (mC (.str "1")) (aCons (mLst (aCons (mC (.int 1)) aNil)) (aCons mDctC (aCons (mC (.str "abc")) aNil)))))) (mCall m__law_take (aCons (mVar 0) (aCons (mC (.int 5)) aNil))))) (sSeq (sSet 2 (mLstC (aCons (mLam 0 "_law_refused" "_law_refused.<locals>.<lambda>" 2 ks__law_error true (mCall m_format_integer (aCons (mVar 1) aNil))) (aCons (mLam 0 "_law_refused" "_law_refused.<locals>.<lambda>" 2 ks__law_error true (mCall m_format_integer (aCons (mC (.bl true)) aNil))) aNil)))) (sSeq (sEx (mApp (mVar 2) (mLam 0 "_law_refused" "_law_refused.<locals>.<lambda>" 2 ks__law_error true (mCall m_format_point (aCons (mVar 1) aNil))))) (sSeq (sEx (mApp (mVar 2) (mLam 0 "_law_refused" "_law_refused.<locals>.<lambda>" 2 ks__law_error true (mCall m_format_point (aCons (mLst (aCons (mC (.int 1)) (aCons (mC (.int 2)) aNil))) aNil))))) (sSeq (sEx (mApp (mVar 2) (mLam 0 "_law_refused" "_law_refused.<locals>.<lambda>" 2 ks__law_error true (mCall m_format_polygon (aCons (mVar 1) aNil))))) (sSeq (sEx (mApp (mVar 2) (mLam 0 "_law_refused" "_law_refused.<locals>.<lambda>" 2 ks__law_error true (mCall m_format_map (aCons (mVar 1) aNil))))) (sSeq (sIf (mTst (mBin (eqD true) (mVar 2) (mLst (aCons (mC (.str "integer")) (aCons (mC (.str "integer")) (aCons (mC (.str "point")) (aCons (mC (.str "point")) (aCons (mLst (aCons (mC (.str "polygon")) (aCons (mC .non) aNil))) (aCons (mC (.str "map")) aNil))))))))) (sRt (mC (.bl false))) sNx) (sSeq (sSet 3 (mLst (aCons (mTup (aCons (mC (.int 1)) (aCons (mC (.int 2)) aNil))) (aCons (mTup (aCons (mC (.int 3)) (aCons (mC (.int 4)) aNil))) (aCons (mTup (aCons (mC (.int 5)) (aCons (mC (.int 6)) aNil))) aNil))))) (sSeq (sSet 4 (mCall m__law_take (aCons (mVar 0) (aCons (mC (.int 4)) aNil)))) (sSeq (sSet 5 (mBin addD (mBin addD (mSl (mVar 3) oNone (oSome (mVar 4))) (mLst (aCons (mBin idxD (mLst (aCons (mC .non) (aCons (mTup (aCons (mC (.int 1)) aNil)) (aCons (mLst (aCons (mC (.int 1)) (aCons (mC (.int 2)) aNil))) (aCons (mTup (aCons (mC (.bl true)) (aCons (mC (.int 0)) aNil))) (aCons (mC (.str "1,2")) aNil)))))) (mCall m__law_take (aCons (mVar 0) (aCons (mC (.int 5)) aNil)))) (aCons (mC .non) aNil)))) (mSl (mVar 3) (oSome (mVar 4)) oNone))) (sSeq (sSet 2 (mLstC (aCons (mLam 0 "_law_refused" "_law_refused.<locals>.<lambda>" 2 ks__law_error true (mCall m_format_points (aCons (mVar 5) aNil))) (aCons (mLam 0 "_law_refused" "_law_refused.<locals>.<lambda>" 2 ks__law_error true (mCall m_format_points (aCons (mCall tupleD (aCons (mVar 5) aNil)) aNil))) aNil)))) (sSeq (sFor (mIt (mLst (aCons (mLst aNil) (aCons (mTup aNil) (aCons (mC .non) (aCons (mC (.str "1,2")) (aCons mDctC (aCons (mC (.int 5)) aNil)))))))) (gNm 6) (sEx (mApp (mVar 2) (mLam 0 "_law_refused" "_law_refused.<locals>.<lambda>" 2 ks__law_error true (mCall m_format_points (aCons (mVar 6) aNil)))))) (sRt (mBin (eqD false) (mVar 2) (mBin addD (mBin mulS2 (mLst (aCons (mLst (aCons (mC (.str "polygon")) (aCons (mVar 4) aNil))) aNil)) (mC (.int 2))) (mBin mulS2 (mLst (aCons (mLst (aCons (mC (.str "polygon")) (aCons (mC .non) aNil))) aNil)) (mC (.int 6))))))))))))))))))
def m__law_refused : MF := mRun 7 1 s__law_refused
def s_law : MS := (sSeq (sFor (mItA rng1 (aCons (mCall max2D (aCons (mC (.int 1)) (aCons (mCall min2D (aCons (mC (.int 6)) (aCons (mCall (lenD3 ln_t) (aCons (mVar 0) aNil)) aNil))) aNil))) aNil)) (gNm 1) (sSeq (sSet 2 (mCall m__law_pool (aCons (mVar 0) (aCons (mVar 1) aNil)))) (sSeq (sPar 3 4 (aCons (mCall m__law_number (aCons (mVar 2) aNil)) (aCons (mCall m__law_point (aCons (mVar 2) aNil)) aNil))) (sSeq (sIf (mOr (mTst (mBin (eqD true) (mCall m_format_integer (aCons (mVar 3) aNil)) (mCall m__law_digits (aCons (mVar 3) aNil)))) (mTst (mBin (eqD true) (mCall m_format_point (aCons (mVar 4) aNil)) (mCall m__law_pair (aCons (mVar 4) aNil))))) (sRt (mC (.bl false))) sNx) (sSeq (sSet 5 (mLc (mItA rng1 (aCons (mBin addD (mC (.int 1)) (mCall m__law_take (aCons (mVar 2) (aCons (mC (.int 6)) aNil)))) aNil)) (gNm 6) mYes (mCall m__law_point (aCons (mVar 2) aNil)) [6])) (sSeq (sSet 7 (mJoin " " (mLc (mIt (mVar 5)) (gNm 8) mYes (mCall m__law_pair (aCons (mVar 8) aNil)) [8]))) (sSeq (sIf (mOr (mTst (mBin (eqD true) (mCall m_format_points (aCons (mVar 5) aNil)) (mVar 7))) (mTst (mBin (eqD true) (mCall m_format_points (aCons (mCall tupleD (aCons (mVar 5) aNil)) aNil)) (mVar 7)))) (sRt (mC (.bl false))) sNx) (sSeq (sSet 9 (mCall m__law_number (aCons (mVar 2) aNil))) (sSeq (sSet 10 (mLst (aCons (mTup (aCons (mVar 9) (aCons (mC (.int 0)) aNil))) (aCons (mTup (aCons (mBin addD (mVar 9) (mC (.int 4))) (aCons (mC (.int 0)) aNil))) (aCons (mTup (aCons (mBin addD (mVar 9) (mC (.int 1))) (aCons (mC (.int 1)) aNil))) (aCons (mTup (aCons (mVar 9) (aCons (mC (.int 5)) aNil))) aNil)))))) (sSeq (sSet 11 (mMakeF .Polygon F_Polygon (aCons (mBin addD (mSl (mVar 10) (oSome (mC (.int 2))) oNone) (mSl (mVar 10) oNone (oSome (mC (.int 2))))) aNil))) (sSeq (sIf (mTst (mBin (eqD true) (mCall m_format_polygon (aCons (mVar 11) aNil)) (mJoin " " (mLc (mIt (mVar 10)) (gNm 8) mYes (mCall m__law_pair (aCons (mVar 8) aNil)) [8])))) (sRt (mC (.bl false))) sNx) (sSeq (sSet 12 (mLst (aCons (mC (.int 1)) (aCons (mCall m__law_number (aCons (mVar 2) aNil)) (aCons (mC (.int 0)) (aCons (mBin idxD (mLst (aCons (mC (.int 1)) (aCons (mUn negD (mC (.int 1))) aNil))) (mCall m__law_take (aCons (mVar 2) (aCons (mC (.int 2)) aNil)))) (aCons (mVar 9) (aCons (mCall m__law_number (aCons (mVar 2) aNil)) aNil)))))))) (sSeq (sSet 7 (mBin addD (mBin addD (mC (.str "[")) (mJoin " " (mLc (mIt (mVar 12)) (gNm 13) mYes (mCall m__law_digits (aCons (mVar 13) aNil)) [13]))) (mC (.str "]")))) (sSeq (sIf (mTst (mBin (eqD true) (mCall m_format_map (aCons (mMakeF .GridMap F_GridMap_6 (aCons (mBin idxD (mVar 12) (mC (.int 0))) (aCons (mBin idxD (mVar 12) (mC (.int 1))) (aCons (mBin idxD (mVar 12) (mC (.int 2))) (aCons (mBin idxD (mVar 12) (mC (.int 3))) (aCons (mBin idxD (mVar 12) (mC (.int 4))) (aCons (mBin idxD (mVar 12) (mC (.int 5))) aNil))))))) aNil)) (mVar 7))) (sRt (mC (.bl false))) sNx) (sIf (mNot (mTst (mCall m__law_refused (aCons (mVar 2) aNil)))) (sRt (mC (.bl false))) sNx))))))))))))))) (sRt (mC (.bl true))))
def m_law : MF := mRun 14 1 s_law
end ML
set_option Elab.async false
set_option linter.all false
set_option maxRecDepth 100000
set_option maxHeartbeats 2000000
namespace ML
open PySem PySem.Spec PyProof.Rows L2
/-! ### lists over a range -/
theorem nthP_lt {ps : List P2} {i : Nat} (h : i < ps.length) : nthP ps i = ps[i] := by unfold nthP; rw [List.getD_eq_getElem?_getD, List.getElem?_eq_getElem h]; rfl
theorem map_range {α : Type} (f : P2 → α) (ps : List P2) : ps.map f = (List.range ps.length).map fun i => f (nthP ps i) := by
  apply List.ext_getElem (by simp)
  intro i h1 h2
  have hi : i < ps.length := by simpa using h1
  rw [List.getElem_map, List.getElem_map, List.getElem_range, nthP_lt hi]
theorem enumD_range (n : Nat) (f : Nat → D) : enumD 0 ((List.range n).map f) = (List.range n).map fun i => D.tup [.int (i : Nat), f i] := by
  apply List.ext_getElem?
  intro i
  rw [enumD_get, List.getElem?_map, List.getElem?_map, Option.map_map]
  by_cases h : i < n
  · rw [List.getElem?_range h]
    show some _ = some _
    rw [Nat.zero_add]
    rfl
  · rw [List.getElem?_eq_none (by simpa using h)]
    rfl
theorem getD_map {ps : List P2} {i : Nat} (h : i < ps.length) : (ps.map dP).getD i .non = dP (nthP ps i) := by
  rw [List.getD_eq_getElem?_getD, List.getElem?_map, List.getElem?_eq_getElem h, nthP_lt h]
  rfl
theorem triD_range (ps : List P2) : triD (ps.map dP) = (List.range ps.length).map fun i => D.tup [dP (triP ps i).1, dP (triP ps i).2.1, dP (triP ps i).2.2] := by
  unfold triD
  rw [List.length_map]
  apply List.map_congr_left
  intro i hi
  have hi : i < ps.length := List.mem_range.mp hi
  have h0 : 0 < ps.length := Nat.lt_of_le_of_lt (Nat.zero_le _) hi
  rw [getD_map (Nat.mod_lt _ h0), getD_map hi, getD_map (Nat.mod_lt _ h0)]
  rfl
theorem atI_nat {α : Type} {xs : List α} {i : Nat} (h : i < xs.length) : atI xs (i : Nat) = xs[i]? := by
  unfold atI ixN
  have e : (i : Int) < xs.length := by omega
  simp [h, e]
theorem atI_map {ps : List P2} {i : Nat} (h : i < ps.length) : atI (ps.map dP) (i : Nat) = some (dP (nthP ps i)) := by
  rw [atI_nat (by simpa using h), List.getElem?_map, List.getElem?_eq_getElem h, nthP_lt h]
  rfl
theorem atI_range {n i : Nat} {f : Nat → D} (h : i < n) : atI ((List.range n).map f) (i : Nat) = some (f i) := by
  rw [atI_nat (by simpa using h), List.getElem?_map, List.getElem?_range h]
  rfl
/-! ### loops over a range -/
theorem lcL_range {g : GM} {tt : MT} {el : ME} {δ : Env} {W : Wo} (h k : Nat → D) : ∀ l : List Nat, (∀ i ∈ l, ∃ δ1, g (h i) δ = some δ1 ∧ tt δ1 W = .ok true W ∧ el δ1 W = .ok (k i) W) → lcL g tt el δ (l.map h) W = .ok (l.map k) W
  | [], _ => rfl
  | x :: r, q => by
    obtain ⟨δ1, h1, h2, h3⟩ := q x List.mem_cons_self
    rw [List.map_cons, List.map_cons]
    unfold lcL
    simp only [h1, h2, h3, lcL_range h k r fun y hy => q y (List.mem_cons_of_mem _ hy)]
theorem forL_no {g : GM} {b : MS} (I : Env → Prop) {W : Wo} : ∀ (items : List D) (δ : Env), (∀ x ∈ items, ∀ δ, I δ → ∃ δ1 δ2, g x δ = some δ1 ∧ b δ1 W = .nx δ2 W ∧ I δ2) → I δ → ∃ δ2, forL g b items δ W = .nx δ2 W ∧ I δ2
  | [], δ, _, h0 => ⟨δ, rfl, h0⟩
  | x :: r, δ, h, h0 => by
    obtain ⟨δ1, δ2, h1, h2, h3⟩ := h x List.mem_cons_self δ h0
    obtain ⟨δ3, h4, h5⟩ := forL_no I r δ2 (fun y hy => h y (List.mem_cons_of_mem _ hy)) h3
    refine ⟨δ3, ?_, h5⟩
    unfold forL
    simp only [h1, h2, SR.turn]
    exact h4
def genB (r : SR) : SR := match r with
  | .rt d W2 => .rt d W2
  | .ex c fs δ2 W2 => .ex c fs δ2 W2
  | _ => .bad
/-- a generator's loop: the first that passes the test ends it -/
theorem genL_find {g : GM} {t : MT} {b : MS} (I : Env → Prop) {W : Wo} (h : Nat → D) (c : Nat → Bool) : ∀ (l : List Nat) (δ : Env), (∀ i ∈ l, ∀ δ, I δ → ∃ δ1, g (h i) δ = some δ1 ∧ t δ1 W = .ok (c i) W ∧ I δ1) → I δ →
    ∃ δ2, I δ2 ∧ ((l.find? c = none ∧ genL g t b (l.map h) δ W = .nx δ2 W) ∨ ∃ i δ0, i ∈ l ∧ l.find? c = some i ∧ I δ0 ∧ g (h i) δ0 = some δ2 ∧ genL g t b (l.map h) δ W = genB (b δ2 W))
  | [], δ, _, h0 => ⟨δ, h0, .inl ⟨rfl, rfl⟩⟩
  | x :: r, δ, q, h0 => by
    obtain ⟨δ1, h1, h2, h3⟩ := q x List.mem_cons_self δ h0
    cases hc : c x with
    | true =>
      refine ⟨δ1, h3, .inr ⟨x, δ, List.mem_cons_self, by rw [List.find?_cons, hc], h0, h1, ?_⟩⟩
      rw [List.map_cons]
      unfold genL
      simp only [h1, h2, hc, if_true]
      rfl
    | false =>
      obtain ⟨δ2, i2, hh⟩ := genL_find I h c r δ1 (fun y hy => q y (List.mem_cons_of_mem _ hy)) h3
      have e : genL g t b ((x :: r).map h) δ W = genL g t b (r.map h) δ1 W := by
        rw [List.map_cons]
        show genL g t b (h x :: r.map h) δ W = _
        conv => lhs; unfold genL
        simp only [h1, h2, hc, Bool.false_eq_true, if_false]
      refine ⟨δ2, i2, ?_⟩
      rw [e, List.find?_cons, hc]
      rcases hh with hh | ⟨i, δ0, hi, hh⟩
      · exact .inl hh
      · exact .inr ⟨i, δ0, List.mem_cons_of_mem _ hi, hh⟩
/-! ### data of points -/
def pdP (p : P2) : PyData := .tuple [.int p.1, .int p.2]
theorem pds_pts : ∀ ps : List P2, pdsOf (ps.map dP) = some (ps.map pdP)
  | [] => rfl
  | p :: r => by
    rw [List.map_cons]
    unfold pdsOf
    rw [pds_pts r]
    rfl
theorem canLay_pts : ∀ ps : List P2, PyData.canLayAll0 (ps.map pdP) = true
  | [] => rfl
  | p :: r => by
    rw [List.map_cons]
    unfold PyData.canLayAll0
    rw [canLay_pts r]
    rfl
theorem eqv_pt (a b : P2) : PyData.eqv (pdP a) (pdP b) = decide (a = b) := by
  obtain ⟨a1, a2⟩ := a
  obtain ⟨b1, b2⟩ := b
  show ((a1 == b1) && ((a2 == b2) && true)) = _
  by_cases h1 : a1 = b1 <;> by_cases h2 : a2 = b2 <;> simp [h1, h2]
theorem tups_pts : ∀ ps : List P2, tupsOf (ps.map dP) = some (ps.map fun p => [p.1, p.2])
  | [] => rfl
  | p :: r => by
    show (match (some [p.1, p.2] : Option (List Int)) with
      | some n => match tupsOf (r.map dP) with
        | some l => some (n :: l)
        | none => none
      | none => none) = _
    rw [tups_pts r]
    rfl
theorem ints_map {α : Type} (f : α → Int) : ∀ l : List α, ML.intsOf (l.map fun i => D.int (f i)) = some (l.map f)
  | [] => rfl
  | p :: r => by
    rw [List.map_cons]
    unfold ML.intsOf
    rw [ints_map f r]
    rfl
theorem posP_find (q : P2) : ∀ ps : List P2, q ∈ ps → (ps.map pdP).findIdx? (fun z => PyData.eqv z (pdP q)) = some (posP q ps)
  | [], h => nomatch h
  | p :: r, h => by
    rw [List.map_cons, List.findIdx?_cons, eqv_pt]
    unfold posP
    by_cases e : p = q
    · rw [if_pos e, decide_eq_true e]; rfl
    · rw [if_neg e, decide_eq_false e, posP_find q r (by rcases List.mem_cons.mp h with z | z; exact absurd z.symm e; exact z)]
      rfl
theorem posP_lt (q : P2) : ∀ ps : List P2, q ∈ ps → posP q ps < ps.length
  | [], h => nomatch h
  | p :: r, h => by
    unfold posP
    by_cases e : p = q
    · rw [if_pos e]; exact Nat.succ_pos _
    · rw [if_neg e]
      exact Nat.succ_lt_succ (posP_lt q r (by rcases List.mem_cons.mp h with z | z; exact absurd z.symm e; exact z))
theorem minIx_lt {ps : List P2} (h : 0 < ps.length) : minIx ps < ps.length := by
  have := argBest_le (fun i j => ltP (nthP ps i) (nthP ps j)) (ps.length - 1)
  unfold minIx
  omega
theorem minP_mem {ps : List P2} (h : 0 < ps.length) : minP ps ∈ ps := by
  unfold minP
  rw [nthP_lt (minIx_lt h)]
  exact List.getElem_mem _
theorem lexLt_pt (a b : P2) : HT.lexLt [a.1, a.2] [b.1, b.2] = ltP a b := by
  rw [HT.lexLt_cons, HT.lexLt_cons, HT.lexLt_nil_nil]
  unfold ltP
  by_cases h1 : a.1 = b.1
  · rw [if_pos h1]
    have : ¬ a.1 < b.1 := by omega
    by_cases h2 : a.2 = b.2
    · have : ¬ a.2 < b.2 := by omega
      simp [h1, h2]
    · simp [h1, h2]
  · rw [if_neg h1]
    simp [h1]
theorem argBest_congr {f g : Nat → Nat → Bool} : ∀ k : Nat, (∀ i j, i ≤ k → j ≤ k → f i j = g i j) → argBest f k = argBest g k
  | 0, _ => rfl
  | k + 1, h => by
    have e := argBest_congr k fun i j hi hj => h i j (Nat.le_succ_of_le hi) (Nat.le_succ_of_le hj)
    unfold argBest
    rw [e, h _ _ (Nat.le_refl _) (Nat.le_succ_of_le (argBest_le g k))]
end ML
set_option Elab.async false
set_option linter.all false
set_option maxRecDepth 100000
set_option maxHeartbeats 2000000
namespace ML
open PySem PySem.Spec PyProof.Rows L2
/-! ### the geometry's mirrors -/
section
variable {W : Wo} {a b c p q : P2}
theorem idP0 : idxD (dP p) (.int 0) W = .ok (.int p.1) W := rfl
theorem idP1 : idxD (dP p) (.int 1) W = .ok (.int p.2) W := rfl
theorem mv_cross {n : Nat} (hp : BP n p) (hq : BP n q) (hn : n ≤ 400000) : m_cross_of [dP p, dP q] W = .ok (.int (crossP p q)) W := by
  have e1 := e_mulB (W := W) (big_of hp.x hq.y (by omega))
  have e2 := e_mulB (W := W) (big_of hp.y hq.x (by omega))
  unfold m_cross_of s_cross_of
  simp only [mRun, sSeq, sSet, sEx, sRt, sRtN, sIf, sNx, sBk, sCt, sAsg, sPar, mCall, mBin, mUn, mTst, mC, mVar, aNil, aCons, mTup, mLst, mLstC, mDctC, Res.bind, Res.toS, mAndV, mOrV, mAnd, mOr, mNot, mIf, mChain, mProp, mMeth, mMethK, mMakeF, mMakeC, mMakeCK, madeC, Res.calmed, sFldS, sPut, sPut2, sDel, sDelTail, sPropS, mApp, mIndex, mSl, oNone, oSome, mItA, mIt, mIt2, sFor, mLc, lcE, mYes, gNm, gNl, gCn, gTp, setAt, List.map_cons, List.map_nil, List.cons_append, List.nil_append, List.append_nil, List.replicate_succ, List.replicate_zero, List.getElem?_cons_zero, List.getElem?_cons_succ, List.getElem?_nil, List.set_cons_zero, List.set_cons_succ, List.length_cons, List.length_nil, e_sub, e_add, e_lt, e_le, e_gt, e_ge, e_eqI, e_neI, e_not, e_neg, e_idT, e_isN, wipeE, if_true, if_false, Bool.not_true, Bool.not_false, Bool.false_eq_true, Bool.true_eq_false, Option.some.injEq, decide_true, decide_false, sizeLine_eq, Nat.reduceAdd, Nat.reduceLeDiff, idP0, idP1, e1, e2]
  rfl
theorem mv_diff : m_difference [dP p, dP q] W = .ok (dP (subP p q)) W := by
  unfold m_difference s_difference
  simp only [mRun, sSeq, sSet, sEx, sRt, sRtN, sIf, sNx, sBk, sCt, sAsg, sPar, mCall, mBin, mUn, mTst, mC, mVar, aNil, aCons, mTup, mLst, mLstC, mDctC, Res.bind, Res.toS, mAndV, mOrV, mAnd, mOr, mNot, mIf, mChain, mProp, mMeth, mMethK, mMakeF, mMakeC, mMakeCK, madeC, Res.calmed, sFldS, sPut, sPut2, sDel, sDelTail, sPropS, mApp, mIndex, mSl, oNone, oSome, mItA, mIt, mIt2, sFor, mLc, lcE, mYes, gNm, gNl, gCn, gTp, setAt, List.map_cons, List.map_nil, List.cons_append, List.nil_append, List.append_nil, List.replicate_succ, List.replicate_zero, List.getElem?_cons_zero, List.getElem?_cons_succ, List.getElem?_nil, List.set_cons_zero, List.set_cons_succ, List.length_cons, List.length_nil, e_sub, e_add, e_lt, e_le, e_gt, e_ge, e_eqI, e_neI, e_not, e_neg, e_idT, e_isN, wipeE, if_true, if_false, Bool.not_true, Bool.not_false, Bool.false_eq_true, Bool.true_eq_false, Option.some.injEq, decide_true, decide_false, sizeLine_eq, Nat.reduceAdd, Nat.reduceLeDiff, idP0, idP1]
  rfl
theorem mv_turn {n : Nat} (ha : BP n a) (hb : BP n b) (hc : BP n c) (hn : n + 1 ≤ 400000) : m_turn_of [dP a, dP b, dP c] W = .ok (.int (turnP a b c)) W := by
  unfold m_turn_of s_turn_of
  simp only [mRun, sSeq, sSet, sEx, sRt, sRtN, sIf, sNx, sBk, sCt, sAsg, sPar, mCall, mBin, mUn, mTst, mC, mVar, aNil, aCons, mTup, mLst, mLstC, mDctC, Res.bind, Res.toS, mAndV, mOrV, mAnd, mOr, mNot, mIf, mChain, mProp, mMeth, mMethK, mMakeF, mMakeC, mMakeCK, madeC, Res.calmed, sFldS, sPut, sPut2, sDel, sDelTail, sPropS, mApp, mIndex, mSl, oNone, oSome, mItA, mIt, mIt2, sFor, mLc, lcE, mYes, gNm, gNl, gCn, gTp, setAt, List.map_cons, List.map_nil, List.cons_append, List.nil_append, List.append_nil, List.replicate_succ, List.replicate_zero, List.getElem?_cons_zero, List.getElem?_cons_succ, List.getElem?_nil, List.set_cons_zero, List.set_cons_succ, List.length_cons, List.length_nil, e_sub, e_add, e_lt, e_le, e_gt, e_ge, e_eqI, e_neI, e_not, e_neg, e_idT, e_isN, wipeE, if_true, if_false, Bool.not_true, Bool.not_false, Bool.false_eq_true, Bool.true_eq_false, Option.some.injEq, decide_true, decide_false, sizeLine_eq, Nat.reduceAdd, Nat.reduceLeDiff, mv_diff, mv_cross (hb.sub ha) (hc.sub hb) hn]
  rfl
theorem gv_turn {n : Nat} (ha : BP n a) (hb : BP n b) (hc : BP n c) (hn : n + 1 ≤ 400000) : gmf g_turn_of [dP a, dP b, dP c] W = .ok (.int (turnP a b c)) W := by
  have h1 := hb.sub ha
  have h2 := hc.sub hb
  have e1 : mulI (.int (subP b a).1) (.int (subP c b).2) W = .ok (.int ((subP b a).1 * (subP c b).2)) W := if_pos (big_of h1.x h2.y (by omega))
  have e2 : mulI (.int (subP b a).2) (.int (subP c b).1) W = .ok (.int ((subP b a).2 * (subP c b).1)) W := if_pos (big_of h1.y h2.x (by omega))
  have i0 : ∀ {W : Wo} (p : P2), idxT (dP p) (.int 0) W = .ok (.int p.1) W := fun _ => rfl
  have i1 : ∀ {W : Wo} (p : P2), idxT (dP p) (.int 1) W = .ok (.int p.2) W := fun _ => rfl
  have d1 : ∀ {W : Wo} (p q : P2), gmf g_difference [dP p, dP q] W = .ok (dP (subP p q)) W := fun p q => by
    unfold gmf g_difference
    simp only [mRun, sSeq, sSet, sEx, sRt, sRtN, sIf, sNx, sBk, sCt, sAsg, sPar, mCall, mBin, mUn, mTst, mC, mVar, aNil, aCons, mTup, mLst, mLstC, mDctC, Res.bind, Res.toS, mAndV, mOrV, mAnd, mOr, mNot, mIf, mChain, mProp, mMeth, mMethK, mMakeF, mMakeC, mMakeCK, madeC, Res.calmed, sFldS, sPut, sPut2, sDel, sDelTail, sPropS, mApp, mIndex, mSl, oNone, oSome, mItA, mIt, mIt2, sFor, mLc, lcE, mYes, gNm, gNl, gCn, gTp, setAt, List.map_cons, List.map_nil, List.cons_append, List.nil_append, List.append_nil, List.replicate_succ, List.replicate_zero, List.getElem?_cons_zero, List.getElem?_cons_succ, List.getElem?_nil, List.set_cons_zero, List.set_cons_succ, List.length_cons, List.length_nil, e_sub, e_add, e_lt, e_le, e_gt, e_ge, e_eqI, e_neI, e_not, e_neg, e_idT, e_isN, wipeE, if_true, if_false, Bool.not_true, Bool.not_false, Bool.false_eq_true, Bool.true_eq_false, Option.some.injEq, decide_true, decide_false, sizeLine_eq, Nat.reduceAdd, Nat.reduceLeDiff, i0, i1]
    rfl
  unfold gmf g_turn_of
  simp only [mRun, sSeq, sSet, sEx, sRt, sRtN, sIf, sNx, sBk, sCt, sAsg, sPar, mCall, mBin, mUn, mTst, mC, mVar, aNil, aCons, mTup, mLst, mLstC, mDctC, Res.bind, Res.toS, mAndV, mOrV, mAnd, mOr, mNot, mIf, mChain, mProp, mMeth, mMethK, mMakeF, mMakeC, mMakeCK, madeC, Res.calmed, sFldS, sPut, sPut2, sDel, sDelTail, sPropS, mApp, mIndex, mSl, oNone, oSome, mItA, mIt, mIt2, sFor, mLc, lcE, mYes, gNm, gNl, gCn, gTp, setAt, List.map_cons, List.map_nil, List.cons_append, List.nil_append, List.append_nil, List.replicate_succ, List.replicate_zero, List.getElem?_cons_zero, List.getElem?_cons_succ, List.getElem?_nil, List.set_cons_zero, List.set_cons_succ, List.length_cons, List.length_nil, e_sub, e_add, e_lt, e_le, e_gt, e_ge, e_eqI, e_neI, e_not, e_neg, e_idT, e_isN, wipeE, if_true, if_false, Bool.not_true, Bool.not_false, Bool.false_eq_true, Bool.true_eq_false, Option.some.injEq, decide_true, decide_false, sizeLine_eq, Nat.reduceAdd, Nat.reduceLeDiff, d1]
  unfold gmf g_cross_of
  simp only [mRun, sSeq, sSet, sEx, sRt, sRtN, sIf, sNx, sBk, sCt, sAsg, sPar, mCall, mBin, mUn, mTst, mC, mVar, aNil, aCons, mTup, mLst, mLstC, mDctC, Res.bind, Res.toS, mAndV, mOrV, mAnd, mOr, mNot, mIf, mChain, mProp, mMeth, mMethK, mMakeF, mMakeC, mMakeCK, madeC, Res.calmed, sFldS, sPut, sPut2, sDel, sDelTail, sPropS, mApp, mIndex, mSl, oNone, oSome, mItA, mIt, mIt2, sFor, mLc, lcE, mYes, gNm, gNl, gCn, gTp, setAt, List.map_cons, List.map_nil, List.cons_append, List.nil_append, List.append_nil, List.replicate_succ, List.replicate_zero, List.getElem?_cons_zero, List.getElem?_cons_succ, List.getElem?_nil, List.set_cons_zero, List.set_cons_succ, List.length_cons, List.length_nil, e_sub, e_add, e_lt, e_le, e_gt, e_ge, e_eqI, e_neI, e_not, e_neg, e_idT, e_isN, wipeE, if_true, if_false, Bool.not_true, Bool.not_false, Bool.false_eq_true, Bool.true_eq_false, Option.some.injEq, decide_true, decide_false, sizeLine_eq, Nat.reduceAdd, Nat.reduceLeDiff, i0, i1, e1, e2]
  rfl
theorem mv_is_int {i : Int} : m_is_integer [.int i] W = .ok (.bl true) W := rfl
theorem mv_is_point : m_is_point [dP p] W = .ok (.bl true) W := rfl
end
end ML
set_option Elab.async false
set_option linter.all false
set_option maxRecDepth 100000
set_option maxHeartbeats 2000000
namespace ML
open PySem PySem.Spec PyProof.Rows L2
/-! ### good polygons -/
structure Good (ps : List P2) : Prop where
  l3 : 3 ≤ ps.length
  l60 : ps.length ≤ 60
  bd : ∀ p ∈ ps, BP 2000 p
  turn : ∀ i, i < ps.length → turnAt ps i ≠ 0
  apart : ∀ i j, i < ps.length → j < ps.length → i + 2 ≤ j → (j + 1) % ps.length ≠ i → apartP (edgeP ps i) (edgeP ps j) = true
theorem good_iff {ps : List P2} : goodP ps = true ↔ Good ps := by
  unfold goodP
  rw [Bool.and_eq_true, Bool.and_eq_true, Bool.and_eq_true, decide_eq_true_iff, List.all_eq_true, List.all_eq_true, List.all_eq_true]
  constructor
  · rintro ⟨⟨⟨⟨h1, h2⟩, h3⟩, h4⟩, h5⟩
    refine ⟨h1, h2, fun p hp => bdP_iff.mp (h3 p hp), fun i hi => of_decide_eq_true (h4 i (List.mem_range.mpr hi)), fun i j hi hj a b => ?_⟩
    have h := List.all_eq_true.mp (h5 i (List.mem_range.mpr hi)) j (List.mem_range.mpr hj)
    rw [Bool.or_eq_true, Bool.or_eq_true, decide_eq_true_iff, decide_eq_true_iff] at h
    rcases h with (h | h) | h
    · omega
    · exact absurd h b
    · exact h
  · rintro ⟨h1, h2, h3, h4, h5⟩
    refine ⟨⟨⟨⟨h1, h2⟩, fun p hp => bdP_iff.mpr (h3 p hp)⟩, fun i hi => decide_eq_true (h4 i (List.mem_range.mp hi))⟩, fun i hi => List.all_eq_true.mpr fun j hj => ?_⟩
    rw [Bool.or_eq_true, Bool.or_eq_true, decide_eq_true_iff, decide_eq_true_iff]
    by_cases a : j < i + 2
    · exact .inl (.inl a)
    by_cases b : (j + 1) % ps.length = i
    · exact .inl (.inr b)
    exact .inr (h5 i j (List.mem_range.mp hi) (List.mem_range.mp hj) (by omega) b)
theorem bd_nth {ps : List P2} {n : Nat} (h : ∀ p ∈ ps, BP n p) (i : Nat) : BP n (nthP ps i) := by
  by_cases hi : i < ps.length
  · rw [nthP_lt hi]; exact h _ (List.getElem_mem _)
  · have : nthP ps i = (0, 0) := by unfold nthP; rw [List.getD_eq_getElem?_getD, List.getElem?_eq_none (by omega)]; rfl
    rw [this]
    exact ⟨Nat.two_pow_pos n, Nat.two_pow_pos n⟩
/-- a list of points, list or tuple -/
def PsD (d : D) (ps : List P2) : Prop := d = .lst (ps.map dP) ∨ d = .tup (ps.map dP)
section
variable {W : Wo} {d : D} {ps : List P2}
theorem enum_pts (h : PsD d ps) : enumIt [d] W = .ok ((List.range ps.length).map fun i => D.tup [.int (i : Nat), dP (nthP ps i)]) W := by
  have e : enumD 0 (ps.map dP) = _ := (congrArg (enumD 0) (map_range dP ps)).trans (enumD_range _ _)
  rcases h with rfl | rfl
  · show Res.ok (enumD 0 (ps.map dP)) W = _; rw [e]
  · show Res.ok (enumD 0 (ps.map dP)) W = _; rw [e]
theorem len_pts (h : PsD d ps) : lenD [d] W = .ok (.int ps.length) W := by
  rcases h with rfl | rfl
  · show Res.ok (D.int (ps.map dP).length) W = _; rw [List.length_map]
  · show Res.ok (D.int (ps.map dP).length) W = _; rw [List.length_map]
theorem idx_pts (h : PsD d ps) {i : Nat} (hi : i < ps.length) : idxD d (.int (i : Nat)) W = .ok (dP (nthP ps i)) W := by
  have e := atI_map hi
  rcases h with rfl | rfl
  · show (match atI (ps.map dP) (i : Nat) with
      | some x => Res.ok x W
      | none => .bad) = _
    rw [e]
  · show (match atI (ps.map dP) (i : Nat) with
      | some x => Res.ok x W
      | none => .bad) = _
    rw [e]
theorem isi_pts (h : PsD d ps) : isiD (gAny [g_list, g_tuple]) d W = .ok (.bl true) W := by
  rcases h with rfl | rfl <;> rfl
theorem list_pts (h : PsD d ps) : listD [d] W = .ok (.lst (ps.map dP)) W := by
  rcases h with rfl | rfl <;> rfl
theorem mv_check_points (h : PsD d ps) : m_check_points [d] W = .ok .non W := by
  obtain ⟨δ2, e, -⟩ := forL_no (W := W) (g := gTp 2 (gCn (gNm 1) (gCn (gNm 2) gNl))) (b := sIf (mNot (mTst (mCall m_is_point (aCons (mVar 2) aNil)))) (sRaiseI .InvalidPolygon (aCons (mVar 1) aNil)) sNx)
    (fun δ => ∃ a b, δ = [some d, a, b]) ((List.range ps.length).map fun i => D.tup [.int (i : Nat), dP (nthP ps i)]) [some d, none, none] (by
      rintro x hx δ ⟨a, b, rfl⟩
      obtain ⟨i, hi, rfl⟩ := List.mem_map.mp hx
      exact ⟨_, _, rfl, rfl, _, _, rfl⟩) ⟨_, _, rfl⟩
  unfold m_check_points s_check_points
  simp only [mRun, sSeq, sSet, sEx, sRt, sRtN, sIf, sNx, sBk, sCt, sAsg, sPar, mCall, mBin, mUn, mTst, mC, mVar, aNil, aCons, mTup, mLst, mLstC, mDctC, Res.bind, Res.toS, mAndV, mOrV, mAnd, mOr, mNot, mIf, mChain, mProp, mMeth, mMethK, mMakeF, mMakeC, mMakeCK, madeC, Res.calmed, sFldS, sPut, sPut2, sDel, sDelTail, sPropS, mApp, mIndex, mSl, oNone, oSome, mItA, mIt, mIt2, sFor, mLc, lcE, mYes, gNm, gNl, gCn, gTp, setAt, List.map_cons, List.map_nil, List.cons_append, List.nil_append, List.append_nil, List.replicate_succ, List.replicate_zero, List.getElem?_cons_zero, List.getElem?_cons_succ, List.getElem?_nil, List.set_cons_zero, List.set_cons_succ, List.length_cons, List.length_nil, e_sub, e_add, e_lt, e_le, e_gt, e_ge, e_eqI, e_neI, e_not, e_neg, e_idT, e_isN, wipeE, if_true, if_false, Bool.not_true, Bool.not_false, Bool.false_eq_true, Bool.true_eq_false, Option.some.injEq, decide_true, decide_false, sizeLine_eq, Nat.reduceAdd, Nat.reduceLeDiff, isi_pts h, enum_pts h, e]
theorem tri_pts (h : PsD d ps) (hb : ∀ p ∈ ps, BP 2000 p) {g : GM} {t : MT} {b : MS} {δ : Env} : sGen triD (mVar 0) g t b (some d :: δ) W = genL g t b ((List.range ps.length).map fun i => D.tup [.int (i : Nat), .tup [dP (triP ps i).1, dP (triP ps i).2.1, dP (triP ps i).2.2]]) (some d :: δ) W := by
  have e : enumD 0 (triD (ps.map dP)) = _ := (congrArg (enumD 0) (triD_range ps)).trans (enumD_range _ _)
  rcases h with rfl | rfl
  · show genL g t b (enumD 0 (triD (ps.map dP))) _ W = _; rw [e]
  · show genL g t b (enumD 0 (triD (ps.map dP))) _ W = _; rw [e]
theorem tri_turn (hb : ∀ p ∈ ps, BP 2000 p) (i : Nat) (k : Int → Int → Bool) {a0 a1 : Option D} : mTst (mBin (cmpG k) (mCall (gmf g_turn_of) (aCons (mVar 2) (aCons (mVar 3) (aCons (mVar 4) aNil)))) (mC (.int 0)))
    [a0, a1, some (dP (triP ps i).1), some (dP (triP ps i).2.1), some (dP (triP ps i).2.2)] W = .ok (k (turnAt ps i) 0) W := by
  have e := gv_turn (W := W) (n := 2000) (a := (triP ps i).1) (b := (triP ps i).2.1) (c := (triP ps i).2.2) (bd_nth hb _) (bd_nth hb _) (bd_nth hb _) (by decide)
  simp only [mRun, sSeq, sSet, sEx, sRt, sRtN, sIf, sNx, sBk, sCt, sAsg, sPar, mCall, mBin, mUn, mTst, mC, mVar, aNil, aCons, mTup, mLst, mLstC, mDctC, Res.bind, Res.toS, mAndV, mOrV, mAnd, mOr, mNot, mIf, mChain, mProp, mMeth, mMethK, mMakeF, mMakeC, mMakeCK, madeC, Res.calmed, sFldS, sPut, sPut2, sDel, sDelTail, sPropS, mApp, mIndex, mSl, oNone, oSome, mItA, mIt, mIt2, sFor, mLc, lcE, mYes, gNm, gNl, gCn, gTp, setAt, List.map_cons, List.map_nil, List.cons_append, List.nil_append, List.append_nil, List.replicate_succ, List.replicate_zero, List.getElem?_cons_zero, List.getElem?_cons_succ, List.getElem?_nil, List.set_cons_zero, List.set_cons_succ, List.length_cons, List.length_nil, e_sub, e_add, e_lt, e_le, e_gt, e_ge, e_eqI, e_neI, e_not, e_neg, e_idT, e_isN, wipeE, if_true, if_false, Bool.not_true, Bool.not_false, Bool.false_eq_true, Bool.true_eq_false, Option.some.injEq, decide_true, decide_false, sizeLine_eq, Nat.reduceAdd, Nat.reduceLeDiff, e, cmpG]
  rfl
theorem mv_check_turns (h : PsD d ps) (G : Good ps) : m_check_turns [d] W = .ok .non W := by
  unfold m_check_turns s_check_turns
  obtain ⟨δ2, _, hh⟩ := genL_find (W := W) (g := gTp 2 (gCn (gNm 1) (gCn (gTp 3 (gCn (gNm 2) (gCn (gNm 3) (gCn (gNm 4) gNl)))) gNl))) (t := mTst (mBin (cmpG (fun i j => i == j)) (mCall (gmf g_turn_of) (aCons (mVar 2) (aCons (mVar 3) (aCons (mVar 4) aNil)))) (mC (.int 0)))) (b := sRaiseI .DegenerateCorner (aCons (mVar 1) aNil))
    (fun δ => ∃ a b c e, δ = [some d, a, b, c, e]) (fun i => D.tup [.int (i : Nat), .tup [dP (triP ps i).1, dP (triP ps i).2.1, dP (triP ps i).2.2]]) (fun i => turnAt ps i == 0) (List.range ps.length) [some d, none, none, none, none] (by
      rintro i hi δ ⟨a, b, c, e, rfl⟩
      exact ⟨_, rfl, tri_turn G.bd i _, _, _, _, _, rfl⟩) ⟨_, _, _, _, rfl⟩
  rcases hh with ⟨_, e⟩ | ⟨i, δ0, hi, hf, _⟩
  · show (match (sGen _ _ _ _ _ [some d, none, none, none, none] W : SR) with
      | .nx _ W => Res.ok D.non W
      | .rt d W => .ok d W
      | .ex c fs _ W => .ex c fs W
      | _ => .bad) = _
    rw [tri_pts h G.bd, e]
  · have := List.find?_some hf
    exact absurd (by simpa using this) (G.turn i (List.mem_range.mp hi))
theorem mv_first_reflex (h : PsD d ps) (hb : ∀ p ∈ ps, BP 2000 p) : m_first_reflex [d] W = .ok (reflexD (reflexP ps)) W := by
  unfold m_first_reflex s_first_reflex
  obtain ⟨δ2, _, hh⟩ := genL_find (W := W) (g := gTp 2 (gCn (gNm 1) (gCn (gTp 3 (gCn (gNm 2) (gCn (gNm 3) (gCn (gNm 4) gNl)))) gNl))) (t := mTst (mBin (cmpG (fun i j => decide (i < j))) (mCall (gmf g_turn_of) (aCons (mVar 2) (aCons (mVar 3) (aCons (mVar 4) aNil)))) (mC (.int 0)))) (b := sRt (mVar 1))
    (fun δ => ∃ a b c e, δ = [some d, a, b, c, e]) (fun i => D.tup [.int (i : Nat), .tup [dP (triP ps i).1, dP (triP ps i).2.1, dP (triP ps i).2.2]]) (fun i => decide (turnAt ps i < 0)) (List.range ps.length) [some d, none, none, none, none] (by
      rintro i hi δ ⟨a, b, c, e, rfl⟩
      exact ⟨_, rfl, tri_turn hb i _, _, _, _, _, rfl⟩) ⟨_, _, _, _, rfl⟩
  rcases hh with ⟨hn, e⟩ | ⟨i, δ0, hi, hf, ⟨a, b, c, e, rfl⟩, hg, e2⟩
  · show (match ((match (sGen _ _ _ _ _ [some d, none, none, none, none] W : SR) with
        | .nx δ W => sRt (mC .non) δ W
        | r => r) : SR) with
      | .nx _ W => Res.ok D.non W
      | .rt d W => .ok d W
      | .ex c fs _ W => .ex c fs W
      | _ => .bad) = _
    rw [tri_pts h hb, e]
    unfold reflexP
    rw [hn]
    rfl
  · show (match ((match (sGen _ _ _ _ _ [some d, none, none, none, none] W : SR) with
        | .nx δ W => sRt (mC .non) δ W
        | r => r) : SR) with
      | .nx _ W => Res.ok D.non W
      | .rt d W => .ok d W
      | .ex c fs _ W => .ex c fs W
      | _ => .bad) = _
    rw [tri_pts h hb, e2]
    unfold reflexP
    rw [hf]
    cases hg
    rfl
end
end ML
set_option Elab.async false
set_option linter.all false
set_option maxRecDepth 100000
set_option maxHeartbeats 2000000
namespace ML
open PySem PySem.Spec PyProof.Rows L2
section
variable {W : Wo} {d : D} {ps : List P2}
def edD (ps : List P2) (i : Nat) : D := .tup [dP (edgeP ps i).1, dP (edgeP ps i).2]
theorem szOf {n : Nat} (h : n ≤ 60) : n ≤ 16777216 := Nat.le_trans h (by decide)
theorem mv_edges (h : PsD d ps) (l : ps.length ≤ 60) : m_edges_of [d] W = .ok (.lst ((List.range ps.length).map (edD ps))) W := by
  have e : lcL (gTp 2 (gCn (gNm 1) (gCn (gNm 2) gNl))) mYes (mTup (aCons (mVar 2) (aCons (mBin idxD (mVar 0) (mBin modD (mBin addD (mVar 1) (mC (.int 1))) (mCall lenD (aCons (mVar 0) aNil)))) aNil))) [some d, none, none]
      ((List.range ps.length).map fun i => D.tup [.int (i : Nat), dP (nthP ps i)]) W = .ok ((List.range ps.length).map (edD ps)) W := lcL_range _ (edD ps) _ fun i hi => by
    have hi : i < ps.length := List.mem_range.mp hi
    have h0 : 0 < ps.length := Nat.lt_of_le_of_lt (Nat.zero_le _) hi
    refine ⟨_, rfl, rfl, ?_⟩
    have e1 : modD (.int ((i : Nat) + 1)) (.int (ps.length : Nat)) W = .ok (.int (((i + 1) % ps.length : Nat) : Int)) W := by
      rw [e_mod (by omega)]
      congr 2
    have e2 := idx_pts (W := W) h (Nat.mod_lt (i + 1) h0)
    simp only [mRun, sSeq, sSet, sEx, sRt, sRtN, sIf, sNx, sBk, sCt, sAsg, sPar, mCall, mBin, mUn, mTst, mC, mVar, aNil, aCons, mTup, mLst, mLstC, mDctC, Res.bind, Res.toS, mAndV, mOrV, mAnd, mOr, mNot, mIf, mChain, mProp, mMeth, mMethK, mMakeF, mMakeC, mMakeCK, madeC, Res.calmed, sFldS, sPut, sPut2, sDel, sDelTail, sPropS, mApp, mIndex, mSl, oNone, oSome, mItA, mIt, mIt2, sFor, mLc, lcE, mYes, gNm, gNl, gCn, gTp, setAt, List.map_cons, List.map_nil, List.cons_append, List.nil_append, List.append_nil, List.replicate_succ, List.replicate_zero, List.getElem?_cons_zero, List.getElem?_cons_succ, List.getElem?_nil, List.set_cons_zero, List.set_cons_succ, List.length_cons, List.length_nil, e_sub, e_add, e_lt, e_le, e_gt, e_ge, e_eqI, e_neI, e_not, e_neg, e_idT, e_isN, wipeE, if_true, if_false, Bool.not_true, Bool.not_false, Bool.false_eq_true, Bool.true_eq_false, Option.some.injEq, decide_true, decide_false, sizeLine_eq, Nat.reduceAdd, Nat.reduceLeDiff, len_pts h, e1, e2]
    rfl
  unfold m_edges_of s_edges_of
  simp only [mRun, sSeq, sSet, sEx, sRt, sRtN, sIf, sNx, sBk, sCt, sAsg, sPar, mCall, mBin, mUn, mTst, mC, mVar, aNil, aCons, mTup, mLst, mLstC, mDctC, Res.bind, Res.toS, mAndV, mOrV, mAnd, mOr, mNot, mIf, mChain, mProp, mMeth, mMethK, mMakeF, mMakeC, mMakeCK, madeC, Res.calmed, sFldS, sPut, sPut2, sDel, sDelTail, sPropS, mApp, mIndex, mSl, oNone, oSome, mItA, mIt, mIt2, sFor, mLc, lcE, mYes, gNm, gNl, gCn, gTp, setAt, List.map_cons, List.map_nil, List.cons_append, List.nil_append, List.append_nil, List.replicate_succ, List.replicate_zero, List.getElem?_cons_zero, List.getElem?_cons_succ, List.getElem?_nil, List.set_cons_zero, List.set_cons_succ, List.length_cons, List.length_nil, e_sub, e_add, e_lt, e_le, e_gt, e_ge, e_eqI, e_neI, e_not, e_neg, e_idT, e_isN, wipeE, if_true, if_false, Bool.not_true, Bool.not_false, Bool.false_eq_true, Bool.true_eq_false, Option.some.injEq, decide_true, decide_false, sizeLine_eq, Nat.reduceAdd, Nat.reduceLeDiff, enum_pts h, e, List.length_map, List.length_range, szOf l]
theorem decide_lt_of {a : Int} : decide (a < 0) = decide (a < 0) := rfl
theorem apart_iff {e f : P2 × P2} (h : apartP e f = true) : turnP e.1 e.2 f.1 ≠ 0 ∧ turnP e.1 e.2 f.2 ≠ 0 ∧ turnP f.1 f.2 e.1 ≠ 0 ∧ turnP f.1 f.2 e.2 ≠ 0 ∧ ¬ (turnP e.1 e.2 f.1 * turnP e.1 e.2 f.2 < 0 ∧ turnP f.1 f.2 e.1 * turnP f.1 f.2 e.2 < 0) := by
  unfold apartP at h
  simp only [Bool.and_eq_true, decide_eq_true_iff, Bool.not_eq_true', Bool.and_eq_false_iff, decide_eq_false_iff_not] at h
  obtain ⟨⟨⟨⟨h1, h2⟩, h3⟩, h4⟩, h5⟩ := h
  exact ⟨h1, h2, h3, h4, fun z => h5.elim (fun q => q z.1) fun q => q z.2⟩
theorem mv_is_on {a b c : P2} (ha : BP 2000 a) (hb : BP 2000 b) (hc : BP 2000 c) (h : turnP a b c ≠ 0) : m_is_on [dP c, dP a, dP b] W = .ok (.bl false) W := by
  have e := mv_turn (W := W) (n := 2000) ha hb hc (by decide)
  unfold m_is_on s_is_on
  simp only [mRun, sSeq, sSet, sEx, sRt, sRtN, sIf, sNx, sBk, sCt, sAsg, sPar, mCall, mBin, mUn, mTst, mC, mVar, aNil, aCons, mTup, mLst, mLstC, mDctC, Res.bind, Res.toS, mAndV, mOrV, mAnd, mOr, mNot, mIf, mChain, mProp, mMeth, mMethK, mMakeF, mMakeC, mMakeCK, madeC, Res.calmed, sFldS, sPut, sPut2, sDel, sDelTail, sPropS, mApp, mIndex, mSl, oNone, oSome, mItA, mIt, mIt2, sFor, mLc, lcE, mYes, gNm, gNl, gCn, gTp, setAt, List.map_cons, List.map_nil, List.cons_append, List.nil_append, List.append_nil, List.replicate_succ, List.replicate_zero, List.getElem?_cons_zero, List.getElem?_cons_succ, List.getElem?_nil, List.set_cons_zero, List.set_cons_succ, List.length_cons, List.length_nil, e_sub, e_add, e_lt, e_le, e_gt, e_ge, e_eqI, e_neI, e_not, e_neg, e_idT, e_isN, wipeE, if_true, if_false, Bool.not_true, Bool.not_false, Bool.false_eq_true, Bool.true_eq_false, Option.some.injEq, decide_true, decide_false, sizeLine_eq, Nat.reduceAdd, Nat.reduceLeDiff, e, decide_eq_false h]
theorem mv_common {e f : P2 × P2} (a1 : BP 2000 e.1) (a2 : BP 2000 e.2) (b1 : BP 2000 f.1) (b2 : BP 2000 f.2) (h : apartP e f = true) : m_have_common_point [.tup [dP e.1, dP e.2], .tup [dP f.1, dP f.2]] W = .ok (.bl false) W := by
  obtain ⟨h1, h2, h3, h4, h5⟩ := apart_iff h
  have t1 := mv_turn (W := W) (n := 2000) a1 a2 b1 (by decide)
  have t2 := mv_turn (W := W) (n := 2000) a1 a2 b2 (by decide)
  have t3 := mv_turn (W := W) (n := 2000) b1 b2 a1 (by decide)
  have t4 := mv_turn (W := W) (n := 2000) b1 b2 a2 (by decide)
  have m1 := e_mulB (W := W) (big_of (a1.turn a2 b1) (a1.turn a2 b2) (by decide))
  have m2 := e_mulB (W := W) (big_of (b1.turn b2 a1) (b1.turn b2 a2) (by decide))
  have i0 : ∀ (x y z w : D) (W : Wo), idxD (.tup [x, y, z, w]) (.int 0) W = .ok x W := fun _ _ _ _ _ => rfl
  have i1 : ∀ (x y z w : D) (W : Wo), idxD (.tup [x, y, z, w]) (.int 1) W = .ok y W := fun _ _ _ _ _ => rfl
  have i2 : ∀ (x y z w : D) (W : Wo), idxD (.tup [x, y, z, w]) (.int 2) W = .ok z W := fun _ _ _ _ _ => rfl
  have i3 : ∀ (x y z w : D) (W : Wo), idxD (.tup [x, y, z, w]) (.int 3) W = .ok w W := fun _ _ _ _ _ => rfl
  have o1 := mv_is_on (W := W) a1 a2 b1 h1
  have o2 := mv_is_on (W := W) a1 a2 b2 h2
  have o3 := mv_is_on (W := W) b1 b2 a1 h3
  have o4 := mv_is_on (W := W) b1 b2 a2 h4
  unfold m_have_common_point s_have_common_point
  by_cases p1 : turnP e.1 e.2 f.1 * turnP e.1 e.2 f.2 < 0
  · have p2 : ¬ turnP f.1 f.2 e.1 * turnP f.1 f.2 e.2 < 0 := fun z => h5 ⟨p1, z⟩
    simp only [mRun, sSeq, sSet, sEx, sRt, sRtN, sIf, sNx, sBk, sCt, sAsg, sPar, mCall, mBin, mUn, mTst, mC, mVar, aNil, aCons, mTup, mLst, mLstC, mDctC, Res.bind, Res.toS, mAndV, mOrV, mAnd, mOr, mNot, mIf, mChain, mProp, mMeth, mMethK, mMakeF, mMakeC, mMakeCK, madeC, Res.calmed, sFldS, sPut, sPut2, sDel, sDelTail, sPropS, mApp, mIndex, mSl, oNone, oSome, mItA, mIt, mIt2, sFor, mLc, lcE, mYes, gNm, gNl, gCn, gTp, setAt, List.map_cons, List.map_nil, List.cons_append, List.nil_append, List.append_nil, List.replicate_succ, List.replicate_zero, List.getElem?_cons_zero, List.getElem?_cons_succ, List.getElem?_nil, List.set_cons_zero, List.set_cons_succ, List.length_cons, List.length_nil, e_sub, e_add, e_lt, e_le, e_gt, e_ge, e_eqI, e_neI, e_not, e_neg, e_idT, e_isN, wipeE, if_true, if_false, Bool.not_true, Bool.not_false, Bool.false_eq_true, Bool.true_eq_false, Option.some.injEq, decide_true, decide_false, sizeLine_eq, Nat.reduceAdd, Nat.reduceLeDiff, t1, t2, t3, t4, i0, i1, i2, i3, m1, m2, decide_eq_true p1, decide_eq_false p2, o1, o2, o3, o4]
  · simp only [mRun, sSeq, sSet, sEx, sRt, sRtN, sIf, sNx, sBk, sCt, sAsg, sPar, mCall, mBin, mUn, mTst, mC, mVar, aNil, aCons, mTup, mLst, mLstC, mDctC, Res.bind, Res.toS, mAndV, mOrV, mAnd, mOr, mNot, mIf, mChain, mProp, mMeth, mMethK, mMakeF, mMakeC, mMakeCK, madeC, Res.calmed, sFldS, sPut, sPut2, sDel, sDelTail, sPropS, mApp, mIndex, mSl, oNone, oSome, mItA, mIt, mIt2, sFor, mLc, lcE, mYes, gNm, gNl, gCn, gTp, setAt, List.map_cons, List.map_nil, List.cons_append, List.nil_append, List.append_nil, List.replicate_succ, List.replicate_zero, List.getElem?_cons_zero, List.getElem?_cons_succ, List.getElem?_nil, List.set_cons_zero, List.set_cons_succ, List.length_cons, List.length_nil, e_sub, e_add, e_lt, e_le, e_gt, e_ge, e_eqI, e_neI, e_not, e_neg, e_idT, e_isN, wipeE, if_true, if_false, Bool.not_true, Bool.not_false, Bool.false_eq_true, Bool.true_eq_false, Option.some.injEq, decide_true, decide_false, sizeLine_eq, Nat.reduceAdd, Nat.reduceLeDiff, t1, t2, t3, t4, i0, i1, i2, i3, m1, m2, decide_eq_false p1, o1, o2, o3, o4]
end
end ML
set_option Elab.async false
set_option linter.all false
set_option maxRecDepth 100000
set_option maxHeartbeats 2000000
namespace ML
open PySem PySem.Spec PyProof.Rows L2
section
variable {W : Wo} {d : D} {ps : List P2}
theorem idx_ed {i : Nat} (hi : i < ps.length) : idxD (.lst ((List.range ps.length).map (edD ps))) (.int (i : Nat)) W = .ok (edD ps i) W := by
  show (match atI ((List.range ps.length).map (edD ps)) (i : Nat) with
    | some x => Res.ok x W
    | none => .bad) = _
  rw [atI_range hi]
theorem rng1_nat {n : Nat} (h : n ≤ 100000) : rng1 [.int (n : Nat)] W = .ok (rngD 0 n) W := by
  simp only [rng1]
  rw [if_pos (by omega), Int.toNat_natCast]
theorem rng2_nat {i j : Int} (h : 0 ≤ i) (h2 : i ≤ 100000) (h3 : 0 ≤ j) (h4 : j ≤ 100000) : rng2 [.int i, .int j] W = .ok (rngD i (j - i).toNat) W := by
  simp only [rng2]
  rw [if_pos (by omega)]
theorem mem_rngD {lo : Int} {n : Nat} {x : D} (h : x ∈ rngD lo n) : ∃ k : Nat, k < n ∧ x = .int (lo + k) := by
  unfold rngD at h
  obtain ⟨k, hk, rfl⟩ := List.mem_map.mp h
  exact ⟨k, List.mem_range.mp hk, rfl⟩
abbrev xTest : MS := sIf (mAnd (mTst (mBin (eqD true) (mBin modD (mBin addD (mVar 4) (mC (.int 1))) (mVar 2)) (mVar 3))) (mTst (mCall m_have_common_point (aCons (mBin idxD (mVar 1) (mVar 3)) (aCons (mBin idxD (mVar 1) (mVar 4)) aNil))))) sBad sNx
abbrev xIn : MS := sFor (mItA rng2 (aCons (mBin addD (mVar 3) (mC (.int 2))) (aCons (mVar 2) aNil))) (gNm 4) xTest
abbrev xEnv (d : D) (ps : List P2) (a b : Option D) : Env := [some d, some (.lst ((List.range ps.length).map (edD ps))), some (.int (ps.length : Nat)), a, b]
theorem x_test (G : Good ps) {i j : Nat} (hi : i < ps.length) (hj : j < ps.length) (hji : i + 2 ≤ j) : xTest (xEnv d ps (some (.int (i : Nat))) (some (.int (j : Nat)))) W = .nx (xEnv d ps (some (.int (i : Nat))) (some (.int (j : Nat)))) W := by
  have e1 : modD (.int ((j : Nat) + 1)) (.int (ps.length : Nat)) W = .ok (.int (((j + 1) % ps.length : Nat) : Int)) W := by
    rw [e_mod (by omega)]
    congr 2
  unfold xTest xEnv
  by_cases q : (j + 1) % ps.length = i
  · have q' : decide ((((j + 1) % ps.length : Nat) : Int) ≠ (i : Nat)) = false := decide_eq_false (by omega)
    simp only [mRun, sSeq, sSet, sEx, sRt, sRtN, sIf, sNx, sBk, sCt, sAsg, sPar, mCall, mBin, mUn, mTst, mC, mVar, aNil, aCons, mTup, mLst, mLstC, mDctC, Res.bind, Res.toS, mAndV, mOrV, mAnd, mOr, mNot, mIf, mChain, mProp, mMeth, mMethK, mMakeF, mMakeC, mMakeCK, madeC, Res.calmed, sFldS, sPut, sPut2, sDel, sDelTail, sPropS, mApp, mIndex, mSl, oNone, oSome, mItA, mIt, mIt2, sFor, mLc, lcE, mYes, gNm, gNl, gCn, gTp, setAt, List.map_cons, List.map_nil, List.cons_append, List.nil_append, List.append_nil, List.replicate_succ, List.replicate_zero, List.getElem?_cons_zero, List.getElem?_cons_succ, List.getElem?_nil, List.set_cons_zero, List.set_cons_succ, List.length_cons, List.length_nil, e_sub, e_add, e_lt, e_le, e_gt, e_ge, e_eqI, e_neI, e_not, e_neg, e_idT, e_isN, wipeE, if_true, if_false, Bool.not_true, Bool.not_false, Bool.false_eq_true, Bool.true_eq_false, Option.some.injEq, decide_true, decide_false, sizeLine_eq, Nat.reduceAdd, Nat.reduceLeDiff, e1, q']
  · have q' : decide ((((j + 1) % ps.length : Nat) : Int) ≠ (i : Nat)) = true := decide_eq_true (by omega)
    have c := mv_common (W := W) (bd_nth G.bd _) (bd_nth G.bd _) (bd_nth G.bd _) (bd_nth G.bd _) (G.apart i j hi hj hji q)
    have c : m_have_common_point [edD ps i, edD ps j] W = _ := c
    simp only [mRun, sSeq, sSet, sEx, sRt, sRtN, sIf, sNx, sBk, sCt, sAsg, sPar, mCall, mBin, mUn, mTst, mC, mVar, aNil, aCons, mTup, mLst, mLstC, mDctC, Res.bind, Res.toS, mAndV, mOrV, mAnd, mOr, mNot, mIf, mChain, mProp, mMeth, mMethK, mMakeF, mMakeC, mMakeCK, madeC, Res.calmed, sFldS, sPut, sPut2, sDel, sDelTail, sPropS, mApp, mIndex, mSl, oNone, oSome, mItA, mIt, mIt2, sFor, mLc, lcE, mYes, gNm, gNl, gCn, gTp, setAt, List.map_cons, List.map_nil, List.cons_append, List.nil_append, List.append_nil, List.replicate_succ, List.replicate_zero, List.getElem?_cons_zero, List.getElem?_cons_succ, List.getElem?_nil, List.set_cons_zero, List.set_cons_succ, List.length_cons, List.length_nil, e_sub, e_add, e_lt, e_le, e_gt, e_ge, e_eqI, e_neI, e_not, e_neg, e_idT, e_isN, wipeE, if_true, if_false, Bool.not_true, Bool.not_false, Bool.false_eq_true, Bool.true_eq_false, Option.some.injEq, decide_true, decide_false, sizeLine_eq, Nat.reduceAdd, Nat.reduceLeDiff, e1, q', idx_ed hi, idx_ed hj, c]
theorem x_in (G : Good ps) {i : Nat} (hi : i < ps.length) (a : Option D) : ∃ b, xIn (xEnv d ps (some (.int (i : Nat))) a) W = .nx (xEnv d ps (some (.int (i : Nat))) b) W := by
  have l60 := G.l60
  have r2 : rng2 [.int ((i : Nat) + 2), .int (ps.length : Nat)] W = .ok (rngD ((i : Nat) + 2) ((ps.length : Int) - ((i : Nat) + 2)).toNat) W := rng2_nat (by omega) (by omega) (by omega) (by omega)
  obtain ⟨δ2, e, hI⟩ := forL_no (W := W) (g := gNm 4) (b := xTest) (fun δ => ∃ b, δ = xEnv d ps (some (.int (i : Nat))) b) (rngD ((i : Nat) + 2) ((ps.length : Int) - ((i : Nat) + 2)).toNat) (xEnv d ps (some (.int (i : Nat))) a) (by
    rintro x hx δ ⟨b, rfl⟩
    obtain ⟨k, hk, rfl⟩ := mem_rngD hx
    obtain ⟨j, hj, hji, ej⟩ : ∃ j : Nat, j < ps.length ∧ i + 2 ≤ j ∧ ((i : Nat) : Int) + 2 + (k : Nat) = ((j : Nat) : Int) := ⟨i + 2 + k, by omega, by omega, by omega⟩
    rw [ej]
    exact ⟨xEnv d ps (some (.int (i : Nat))) (some (.int (j : Nat))), _, rfl, x_test G hi hj hji, _, rfl⟩) ⟨_, rfl⟩
  obtain ⟨b, rfl⟩ := hI
  refine ⟨b, ?_⟩
  have r : aCons (mBin addD (mVar 3) (mC (.int 2))) (aCons (mVar 2) aNil) (xEnv d ps (some (.int (i : Nat))) a) W = .ok [.int ((i : Nat) + 2), .int (ps.length : Nat)] W := by
    unfold xEnv
    simp only [mRun, sSeq, sSet, sEx, sRt, sRtN, sIf, sNx, sBk, sCt, sAsg, sPar, mCall, mBin, mUn, mTst, mC, mVar, aNil, aCons, mTup, mLst, mLstC, mDctC, Res.bind, Res.toS, mAndV, mOrV, mAnd, mOr, mNot, mIf, mChain, mProp, mMeth, mMethK, mMakeF, mMakeC, mMakeCK, madeC, Res.calmed, sFldS, sPut, sPut2, sDel, sDelTail, sPropS, mApp, mIndex, mSl, oNone, oSome, mItA, mIt, mIt2, sFor, mLc, lcE, mYes, gNm, gNl, gCn, gTp, setAt, List.map_cons, List.map_nil, List.cons_append, List.nil_append, List.append_nil, List.replicate_succ, List.replicate_zero, List.getElem?_cons_zero, List.getElem?_cons_succ, List.getElem?_nil, List.set_cons_zero, List.set_cons_succ, List.length_cons, List.length_nil, e_sub, e_add, e_lt, e_le, e_gt, e_ge, e_eqI, e_neI, e_not, e_neg, e_idT, e_isN, wipeE, if_true, if_false, Bool.not_true, Bool.not_false, Bool.false_eq_true, Bool.true_eq_false, Option.some.injEq, decide_true, decide_false, sizeLine_eq, Nat.reduceAdd, Nat.reduceLeDiff]
  exact (sFor_of ((mItA_of r).trans r2)).trans e
theorem x_out (G : Good ps) : ∃ a b, sFor (mItA rng1 (aCons (mVar 2) aNil)) (gNm 3) xIn (xEnv d ps none none) W = .nx (xEnv d ps a b) W := by
  have l60 := G.l60
  obtain ⟨δ2, e, hI⟩ := forL_no (W := W) (g := gNm 3) (b := xIn) (fun δ => ∃ a b, δ = xEnv d ps a b) (rngD 0 ps.length) (xEnv d ps none none) (by
    rintro x hx δ ⟨a, b, rfl⟩
    obtain ⟨k, hk, rfl⟩ := mem_rngD hx
    rw [Int.zero_add]
    obtain ⟨b2, e⟩ := x_in (W := W) (d := d) G hk b
    exact ⟨xEnv d ps (some (.int (k : Nat))) b, _, rfl, e, _, _, rfl⟩) ⟨_, _, rfl⟩
  obtain ⟨a, b, rfl⟩ := hI
  refine ⟨a, b, ?_⟩
  have r : aCons (mVar 2) aNil (xEnv d ps none none) W = .ok [.int (ps.length : Nat)] W := by
    unfold xEnv
    simp only [mRun, sSeq, sSet, sEx, sRt, sRtN, sIf, sNx, sBk, sCt, sAsg, sPar, mCall, mBin, mUn, mTst, mC, mVar, aNil, aCons, mTup, mLst, mLstC, mDctC, Res.bind, Res.toS, mAndV, mOrV, mAnd, mOr, mNot, mIf, mChain, mProp, mMeth, mMethK, mMakeF, mMakeC, mMakeCK, madeC, Res.calmed, sFldS, sPut, sPut2, sDel, sDelTail, sPropS, mApp, mIndex, mSl, oNone, oSome, mItA, mIt, mIt2, sFor, mLc, lcE, mYes, gNm, gNl, gCn, gTp, setAt, List.map_cons, List.map_nil, List.cons_append, List.nil_append, List.append_nil, List.replicate_succ, List.replicate_zero, List.getElem?_cons_zero, List.getElem?_cons_succ, List.getElem?_nil, List.set_cons_zero, List.set_cons_succ, List.length_cons, List.length_nil, e_sub, e_add, e_lt, e_le, e_gt, e_ge, e_eqI, e_neI, e_not, e_neg, e_idT, e_isN, wipeE, if_true, if_false, Bool.not_true, Bool.not_false, Bool.false_eq_true, Bool.true_eq_false, Option.some.injEq, decide_true, decide_false, sizeLine_eq, Nat.reduceAdd, Nat.reduceLeDiff]
  exact (sFor_of ((mItA_of r).trans (rng1_nat (by omega)))).trans e
theorem mv_check_crossings (h : PsD d ps) (G : Good ps) : m_check_crossings [d] W = .ok .non W := by
  have le := mv_edges (W := W) h G.l60
  have ln : lenD [D.lst ((List.range ps.length).map (edD ps))] W = .ok (.int ps.length) W := by
    show Res.ok (D.int ((List.range ps.length).map (edD ps)).length) W = _
    rw [List.length_map, List.length_range]
  obtain ⟨a, b, e⟩ := x_out (W := W) (d := d) G
  have h1 : sSet 1 (mCall m_edges_of (aCons (mVar 0) aNil)) [some d, none, none, none, none] W = .nx [some d, some (.lst ((List.range ps.length).map (edD ps))), none, none, none] W := by
    simp only [mRun, sSeq, sSet, sEx, sRt, sRtN, sIf, sNx, sBk, sCt, sAsg, sPar, mCall, mBin, mUn, mTst, mC, mVar, aNil, aCons, mTup, mLst, mLstC, mDctC, Res.bind, Res.toS, mAndV, mOrV, mAnd, mOr, mNot, mIf, mChain, mProp, mMeth, mMethK, mMakeF, mMakeC, mMakeCK, madeC, Res.calmed, sFldS, sPut, sPut2, sDel, sDelTail, sPropS, mApp, mIndex, mSl, oNone, oSome, mItA, mIt, mIt2, sFor, mLc, lcE, mYes, gNm, gNl, gCn, gTp, setAt, List.map_cons, List.map_nil, List.cons_append, List.nil_append, List.append_nil, List.replicate_succ, List.replicate_zero, List.getElem?_cons_zero, List.getElem?_cons_succ, List.getElem?_nil, List.set_cons_zero, List.set_cons_succ, List.length_cons, List.length_nil, e_sub, e_add, e_lt, e_le, e_gt, e_ge, e_eqI, e_neI, e_not, e_neg, e_idT, e_isN, wipeE, if_true, if_false, Bool.not_true, Bool.not_false, Bool.false_eq_true, Bool.true_eq_false, Option.some.injEq, decide_true, decide_false, sizeLine_eq, Nat.reduceAdd, Nat.reduceLeDiff, le]
  have h2 : sSet 2 (mCall lenD (aCons (mVar 1) aNil)) [some d, some (.lst ((List.range ps.length).map (edD ps))), none, none, none] W = .nx (xEnv d ps none none) W := by
    unfold xEnv
    simp only [mRun, sSeq, sSet, sEx, sRt, sRtN, sIf, sNx, sBk, sCt, sAsg, sPar, mCall, mBin, mUn, mTst, mC, mVar, aNil, aCons, mTup, mLst, mLstC, mDctC, Res.bind, Res.toS, mAndV, mOrV, mAnd, mOr, mNot, mIf, mChain, mProp, mMeth, mMethK, mMakeF, mMakeC, mMakeCK, madeC, Res.calmed, sFldS, sPut, sPut2, sDel, sDelTail, sPropS, mApp, mIndex, mSl, oNone, oSome, mItA, mIt, mIt2, sFor, mLc, lcE, mYes, gNm, gNl, gCn, gTp, setAt, List.map_cons, List.map_nil, List.cons_append, List.nil_append, List.append_nil, List.replicate_succ, List.replicate_zero, List.getElem?_cons_zero, List.getElem?_cons_succ, List.getElem?_nil, List.set_cons_zero, List.set_cons_succ, List.length_cons, List.length_nil, e_sub, e_add, e_lt, e_le, e_gt, e_ge, e_eqI, e_neI, e_not, e_neg, e_idT, e_isN, wipeE, if_true, if_false, Bool.not_true, Bool.not_false, Bool.false_eq_true, Bool.true_eq_false, Option.some.injEq, decide_true, decide_false, sizeLine_eq, Nat.reduceAdd, Nat.reduceLeDiff, ln]
  exact mRun_nx (δ0 := [some d, none, none, none, none]) rfl ((sSeq_of h1).trans ((sSeq_of h2).trans e))
theorem mv_area (h : PsD d ps) (G : Good ps) : m_area_of [d] W = .ok (.int (areaP ps)) W := by
  have e : lcL (gTp 2 (gCn (gNm 1) (gCn (gNm 2) gNl))) mYes (mCall m_cross_of (aCons (mVar 1) (aCons (mVar 2) aNil))) [some d, none, none]
      ((List.range ps.length).map (edD ps)) W = .ok ((List.range ps.length).map fun i => D.int (crossP (edgeP ps i).1 (edgeP ps i).2)) W := lcL_range _ _ _ fun i hi => by
    refine ⟨_, rfl, rfl, ?_⟩
    have c := mv_cross (W := W) (n := 2000) (p := (edgeP ps i).1) (q := (edgeP ps i).2) (bd_nth G.bd _) (bd_nth G.bd _) (by decide)
    simp only [mRun, sSeq, sSet, sEx, sRt, sRtN, sIf, sNx, sBk, sCt, sAsg, sPar, mCall, mBin, mUn, mTst, mC, mVar, aNil, aCons, mTup, mLst, mLstC, mDctC, Res.bind, Res.toS, mAndV, mOrV, mAnd, mOr, mNot, mIf, mChain, mProp, mMeth, mMethK, mMakeF, mMakeC, mMakeCK, madeC, Res.calmed, sFldS, sPut, sPut2, sDel, sDelTail, sPropS, mApp, mIndex, mSl, oNone, oSome, mItA, mIt, mIt2, sFor, mLc, lcE, mYes, gNm, gNl, gCn, gTp, setAt, List.map_cons, List.map_nil, List.cons_append, List.nil_append, List.append_nil, List.replicate_succ, List.replicate_zero, List.getElem?_cons_zero, List.getElem?_cons_succ, List.getElem?_nil, List.set_cons_zero, List.set_cons_succ, List.length_cons, List.length_nil, e_sub, e_add, e_lt, e_le, e_gt, e_ge, e_eqI, e_neI, e_not, e_neg, e_idT, e_isN, wipeE, if_true, if_false, Bool.not_true, Bool.not_false, Bool.false_eq_true, Bool.true_eq_false, Option.some.injEq, decide_true, decide_false, sizeLine_eq, Nat.reduceAdd, Nat.reduceLeDiff, c]
  have s : sumD [.lst ((List.range ps.length).map fun i => D.int (crossP (edgeP ps i).1 (edgeP ps i).2))] W = .ok (.int (areaP ps)) W := by
    show (match ML.intsOf ((List.range ps.length).map fun i => D.int (crossP (edgeP ps i).1 (edgeP ps i).2)) with
      | some ns => Res.ok (D.int ns.sum) W
      | none => .bad) = _
    rw [ints_map]
    rfl
  unfold m_area_of s_area_of
  simp only [mRun, sSeq, sSet, sEx, sRt, sRtN, sIf, sNx, sBk, sCt, sAsg, sPar, mCall, mBin, mUn, mTst, mC, mVar, aNil, aCons, mTup, mLst, mLstC, mDctC, Res.bind, Res.toS, mAndV, mOrV, mAnd, mOr, mNot, mIf, mChain, mProp, mMeth, mMethK, mMakeF, mMakeC, mMakeCK, madeC, Res.calmed, sFldS, sPut, sPut2, sDel, sDelTail, sPropS, mApp, mIndex, mSl, oNone, oSome, mItA, mIt, mIt2, sFor, mLc, lcE, mYes, gNm, gNl, gCn, gTp, setAt, List.map_cons, List.map_nil, List.cons_append, List.nil_append, List.append_nil, List.replicate_succ, List.replicate_zero, List.getElem?_cons_zero, List.getElem?_cons_succ, List.getElem?_nil, List.set_cons_zero, List.set_cons_succ, List.length_cons, List.length_nil, e_sub, e_add, e_lt, e_le, e_gt, e_ge, e_eqI, e_neI, e_not, e_neg, e_idT, e_isN, wipeE, if_true, if_false, Bool.not_true, Bool.not_false, Bool.false_eq_true, Bool.true_eq_false, Option.some.injEq, decide_true, decide_false, sizeLine_eq, Nat.reduceAdd, Nat.reduceLeDiff, mv_edges h G.l60, itemsD, e, List.length_map, List.length_range, szOf G.l60, s]
theorem min_pts (h : 0 < ps.length) : minTD [.lst (ps.map dP)] W = .ok (dP (minP ps)) W := by
  show (match tupsOf (ps.map dP) with
    | some ns => match (ps.map dP)[argBest (fun i j => HT.lexLt (ns.getD i []) (ns.getD j [])) ((ps.map dP).length - 1)]? with
      | some x => Res.ok x W
      | none => .bad
    | none => .bad) = _
  rw [tups_pts, List.length_map]
  have e : argBest (fun i j => HT.lexLt ((ps.map fun p => [p.1, p.2]).getD i []) ((ps.map fun p => [p.1, p.2]).getD j [])) (ps.length - 1) = minIx ps := argBest_congr _ fun i j hi hj => by
    have g : ∀ i < ps.length, (ps.map fun p => [p.1, p.2]).getD i [] = [(nthP ps i).1, (nthP ps i).2] := fun i hi => by
      rw [List.getD_eq_getElem?_getD, List.getElem?_map, List.getElem?_eq_getElem hi, nthP_lt hi]
      rfl
    show HT.lexLt _ _ = _
    rw [g i (by omega), g j (by omega), lexLt_pt]
  show (match (ps.map dP)[argBest (fun i j => HT.lexLt ((ps.map fun p => [p.1, p.2]).getD i []) ((ps.map fun p => [p.1, p.2]).getD j [])) (ps.length - 1)]? with
      | some x => Res.ok x W
      | none => .bad) = _
  rw [e, List.getElem?_map, List.getElem?_eq_getElem (minIx_lt h)]
  unfold minP
  rw [nthP_lt (minIx_lt h)]
  rfl
theorem ix_pts {q : P2} (h : q ∈ ps) : idxOf (ps.map dP) (dP q) W = .ok (.int (posP q ps : Nat)) W := by
  unfold idxOf
  rw [pds_pts]
  show (if SeqAt.shaped (.list (ps.map pdP)) = true ∧ SeqAt.shaped (pdP q) = true then (match (ps.map pdP).findIdx? (fun z => PyData.eqv z (pdP q)) with
        | some j => Res.ok (D.int (j : Nat)) W
        | none => .bad) else .bad) = _
  have dp : ∀ ps : List P2, PyData.depthAll (ps.map pdP) ≤ 3 := fun ps => by
    induction ps with
    | nil => decide
    | cons p r ih =>
      rw [List.map_cons]
      unfold PyData.depthAll
      have : PyData.depth (pdP p) = 1 := rfl
      omega
  have s1 : SeqAt.shaped (.list (ps.map pdP)) = true := by
    unfold SeqAt.shaped
    rw [Bool.and_eq_true, decide_eq_true_iff]
    refine ⟨canLay_pts ps, ?_⟩
    have := dp ps
    show PyData.depthAll (ps.map pdP) + 1 ≤ 64
    omega
  rw [if_pos ⟨s1, rfl⟩, posP_find q ps h]
theorem rev_pts : revD (.lst (ps.map dP)) W = .ok (.lst (ps.reverse.map dP)) W := by
  show Res.ok (D.lst (ps.map dP).reverse) W = _
  rw [List.map_reverse]
theorem mv_arranged (h : PsD d ps) (G : Good ps) : m_arranged [d] W = .ok (keptD (arrP ps)) W := by
  have key : ∀ qs : List P2, 0 < qs.length → qs.length ≤ 60 → (match ((match (sSet 2 (mIndex (mVar 1) (mCall minTD (aCons (mVar 1) aNil)))) [some d, some (.lst (qs.map dP)), none] W with
      | .nx δ W => (sRt (mCall tupleD (aCons (mBin addD (mSl (mVar 1) (oSome (mVar 2)) oNone) (mSl (mVar 1) oNone (oSome (mVar 2)))) aNil))) δ W
      | r => r) : SR) with
      | .nx _ W => Res.ok D.non W
      | .rt d W => .ok d W
      | .ex c fs _ W => .ex c fs W
      | _ => .bad) = Res.ok (keptD (rotP qs)) W := by
    intro qs h0 h60
    have hm := minP_mem h0
    have hp := posP_lt _ _ hm
    have c1 : slD (.lst (qs.map dP)) (some ((posP (minP qs) qs : Nat) : Int)) none W = .ok (.lst ((qs.drop (posP (minP qs) qs)).map dP)) W := by
      show Res.ok (D.lst (cutD (qs.map dP) _ _)) W = _
      unfold cutD
      rw [HT.sIx_nat, HT.sIx_none, List.length_map, Nat.min_eq_left (Nat.le_of_lt hp), List.take_of_length_le (by simp), List.map_drop]
    have c2 : slD (.lst (qs.map dP)) none (some ((posP (minP qs) qs : Nat) : Int)) W = .ok (.lst ((qs.take (posP (minP qs) qs)).map dP)) W := by
      show Res.ok (D.lst (cutD (qs.map dP) _ _)) W = _
      unfold cutD
      rw [HT.sIx_nat, HT.sIx_none, List.length_map, Nat.min_eq_left (Nat.le_of_lt hp), List.drop_zero, Nat.sub_zero, List.map_take]
    have c3 : addD (.lst ((qs.drop (posP (minP qs) qs)).map dP)) (.lst ((qs.take (posP (minP qs) qs)).map dP)) W = .ok (.lst ((rotP qs).map dP)) W := by
      unfold addD
      simp only [lstOf, List.length_map, List.length_drop, List.length_take]
      rw [if_pos (by have : sizeLine = 16777216 := sizeLine_eq; omega), ← List.map_append]
      rfl
    simp only [mRun, sSeq, sSet, sEx, sRt, sRtN, sIf, sNx, sBk, sCt, sAsg, sPar, mCall, mBin, mUn, mTst, mC, mVar, aNil, aCons, mTup, mLst, mLstC, mDctC, Res.bind, Res.toS, mAndV, mOrV, mAnd, mOr, mNot, mIf, mChain, mProp, mMeth, mMethK, mMakeF, mMakeC, mMakeCK, madeC, Res.calmed, sFldS, sPut, sPut2, sDel, sDelTail, sPropS, mApp, mIndex, mSl, oNone, oSome, mItA, mIt, mIt2, sFor, mLc, lcE, mYes, gNm, gNl, gCn, gTp, setAt, List.map_cons, List.map_nil, List.cons_append, List.nil_append, List.append_nil, List.replicate_succ, List.replicate_zero, List.getElem?_cons_zero, List.getElem?_cons_succ, List.getElem?_nil, List.set_cons_zero, List.set_cons_succ, List.length_cons, List.length_nil, e_sub, e_add, e_lt, e_le, e_gt, e_ge, e_eqI, e_neI, e_not, e_neg, e_idT, e_isN, wipeE, if_true, if_false, Bool.not_true, Bool.not_false, Bool.false_eq_true, Bool.true_eq_false, Option.some.injEq, decide_true, decide_false, sizeLine_eq, Nat.reduceAdd, Nat.reduceLeDiff, min_pts h0, ix_pts hm, c1, c2, c3, tupleD]
    rfl
  unfold m_arranged s_arranged arrP
  have l3 := G.l3
  have l60 := G.l60
  by_cases q : 0 < areaP ps
  · have k := key ps (by omega) l60
    rw [if_pos q]
    have e : (sSet 1 (mIf (mTst (mBin gtI (mCall m_area_of (aCons (mVar 0) aNil)) (mC (.int 0)))) (mCall listD (aCons (mVar 0) aNil)) (mUn revD (mCall listD (aCons (mVar 0) aNil))))) [some d, none, none] W = .nx [some d, some (.lst (ps.map dP)), none] W := by
      simp only [mRun, sSeq, sSet, sEx, sRt, sRtN, sIf, sNx, sBk, sCt, sAsg, sPar, mCall, mBin, mUn, mTst, mC, mVar, aNil, aCons, mTup, mLst, mLstC, mDctC, Res.bind, Res.toS, mAndV, mOrV, mAnd, mOr, mNot, mIf, mChain, mProp, mMeth, mMethK, mMakeF, mMakeC, mMakeCK, madeC, Res.calmed, sFldS, sPut, sPut2, sDel, sDelTail, sPropS, mApp, mIndex, mSl, oNone, oSome, mItA, mIt, mIt2, sFor, mLc, lcE, mYes, gNm, gNl, gCn, gTp, setAt, List.map_cons, List.map_nil, List.cons_append, List.nil_append, List.append_nil, List.replicate_succ, List.replicate_zero, List.getElem?_cons_zero, List.getElem?_cons_succ, List.getElem?_nil, List.set_cons_zero, List.set_cons_succ, List.length_cons, List.length_nil, e_sub, e_add, e_lt, e_le, e_gt, e_ge, e_eqI, e_neI, e_not, e_neg, e_idT, e_isN, wipeE, if_true, if_false, Bool.not_true, Bool.not_false, Bool.false_eq_true, Bool.true_eq_false, Option.some.injEq, decide_true, decide_false, sizeLine_eq, Nat.reduceAdd, Nat.reduceLeDiff, mv_area h G, decide_eq_true q, list_pts h]
    show (match (match sSet 1 _ [some d, none, none] W with
      | .nx δ W => sSeq _ _ δ W
      | r => r : SR) with
      | .nx _ W => Res.ok D.non W
      | .rt d W => .ok d W
      | .ex c fs _ W => .ex c fs W
      | _ => .bad) = _
    rw [e]
    exact k
  · have k := key ps.reverse (by rw [List.length_reverse]; omega) (by rw [List.length_reverse]; exact l60)
    rw [if_neg q]
    have e : (sSet 1 (mIf (mTst (mBin gtI (mCall m_area_of (aCons (mVar 0) aNil)) (mC (.int 0)))) (mCall listD (aCons (mVar 0) aNil)) (mUn revD (mCall listD (aCons (mVar 0) aNil))))) [some d, none, none] W = .nx [some d, some (.lst (ps.reverse.map dP)), none] W := by
      simp only [mRun, sSeq, sSet, sEx, sRt, sRtN, sIf, sNx, sBk, sCt, sAsg, sPar, mCall, mBin, mUn, mTst, mC, mVar, aNil, aCons, mTup, mLst, mLstC, mDctC, Res.bind, Res.toS, mAndV, mOrV, mAnd, mOr, mNot, mIf, mChain, mProp, mMeth, mMethK, mMakeF, mMakeC, mMakeCK, madeC, Res.calmed, sFldS, sPut, sPut2, sDel, sDelTail, sPropS, mApp, mIndex, mSl, oNone, oSome, mItA, mIt, mIt2, sFor, mLc, lcE, mYes, gNm, gNl, gCn, gTp, setAt, List.map_cons, List.map_nil, List.cons_append, List.nil_append, List.append_nil, List.replicate_succ, List.replicate_zero, List.getElem?_cons_zero, List.getElem?_cons_succ, List.getElem?_nil, List.set_cons_zero, List.set_cons_succ, List.length_cons, List.length_nil, e_sub, e_add, e_lt, e_le, e_gt, e_ge, e_eqI, e_neI, e_not, e_neg, e_idT, e_isN, wipeE, if_true, if_false, Bool.not_true, Bool.not_false, Bool.false_eq_true, Bool.true_eq_false, Option.some.injEq, decide_true, decide_false, sizeLine_eq, Nat.reduceAdd, Nat.reduceLeDiff, mv_area h G, decide_eq_false q, list_pts h, rev_pts]
    show (match (match sSet 1 _ [some d, none, none] W with
      | .nx δ W => sSeq _ _ δ W
      | r => r : SR) with
      | .nx _ W => Res.ok D.non W
      | .rt d W => .ok d W
      | .ex c fs _ W => .ex c fs W
      | _ => .bad) = _
    rw [e]
    exact k
theorem mv_checked_corners (h : PsD d ps) (G : Good ps) : m_checked_corners [d, .int 60] W = .ok (keptD (arrP ps)) W := by
  have a1 : decide ((3 : Int) ≤ (ps.length : Nat)) = true := decide_eq_true (by have := G.l3; omega)
  have a2 : decide (((ps.length : Nat) : Int) ≤ 60) = true := decide_eq_true (by have := G.l60; omega)
  unfold m_checked_corners s_checked_corners
  simp only [mRun, sSeq, sSet, sEx, sRt, sRtN, sIf, sNx, sBk, sCt, sAsg, sPar, mCall, mBin, mUn, mTst, mC, mVar, aNil, aCons, mTup, mLst, mLstC, mDctC, Res.bind, Res.toS, mAndV, mOrV, mAnd, mOr, mNot, mIf, mChain, mProp, mMeth, mMethK, mMakeF, mMakeC, mMakeCK, madeC, Res.calmed, sFldS, sPut, sPut2, sDel, sDelTail, sPropS, mApp, mIndex, mSl, oNone, oSome, mItA, mIt, mIt2, sFor, mLc, lcE, mYes, gNm, gNl, gCn, gTp, setAt, List.map_cons, List.map_nil, List.cons_append, List.nil_append, List.append_nil, List.replicate_succ, List.replicate_zero, List.getElem?_cons_zero, List.getElem?_cons_succ, List.getElem?_nil, List.set_cons_zero, List.set_cons_succ, List.length_cons, List.length_nil, e_sub, e_add, e_lt, e_le, e_gt, e_ge, e_eqI, e_neI, e_not, e_neg, e_idT, e_isN, wipeE, if_true, if_false, Bool.not_true, Bool.not_false, Bool.false_eq_true, Bool.true_eq_false, Option.some.injEq, decide_true, decide_false, sizeLine_eq, Nat.reduceAdd, Nat.reduceLeDiff, isi_pts h, len_pts h, a1, a2, mv_check_points h, mv_check_turns h G, mv_check_crossings h G, mv_arranged h G]
end
end ML
set_option Elab.async false
set_option linter.all false
set_option maxRecDepth 100000
set_option maxHeartbeats 2000000
namespace ML
open PySem PySem.Spec PyProof.Rows L2
theorem ptOf_eq {d : D} {p : P2} (h : ptOf d = some p) : d = dP p := by
  unfold ptOf at h
  split at h
  · cases h; rfl
  · cases h
theorem ptsL_eq : ∀ {xs : List D} {ps : List P2}, ptsL xs = some ps → xs = ps.map dP
  | [], _, h => by cases h; rfl
  | d :: r, ps, h => by
    unfold ptsL at h
    split at h
    · rename_i p l h1 h2
      cases h
      rw [ptOf_eq h1, ptsL_eq h2]
      rfl
    · cases h
theorem ptsOf_eq {d : D} {ps : List P2} (h : ptsOf d = some ps) : PsD d ps := by
  unfold ptsOf at h
  split at h
  · exact .inl (by rw [ptsL_eq h])
  · exact .inr (by rw [ptsL_eq h])
  · cases h
theorem rot_mem {ps : List P2} {p : P2} : p ∈ rotP ps ↔ p ∈ ps := by
  unfold rotP
  rw [List.mem_append, Or.comm, ← List.mem_append, List.take_append_drop]
theorem arr_mem {ps : List P2} {p : P2} : p ∈ arrP ps ↔ p ∈ ps := by
  unfold arrP
  rw [rot_mem]
  split
  · exact Iff.rfl
  · exact List.mem_reverse
theorem lo_pts (k : Nat) : ∀ ps : List P2, loL k (ps.map dP) = true
  | [] => rfl
  | p :: r => by
    rw [List.map_cons]
    unfold loL
    rw [lo_pts k r]
    rfl
section
variable {W : Wo} {d : D} {ps : List P2} {c : Cl} {x y : D} {fs : List D}
theorem W_at : (W ++ [MO.ins c fs])[W.length]? = some (.ins c fs) := by simp
theorem W_set {m m' : MO} : (W ++ [m]).set W.length m' = W ++ [m'] := by simp
theorem mv_Polygon_init (hc : c = .Polygon) (h : PsD d ps) (G : Good ps) : m_Polygon_init [.cell W.length, d] (W ++ [.ins c []]) = .ok .non (W ++ [.ins c [keptD (arrP ps), reflexD (reflexP (arrP ps))]]) := by
  have e1 : ∀ W, m_checked_corners [d, .int 60] W = _ := fun W => mv_checked_corners (W := W) h G
  have e2 : ∀ W, m_first_reflex [keptD (arrP ps)] W = _ := fun W => mv_first_reflex (W := W) (d := keptD (arrP ps)) (.inr rfl) fun p hp => G.bd p (arr_mem.mp hp)
  have hf : fl_kept c = some 0 := by rw [hc]; rfl
  have hg : fl_reflex c = some 1 := by rw [hc]; rfl
  have i1 : insOf (W ++ [.ins c [keptD (arrP ps)]]) (.cell W.length) = some (c, [keptD (arrP ps)]) := by
    show (match (W ++ [MO.ins c [keptD (arrP ps)]])[W.length]? with
      | some (.ins c fs) => some (c, fs)
      | _ => none) = _
    rw [W_at]
  have i2 : fldD fl_kept (.cell W.length) (W ++ [.ins c [keptD (arrP ps)]]) = .ok (keptD (arrP ps)) (W ++ [.ins c [keptD (arrP ps)]]) := by
    unfold fldD
    rw [i1]
    simp only [hf]
    rfl
  unfold m_Polygon_init s_Polygon_init
  simp only [mRun, sSeq, sSet, sEx, sRt, sRtN, sIf, sNx, sBk, sCt, sAsg, sPar, mCall, mBin, mUn, mTst, mC, mVar, aNil, aCons, mTup, mLst, mLstC, mDctC, Res.bind, Res.toS, mAndV, mOrV, mAnd, mOr, mNot, mIf, mChain, mProp, mMeth, mMethK, mMakeF, mMakeC, mMakeCK, madeC, Res.calmed, sFldS, sPut, sPut2, sDel, sDelTail, sPropS, mApp, mIndex, mSl, oNone, oSome, mItA, mIt, mIt2, sFor, mLc, lcE, mYes, gNm, gNl, gCn, gTp, setAt, List.map_cons, List.map_nil, List.cons_append, List.nil_append, List.append_nil, List.replicate_succ, List.replicate_zero, List.getElem?_cons_zero, List.getElem?_cons_succ, List.getElem?_nil, List.set_cons_zero, List.set_cons_succ, List.length_cons, List.length_nil, e_sub, e_add, e_lt, e_le, e_gt, e_ge, e_eqI, e_neI, e_not, e_neg, e_idT, e_isN, wipeE, if_true, if_false, Bool.not_true, Bool.not_false, Bool.false_eq_true, Bool.true_eq_false, Option.some.injEq, decide_true, decide_false, sizeLine_eq, Nat.reduceAdd, Nat.reduceLeDiff, e1, W_at, W_set, hf, hg, i2, e2, Nat.lt_irrefl, Nat.zero_add]
theorem law_Polygon : InitLaw .Polygon m_Polygon_init F_Polygon := fun ds W => by
  unfold F_Polygon
  split
  · rename_i d
    split
    · rename_i ps hp
      split
      · rename_i hg
        refine .inr (.inl ⟨_, rfl, ?_, mv_Polygon_init rfl (ptsOf_eq hp) (good_iff.mp hg)⟩)
        show (loL _ _ && (loD _ _ && true)) = true
        rw [lo_pts]
        cases reflexP (arrP ps) <;> rfl
      · exact .inl rfl
    · exact .inl rfl
  · exact .inl rfl
theorem mv_check_integer {i : Int} : m_check_integer_1 [.int i] W = .ok .non W := rfl
theorem law_GridMap_6 : InitLaw .GridMap m_GridMap_init_7 F_GridMap_6 := fun ds W => by
  unfold F_GridMap_6
  split
  · rename_i a b c d e f
    split
    · rename_i hb
      rw [Bool.and_eq_true, Bool.and_eq_true, Bool.and_eq_true, bdI_iff, bdI_iff, bdI_iff, bdI_iff] at hb
      obtain ⟨⟨⟨ha, hb⟩, hc⟩, hd⟩ := hb
      have m1 : ∀ W, mulS2 (.int a) (.int d) W = _ := fun W => e_mulB (W := W) (big_of ha hd (by decide))
      have m2 : ∀ W, mulS2 (.int b) (.int c) W = _ := fun W => e_mulB (W := W) (big_of hb hc (by decide))
      have ab : ∀ W, absD [.int (a * d - b * c)] W = .ok (.int (if a * d - b * c < 0 then -(a * d - b * c) else a * d - b * c)) W := fun _ => rfl
      split
      · rename_i hq
        refine .inr (.inl ⟨_, rfl, rfl, ?_⟩)
        have q : decide ((if a * d - b * c < 0 then -(a * d - b * c) else a * d - b * c) ≠ 1) = false := decide_eq_false (by split <;> omega)
        unfold m_GridMap_init_7 m_GridMap_init s_GridMap_init
        simp only [mRun, sSeq, sSet, sEx, sRt, sRtN, sIf, sNx, sBk, sCt, sAsg, sPar, mCall, mBin, mUn, mTst, mC, mVar, aNil, aCons, mTup, mLst, mLstC, mDctC, Res.bind, Res.toS, mAndV, mOrV, mAnd, mOr, mNot, mIf, mChain, mProp, mMeth, mMethK, mMakeF, mMakeC, mMakeCK, madeC, Res.calmed, sFldS, sPut, sPut2, sDel, sDelTail, sPropS, mApp, mIndex, mSl, oNone, oSome, mItA, mIt, mIt2, sFor, mLc, lcE, mYes, gNm, gNl, gCn, gTp, setAt, List.map_cons, List.map_nil, List.cons_append, List.nil_append, List.append_nil, List.replicate_succ, List.replicate_zero, List.getElem?_cons_zero, List.getElem?_cons_succ, List.getElem?_nil, List.set_cons_zero, List.set_cons_succ, List.length_cons, List.length_nil, e_sub, e_add, e_lt, e_le, e_gt, e_ge, e_eqI, e_neI, e_not, e_neg, e_idT, e_isN, wipeE, if_true, if_false, Bool.not_true, Bool.not_false, Bool.false_eq_true, Bool.true_eq_false, Option.some.injEq, decide_true, decide_false, sizeLine_eq, Nat.reduceAdd, Nat.reduceLeDiff, itemsD, forL, SR.turn, mv_check_integer, m1, m2, ab, q, W_at, W_set, fl_six, Nat.lt_irrefl]
      · rename_i hq
        refine .inr (.inr ⟨_, _, [], rfl, rfl, ?_⟩)
        have q : decide ((if a * d - b * c < 0 then -(a * d - b * c) else a * d - b * c) ≠ 1) = true := decide_eq_true (by split <;> omega)
        unfold m_GridMap_init_7 m_GridMap_init s_GridMap_init
        simp only [mRun, sSeq, sSet, sEx, sRt, sRtN, sIf, sNx, sBk, sCt, sAsg, sPar, mCall, mBin, mUn, mTst, mC, mVar, aNil, aCons, mTup, mLst, mLstC, mDctC, Res.bind, Res.toS, mAndV, mOrV, mAnd, mOr, mNot, mIf, mChain, mProp, mMeth, mMethK, mMakeF, mMakeC, mMakeCK, madeC, Res.calmed, sFldS, sPut, sPut2, sDel, sDelTail, sPropS, mApp, mIndex, mSl, oNone, oSome, mItA, mIt, mIt2, sFor, mLc, lcE, mYes, gNm, gNl, gCn, gTp, setAt, List.map_cons, List.map_nil, List.cons_append, List.nil_append, List.append_nil, List.replicate_succ, List.replicate_zero, List.getElem?_cons_zero, List.getElem?_cons_succ, List.getElem?_nil, List.set_cons_zero, List.set_cons_succ, List.length_cons, List.length_nil, e_sub, e_add, e_lt, e_le, e_gt, e_ge, e_eqI, e_neI, e_not, e_neg, e_idT, e_isN, wipeE, if_true, if_false, Bool.not_true, Bool.not_false, Bool.false_eq_true, Bool.true_eq_false, Option.some.injEq, decide_true, decide_false, sizeLine_eq, Nat.reduceAdd, Nat.reduceLeDiff, itemsD, forL, SR.turn, mv_check_integer, m1, m2, ab, q, W_at, W_set, sRaise]
    · exact .inl rfl
  · exact .inl rfl
end
end ML
set_option Elab.async false
set_option linter.all false
set_option maxRecDepth 100000
set_option maxHeartbeats 4000000
namespace ML
open PySem PySem.Spec PyProof.Rows L2
structure HF (P : Program) (w : World) (K : PySem.W.Frag) (mg : Str → Option Value) (base : Heap) : Prop where
  B : Blt mg
  fn__wall : FnAt K mg "_wall" (top 0) [] []
  fn_is_integer : FnAt K mg "is_integer" (top 10) [] []
  fn_check_integer : FnAt K mg "check_integer" (top 11) [.non] []
  fn_is_point : FnAt K mg "is_point" (top 13) [] []
  fn_check_point : FnAt K mg "check_point" (top 14) [] []
  fn_cross_of : FnAt K mg "cross_of" (top 15) [] []
  fn_difference : FnAt K mg "difference" (top 16) [] []
  fn_turn_of : FnAt K mg "turn_of" (top 17) [] []
  fn_check_map : FnAt K mg "check_map" (top 20) [] []
  fn_check_points : FnAt K mg "check_points" (top 23) [] []
  fn_triples : FnAt K mg "triples" (top 24) [] []
  fn_check_turns : FnAt K mg "check_turns" (top 25) [] []
  fn_is_between : FnAt K mg "is_between" (top 26) [] []
  fn_is_on : FnAt K mg "is_on" (top 27) [] []
  fn_have_common_point : FnAt K mg "have_common_point" (top 28) [] []
  fn_edges_of : FnAt K mg "edges_of" (top 29) [] []
  fn_check_crossings : FnAt K mg "check_crossings" (top 30) [] []
  fn_area_of : FnAt K mg "area_of" (top 31) [] []
  fn_arranged : FnAt K mg "arranged" (top 32) [] []
  fn_checked_corners : FnAt K mg "checked_corners" (top 33) [] []
  fn_first_reflex : FnAt K mg "first_reflex" (top 35) [] []
  fn_check_polygon : FnAt K mg "check_polygon" (top 37) [] []
  fn_format_integer : FnAt K mg "format_integer" (top 39) [] []
  fn_format_point : FnAt K mg "format_point" (top 40) [] []
  fn_format_points : FnAt K mg "format_points" (top 41) [] []
  fn_format_polygon : FnAt K mg "format_polygon" (top 42) [] []
  fn_format_map : FnAt K mg "format_map" (top 43) [] []
  fn__law_pool : FnAt K mg "_law_pool" (top 45) [] []
  fn__law_take : FnAt K mg "_law_take" (top 46) [] []
  fn__law_number : FnAt K mg "_law_number" (top 47) [] []
  fn__law_digits : FnAt K mg "_law_digits" (top 48) [] []
  fn__law_point : FnAt K mg "_law_point" (top 49) [] []
  fn__law_pair : FnAt K mg "_law_pair" (top 50) [] []
  fn__law_error : FnAt K mg "_law_error" (top 51) [] []
  fn__law_refused : FnAt K mg "_law_refused" (top 52) [] []
  fn_law : FnAt K mg "law" (top 53) [] []
  isi_int : IsiOk K (.type "int") g_int
  isi_bool : IsiOk K (.type "bool") g_bool
  isi_str : IsiOk K (.type "str") g_str
  isi_tuple : IsiOk K (.type "tuple") g_tuple
  isi_list : IsiOk K (.type "list") g_list
  isi_dict : IsiOk K (.type "dict") g_dict
  gC_GridMap : mg "GridMap" = some (.ref (cAd K .GridMap))
  isi_GridMap : IsiOk K (.ref (cAd K .GridMap)) g_GridMap
  gC_Polygon : mg "Polygon" = some (.ref (cAd K .Polygon))
  isi_Polygon : IsiOk K (.ref (cAd K .Polygon)) g_Polygon
  fld_first : ∀ c i, fl_first c = some i → FldOk K c i "first"
  fld_kept : ∀ c i, fl_kept c = some i → FldOk K c i "kept"
  fld_position : ∀ c i, fl_position c = some i → FldOk K c i "position"
  fld_reflex : ∀ c i, fl_reflex c = some i → FldOk K c i "reflex"
  fld_second : ∀ c i, fl_second c = some i → FldOk K c i "second"
  fld_six : ∀ c i, fl_six c = some i → FldOk K c i "six"
  con_MIN_CORNERS : ConAt mg "MIN_CORNERS" (.int 3)
  ccon_GridMap_MAX_ORDER : CConAt K mg .GridMap "MAX_ORDER" (.int 6)
  ccon_Polygon_MAX_CORNERS : CConAt K mg .Polygon "MAX_CORNERS" (.int 60)
  cls_GridMap : Cls K (cAd K .GridMap)
  mk_GridMap : ∃ f fd, Mk K (cAd K .GridMap) f ∧ FunD K "__init__" "GridMap.__init__" (defArgs (inClass (top 19) 1)) (defBody (inClass (top 19) 1)) (defScope (inClass (top 19) 1)) [.int 0, .int 0] [] f fd
  cls_Polygon : Cls K (cAd K .Polygon)
  mk_Polygon : ∃ f fd, Mk K (cAd K .Polygon) f ∧ FunD K "__init__" "Polygon.__init__" (defArgs (inClass (top 36) 1)) (defBody (inClass (top 36) 1)) (defScope (inClass (top 36) 1)) [] [] f fd
  ln_Polygon : ∃ f fd, PySem.W.findIn K (.ref (cAd K .Polygon)) "__len__" = some (some (.ref f)) ∧ PySem.W.isFn K (.ref f) = true ∧ FunD K "__len__" "Polygon.__len__" (defArgs (inClass (top 36) 3)) (defBody (inClass (top 36) 3)) (defScope (inClass (top 36) 3)) [] [] f fd
  mt_GridMap_apply : ∃ f fd, Meth K (cAd K .GridMap) "apply" f ∧ FunD K "apply" "GridMap.apply" (defArgs (inClass (top 19) 10)) (defBody (inClass (top 19) 10)) (defScope (inClass (top 19) 10)) [] [] f fd
  mt_Polygon_edges : ∃ f fd, Meth K (cAd K .Polygon) "edges" f ∧ FunD K "edges" "Polygon.edges" (defArgs (inClass (top 36) 12)) (defBody (inClass (top 36) 12)) (defScope (inClass (top 36) 12)) [] [] f fd
  mt_GridMap_followed_by : ∃ f fd, Meth K (cAd K .GridMap) "followed_by" f ∧ FunD K "followed_by" "GridMap.followed_by" (defArgs (inClass (top 19) 11)) (defBody (inClass (top 19) 11)) (defScope (inClass (top 19) 11)) [] [] f fd
  mt_GridMap_image : ∃ f fd, Meth K (cAd K .GridMap) "image" f ∧ FunD K "image" "GridMap.image" (defArgs (inClass (top 19) 9)) (defBody (inClass (top 19) 9)) (defScope (inClass (top 19) 9)) [] [] f fd
  mt_Polygon_image_corners : ∃ f fd, Meth K (cAd K .Polygon) "image_corners" f ∧ FunD K "image_corners" "Polygon.image_corners" (defArgs (inClass (top 36) 14)) (defBody (inClass (top 36) 14)) (defScope (inClass (top 36) 14)) [] [] f fd
  mt_GridMap_inverse : ∃ f fd, Meth K (cAd K .GridMap) "inverse" f ∧ FunD K "inverse" "GridMap.inverse" (defArgs (inClass (top 19) 13)) (defBody (inClass (top 19) 13)) (defScope (inClass (top 19) 13)) [] [] f fd
  mt_Polygon_locate : ∃ f fd, Meth K (cAd K .Polygon) "locate" f ∧ FunD K "locate" "Polygon.locate" (defArgs (inClass (top 36) 13)) (defBody (inClass (top 36) 13)) (defScope (inClass (top 36) 13)) [] [] f fd
  mt_Polygon_moved : ∃ f fd, Meth K (cAd K .Polygon) "moved" f ∧ FunD K "moved" "Polygon.moved" (defArgs (inClass (top 36) 15)) (defBody (inClass (top 36) 15)) (defScope (inClass (top 36) 15)) [] [] f fd
  mt_GridMap_order : ∃ f fd, Meth K (cAd K .GridMap) "order" f ∧ FunD K "order" "GridMap.order" (defArgs (inClass (top 19) 15)) (defBody (inClass (top 19) 15)) (defScope (inClass (top 19) 15)) [] [] f fd
  mt_GridMap_power : ∃ f fd, Meth K (cAd K .GridMap) "power" f ∧ FunD K "power" "GridMap.power" (defArgs (inClass (top 19) 14)) (defBody (inClass (top 19) 14)) (defScope (inClass (top 19) 14)) [] [] f fd
  mt_GridMap_then : ∃ f fd, Meth K (cAd K .GridMap) "then" f ∧ FunD K "then" "GridMap.then" (defArgs (inClass (top 19) 12)) (defBody (inClass (top 19) 12)) (defScope (inClass (top 19) 12)) [] [] f fd
  pr_Polygon_border_points : ∃ p g fd, PropOf K (cAd K .Polygon) "border_points" p g ∧ FunD K "border_points" "Polygon.border_points" (defArgs (inClass (top 36) 7)) (defBody (inClass (top 36) 7)) (defScope (inClass (top 36) 7)) [] [] g fd
  pr_Polygon_corners : ∃ p g fd, PropOf K (cAd K .Polygon) "corners" p g ∧ FunD K "corners" "Polygon.corners" (defArgs (inClass (top 36) 5)) (defBody (inClass (top 36) 5)) (defScope (inClass (top 36) 5)) [] [] g fd
  pr_GridMap_determinant : ∃ p g fd, PropOf K (cAd K .GridMap) "determinant" p g ∧ FunD K "determinant" "GridMap.determinant" (defArgs (inClass (top 19) 7)) (defBody (inClass (top 19) 7)) (defScope (inClass (top 19) 7)) [] [] g fd
  pr_Polygon_double_area : ∃ p g fd, PropOf K (cAd K .Polygon) "double_area" p g ∧ FunD K "double_area" "Polygon.double_area" (defArgs (inClass (top 36) 6)) (defBody (inClass (top 36) 6)) (defScope (inClass (top 36) 6)) [] [] g fd
  pr_Polygon_inner_points : ∃ p g fd, PropOf K (cAd K .Polygon) "inner_points" p g ∧ FunD K "inner_points" "Polygon.inner_points" (defArgs (inClass (top 36) 8)) (defBody (inClass (top 36) 8)) (defScope (inClass (top 36) 8)) [] [] g fd
  pr_Polygon_is_convex : ∃ p g fd, PropOf K (cAd K .Polygon) "is_convex" p g ∧ FunD K "is_convex" "Polygon.is_convex" (defArgs (inClass (top 36) 11)) (defBody (inClass (top 36) 11)) (defScope (inClass (top 36) 11)) [] [] g fd
  pr_GridMap_is_proper : ∃ p g fd, PropOf K (cAd K .GridMap) "is_proper" p g ∧ FunD K "is_proper" "GridMap.is_proper" (defArgs (inClass (top 19) 8)) (defBody (inClass (top 19) 8)) (defScope (inClass (top 19) 8)) [] [] g fd
  pr_Polygon_middle : ∃ p g fd, PropOf K (cAd K .Polygon) "middle" p g ∧ FunD K "middle" "Polygon.middle" (defArgs (inClass (top 36) 10)) (defBody (inClass (top 36) 10)) (defScope (inClass (top 36) 10)) [] [] g fd
  pr_GridMap_numbers : ∃ p g fd, PropOf K (cAd K .GridMap) "numbers" p g ∧ FunD K "numbers" "GridMap.numbers" (defArgs (inClass (top 19) 6)) (defBody (inClass (top 19) 6)) (defScope (inClass (top 19) 6)) [] [] g fd
  pr_Polygon_total_points : ∃ p g fd, PropOf K (cAd K .Polygon) "total_points" p g ∧ FunD K "total_points" "Polygon.total_points" (defArgs (inClass (top 36) 9)) (defBody (inClass (top 36) 9)) (defScope (inClass (top 36) 9)) [] [] g fd
  gE_InvalidInteger : mg "InvalidInteger" = some (.ref (cAd K .InvalidInteger))
  gE_InvalidMap : mg "InvalidMap" = some (.ref (cAd K .InvalidMap))
  gE_InvalidPoint : mg "InvalidPoint" = some (.ref (cAd K .InvalidPoint))
  gE_InvalidPolygon : mg "InvalidPolygon" = some (.ref (cAd K .InvalidPolygon))
  em_InvalidInteger : EmOk K .InvalidInteger em_InvalidInteger
  em_InvalidMap : EmOk K .InvalidMap em_InvalidMap
  em_InvalidPoint : EmOk K .InvalidPoint em_InvalidPoint
  em_InvalidPolygon : EmOk K .InvalidPolygon em_InvalidPolygon
  fa__law_refused : mg "_law_refused" = some (.ref (fnAd K "_law_refused"))
  tb__law_refused : LamX.TabB base mg (cdAd K (fnAd K "_law_refused")) (tbAd K "_law_refused")
  xf_position : FxOk K "position" fx_position
  x_InvalidInteger : ExcO K mg .InvalidInteger
  x_InvalidMap : ExcO K mg .InvalidMap
  x_InvalidPoint : ExcO K mg .InvalidPoint
  x_DegenerateCorner : ExcI P w K mg base .DegenerateCorner
  x_InvalidPolygon : ExcI P w K mg base .InvalidPolygon
section
variable {P : Program} {w : World} {K : PySem.W.Frag} {mg : Str → Option Value} {base : Heap}
theorem sc__wall : FnScope ["k"] ["k"] (defScope (top 0)) := ⟨rfl, rfl, rfl, by decide +kernel, rfl, by decide +kernel, by decide +kernel⟩
theorem ok__wall (h : HF P w K mg base) : GlM P w K mg base 1 "_wall" 1 m__wall :=
  gl_fn h.fn__wall sc__wall (fun _ _ _ _ _ _ us hl => match us, hl with | [_], _ => rfl) fun f cdv A outer s H E hr tk => by
    have nd : List.Nodup (["k"] : List Str) := by decide +kernel
    exact (pmss_one (pms_while (passes_of rfl) (pmt_val pm_bl) (pmss_one pms_pass)))
theorem sc_is_integer : FnScope ["value"] ["value"] (defScope (top 10)) := ⟨rfl, rfl, rfl, by decide +kernel, rfl, by decide +kernel, by decide +kernel⟩
theorem ok_is_integer (h : HF P w K mg base) : GlM P w K mg base 1 "is_integer" 1 m_is_integer :=
  gl_fn h.fn_is_integer sc_is_integer (fun _ _ _ _ _ _ us hl => match us, hl with | [_], _ => rfl) fun f cdv A outer s H E hr tk => by
    have nd : List.Nodup (["value"] : List Str) := by decide +kernel
    exact (pmss_one (pms_ret (pm_and (pm_isi (pe_bltn (v := .ty "int") (u := .type "int") rfl h.B.int_ (by decide +kernel) rfl) (.ty _) (h.isi_int) h.B.isinstance_ (pm_var 0)) (pm_one (pm_not (pm_isi (pe_bltn (v := .ty "bool") (u := .type "bool") rfl h.B.bool_ (by decide +kernel) rfl) (.ty _) (h.isi_bool) h.B.isinstance_ (pm_var 0)))))))
theorem sc_check_integer : FnScope ["value", "least"] ["value", "least"] (defScope (top 11)) := ⟨rfl, rfl, rfl, by decide +kernel, rfl, by decide +kernel, by decide +kernel⟩
theorem ok_check_integer_1 (h : HF P w K mg base) : GlM P w K mg base 2 "check_integer" 1 m_check_integer_1 :=
  gl_dflt 1 0 h.fn_check_integer sc_check_integer (by decide) rfl (.cons rfl .nil) (fun _ _ _ _ _ _ _ us its hl hi => match us, its, hl, hi with | [_], [_], _, _ => ⟨_, rfl, rfl⟩) fun f cdv A outer s H E hr tk => by
    have nd : List.Nodup (["value", "least"] : List Str) := by decide +kernel
    exact (pmss_one (pms_if (pmt_of (pmw_or (pmt_not (pmt_val (pm_call (ok_is_integer h) (hr.mono (by decide)) tk (pma_cons (pm_var 0) pma_nil)))) (pmw_or1 (pmt_of (pmw_and (pmt_notN (pm_var 1)) (pmw_and1 (pmt_cmp op_ltM (calm_cmpI _) (pm_var 0) (pm_var 1) (nomark _)))))))) (pmss_one (pms_raise h.x_InvalidInteger rfl tk)) pmss_nil))
theorem ok_check_integer_2 (h : HF P w K mg base) : GlM P w K mg base 2 "check_integer" 2 m_check_integer_2 :=
  gl_dflt 2 1 h.fn_check_integer sc_check_integer (by decide) rfl .nil (fun _ _ _ _ _ _ _ us its hl hi => match us, its, hl, hi with | [_, _], [_], _, _ => ⟨_, rfl, rfl⟩) fun f cdv A outer s H E hr tk => by
    have nd : List.Nodup (["value", "least"] : List Str) := by decide +kernel
    exact (pmss_one (pms_if (pmt_of (pmw_or (pmt_not (pmt_val (pm_call (ok_is_integer h) (hr.mono (by decide)) tk (pma_cons (pm_var 0) pma_nil)))) (pmw_or1 (pmt_of (pmw_and (pmt_notN (pm_var 1)) (pmw_and1 (pmt_cmp op_ltM (calm_cmpI _) (pm_var 0) (pm_var 1) (nomark _)))))))) (pmss_one (pms_raise h.x_InvalidInteger rfl tk)) pmss_nil))
theorem sc_is_point : FnScope ["value", "item"] ["value"] (defScope (top 13)) := ⟨rfl, rfl, rfl, by decide +kernel, rfl, by decide +kernel, by decide +kernel⟩
theorem ok_is_point (h : HF P w K mg base) : GlM P w K mg base 2 "is_point" 1 m_is_point :=
  gl_fn h.fn_is_point sc_is_point (fun _ _ _ _ _ _ us hl => match us, hl with | [_], _ => rfl) fun f cdv A outer s H E hr tk => by
    have nd : List.Nodup (["value", "item"] : List Str) := by decide +kernel
    exact (pmss_one (pms_ret (pm_and (pm_isi (pe_bltn (v := .ty "tuple") (u := .type "tuple") rfl h.B.tuple_ (by decide +kernel) rfl) (.ty _) (h.isi_tuple) h.B.isinstance_ (pm_var 0)) (pm_and (pm_cmp (op_eqM hr.units) (calm_eq _) (pm_callB bi_len h.B.len_ calm_len (pma_cons (pm_var 0) pma_nil)) pm_int (nomark _)) (pm_one (pm_callB (bi_all rfl) h.B.all_ calm_all (pma_cons (pm_lc (own := [("item", 1)]) rfl nd (pmi_seq (pm_var 0)) (show BlkOk ["value", "item"] (defScope (top 13)) _ [("item", 1)] from ⟨rfl, by decide +kernel, by decide +kernel, by decide +kernel, by decide +kernel⟩) (fun _ _ _ _ _ => (pmg_name 1 nd)) (fun _ _ _ _ _ => pmts_nil) (fun _ _ _ _ _ => (pm_call (ok_is_integer h) (hr.mono (by decide)) takes_none5 (pma_cons (pm_var 1) pma_nil)))) pma_nil)))))))
theorem sc_check_point : FnScope ["value"] ["value"] (defScope (top 14)) := ⟨rfl, rfl, rfl, by decide +kernel, rfl, by decide +kernel, by decide +kernel⟩
theorem ok_check_point (h : HF P w K mg base) : GlM P w K mg base 3 "check_point" 1 m_check_point :=
  gl_fn h.fn_check_point sc_check_point (fun _ _ _ _ _ _ us hl => match us, hl with | [_], _ => rfl) fun f cdv A outer s H E hr tk => by
    have nd : List.Nodup (["value"] : List Str) := by decide +kernel
    exact (pmss_one (pms_if (pmt_not (pmt_val (pm_call (ok_is_point h) (hr.mono (by decide)) tk (pma_cons (pm_var 0) pma_nil)))) (pmss_one (pms_raise h.x_InvalidPoint rfl tk)) pmss_nil))
theorem sc_cross_of : FnScope ["first", "second"] ["first", "second"] (defScope (top 15)) := ⟨rfl, rfl, rfl, by decide +kernel, rfl, by decide +kernel, by decide +kernel⟩
theorem ok_cross_of (h : HF P w K mg base) : GlM P w K mg base 1 "cross_of" 2 m_cross_of :=
  gl_fn h.fn_cross_of sc_cross_of (fun _ _ _ _ _ _ us hl => match us, hl with | [_, _], _ => rfl) fun f cdv A outer s H E hr tk => by
    have nd : List.Nodup (["first", "second"] : List Str) := by decide +kernel
    exact (pmss_one (pms_ret (pm_op op_subM calm_sub (pm_op op_mulM2 calm_mulS2 (pm_ix (pm_var 0) pm_int) (pm_ix (pm_var 1) pm_int)) (pm_op op_mulM2 calm_mulS2 (pm_ix (pm_var 0) pm_int) (pm_ix (pm_var 1) pm_int)))))
theorem gk_cross_of (h : HF P w K mg base) : GlG P w K mg base 1 "cross_of" 2 (gmf g_cross_of) :=
  glG h.fn_cross_of sc_cross_of rfl (fun _ _ _ _ _ _ us hl => match us, hl with | [_, _], _ => rfl) rfl fun f cdv A outer s H hr => (gm_op op_subG calm_sub (gm_op op_mulG calm_mulI (gm_ix (i := 0) (gm_var 0)) (gm_ix (i := 1) (gm_var 1))) (gm_op op_mulG calm_mulI (gm_ix (i := 1) (gm_var 0)) (gm_ix (i := 0) (gm_var 1))))
theorem sc_difference : FnScope ["end", "start"] ["end", "start"] (defScope (top 16)) := ⟨rfl, rfl, rfl, by decide +kernel, rfl, by decide +kernel, by decide +kernel⟩
theorem ok_difference (h : HF P w K mg base) : GlM P w K mg base 1 "difference" 2 m_difference :=
  gl_fn h.fn_difference sc_difference (fun _ _ _ _ _ _ us hl => match us, hl with | [_, _], _ => rfl) fun f cdv A outer s H E hr tk => by
    have nd : List.Nodup (["end", "start"] : List Str) := by decide +kernel
    exact (pmss_one (pms_ret (pm_tup (pma_cons (pm_op op_subM calm_sub (pm_ix (pm_var 0) pm_int) (pm_ix (pm_var 1) pm_int)) (pma_cons (pm_op op_subM calm_sub (pm_ix (pm_var 0) pm_int) (pm_ix (pm_var 1) pm_int)) pma_nil)))))
theorem gk_difference (h : HF P w K mg base) : GlG P w K mg base 1 "difference" 2 (gmf g_difference) :=
  glG h.fn_difference sc_difference rfl (fun _ _ _ _ _ _ us hl => match us, hl with | [_, _], _ => rfl) rfl fun f cdv A outer s H hr => (gm_tup (gma_cons (gm_op op_subG calm_sub (gm_ix (i := 0) (gm_var 0)) (gm_ix (i := 0) (gm_var 1))) (gma_cons (gm_op op_subG calm_sub (gm_ix (i := 1) (gm_var 0)) (gm_ix (i := 1) (gm_var 1))) gma_nil)))
theorem sc_turn_of : FnScope ["first", "second", "third"] ["first", "second", "third"] (defScope (top 17)) := ⟨rfl, rfl, rfl, by decide +kernel, rfl, by decide +kernel, by decide +kernel⟩
theorem ok_turn_of (h : HF P w K mg base) : GlM P w K mg base 2 "turn_of" 3 m_turn_of :=
  gl_fn h.fn_turn_of sc_turn_of (fun _ _ _ _ _ _ us hl => match us, hl with | [_, _, _], _ => rfl) fun f cdv A outer s H E hr tk => by
    have nd : List.Nodup (["first", "second", "third"] : List Str) := by decide +kernel
    exact (pmss_one (pms_ret (pm_call (ok_cross_of h) (hr.mono (by decide)) tk (pma_cons (pm_call (ok_difference h) (hr.mono (by decide)) tk (pma_cons (pm_var 1) (pma_cons (pm_var 0) pma_nil))) (pma_cons (pm_call (ok_difference h) (hr.mono (by decide)) tk (pma_cons (pm_var 2) (pma_cons (pm_var 1) pma_nil))) pma_nil)))))
theorem gk_turn_of (h : HF P w K mg base) : GlG P w K mg base 2 "turn_of" 3 (gmf g_turn_of) :=
  glG h.fn_turn_of sc_turn_of rfl (fun _ _ _ _ _ _ us hl => match us, hl with | [_, _, _], _ => rfl) rfl fun f cdv A outer s H hr => (gm_call (gk_cross_of h) (hr.mono (by decide)) (gma_cons (gm_call (gk_difference h) (hr.mono (by decide)) (gma_cons (gm_var 1) (gma_cons (gm_var 0) gma_nil))) (gma_cons (gm_call (gk_difference h) (hr.mono (by decide)) (gma_cons (gm_var 2) (gma_cons (gm_var 1) gma_nil))) gma_nil)))
theorem sc_GridMap_init : FnScope ["self", "a", "b", "c", "d", "e", "f", "number"] ["self", "a", "b", "c", "d", "e", "f"] (defScope (inClass (top 19) 1)) := ⟨rfl, rfl, rfl, by decide +kernel, rfl, by decide +kernel, by decide +kernel⟩
theorem fnm_GridMap_init_5 (h : HF P w K mg base) {f : Addr} {fd : FuncData} (F : FunD K "__init__" "GridMap.__init__" (defArgs (inClass (top 19) 1)) (defBody (inClass (top 19) 1)) (defScope (inClass (top 19) 1)) [.int 0, .int 0] [] f fd) : FnM P w K mg base 3 f 5 m_GridMap_init_5 :=
  fn_dflt 5 0 F sc_GridMap_init (by decide) rfl (.cons rfl (.cons rfl .nil)) (fun _ _ _ _ _ _ _ us its hl hi => match us, its, hl, hi with | [_, _, _, _, _], [_, _], _, _ => ⟨_, rfl, rfl⟩) fun cdv A outer s H E hr tk => by
    have nd : List.Nodup (["self", "a", "b", "c", "d", "e", "f", "number"] : List Str) := by decide +kernel
    exact (pmss_cons (pms_for (passes_of rfl) rfl (pmi_seq (pm_tup (pma_cons (pm_var 1) (pma_cons (pm_var 2) (pma_cons (pm_var 3) (pma_cons (pm_var 4) (pma_cons (pm_var 5) (pma_cons (pm_var 6) pma_nil)))))))) (pmg_name 7 nd) (pmss_one (pms_expr (pm_call (ok_check_integer_1 h) (hr.mono (by decide)) tk (pma_cons (pm_var 7) pma_nil))))) (pmss_cons (pms_if (pmt_cmp (op_neM hr.units) (calm_eq _) (pm_callB bi_abs h.B.abs_ calm_abs (pma_cons (pm_op op_subM calm_sub (pm_op op_mulM2 calm_mulS2 (pm_var 1) (pm_var 4)) (pm_op op_mulM2 calm_mulS2 (pm_var 2) (pm_var 3))) pma_nil)) pm_int (nomark _)) (pmss_one (pms_raise h.x_InvalidMap rfl tk)) pmss_nil) (pmss_one (pms_fld h.fld_six (pm_var 0) (pm_tup (pma_cons (pm_var 1) (pma_cons (pm_var 2) (pma_cons (pm_var 3) (pma_cons (pm_var 4) (pma_cons (pm_var 5) (pma_cons (pm_var 6) pma_nil)))))))))))
theorem mkc_GridMap_4 (h : HF P w K mg base) : MkC P w K mg base 3 .GridMap 4 m_GridMap_init_5 := by
  obtain ⟨f, fd, M, F⟩ := h.mk_GridMap
  exact ⟨h.gC_GridMap, f, M, fnm_GridMap_init_5 h F⟩
theorem law_GridMap_4 : InitLaw .GridMap m_GridMap_init_5 F_GridMap_4 := fun ds W => .inl rfl
theorem fnm_GridMap_init_6 (h : HF P w K mg base) {f : Addr} {fd : FuncData} (F : FunD K "__init__" "GridMap.__init__" (defArgs (inClass (top 19) 1)) (defBody (inClass (top 19) 1)) (defScope (inClass (top 19) 1)) [.int 0, .int 0] [] f fd) : FnM P w K mg base 3 f 6 m_GridMap_init_6 :=
  fn_dflt 6 1 F sc_GridMap_init (by decide) rfl (.cons rfl .nil) (fun _ _ _ _ _ _ _ us its hl hi => match us, its, hl, hi with | [_, _, _, _, _, _], [_, _], _, _ => ⟨_, rfl, rfl⟩) fun cdv A outer s H E hr tk => by
    have nd : List.Nodup (["self", "a", "b", "c", "d", "e", "f", "number"] : List Str) := by decide +kernel
    exact (pmss_cons (pms_for (passes_of rfl) rfl (pmi_seq (pm_tup (pma_cons (pm_var 1) (pma_cons (pm_var 2) (pma_cons (pm_var 3) (pma_cons (pm_var 4) (pma_cons (pm_var 5) (pma_cons (pm_var 6) pma_nil)))))))) (pmg_name 7 nd) (pmss_one (pms_expr (pm_call (ok_check_integer_1 h) (hr.mono (by decide)) tk (pma_cons (pm_var 7) pma_nil))))) (pmss_cons (pms_if (pmt_cmp (op_neM hr.units) (calm_eq _) (pm_callB bi_abs h.B.abs_ calm_abs (pma_cons (pm_op op_subM calm_sub (pm_op op_mulM2 calm_mulS2 (pm_var 1) (pm_var 4)) (pm_op op_mulM2 calm_mulS2 (pm_var 2) (pm_var 3))) pma_nil)) pm_int (nomark _)) (pmss_one (pms_raise h.x_InvalidMap rfl tk)) pmss_nil) (pmss_one (pms_fld h.fld_six (pm_var 0) (pm_tup (pma_cons (pm_var 1) (pma_cons (pm_var 2) (pma_cons (pm_var 3) (pma_cons (pm_var 4) (pma_cons (pm_var 5) (pma_cons (pm_var 6) pma_nil)))))))))))
theorem mkc_GridMap_5 (h : HF P w K mg base) : MkC P w K mg base 3 .GridMap 5 m_GridMap_init_6 := by
  obtain ⟨f, fd, M, F⟩ := h.mk_GridMap
  exact ⟨h.gC_GridMap, f, M, fnm_GridMap_init_6 h F⟩
theorem law_GridMap_5 : InitLaw .GridMap m_GridMap_init_6 F_GridMap_5 := fun ds W => .inl rfl
theorem fnm_GridMap_init_7 (h : HF P w K mg base) {f : Addr} {fd : FuncData} (F : FunD K "__init__" "GridMap.__init__" (defArgs (inClass (top 19) 1)) (defBody (inClass (top 19) 1)) (defScope (inClass (top 19) 1)) [.int 0, .int 0] [] f fd) : FnM P w K mg base 3 f 7 m_GridMap_init_7 :=
  fn_dflt 7 2 F sc_GridMap_init (by decide) rfl .nil (fun _ _ _ _ _ _ _ us its hl hi => match us, its, hl, hi with | [_, _, _, _, _, _, _], [_, _], _, _ => ⟨_, rfl, rfl⟩) fun cdv A outer s H E hr tk => by
    have nd : List.Nodup (["self", "a", "b", "c", "d", "e", "f", "number"] : List Str) := by decide +kernel
    exact (pmss_cons (pms_for (passes_of rfl) rfl (pmi_seq (pm_tup (pma_cons (pm_var 1) (pma_cons (pm_var 2) (pma_cons (pm_var 3) (pma_cons (pm_var 4) (pma_cons (pm_var 5) (pma_cons (pm_var 6) pma_nil)))))))) (pmg_name 7 nd) (pmss_one (pms_expr (pm_call (ok_check_integer_1 h) (hr.mono (by decide)) tk (pma_cons (pm_var 7) pma_nil))))) (pmss_cons (pms_if (pmt_cmp (op_neM hr.units) (calm_eq _) (pm_callB bi_abs h.B.abs_ calm_abs (pma_cons (pm_op op_subM calm_sub (pm_op op_mulM2 calm_mulS2 (pm_var 1) (pm_var 4)) (pm_op op_mulM2 calm_mulS2 (pm_var 2) (pm_var 3))) pma_nil)) pm_int (nomark _)) (pmss_one (pms_raise h.x_InvalidMap rfl tk)) pmss_nil) (pmss_one (pms_fld h.fld_six (pm_var 0) (pm_tup (pma_cons (pm_var 1) (pma_cons (pm_var 2) (pma_cons (pm_var 3) (pma_cons (pm_var 4) (pma_cons (pm_var 5) (pma_cons (pm_var 6) pma_nil)))))))))))
theorem mkc_GridMap_6 (h : HF P w K mg base) : MkC P w K mg base 3 .GridMap 6 m_GridMap_init_7 := by
  obtain ⟨f, fd, M, F⟩ := h.mk_GridMap
  exact ⟨h.gC_GridMap, f, M, fnm_GridMap_init_7 h F⟩
theorem sc_GridMap_eq : FnScope ["self", "other"] ["self", "other"] (defScope (inClass (top 19) 2)) := ⟨rfl, rfl, rfl, by decide +kernel, rfl, by decide +kernel, by decide +kernel⟩
theorem fnm_GridMap_eq (h : HF P w K mg base) {f : Addr} {fd : FuncData} (F : FunD K "__eq__" "GridMap.__eq__" (defArgs (inClass (top 19) 2)) (defBody (inClass (top 19) 2)) (defScope (inClass (top 19) 2)) [] [] f fd) : FnM P w K mg base 1 f 2 m_GridMap_eq :=
  fn_meth F sc_GridMap_eq (fun _ _ _ _ _ _ us hl => match us, hl with | [_, _], _ => rfl) fun cdv A outer s H E hr tk => by
    have nd : List.Nodup (["self", "other"] : List Str) := by decide +kernel
    exact (pmss_one (pms_ret (pm_and (pm_isi (pe_glob (v := .ref (cAd K .GridMap)) rfl h.gC_GridMap rfl) (.own _) (h.isi_GridMap) h.B.isinstance_ (pm_var 1)) (pm_one (pm_cmp (op_eqM hr.units) (calm_eq _) (pm_fld h.fld_six (pm_var 0)) (pm_fld h.fld_six (pm_var 1)) (nomark _))))))
theorem sc_GridMap_repr : FnScope ["self", "a", "b", "c", "d", "e", "f"] ["self"] (defScope (inClass (top 19) 3)) := ⟨rfl, rfl, rfl, by decide +kernel, rfl, by decide +kernel, by decide +kernel⟩
theorem fnm_GridMap_repr (h : HF P w K mg base) {f : Addr} {fd : FuncData} (F : FunD K "__repr__" "GridMap.__repr__" (defArgs (inClass (top 19) 3)) (defBody (inClass (top 19) 3)) (defScope (inClass (top 19) 3)) [] [] f fd) : FnM P w K mg base 1 f 1 m_GridMap_repr :=
  fn_meth F sc_GridMap_repr (fun _ _ _ _ _ _ us hl => match us, hl with | [_], _ => rfl) fun cdv A outer s H E hr tk => by
    have nd : List.Nodup (["self", "a", "b", "c", "d", "e", "f"] : List Str) := by decide +kernel
    exact (pmss_cons (pms_asg (pm_fld h.fld_six (pm_var 0)) (pmg_tup rfl (pmgs_cons (pmg_name 1 nd) (pmgs_cons (pmg_name 2 nd) (pmgs_cons (pmg_name 3 nd) (pmgs_cons (pmg_name 4 nd) (pmgs_cons (pmg_name 5 nd) (pmgs_cons (pmg_name 6 nd) pmgs_nil)))))))) (pmss_one (pms_ret (pm_js (.cons pm_str (.cons (pm_fmt (pm_var 1)) (.cons pm_str (.cons (pm_fmt (pm_var 2)) (.cons pm_str (.cons (pm_fmt (pm_var 3)) (.cons pm_str (.cons (pm_fmt (pm_var 4)) (.cons pm_str (.cons (pm_fmt (pm_var 5)) (.cons pm_str (.cons (pm_fmt (pm_var 6)) (.cons pm_str .nil)))))))))))))))))
theorem sc_GridMap_identity : FnScope ["cls"] ["cls"] (defScope (inClass (top 19) 4)) := ⟨rfl, rfl, rfl, by decide +kernel, rfl, by decide +kernel, by decide +kernel⟩
theorem fnm_GridMap_identity (h : HF P w K mg base) {f : Addr} {fd : FuncData} (F : FunD K "identity" "GridMap.identity" (defArgs (inClass (top 19) 4)) (defBody (inClass (top 19) 4)) (defScope (inClass (top 19) 4)) [] [] f fd) : FnM P w K mg base 1 f 1 m_GridMap_identity :=
  fn_meth F sc_GridMap_identity (fun _ _ _ _ _ _ us hl => match us, hl with | [_], _ => rfl) fun cdv A outer s H E hr tk => by
    have nd : List.Nodup (["cls"] : List Str) := by decide +kernel
    exact (pmss_one (pms_ret pm_bad))
theorem sc_GridMap_shift : FnScope ["point"] ["point"] (defScope (inClass (top 19) 5)) := ⟨rfl, rfl, rfl, by decide +kernel, rfl, by decide +kernel, by decide +kernel⟩
theorem fnm_GridMap_shift (h : HF P w K mg base) {f : Addr} {fd : FuncData} (F : FunD K "shift" "GridMap.shift" (defArgs (inClass (top 19) 5)) (defBody (inClass (top 19) 5)) (defScope (inClass (top 19) 5)) [] [] f fd) : FnM P w K mg base 5 f 1 m_GridMap_shift :=
  fn_meth F sc_GridMap_shift (fun _ _ _ _ _ _ us hl => match us, hl with | [_], _ => rfl) fun cdv A outer s H E hr tk => by
    have nd : List.Nodup (["point"] : List Str) := by decide +kernel
    exact (pmss_cons (pms_expr (pm_call (ok_check_point h) (hr.mono (by decide)) tk (pma_cons (pm_var 0) pma_nil))) (pmss_one (pms_ret (pm_make (mkc_GridMap_6 h) law_GridMap_6 (hr.mono (by decide)) tk (pma_cons pm_int (pma_cons pm_int (pma_cons pm_int (pma_cons pm_int (pma_cons (pm_ix (pm_var 0) pm_int) (pma_cons (pm_ix (pm_var 0) pm_int) pma_nil))))))))))
theorem sc_GridMap_numbers : FnScope ["self"] ["self"] (defScope (inClass (top 19) 6)) := ⟨rfl, rfl, rfl, by decide +kernel, rfl, by decide +kernel, by decide +kernel⟩
theorem fnm_GridMap_numbers (h : HF P w K mg base) {f : Addr} {fd : FuncData} (F : FunD K "numbers" "GridMap.numbers" (defArgs (inClass (top 19) 6)) (defBody (inClass (top 19) 6)) (defScope (inClass (top 19) 6)) [] [] f fd) : FnM P w K mg base 1 f 1 m_GridMap_numbers :=
  fn_meth F sc_GridMap_numbers (fun _ _ _ _ _ _ us hl => match us, hl with | [_], _ => rfl) fun cdv A outer s H E hr tk => by
    have nd : List.Nodup (["self"] : List Str) := by decide +kernel
    exact (pmss_one (pms_ret (pm_fld h.fld_six (pm_var 0))))
theorem prok_numbers (h : HF P w K mg base) : ∀ c m, pr_numbers c = some m → PrC P w K mg base 1 c "numbers" m := fun c m e => by
  cases c
  case GridMap =>
    have e : m_GridMap_numbers = m := Option.some.inj e
    subst e
    obtain ⟨p, g, fd, M, F⟩ := h.pr_GridMap_numbers
    exact ⟨h.cls_GridMap, p, g, M, (fnm_GridMap_numbers h F).up (by decide)⟩
  all_goals exact nomatch (show (none : Option MF) = some m from e)
theorem sc_GridMap_determinant : FnScope ["self", "a", "b", "c", "d", "e", "f"] ["self"] (defScope (inClass (top 19) 7)) := ⟨rfl, rfl, rfl, by decide +kernel, rfl, by decide +kernel, by decide +kernel⟩
theorem fnm_GridMap_determinant (h : HF P w K mg base) {f : Addr} {fd : FuncData} (F : FunD K "determinant" "GridMap.determinant" (defArgs (inClass (top 19) 7)) (defBody (inClass (top 19) 7)) (defScope (inClass (top 19) 7)) [] [] f fd) : FnM P w K mg base 1 f 1 m_GridMap_determinant :=
  fn_meth F sc_GridMap_determinant (fun _ _ _ _ _ _ us hl => match us, hl with | [_], _ => rfl) fun cdv A outer s H E hr tk => by
    have nd : List.Nodup (["self", "a", "b", "c", "d", "e", "f"] : List Str) := by decide +kernel
    exact (pmss_cons (pms_asg (pm_fld h.fld_six (pm_var 0)) (pmg_tup rfl (pmgs_cons (pmg_name 1 nd) (pmgs_cons (pmg_name 2 nd) (pmgs_cons (pmg_name 3 nd) (pmgs_cons (pmg_name 4 nd) (pmgs_cons (pmg_name 5 nd) (pmgs_cons (pmg_name 6 nd) pmgs_nil)))))))) (pmss_one (pms_ret (pm_op op_subM calm_sub (pm_op op_mulM2 calm_mulS2 (pm_var 1) (pm_var 4)) (pm_op op_mulM2 calm_mulS2 (pm_var 2) (pm_var 3))))))
theorem prok_determinant (h : HF P w K mg base) : ∀ c m, pr_determinant c = some m → PrC P w K mg base 1 c "determinant" m := fun c m e => by
  cases c
  case GridMap =>
    have e : m_GridMap_determinant = m := Option.some.inj e
    subst e
    obtain ⟨p, g, fd, M, F⟩ := h.pr_GridMap_determinant
    exact ⟨h.cls_GridMap, p, g, M, (fnm_GridMap_determinant h F).up (by decide)⟩
  all_goals exact nomatch (show (none : Option MF) = some m from e)
theorem sc_GridMap_is_proper : FnScope ["self"] ["self"] (defScope (inClass (top 19) 8)) := ⟨rfl, rfl, rfl, by decide +kernel, rfl, by decide +kernel, by decide +kernel⟩
theorem fnm_GridMap_is_proper (h : HF P w K mg base) {f : Addr} {fd : FuncData} (F : FunD K "is_proper" "GridMap.is_proper" (defArgs (inClass (top 19) 8)) (defBody (inClass (top 19) 8)) (defScope (inClass (top 19) 8)) [] [] f fd) : FnM P w K mg base 2 f 1 m_GridMap_is_proper :=
  fn_meth F sc_GridMap_is_proper (fun _ _ _ _ _ _ us hl => match us, hl with | [_], _ => rfl) fun cdv A outer s H E hr tk => by
    have nd : List.Nodup (["self"] : List Str) := by decide +kernel
    exact (pmss_one (pms_expr (pm_call (ok__wall h) (hr.mono (by decide)) tk (pma_cons pm_int pma_nil))))
theorem prok_is_proper (h : HF P w K mg base) : ∀ c m, pr_is_proper c = some m → PrC P w K mg base 2 c "is_proper" m := fun c m e => by
  cases c
  case GridMap =>
    have e : m_GridMap_is_proper = m := Option.some.inj e
    subst e
    obtain ⟨p, g, fd, M, F⟩ := h.pr_GridMap_is_proper
    exact ⟨h.cls_GridMap, p, g, M, (fnm_GridMap_is_proper h F).up (by decide)⟩
  all_goals exact nomatch (show (none : Option MF) = some m from e)
theorem sc_GridMap_image : FnScope ["self", "point", "a", "b", "c", "d", "e", "f"] ["self", "point"] (defScope (inClass (top 19) 9)) := ⟨rfl, rfl, rfl, by decide +kernel, rfl, by decide +kernel, by decide +kernel⟩
theorem fnm_GridMap_image (h : HF P w K mg base) {f : Addr} {fd : FuncData} (F : FunD K "image" "GridMap.image" (defArgs (inClass (top 19) 9)) (defBody (inClass (top 19) 9)) (defScope (inClass (top 19) 9)) [] [] f fd) : FnM P w K mg base 1 f 2 m_GridMap_image :=
  fn_meth F sc_GridMap_image (fun _ _ _ _ _ _ us hl => match us, hl with | [_, _], _ => rfl) fun cdv A outer s H E hr tk => by
    have nd : List.Nodup (["self", "point", "a", "b", "c", "d", "e", "f"] : List Str) := by decide +kernel
    exact (pmss_cons (pms_asg (pm_fld h.fld_six (pm_var 0)) (pmg_tup rfl (pmgs_cons (pmg_name 2 nd) (pmgs_cons (pmg_name 3 nd) (pmgs_cons (pmg_name 4 nd) (pmgs_cons (pmg_name 5 nd) (pmgs_cons (pmg_name 6 nd) (pmgs_cons (pmg_name 7 nd) pmgs_nil)))))))) (pmss_one (pms_ret (pm_tup (pma_cons (pm_op op_addM calm_add (pm_op op_addM calm_add (pm_op op_mulM2 calm_mulS2 (pm_var 2) (pm_ix (pm_var 1) pm_int)) (pm_op op_mulM2 calm_mulS2 (pm_var 3) (pm_ix (pm_var 1) pm_int))) (pm_var 6)) (pma_cons (pm_op op_addM calm_add (pm_op op_addM calm_add (pm_op op_mulM2 calm_mulS2 (pm_var 4) (pm_ix (pm_var 1) pm_int)) (pm_op op_mulM2 calm_mulS2 (pm_var 5) (pm_ix (pm_var 1) pm_int))) (pm_var 7)) pma_nil))))))
theorem mtok_image (h : HF P w K mg base) : ∀ c m, mt_image c = some m → MtC P w K mg base 1 c "image" 1 m := fun c m e => by
  cases c
  case GridMap =>
    have e : m_GridMap_image = m := Option.some.inj e
    subst e
    obtain ⟨f, fd, M, F⟩ := h.mt_GridMap_image
    exact ⟨h.cls_GridMap, by decide +kernel, f, M, (fnm_GridMap_image h F).up (by decide)⟩
  all_goals exact nomatch (show (none : Option MF) = some m from e)
theorem sc_GridMap_apply : FnScope ["self", "point"] ["self", "point"] (defScope (inClass (top 19) 10)) := ⟨rfl, rfl, rfl, by decide +kernel, rfl, by decide +kernel, by decide +kernel⟩
theorem fnm_GridMap_apply (h : HF P w K mg base) {f : Addr} {fd : FuncData} (F : FunD K "apply" "GridMap.apply" (defArgs (inClass (top 19) 10)) (defBody (inClass (top 19) 10)) (defScope (inClass (top 19) 10)) [] [] f fd) : FnM P w K mg base 2 f 2 m_GridMap_apply :=
  fn_meth F sc_GridMap_apply (fun _ _ _ _ _ _ us hl => match us, hl with | [_, _], _ => rfl) fun cdv A outer s H E hr tk => by
    have nd : List.Nodup (["self", "point"] : List Str) := by decide +kernel
    exact (pmss_one (pms_expr (pm_call (ok__wall h) (hr.mono (by decide)) tk (pma_cons pm_int pma_nil))))
theorem mtok_apply (h : HF P w K mg base) : ∀ c m, mt_apply c = some m → MtC P w K mg base 2 c "apply" 1 m := fun c m e => by
  cases c
  case GridMap =>
    have e : m_GridMap_apply = m := Option.some.inj e
    subst e
    obtain ⟨f, fd, M, F⟩ := h.mt_GridMap_apply
    exact ⟨h.cls_GridMap, by decide +kernel, f, M, (fnm_GridMap_apply h F).up (by decide)⟩
  all_goals exact nomatch (show (none : Option MF) = some m from e)
theorem sc_GridMap_followed_by : FnScope ["self", "other", "a", "b", "c", "d", "e", "f", "p", "q", "r", "s", "t", "u", "shift"] ["self", "other"] (defScope (inClass (top 19) 11)) := ⟨rfl, rfl, rfl, by decide +kernel, rfl, by decide +kernel, by decide +kernel⟩
theorem fnm_GridMap_followed_by (h : HF P w K mg base) {f : Addr} {fd : FuncData} (F : FunD K "followed_by" "GridMap.followed_by" (defArgs (inClass (top 19) 11)) (defBody (inClass (top 19) 11)) (defScope (inClass (top 19) 11)) [] [] f fd) : FnM P w K mg base 5 f 2 m_GridMap_followed_by :=
  fn_meth F sc_GridMap_followed_by (fun _ _ _ _ _ _ us hl => match us, hl with | [_, _], _ => rfl) fun cdv A outer s H E hr tk => by
    have nd : List.Nodup (["self", "other", "a", "b", "c", "d", "e", "f", "p", "q", "r", "s", "t", "u", "shift"] : List Str) := by decide +kernel
    exact (pmss_cons (pms_asg (pm_fld h.fld_six (pm_var 0)) (pmg_tup rfl (pmgs_cons (pmg_name 2 nd) (pmgs_cons (pmg_name 3 nd) (pmgs_cons (pmg_name 4 nd) (pmgs_cons (pmg_name 5 nd) (pmgs_cons (pmg_name 6 nd) (pmgs_cons (pmg_name 7 nd) pmgs_nil)))))))) (pmss_cons (pms_asg (pm_prop (prok_numbers h) (hr.mono (by decide)) (pm_var 1)) (pmg_tup rfl (pmgs_cons (pmg_name 8 nd) (pmgs_cons (pmg_name 9 nd) (pmgs_cons (pmg_name 10 nd) (pmgs_cons (pmg_name 11 nd) (pmgs_cons (pmg_name 12 nd) (pmgs_cons (pmg_name 13 nd) pmgs_nil)))))))) (pmss_cons (pms_set 14 nd (pm_meth (mtok_image h) (hr.mono (by decide)) tk (pm_var 1) (pma_cons (pm_tup (pma_cons (pm_var 6) (pma_cons (pm_var 7) pma_nil))) pma_nil))) (pmss_one (pms_ret (pm_make (mkc_GridMap_6 h) law_GridMap_6 (hr.mono (by decide)) tk (pma_cons (pm_op op_addM calm_add (pm_op op_mulM2 calm_mulS2 (pm_var 8) (pm_var 2)) (pm_op op_mulM2 calm_mulS2 (pm_var 9) (pm_var 4))) (pma_cons (pm_op op_addM calm_add (pm_op op_mulM2 calm_mulS2 (pm_var 8) (pm_var 3)) (pm_op op_mulM2 calm_mulS2 (pm_var 9) (pm_var 5))) (pma_cons (pm_op op_addM calm_add (pm_op op_mulM2 calm_mulS2 (pm_var 10) (pm_var 2)) (pm_op op_mulM2 calm_mulS2 (pm_var 11) (pm_var 4))) (pma_cons (pm_op op_addM calm_add (pm_op op_mulM2 calm_mulS2 (pm_var 10) (pm_var 3)) (pm_op op_mulM2 calm_mulS2 (pm_var 11) (pm_var 5))) (pma_cons (pm_ix (pm_var 14) pm_int) (pma_cons (pm_ix (pm_var 14) pm_int) pma_nil))))))))))))
theorem mtok_followed_by (h : HF P w K mg base) : ∀ c m, mt_followed_by c = some m → MtC P w K mg base 5 c "followed_by" 1 m := fun c m e => by
  cases c
  case GridMap =>
    have e : m_GridMap_followed_by = m := Option.some.inj e
    subst e
    obtain ⟨f, fd, M, F⟩ := h.mt_GridMap_followed_by
    exact ⟨h.cls_GridMap, by decide +kernel, f, M, (fnm_GridMap_followed_by h F).up (by decide)⟩
  all_goals exact nomatch (show (none : Option MF) = some m from e)
theorem sc_GridMap_inverse : FnScope ["self", "a", "b", "c", "d", "e", "f", "sign", "p", "q", "r", "s"] ["self"] (defScope (inClass (top 19) 13)) := ⟨rfl, rfl, rfl, by decide +kernel, rfl, by decide +kernel, by decide +kernel⟩
theorem fnm_GridMap_inverse (h : HF P w K mg base) {f : Addr} {fd : FuncData} (F : FunD K "inverse" "GridMap.inverse" (defArgs (inClass (top 19) 13)) (defBody (inClass (top 19) 13)) (defScope (inClass (top 19) 13)) [] [] f fd) : FnM P w K mg base 5 f 1 m_GridMap_inverse :=
  fn_meth F sc_GridMap_inverse (fun _ _ _ _ _ _ us hl => match us, hl with | [_], _ => rfl) fun cdv A outer s H E hr tk => by
    have nd : List.Nodup (["self", "a", "b", "c", "d", "e", "f", "sign", "p", "q", "r", "s"] : List Str) := by decide +kernel
    exact (pmss_cons (pms_asg (pm_fld h.fld_six (pm_var 0)) (pmg_tup rfl (pmgs_cons (pmg_name 1 nd) (pmgs_cons (pmg_name 2 nd) (pmgs_cons (pmg_name 3 nd) (pmgs_cons (pmg_name 4 nd) (pmgs_cons (pmg_name 5 nd) (pmgs_cons (pmg_name 6 nd) pmgs_nil)))))))) (pmss_cons (pms_set 7 nd (pm_prop (prok_determinant h) (hr.mono (by decide)) (pm_var 0))) (pmss_cons pms_bad (pmss_one (pms_ret (pm_make (mkc_GridMap_6 h) law_GridMap_6 (hr.mono (by decide)) tk (pma_cons (pm_var 8) (pma_cons (pm_var 9) (pma_cons (pm_var 10) (pma_cons (pm_var 11) (pma_cons (pm_neg (pm_op op_addM calm_add (pm_op op_mulM2 calm_mulS2 (pm_var 8) (pm_var 5)) (pm_op op_mulM2 calm_mulS2 (pm_var 9) (pm_var 6)))) (pma_cons (pm_neg (pm_op op_addM calm_add (pm_op op_mulM2 calm_mulS2 (pm_var 10) (pm_var 5)) (pm_op op_mulM2 calm_mulS2 (pm_var 11) (pm_var 6)))) pma_nil))))))))))))
theorem mtok_inverse (h : HF P w K mg base) : ∀ c m, mt_inverse c = some m → MtC P w K mg base 5 c "inverse" 0 m := fun c m e => by
  cases c
  case GridMap =>
    have e : m_GridMap_inverse = m := Option.some.inj e
    subst e
    obtain ⟨f, fd, M, F⟩ := h.mt_GridMap_inverse
    exact ⟨h.cls_GridMap, by decide +kernel, f, M, (fnm_GridMap_inverse h F).up (by decide)⟩
  all_goals exact nomatch (show (none : Option MF) = some m from e)
theorem sc_GridMap_power : FnScope ["self", "exponent", "factor", "left", "found"] ["self", "exponent"] (defScope (inClass (top 19) 14)) := ⟨rfl, rfl, rfl, by decide +kernel, rfl, by decide +kernel, by decide +kernel⟩
theorem fnm_GridMap_power (h : HF P w K mg base) {f : Addr} {fd : FuncData} (F : FunD K "power" "GridMap.power" (defArgs (inClass (top 19) 14)) (defBody (inClass (top 19) 14)) (defScope (inClass (top 19) 14)) [] [] f fd) : FnM P w K mg base 6 f 2 m_GridMap_power :=
  fn_meth F sc_GridMap_power (fun _ _ _ _ _ _ us hl => match us, hl with | [_, _], _ => rfl) fun cdv A outer s H E hr tk => by
    have nd : List.Nodup (["self", "exponent", "factor", "left", "found"] : List Str) := by decide +kernel
    exact (pmss_cons (pms_expr (pm_call (ok_check_integer_1 h) (hr.mono (by decide)) tk (pma_cons (pm_var 1) pma_nil))) (pmss_cons (pms_set 2 nd (pm_ifExp (pmt_cmp op_geM (calm_cmpI _) (pm_var 1) pm_int (nomark _)) (pm_var 0) (pm_meth0 (mtok_inverse h) (hr.mono (by decide)) tk (pm_var 0)))) (pmss_cons (pms_set 3 nd (pm_callB bi_abs h.B.abs_ calm_abs (pma_cons (pm_var 1) pma_nil))) (pmss_cons (pms_set 4 nd pm_bad) (pmss_cons (pms_while (passes_of rfl) (pmt_val (pm_var 3)) (pmss_cons (pms_if (pmt_cmp (op_eqM hr.units) (calm_eq _) (pm_op op_modM calm_mod (pm_var 3) pm_int) pm_int (nomark _)) (pmss_one (pms_set 4 nd (pm_meth (mtok_followed_by h) (hr.mono (by decide)) tk (pm_var 4) (pma_cons (pm_var 2) pma_nil)))) pmss_nil) (pmss_cons (pms_set 2 nd (pm_meth (mtok_followed_by h) (hr.mono (by decide)) tk (pm_var 2) (pma_cons (pm_var 2) pma_nil))) (pmss_one pms_bad)))) (pmss_one (pms_ret (pm_var 4))))))))
theorem mtok_power (h : HF P w K mg base) : ∀ c m, mt_power c = some m → MtC P w K mg base 6 c "power" 1 m := fun c m e => by
  cases c
  case GridMap =>
    have e : m_GridMap_power = m := Option.some.inj e
    subst e
    obtain ⟨f, fd, M, F⟩ := h.mt_GridMap_power
    exact ⟨h.cls_GridMap, by decide +kernel, f, M, (fnm_GridMap_power h F).up (by decide)⟩
  all_goals exact nomatch (show (none : Option MF) = some m from e)
theorem sc_GridMap_order : FnScope ["self", "found", "exponent"] ["self"] (defScope (inClass (top 19) 15)) := ⟨rfl, rfl, rfl, by decide +kernel, rfl, by decide +kernel, by decide +kernel⟩
theorem fnm_GridMap_order (h : HF P w K mg base) {f : Addr} {fd : FuncData} (F : FunD K "order" "GridMap.order" (defArgs (inClass (top 19) 15)) (defBody (inClass (top 19) 15)) (defScope (inClass (top 19) 15)) [] [] f fd) : FnM P w K mg base 6 f 1 m_GridMap_order :=
  fn_meth F sc_GridMap_order (fun _ _ _ _ _ _ us hl => match us, hl with | [_], _ => rfl) fun cdv A outer s H E hr tk => by
    have nd : List.Nodup (["self", "found", "exponent"] : List Str) := by decide +kernel
    exact (pmss_cons (pms_set 1 nd (pm_var 0)) (pmss_cons (pms_for (passes_of rfl) rfl (pmi_range2 h.B.range_ (pma_cons pm_int (pma_cons (pm_op op_addM calm_add (pm_ccon h.ccon_GridMap_MAX_ORDER) pm_int) pma_nil))) (pmg_name 2 nd) (pmss_cons (pms_if (pmt_cmp (op_eqM hr.units) (calm_eq _) (pm_var 1) pm_bad (nomark _)) (pmss_one (pms_ret (pm_var 2))) pmss_nil) (pmss_one (pms_set 1 nd (pm_meth (mtok_followed_by h) (hr.mono (by decide)) tk (pm_var 1) (pma_cons (pm_var 0) pma_nil)))))) (pmss_one (pms_ret pm_non))))
theorem mtok_order (h : HF P w K mg base) : ∀ c m, mt_order c = some m → MtC P w K mg base 6 c "order" 0 m := fun c m e => by
  cases c
  case GridMap =>
    have e : m_GridMap_order = m := Option.some.inj e
    subst e
    obtain ⟨f, fd, M, F⟩ := h.mt_GridMap_order
    exact ⟨h.cls_GridMap, by decide +kernel, f, M, (fnm_GridMap_order h F).up (by decide)⟩
  all_goals exact nomatch (show (none : Option MF) = some m from e)
theorem sc_check_map : FnScope ["value"] ["value"] (defScope (top 20)) := ⟨rfl, rfl, rfl, by decide +kernel, rfl, by decide +kernel, by decide +kernel⟩
theorem ok_check_map (h : HF P w K mg base) : GlM P w K mg base 1 "check_map" 1 m_check_map :=
  gl_fn h.fn_check_map sc_check_map (fun _ _ _ _ _ _ us hl => match us, hl with | [_], _ => rfl) fun f cdv A outer s H E hr tk => by
    have nd : List.Nodup (["value"] : List Str) := by decide +kernel
    exact (pmss_one (pms_if (pmt_not (pmt_val (pm_isi (pe_glob (v := .ref (cAd K .GridMap)) rfl h.gC_GridMap rfl) (.own _) (h.isi_GridMap) h.B.isinstance_ (pm_var 0)))) (pmss_one (pms_raise h.x_InvalidMap rfl tk)) pmss_nil))
theorem sc_check_points : FnScope ["value", "position", "item"] ["value"] (defScope (top 23)) := ⟨rfl, rfl, rfl, by decide +kernel, rfl, by decide +kernel, by decide +kernel⟩
theorem ok_check_points (h : HF P w K mg base) : GlM P w K mg base 3 "check_points" 1 m_check_points :=
  gl_fn h.fn_check_points sc_check_points (fun _ _ _ _ _ _ us hl => match us, hl with | [_], _ => rfl) fun f cdv A outer s H E hr tk => by
    have nd : List.Nodup (["value", "position", "item"] : List Str) := by decide +kernel
    exact (pmss_cons (pms_if (pmt_not (pmt_val (pm_isi2 (pe_bltn (v := .ty "list") (u := .type "list") rfl h.B.list_ (by decide +kernel) rfl) (.ty _) (h.isi_list) (pe_bltn (v := .ty "tuple") (u := .type "tuple") rfl h.B.tuple_ (by decide +kernel) rfl) (.ty _) (h.isi_tuple) h.B.isinstance_ (pm_var 0)))) (pmss_one (pms_raiseI (h.x_InvalidPolygon.mkx _ rfl rfl rfl rfl rfl (hr.mono (by decide))) h.x_InvalidPolygon.gC h.x_InvalidPolygon.kC rfl tk (pma_cons pm_non pma_nil))) pmss_nil) (pmss_one (pms_for (passes_of rfl) rfl (pmi_enum h.B.enumerate_ (pma_cons (pm_var 0) pma_nil)) (pmg_tup rfl (pmgs_cons (pmg_name 1 nd) (pmgs_cons (pmg_name 2 nd) pmgs_nil))) (pmss_one (pms_if (pmt_not (pmt_val (pm_call (ok_is_point h) (hr.mono (by decide)) tk (pma_cons (pm_var 2) pma_nil)))) (pmss_one (pms_raiseI (h.x_InvalidPolygon.mkx _ rfl rfl rfl rfl rfl (hr.mono (by decide))) h.x_InvalidPolygon.gC h.x_InvalidPolygon.kC rfl tk (pma_cons (pm_var 1) pma_nil))) pmss_nil)))))
theorem gd_triples (A : FnAt K mg "triples" (top 24) [] []) (BT : Blt mg) : ∃ f fd tg ye yp ypos fpos q1 q2 q3, GDef K mg "triples" f fd [.For tg (.Call (.Name "enumerate" q1) [.Name "corners" q2] [] q3) [.Expr (.Yield (some ye) yp) ypos] [] fpos] (defScope (top 24)) "corners" ∧
    GText P w K mg base "triples" f (defScope (top 24)) "corners" ["corners", "index", "corner"] tg ye triD q1 q2 q3 := by
  obtain ⟨f, fd, hm, F⟩ := A
  have nd : List.Nodup (["corners", "index", "corner"] : List Str) := by decide +kernel
  have nc : ∀ p ∈ (defScope (top 24)).names, p.2 ≠ .cell ∧ p.2 ≠ .free := by decide +kernel
  refine ⟨f, fd, _, _, _, _, _, _, _, _, ⟨hm, ⟨_, _, F⟩, F.kp, F.bindsN fun kV doc pm an cdv ct us hl => ?_⟩, ?_⟩
  · exact match us, hl with | [_], _ => rfl
  · exact {
      kind := rfl, co := rfl, gen := rfl, N0 := rfl, N3 := rfl, loc := rfl, tup := ⟨_, _, _, rfl⟩, cells := fun n => rfl
      nocell := fun y h => by
        rcases h with h | h
        · exact (nc _ (PySem.mem_of_lookup h)).1 rfl
        · exact (nc _ (PySem.mem_of_lookup h)).2 rfl
      enum := fun n cdv => rfl, menum := BT.enumerate_, hdb := by decide, hst := fun n cdv => rfl, hfold := fun n cdv y => rfl, hin := fun n cdv => rfl, tlen := triD_len
      sp := fun n cdv A stack s H dC xs hd => ⟨_, _, pmg_tup rfl (pmgs_cons (pmg_name 1 nd) (pmgs_cons (pmg_name 2 nd) pmgs_nil)), pm_tup (pma_cons (pm_ix (pm_var 0) (pm_op op_subM calm_sub (pm_var 1) pm_int)) (pma_cons (pm_var 2) (pma_cons (pm_ix (pm_var 0) (pm_op op_modM calm_mod (pm_op op_addM calm_add (pm_var 1) pm_int) (pm_callB bi_len BT.len_ calm_len (pma_cons (pm_var 0) pma_nil)))) pma_nil))), fun i y hy => by
        obtain ⟨d, h1, h2⟩ := my_triples_ok hd hy
        exact ⟨_, d, h1, rfl, h2⟩⟩ }
theorem sc_check_turns : FnScope ["corners", "position", "before", "corner", "after"] ["corners"] (defScope (top 25)) := ⟨rfl, rfl, rfl, by decide +kernel, rfl, by decide +kernel, by decide +kernel⟩
theorem ok_check_turns (h : HF P w K mg base) : GlM P w K mg base 3 "check_turns" 1 m_check_turns :=
  gl_fn h.fn_check_turns sc_check_turns (fun _ _ _ _ _ _ us hl => match us, hl with | [_], _ => rfl) fun f cdv A outer s H E hr tk => by
    have nd : List.Nodup (["corners", "position", "before", "corner", "after"] : List Str) := by decide +kernel
    exact (pmss_one (by
      obtain ⟨f0, fd0, tg0, ye0, yp0, ypos0, fpos0, q10, q20, q30, Gd, Gt⟩ := gd_triples (P := P) (w := w) (base := base) h.fn_triples h.B
      exact pms_gen (passes_of rfl) rfl rfl hr Gd Gt (pm_var 0) (pmgg_tup rfl (pmggs_cons (pmgg_name 1 nd) (pmggs_cons (pmgg_tup rfl (pmggs_cons (pmgg_name 2 nd) (pmggs_cons (pmgg_name 3 nd) (pmggs_cons (pmgg_name 4 nd) pmggs_nil)))) pmggs_nil))) (gmt_cmp op_eqG calm_cmpG (gm_call (gk_turn_of h) (hr.mono (by decide)) (gma_cons (gm_var 2) (gma_cons (gm_var 3) (gma_cons (gm_var 4) gma_nil)))) gm_int (nomark _)) (pmss_one (pms_raiseI (h.x_DegenerateCorner.mkx _ rfl rfl rfl rfl rfl (hr.mono (by decide))) h.x_DegenerateCorner.gC h.x_DegenerateCorner.kC rfl tk (pma_cons (pm_var 1) pma_nil))) rfl rfl (by decide) rfl rfl rfl (fun _ => rfl)))
theorem sc_is_between : FnScope ["point", "start", "end", "value", "low", "high"] ["point", "start", "end"] (defScope (top 26)) := ⟨rfl, rfl, rfl, by decide +kernel, rfl, by decide +kernel, by decide +kernel⟩
theorem ok_is_between (h : HF P w K mg base) : GlM P w K mg base 1 "is_between" 3 m_is_between :=
  gl_fn h.fn_is_between sc_is_between (fun _ _ _ _ _ _ us hl => match us, hl with | [_, _, _], _ => rfl) fun f cdv A outer s H E hr tk => by
    have nd : List.Nodup (["point", "start", "end", "value", "low", "high"] : List Str) := by decide +kernel
    exact (pmss_one (pms_ret (pm_callB (bi_all rfl) h.B.all_ calm_all (pma_cons pm_bad pma_nil))))
theorem sc_is_on : FnScope ["point", "start", "end"] ["point", "start", "end"] (defScope (top 27)) := ⟨rfl, rfl, rfl, by decide +kernel, rfl, by decide +kernel, by decide +kernel⟩
theorem ok_is_on (h : HF P w K mg base) : GlM P w K mg base 3 "is_on" 3 m_is_on :=
  gl_fn h.fn_is_on sc_is_on (fun _ _ _ _ _ _ us hl => match us, hl with | [_, _, _], _ => rfl) fun f cdv A outer s H E hr tk => by
    have nd : List.Nodup (["point", "start", "end"] : List Str) := by decide +kernel
    exact (pmss_one (pms_ret (pm_and (pm_cmp (op_eqM hr.units) (calm_eq _) (pm_call (ok_turn_of h) (hr.mono (by decide)) tk (pma_cons (pm_var 1) (pma_cons (pm_var 2) (pma_cons (pm_var 0) pma_nil)))) pm_int (nomark _)) (pm_one (pm_call (ok_is_between h) (hr.mono (by decide)) tk (pma_cons (pm_var 0) (pma_cons (pm_var 1) (pma_cons (pm_var 2) pma_nil))))))))
theorem sc_have_common_point : FnScope ["first", "second", "a", "b", "c", "d", "sides"] ["first", "second"] (defScope (top 28)) := ⟨rfl, rfl, rfl, by decide +kernel, rfl, by decide +kernel, by decide +kernel⟩
theorem ok_have_common_point (h : HF P w K mg base) : GlM P w K mg base 4 "have_common_point" 2 m_have_common_point :=
  gl_fn h.fn_have_common_point sc_have_common_point (fun _ _ _ _ _ _ us hl => match us, hl with | [_, _], _ => rfl) fun f cdv A outer s H E hr tk => by
    have nd : List.Nodup (["first", "second", "a", "b", "c", "d", "sides"] : List Str) := by decide +kernel
    exact (pmss_cons (pms_asg (pm_var 0) (pmg_tup rfl (pmgs_cons (pmg_name 2 nd) (pmgs_cons (pmg_name 3 nd) pmgs_nil)))) (pmss_cons (pms_asg (pm_var 1) (pmg_tup rfl (pmgs_cons (pmg_name 4 nd) (pmgs_cons (pmg_name 5 nd) pmgs_nil)))) (pmss_cons (pms_set 6 nd (pm_tup (pma_cons (pm_call (ok_turn_of h) (hr.mono (by decide)) tk (pma_cons (pm_var 2) (pma_cons (pm_var 3) (pma_cons (pm_var 4) pma_nil)))) (pma_cons (pm_call (ok_turn_of h) (hr.mono (by decide)) tk (pma_cons (pm_var 2) (pma_cons (pm_var 3) (pma_cons (pm_var 5) pma_nil)))) (pma_cons (pm_call (ok_turn_of h) (hr.mono (by decide)) tk (pma_cons (pm_var 4) (pma_cons (pm_var 5) (pma_cons (pm_var 2) pma_nil)))) (pma_cons (pm_call (ok_turn_of h) (hr.mono (by decide)) tk (pma_cons (pm_var 4) (pma_cons (pm_var 5) (pma_cons (pm_var 3) pma_nil)))) pma_nil)))))) (pmss_cons (pms_if (pmt_of (pmw_and (pmt_cmp op_ltM (calm_cmpI _) (pm_op op_mulM2 calm_mulS2 (pm_ix (pm_var 6) pm_int) (pm_ix (pm_var 6) pm_int)) pm_int (nomark _)) (pmw_and1 (pmt_cmp op_ltM (calm_cmpI _) (pm_op op_mulM2 calm_mulS2 (pm_ix (pm_var 6) pm_int) (pm_ix (pm_var 6) pm_int)) pm_int (nomark _))))) (pmss_one (pms_ret pm_bl)) pmss_nil) (pmss_one (pms_ret (pm_or (pm_call (ok_is_on h) (hr.mono (by decide)) tk (pma_cons (pm_var 4) (pma_cons (pm_var 2) (pma_cons (pm_var 3) pma_nil)))) (pm_or (pm_call (ok_is_on h) (hr.mono (by decide)) tk (pma_cons (pm_var 5) (pma_cons (pm_var 2) (pma_cons (pm_var 3) pma_nil)))) (pm_or (pm_call (ok_is_on h) (hr.mono (by decide)) tk (pma_cons (pm_var 2) (pma_cons (pm_var 4) (pma_cons (pm_var 5) pma_nil)))) (pm_one (pm_call (ok_is_on h) (hr.mono (by decide)) tk (pma_cons (pm_var 3) (pma_cons (pm_var 4) (pma_cons (pm_var 5) pma_nil))))))))))))))
theorem sc_edges_of : FnScope ["corners", "index", "corner"] ["corners"] (defScope (top 29)) := ⟨rfl, rfl, rfl, by decide +kernel, rfl, by decide +kernel, by decide +kernel⟩
theorem ok_edges_of (h : HF P w K mg base) : GlM P w K mg base 1 "edges_of" 1 m_edges_of :=
  gl_fn h.fn_edges_of sc_edges_of (fun _ _ _ _ _ _ us hl => match us, hl with | [_], _ => rfl) fun f cdv A outer s H E hr tk => by
    have nd : List.Nodup (["corners", "index", "corner"] : List Str) := by decide +kernel
    exact (pmss_one (pms_ret (pm_lc (own := [("index", 1), ("corner", 2)]) rfl nd (pmi_enum h.B.enumerate_ (pma_cons (pm_var 0) pma_nil)) (show BlkOk ["corners", "index", "corner"] (defScope (top 29)) _ [("index", 1), ("corner", 2)] from ⟨rfl, by decide +kernel, by decide +kernel, by decide +kernel, by decide +kernel⟩) (fun _ _ _ _ _ => (pmg_tup rfl (pmgs_cons (pmg_name 1 nd) (pmgs_cons (pmg_name 2 nd) pmgs_nil)))) (fun _ _ _ _ _ => pmts_nil) (fun _ _ _ _ _ => (pm_tup (pma_cons (pm_var 2) (pma_cons (pm_ix (pm_var 0) (pm_op op_modM calm_mod (pm_op op_addM calm_add (pm_var 1) pm_int) (pm_callB bi_len h.B.len_ calm_len (pma_cons (pm_var 0) pma_nil)))) pma_nil)))))))
theorem sc_check_crossings : FnScope ["corners", "edges", "many", "first", "second"] ["corners"] (defScope (top 30)) := ⟨rfl, rfl, rfl, by decide +kernel, rfl, by decide +kernel, by decide +kernel⟩
theorem ok_check_crossings (h : HF P w K mg base) : GlM P w K mg base 5 "check_crossings" 1 m_check_crossings :=
  gl_fn h.fn_check_crossings sc_check_crossings (fun _ _ _ _ _ _ us hl => match us, hl with | [_], _ => rfl) fun f cdv A outer s H E hr tk => by
    have nd : List.Nodup (["corners", "edges", "many", "first", "second"] : List Str) := by decide +kernel
    exact (pmss_cons (pms_set 1 nd (pm_call (ok_edges_of h) (hr.mono (by decide)) tk (pma_cons (pm_var 0) pma_nil))) (pmss_cons (pms_set 2 nd (pm_callB bi_len h.B.len_ calm_len (pma_cons (pm_var 1) pma_nil))) (pmss_one (pms_for (passes_of rfl) rfl (pmi_range1 h.B.range_ (pma_cons (pm_var 2) pma_nil)) (pmg_name 3 nd) (pmss_one (pms_for (passes_of rfl) rfl (pmi_range2 h.B.range_ (pma_cons (pm_op op_addM calm_add (pm_var 3) pm_int) (pma_cons (pm_var 2) pma_nil))) (pmg_name 4 nd) (pmss_one (pms_if (pmt_of (pmw_and (pmt_cmp (op_neM hr.units) (calm_eq _) (pm_op op_modM calm_mod (pm_op op_addM calm_add (pm_var 4) pm_int) (pm_var 2)) (pm_var 3) (nomark _)) (pmw_and1 (pmt_val (pm_call (ok_have_common_point h) (hr.mono (by decide)) tk (pma_cons (pm_ix (pm_var 1) (pm_var 3)) (pma_cons (pm_ix (pm_var 1) (pm_var 4)) pma_nil))))))) (pmss_one pms_bad) pmss_nil))))))))
theorem sc_area_of : FnScope ["corners", "start", "end"] ["corners"] (defScope (top 31)) := ⟨rfl, rfl, rfl, by decide +kernel, rfl, by decide +kernel, by decide +kernel⟩
theorem ok_area_of (h : HF P w K mg base) : GlM P w K mg base 2 "area_of" 1 m_area_of :=
  gl_fn h.fn_area_of sc_area_of (fun _ _ _ _ _ _ us hl => match us, hl with | [_], _ => rfl) fun f cdv A outer s H E hr tk => by
    have nd : List.Nodup (["corners", "start", "end"] : List Str) := by decide +kernel
    exact (pmss_one (pms_ret (pm_callB (bi_sum rfl) h.B.sum_ calm_sum (pma_cons (pm_lc (own := [("start", 1), ("end", 2)]) rfl nd (pmi_seq (pm_call (ok_edges_of h) (hr.mono (by decide)) tk (pma_cons (pm_var 0) pma_nil))) (show BlkOk ["corners", "start", "end"] (defScope (top 31)) _ [("start", 1), ("end", 2)] from ⟨rfl, by decide +kernel, by decide +kernel, by decide +kernel, by decide +kernel⟩) (fun _ _ _ _ _ => (pmg_tup rfl (pmgs_cons (pmg_name 1 nd) (pmgs_cons (pmg_name 2 nd) pmgs_nil)))) (fun _ _ _ _ _ => pmts_nil) (fun _ _ _ _ _ => (pm_call (ok_cross_of h) (hr.mono (by decide)) takes_none5 (pma_cons (pm_var 1) (pma_cons (pm_var 2) pma_nil))))) pma_nil))))
theorem sc_arranged : FnScope ["corners", "ordered", "first"] ["corners"] (defScope (top 32)) := ⟨rfl, rfl, rfl, by decide +kernel, rfl, by decide +kernel, by decide +kernel⟩
theorem ok_arranged (h : HF P w K mg base) : GlM P w K mg base 3 "arranged" 1 m_arranged :=
  gl_fn h.fn_arranged sc_arranged (fun _ _ _ _ _ _ us hl => match us, hl with | [_], _ => rfl) fun f cdv A outer s H E hr tk => by
    have nd : List.Nodup (["corners", "ordered", "first"] : List Str) := by decide +kernel
    exact (pmss_cons (pms_set 1 nd (pm_ifExp (pmt_cmp op_gtM (calm_cmpI _) (pm_call (ok_area_of h) (hr.mono (by decide)) tk (pma_cons (pm_var 0) pma_nil)) pm_int (nomark _)) (pm_callTy bi_list h.B.list_ calm_list (pma_cons (pm_var 0) pma_nil)) (pm_revL (pm_callTy bi_list h.B.list_ calm_list (pma_cons (pm_var 0) pma_nil))))) (pmss_cons (pms_set 2 nd (pm_index (units65 hr) (pm_var 1) (pm_callB (bi_minT rfl (units1 hr)) h.B.min_ calm_minT (pma_cons (pm_var 1) pma_nil)))) (pmss_one (pms_ret (pm_callTy bi_tuple h.B.tuple_ calm_tuple (pma_cons (pm_op op_addM calm_add (pm_sl (pm_var 1) (pmo_some (pm_var 2)) pmo_none) (pm_sl (pm_var 1) pmo_none (pmo_some (pm_var 2)))) pma_nil))))))
theorem sc_checked_corners : FnScope ["corners", "limit"] ["corners", "limit"] (defScope (top 33)) := ⟨rfl, rfl, rfl, by decide +kernel, rfl, by decide +kernel, by decide +kernel⟩
theorem ok_checked_corners (h : HF P w K mg base) : GlM P w K mg base 6 "checked_corners" 2 m_checked_corners :=
  gl_fn h.fn_checked_corners sc_checked_corners (fun _ _ _ _ _ _ us hl => match us, hl with | [_, _], _ => rfl) fun f cdv A outer s H E hr tk => by
    have nd : List.Nodup (["corners", "limit"] : List Str) := by decide +kernel
    exact (pmss_cons (pms_if (pmt_of (pmw_or (pmt_not (pmt_val (pm_isi2 (pe_bltn (v := .ty "list") (u := .type "list") rfl h.B.list_ (by decide +kernel) rfl) (.ty _) (h.isi_list) (pe_bltn (v := .ty "tuple") (u := .type "tuple") rfl h.B.tuple_ (by decide +kernel) rfl) (.ty _) (h.isi_tuple) h.B.isinstance_ (pm_var 0)))) (pmw_or1 (pmt_not (pmt_chain op_leM op_leM (calm_cmpI _) (calm_cmpI _) (pm_con h.con_MIN_CORNERS) (pm_callB bi_len h.B.len_ calm_len (pma_cons (pm_var 0) pma_nil)) (pm_var 1)))))) (pmss_one (pms_raiseI (h.x_InvalidPolygon.mkx _ rfl rfl rfl rfl rfl (hr.mono (by decide))) h.x_InvalidPolygon.gC h.x_InvalidPolygon.kC rfl tk (pma_cons pm_non pma_nil))) pmss_nil) (pmss_cons (pms_expr (pm_call (ok_check_points h) (hr.mono (by decide)) tk (pma_cons (pm_var 0) pma_nil))) (pmss_cons (pms_expr (pm_call (ok_check_turns h) (hr.mono (by decide)) tk (pma_cons (pm_var 0) pma_nil))) (pmss_cons (pms_expr (pm_call (ok_check_crossings h) (hr.mono (by decide)) tk (pma_cons (pm_var 0) pma_nil))) (pmss_one (pms_ret (pm_call (ok_arranged h) (hr.mono (by decide)) tk (pma_cons (pm_var 0) pma_nil))))))))
theorem sc_first_reflex : FnScope ["corners", "position", "before", "corner", "after"] ["corners"] (defScope (top 35)) := ⟨rfl, rfl, rfl, by decide +kernel, rfl, by decide +kernel, by decide +kernel⟩
theorem ok_first_reflex (h : HF P w K mg base) : GlM P w K mg base 3 "first_reflex" 1 m_first_reflex :=
  gl_fn h.fn_first_reflex sc_first_reflex (fun _ _ _ _ _ _ us hl => match us, hl with | [_], _ => rfl) fun f cdv A outer s H E hr tk => by
    have nd : List.Nodup (["corners", "position", "before", "corner", "after"] : List Str) := by decide +kernel
    exact (pmss_cons (by
      obtain ⟨f0, fd0, tg0, ye0, yp0, ypos0, fpos0, q10, q20, q30, Gd, Gt⟩ := gd_triples (P := P) (w := w) (base := base) h.fn_triples h.B
      exact pms_gen (passes_of rfl) rfl rfl hr Gd Gt (pm_var 0) (pmgg_tup rfl (pmggs_cons (pmgg_name 1 nd) (pmggs_cons (pmgg_tup rfl (pmggs_cons (pmgg_name 2 nd) (pmggs_cons (pmgg_name 3 nd) (pmggs_cons (pmgg_name 4 nd) pmggs_nil)))) pmggs_nil))) (gmt_cmp op_ltG calm_cmpG (gm_call (gk_turn_of h) (hr.mono (by decide)) (gma_cons (gm_var 2) (gma_cons (gm_var 3) (gma_cons (gm_var 4) gma_nil)))) gm_int (nomark _)) (pmss_one (pms_ret (pm_var 1))) rfl rfl (by decide) rfl rfl rfl (fun _ => rfl)) (pmss_one (pms_ret pm_non)))
theorem sc_Polygon_init : FnScope ["self", "corners"] ["self", "corners"] (defScope (inClass (top 36) 1)) := ⟨rfl, rfl, rfl, by decide +kernel, rfl, by decide +kernel, by decide +kernel⟩
theorem fnm_Polygon_init (h : HF P w K mg base) {f : Addr} {fd : FuncData} (F : FunD K "__init__" "Polygon.__init__" (defArgs (inClass (top 36) 1)) (defBody (inClass (top 36) 1)) (defScope (inClass (top 36) 1)) [] [] f fd) : FnM P w K mg base 7 f 2 m_Polygon_init :=
  fn_meth F sc_Polygon_init (fun _ _ _ _ _ _ us hl => match us, hl with | [_, _], _ => rfl) fun cdv A outer s H E hr tk => by
    have nd : List.Nodup (["self", "corners"] : List Str) := by decide +kernel
    exact (pmss_cons (pms_fld h.fld_kept (pm_var 0) (pm_call (ok_checked_corners h) (hr.mono (by decide)) tk (pma_cons (pm_var 1) (pma_cons (pm_ccon h.ccon_Polygon_MAX_CORNERS) pma_nil)))) (pmss_one (pms_fld h.fld_reflex (pm_var 0) (pm_call (ok_first_reflex h) (hr.mono (by decide)) tk (pma_cons (pm_fld h.fld_kept (pm_var 0)) pma_nil)))))
theorem mkc_Polygon (h : HF P w K mg base) : MkC P w K mg base 7 .Polygon 1 m_Polygon_init := by
  obtain ⟨f, fd, M, F⟩ := h.mk_Polygon
  exact ⟨h.gC_Polygon, f, M, fnm_Polygon_init h F⟩
theorem sc_Polygon_eq : FnScope ["self", "other"] ["self", "other"] (defScope (inClass (top 36) 2)) := ⟨rfl, rfl, rfl, by decide +kernel, rfl, by decide +kernel, by decide +kernel⟩
theorem fnm_Polygon_eq (h : HF P w K mg base) {f : Addr} {fd : FuncData} (F : FunD K "__eq__" "Polygon.__eq__" (defArgs (inClass (top 36) 2)) (defBody (inClass (top 36) 2)) (defScope (inClass (top 36) 2)) [] [] f fd) : FnM P w K mg base 1 f 2 m_Polygon_eq :=
  fn_meth F sc_Polygon_eq (fun _ _ _ _ _ _ us hl => match us, hl with | [_, _], _ => rfl) fun cdv A outer s H E hr tk => by
    have nd : List.Nodup (["self", "other"] : List Str) := by decide +kernel
    exact (pmss_one (pms_ret (pm_and (pm_isi (pe_glob (v := .ref (cAd K .Polygon)) rfl h.gC_Polygon rfl) (.own _) (h.isi_Polygon) h.B.isinstance_ (pm_var 1)) (pm_one (pm_cmp (op_eqM hr.units) (calm_eq _) (pm_fld h.fld_kept (pm_var 0)) (pm_fld h.fld_kept (pm_var 1)) (nomark _))))))
theorem sc_Polygon_len : FnScope ["self"] ["self"] (defScope (inClass (top 36) 3)) := ⟨rfl, rfl, rfl, by decide +kernel, rfl, by decide +kernel, by decide +kernel⟩
theorem fnm_Polygon_len (h : HF P w K mg base) {f : Addr} {fd : FuncData} (F : FunD K "__len__" "Polygon.__len__" (defArgs (inClass (top 36) 3)) (defBody (inClass (top 36) 3)) (defScope (inClass (top 36) 3)) [] [] f fd) : FnM P w K mg base 1 f 1 m_Polygon_len :=
  fn_meth F sc_Polygon_len (fun _ _ _ _ _ _ us hl => match us, hl with | [_], _ => rfl) fun cdv A outer s H E hr tk => by
    have nd : List.Nodup (["self"] : List Str) := by decide +kernel
    exact (pmss_one (pms_ret (pm_callB bi_len h.B.len_ calm_len (pma_cons (pm_fld h.fld_kept (pm_var 0)) pma_nil))))
theorem lnok (h : HF P w K mg base) : ∀ c m, ln_t c = some m → LnC P w K mg base 1 c m := fun c m e => by
  cases c
  case Polygon =>
    have e : m_Polygon_len = m := Option.some.inj e
    subst e
    obtain ⟨f, fd, M1, M2, F⟩ := h.ln_Polygon
    exact ⟨f, M1, M2, (fnm_Polygon_len h F).up (by decide)⟩
  all_goals exact nomatch (show (none : Option MF) = some m from e)
theorem sc_Polygon_repr : FnScope ["self"] ["self"] (defScope (inClass (top 36) 4)) := ⟨rfl, rfl, rfl, by decide +kernel, rfl, by decide +kernel, by decide +kernel⟩
theorem fnm_Polygon_repr (h : HF P w K mg base) {f : Addr} {fd : FuncData} (F : FunD K "__repr__" "Polygon.__repr__" (defArgs (inClass (top 36) 4)) (defBody (inClass (top 36) 4)) (defScope (inClass (top 36) 4)) [] [] f fd) : FnM P w K mg base 1 f 1 m_Polygon_repr :=
  fn_meth F sc_Polygon_repr (fun _ _ _ _ _ _ us hl => match us, hl with | [_], _ => rfl) fun cdv A outer s H E hr tk => by
    have nd : List.Nodup (["self"] : List Str) := by decide +kernel
    exact (pmss_one (pms_ret pm_bad))
theorem sc_Polygon_corners : FnScope ["self"] ["self"] (defScope (inClass (top 36) 5)) := ⟨rfl, rfl, rfl, by decide +kernel, rfl, by decide +kernel, by decide +kernel⟩
theorem fnm_Polygon_corners (h : HF P w K mg base) {f : Addr} {fd : FuncData} (F : FunD K "corners" "Polygon.corners" (defArgs (inClass (top 36) 5)) (defBody (inClass (top 36) 5)) (defScope (inClass (top 36) 5)) [] [] f fd) : FnM P w K mg base 1 f 1 m_Polygon_corners :=
  fn_meth F sc_Polygon_corners (fun _ _ _ _ _ _ us hl => match us, hl with | [_], _ => rfl) fun cdv A outer s H E hr tk => by
    have nd : List.Nodup (["self"] : List Str) := by decide +kernel
    exact (pmss_one (pms_ret (pm_fld h.fld_kept (pm_var 0))))
theorem prok_corners (h : HF P w K mg base) : ∀ c m, pr_corners c = some m → PrC P w K mg base 1 c "corners" m := fun c m e => by
  cases c
  case Polygon =>
    have e : m_Polygon_corners = m := Option.some.inj e
    subst e
    obtain ⟨p, g, fd, M, F⟩ := h.pr_Polygon_corners
    exact ⟨h.cls_Polygon, p, g, M, (fnm_Polygon_corners h F).up (by decide)⟩
  all_goals exact nomatch (show (none : Option MF) = some m from e)
theorem sc_Polygon_double_area : FnScope ["self"] ["self"] (defScope (inClass (top 36) 6)) := ⟨rfl, rfl, rfl, by decide +kernel, rfl, by decide +kernel, by decide +kernel⟩
theorem fnm_Polygon_double_area (h : HF P w K mg base) {f : Addr} {fd : FuncData} (F : FunD K "double_area" "Polygon.double_area" (defArgs (inClass (top 36) 6)) (defBody (inClass (top 36) 6)) (defScope (inClass (top 36) 6)) [] [] f fd) : FnM P w K mg base 2 f 1 m_Polygon_double_area :=
  fn_meth F sc_Polygon_double_area (fun _ _ _ _ _ _ us hl => match us, hl with | [_], _ => rfl) fun cdv A outer s H E hr tk => by
    have nd : List.Nodup (["self"] : List Str) := by decide +kernel
    exact (pmss_one (pms_expr (pm_call (ok__wall h) (hr.mono (by decide)) tk (pma_cons pm_int pma_nil))))
theorem prok_double_area (h : HF P w K mg base) : ∀ c m, pr_double_area c = some m → PrC P w K mg base 2 c "double_area" m := fun c m e => by
  cases c
  case Polygon =>
    have e : m_Polygon_double_area = m := Option.some.inj e
    subst e
    obtain ⟨p, g, fd, M, F⟩ := h.pr_Polygon_double_area
    exact ⟨h.cls_Polygon, p, g, M, (fnm_Polygon_double_area h F).up (by decide)⟩
  all_goals exact nomatch (show (none : Option MF) = some m from e)
theorem sc_Polygon_border_points : FnScope ["self"] ["self"] (defScope (inClass (top 36) 7)) := ⟨rfl, rfl, rfl, by decide +kernel, rfl, by decide +kernel, by decide +kernel⟩
theorem fnm_Polygon_border_points (h : HF P w K mg base) {f : Addr} {fd : FuncData} (F : FunD K "border_points" "Polygon.border_points" (defArgs (inClass (top 36) 7)) (defBody (inClass (top 36) 7)) (defScope (inClass (top 36) 7)) [] [] f fd) : FnM P w K mg base 2 f 1 m_Polygon_border_points :=
  fn_meth F sc_Polygon_border_points (fun _ _ _ _ _ _ us hl => match us, hl with | [_], _ => rfl) fun cdv A outer s H E hr tk => by
    have nd : List.Nodup (["self"] : List Str) := by decide +kernel
    exact (pmss_one (pms_expr (pm_call (ok__wall h) (hr.mono (by decide)) tk (pma_cons pm_int pma_nil))))
theorem prok_border_points (h : HF P w K mg base) : ∀ c m, pr_border_points c = some m → PrC P w K mg base 2 c "border_points" m := fun c m e => by
  cases c
  case Polygon =>
    have e : m_Polygon_border_points = m := Option.some.inj e
    subst e
    obtain ⟨p, g, fd, M, F⟩ := h.pr_Polygon_border_points
    exact ⟨h.cls_Polygon, p, g, M, (fnm_Polygon_border_points h F).up (by decide)⟩
  all_goals exact nomatch (show (none : Option MF) = some m from e)
theorem sc_Polygon_inner_points : FnScope ["self"] ["self"] (defScope (inClass (top 36) 8)) := ⟨rfl, rfl, rfl, by decide +kernel, rfl, by decide +kernel, by decide +kernel⟩
theorem fnm_Polygon_inner_points (h : HF P w K mg base) {f : Addr} {fd : FuncData} (F : FunD K "inner_points" "Polygon.inner_points" (defArgs (inClass (top 36) 8)) (defBody (inClass (top 36) 8)) (defScope (inClass (top 36) 8)) [] [] f fd) : FnM P w K mg base 2 f 1 m_Polygon_inner_points :=
  fn_meth F sc_Polygon_inner_points (fun _ _ _ _ _ _ us hl => match us, hl with | [_], _ => rfl) fun cdv A outer s H E hr tk => by
    have nd : List.Nodup (["self"] : List Str) := by decide +kernel
    exact (pmss_one (pms_expr (pm_call (ok__wall h) (hr.mono (by decide)) tk (pma_cons pm_int pma_nil))))
theorem prok_inner_points (h : HF P w K mg base) : ∀ c m, pr_inner_points c = some m → PrC P w K mg base 2 c "inner_points" m := fun c m e => by
  cases c
  case Polygon =>
    have e : m_Polygon_inner_points = m := Option.some.inj e
    subst e
    obtain ⟨p, g, fd, M, F⟩ := h.pr_Polygon_inner_points
    exact ⟨h.cls_Polygon, p, g, M, (fnm_Polygon_inner_points h F).up (by decide)⟩
  all_goals exact nomatch (show (none : Option MF) = some m from e)
theorem sc_Polygon_total_points : FnScope ["self"] ["self"] (defScope (inClass (top 36) 9)) := ⟨rfl, rfl, rfl, by decide +kernel, rfl, by decide +kernel, by decide +kernel⟩
theorem fnm_Polygon_total_points (h : HF P w K mg base) {f : Addr} {fd : FuncData} (F : FunD K "total_points" "Polygon.total_points" (defArgs (inClass (top 36) 9)) (defBody (inClass (top 36) 9)) (defScope (inClass (top 36) 9)) [] [] f fd) : FnM P w K mg base 2 f 1 m_Polygon_total_points :=
  fn_meth F sc_Polygon_total_points (fun _ _ _ _ _ _ us hl => match us, hl with | [_], _ => rfl) fun cdv A outer s H E hr tk => by
    have nd : List.Nodup (["self"] : List Str) := by decide +kernel
    exact (pmss_one (pms_expr (pm_call (ok__wall h) (hr.mono (by decide)) tk (pma_cons pm_int pma_nil))))
theorem prok_total_points (h : HF P w K mg base) : ∀ c m, pr_total_points c = some m → PrC P w K mg base 2 c "total_points" m := fun c m e => by
  cases c
  case Polygon =>
    have e : m_Polygon_total_points = m := Option.some.inj e
    subst e
    obtain ⟨p, g, fd, M, F⟩ := h.pr_Polygon_total_points
    exact ⟨h.cls_Polygon, p, g, M, (fnm_Polygon_total_points h F).up (by decide)⟩
  all_goals exact nomatch (show (none : Option MF) = some m from e)
theorem sc_Polygon_middle : FnScope ["self"] ["self"] (defScope (inClass (top 36) 10)) := ⟨rfl, rfl, rfl, by decide +kernel, rfl, by decide +kernel, by decide +kernel⟩
theorem fnm_Polygon_middle (h : HF P w K mg base) {f : Addr} {fd : FuncData} (F : FunD K "middle" "Polygon.middle" (defArgs (inClass (top 36) 10)) (defBody (inClass (top 36) 10)) (defScope (inClass (top 36) 10)) [] [] f fd) : FnM P w K mg base 2 f 1 m_Polygon_middle :=
  fn_meth F sc_Polygon_middle (fun _ _ _ _ _ _ us hl => match us, hl with | [_], _ => rfl) fun cdv A outer s H E hr tk => by
    have nd : List.Nodup (["self"] : List Str) := by decide +kernel
    exact (pmss_one (pms_expr (pm_call (ok__wall h) (hr.mono (by decide)) tk (pma_cons pm_int pma_nil))))
theorem prok_middle (h : HF P w K mg base) : ∀ c m, pr_middle c = some m → PrC P w K mg base 2 c "middle" m := fun c m e => by
  cases c
  case Polygon =>
    have e : m_Polygon_middle = m := Option.some.inj e
    subst e
    obtain ⟨p, g, fd, M, F⟩ := h.pr_Polygon_middle
    exact ⟨h.cls_Polygon, p, g, M, (fnm_Polygon_middle h F).up (by decide)⟩
  all_goals exact nomatch (show (none : Option MF) = some m from e)
theorem sc_Polygon_is_convex : FnScope ["self"] ["self"] (defScope (inClass (top 36) 11)) := ⟨rfl, rfl, rfl, by decide +kernel, rfl, by decide +kernel, by decide +kernel⟩
theorem fnm_Polygon_is_convex (h : HF P w K mg base) {f : Addr} {fd : FuncData} (F : FunD K "is_convex" "Polygon.is_convex" (defArgs (inClass (top 36) 11)) (defBody (inClass (top 36) 11)) (defScope (inClass (top 36) 11)) [] [] f fd) : FnM P w K mg base 2 f 1 m_Polygon_is_convex :=
  fn_meth F sc_Polygon_is_convex (fun _ _ _ _ _ _ us hl => match us, hl with | [_], _ => rfl) fun cdv A outer s H E hr tk => by
    have nd : List.Nodup (["self"] : List Str) := by decide +kernel
    exact (pmss_one (pms_expr (pm_call (ok__wall h) (hr.mono (by decide)) tk (pma_cons pm_int pma_nil))))
theorem prok_is_convex (h : HF P w K mg base) : ∀ c m, pr_is_convex c = some m → PrC P w K mg base 2 c "is_convex" m := fun c m e => by
  cases c
  case Polygon =>
    have e : m_Polygon_is_convex = m := Option.some.inj e
    subst e
    obtain ⟨p, g, fd, M, F⟩ := h.pr_Polygon_is_convex
    exact ⟨h.cls_Polygon, p, g, M, (fnm_Polygon_is_convex h F).up (by decide)⟩
  all_goals exact nomatch (show (none : Option MF) = some m from e)
theorem sc_Polygon_locate : FnScope ["self", "point"] ["self", "point"] (defScope (inClass (top 36) 13)) := ⟨rfl, rfl, rfl, by decide +kernel, rfl, by decide +kernel, by decide +kernel⟩
theorem fnm_Polygon_locate (h : HF P w K mg base) {f : Addr} {fd : FuncData} (F : FunD K "locate" "Polygon.locate" (defArgs (inClass (top 36) 13)) (defBody (inClass (top 36) 13)) (defScope (inClass (top 36) 13)) [] [] f fd) : FnM P w K mg base 2 f 2 m_Polygon_locate :=
  fn_meth F sc_Polygon_locate (fun _ _ _ _ _ _ us hl => match us, hl with | [_, _], _ => rfl) fun cdv A outer s H E hr tk => by
    have nd : List.Nodup (["self", "point"] : List Str) := by decide +kernel
    exact (pmss_one (pms_expr (pm_call (ok__wall h) (hr.mono (by decide)) tk (pma_cons pm_int pma_nil))))
theorem mtok_locate (h : HF P w K mg base) : ∀ c m, mt_locate c = some m → MtC P w K mg base 2 c "locate" 1 m := fun c m e => by
  cases c
  case Polygon =>
    have e : m_Polygon_locate = m := Option.some.inj e
    subst e
    obtain ⟨f, fd, M, F⟩ := h.mt_Polygon_locate
    exact ⟨h.cls_Polygon, by decide +kernel, f, M, (fnm_Polygon_locate h F).up (by decide)⟩
  all_goals exact nomatch (show (none : Option MF) = some m from e)
theorem sc_Polygon_image_corners : FnScope ["self", "grid_map"] ["self", "grid_map"] (defScope (inClass (top 36) 14)) := ⟨rfl, rfl, rfl, by decide +kernel, rfl, by decide +kernel, by decide +kernel⟩
theorem fnm_Polygon_image_corners (h : HF P w K mg base) {f : Addr} {fd : FuncData} (F : FunD K "image_corners" "Polygon.image_corners" (defArgs (inClass (top 36) 14)) (defBody (inClass (top 36) 14)) (defScope (inClass (top 36) 14)) [] [] f fd) : FnM P w K mg base 2 f 2 m_Polygon_image_corners :=
  fn_meth F sc_Polygon_image_corners (fun _ _ _ _ _ _ us hl => match us, hl with | [_, _], _ => rfl) fun cdv A outer s H E hr tk => by
    have nd : List.Nodup (["self", "grid_map"] : List Str) := by decide +kernel
    exact (pmss_one (pms_expr (pm_call (ok__wall h) (hr.mono (by decide)) tk (pma_cons pm_int pma_nil))))
theorem mtok_image_corners (h : HF P w K mg base) : ∀ c m, mt_image_corners c = some m → MtC P w K mg base 2 c "image_corners" 1 m := fun c m e => by
  cases c
  case Polygon =>
    have e : m_Polygon_image_corners = m := Option.some.inj e
    subst e
    obtain ⟨f, fd, M, F⟩ := h.mt_Polygon_image_corners
    exact ⟨h.cls_Polygon, by decide +kernel, f, M, (fnm_Polygon_image_corners h F).up (by decide)⟩
  all_goals exact nomatch (show (none : Option MF) = some m from e)
theorem sc_Polygon_moved : FnScope ["self", "grid_map"] ["self", "grid_map"] (defScope (inClass (top 36) 15)) := ⟨rfl, rfl, rfl, by decide +kernel, rfl, by decide +kernel, by decide +kernel⟩
theorem fnm_Polygon_moved (h : HF P w K mg base) {f : Addr} {fd : FuncData} (F : FunD K "moved" "Polygon.moved" (defArgs (inClass (top 36) 15)) (defBody (inClass (top 36) 15)) (defScope (inClass (top 36) 15)) [] [] f fd) : FnM P w K mg base 2 f 2 m_Polygon_moved :=
  fn_meth F sc_Polygon_moved (fun _ _ _ _ _ _ us hl => match us, hl with | [_, _], _ => rfl) fun cdv A outer s H E hr tk => by
    have nd : List.Nodup (["self", "grid_map"] : List Str) := by decide +kernel
    exact (pmss_one (pms_expr (pm_call (ok__wall h) (hr.mono (by decide)) tk (pma_cons pm_int pma_nil))))
theorem mtok_moved (h : HF P w K mg base) : ∀ c m, mt_moved c = some m → MtC P w K mg base 2 c "moved" 1 m := fun c m e => by
  cases c
  case Polygon =>
    have e : m_Polygon_moved = m := Option.some.inj e
    subst e
    obtain ⟨f, fd, M, F⟩ := h.mt_Polygon_moved
    exact ⟨h.cls_Polygon, by decide +kernel, f, M, (fnm_Polygon_moved h F).up (by decide)⟩
  all_goals exact nomatch (show (none : Option MF) = some m from e)
theorem sc_check_polygon : FnScope ["value"] ["value"] (defScope (top 37)) := ⟨rfl, rfl, rfl, by decide +kernel, rfl, by decide +kernel, by decide +kernel⟩
theorem ok_check_polygon (h : HF P w K mg base) : GlM P w K mg base 3 "check_polygon" 1 m_check_polygon :=
  gl_fn h.fn_check_polygon sc_check_polygon (fun _ _ _ _ _ _ us hl => match us, hl with | [_], _ => rfl) fun f cdv A outer s H E hr tk => by
    have nd : List.Nodup (["value"] : List Str) := by decide +kernel
    exact (pmss_one (pms_if (pmt_not (pmt_val (pm_isi (pe_glob (v := .ref (cAd K .Polygon)) rfl h.gC_Polygon rfl) (.own _) (h.isi_Polygon) h.B.isinstance_ (pm_var 0)))) (pmss_one (pms_raiseI (h.x_InvalidPolygon.mkx _ rfl rfl rfl rfl rfl (hr.mono (by decide))) h.x_InvalidPolygon.gC h.x_InvalidPolygon.kC rfl tk (pma_cons pm_non pma_nil))) pmss_nil))
theorem sc_format_integer : FnScope ["number"] ["number"] (defScope (top 39)) := ⟨rfl, rfl, rfl, by decide +kernel, rfl, by decide +kernel, by decide +kernel⟩
theorem ok_format_integer (h : HF P w K mg base) : GlM P w K mg base 3 "format_integer" 1 m_format_integer :=
  gl_fn h.fn_format_integer sc_format_integer (fun _ _ _ _ _ _ us hl => match us, hl with | [_], _ => rfl) fun f cdv A outer s H E hr tk => by
    have nd : List.Nodup (["number"] : List Str) := by decide +kernel
    exact (pmss_cons (pms_expr (pm_call (ok_check_integer_1 h) (hr.mono (by decide)) tk (pma_cons (pm_var 0) pma_nil))) (pmss_one (pms_ret (pm_callTy bi_str h.B.str_ calm_str (pma_cons (pm_var 0) pma_nil)))))
theorem sc_format_point : FnScope ["point"] ["point"] (defScope (top 40)) := ⟨rfl, rfl, rfl, by decide +kernel, rfl, by decide +kernel, by decide +kernel⟩
theorem ok_format_point (h : HF P w K mg base) : GlM P w K mg base 4 "format_point" 1 m_format_point :=
  gl_fn h.fn_format_point sc_format_point (fun _ _ _ _ _ _ us hl => match us, hl with | [_], _ => rfl) fun f cdv A outer s H E hr tk => by
    have nd : List.Nodup (["point"] : List Str) := by decide +kernel
    exact (pmss_cons (pms_expr (pm_call (ok_check_point h) (hr.mono (by decide)) tk (pma_cons (pm_var 0) pma_nil))) (pmss_one (pms_ret (pm_js (.cons (pm_fmt (pm_ix (pm_var 0) pm_int)) (.cons pm_str (.cons (pm_fmt (pm_ix (pm_var 0) pm_int)) .nil)))))))
theorem sc_format_points : FnScope ["points", "point"] ["points"] (defScope (top 41)) := ⟨rfl, rfl, rfl, by decide +kernel, rfl, by decide +kernel, by decide +kernel⟩
theorem ok_format_points (h : HF P w K mg base) : GlM P w K mg base 5 "format_points" 1 m_format_points :=
  gl_fn h.fn_format_points sc_format_points (fun _ _ _ _ _ _ us hl => match us, hl with | [_], _ => rfl) fun f cdv A outer s H E hr tk => by
    have nd : List.Nodup (["points", "point"] : List Str) := by decide +kernel
    exact (pmss_cons (pms_expr (pm_call (ok_check_points h) (hr.mono (by decide)) tk (pma_cons (pm_var 0) pma_nil))) (pmss_cons (pms_if (pmt_cmp (op_eqM hr.units) (calm_eq _) (pm_callB (bi_len3 (hr.mono (by decide)) (lnok h)) h.B.len_ (calm_len3 _) (pma_cons (pm_var 0) pma_nil)) pm_int (nomark _)) (pmss_one (pms_raiseI (h.x_InvalidPolygon.mkx _ rfl rfl rfl rfl rfl (hr.mono (by decide))) h.x_InvalidPolygon.gC h.x_InvalidPolygon.kC rfl tk (pma_cons pm_non pma_nil))) pmss_nil) (pmss_one (pms_ret (pm_join (pm_lc (own := [("point", 1)]) rfl nd (pmi_seq (pm_var 0)) (show BlkOk ["points", "point"] (defScope (top 41)) _ [("point", 1)] from ⟨rfl, by decide +kernel, by decide +kernel, by decide +kernel, by decide +kernel⟩) (fun _ _ _ _ _ => (pmg_name 1 nd)) (fun _ _ _ _ _ => pmts_nil) (fun _ _ _ _ _ => (pm_call (ok_format_point h) (hr.mono (by decide)) takes_none5 (pma_cons (pm_var 1) pma_nil)))))))))
theorem sc_format_polygon : FnScope ["polygon"] ["polygon"] (defScope (top 42)) := ⟨rfl, rfl, rfl, by decide +kernel, rfl, by decide +kernel, by decide +kernel⟩
theorem ok_format_polygon (h : HF P w K mg base) : GlM P w K mg base 6 "format_polygon" 1 m_format_polygon :=
  gl_fn h.fn_format_polygon sc_format_polygon (fun _ _ _ _ _ _ us hl => match us, hl with | [_], _ => rfl) fun f cdv A outer s H E hr tk => by
    have nd : List.Nodup (["polygon"] : List Str) := by decide +kernel
    exact (pmss_cons (pms_expr (pm_call (ok_check_polygon h) (hr.mono (by decide)) tk (pma_cons (pm_var 0) pma_nil))) (pmss_one (pms_ret (pm_call (ok_format_points h) (hr.mono (by decide)) tk (pma_cons (pm_prop (prok_corners h) (hr.mono (by decide)) (pm_var 0)) pma_nil)))))
theorem sc_format_map : FnScope ["grid_map", "number"] ["grid_map"] (defScope (top 43)) := ⟨rfl, rfl, rfl, by decide +kernel, rfl, by decide +kernel, by decide +kernel⟩
theorem ok_format_map (h : HF P w K mg base) : GlM P w K mg base 3 "format_map" 1 m_format_map :=
  gl_fn h.fn_format_map sc_format_map (fun _ _ _ _ _ _ us hl => match us, hl with | [_], _ => rfl) fun f cdv A outer s H E hr tk => by
    have nd : List.Nodup (["grid_map", "number"] : List Str) := by decide +kernel
    exact (pmss_cons (pms_expr (pm_call (ok_check_map h) (hr.mono (by decide)) tk (pma_cons (pm_var 0) pma_nil))) (pmss_one (pms_ret (pm_op op_addM calm_add (pm_op op_addM calm_add pm_str (pm_join (pm_lc (own := [("number", 1)]) rfl nd (pmi_seq (pm_prop (prok_numbers h) (hr.mono (by decide)) (pm_var 0))) (show BlkOk ["grid_map", "number"] (defScope (top 43)) _ [("number", 1)] from ⟨rfl, by decide +kernel, by decide +kernel, by decide +kernel, by decide +kernel⟩) (fun _ _ _ _ _ => (pmg_name 1 nd)) (fun _ _ _ _ _ => pmts_nil) (fun _ _ _ _ _ => (pm_callTy bi_str h.B.str_ calm_str (pma_cons (pm_var 1) pma_nil)))))) pm_str))))
theorem sc__law_pool : FnScope ["_law_script", "_law_k", "_law_cell", "_law_seed"] ["_law_script", "_law_k"] (defScope (top 45)) := ⟨rfl, rfl, rfl, by decide +kernel, rfl, by decide +kernel, by decide +kernel⟩
theorem ok__law_pool (h : HF P w K mg base) : GlM P w K mg base 3 "_law_pool" 2 m__law_pool :=
  gl_fn h.fn__law_pool sc__law_pool (fun _ _ _ _ _ _ us hl => match us, hl with | [_, _], _ => rfl) fun f cdv A outer s H E hr tk => by
    have nd : List.Nodup (["_law_script", "_law_k", "_law_cell", "_law_seed"] : List Str) := by decide +kernel
    exact (pmss_cons (pms_set 2 nd pm_int) (pmss_cons (pms_if (pmt_cmp (op_neM hr.units) (calm_eq _) (pm_var 0) (pm_lst pma_nil) (nomark _)) (pmss_one (pms_set 2 nd (pm_ix (pm_var 0) (pm_op op_modM calm_mod (pm_var 1) (pm_callB (bi_len3 (hr.mono (by decide)) (lnok h)) h.B.len_ (calm_len3 _) (pma_cons (pm_var 0) pma_nil)))))) pmss_nil) (pmss_cons (pms_set 3 nd (pm_op op_modM calm_mod (pm_op op_mulM2 calm_mulS2 (pm_op op_addM calm_add (pm_op op_addM calm_add (pm_op op_modM calm_mod (pm_var 2) pm_int) (pm_op op_mulM2 calm_mulS2 pm_int (pm_var 1))) pm_int) pm_int) pm_int)) (pmss_one (pms_ret (pm_lstC (pma_cons (pm_op op_mulM2 calm_mulS2 (pm_callB bi_abs h.B.abs_ calm_abs (pma_cons (pm_var 2) pma_nil)) (pm_callTy bi_int h.B.int_ calm_int (pma_cons (pm_cmp op_geM (calm_cmpI _) (pm_callB bi_abs h.B.abs_ calm_abs (pma_cons (pm_var 2) pma_nil)) (pm_op op_powM calm_pow pm_int pm_int) (nomark _)) pma_nil))) (pma_cons (pm_var 3) pma_nil))))))))
theorem sc__law_take : FnScope ["_law_pool_here", "_law_bound", "_law_digit"] ["_law_pool_here", "_law_bound"] (defScope (top 46)) := ⟨rfl, rfl, rfl, by decide +kernel, rfl, by decide +kernel, by decide +kernel⟩
theorem ok__law_take (h : HF P w K mg base) : GlM P w K mg base 1 "_law_take" 2 m__law_take :=
  gl_fn h.fn__law_take sc__law_take (fun _ _ _ _ _ _ us hl => match us, hl with | [_, _], _ => rfl) fun f cdv A outer s H E hr tk => by
    have nd : List.Nodup (["_law_pool_here", "_law_bound", "_law_digit"] : List Str) := by decide +kernel
    exact (pmss_cons (pms_if (pmt_cmp op_gtM (calm_cmpI _) (pm_ix (pm_var 0) pm_int) pm_int (nomark _)) (pmss_cons (pms_set 2 nd (pm_op op_modM calm_mod (pm_ix (pm_var 0) pm_int) (pm_var 1))) (pmss_cons (pms_put (pm_var 0) pm_int (pm_op op_fdivM calm_fdiv (pm_ix (pm_var 0) pm_int) (pm_var 1))) (pmss_one (pms_ret (pm_var 2))))) pmss_nil) (pmss_cons (pms_put (pm_var 0) pm_int (pm_op op_modM calm_mod (pm_op op_addM calm_add (pm_op op_mulM2 calm_mulS2 (pm_ix (pm_var 0) pm_int) pm_int) pm_int) pm_int)) (pmss_one (pms_ret (pm_op op_modM calm_mod (pm_op op_fdivM calm_fdiv (pm_op op_modM calm_mod (pm_op op_mulM2 calm_mulS2 (pm_ix (pm_var 0) pm_int) (pm_ix (pm_var 0) pm_int)) pm_int) pm_int) (pm_var 1))))))
theorem sc__law_number : FnScope ["_law_pool_here", "_law_way", "_law_sign"] ["_law_pool_here"] (defScope (top 47)) := ⟨rfl, rfl, rfl, by decide +kernel, rfl, by decide +kernel, by decide +kernel⟩
theorem ok__law_number (h : HF P w K mg base) : GlM P w K mg base 2 "_law_number" 1 m__law_number :=
  gl_fn h.fn__law_number sc__law_number (fun _ _ _ _ _ _ us hl => match us, hl with | [_], _ => rfl) fun f cdv A outer s H E hr tk => by
    have nd : List.Nodup (["_law_pool_here", "_law_way", "_law_sign"] : List Str) := by decide +kernel
    exact (pmss_cons (pms_par (i := 1) (j := 2) rfl nd (by decide) (pma_cons (pm_call (ok__law_take h) (hr.mono (by decide)) tk (pma_cons (pm_var 0) (pma_cons pm_int pma_nil))) (pma_cons (pm_ix (pm_lst (pma_cons pm_int (pma_cons (pm_neg pm_int) pma_nil))) (pm_call (ok__law_take h) (hr.mono (by decide)) tk (pma_cons (pm_var 0) (pma_cons pm_int pma_nil)))) pma_nil))) (pmss_cons (pms_if (pmt_cmp op_ltM (calm_cmpI _) (pm_var 1) pm_int (nomark _)) (pmss_one (pms_ret (pm_op op_mulM2 calm_mulS2 (pm_var 2) (pm_call (ok__law_take h) (hr.mono (by decide)) tk (pma_cons (pm_var 0) (pma_cons (pm_ix (pm_lst (pma_cons pm_int (pma_cons pm_int (pma_cons pm_int pma_nil)))) (pm_var 1)) pma_nil)))))) pmss_nil) (pmss_one (pms_ret (pm_op op_mulM2 calm_mulS2 (pm_var 2) (pm_call (ok__law_take h) (hr.mono (by decide)) tk (pma_cons (pm_var 0) (pma_cons (pm_ix (pm_lst (pma_cons (pm_op op_powM calm_pow pm_int pm_int) (pma_cons (pm_op op_powM calm_pow pm_int pm_int) pma_nil))) (pm_op op_subM calm_sub (pm_var 1) pm_int)) pma_nil))))))))
theorem sc__law_digits : FnScope ["_law_number_here", "_law_text", "_law_left"] ["_law_number_here"] (defScope (top 48)) := ⟨rfl, rfl, rfl, by decide +kernel, rfl, by decide +kernel, by decide +kernel⟩
theorem ok__law_digits (h : HF P w K mg base) : GlM P w K mg base 1 "_law_digits" 1 m__law_digits :=
  gl_fn h.fn__law_digits sc__law_digits (fun _ _ _ _ _ _ us hl => match us, hl with | [_], _ => rfl) fun f cdv A outer s H E hr tk => by
    have nd : List.Nodup (["_law_number_here", "_law_text", "_law_left"] : List Str) := by decide +kernel
    exact (pmss_cons (pms_par (i := 1) (j := 2) rfl nd (by decide) (pma_cons pm_str (pma_cons (pm_callB bi_abs h.B.abs_ calm_abs (pma_cons (pm_var 0) pma_nil)) pma_nil))) (pmss_cons (pms_while (passes_of rfl) (pmt_of (pmw_or (pmt_cmp op_gtM (calm_cmpI _) (pm_var 2) pm_int (nomark _)) (pmw_or1 (pmt_cmp (op_eqM hr.units) (calm_eq _) (pm_var 1) pm_str (nomark _))))) (pmss_cons (pms_set 1 nd (pm_op op_addM calm_add (pm_ix pm_str (pm_op op_modM calm_mod (pm_var 2) pm_int)) (pm_var 1))) (pmss_one (pms_set 2 nd (pm_op op_fdivM calm_fdiv (pm_var 2) pm_int))))) (pmss_one (pms_ret (pm_ifExp (pmt_cmp op_ltM (calm_cmpI _) (pm_var 0) pm_int (nomark _)) (pm_op op_addM calm_add pm_str (pm_var 1)) (pm_var 1))))))
theorem sc__law_point : FnScope ["_law_pool_here"] ["_law_pool_here"] (defScope (top 49)) := ⟨rfl, rfl, rfl, by decide +kernel, rfl, by decide +kernel, by decide +kernel⟩
theorem ok__law_point (h : HF P w K mg base) : GlM P w K mg base 3 "_law_point" 1 m__law_point :=
  gl_fn h.fn__law_point sc__law_point (fun _ _ _ _ _ _ us hl => match us, hl with | [_], _ => rfl) fun f cdv A outer s H E hr tk => by
    have nd : List.Nodup (["_law_pool_here"] : List Str) := by decide +kernel
    exact (pmss_one (pms_ret (pm_tup (pma_cons (pm_call (ok__law_number h) (hr.mono (by decide)) tk (pma_cons (pm_var 0) pma_nil)) (pma_cons (pm_call (ok__law_number h) (hr.mono (by decide)) tk (pma_cons (pm_var 0) pma_nil)) pma_nil)))))
theorem sc__law_pair : FnScope ["_law_point_here"] ["_law_point_here"] (defScope (top 50)) := ⟨rfl, rfl, rfl, by decide +kernel, rfl, by decide +kernel, by decide +kernel⟩
theorem ok__law_pair (h : HF P w K mg base) : GlM P w K mg base 2 "_law_pair" 1 m__law_pair :=
  gl_fn h.fn__law_pair sc__law_pair (fun _ _ _ _ _ _ us hl => match us, hl with | [_], _ => rfl) fun f cdv A outer s H E hr tk => by
    have nd : List.Nodup (["_law_point_here"] : List Str) := by decide +kernel
    exact (pmss_one (pms_ret (pm_op op_addM calm_add (pm_op op_addM calm_add (pm_call (ok__law_digits h) (hr.mono (by decide)) tk (pma_cons (pm_ix (pm_var 0) pm_int) pma_nil)) pm_str) (pm_call (ok__law_digits h) (hr.mono (by decide)) tk (pma_cons (pm_ix (pm_var 0) pm_int) pma_nil)))))
theorem sc__law_error : FnScope ["_law_call", "e"] ["_law_call"] (defScope (top 51)) := ⟨rfl, rfl, rfl, by decide +kernel, rfl, by decide +kernel, by decide +kernel⟩
theorem lt__law_error (h : HF P w K mg base) : LamTo P w K mg base "_law_error" "_law_call" ["_law_call", "e"] true ks__law_error := by
  obtain ⟨g, fd, hm, F⟩ := h.fn__law_error
  refine ⟨g, fd, _, _, _, _, _, _, ⟨0, 0, 0, 0⟩, ⟨0, 0, 0, 0⟩, _, 0, _, _, hm, F, sc__law_error, .inl rfl, F.bindsN (fun _ _ _ _ _ _ us hl => match us, hl with | [_], _ => rfl), fun _ _ => rfl, fun cdv A outer s H => ?_⟩
  have nd : List.Nodup (["_law_call", "e"] : List Str) := by decide +kernel
  refine ⟨_, ?_, (.plain (k := cmK (.ref (cAd K .InvalidInteger)) none em_InvalidInteger (fun a d c => (sRt (mC (.str "integer"))))) rfl ⟨rfl, by decide, .inl h.gE_InvalidInteger⟩ h.em_InvalidInteger (fun a oe c d pn hz hf => (pmss_one (pms_ret pm_str))) (fun _ _ _ => rfl) (.plain (k := cmK (.ref (cAd K .InvalidPoint)) none em_InvalidPoint (fun a d c => (sRt (mC (.str "point"))))) rfl ⟨rfl, by decide, .inl h.gE_InvalidPoint⟩ h.em_InvalidPoint (fun a oe c d pn hz hf => (pmss_one (pms_ret pm_str))) (fun _ _ _ => rfl) (.plain (k := cmK (.ref (cAd K .InvalidMap)) none em_InvalidMap (fun a d c => (sRt (mC (.str "map"))))) rfl ⟨rfl, by decide, .inl h.gE_InvalidMap⟩ h.em_InvalidMap (fun a oe c d pn hz hf => (pmss_one (pms_ret pm_str))) (fun _ _ _ => rfl) (.named (k := cmK (.ref (cAd K .InvalidPolygon)) (some 1) em_InvalidPolygon (fun a d c => (sRt (mLst (aCons (mC (.str "polygon")) (aCons (mXfG fx_position a d c (mVar 1)) aNil)))))) (i := 1) rfl ⟨rfl, by decide, .inl h.gE_InvalidPolygon⟩ rfl rfl h.em_InvalidPolygon (fun a oe c d pn hz hf => (pmss_one (pms_ret (pm_lst (pma_cons pm_str (pma_cons (pm_xfG h.xf_position hz hf (pm_var 1)) pma_nil)))))) (fun a d c fs δ W hm hfl => ind_rt (ind_lst (ind_cons ind_c (ind_cons ind_xf ind_nil))) W) .nil))))⟩
  rfl
theorem sc__law_refused : FnScope ["_law_pool_here", "_law_bad", "_law_found", "_law_row", "_law_at", "_law_some", "_law_value"] ["_law_pool_here"] (defScope (top 52)) := ⟨rfl, rfl, rfl, by decide +kernel, rfl, by decide +kernel, by decide +kernel⟩
theorem ok__law_refused (h : HF P w K mg base) : GlM P w K mg base 9 "_law_refused" 1 m__law_refused :=
  gl_fnL h.fn__law_refused h.fa__law_refused sc__law_refused (fun _ _ _ _ _ _ us hl => match us, hl with | [_], _ => rfl) fun f cdv A outer s H E hc hr tk => by
    have nd : List.Nodup (["_law_pool_here", "_law_bad", "_law_found", "_law_row", "_law_at", "_law_some", "_law_value"] : List Str) := by decide +kernel
    exact (pmss_cons (pms_set 1 nd (pm_ix (pm_lst (pma_cons pm_non (pma_cons pm_str (pma_cons (pm_lst (pma_cons pm_int pma_nil)) (pma_cons pm_dctC (pma_cons pm_str pma_nil)))))) (pm_call (ok__law_take h) (hr.mono (by decide)) tk (pma_cons (pm_var 0) (pma_cons pm_int pma_nil))))) (pmss_cons (pms_set 2 nd (pm_lstC (pma_cons (pm_lam (j := 0) (k := 3) (lt__law_error h) h.tb__law_refused hc (show ((("_law_refused" : Str) ++ ".<locals>.") ++ "<lambda>" : Str) = "_law_refused.<locals>.<lambda>" from by decide +kernel) (hr.mono (by decide)) (LamX.lamS_by (show LamX.lamSB (defScope (top 52)) _ = true from by decide +kernel)) (fun _ _ _ _ _ _ _ hr tk => (pm_call (ok_format_integer h) (hr.mono (by decide)) tk (pma_cons (pm_var 1) pma_nil)))) (pma_cons (pm_lamD (j := 0) (k := 3) (lt__law_error h) h.tb__law_refused hc (show ((("_law_refused" : Str) ++ ".<locals>.") ++ "<lambda>" : Str) = "_law_refused.<locals>.<lambda>" from by decide +kernel) (hr.mono (by decide)) (lamD_by (b := "_law_again") (show lamDB ["_law_pool_here", "_law_bad", "_law_found", "_law_row", "_law_at", "_law_some", "_law_value"] (defScope (top 52)) _ _ = true from by decide +kernel)) (fun _ _ _ _ _ _ _ hr tk => (pm_call (ok_format_integer h) (hr.mono (by decide)) tk (pma_cons pm_bl pma_nil)))) pma_nil)))) (pmss_cons (pms_expr (pm_app (pm_var 2) (pm_lam (j := 0) (k := 4) (lt__law_error h) h.tb__law_refused hc (show ((("_law_refused" : Str) ++ ".<locals>.") ++ "<lambda>" : Str) = "_law_refused.<locals>.<lambda>" from by decide +kernel) (hr.mono (by decide)) (LamX.lamS_by (show LamX.lamSB (defScope (top 52)) _ = true from by decide +kernel)) (fun _ _ _ _ _ _ _ hr tk => (pm_call (ok_format_point h) (hr.mono (by decide)) tk (pma_cons (pm_var 1) pma_nil)))))) (pmss_cons (pms_expr (pm_app (pm_var 2) (pm_lam (j := 0) (k := 4) (lt__law_error h) h.tb__law_refused hc (show ((("_law_refused" : Str) ++ ".<locals>.") ++ "<lambda>" : Str) = "_law_refused.<locals>.<lambda>" from by decide +kernel) (hr.mono (by decide)) (LamX.lamS_by (show LamX.lamSB (defScope (top 52)) _ = true from by decide +kernel)) (fun _ _ _ _ _ _ _ hr tk => (pm_call (ok_format_point h) (hr.mono (by decide)) tk (pma_cons (pm_lst (pma_cons pm_int (pma_cons pm_int pma_nil))) pma_nil)))))) (pmss_cons (pms_expr (pm_app (pm_var 2) (pm_lam (j := 0) (k := 6) (lt__law_error h) h.tb__law_refused hc (show ((("_law_refused" : Str) ++ ".<locals>.") ++ "<lambda>" : Str) = "_law_refused.<locals>.<lambda>" from by decide +kernel) (hr.mono (by decide)) (LamX.lamS_by (show LamX.lamSB (defScope (top 52)) _ = true from by decide +kernel)) (fun _ _ _ _ _ _ _ hr tk => (pm_call (ok_format_polygon h) (hr.mono (by decide)) tk (pma_cons (pm_var 1) pma_nil)))))) (pmss_cons (pms_expr (pm_app (pm_var 2) (pm_lam (j := 0) (k := 3) (lt__law_error h) h.tb__law_refused hc (show ((("_law_refused" : Str) ++ ".<locals>.") ++ "<lambda>" : Str) = "_law_refused.<locals>.<lambda>" from by decide +kernel) (hr.mono (by decide)) (LamX.lamS_by (show LamX.lamSB (defScope (top 52)) _ = true from by decide +kernel)) (fun _ _ _ _ _ _ _ hr tk => (pm_call (ok_format_map h) (hr.mono (by decide)) tk (pma_cons (pm_var 1) pma_nil)))))) (pmss_cons (pms_if (pmt_cmp (op_neM hr.units) (calm_eq _) (pm_var 2) (pm_lst (pma_cons pm_str (pma_cons pm_str (pma_cons pm_str (pma_cons pm_str (pma_cons (pm_lst (pma_cons pm_str (pma_cons pm_non pma_nil))) (pma_cons pm_str pma_nil))))))) (nomark _)) (pmss_one (pms_ret pm_bl)) pmss_nil) (pmss_cons (pms_set 3 nd (pm_lst (pma_cons (pm_tup (pma_cons pm_int (pma_cons pm_int pma_nil))) (pma_cons (pm_tup (pma_cons pm_int (pma_cons pm_int pma_nil))) (pma_cons (pm_tup (pma_cons pm_int (pma_cons pm_int pma_nil))) pma_nil))))) (pmss_cons (pms_set 4 nd (pm_call (ok__law_take h) (hr.mono (by decide)) tk (pma_cons (pm_var 0) (pma_cons pm_int pma_nil)))) (pmss_cons (pms_set 5 nd (pm_op op_addM calm_add (pm_op op_addM calm_add (pm_sl (pm_var 3) pmo_none (pmo_some (pm_var 4))) (pm_lst (pma_cons (pm_ix (pm_lst (pma_cons pm_non (pma_cons (pm_tup (pma_cons pm_int pma_nil)) (pma_cons (pm_lst (pma_cons pm_int (pma_cons pm_int pma_nil))) (pma_cons (pm_tup (pma_cons pm_bl (pma_cons pm_int pma_nil))) (pma_cons pm_str pma_nil)))))) (pm_call (ok__law_take h) (hr.mono (by decide)) tk (pma_cons (pm_var 0) (pma_cons pm_int pma_nil)))) (pma_cons pm_non pma_nil)))) (pm_sl (pm_var 3) (pmo_some (pm_var 4)) pmo_none))) (pmss_cons (pms_set 2 nd (pm_lstC (pma_cons (pm_lam (j := 0) (k := 5) (lt__law_error h) h.tb__law_refused hc (show ((("_law_refused" : Str) ++ ".<locals>.") ++ "<lambda>" : Str) = "_law_refused.<locals>.<lambda>" from by decide +kernel) (hr.mono (by decide)) (LamX.lamS_by (show LamX.lamSB (defScope (top 52)) _ = true from by decide +kernel)) (fun _ _ _ _ _ _ _ hr tk => (pm_call (ok_format_points h) (hr.mono (by decide)) tk (pma_cons (pm_var 5) pma_nil)))) (pma_cons (pm_lamD (j := 0) (k := 5) (lt__law_error h) h.tb__law_refused hc (show ((("_law_refused" : Str) ++ ".<locals>.") ++ "<lambda>" : Str) = "_law_refused.<locals>.<lambda>" from by decide +kernel) (hr.mono (by decide)) (lamD_by (b := "_law_again") (show lamDB ["_law_pool_here", "_law_bad", "_law_found", "_law_row", "_law_at", "_law_some", "_law_value"] (defScope (top 52)) _ _ = true from by decide +kernel)) (fun _ _ _ _ _ _ _ hr tk => (pm_call (ok_format_points h) (hr.mono (by decide)) tk (pma_cons (pm_callTy bi_tuple h.B.tuple_ calm_tuple (pma_cons (pm_var 5) pma_nil)) pma_nil)))) pma_nil)))) (pmss_cons (pms_for (passes_of rfl) rfl (pmi_seq (pm_lst (pma_cons (pm_lst pma_nil) (pma_cons (pm_tup pma_nil) (pma_cons pm_non (pma_cons pm_str (pma_cons pm_dctC (pma_cons pm_int pma_nil)))))))) (pmg_name 6 nd) (pmss_one (pms_expr (pm_app (pm_var 2) (pm_lam (j := 0) (k := 5) (lt__law_error h) h.tb__law_refused hc (show ((("_law_refused" : Str) ++ ".<locals>.") ++ "<lambda>" : Str) = "_law_refused.<locals>.<lambda>" from by decide +kernel) (hr.mono (by decide)) (LamX.lamS_by (show LamX.lamSB (defScope (top 52)) _ = true from by decide +kernel)) (fun _ _ _ _ _ _ _ hr tk => (pm_call (ok_format_points h) (hr.mono (by decide)) tk (pma_cons (pm_var 6) pma_nil)))))))) (pmss_one (pms_ret (pm_cmp (op_eqM hr.units) (calm_eq _) (pm_var 2) (pm_op op_addM calm_add (pm_op op_mulM2 calm_mulS2 (pm_lst (pma_cons (pm_lst (pma_cons pm_str (pma_cons (pm_var 4) pma_nil))) pma_nil)) pm_int) (pm_op op_mulM2 calm_mulS2 (pm_lst (pma_cons (pm_lst (pma_cons pm_str (pma_cons pm_non pma_nil))) pma_nil)) pm_int)) (nomark _))))))))))))))))
theorem sc_law : FnScope ["_law_script", "_law_k", "_law_pool_here", "_law_number_here", "_law_point_here", "_law_row", "_law_turn", "_law_text", "_law_one", "_law_far", "_law_corners", "_law_polygon", "_law_six", "_law_item"] ["_law_script"] (defScope (top 53)) := ⟨rfl, rfl, rfl, by decide +kernel, rfl, by decide +kernel, by decide +kernel⟩
theorem ok_law (h : HF P w K mg base) : GlM P w K mg base 10 "law" 1 m_law :=
  gl_fn h.fn_law sc_law (fun _ _ _ _ _ _ us hl => match us, hl with | [_], _ => rfl) fun f cdv A outer s H E hr tk => by
    have nd : List.Nodup (["_law_script", "_law_k", "_law_pool_here", "_law_number_here", "_law_point_here", "_law_row", "_law_turn", "_law_text", "_law_one", "_law_far", "_law_corners", "_law_polygon", "_law_six", "_law_item"] : List Str) := by decide +kernel
    exact (pmss_cons (pms_for (passes_of rfl) rfl (pmi_range1 h.B.range_ (pma_cons (pm_callB (bi_max2 rfl) h.B.max_ calm_max2 (pma_cons pm_int (pma_cons (pm_callB (bi_min2 rfl) h.B.min_ calm_min2 (pma_cons pm_int (pma_cons (pm_callB (bi_len3 (hr.mono (by decide)) (lnok h)) h.B.len_ (calm_len3 _) (pma_cons (pm_var 0) pma_nil)) pma_nil))) pma_nil))) pma_nil)) (pmg_name 1 nd) (pmss_cons (pms_set 2 nd (pm_call (ok__law_pool h) (hr.mono (by decide)) tk (pma_cons (pm_var 0) (pma_cons (pm_var 1) pma_nil)))) (pmss_cons (pms_par (i := 3) (j := 4) rfl nd (by decide) (pma_cons (pm_call (ok__law_number h) (hr.mono (by decide)) tk (pma_cons (pm_var 2) pma_nil)) (pma_cons (pm_call (ok__law_point h) (hr.mono (by decide)) tk (pma_cons (pm_var 2) pma_nil)) pma_nil))) (pmss_cons (pms_if (pmt_of (pmw_or (pmt_cmp (op_neM hr.units) (calm_eq _) (pm_call (ok_format_integer h) (hr.mono (by decide)) tk (pma_cons (pm_var 3) pma_nil)) (pm_call (ok__law_digits h) (hr.mono (by decide)) tk (pma_cons (pm_var 3) pma_nil)) (nomark _)) (pmw_or1 (pmt_cmp (op_neM hr.units) (calm_eq _) (pm_call (ok_format_point h) (hr.mono (by decide)) tk (pma_cons (pm_var 4) pma_nil)) (pm_call (ok__law_pair h) (hr.mono (by decide)) tk (pma_cons (pm_var 4) pma_nil)) (nomark _))))) (pmss_one (pms_ret pm_bl)) pmss_nil) (pmss_cons (pms_setLc 5 (own := [("_law_turn", 6)]) rfl nd rfl (pmi_range1 h.B.range_ (pma_cons (pm_op op_addM calm_add pm_int (pm_call (ok__law_take h) (hr.mono (by decide)) tk (pma_cons (pm_var 2) (pma_cons pm_int pma_nil)))) pma_nil)) (show BlkOk ["_law_script", "_law_k", "_law_pool_here", "_law_number_here", "_law_point_here", "_law_row", "_law_turn", "_law_text", "_law_one", "_law_far", "_law_corners", "_law_polygon", "_law_six", "_law_item"] (defScope (top 53)) _ [("_law_turn", 6)] from ⟨rfl, by decide +kernel, by decide +kernel, by decide +kernel, by decide +kernel⟩) (fun _ _ _ _ _ => (pmg_name 6 nd)) (fun _ _ _ _ _ => pmts_nil) (fun _ _ _ _ _ => (pm_call (ok__law_point h) (hr.mono (by decide)) takes_none5 (pma_cons (pm_var 2) pma_nil)))) (pmss_cons (pms_set 7 nd (pm_join (pm_lc (own := [("_law_one", 8)]) rfl nd (pmi_seq (pm_var 5)) (show BlkOk ["_law_script", "_law_k", "_law_pool_here", "_law_number_here", "_law_point_here", "_law_row", "_law_turn", "_law_text", "_law_one", "_law_far", "_law_corners", "_law_polygon", "_law_six", "_law_item"] (defScope (top 53)) _ [("_law_one", 8)] from ⟨rfl, by decide +kernel, by decide +kernel, by decide +kernel, by decide +kernel⟩) (fun _ _ _ _ _ => (pmg_name 8 nd)) (fun _ _ _ _ _ => pmts_nil) (fun _ _ _ _ _ => (pm_call (ok__law_pair h) (hr.mono (by decide)) takes_none5 (pma_cons (pm_var 8) pma_nil)))))) (pmss_cons (pms_if (pmt_of (pmw_or (pmt_cmp (op_neM hr.units) (calm_eq _) (pm_call (ok_format_points h) (hr.mono (by decide)) tk (pma_cons (pm_var 5) pma_nil)) (pm_var 7) (nomark _)) (pmw_or1 (pmt_cmp (op_neM hr.units) (calm_eq _) (pm_call (ok_format_points h) (hr.mono (by decide)) tk (pma_cons (pm_callTy bi_tuple h.B.tuple_ calm_tuple (pma_cons (pm_var 5) pma_nil)) pma_nil)) (pm_var 7) (nomark _))))) (pmss_one (pms_ret pm_bl)) pmss_nil) (pmss_cons (pms_set 9 nd (pm_call (ok__law_number h) (hr.mono (by decide)) tk (pma_cons (pm_var 2) pma_nil))) (pmss_cons (pms_set 10 nd (pm_lst (pma_cons (pm_tup (pma_cons (pm_var 9) (pma_cons pm_int pma_nil))) (pma_cons (pm_tup (pma_cons (pm_op op_addM calm_add (pm_var 9) pm_int) (pma_cons pm_int pma_nil))) (pma_cons (pm_tup (pma_cons (pm_op op_addM calm_add (pm_var 9) pm_int) (pma_cons pm_int pma_nil))) (pma_cons (pm_tup (pma_cons (pm_var 9) (pma_cons pm_int pma_nil))) pma_nil)))))) (pmss_cons (pms_set 11 nd (pm_make (mkc_Polygon h) law_Polygon (hr.mono (by decide)) tk (pma_cons (pm_op op_addM calm_add (pm_sl (pm_var 10) (pmo_some pm_int) pmo_none) (pm_sl (pm_var 10) pmo_none (pmo_some pm_int))) pma_nil))) (pmss_cons (pms_if (pmt_cmp (op_neM hr.units) (calm_eq _) (pm_call (ok_format_polygon h) (hr.mono (by decide)) tk (pma_cons (pm_var 11) pma_nil)) (pm_join (pm_lc (own := [("_law_one", 8)]) rfl nd (pmi_seq (pm_var 10)) (show BlkOk ["_law_script", "_law_k", "_law_pool_here", "_law_number_here", "_law_point_here", "_law_row", "_law_turn", "_law_text", "_law_one", "_law_far", "_law_corners", "_law_polygon", "_law_six", "_law_item"] (defScope (top 53)) _ [("_law_one", 8)] from ⟨rfl, by decide +kernel, by decide +kernel, by decide +kernel, by decide +kernel⟩) (fun _ _ _ _ _ => (pmg_name 8 nd)) (fun _ _ _ _ _ => pmts_nil) (fun _ _ _ _ _ => (pm_call (ok__law_pair h) (hr.mono (by decide)) takes_none5 (pma_cons (pm_var 8) pma_nil))))) (nomark _)) (pmss_one (pms_ret pm_bl)) pmss_nil) (pmss_cons (pms_set 12 nd (pm_lst (pma_cons pm_int (pma_cons (pm_call (ok__law_number h) (hr.mono (by decide)) tk (pma_cons (pm_var 2) pma_nil)) (pma_cons pm_int (pma_cons (pm_ix (pm_lst (pma_cons pm_int (pma_cons (pm_neg pm_int) pma_nil))) (pm_call (ok__law_take h) (hr.mono (by decide)) tk (pma_cons (pm_var 2) (pma_cons pm_int pma_nil)))) (pma_cons (pm_var 9) (pma_cons (pm_call (ok__law_number h) (hr.mono (by decide)) tk (pma_cons (pm_var 2) pma_nil)) pma_nil)))))))) (pmss_cons (pms_set 7 nd (pm_op op_addM calm_add (pm_op op_addM calm_add pm_str (pm_join (pm_lc (own := [("_law_item", 13)]) rfl nd (pmi_seq (pm_var 12)) (show BlkOk ["_law_script", "_law_k", "_law_pool_here", "_law_number_here", "_law_point_here", "_law_row", "_law_turn", "_law_text", "_law_one", "_law_far", "_law_corners", "_law_polygon", "_law_six", "_law_item"] (defScope (top 53)) _ [("_law_item", 13)] from ⟨rfl, by decide +kernel, by decide +kernel, by decide +kernel, by decide +kernel⟩) (fun _ _ _ _ _ => (pmg_name 13 nd)) (fun _ _ _ _ _ => pmts_nil) (fun _ _ _ _ _ => (pm_call (ok__law_digits h) (hr.mono (by decide)) takes_none5 (pma_cons (pm_var 13) pma_nil)))))) pm_str)) (pmss_cons (pms_if (pmt_cmp (op_neM hr.units) (calm_eq _) (pm_call (ok_format_map h) (hr.mono (by decide)) tk (pma_cons (pm_make (mkc_GridMap_6 h) law_GridMap_6 (hr.mono (by decide)) tk (pma_cons (pm_ix (pm_var 12) pm_int) (pma_cons (pm_ix (pm_var 12) pm_int) (pma_cons (pm_ix (pm_var 12) pm_int) (pma_cons (pm_ix (pm_var 12) pm_int) (pma_cons (pm_ix (pm_var 12) pm_int) (pma_cons (pm_ix (pm_var 12) pm_int) pma_nil))))))) pma_nil)) (pm_var 7) (nomark _)) (pmss_one (pms_ret pm_bl)) pmss_nil) (pmss_one (pms_if (pmt_not (pmt_val (pm_call (ok__law_refused h) (hr.mono (by decide)) tk (pma_cons (pm_var 2) pma_nil)))) (pmss_one (pms_ret pm_bl)) pmss_nil)))))))))))))))) (pmss_one (pms_ret pm_bl)))
end
end ML
set_option Elab.async false
set_option linter.all false
set_option maxRecDepth 100000
set_option maxHeartbeats 0
namespace ML
open PySem PySem.Spec PyProof.Rows L2
theorem hf {K : Fg} {h : Heap} {mg : Str → Option Value} {w : World} {base : Heap} (X : K.In h) (G : h.Ns mainGlobals mg) (c : hd.Says K) (T : ∀ p ∈ tbL, LamX.TabB base mg (cdAd K (fnAd K p.1)) (tbAd K p.1)) : HF prog w K mg base := by
  obtain ⟨w0, w1, w2, w3, w4, w5, w6, w7, w8, w9, w10, w11⟩ := (of_decide_eq_true (c.word 0 (e := hw0) rfl) : HW0 K)
  obtain ⟨w12, w13, w14, w15, w16, w17, w18, w19, w20, w21, w22, w23⟩ := (of_decide_eq_true (c.word 1 (e := hw1) rfl) : HW1 K)
  obtain ⟨w24, w25, w26, w27, w28, w29, w30, w31, w32, w33, w34, w35⟩ := (of_decide_eq_true (c.word 2 (e := hw2) rfl) : HW2 K)
  obtain ⟨w36, w37, w38, w39, w40, w41, w42, w43, w44, w45, w46, w47⟩ := (of_decide_eq_true (c.word 3 (e := hw3) rfl) : HW3 K)
  obtain ⟨w48, w49, w50, w51, w52, w53, w54, w55, w56, w57, w58, w59⟩ := (of_decide_eq_true (c.word 4 (e := hw4) rfl) : HW4 K)
  obtain ⟨w60, w61, w62, w63, w64, w65, w66, w67, w68, w69, w70, w71⟩ := (of_decide_eq_true (c.word 5 (e := hw5) rfl) : HW5 K)
  obtain ⟨w72, w73, w74, w75, w76, w77, w78, w79, w80, w81, w82, w83⟩ := (of_decide_eq_true (c.word 6 (e := hw6) rfl) : HW6 K)
  obtain ⟨w84, w85, w86, w87, w88, w89, w90, w91, w92, w93, w94, w95⟩ := (of_decide_eq_true (c.word 7 (e := hw7) rfl) : HW7 K)
  obtain ⟨w96, w97, w98, w99, w100, w101, w102, w103, w104, w105, w106, w107⟩ := (of_decide_eq_true (c.word 8 (e := hw8) rfl) : HW8 K)
  obtain ⟨w108, w109, w110, w111, w112, w113, w114, w115, w116, w117, w118, w119⟩ := (of_decide_eq_true (c.word 9 (e := hw9) rfl) : HW9 K)
  obtain ⟨f0, F0⟩ := c.defn 0 (d := hdf0) rfl
  obtain ⟨f1, F1⟩ := c.defn 1 (d := hdf1) rfl
  obtain ⟨f2, F2⟩ := c.defn 2 (d := hdf2) rfl
  obtain ⟨f3, F3⟩ := c.defn 3 (d := hdf3) rfl
  obtain ⟨f4, F4⟩ := c.defn 4 (d := hdf4) rfl
  obtain ⟨f5, F5⟩ := c.defn 5 (d := hdf5) rfl
  obtain ⟨f6, F6⟩ := c.defn 6 (d := hdf6) rfl
  obtain ⟨f7, F7⟩ := c.defn 7 (d := hdf7) rfl
  obtain ⟨f8, F8⟩ := c.defn 8 (d := hdf8) rfl
  obtain ⟨f9, F9⟩ := c.defn 9 (d := hdf9) rfl
  obtain ⟨f10, F10⟩ := c.defn 10 (d := hdf10) rfl
  obtain ⟨f11, F11⟩ := c.defn 11 (d := hdf11) rfl
  obtain ⟨f12, F12⟩ := c.defn 12 (d := hdf12) rfl
  obtain ⟨f13, F13⟩ := c.defn 13 (d := hdf13) rfl
  obtain ⟨f14, F14⟩ := c.defn 14 (d := hdf14) rfl
  obtain ⟨f15, F15⟩ := c.defn 15 (d := hdf15) rfl
  obtain ⟨f16, F16⟩ := c.defn 16 (d := hdf16) rfl
  obtain ⟨f17, F17⟩ := c.defn 17 (d := hdf17) rfl
  obtain ⟨f18, F18⟩ := c.defn 18 (d := hdf18) rfl
  obtain ⟨f19, F19⟩ := c.defn 19 (d := hdf19) rfl
  obtain ⟨f20, F20⟩ := c.defn 20 (d := hdf20) rfl
  obtain ⟨f21, F21⟩ := c.defn 21 (d := hdf21) rfl
  obtain ⟨f22, F22⟩ := c.defn 22 (d := hdf22) rfl
  obtain ⟨f23, F23⟩ := c.defn 23 (d := hdf23) rfl
  obtain ⟨f24, F24⟩ := c.defn 24 (d := hdf24) rfl
  obtain ⟨f25, F25⟩ := c.defn 25 (d := hdf25) rfl
  obtain ⟨f26, F26⟩ := c.defn 26 (d := hdf26) rfl
  obtain ⟨f27, F27⟩ := c.defn 27 (d := hdf27) rfl
  obtain ⟨f28, F28⟩ := c.defn 28 (d := hdf28) rfl
  obtain ⟨f29, F29⟩ := c.defn 29 (d := hdf29) rfl
  obtain ⟨f30, F30⟩ := c.defn 30 (d := hdf30) rfl
  obtain ⟨f31, F31⟩ := c.defn 31 (d := hdf31) rfl
  obtain ⟨f32, F32⟩ := c.defn 32 (d := hdf32) rfl
  obtain ⟨f33, F33⟩ := c.defn 33 (d := hdf33) rfl
  obtain ⟨f34, F34⟩ := c.defn 34 (d := hdf34) rfl
  obtain ⟨f35, F35⟩ := c.defn 35 (d := hdf35) rfl
  obtain ⟨f36, F36⟩ := c.defn 36 (d := hdf36) rfl
  obtain ⟨f37, F37⟩ := c.defn 37 (d := hdf37) rfl
  obtain ⟨f38, F38⟩ := c.defn 38 (d := hdf38) rfl
  obtain ⟨f39, F39⟩ := c.defn 39 (d := hdf39) rfl
  obtain ⟨f40, F40⟩ := c.defn 40 (d := hdf40) rfl
  obtain ⟨f41, F41⟩ := c.defn 41 (d := hdf41) rfl
  obtain ⟨f42, F42⟩ := c.defn 42 (d := hdf42) rfl
  obtain ⟨f43, F43⟩ := c.defn 43 (d := hdf43) rfl
  obtain ⟨f44, F44⟩ := c.defn 44 (d := hdf44) rfl
  obtain ⟨f45, F45⟩ := c.defn 45 (d := hdf45) rfl
  obtain ⟨f46, F46⟩ := c.defn 46 (d := hdf46) rfl
  obtain ⟨f47, F47⟩ := c.defn 47 (d := hdf47) rfl
  obtain ⟨f48, F48⟩ := c.defn 48 (d := hdf48) rfl
  obtain ⟨f49, F49⟩ := c.defn 49 (d := hdf49) rfl
  obtain ⟨f50, F50⟩ := c.defn 50 (d := hdf50) rfl
  obtain ⟨f51, F51⟩ := c.defn 51 (d := hdf51) rfl
  obtain ⟨f52, F52⟩ := c.defn 52 (d := hdf52) rfl
  obtain ⟨f53, F53⟩ := c.defn 53 (d := hdf53) rfl
  obtain ⟨f54, F54⟩ := c.defn 54 (d := hdf54) rfl
  obtain ⟨f55, F55⟩ := c.defn 55 (d := hdf55) rfl
  obtain ⟨f56, F56⟩ := c.defn 56 (d := hdf56) rfl
  obtain ⟨f57, F57⟩ := c.defn 57 (d := hdf57) rfl
  obtain ⟨f58, F58⟩ := c.defn 58 (d := hdf58) rfl
  obtain ⟨f59, F59⟩ := c.defn 59 (d := hdf59) rfl
  obtain ⟨f60, F60⟩ := c.defn 60 (d := hdf60) rfl
  obtain ⟨f61, F61⟩ := c.defn 61 (d := hdf61) rfl
  exact {
    B := ⟨free_of X G w1, free_of X G w2, free_of X G w3, free_of X G w4, free_of X G w5, free_of X G w6, free_of X G w7, free_of X G w8, free_of X G w9, free_of X G w10, free_of X G w11, free_of X G w12, free_of X G w13, free_of X G w14, free_of X G w15, free_of X G w16, free_of X G w17, free_of X G w18, free_of X G w19, free_of X G w20, free_of X G w21, free_of X G w22, free_of X G w23⟩,
    fn__wall := ⟨_, f0, glo_of X G w24, F0⟩,
    fn_is_integer := ⟨_, f1, glo_of X G w25, F1⟩,
    fn_check_integer := ⟨_, f2, glo_of X G w26, F2⟩,
    fn_is_point := ⟨_, f3, glo_of X G w27, F3⟩,
    fn_check_point := ⟨_, f4, glo_of X G w28, F4⟩,
    fn_cross_of := ⟨_, f5, glo_of X G w29, F5⟩,
    fn_difference := ⟨_, f6, glo_of X G w30, F6⟩,
    fn_turn_of := ⟨_, f7, glo_of X G w31, F7⟩,
    fn_check_map := ⟨_, f8, glo_of X G w32, F8⟩,
    fn_check_points := ⟨_, f9, glo_of X G w33, F9⟩,
    fn_triples := ⟨_, f10, glo_of X G w34, F10⟩,
    fn_check_turns := ⟨_, f11, glo_of X G w35, F11⟩,
    fn_is_between := ⟨_, f12, glo_of X G w36, F12⟩,
    fn_is_on := ⟨_, f13, glo_of X G w37, F13⟩,
    fn_have_common_point := ⟨_, f14, glo_of X G w38, F14⟩,
    fn_edges_of := ⟨_, f15, glo_of X G w39, F15⟩,
    fn_check_crossings := ⟨_, f16, glo_of X G w40, F16⟩,
    fn_area_of := ⟨_, f17, glo_of X G w41, F17⟩,
    fn_arranged := ⟨_, f18, glo_of X G w42, F18⟩,
    fn_checked_corners := ⟨_, f19, glo_of X G w43, F19⟩,
    fn_first_reflex := ⟨_, f20, glo_of X G w44, F20⟩,
    fn_check_polygon := ⟨_, f21, glo_of X G w45, F21⟩,
    fn_format_integer := ⟨_, f22, glo_of X G w46, F22⟩,
    fn_format_point := ⟨_, f23, glo_of X G w47, F23⟩,
    fn_format_points := ⟨_, f24, glo_of X G w48, F24⟩,
    fn_format_polygon := ⟨_, f25, glo_of X G w49, F25⟩,
    fn_format_map := ⟨_, f26, glo_of X G w50, F26⟩,
    fn__law_pool := ⟨_, f27, glo_of X G w51, F27⟩,
    fn__law_take := ⟨_, f28, glo_of X G w52, F28⟩,
    fn__law_number := ⟨_, f29, glo_of X G w53, F29⟩,
    fn__law_digits := ⟨_, f30, glo_of X G w54, F30⟩,
    fn__law_point := ⟨_, f31, glo_of X G w55, F31⟩,
    fn__law_pair := ⟨_, f32, glo_of X G w56, F32⟩,
    fn__law_error := ⟨_, f33, glo_of X G w57, F33⟩,
    fn__law_refused := ⟨_, f34, glo_of X G w58, F34⟩,
    fn_law := ⟨_, f35, glo_of X G w59, F35⟩,
    isi_int := isi_of w60,
    isi_bool := isi_of w61,
    isi_str := isi_of w62,
    isi_tuple := isi_of w63,
    isi_list := isi_of w64,
    isi_dict := isi_of w65,
    gC_GridMap := gC_of (c := .GridMap) X G w66,
    isi_GridMap := isi_of w67,
    gC_Polygon := gC_of (c := .Polygon) X G w68,
    isi_Polygon := isi_of w69,
    fld_first := fld_of w70,
    fld_kept := fld_of w71,
    fld_position := fld_of w72,
    fld_reflex := fld_of w73,
    fld_second := fld_of w74,
    fld_six := fld_of w75,
    con_MIN_CORNERS := con_of X G w76,
    ccon_GridMap_MAX_ORDER := ccon_of (gC_of (c := .GridMap) X G w66) w77,
    ccon_Polygon_MAX_CORNERS := ccon_of (gC_of (c := .Polygon) X G w68) w78,
    cls_GridMap := cls_of w79,
    mk_GridMap := ⟨_, f36, mk_of w80, F36⟩,
    cls_Polygon := cls_of w81,
    mk_Polygon := ⟨_, f37, mk_of w82, F37⟩,
    ln_Polygon := ⟨_, f38, w83.1, w83.2, F38⟩,
    mt_GridMap_apply := ⟨_, f39, meth_of w84, F39⟩,
    mt_Polygon_edges := ⟨_, f40, meth_of w85, F40⟩,
    mt_GridMap_followed_by := ⟨_, f41, meth_of w86, F41⟩,
    mt_GridMap_image := ⟨_, f42, meth_of w87, F42⟩,
    mt_Polygon_image_corners := ⟨_, f43, meth_of w88, F43⟩,
    mt_GridMap_inverse := ⟨_, f44, meth_of w89, F44⟩,
    mt_Polygon_locate := ⟨_, f45, meth_of w90, F45⟩,
    mt_Polygon_moved := ⟨_, f46, meth_of w91, F46⟩,
    mt_GridMap_order := ⟨_, f47, meth_of w92, F47⟩,
    mt_GridMap_power := ⟨_, f48, meth_of w93, F48⟩,
    mt_GridMap_then := ⟨_, f49, meth_of w94, F49⟩,
    pr_Polygon_border_points := ⟨_, _, f50, prop_of w95, F50⟩,
    pr_Polygon_corners := ⟨_, _, f51, prop_of w96, F51⟩,
    pr_GridMap_determinant := ⟨_, _, f52, prop_of w97, F52⟩,
    pr_Polygon_double_area := ⟨_, _, f53, prop_of w98, F53⟩,
    pr_Polygon_inner_points := ⟨_, _, f54, prop_of w99, F54⟩,
    pr_Polygon_is_convex := ⟨_, _, f55, prop_of w100, F55⟩,
    pr_GridMap_is_proper := ⟨_, _, f56, prop_of w101, F56⟩,
    pr_Polygon_middle := ⟨_, _, f57, prop_of w102, F57⟩,
    pr_GridMap_numbers := ⟨_, _, f58, prop_of w103, F58⟩,
    pr_Polygon_total_points := ⟨_, _, f59, prop_of w104, F59⟩,
    gE_InvalidInteger := gC_of (c := .InvalidInteger) X G w105,
    gE_InvalidMap := gC_of (c := .InvalidMap) X G w106,
    gE_InvalidPoint := gC_of (c := .InvalidPoint) X G w107,
    gE_InvalidPolygon := gC_of (c := .InvalidPolygon) X G w108,
    em_InvalidInteger := em_of w109,
    em_InvalidMap := em_of w110,
    em_InvalidPoint := em_of w111,
    em_InvalidPolygon := em_of w112,
    fa__law_refused := fa_of X G w58,
    tb__law_refused := T _ (show (("_law_refused", "_law_refused.<locals>.<lambda>") : TabN) ∈ tbL from by decide),
    xf_position := fx_of w113,
    x_InvalidInteger := excO_of PySem.F.excBase_ValueError rfl (gC_of (c := .InvalidInteger) X G w105) w114,
    x_InvalidMap := excO_of PySem.F.excBase_ValueError rfl (gC_of (c := .InvalidMap) X G w106) w115,
    x_InvalidPoint := excO_of PySem.F.excBase_ValueError rfl (gC_of (c := .InvalidPoint) X G w107) w116,
    x_DegenerateCorner := excN_of (st := inClass (top 7) 0) exB_Value rfl (gC_of (c := .DegenerateCorner) X G w117) w118 F60 ⟨rfl, rfl, rfl, by decide +kernel, rfl, by decide +kernel, by decide +kernel⟩ (.inl rfl) (.inl rfl) (by decide) (by decide) rfl (fun _ => rfl) (fun _ _ _ _ _ _ us hl => match us, hl with | [_, _], _ => rfl),
    x_InvalidPolygon := excN_of (st := inClass (top 6) 0) exB_Value rfl (gC_of (c := .InvalidPolygon) X G w108) w119 F61 ⟨rfl, rfl, rfl, by decide +kernel, rfl, by decide +kernel, by decide +kernel⟩ (.inl rfl) (.inl rfl) (by decide) (by decide) rfl (fun _ => rfl) (fun _ _ _ _ _ _ us hl => match us, hl with | [_, _], _ => rfl) }
theorem hfl {K : Fg} {h : Heap} {mg : Str → Option Value} (X : K.In h) (G : h.Ns mainGlobals mg) (c : hd.Says K) : FnAt K mg "law" (top 53) [] [] := by
  obtain ⟨w0, w1, w2, w3, w4, w5, w6, w7, w8, w9, w10, w11⟩ := (of_decide_eq_true (c.word 0 (e := hw0) rfl) : HW0 K)
  obtain ⟨w12, w13, w14, w15, w16, w17, w18, w19, w20, w21, w22, w23⟩ := (of_decide_eq_true (c.word 1 (e := hw1) rfl) : HW1 K)
  obtain ⟨w24, w25, w26, w27, w28, w29, w30, w31, w32, w33, w34, w35⟩ := (of_decide_eq_true (c.word 2 (e := hw2) rfl) : HW2 K)
  obtain ⟨w36, w37, w38, w39, w40, w41, w42, w43, w44, w45, w46, w47⟩ := (of_decide_eq_true (c.word 3 (e := hw3) rfl) : HW3 K)
  obtain ⟨w48, w49, w50, w51, w52, w53, w54, w55, w56, w57, w58, w59⟩ := (of_decide_eq_true (c.word 4 (e := hw4) rfl) : HW4 K)
  obtain ⟨w60, w61, w62, w63, w64, w65, w66, w67, w68, w69, w70, w71⟩ := (of_decide_eq_true (c.word 5 (e := hw5) rfl) : HW5 K)
  obtain ⟨w72, w73, w74, w75, w76, w77, w78, w79, w80, w81, w82, w83⟩ := (of_decide_eq_true (c.word 6 (e := hw6) rfl) : HW6 K)
  obtain ⟨w84, w85, w86, w87, w88, w89, w90, w91, w92, w93, w94, w95⟩ := (of_decide_eq_true (c.word 7 (e := hw7) rfl) : HW7 K)
  obtain ⟨w96, w97, w98, w99, w100, w101, w102, w103, w104, w105, w106, w107⟩ := (of_decide_eq_true (c.word 8 (e := hw8) rfl) : HW8 K)
  obtain ⟨w108, w109, w110, w111, w112, w113, w114, w115, w116, w117, w118, w119⟩ := (of_decide_eq_true (c.word 9 (e := hw9) rfl) : HW9 K)
  obtain ⟨f35, F35⟩ := c.defn 35 (d := hdf35) rfl
  exact ⟨_, f35, glo_of X G w59, F35⟩
theorem tbs (K : Fg) (c : hd.Says K) : tabsB tbL K = true := by
  obtain ⟨w0, w1, w2, w3, w4, w5, w6, w7, w8, w9, w10, w11⟩ := (of_decide_eq_true (c.word 0 (e := hw0) rfl) : HW0 K)
  exact w0
end ML
set_option Elab.async false
set_option linter.all false
set_option maxRecDepth 100000
set_option maxHeartbeats 2000000
namespace ML
open PySem PySem.Spec PyProof.Rows L2
/-! ### polygons under maps -/
structure M6 where
  a : Int
  b : Int
  c : Int
  d : Int
  e : Int
  f : Int
def imP (m : M6) (p : P2) : P2 := (m.a * p.1 + m.b * p.2 + m.e, m.c * p.1 + m.d * p.2 + m.f)
def detM (m : M6) : Int := m.a * m.d - m.b * m.c
theorem turn_im (m : M6) (p q r : P2) : turnP (imP m p) (imP m q) (imP m r) = detM m * turnP p q r := by
  unfold turnP crossP subP imP detM
  grind
def linM (m : M6) (p : P2) : Int := m.e * (m.c * p.1 + m.d * p.2) - m.f * (m.a * p.1 + m.b * p.2)
theorem cross_im (m : M6) (p q : P2) : crossP (imP m p) (imP m q) = detM m * crossP p q + (linM m q - linM m p) := by
  unfold crossP imP detM linM
  grind
theorem turn_rev (p q r : P2) : turnP r q p = - turnP p q r := by
  unfold turnP crossP subP
  grind
theorem mod2 {a n : Nat} (h : a < 2 * n) : a % n = if a < n then a else a - n := by
  split
  · rename_i q; exact Nat.mod_eq_of_lt q
  · rw [Nat.mod_eq_sub_mod (by omega), Nat.mod_eq_of_lt (by omega)]
/-! sums -/
theorem sum_add {α : Type} (f g : α → Int) : ∀ l : List α, (l.map fun i => f i + g i).sum = (l.map f).sum + (l.map g).sum
  | [] => rfl
  | x :: r => by
    simp only [List.map_cons, List.sum_cons, sum_add f g r]
    omega
theorem sum_mul {α : Type} (k : Int) (f : α → Int) : ∀ l : List α, (l.map fun i => k * f i).sum = k * (l.map f).sum
  | [] => by simp
  | x :: r => by
    simp only [List.map_cons, List.sum_cons, sum_mul k f r]
    rw [Int.mul_add]
theorem sum_sub {α : Type} (f g : α → Int) : ∀ l : List α, (l.map fun i => f i - g i).sum = (l.map f).sum - (l.map g).sum
  | [] => rfl
  | x :: r => by
    simp only [List.map_cons, List.sum_cons, sum_sub f g r]
    omega
theorem sum_cyc (g : Nat → Int) (n : Nat) : ((List.range n).map fun i => g ((i + 1) % n)).sum = ((List.range n).map g).sum := by
  cases n with
  | zero => rfl
  | succ m =>
    have e1 : ((List.range (m + 1)).map fun i => g ((i + 1) % (m + 1))).sum = ((List.range m).map fun i => g (i + 1)).sum + g 0 := by
      rw [List.range_succ, List.map_append, List.sum_append]
      congr 1
      · congr 1
        apply List.map_congr_left
        intro i hi
        rw [Nat.mod_eq_of_lt (by have := List.mem_range.mp hi; omega)]
      · show g ((m + 1) % (m + 1)) + 0 = _
        rw [Nat.mod_self, Int.add_zero]
    have e2 : ((List.range (m + 1)).map g).sum = g 0 + ((List.range m).map fun i => g (i + 1)).sum := by
      rw [List.range_succ_eq_map, List.map_cons, List.sum_cons, List.map_map]
      rfl
    rw [e1, e2, Int.add_comm]
section
variable {ps : List P2} {i : Nat}
theorem nth_map (m : M6) (h : i < ps.length) : nthP (ps.map (imP m)) i = imP m (nthP ps i) := by
  rw [nthP_lt (by simpa using h), nthP_lt h, List.getElem_map]
theorem tri_map (m : M6) (h : i < ps.length) : triP (ps.map (imP m)) i = (imP m (triP ps i).1, imP m (triP ps i).2.1, imP m (triP ps i).2.2) := by
  have h0 : 0 < ps.length := Nat.lt_of_le_of_lt (Nat.zero_le _) h
  unfold triP
  rw [List.length_map, nth_map m (Nat.mod_lt _ h0), nth_map m h, nth_map m (Nat.mod_lt _ h0)]
theorem turn_map (m : M6) (h : i < ps.length) : turnAt (ps.map (imP m)) i = detM m * turnAt ps i := by
  unfold turnAt
  rw [tri_map m h]
  exact turn_im m _ _ _
theorem edge_map (m : M6) (h : i < ps.length) : edgeP (ps.map (imP m)) i = (imP m (edgeP ps i).1, imP m (edgeP ps i).2) := by
  have h0 : 0 < ps.length := Nat.lt_of_le_of_lt (Nat.zero_le _) h
  unfold edgeP
  rw [List.length_map, nth_map m h, nth_map m (Nat.mod_lt _ h0)]
theorem det_two {k : Int} (h : k.natAbs = 1) : k = 1 ∨ k = -1 := by omega
theorem apart_map (m : M6) (h : (detM m).natAbs = 1) (e f : P2 × P2) : apartP (imP m e.1, imP m e.2) (imP m f.1, imP m f.2) = apartP e f := by
  unfold apartP
  simp only [turn_im]
  rcases det_two h with q | q <;> rw [q]
  · simp only [Int.one_mul]
  · simp only [Int.neg_mul, Int.one_mul, Int.mul_neg, Int.neg_neg, ne_eq, Int.neg_eq_zero]
theorem area_map (m : M6) : areaP (ps.map (imP m)) = detM m * areaP ps := by
  unfold areaP
  rw [List.length_map]
  have e : (List.range ps.length).map (fun i => crossP (edgeP (ps.map (imP m)) i).1 (edgeP (ps.map (imP m)) i).2) = (List.range ps.length).map fun i => detM m * crossP (edgeP ps i).1 (edgeP ps i).2 + (linM m (nthP ps ((i + 1) % ps.length)) - linM m (nthP ps i)) := by
    apply List.map_congr_left
    intro i hi
    rw [edge_map m (List.mem_range.mp hi)]
    exact cross_im m _ _
  rw [e, sum_add, sum_mul, sum_sub, sum_cyc fun i => linM m (nthP ps i), Int.sub_self, Int.add_zero]
theorem nth_rot {k : Nat} (hk : k ≤ ps.length) (h : i < ps.length) : nthP (ps.drop k ++ ps.take k) i = nthP ps ((i + k) % ps.length) := by
  have hl : (ps.drop k ++ ps.take k).length = ps.length := by simp; omega
  rw [nthP_lt (by omega), nthP_lt (Nat.mod_lt _ (by omega))]
  rw [List.getElem_append]
  split
  · rename_i q
    have q : i < ps.length - k := by simpa using q
    rw [List.getElem_drop]
    congr 1
    rw [Nat.mod_eq_of_lt (by omega)]
    omega
  · rename_i q
    have q : ps.length - k ≤ i := by simpa using q
    rw [List.getElem_take]
    congr 1
    rw [List.length_drop, mod2 (by omega), if_neg (by omega)]
    omega
theorem tri_rot {k : Nat} (hk : k ≤ ps.length) (h : i < ps.length) : triP (ps.drop k ++ ps.take k) i = triP ps ((i + k) % ps.length) := by
  have hl : (ps.drop k ++ ps.take k).length = ps.length := by simp; omega
  have m1 := mod2 (a := i + k) (n := ps.length) (by omega)
  have b1 : (i + k) % ps.length < ps.length := Nat.mod_lt _ (by omega)
  have b2 : (i + ps.length - 1) % ps.length < ps.length := Nat.mod_lt _ (by omega)
  have b3 : (i + 1) % ps.length < ps.length := Nat.mod_lt _ (by omega)
  unfold triP
  rw [hl, nth_rot hk b2, nth_rot hk h, nth_rot hk b3]
  have e1 : ((i + ps.length - 1) % ps.length + k) % ps.length = ((i + k) % ps.length + ps.length - 1) % ps.length := by
    rw [mod2 (a := (i + ps.length - 1) % ps.length + k) (by omega), mod2 (a := (i + k) % ps.length + ps.length - 1) (by omega), mod2 (a := i + ps.length - 1) (by omega), m1]
    split <;> split <;> split <;> (try split) <;> omega
  have e2 : ((i + 1) % ps.length + k) % ps.length = ((i + k) % ps.length + 1) % ps.length := by
    rw [mod2 (a := (i + 1) % ps.length + k) (by omega), mod2 (a := (i + k) % ps.length + 1) (by omega), mod2 (a := i + 1) (by omega), m1]
    split <;> split <;> split <;> (try split) <;> omega
  rw [e1, e2]
theorem turn_rot {k : Nat} (hk : k ≤ ps.length) (h : i < ps.length) : turnAt (ps.drop k ++ ps.take k) i = turnAt ps ((i + k) % ps.length) := by
  unfold turnAt
  rw [tri_rot hk h]
theorem nth_rev (h : i < ps.length) : nthP ps.reverse i = nthP ps (ps.length - 1 - i) := by
  rw [nthP_lt (by simpa using h), nthP_lt (by omega), List.getElem_reverse]
theorem turnAt_rev (h : i < ps.length) : turnAt ps.reverse i = - turnAt ps (ps.length - 1 - i) := by
  have b2 : (i + ps.length - 1) % ps.length < ps.length := Nat.mod_lt _ (by omega)
  have b3 : (i + 1) % ps.length < ps.length := Nat.mod_lt _ (by omega)
  unfold turnAt triP
  rw [List.length_reverse, nth_rev b2, nth_rev h, nth_rev b3]
  have e1 : ps.length - 1 - (i + ps.length - 1) % ps.length = (ps.length - 1 - i + 1) % ps.length := by
    rw [mod2 (a := i + ps.length - 1) (by omega), mod2 (a := ps.length - 1 - i + 1) (by omega)]
    split <;> split <;> omega
  have e2 : ps.length - 1 - (i + 1) % ps.length = (ps.length - 1 - i + ps.length - 1) % ps.length := by
    rw [mod2 (a := i + 1) (by omega), mod2 (a := ps.length - 1 - i + ps.length - 1) (by omega)]
    split <;> split <;> omega
  rw [e1, e2]
  exact turn_rev _ _ _
/-! convex polygons stay convex -/
def CvP (ps : List P2) : Prop := (∀ i, i < ps.length → 0 < turnAt ps i) ∧ 0 < areaP ps
theorem rot_len : (rotP ps).length = ps.length := by
  unfold rotP
  simp
  omega
theorem arr_len : (arrP ps).length = ps.length := by
  unfold arrP
  rw [rot_len]
  split
  · rfl
  · exact List.length_reverse
theorem posP_le (q : P2) : ∀ ps : List P2, posP q ps ≤ ps.length
  | [] => Nat.le_refl _
  | p :: r => by
    unfold posP
    split
    · exact Nat.zero_le _
    · exact Nat.succ_le_succ (posP_le q r)
theorem rot_turns (h : ∀ i, i < ps.length → 0 < turnAt ps i) : ∀ i, i < (rotP ps).length → 0 < turnAt (rotP ps) i := fun i hi => by
  rw [rot_len] at hi
  unfold rotP
  rw [turn_rot (posP_le _ _) hi]
  exact h _ (Nat.mod_lt _ (by omega))
theorem reflex_none (h : ∀ i, i < ps.length → 0 < turnAt ps i) : reflexP ps = none := by
  unfold reflexP
  rw [List.find?_eq_none]
  intro i hi
  have := h i (List.mem_range.mp hi)
  simp
  omega
theorem arr_cv (m : M6) (hd : (detM m).natAbs = 1) (h : CvP ps) : reflexP (arrP (ps.map (imP m))) = none := by
  apply reflex_none
  unfold arrP
  rw [area_map]
  rcases det_two hd with q | q <;> rw [q]
  · rw [if_pos (by rw [Int.one_mul]; exact h.2)]
    apply rot_turns
    intro i hi
    rw [List.length_map] at hi
    rw [turn_map m hi, q, Int.one_mul]
    exact h.1 i hi
  · rw [if_neg (by have := h.2; omega)]
    apply rot_turns
    intro i hi
    rw [List.length_reverse, List.length_map] at hi
    rw [turnAt_rev (by simpa using hi), turn_map m (by rw [List.length_map]; omega), q]
    have := h.1 (ps.length - 1 - i) (by omega)
    rw [List.length_map]
    omega
end
end ML
set_option Elab.async false
set_option linter.all false
set_option maxRecDepth 100000
set_option maxHeartbeats 4000000
namespace ML
open PySem PySem.Spec PyProof.Rows L2
/-! ### the pool -/
def plD (p s : Int) : MO := .lst [.int p, .int s]
structure PoolOk (m : MO) : Prop where
  ex : ∃ p s : Int, m = plD p s ∧ 0 ≤ p ∧ 0 ≤ s ∧ s < 2147483647
theorem atI_lit {xs : List D} {i : Int} {x : D} (h : atI xs i = some x) {W : Wo} {j : Nat} (hj : W[j]? = some (.lst xs)) : idxD (.cell j) (.int i) W = .ok x W := by
  show (match (match W[j]? with
    | some (MO.lst xs) => some xs
    | _ => none) with
    | some xs => match atI xs i with
      | some x => Res.ok x W
      | none => .bad
    | none => .bad) = _
  rw [hj]
  show (match atI xs i with
      | some x => Res.ok x W
      | none => .bad) = _
  rw [h]
theorem put_lit {W : Wo} {j : Nat} {xs : List D} {k : Int} {n : Nat} {v : D} (hj : W[j]? = some (.lst xs)) (h : ixN xs.length k = some n) : putIx (.cell j) (.int k) v W = some (W.set j (.lst (xs.set n v))) := by
  unfold putIx
  simp only [hj, h]
theorem set_same {W : Wo} {j : Nat} {m m' : MO} (h : W[j]? = some m) : (W.set j m')[j]? = some m' := by
  rw [List.getElem?_set_self (List.getElem?_eq_some_iff.mp h).1]
theorem small_of {i : Int} (h : 0 ≤ i) (h2 : i < 4611686018427387904) : smallI i = true := decide_eq_true (by omega)
theorem mv_take {W : Wo} {q : Nat} {m : MO} {b : Int} (h : W[q]? = some m) (hp : PoolOk m) (hb : 0 < b) (hb2 : b ≤ 1000000000000000000000000000) :
    ∃ r m', 0 ≤ r ∧ r < b ∧ PoolOk m' ∧ m__law_take [.cell q, .int b] W = .ok (.int r) (W.set q m') := by
  obtain ⟨p, s, rfl, h1, h2, h3⟩ := hp.ex
  have lg : b.natAbs.log2 < 8999 := by
    have h0 : b.natAbs ≠ 0 := by omega
    have h1 : b.natAbs < 2 ^ 100 := Nat.lt_of_le_of_lt (m := 1000000000000000000000000000) (by omega) (by decide)
    exact Nat.lt_trans ((Nat.log2_lt h0).mpr h1) (by decide)
  by_cases q0 : 0 < p
  · refine ⟨p % b, plD (p / b) s, Int.emod_nonneg _ (by omega), Int.emod_lt_of_pos _ hb, ⟨_, _, rfl, Int.ediv_nonneg h1 (by omega), h2, h3⟩, ?_⟩
    have i0 := atI_lit (xs := [.int p, .int s]) (i := 0) (x := .int p) rfl h
    have e1 : modD (.int p) (.int b) W = _ := e_mod hb
    have e2 : fdivD (.int p) (.int b) W = _ := e_fdiv hb lg
    have e3 := put_lit (xs := [.int p, .int s]) (k := 0) (n := 0) (v := .int (p / b)) h rfl
    unfold m__law_take s__law_take
    simp only [mRun, sSeq, sSet, sEx, sRt, sRtN, sIf, sNx, sBk, sCt, sAsg, sPar, mCall, mBin, mUn, mTst, mC, mVar, aNil, aCons, mTup, mLst, mLstC, mDctC, Res.bind, Res.toS, mAndV, mOrV, mAnd, mOr, mNot, mIf, mChain, mProp, mMeth, mMethK, mMakeF, mMakeC, mMakeCK, madeC, Res.calmed, sFldS, sPut, sPut2, sDel, sDelTail, sPropS, mApp, mIndex, mSl, oNone, oSome, mItA, mIt, mIt2, sFor, mLc, lcE, mYes, gNm, gNl, gCn, gTp, setAt, List.map_cons, List.map_nil, List.cons_append, List.nil_append, List.append_nil, List.replicate_succ, List.replicate_zero, List.getElem?_cons_zero, List.getElem?_cons_succ, List.getElem?_nil, List.set_cons_zero, List.set_cons_succ, List.length_cons, List.length_nil, e_sub, e_add, e_lt, e_le, e_gt, e_ge, e_eqI, e_neI, e_not, e_neg, e_idT, e_isN, wipeE, if_true, if_false, Bool.not_true, Bool.not_false, Bool.false_eq_true, Bool.true_eq_false, Option.some.injEq, decide_true, decide_false, sizeLine_eq, Nat.reduceAdd, Nat.reduceLeDiff, i0, decide_eq_true q0, e1, e2, e3]
    rfl
  · have n1 : 0 ≤ (s * 48271 + 11) % 2147483647 := Int.emod_nonneg _ (by decide)
    have n2 : (s * 48271 + 11) % 2147483647 < 2147483647 := Int.emod_lt_of_pos _ (by decide)
    obtain ⟨t, ht⟩ : ∃ t, (s * 48271 + 11) % 2147483647 = t := ⟨_, rfl⟩
    rw [ht] at n1 n2
    refine ⟨t * t % 2147483629 / 64 % b, plD p t, Int.emod_nonneg _ (by omega), Int.emod_lt_of_pos _ hb, ⟨_, _, rfl, h1, n1, n2⟩, ?_⟩
    · have i0 := atI_lit (xs := [.int p, .int s]) (i := 0) (x := .int p) rfl h
      have i1 := atI_lit (xs := [.int p, .int s]) (i := 1) (x := .int s) rfl h
      have e0 : ∀ W, mulS2 (.int s) (.int 48271) W = .ok (.int (s * 48271)) W := fun W => e_mulL (small_of h2 (by omega))
      have e1 : ∀ W, modD (.int (s * 48271 + 11)) (.int 2147483647) W = .ok (.int t) W := fun W => by rw [e_mod (by decide), ht]
      have e3 := put_lit (xs := [.int p, .int s]) (k := 1) (n := 1) (v := .int t) h rfl
      have e3 : putIx (.cell q) (.int 1) (.int t) W = some (W.set q (plD p t)) := e3
      have i2 := atI_lit (xs := [.int p, .int t]) (i := 1) (x := .int t) rfl (W := W.set q (plD p t)) (set_same h)
      have e4 : ∀ W, mulS2 (.int t) (.int t) W = .ok (.int (t * t)) W := fun W => e_mulL (small_of n1 (by omega))
      have e5 : ∀ W, modD (.int (t * t)) (.int 2147483629) W = .ok (.int (t * t % 2147483629)) W := fun W => e_mod (by decide)
      have e6 : ∀ W, fdivD (.int (t * t % 2147483629)) (.int 64) W = .ok (.int (t * t % 2147483629 / 64)) W := fun W => e_fdiv (by decide) (by decide)
      have e7 : ∀ W, modD (.int (t * t % 2147483629 / 64)) (.int b) W = .ok (.int (t * t % 2147483629 / 64 % b)) W := fun W => e_mod hb
      unfold m__law_take s__law_take
      simp only [mRun, sSeq, sSet, sEx, sRt, sRtN, sIf, sNx, sBk, sCt, sAsg, sPar, mCall, mBin, mUn, mTst, mC, mVar, aNil, aCons, mTup, mLst, mLstC, mDctC, Res.bind, Res.toS, mAndV, mOrV, mAnd, mOr, mNot, mIf, mChain, mProp, mMeth, mMethK, mMakeF, mMakeC, mMakeCK, madeC, Res.calmed, sFldS, sPut, sPut2, sDel, sDelTail, sPropS, mApp, mIndex, mSl, oNone, oSome, mItA, mIt, mIt2, sFor, mLc, lcE, mYes, gNm, gNl, gCn, gTp, setAt, List.map_cons, List.map_nil, List.cons_append, List.nil_append, List.append_nil, List.replicate_succ, List.replicate_zero, List.getElem?_cons_zero, List.getElem?_cons_succ, List.getElem?_nil, List.set_cons_zero, List.set_cons_succ, List.length_cons, List.length_nil, e_sub, e_add, e_lt, e_le, e_gt, e_ge, e_eqI, e_neI, e_not, e_neg, e_idT, e_isN, wipeE, if_true, if_false, Bool.not_true, Bool.not_false, Bool.false_eq_true, Bool.true_eq_false, Option.some.injEq, decide_true, decide_false, sizeLine_eq, Nat.reduceAdd, Nat.reduceLeDiff, i0, i1, decide_eq_false q0, e0, e1, e3, i2, e4, e5, e6, e7]
theorem mv_pool {ns : List Int} {k : Nat} {W : Wo} (hk : k < 64) : ∃ m, PoolOk m ∧ m__law_pool [.scr ns, .int (k : Nat)] W = .ok (.cell W.length) (W ++ [m]) := by
  have key : ∀ c : Int, ∃ m, PoolOk m ∧ (match (sSeq (sSet 3 (mBin modD (mBin mulS2 (mBin addD (mBin addD (mBin modD (mVar 2) (mC (.int 2147483629))) (mBin mulS2 (mC (.int 50021)) (mVar 1))) (mC (.int 13))) (mC (.int 48271))) (mC (.int 2147483647)))) (sRt (mLstC (aCons (mBin mulS2 (mCall absD (aCons (mVar 2) aNil)) (mCall intD (aCons (mBin geI (mCall absD (aCons (mVar 2) aNil)) (mBin powD (mC (.int 10)) (mC (.int 18)))) aNil))) (aCons (mVar 3) aNil))))) [some (.scr ns), some (.int (k : Nat)), some (.int c), none] W with
      | .nx _ W => Res.ok D.non W
      | .rt d W => .ok d W
      | .ex c fs _ W => .ex c fs W
      | _ => .bad) = .ok (.cell W.length) (W ++ [m]) := by
    intro c
    have m1 : modD (.int c) (.int 2147483629) W = .ok (.int (c % 2147483629)) W := e_mod (by decide)
    have b1 : 0 ≤ c % 2147483629 := Int.emod_nonneg _ (by decide)
    have b2 : c % 2147483629 < 2147483629 := Int.emod_lt_of_pos _ (by decide)
    generalize c % 2147483629 = x at *
    have m2 : mulS2 (.int 50021) (.int (k : Nat)) W = .ok (.int (50021 * (k : Nat))) W := e_mulL (by decide)
    have m3 : mulS2 (.int (x + 50021 * (k : Nat) + 13)) (.int 48271) W = .ok (.int ((x + 50021 * (k : Nat) + 13) * 48271)) W := e_mulR (by decide)
    have m4 : modD (.int ((x + 50021 * (k : Nat) + 13) * 48271)) (.int 2147483647) W = .ok (.int ((x + 50021 * (k : Nat) + 13) * 48271 % 2147483647)) W := e_mod (by decide)
    have a1 : absD [.int c] W = .ok (.int (if c < 0 then -c else c)) W := rfl
    have p1 : powD (.int 10) (.int 18) W = .ok (.int (10 ^ 18)) W := rfl
    have i1 : ∀ b : Bool, intD [.bl b] W = .ok (.int (if b then 1 else 0)) W := fun _ => rfl
    have m5 : ∀ b : Bool, mulS2 (.int (if c < 0 then -c else c)) (.int (if b = true then 1 else 0)) W = .ok (.int ((if c < 0 then -c else c) * (if b = true then 1 else 0))) W := fun b => e_mulR (by cases b <;> decide)
    refine ⟨plD ((if c < 0 then -c else c) * (if (decide ((10 : Int) ^ 18 ≤ (if c < 0 then -c else c))) = true then 1 else 0)) ((x + 50021 * (k : Nat) + 13) * 48271 % 2147483647), ⟨_, _, rfl, ?_, Int.emod_nonneg _ (by decide), Int.emod_lt_of_pos _ (by decide)⟩, ?_⟩
    · generalize decide ((10 : Int) ^ 18 ≤ (if c < 0 then -c else c)) = b
      cases b <;> simp <;> split <;> omega
    · simp only [mRun, sSeq, sSet, sEx, sRt, sRtN, sIf, sNx, sBk, sCt, sAsg, sPar, mCall, mBin, mUn, mTst, mC, mVar, aNil, aCons, mTup, mLst, mLstC, mDctC, Res.bind, Res.toS, mAndV, mOrV, mAnd, mOr, mNot, mIf, mChain, mProp, mMeth, mMethK, mMakeF, mMakeC, mMakeCK, madeC, Res.calmed, sFldS, sPut, sPut2, sDel, sDelTail, sPropS, mApp, mIndex, mSl, oNone, oSome, mItA, mIt, mIt2, sFor, mLc, lcE, mYes, gNm, gNl, gCn, gTp, setAt, List.map_cons, List.map_nil, List.cons_append, List.nil_append, List.append_nil, List.replicate_succ, List.replicate_zero, List.getElem?_cons_zero, List.getElem?_cons_succ, List.getElem?_nil, List.set_cons_zero, List.set_cons_succ, List.length_cons, List.length_nil, e_sub, e_add, e_lt, e_le, e_gt, e_ge, e_eqI, e_neI, e_not, e_neg, e_idT, e_isN, wipeE, if_true, if_false, Bool.not_true, Bool.not_false, Bool.false_eq_true, Bool.true_eq_false, Option.some.injEq, decide_true, decide_false, sizeLine_eq, Nat.reduceAdd, Nat.reduceLeDiff, m1, m2, m3, m4, a1, p1, i1, m5]
      rfl
  by_cases h : ns = []
  · subst h
    obtain ⟨m, hm, e⟩ := key 0
    refine ⟨m, hm, ?_⟩
    have e0 : eqD true (.scr []) (.lst []) W = .ok (.bl false) W := rfl
    unfold m__law_pool s__law_pool
    simp only [mRun, sSeq, sSet, sEx, sRt, sRtN, sIf, sNx, sBk, sCt, sAsg, sPar, mCall, mBin, mUn, mTst, mC, mVar, aNil, aCons, mTup, mLst, mLstC, mDctC, Res.bind, Res.toS, mAndV, mOrV, mAnd, mOr, mNot, mIf, mChain, mProp, mMeth, mMethK, mMakeF, mMakeC, mMakeCK, madeC, Res.calmed, sFldS, sPut, sPut2, sDel, sDelTail, sPropS, mApp, mIndex, mSl, oNone, oSome, mItA, mIt, mIt2, sFor, mLc, lcE, mYes, gNm, gNl, gCn, gTp, setAt, List.map_cons, List.map_nil, List.cons_append, List.nil_append, List.append_nil, List.replicate_succ, List.replicate_zero, List.getElem?_cons_zero, List.getElem?_cons_succ, List.getElem?_nil, List.set_cons_zero, List.set_cons_succ, List.length_cons, List.length_nil, e_sub, e_add, e_lt, e_le, e_gt, e_ge, e_eqI, e_neI, e_not, e_neg, e_idT, e_isN, wipeE, if_true, if_false, Bool.not_true, Bool.not_false, Bool.false_eq_true, Bool.true_eq_false, Option.some.injEq, decide_true, decide_false, sizeLine_eq, Nat.reduceAdd, Nat.reduceLeDiff, e0]
    simp only [mRun, sSeq, sSet, sEx, sRt, sRtN, sIf, sNx, sBk, sCt, sAsg, sPar, mCall, mBin, mUn, mTst, mC, mVar, aNil, aCons, mTup, mLst, mLstC, mDctC, Res.bind, Res.toS, mAndV, mOrV, mAnd, mOr, mNot, mIf, mChain, mProp, mMeth, mMethK, mMakeF, mMakeC, mMakeCK, madeC, Res.calmed, sFldS, sPut, sPut2, sDel, sDelTail, sPropS, mApp, mIndex, mSl, oNone, oSome, mItA, mIt, mIt2, sFor, mLc, lcE, mYes, gNm, gNl, gCn, gTp, setAt, List.map_cons, List.map_nil, List.cons_append, List.nil_append, List.append_nil, List.replicate_succ, List.replicate_zero, List.getElem?_cons_zero, List.getElem?_cons_succ, List.getElem?_nil, List.set_cons_zero, List.set_cons_succ, List.length_cons, List.length_nil, e_sub, e_add, e_lt, e_le, e_gt, e_ge, e_eqI, e_neI, e_not, e_neg, e_idT, e_isN, wipeE, if_true, if_false, Bool.not_true, Bool.not_false, Bool.false_eq_true, Bool.true_eq_false, Option.some.injEq, decide_true, decide_false, sizeLine_eq, Nat.reduceAdd, Nat.reduceLeDiff] at e
    exact e
  · have hl : 0 < ns.length := List.length_pos_iff.mpr h
    have hl2 : k % ns.length < ns.length := Nat.mod_lt _ hl
    obtain ⟨m, hm, e⟩ := key (ns[k % ns.length])
    refine ⟨m, hm, ?_⟩
    have cl : ∀ ns : List Int, PyData.canLayAll0 (ns.map PyData.int) = true := fun ns => by
      induction ns with
      | nil => rfl
      | cons x r ih => rw [List.map_cons]; unfold PyData.canLayAll0; rw [ih]; rfl
    have dp : ∀ ns : List Int, PyData.depthAll (ns.map PyData.int) = 0 := fun ns => by
      induction ns with
      | nil => rfl
      | cons x r ih => rw [List.map_cons]; unfold PyData.depthAll; rw [ih]; rfl
    have sh : SeqAt.shaped (.list (ns.map PyData.int)) = true := by
      unfold SeqAt.shaped
      rw [Bool.and_eq_true, decide_eq_true_iff]
      refine ⟨cl ns, ?_⟩
      show PyData.depthAll (ns.map PyData.int) + 1 ≤ 64
      rw [dp]
      decide
    have e0 : eqD true (.scr ns) (.lst []) W = .ok (.bl true) W := by
      rw [e_eqD true (a := .list (ns.map PyData.int)) (b := .list []) rfl rfl sh rfl]
      cases ns with
      | nil => exact absurd rfl h
      | cons => rfl
    have l0 : lenD3 ln_t [.scr ns] W = .ok (.int (ns.length : Nat)) W := by
      show lenD [.scr ns] W = _
      show Res.ok (D.int ((dInts ns).length : Nat)) W = _
      unfold dInts
      rw [List.length_map]
    have m0 : modD (.int (k : Nat)) (.int (ns.length : Nat)) W = .ok (.int ((k % ns.length : Nat) : Int)) W := by
      rw [e_mod (by omega)]
      congr 2
    have x0 : idxD (.scr ns) (.int ((k % ns.length : Nat) : Int)) W = .ok (.int (ns[k % ns.length])) W := by
      show (match atI (dInts ns) ((k % ns.length : Nat) : Int) with
        | some x => Res.ok x W
        | none => .bad) = _
      unfold dInts
      rw [atI_nat (by simpa using hl2), List.getElem?_map, List.getElem?_eq_getElem hl2]
      rfl
    unfold m__law_pool s__law_pool
    simp only [mRun, sSeq, sSet, sEx, sRt, sRtN, sIf, sNx, sBk, sCt, sAsg, sPar, mCall, mBin, mUn, mTst, mC, mVar, aNil, aCons, mTup, mLst, mLstC, mDctC, Res.bind, Res.toS, mAndV, mOrV, mAnd, mOr, mNot, mIf, mChain, mProp, mMeth, mMethK, mMakeF, mMakeC, mMakeCK, madeC, Res.calmed, sFldS, sPut, sPut2, sDel, sDelTail, sPropS, mApp, mIndex, mSl, oNone, oSome, mItA, mIt, mIt2, sFor, mLc, lcE, mYes, gNm, gNl, gCn, gTp, setAt, List.map_cons, List.map_nil, List.cons_append, List.nil_append, List.append_nil, List.replicate_succ, List.replicate_zero, List.getElem?_cons_zero, List.getElem?_cons_succ, List.getElem?_nil, List.set_cons_zero, List.set_cons_succ, List.length_cons, List.length_nil, e_sub, e_add, e_lt, e_le, e_gt, e_ge, e_eqI, e_neI, e_not, e_neg, e_idT, e_isN, wipeE, if_true, if_false, Bool.not_true, Bool.not_false, Bool.false_eq_true, Bool.true_eq_false, Option.some.injEq, decide_true, decide_false, sizeLine_eq, Nat.reduceAdd, Nat.reduceLeDiff, e0, l0, m0, x0]
    simp only [mRun, sSeq, sSet, sEx, sRt, sRtN, sIf, sNx, sBk, sCt, sAsg, sPar, mCall, mBin, mUn, mTst, mC, mVar, aNil, aCons, mTup, mLst, mLstC, mDctC, Res.bind, Res.toS, mAndV, mOrV, mAnd, mOr, mNot, mIf, mChain, mProp, mMeth, mMethK, mMakeF, mMakeC, mMakeCK, madeC, Res.calmed, sFldS, sPut, sPut2, sDel, sDelTail, sPropS, mApp, mIndex, mSl, oNone, oSome, mItA, mIt, mIt2, sFor, mLc, lcE, mYes, gNm, gNl, gCn, gTp, setAt, List.map_cons, List.map_nil, List.cons_append, List.nil_append, List.append_nil, List.replicate_succ, List.replicate_zero, List.getElem?_cons_zero, List.getElem?_cons_succ, List.getElem?_nil, List.set_cons_zero, List.set_cons_succ, List.length_cons, List.length_nil, e_sub, e_add, e_lt, e_le, e_gt, e_ge, e_eqI, e_neI, e_not, e_neg, e_idT, e_isN, wipeE, if_true, if_false, Bool.not_true, Bool.not_false, Bool.false_eq_true, Bool.true_eq_false, Option.some.injEq, decide_true, decide_false, sizeLine_eq, Nat.reduceAdd, Nat.reduceLeDiff] at e
    exact e
end ML
set_option Elab.async false
set_option linter.all false
set_option maxRecDepth 100000
set_option maxHeartbeats 4000000
namespace ML
open PySem PySem.Spec PyProof.Rows L2
/-! ### the text of an int -/
def dg (n : Nat) : List Nat := (Nat.toDigits 10 n).map Char.toNat
abbrev txI (i : Int) : Str := toString i
theorem Str.ext_l {a b : Str} (h : a.cps.toList = b.cps.toList) : a = b := by
  cases a; cases b
  congr
  exact Array.toList_inj.mp h
theorem txI_l (n : Nat) : (txI (n : Nat)).cps.toList = dg n := by
  show (Str.ofString (Nat.repr n)).cps.toList = _
  rw [Str.ofString_eq_toList]
  show (Nat.repr n).toList.map Char.toNat = _
  rw [Nat.toList_repr]
  rfl
theorem txI_neg (n : Nat) (h : 0 < n) : txI (-(n : Int)) = ("-" : Str) ++ txI (n : Nat) := by
  obtain ⟨m, rfl⟩ : ∃ m, n = m + 1 := ⟨n - 1, by omega⟩
  refine Str.ext_l ?_
  show (Str.ofString ("-" ++ Nat.repr (m + 1))).cps.toList = (("-" : Str).cps ++ (Str.ofString (Nat.repr (m + 1))).cps).toList
  rw [Array.toList_append, Str.ofString_eq_toList, Str.ofString_eq_toList, Str.ofString_eq_toList]
  show ("-" ++ Nat.repr (m + 1)).toList.map Char.toNat = ("-".toList.map Char.toNat) ++ ((Nat.repr (m + 1)).toList.map Char.toNat)
  rw [String.toList_append, List.map_append]
theorem dg_small {n : Nat} (h : n < 10) : dg n = [48 + n] := by
  unfold dg
  rw [Nat.toDigits_of_lt_base h]
  have : ∀ k, k < 10 → [Nat.digitChar k].map Char.toNat = [48 + k] := by decide
  exact this n h
theorem dg_step {n : Nat} (h : 10 ≤ n) : dg n = dg (n / 10) ++ [48 + n % 10] := by
  have h1 := dg_small (Nat.mod_lt n (show 10 > 0 by decide))
  unfold dg at *
  rw [Nat.toDigits_of_base_le (by decide) h, List.map_append]
  rw [Nat.toDigits_of_lt_base (Nat.mod_lt n (by decide))] at h1
  rw [← h1]
theorem dg_len : ∀ (k n : Nat), n < 10 ^ (k + 1) → (dg n).length ≤ k + 1
  | 0, n, h => by rw [dg_small (by simpa using h)]; simp
  | k + 1, n, h => by
    by_cases q : n < 10
    · rw [dg_small q]; simp
    · rw [dg_step (by omega), List.length_append]
      have := dg_len k (n / 10) (by rw [Nat.div_lt_iff_lt_mul (by decide)]; rw [Nat.pow_succ] at h; exact h)
      simp only [List.length_singleton]
      omega
theorem txI_len {i : Int} (h : i.natAbs < 10 ^ 30) : (txI i).length ≤ 31 := by
  have key : ∀ n : Nat, n < 10 ^ 30 → (txI (n : Nat)).length ≤ 30 := fun n hn => by
    have e : (txI (n : Nat)).length = (dg n).length := by rw [← txI_l, Array.length_toList]; rfl
    rw [e]
    exact dg_len 29 n hn
  rcases Int.natAbs_eq i with e | e
  · rw [e]
    exact Nat.le_succ_of_le (key _ h)
  · by_cases q : i.natAbs = 0
    · have : i = 0 := by omega
      subst this
      exact Nat.le_succ_of_le (key 0 h)
    · rw [e, txI_neg _ (by omega)]
      have := key _ h
      show (("-" : Str).cps ++ (txI (i.natAbs : Nat)).cps).size ≤ 31
      rw [Array.size_append]
      have h2 : (txI (i.natAbs : Nat)).cps.size ≤ 30 := this
      have h3 : ("-" : Str).cps.size = 1 := by decide
      omega
/-! ### texts' signs -/
def OkS (a : Str) : Prop := ∀ c ∈ a.cps.toList, c < 0x110000
theorem OkS.b {a : Str} (h : OkS a) : PyData.strOk a = true := by
  unfold PyData.strOk
  rw [← Array.all_toList]
  exact List.all_eq_true.mpr fun c hc => decide_eq_true (h c hc)
theorem OkS.app {a b : Str} (h : OkS a) (k : OkS b) : OkS (a ++ b) := fun c hc => by
  have hc : c ∈ (a.cps ++ b.cps).toList := hc
  rw [Array.toList_append] at hc
  exact (List.mem_append.mp hc).elim (h c) (k c)
def stL (l : List Nat) : Str := ⟨l.toArray⟩
theorem okS_of {l : List Nat} (h : ∀ c ∈ l, c < 0x110000) : OkS (stL l) := h
theorem OkS.sh {a : Str} (h : OkS a) : SeqAt.shaped (.str a) = true := by
  unfold SeqAt.shaped PyData.canLay0 PyData.depth
  rw [h.b]
  rfl
theorem dg_ok : ∀ (n : Nat), ∀ c ∈ dg n, 48 ≤ c ∧ c < 58 := by
  intro n
  induction n using Nat.strongRecOn with
  | _ n ih =>
    by_cases q : n < 10
    · rw [dg_small q]
      intro c hc
      rw [List.mem_singleton.mp hc]
      omega
    · rw [dg_step (by omega)]
      intro c hc
      rcases List.mem_append.mp hc with hc | hc
      · exact ih (n / 10) (by omega) c hc
      · rw [List.mem_singleton.mp hc]
        omega
theorem dg_ne (n : Nat) : dg n ≠ [] := by
  unfold dg
  intro z
  exact Nat.toDigits_ne_nil (List.map_eq_nil_iff.mp z)
theorem okS_txI (i : Int) : OkS (txI i) := by
  have key : ∀ n : Nat, OkS (txI (n : Nat)) := fun n c hc => by
    rw [txI_l] at hc
    have := dg_ok n c hc
    omega
  rcases Int.natAbs_eq i with e | e
  · rw [e]; exact key _
  · by_cases q : i.natAbs = 0
    · have : i = 0 := by omega
      subst this
      exact key 0
    · rw [e, txI_neg _ (by omega)]
      exact OkS.app (fun c hc => by
        have : ∀ c ∈ ("-" : Str).cps.toList, c < 0x110000 := by decide
        exact this c hc) (key _)
theorem eq_str {W : Wo} (neg : Bool) {a b : Str} (ha : OkS a) (hb : OkS b) : eqD neg (.str a) (.str b) W = .ok (.bl (if neg then !decide (a = b) else decide (a = b))) W := by
  rw [e_eqD neg (a := .str a) (b := .str b) rfl rfl ha.sh hb.sh]
  have e : PyData.eqv (.str a) (.str b) = decide (a = b) := by
    show (a == b) = _
    by_cases h : a = b
    · subst h; simp
    · rw [beq_eq_false_iff_ne.mpr h, decide_eq_false h]
  rw [e]
/-! ### digit by digit -/
section
variable {W : Wo}
abbrev dTest : MT := mOr (mTst (mBin gtI (mVar 2) (mC (.int 0)))) (mTst (mBin (eqD false) (mVar 1) (mC (.str ""))))
abbrev dBody : MS := sSeq (sSet 1 (mBin addD (mBin idxD (mC (.str "0123456789")) (mBin modD (mVar 2) (mC (.int 10)))) (mVar 1))) (sSet 2 (mBin fdivD (mVar 2) (mC (.int 10))))
theorem dig_at : ∀ k : Nat, k < 10 → atI (("0123456789" : Str).cps.toList) (k : Int) = some (48 + k) := by decide +kernel
theorem dig_ix {k : Nat} (h : k < 10) : idxD (.str "0123456789") (.int (k : Nat)) W = .ok (.str (stL [48 + k])) W := by
  show (if ("0123456789" : Str).length ≤ sizeLine then (match atI (("0123456789" : Str).cps.toList) (k : Int) with
    | some c => Res.ok (D.str ⟨#[c]⟩) W
    | none => .bad) else .bad) = _
  rw [if_pos (by decide), dig_at k h]
  rfl
theorem okS_nil : OkS ("" : Str) := by
  intro c hc
  have : ∀ c ∈ ("" : Str).cps.toList, c < 0x110000 := by decide
  exact this c hc
theorem d_done {l : List Nat} (ho : ∀ c ∈ l, c < 0x110000) (h : l ≠ []) (k : Nat) (x : D) : whN dTest dBody (k + 1) [some x, some (.str (stL l)), some (.int 0)] W = .nx [some x, some (.str (stL l)), some (.int 0)] W := by
  have e1 : ∀ W, eqD false (.str (stL l)) (.str "") W = .ok (.bl false) W := fun W => by
    rw [eq_str false (okS_of ho) okS_nil, decide_eq_false]
    · rfl
    · intro z
      have z := congrArg (fun s : Str => s.cps.toList) z
      exact h (show l.toArray.toList = [] from z)
  unfold whN
  simp only [mRun, sSeq, sSet, sEx, sRt, sRtN, sIf, sNx, sBk, sCt, sAsg, sPar, mCall, mBin, mUn, mTst, mC, mVar, aNil, aCons, mTup, mLst, mLstC, mDctC, Res.bind, Res.toS, mAndV, mOrV, mAnd, mOr, mNot, mIf, mChain, mProp, mMeth, mMethK, mMakeF, mMakeC, mMakeCK, madeC, Res.calmed, sFldS, sPut, sPut2, sDel, sDelTail, sPropS, mApp, mIndex, mSl, oNone, oSome, mItA, mIt, mIt2, sFor, mLc, lcE, mYes, gNm, gNl, gCn, gTp, setAt, List.map_cons, List.map_nil, List.cons_append, List.nil_append, List.append_nil, List.replicate_succ, List.replicate_zero, List.getElem?_cons_zero, List.getElem?_cons_succ, List.getElem?_nil, List.set_cons_zero, List.set_cons_succ, List.length_cons, List.length_nil, e_sub, e_add, e_lt, e_le, e_gt, e_ge, e_eqI, e_neI, e_not, e_neg, e_idT, e_isN, wipeE, if_true, if_false, Bool.not_true, Bool.not_false, Bool.false_eq_true, Bool.true_eq_false, Option.some.injEq, decide_true, decide_false, sizeLine_eq, Nat.reduceAdd, Nat.reduceLeDiff, e1]
  rfl
theorem d_step {l : List Nat} {n : Nat} (hn : 0 < n ∨ l = []) (hl : l.length < 1000) (k : Nat) (x : D) : whN dTest dBody (k + 1) [some x, some (.str (stL l)), some (.int (n : Nat))] W = whN dTest dBody k [some x, some (.str (stL ((48 + n % 10) :: l))), some (.int ((n / 10 : Nat) : Int))] W := by
  have e0 : ∀ W, modD (.int (n : Nat)) (.int 10) W = .ok (.int ((n % 10 : Nat) : Int)) W := fun W => by rw [e_mod (by decide)]; congr 2
  have e1 : ∀ W, idxD (.str "0123456789") (.int ((n % 10 : Nat) : Int)) W = .ok (.str (stL [48 + n % 10])) W := fun W => dig_ix (Nat.mod_lt _ (by decide))
  have e2 : ∀ W, addD (.str (stL [48 + n % 10])) (.str (stL l)) W = .ok (.str (stL ((48 + n % 10) :: l))) W := fun W => by
    show (if (stL [48 + n % 10]).length + (stL l).length ≤ sizeLine then Res.ok (D.str (stL [48 + n % 10] ++ stL l)) W else .bad) = _
    have a : (stL l).length = l.length := by show l.toArray.size = _; simp
    rw [if_pos (by rw [a]; show 1 + l.length ≤ _; rw [sizeLine_eq]; omega)]
    congr 2
    refine Str.ext_l ?_
    show (#[48 + n % 10] ++ l.toArray).toList = ((48 + n % 10) :: l).toArray.toList
    simp
  have e3 : ∀ W, fdivD (.int (n : Nat)) (.int 10) W = .ok (.int ((n / 10 : Nat) : Int)) W := fun W => by rw [e_fdiv (by decide) (by decide)]; congr 2
  have et : dTest [some x, some (.str (stL l)), some (.int (n : Nat))] W = .ok true W := by
    by_cases q : 0 < n
    · have q' : decide ((0 : Int) < (n : Nat)) = true := decide_eq_true (by omega)
      simp only [mRun, sSeq, sSet, sEx, sRt, sRtN, sIf, sNx, sBk, sCt, sAsg, sPar, mCall, mBin, mUn, mTst, mC, mVar, aNil, aCons, mTup, mLst, mLstC, mDctC, Res.bind, Res.toS, mAndV, mOrV, mAnd, mOr, mNot, mIf, mChain, mProp, mMeth, mMethK, mMakeF, mMakeC, mMakeCK, madeC, Res.calmed, sFldS, sPut, sPut2, sDel, sDelTail, sPropS, mApp, mIndex, mSl, oNone, oSome, mItA, mIt, mIt2, sFor, mLc, lcE, mYes, gNm, gNl, gCn, gTp, setAt, List.map_cons, List.map_nil, List.cons_append, List.nil_append, List.append_nil, List.replicate_succ, List.replicate_zero, List.getElem?_cons_zero, List.getElem?_cons_succ, List.getElem?_nil, List.set_cons_zero, List.set_cons_succ, List.length_cons, List.length_nil, e_sub, e_add, e_lt, e_le, e_gt, e_ge, e_eqI, e_neI, e_not, e_neg, e_idT, e_isN, wipeE, if_true, if_false, Bool.not_true, Bool.not_false, Bool.false_eq_true, Bool.true_eq_false, Option.some.injEq, decide_true, decide_false, sizeLine_eq, Nat.reduceAdd, Nat.reduceLeDiff, q']
    · have hl0 : l = [] := hn.resolve_left q
      subst hl0
      have q' : decide ((0 : Int) < (n : Nat)) = false := decide_eq_false (by omega)
      have e4 : ∀ W, eqD false (.str (stL [])) (.str "") W = .ok (.bl true) W := fun W => by
        rw [eq_str false (okS_of (l := []) (by simp)) okS_nil, decide_eq_true]
        · rfl
        · rfl
      simp only [mRun, sSeq, sSet, sEx, sRt, sRtN, sIf, sNx, sBk, sCt, sAsg, sPar, mCall, mBin, mUn, mTst, mC, mVar, aNil, aCons, mTup, mLst, mLstC, mDctC, Res.bind, Res.toS, mAndV, mOrV, mAnd, mOr, mNot, mIf, mChain, mProp, mMeth, mMethK, mMakeF, mMakeC, mMakeCK, madeC, Res.calmed, sFldS, sPut, sPut2, sDel, sDelTail, sPropS, mApp, mIndex, mSl, oNone, oSome, mItA, mIt, mIt2, sFor, mLc, lcE, mYes, gNm, gNl, gCn, gTp, setAt, List.map_cons, List.map_nil, List.cons_append, List.nil_append, List.append_nil, List.replicate_succ, List.replicate_zero, List.getElem?_cons_zero, List.getElem?_cons_succ, List.getElem?_nil, List.set_cons_zero, List.set_cons_succ, List.length_cons, List.length_nil, e_sub, e_add, e_lt, e_le, e_gt, e_ge, e_eqI, e_neI, e_not, e_neg, e_idT, e_isN, wipeE, if_true, if_false, Bool.not_true, Bool.not_false, Bool.false_eq_true, Bool.true_eq_false, Option.some.injEq, decide_true, decide_false, sizeLine_eq, Nat.reduceAdd, Nat.reduceLeDiff, q', e4]
  have eb : dBody [some x, some (.str (stL l)), some (.int (n : Nat))] W = .nx [some x, some (.str (stL ((48 + n % 10) :: l))), some (.int ((n / 10 : Nat) : Int))] W := by
    simp only [mRun, sSeq, sSet, sEx, sRt, sRtN, sIf, sNx, sBk, sCt, sAsg, sPar, mCall, mBin, mUn, mTst, mC, mVar, aNil, aCons, mTup, mLst, mLstC, mDctC, Res.bind, Res.toS, mAndV, mOrV, mAnd, mOr, mNot, mIf, mChain, mProp, mMeth, mMethK, mMakeF, mMakeC, mMakeCK, madeC, Res.calmed, sFldS, sPut, sPut2, sDel, sDelTail, sPropS, mApp, mIndex, mSl, oNone, oSome, mItA, mIt, mIt2, sFor, mLc, lcE, mYes, gNm, gNl, gCn, gTp, setAt, List.map_cons, List.map_nil, List.cons_append, List.nil_append, List.append_nil, List.replicate_succ, List.replicate_zero, List.getElem?_cons_zero, List.getElem?_cons_succ, List.getElem?_nil, List.set_cons_zero, List.set_cons_succ, List.length_cons, List.length_nil, e_sub, e_add, e_lt, e_le, e_gt, e_ge, e_eqI, e_neI, e_not, e_neg, e_idT, e_isN, wipeE, if_true, if_false, Bool.not_true, Bool.not_false, Bool.false_eq_true, Bool.true_eq_false, Option.some.injEq, decide_true, decide_false, sizeLine_eq, Nat.reduceAdd, Nat.reduceLeDiff, e0, e1, e2, e3]
  show (dTest [some x, some (.str (stL l)), some (.int (n : Nat))] W).toS _ (fun k1 W1 => if k1 then (dBody _ W1).turn (whN dTest dBody k) else .nx _ W1) = _
  rw [et]
  show (dBody _ W).turn (whN dTest dBody k) = _
  rw [eb]
  rfl
theorem dcons {l : List Nat} {d : Nat} (ho : ∀ c ∈ l, c < 0x110000) (hd : d < 0x110000) : ∀ c ∈ d :: l, c < 0x110000 := fun c hc => (List.mem_cons.mp hc).elim (fun e => e ▸ hd) (ho c)
theorem d_loop (x : D) : ∀ (j n k : Nat) (l : List Nat), (∀ c ∈ l, c < 0x110000) → n < 10 ^ (j + 1) → (0 < n ∨ l = []) → j + 2 ≤ k → l.length + j < 900 →
    whN dTest dBody k [some x, some (.str (stL l)), some (.int (n : Nat))] W = .nx [some x, some (.str (stL (dg n ++ l))), some (.int 0)] W
  | 0, n, k, l, ho, h, hn, hk, hl => by
    obtain ⟨k, rfl⟩ : ∃ m, k = m + 2 := ⟨k - 2, by omega⟩
    have h : n < 10 := by simpa using h
    have e0 : n / 10 = 0 := by omega
    have e1 : n % 10 = n := by omega
    rw [d_step hn (by omega), e0, e1, dg_small h]
    exact d_done (dcons ho (by omega)) (by simp) k x
  | j + 1, n, k, l, ho, h, hn, hk, hl => by
    obtain ⟨k, rfl⟩ : ∃ m, k = m + 2 := ⟨k - 2, by omega⟩
    rw [d_step hn (by omega)]
    by_cases q : n < 10
    · have e0 : n / 10 = 0 := by omega
      have e1 : n % 10 = n := by omega
      rw [e0, e1, dg_small q]
      exact d_done (dcons ho (by omega)) (by simp) k x
    · rw [d_loop x j (n / 10) (k + 1) _ (dcons ho (by omega)) (by rw [Nat.div_lt_iff_lt_mul (by decide)]; rw [Nat.pow_succ] at h; exact h) (.inl (by omega)) (by omega) (by rw [List.length_cons]; omega)]
      rw [dg_step (n := n) (by omega), List.append_assoc]
      rfl
theorem mv_digits {i : Int} (h : i.natAbs < 10 ^ 30) : m__law_digits [.int i] W = .ok (.str (txI i)) W := by
  have a1 : absD [.int i] W = .ok (.int (i.natAbs : Nat)) W := by
    show Res.ok (D.int (if i < 0 then -i else i)) W = _
    congr 2
    split <;> omega
  have w : sWh dTest dBody [some (.int i), some (.str ""), some (.int (i.natAbs : Nat))] W = .nx [some (.int i), some (.str (stL (dg i.natAbs))), some (.int 0)] W := by
    have e : (("" : Str)) = stL [] := rfl
    unfold sWh
    rw [e, d_loop (.int i) 29 i.natAbs fuel [] (by simp) h (.inr rfl) (by decide) (by simp), List.append_nil]
  have t0 : stL (dg i.natAbs) = txI (i.natAbs : Nat) := Str.ext_l (by rw [txI_l]; simp [stL])
  by_cases q : i < 0
  · have q' : decide (i < 0) = true := decide_eq_true q
    have e2 : ∀ W, addD (.str "-") (.str (stL (dg i.natAbs))) W = .ok (.str (txI i)) W := fun W => by
      have l : (stL (dg i.natAbs)).length ≤ 31 := by rw [t0]; exact txI_len (by omega)
      show (if ("-" : Str).length + (stL (dg i.natAbs)).length ≤ sizeLine then Res.ok (D.str (("-" : Str) ++ stL (dg i.natAbs))) W else .bad) = _
      have h1 : ("-" : Str).length = 1 := by decide
      rw [if_pos (by rw [sizeLine_eq]; omega), t0, ← txI_neg _ (by omega)]
      rw [show -((i.natAbs : Nat) : Int) = i from by omega]
    unfold m__law_digits s__law_digits
    simp only [mRun, sSeq, sSet, sEx, sRt, sRtN, sIf, sNx, sBk, sCt, sAsg, sPar, mCall, mBin, mUn, mTst, mC, mVar, aNil, aCons, mTup, mLst, mLstC, mDctC, Res.bind, Res.toS, mAndV, mOrV, mAnd, mOr, mNot, mIf, mChain, mProp, mMeth, mMethK, mMakeF, mMakeC, mMakeCK, madeC, Res.calmed, sFldS, sPut, sPut2, sDel, sDelTail, sPropS, mApp, mIndex, mSl, oNone, oSome, mItA, mIt, mIt2, sFor, mLc, lcE, mYes, gNm, gNl, gCn, gTp, setAt, List.map_cons, List.map_nil, List.cons_append, List.nil_append, List.append_nil, List.replicate_succ, List.replicate_zero, List.getElem?_cons_zero, List.getElem?_cons_succ, List.getElem?_nil, List.set_cons_zero, List.set_cons_succ, List.length_cons, List.length_nil, e_sub, e_add, e_lt, e_le, e_gt, e_ge, e_eqI, e_neI, e_not, e_neg, e_idT, e_isN, wipeE, if_true, if_false, Bool.not_true, Bool.not_false, Bool.false_eq_true, Bool.true_eq_false, Option.some.injEq, decide_true, decide_false, sizeLine_eq, Nat.reduceAdd, Nat.reduceLeDiff, a1]
    rw [w]
    simp only [mRun, sSeq, sSet, sEx, sRt, sRtN, sIf, sNx, sBk, sCt, sAsg, sPar, mCall, mBin, mUn, mTst, mC, mVar, aNil, aCons, mTup, mLst, mLstC, mDctC, Res.bind, Res.toS, mAndV, mOrV, mAnd, mOr, mNot, mIf, mChain, mProp, mMeth, mMethK, mMakeF, mMakeC, mMakeCK, madeC, Res.calmed, sFldS, sPut, sPut2, sDel, sDelTail, sPropS, mApp, mIndex, mSl, oNone, oSome, mItA, mIt, mIt2, sFor, mLc, lcE, mYes, gNm, gNl, gCn, gTp, setAt, List.map_cons, List.map_nil, List.cons_append, List.nil_append, List.append_nil, List.replicate_succ, List.replicate_zero, List.getElem?_cons_zero, List.getElem?_cons_succ, List.getElem?_nil, List.set_cons_zero, List.set_cons_succ, List.length_cons, List.length_nil, e_sub, e_add, e_lt, e_le, e_gt, e_ge, e_eqI, e_neI, e_not, e_neg, e_idT, e_isN, wipeE, if_true, if_false, Bool.not_true, Bool.not_false, Bool.false_eq_true, Bool.true_eq_false, Option.some.injEq, decide_true, decide_false, sizeLine_eq, Nat.reduceAdd, Nat.reduceLeDiff, q', e2]
  · have q' : decide (i < 0) = false := decide_eq_false q
    have e3 : stL (dg i.natAbs) = txI i := by rw [t0]; congr 1; omega
    unfold m__law_digits s__law_digits
    simp only [mRun, sSeq, sSet, sEx, sRt, sRtN, sIf, sNx, sBk, sCt, sAsg, sPar, mCall, mBin, mUn, mTst, mC, mVar, aNil, aCons, mTup, mLst, mLstC, mDctC, Res.bind, Res.toS, mAndV, mOrV, mAnd, mOr, mNot, mIf, mChain, mProp, mMeth, mMethK, mMakeF, mMakeC, mMakeCK, madeC, Res.calmed, sFldS, sPut, sPut2, sDel, sDelTail, sPropS, mApp, mIndex, mSl, oNone, oSome, mItA, mIt, mIt2, sFor, mLc, lcE, mYes, gNm, gNl, gCn, gTp, setAt, List.map_cons, List.map_nil, List.cons_append, List.nil_append, List.append_nil, List.replicate_succ, List.replicate_zero, List.getElem?_cons_zero, List.getElem?_cons_succ, List.getElem?_nil, List.set_cons_zero, List.set_cons_succ, List.length_cons, List.length_nil, e_sub, e_add, e_lt, e_le, e_gt, e_ge, e_eqI, e_neI, e_not, e_neg, e_idT, e_isN, wipeE, if_true, if_false, Bool.not_true, Bool.not_false, Bool.false_eq_true, Bool.true_eq_false, Option.some.injEq, decide_true, decide_false, sizeLine_eq, Nat.reduceAdd, Nat.reduceLeDiff, a1]
    rw [w]
    simp only [mRun, sSeq, sSet, sEx, sRt, sRtN, sIf, sNx, sBk, sCt, sAsg, sPar, mCall, mBin, mUn, mTst, mC, mVar, aNil, aCons, mTup, mLst, mLstC, mDctC, Res.bind, Res.toS, mAndV, mOrV, mAnd, mOr, mNot, mIf, mChain, mProp, mMeth, mMethK, mMakeF, mMakeC, mMakeCK, madeC, Res.calmed, sFldS, sPut, sPut2, sDel, sDelTail, sPropS, mApp, mIndex, mSl, oNone, oSome, mItA, mIt, mIt2, sFor, mLc, lcE, mYes, gNm, gNl, gCn, gTp, setAt, List.map_cons, List.map_nil, List.cons_append, List.nil_append, List.append_nil, List.replicate_succ, List.replicate_zero, List.getElem?_cons_zero, List.getElem?_cons_succ, List.getElem?_nil, List.set_cons_zero, List.set_cons_succ, List.length_cons, List.length_nil, e_sub, e_add, e_lt, e_le, e_gt, e_ge, e_eqI, e_neI, e_not, e_neg, e_idT, e_isN, wipeE, if_true, if_false, Bool.not_true, Bool.not_false, Bool.false_eq_true, Bool.true_eq_false, Option.some.injEq, decide_true, decide_false, sizeLine_eq, Nat.reduceAdd, Nat.reduceLeDiff, q', e3]
theorem lg_ok {i : Int} (h : i.natAbs < 10 ^ 30) : i.natAbs.log2 < 1920 := by
  by_cases q : i.natAbs = 0
  · rw [q]; decide
  · exact Nat.lt_trans ((Nat.log2_lt q).mpr (Nat.lt_trans h (show (10 : Nat) ^ 30 < 2 ^ 100 by decide))) (by decide)
theorem mv_fmt_int {i : Int} (h : i.natAbs < 10 ^ 30) : m_format_integer [.int i] W = .ok (.str (txI i)) W := by
  have e1 : ∀ W, m_check_integer_1 [.int i] W = .ok .non W := fun _ => rfl
  have e2 : ∀ W, strD [.int i] W = .ok (.str (txI i)) W := fun _ => if_pos (lg_ok h)
  unfold m_format_integer s_format_integer
  simp only [mRun, sSeq, sSet, sEx, sRt, sRtN, sIf, sNx, sBk, sCt, sAsg, sPar, mCall, mBin, mUn, mTst, mC, mVar, aNil, aCons, mTup, mLst, mLstC, mDctC, Res.bind, Res.toS, mAndV, mOrV, mAnd, mOr, mNot, mIf, mChain, mProp, mMeth, mMethK, mMakeF, mMakeC, mMakeCK, madeC, Res.calmed, sFldS, sPut, sPut2, sDel, sDelTail, sPropS, mApp, mIndex, mSl, oNone, oSome, mItA, mIt, mIt2, sFor, mLc, lcE, mYes, gNm, gNl, gCn, gTp, setAt, List.map_cons, List.map_nil, List.cons_append, List.nil_append, List.append_nil, List.replicate_succ, List.replicate_zero, List.getElem?_cons_zero, List.getElem?_cons_succ, List.getElem?_nil, List.set_cons_zero, List.set_cons_succ, List.length_cons, List.length_nil, e_sub, e_add, e_lt, e_le, e_gt, e_ge, e_eqI, e_neI, e_not, e_neg, e_idT, e_isN, wipeE, if_true, if_false, Bool.not_true, Bool.not_false, Bool.false_eq_true, Bool.true_eq_false, Option.some.injEq, decide_true, decide_false, sizeLine_eq, Nat.reduceAdd, Nat.reduceLeDiff, e1, e2]
end
end ML
set_option Elab.async false
set_option linter.all false
set_option maxRecDepth 100000
set_option maxHeartbeats 4000000
namespace ML
open PySem PySem.Spec PyProof.Rows L2
section
variable {W : Wo} {q : Nat} {m : MO}
theorem set_set {W : Wo} {q : Nat} {m m' : MO} : (W.set q m).set q m' = W.set q m' := List.set_set ..
theorem sPar_of {i j : Nat} {r : MA} {δ : Env} {W W' : Wo} {d e : D} (h : r δ W = .ok [d, e] W') : sPar i j r δ W = .nx ((δ.set i (some d)).set j (some e)) W' := by
  unfold sPar
  rw [h]
  rfl
theorem mv_number (h : W[q]? = some m) (hp : PoolOk m) : ∃ i m', i.natAbs < 10 ^ 28 ∧ PoolOk m' ∧ m__law_number [.cell q] W = .ok (.int i) (W.set q m') := by
  obtain ⟨w, m1, w0, w1, p1, e1⟩ := mv_take h hp (b := 5) (by decide) (by decide)
  obtain ⟨g, m2, g0, g1, p2, e2⟩ := mv_take (W := W.set q m1) (set_same h) p1 (b := 2) (by decide) (by decide)
  rw [set_set] at e2
  have hs : ∃ s : Int, s.natAbs = 1 ∧ ∀ W, idxD (.lst [.int 1, .int (-1)]) (.int g) W = .ok (.int s) W := by
    rcases (by omega : g = 0 ∨ g = 1) with rfl | rfl
    · exact ⟨1, rfl, fun _ => rfl⟩
    · exact ⟨-1, rfl, fun _ => rfl⟩
  obtain ⟨s, s1, es⟩ := hs
  have take : ∀ b : Int, 0 < b → b ≤ 1000000000000000000000000000 → ∃ t m3, 0 ≤ t ∧ t < b ∧ PoolOk m3 ∧ m__law_take [.cell q, .int b] (W.set q m2) = .ok (.int t) (W.set q m3) := fun b hb hb2 => by
    obtain ⟨t, m3, t0, t1, p3, e3⟩ := mv_take (W := W.set q m2) (set_same h) p2 hb hb2
    rw [set_set] at e3
    exact ⟨t, m3, t0, t1, p3, e3⟩
  have mul : ∀ t W, mulS2 (.int s) (.int t) W = .ok (.int (s * t)) W := fun t W => e_mulL (by
    rcases Int.natAbs_eq s with e | e <;> rw [e, s1] <;> decide)
  have small : ∀ {t b : Int}, 0 ≤ t → t < b → b ≤ 1000000000000000000000000000 → (s * t).natAbs < 10 ^ 28 := fun {t b} h0 h1 h2 => by
    rw [Int.natAbs_mul, s1, Nat.one_mul]
    omega
  have m12 : ∀ W, powD (.int 10) (.int 12) W = .ok (.int (10 ^ 12)) W := fun _ => rfl
  have m27 : ∀ W, powD (.int 10) (.int 27) W = .ok (.int (10 ^ 27)) W := fun _ => rfl
  have c : w = 0 ∨ w = 1 ∨ w = 2 ∨ w = 3 ∨ w = 4 := by omega
  rcases c with rfl | rfl | rfl | rfl | rfl
  · obtain ⟨t, m3, t0, t1, p3, e3⟩ := take 2 (by decide) (by decide)
    refine ⟨s * t, m3, small t0 t1 (by decide), p3, ?_⟩
    have i0 : ∀ W, idxD (.lst [.int 2, .int 12, .int 1000]) (.int 0) W = .ok (.int 2) W := fun _ => rfl
    have c0 : decide ((0 : Int) < 3) = true := rfl
    unfold m__law_number s__law_number
    simp only [mRun, sSeq, sSet, sEx, sRt, sRtN, sIf, sNx, sBk, sCt, sAsg, sPar, mCall, mBin, mUn, mTst, mC, mVar, aNil, aCons, mTup, mLst, mLstC, mDctC, Res.bind, Res.toS, mAndV, mOrV, mAnd, mOr, mNot, mIf, mChain, mProp, mMeth, mMethK, mMakeF, mMakeC, mMakeCK, madeC, Res.calmed, sFldS, sPut, sPut2, sDel, sDelTail, sPropS, mApp, mIndex, mSl, oNone, oSome, mItA, mIt, mIt2, sFor, mLc, lcE, mYes, gNm, gNl, gCn, gTp, setAt, List.map_cons, List.map_nil, List.cons_append, List.nil_append, List.append_nil, List.replicate_succ, List.replicate_zero, List.getElem?_cons_zero, List.getElem?_cons_succ, List.getElem?_nil, List.set_cons_zero, List.set_cons_succ, List.length_cons, List.length_nil, e_sub, e_add, e_lt, e_le, e_gt, e_ge, e_eqI, e_neI, e_not, e_neg, e_idT, e_isN, wipeE, if_true, if_false, Bool.not_true, Bool.not_false, Bool.false_eq_true, Bool.true_eq_false, Option.some.injEq, decide_true, decide_false, sizeLine_eq, Nat.reduceAdd, Nat.reduceLeDiff, e1, e2, es, i0, e3, mul, c0]
  · obtain ⟨t, m3, t0, t1, p3, e3⟩ := take 12 (by decide) (by decide)
    refine ⟨s * t, m3, small t0 t1 (by decide), p3, ?_⟩
    have i0 : ∀ W, idxD (.lst [.int 2, .int 12, .int 1000]) (.int 1) W = .ok (.int 12) W := fun _ => rfl
    have c0 : decide ((1 : Int) < 3) = true := rfl
    unfold m__law_number s__law_number
    simp only [mRun, sSeq, sSet, sEx, sRt, sRtN, sIf, sNx, sBk, sCt, sAsg, sPar, mCall, mBin, mUn, mTst, mC, mVar, aNil, aCons, mTup, mLst, mLstC, mDctC, Res.bind, Res.toS, mAndV, mOrV, mAnd, mOr, mNot, mIf, mChain, mProp, mMeth, mMethK, mMakeF, mMakeC, mMakeCK, madeC, Res.calmed, sFldS, sPut, sPut2, sDel, sDelTail, sPropS, mApp, mIndex, mSl, oNone, oSome, mItA, mIt, mIt2, sFor, mLc, lcE, mYes, gNm, gNl, gCn, gTp, setAt, List.map_cons, List.map_nil, List.cons_append, List.nil_append, List.append_nil, List.replicate_succ, List.replicate_zero, List.getElem?_cons_zero, List.getElem?_cons_succ, List.getElem?_nil, List.set_cons_zero, List.set_cons_succ, List.length_cons, List.length_nil, e_sub, e_add, e_lt, e_le, e_gt, e_ge, e_eqI, e_neI, e_not, e_neg, e_idT, e_isN, wipeE, if_true, if_false, Bool.not_true, Bool.not_false, Bool.false_eq_true, Bool.true_eq_false, Option.some.injEq, decide_true, decide_false, sizeLine_eq, Nat.reduceAdd, Nat.reduceLeDiff, e1, e2, es, i0, e3, mul, c0]
  · obtain ⟨t, m3, t0, t1, p3, e3⟩ := take 1000 (by decide) (by decide)
    refine ⟨s * t, m3, small t0 t1 (by decide), p3, ?_⟩
    have i0 : ∀ W, idxD (.lst [.int 2, .int 12, .int 1000]) (.int 2) W = .ok (.int 1000) W := fun _ => rfl
    have c0 : decide ((2 : Int) < 3) = true := rfl
    unfold m__law_number s__law_number
    simp only [mRun, sSeq, sSet, sEx, sRt, sRtN, sIf, sNx, sBk, sCt, sAsg, sPar, mCall, mBin, mUn, mTst, mC, mVar, aNil, aCons, mTup, mLst, mLstC, mDctC, Res.bind, Res.toS, mAndV, mOrV, mAnd, mOr, mNot, mIf, mChain, mProp, mMeth, mMethK, mMakeF, mMakeC, mMakeCK, madeC, Res.calmed, sFldS, sPut, sPut2, sDel, sDelTail, sPropS, mApp, mIndex, mSl, oNone, oSome, mItA, mIt, mIt2, sFor, mLc, lcE, mYes, gNm, gNl, gCn, gTp, setAt, List.map_cons, List.map_nil, List.cons_append, List.nil_append, List.append_nil, List.replicate_succ, List.replicate_zero, List.getElem?_cons_zero, List.getElem?_cons_succ, List.getElem?_nil, List.set_cons_zero, List.set_cons_succ, List.length_cons, List.length_nil, e_sub, e_add, e_lt, e_le, e_gt, e_ge, e_eqI, e_neI, e_not, e_neg, e_idT, e_isN, wipeE, if_true, if_false, Bool.not_true, Bool.not_false, Bool.false_eq_true, Bool.true_eq_false, Option.some.injEq, decide_true, decide_false, sizeLine_eq, Nat.reduceAdd, Nat.reduceLeDiff, e1, e2, es, i0, e3, mul, c0]
  · obtain ⟨t, m3, t0, t1, p3, e3⟩ := take (10 ^ 12) (by decide) (by decide)
    refine ⟨s * t, m3, small t0 t1 (by decide), p3, ?_⟩
    have i0 : ∀ W, idxD (.lst [.int (10 ^ 12), .int (10 ^ 27)]) (.int (3 - 3)) W = .ok (.int (10 ^ 12)) W := fun _ => rfl
    have c0 : decide ((3 : Int) < 3) = false := rfl
    unfold m__law_number s__law_number
    simp only [mRun, sSeq, sSet, sEx, sRt, sRtN, sIf, sNx, sBk, sCt, sAsg, sPar, mCall, mBin, mUn, mTst, mC, mVar, aNil, aCons, mTup, mLst, mLstC, mDctC, Res.bind, Res.toS, mAndV, mOrV, mAnd, mOr, mNot, mIf, mChain, mProp, mMeth, mMethK, mMakeF, mMakeC, mMakeCK, madeC, Res.calmed, sFldS, sPut, sPut2, sDel, sDelTail, sPropS, mApp, mIndex, mSl, oNone, oSome, mItA, mIt, mIt2, sFor, mLc, lcE, mYes, gNm, gNl, gCn, gTp, setAt, List.map_cons, List.map_nil, List.cons_append, List.nil_append, List.append_nil, List.replicate_succ, List.replicate_zero, List.getElem?_cons_zero, List.getElem?_cons_succ, List.getElem?_nil, List.set_cons_zero, List.set_cons_succ, List.length_cons, List.length_nil, e_sub, e_add, e_lt, e_le, e_gt, e_ge, e_eqI, e_neI, e_not, e_neg, e_idT, e_isN, wipeE, if_true, if_false, Bool.not_true, Bool.not_false, Bool.false_eq_true, Bool.true_eq_false, Option.some.injEq, decide_true, decide_false, sizeLine_eq, Nat.reduceAdd, Nat.reduceLeDiff, e1, e2, es, m12, m27, i0, e3, mul, c0]
  · obtain ⟨t, m3, t0, t1, p3, e3⟩ := take (10 ^ 27) (by decide) (by decide)
    refine ⟨s * t, m3, small t0 t1 (by decide), p3, ?_⟩
    have i0 : ∀ W, idxD (.lst [.int (10 ^ 12), .int (10 ^ 27)]) (.int (4 - 3)) W = .ok (.int (10 ^ 27)) W := fun _ => rfl
    have c0 : decide ((4 : Int) < 3) = false := rfl
    unfold m__law_number s__law_number
    simp only [mRun, sSeq, sSet, sEx, sRt, sRtN, sIf, sNx, sBk, sCt, sAsg, sPar, mCall, mBin, mUn, mTst, mC, mVar, aNil, aCons, mTup, mLst, mLstC, mDctC, Res.bind, Res.toS, mAndV, mOrV, mAnd, mOr, mNot, mIf, mChain, mProp, mMeth, mMethK, mMakeF, mMakeC, mMakeCK, madeC, Res.calmed, sFldS, sPut, sPut2, sDel, sDelTail, sPropS, mApp, mIndex, mSl, oNone, oSome, mItA, mIt, mIt2, sFor, mLc, lcE, mYes, gNm, gNl, gCn, gTp, setAt, List.map_cons, List.map_nil, List.cons_append, List.nil_append, List.append_nil, List.replicate_succ, List.replicate_zero, List.getElem?_cons_zero, List.getElem?_cons_succ, List.getElem?_nil, List.set_cons_zero, List.set_cons_succ, List.length_cons, List.length_nil, e_sub, e_add, e_lt, e_le, e_gt, e_ge, e_eqI, e_neI, e_not, e_neg, e_idT, e_isN, wipeE, if_true, if_false, Bool.not_true, Bool.not_false, Bool.false_eq_true, Bool.true_eq_false, Option.some.injEq, decide_true, decide_false, sizeLine_eq, Nat.reduceAdd, Nat.reduceLeDiff, e1, e2, es, m12, m27, i0, e3, mul, c0]
/-! ### points -/
def Sm (i : Int) : Prop := i.natAbs < 10 ^ 30
def SmP (p : P2) : Prop := Sm p.1 ∧ Sm p.2
def txP (p : P2) : Str := txI p.1 ++ ("," : Str) ++ txI p.2
theorem mv_point (h : W[q]? = some m) (hp : PoolOk m) : ∃ p m', SmP p ∧ PoolOk m' ∧ m__law_point [.cell q] W = .ok (dP p) (W.set q m') := by
  obtain ⟨i, m1, b1, p1, e1⟩ := mv_number h hp
  obtain ⟨j, m2, b2, p2, e2⟩ := mv_number (W := W.set q m1) (set_same h) p1
  rw [set_set] at e2
  refine ⟨(i, j), m2, ⟨Nat.lt_trans b1 (by decide), Nat.lt_trans b2 (by decide)⟩, p2, ?_⟩
  unfold m__law_point s__law_point
  simp only [mRun, sSeq, sSet, sEx, sRt, sRtN, sIf, sNx, sBk, sCt, sAsg, sPar, mCall, mBin, mUn, mTst, mC, mVar, aNil, aCons, mTup, mLst, mLstC, mDctC, Res.bind, Res.toS, mAndV, mOrV, mAnd, mOr, mNot, mIf, mChain, mProp, mMeth, mMethK, mMakeF, mMakeC, mMakeCK, madeC, Res.calmed, sFldS, sPut, sPut2, sDel, sDelTail, sPropS, mApp, mIndex, mSl, oNone, oSome, mItA, mIt, mIt2, sFor, mLc, lcE, mYes, gNm, gNl, gCn, gTp, setAt, List.map_cons, List.map_nil, List.cons_append, List.nil_append, List.append_nil, List.replicate_succ, List.replicate_zero, List.getElem?_cons_zero, List.getElem?_cons_succ, List.getElem?_nil, List.set_cons_zero, List.set_cons_succ, List.length_cons, List.length_nil, e_sub, e_add, e_lt, e_le, e_gt, e_ge, e_eqI, e_neI, e_not, e_neg, e_idT, e_isN, wipeE, if_true, if_false, Bool.not_true, Bool.not_false, Bool.false_eq_true, Bool.true_eq_false, Option.some.injEq, decide_true, decide_false, sizeLine_eq, Nat.reduceAdd, Nat.reduceLeDiff, e1, e2]
  rfl
theorem comma_len : (("," : Str)).length = 1 := by decide
theorem len_app (a b : Str) : (a ++ b).length = a.length + b.length := by
  show (a.cps ++ b.cps).size = _
  rw [Array.size_append]
  rfl
theorem txP_len {p : P2} (h : SmP p) : (txP p).length ≤ 63 := by
  unfold txP
  rw [len_app, len_app, comma_len]
  have := txI_len h.1
  have := txI_len h.2
  omega
theorem okS_comma : OkS (("," : Str)) := by
  intro c hc
  have : ∀ c ∈ (("," : Str)).cps.toList, c < 0x110000 := by decide
  exact this c hc
theorem okS_txP (p : P2) : OkS (txP p) := ((okS_txI _).app okS_comma).app (okS_txI _)
theorem add_str {a b : Str} (h : a.length + b.length ≤ sizeLine) : addD (.str a) (.str b) W = .ok (.str (a ++ b)) W := if_pos h
theorem mv_pair {p : P2} (h : SmP p) : m__law_pair [dP p] W = .ok (.str (txP p)) W := by
  have e1 : ∀ W, m__law_digits [.int p.1] W = .ok (.str (txI p.1)) W := fun _ => mv_digits h.1
  have e2 : ∀ W, m__law_digits [.int p.2] W = .ok (.str (txI p.2)) W := fun _ => mv_digits h.2
  have l1 := txI_len h.1
  have l2 := txI_len h.2
  have a1 : ∀ W, addD (.str (txI p.1)) (.str ",") W = .ok (.str (txI p.1 ++ ("," : Str))) W := fun _ => add_str (by rw [comma_len, sizeLine_eq]; omega)
  have a2 : ∀ W, addD (.str (txI p.1 ++ ("," : Str))) (.str (txI p.2)) W = .ok (.str (txP p)) W := fun _ => add_str (by rw [len_app, comma_len, sizeLine_eq]; omega)
  have i0 : ∀ W, idxD (dP p) (.int 0) W = .ok (.int p.1) W := fun _ => rfl
  have i1 : ∀ W, idxD (dP p) (.int 1) W = .ok (.int p.2) W := fun _ => rfl
  unfold m__law_pair s__law_pair
  simp only [mRun, sSeq, sSet, sEx, sRt, sRtN, sIf, sNx, sBk, sCt, sAsg, sPar, mCall, mBin, mUn, mTst, mC, mVar, aNil, aCons, mTup, mLst, mLstC, mDctC, Res.bind, Res.toS, mAndV, mOrV, mAnd, mOr, mNot, mIf, mChain, mProp, mMeth, mMethK, mMakeF, mMakeC, mMakeCK, madeC, Res.calmed, sFldS, sPut, sPut2, sDel, sDelTail, sPropS, mApp, mIndex, mSl, oNone, oSome, mItA, mIt, mIt2, sFor, mLc, lcE, mYes, gNm, gNl, gCn, gTp, setAt, List.map_cons, List.map_nil, List.cons_append, List.nil_append, List.append_nil, List.replicate_succ, List.replicate_zero, List.getElem?_cons_zero, List.getElem?_cons_succ, List.getElem?_nil, List.set_cons_zero, List.set_cons_succ, List.length_cons, List.length_nil, e_sub, e_add, e_lt, e_le, e_gt, e_ge, e_eqI, e_neI, e_not, e_neg, e_idT, e_isN, wipeE, if_true, if_false, Bool.not_true, Bool.not_false, Bool.false_eq_true, Bool.true_eq_false, Option.some.injEq, decide_true, decide_false, sizeLine_eq, Nat.reduceAdd, Nat.reduceLeDiff, i0, i1, e1, e2, a1, a2]
theorem empty_app (a : Str) : Str.empty ++ a = a := Str.ext_l (by show (#[] ++ a.cps).toList = _; simp)
theorem mv_fmt_point {p : P2} (h : SmP p) : m_format_point [dP p] W = .ok (.str (txP p)) W := by
  have e0 : ∀ W, m_check_point [dP p] W = .ok .non W := fun _ => rfl
  have l1 := txI_len h.1
  have l2 := txI_len h.2
  have f1 : ∀ W, fmtD (.int p.1) W = .ok (.str (txI p.1)) W := fun _ => if_pos (lg_ok h.1)
  have f2 : ∀ W, fmtD (.int p.2) W = .ok (.str (txI p.2)) W := fun _ => if_pos (lg_ok h.2)
  have i0 : ∀ W, idxD (dP p) (.int 0) W = .ok (.int p.1) W := fun _ => rfl
  have i1 : ∀ W, idxD (dP p) (.int 1) W = .ok (.int p.2) W := fun _ => rfl
  have c1 : (Str.empty ++ txI p.1).length ≤ 16777216 := by rw [empty_app]; omega
  have c2 : (Str.empty ++ txI p.1 ++ ("," : Str)).length ≤ 16777216 := by rw [empty_app, len_app, comma_len]; omega
  have c3 : (Str.empty ++ txI p.1 ++ ("," : Str) ++ txI p.2).length ≤ 16777216 := by rw [empty_app, len_app, len_app, comma_len]; omega
  unfold m_format_point s_format_point
  simp only [mRun, sSeq, sSet, sEx, sRt, sRtN, sIf, sNx, sBk, sCt, sAsg, sPar, mCall, mBin, mUn, mTst, mC, mVar, aNil, aCons, mTup, mLst, mLstC, mDctC, Res.bind, Res.toS, mAndV, mOrV, mAnd, mOr, mNot, mIf, mChain, mProp, mMeth, mMethK, mMakeF, mMakeC, mMakeCK, madeC, Res.calmed, sFldS, sPut, sPut2, sDel, sDelTail, sPropS, mApp, mIndex, mSl, oNone, oSome, mItA, mIt, mIt2, sFor, mLc, lcE, mYes, gNm, gNl, gCn, gTp, setAt, List.map_cons, List.map_nil, List.cons_append, List.nil_append, List.append_nil, List.replicate_succ, List.replicate_zero, List.getElem?_cons_zero, List.getElem?_cons_succ, List.getElem?_nil, List.set_cons_zero, List.set_cons_succ, List.length_cons, List.length_nil, e_sub, e_add, e_lt, e_le, e_gt, e_ge, e_eqI, e_neI, e_not, e_neg, e_idT, e_isN, wipeE, if_true, if_false, Bool.not_true, Bool.not_false, Bool.false_eq_true, Bool.true_eq_false, Option.some.injEq, decide_true, decide_false, sizeLine_eq, Nat.reduceAdd, Nat.reduceLeDiff, i0, i1, e0, f1, f2, mJs, if_pos c1, if_pos c2, if_pos c3]
  rw [empty_app]
  rfl
end
end ML
set_option Elab.async false
set_option linter.all false
set_option maxRecDepth 100000
set_option maxHeartbeats 4000000
namespace ML
open PySem PySem.Spec PyProof.Rows L2
/-! ### texts of lists -/
theorem okS_join {a : Str} (ha : OkS a) : ∀ {ys : List Str}, (∀ y ∈ ys, OkS y) → OkS (Txt.join a ys) := fun {ys} h => by
  have key : ∀ (l : List Str) (acc : Array Nat), (∀ y ∈ l, OkS y) → (∀ c ∈ acc.toList, c < 0x110000) → ∀ c ∈ (l.foldl (fun acc p => acc ++ a.cps ++ p.cps) acc).toList, c < 0x110000 := by
    intro l
    induction l with
    | nil => intro acc _ h; exact h
    | cons y r ih =>
      intro acc hy hc
      rw [List.foldl_cons]
      refine ih _ (fun z hz => hy z (List.mem_cons_of_mem _ hz)) fun c hm => ?_
      rw [Array.toList_append, Array.toList_append] at hm
      rcases List.mem_append.mp hm with hm | hm
      · exact (List.mem_append.mp hm).elim (hc c) (ha c)
      · exact hy y List.mem_cons_self c hm
  cases ys with
  | nil => intro c hc; exact absurd hc (by show c ∉ (#[] : Array Nat).toList; simp)
  | cons y r => exact key r y.cps (fun z hz => h z (List.mem_cons_of_mem _ hz)) (h y List.mem_cons_self)
theorem okS_sp : OkS ((" " : Str)) := by
  intro c hc
  have : ∀ c ∈ ((" " : Str)).cps.toList, c < 0x110000 := by decide
  exact this c hc
theorem sp_len : ((" " : Str)).length = 1 := by decide
theorem sum_le {α : Type} (f : α → Nat) (k : Nat) : ∀ l : List α, (∀ x ∈ l, f x ≤ k) → ((l.map f).sum) ≤ l.length * k
  | [], _ => by simp
  | x :: r, h => by
    have h1 := h x List.mem_cons_self
    have h2 := sum_le f k r fun y hy => h y (List.mem_cons_of_mem _ hy)
    rw [List.map_cons, List.sum_cons, List.length_cons, Nat.add_mul, Nat.one_mul]
    omega
theorem strs_map {α : Type} (f : α → Str) : ∀ l : List α, strsOf (l.map fun x => D.str (f x)) = some (l.map f)
  | [] => rfl
  | x :: r => by
    show (match strsOf (r.map fun x => D.str (f x)) with
      | some l => some (f x :: l)
      | none => none) = _
    rw [strs_map f r]
    rfl
theorem lcL_of {α : Type} {g : GM} {tt : MT} {el : ME} {δ : Env} {W : Wo} (h k : α → D) : ∀ l : List α, (∀ i ∈ l, ∃ δ1, g (h i) δ = some δ1 ∧ tt δ1 W = .ok true W ∧ el δ1 W = .ok (k i) W) → lcL g tt el δ (l.map h) W = .ok (l.map k) W
  | [], _ => rfl
  | i :: r, hh => by
    obtain ⟨δ1, e1, e2, e3⟩ := hh i List.mem_cons_self
    rw [List.map_cons]
    unfold lcL
    simp only [e1, e2, e3]
    rw [lcL_of h k r fun j hj => hh j (List.mem_cons_of_mem _ hj)]
    rfl
theorem mLc_of {mi : MI} {g : GM} {t : MT} {el : ME} {vs : List Nat} {δ : Env} {W W' : Wo} {items : List D} (h : mi δ W = .ok items W') : mLc mi g t el vs δ W = lcE g t el (wipeE δ vs) items W' := by
  unfold mLc
  rw [h]
  rfl
theorem lcE_of {g : GM} {t : MT} {el : ME} {δ : Env} {W W' : Wo} {items ys : List D} (hl : items.length ≤ sizeLine) (h : lcL g t el δ items W = .ok ys W') : lcE g t el δ items W = .ok (.lst ys) W' := by
  unfold lcE
  rw [if_pos hl, h]
/-- sep.join([text of x for x in xs]) -/
theorem join_of {α : Type} {a : Str} {mi : MI} {el : ME} {δ : Env} {W : Wo} {i : Nat} (h : α → D) (k : α → Str) {l : List α} (hm : mi δ W = .ok (l.map h) W) (he : ∀ x ∈ l, el ((wipeE δ [i]).set i (some (h x))) W = .ok (.str (k x)) W) (hl : l.length ≤ 60) (hk : ∀ x ∈ l, (k x).length ≤ 100) (ha : a.length ≤ 10) :
    mJoin a (mLc mi (gNm i) mYes el [i]) δ W = .ok (.str (Txt.join a (l.map k))) W := by
  have e1 : mLc mi (gNm i) mYes el [i] δ W = .ok (.lst (l.map fun x => D.str (k x))) W := by
    rw [mLc_of hm]
    refine lcE_of (by rw [List.length_map, sizeLine_eq]; omega) (lcL_of h _ l fun x hx => ⟨_, rfl, rfl, he x hx⟩)
  unfold mJoin
  rw [e1]
  show (match strsOf (l.map fun x => D.str (k x)) with
    | some ys => if (ys.map (fun y : Str => y.length)).sum + ys.length * a.length ≤ 16777216 then Res.ok (D.str (Txt.join a ys)) W else .bad
    | none => .bad) = _
  rw [strs_map]
  have c : ((l.map k).map (fun y : Str => y.length)).sum + (l.map k).length * a.length ≤ 16777216 := by
    rw [List.map_map, List.length_map]
    have h1 := sum_le (fun x => (k x).length) 100 l hk
    have h2 : l.length * 100 ≤ 60 * 100 := Nat.mul_le_mul_right _ hl
    have h3 : l.length * a.length ≤ 60 * 10 := Nat.mul_le_mul hl ha
    show (l.map fun x => (k x).length).sum + _ ≤ _
    omega
  show (if ((l.map k).map (fun y : Str => y.length)).sum + (l.map k).length * a.length ≤ 16777216 then Res.ok (D.str (Txt.join a (l.map k))) W else .bad) = _
  rw [if_pos c]
section
variable {W : Wo} {d : D} {ps : List P2}
abbrev txL (ps : List P2) : Str := Txt.join " " (ps.map txP)
theorem okS_txL (ps : List P2) : OkS (txL ps) := okS_join okS_sp fun y hy => by
  obtain ⟨p, _, rfl⟩ := List.mem_map.mp hy
  exact okS_txP p
theorem len3_pts (h : PsD d ps) : lenD3 ln_t [d] W = .ok (.int ps.length) W := by
  rcases h with rfl | rfl
  · show Res.ok (D.int ((ps.map dP).length : Nat)) W = _
    rw [List.length_map]
  · show Res.ok (D.int ((ps.map dP).length : Nat)) W = _
    rw [List.length_map]
theorem mv_fmt_points (h : PsD d ps) (h0 : 0 < ps.length) (hl : ps.length ≤ 60) (hs : ∀ p ∈ ps, SmP p) : m_format_points [d] W = .ok (.str (txL ps)) W := by
  have e1 : ∀ W, m_check_points [d] W = .ok .non W := fun _ => mv_check_points h
  have e2 : ∀ W, lenD3 ln_t [d] W = .ok (.int ps.length) W := fun _ => len3_pts h
  have q : decide ((ps.length : Int) = 0) = false := decide_eq_false (by omega)
  have it : mIt (mVar 0) [some d, none] W = .ok (ps.map dP) W := by
    rcases h with rfl | rfl <;> rfl
  have e3 : mJoin " " (mLc (mIt (mVar 0)) (gNm 1) mYes (mCall m_format_point (aCons (mVar 1) aNil)) [1]) [some d, none] W = .ok (.str (txL ps)) W :=
    join_of dP txP it (fun p hp => by
      show (mCall m_format_point (aCons (mVar 1) aNil)) [some d, some (dP p)] W = _
      have e := mv_fmt_point (W := W) (hs p hp)
      simp only [mRun, sSeq, sSet, sEx, sRt, sRtN, sIf, sNx, sBk, sCt, sAsg, sPar, mCall, mBin, mUn, mTst, mC, mVar, aNil, aCons, mTup, mLst, mLstC, mDctC, Res.bind, Res.toS, mAndV, mOrV, mAnd, mOr, mNot, mIf, mChain, mProp, mMeth, mMethK, mMakeF, mMakeC, mMakeCK, madeC, Res.calmed, sFldS, sPut, sPut2, sDel, sDelTail, sPropS, mApp, mIndex, mSl, oNone, oSome, mItA, mIt, mIt2, sFor, mLc, lcE, mYes, gNm, gNl, gCn, gTp, setAt, List.map_cons, List.map_nil, List.cons_append, List.nil_append, List.append_nil, List.replicate_succ, List.replicate_zero, List.getElem?_cons_zero, List.getElem?_cons_succ, List.getElem?_nil, List.set_cons_zero, List.set_cons_succ, List.length_cons, List.length_nil, e_sub, e_add, e_lt, e_le, e_gt, e_ge, e_eqI, e_neI, e_not, e_neg, e_idT, e_isN, wipeE, if_true, if_false, Bool.not_true, Bool.not_false, Bool.false_eq_true, Bool.true_eq_false, Option.some.injEq, decide_true, decide_false, sizeLine_eq, Nat.reduceAdd, Nat.reduceLeDiff, e]) hl (fun p hp => Nat.le_trans (txP_len (hs p hp)) (by decide)) (by rw [sp_len]; decide)
  unfold m_format_points s_format_points
  simp only [mRun, sSeq, sSet, sEx, sRt, sRtN, sIf, sNx, sBk, sCt, sAsg, sPar, mCall, mBin, mUn, mTst, mC, mVar, aNil, aCons, mTup, mLst, mLstC, mDctC, Res.bind, Res.toS, mAndV, mOrV, mAnd, mOr, mNot, mIf, mChain, mProp, mMeth, mMethK, mMakeF, mMakeC, mMakeCK, madeC, Res.calmed, sFldS, sPut, sPut2, sDel, sDelTail, sPropS, mApp, mIndex, mSl, oNone, oSome, mItA, mIt, mIt2, sFor, mLc, lcE, mYes, gNm, gNl, gCn, gTp, setAt, List.map_cons, List.map_nil, List.cons_append, List.nil_append, List.append_nil, List.replicate_succ, List.replicate_zero, List.getElem?_cons_zero, List.getElem?_cons_succ, List.getElem?_nil, List.set_cons_zero, List.set_cons_succ, List.length_cons, List.length_nil, e_sub, e_add, e_lt, e_le, e_gt, e_ge, e_eqI, e_neI, e_not, e_neg, e_idT, e_isN, wipeE, if_true, if_false, Bool.not_true, Bool.not_false, Bool.false_eq_true, Bool.true_eq_false, Option.some.injEq, decide_true, decide_false, sizeLine_eq, Nat.reduceAdd, Nat.reduceLeDiff, e1, e2, q]
  rw [e3]
end
end ML
set_option Elab.async false
set_option linter.all false
set_option maxRecDepth 100000
set_option maxHeartbeats 4000000
namespace ML
open PySem PySem.Spec PyProof.Rows L2
/-! ### a polygon moved along the first axis -/
structure Shape (ps : List P2) : Prop where
  l3 : 3 ≤ ps.length
  l60 : ps.length ≤ 60
  turn : ∀ i, i < ps.length → turnAt ps i ≠ 0
  apart : ∀ i j, i < ps.length → j < ps.length → i + 2 ≤ j → (j + 1) % ps.length ≠ i → apartP (edgeP ps i) (edgeP ps j) = true
theorem Shape.map {ps : List P2} (S : Shape ps) {m : M6} (hd : (detM m).natAbs = 1) : Shape (ps.map (imP m)) := by
  refine ⟨by rw [List.length_map]; exact S.l3, by rw [List.length_map]; exact S.l60, fun i hi => ?_, fun i j hi hj h1 h2 => ?_⟩
  · rw [List.length_map] at hi
    rw [turn_map m hi]
    have := S.turn i hi
    rcases det_two hd with q | q <;> rw [q] <;> omega
  · rw [List.length_map] at hi hj h2
    rw [edge_map m hi, edge_map m hj, apart_map m hd]
    exact S.apart i j hi hj h1 h2
theorem Shape.good {ps : List P2} (S : Shape ps) (h : ∀ p ∈ ps, BP 2000 p) : Good ps := ⟨S.l3, S.l60, h, S.turn, S.apart⟩
def sh (f : Int) : M6 := ⟨1, 0, 0, 1, f, 0⟩
theorem sh_im (f : Int) (p : P2) : imP (sh f) p = (p.1 + f, p.2) := by
  show (1 * p.1 + 0 * p.2 + f, 0 * p.1 + 1 * p.2 + 0) = _
  rw [Int.one_mul, Int.zero_mul, Int.zero_mul, Int.one_mul, Int.add_zero, Int.zero_add, Int.add_zero]
theorem sh_det (f : Int) : detM (sh f) = 1 := rfl
theorem sh_lt (f : Int) (a b : P2) : ltP (imP (sh f) a) (imP (sh f) b) = ltP a b := by
  rw [sh_im, sh_im]
  unfold ltP
  have e1 : decide (a.1 + f < b.1 + f) = decide (a.1 < b.1) := by
    by_cases q : a.1 < b.1
    · rw [decide_eq_true q, decide_eq_true (by omega)]
    · rw [decide_eq_false q, decide_eq_false (by omega)]
  have e2 : decide (a.1 + f = b.1 + f) = decide (a.1 = b.1) := by
    by_cases q : a.1 = b.1
    · rw [decide_eq_true q, decide_eq_true (by omega)]
    · rw [decide_eq_false q, decide_eq_false (by omega)]
  show (decide (a.1 + f < b.1 + f) || (decide (a.1 + f = b.1 + f) && _)) = _
  rw [e1, e2]
theorem sh_inj {f : Int} {a b : P2} (h : imP (sh f) a = imP (sh f) b) : a = b := by
  rw [sh_im, sh_im] at h
  obtain ⟨h1, h2⟩ := Prod.mk.inj h
  exact Prod.ext (by omega) h2
theorem sh_pos (f : Int) (q : P2) : ∀ ps : List P2, posP (imP (sh f) q) (ps.map (imP (sh f))) = posP q ps
  | [] => rfl
  | p :: r => by
    rw [List.map_cons]
    unfold posP
    rw [sh_pos f q r]
    by_cases e : p = q
    · subst e
      simp
    · have e' : ¬ imP (sh f) p = imP (sh f) q := fun z => e (sh_inj z)
      simp [e, e']
theorem sh_rot (f : Int) {ps : List P2} (h : 0 < ps.length) : rotP (ps.map (imP (sh f))) = (rotP ps).map (imP (sh f)) := by
  have e1 : minIx (ps.map (imP (sh f))) = minIx ps := by
    unfold minIx
    rw [List.length_map]
    refine argBest_congr _ fun i j hi hj => ?_
    rw [nth_map _ (by omega), nth_map _ (by omega), sh_lt]
  have e2 : minP (ps.map (imP (sh f))) = imP (sh f) (minP ps) := by
    unfold minP
    rw [e1, nth_map _ (minIx_lt h)]
  unfold rotP
  rw [e2, sh_pos, List.map_append, List.map_drop, List.map_take]
theorem sh_arr (f : Int) {ps : List P2} (h : 0 < ps.length) : arrP (ps.map (imP (sh f))) = (arrP ps).map (imP (sh f)) := by
  unfold arrP
  rw [area_map, sh_det, Int.one_mul]
  split
  · exact sh_rot f h
  · rw [← List.map_reverse, sh_rot f (by simpa using h)]
def bP : List P2 := [(1, 1), (0, 5), (0, 0), (4, 0)]
def cP : List P2 := [(0, 0), (4, 0), (1, 1), (0, 5)]
theorem bP_arr : arrP bP = cP := by decide +kernel
theorem bP_shape : Shape bP := by
  have h : ((decide (3 ≤ bP.length) && decide (bP.length ≤ 60)) && ((List.range bP.length).all (fun i => decide (turnAt bP i ≠ 0)) && (List.range bP.length).all fun i => (List.range bP.length).all fun j => decide (i + 2 ≤ j → (j + 1) % bP.length ≠ i → apartP (edgeP bP i) (edgeP bP j) = true))) = true := by decide +kernel
  simp only [Bool.and_eq_true, decide_eq_true_eq, List.all_eq_true, List.mem_range] at h
  exact ⟨h.1.1, h.1.2, h.2.1, fun i j hi hj h1 h2 => h.2.2 i hi j hj h1 h2⟩
section
variable {W : Wo} {f : Int}
theorem bd_of {i : Int} (h : i.natAbs < 10 ^ 29) : i.natAbs < 2 ^ 2000 := Nat.lt_trans h (by decide +kernel)
theorem far_good (h : f.natAbs < 10 ^ 28) : Good (bP.map (imP (sh f))) := (bP_shape.map (m := sh f) (by rw [sh_det]; rfl)).good fun p hp => by
  obtain ⟨b, hb, rfl⟩ := List.mem_map.mp hp
  rw [sh_im]
  have hb2 : b.1.natAbs ≤ 10 ∧ b.2.natAbs ≤ 10 := by
    have : ∀ b ∈ bP, b.1.natAbs ≤ 10 ∧ b.2.natAbs ≤ 10 := by decide +kernel
    exact this b hb
  exact ⟨bd_of (by show (b.1 + f).natAbs < _; omega), bd_of (by show b.2.natAbs < _; omega)⟩
theorem ptsL_of : ∀ ps : List P2, ptsL (ps.map dP) = some ps
  | [] => rfl
  | p :: r => by
    rw [List.map_cons]
    unfold ptsL
    rw [ptsL_of r]
    rfl
theorem far_make (h : f.natAbs < 10 ^ 28) : F_Polygon [.lst ((bP.map (imP (sh f))).map dP)] = some (.inl [keptD (cP.map (imP (sh f))), reflexD (reflexP (cP.map (imP (sh f))))]) := by
  have e : ptsOf (.lst ((bP.map (imP (sh f))).map dP)) = some (bP.map (imP (sh f))) := ptsL_of _
  unfold F_Polygon
  simp only [e]
  rw [if_pos (good_iff.mpr (far_good h)), sh_arr f (by decide), bP_arr]
def polyD (ps : List P2) (r : Option Nat) : D := .obj .Polygon [keptD ps, reflexD r]
theorem mv_fmt_poly {ps : List P2} {r : Option Nat} (h0 : 0 < ps.length) (hl : ps.length ≤ 60) (hs : ∀ p ∈ ps, SmP p) : m_format_polygon [polyD ps r] W = .ok (.str (txL ps)) W := by
  have e1 : ∀ W, m_check_polygon [polyD ps r] W = .ok .non W := fun _ => rfl
  have e2 : ∀ W, mProp pr_corners (mVar 0) [some (polyD ps r)] W = .ok (keptD ps) W := fun _ => rfl
  have e3 : ∀ W, m_format_points [keptD ps] W = .ok (.str (txL ps)) W := fun _ => mv_fmt_points (.inr rfl) h0 hl hs
  unfold m_format_polygon s_format_polygon
  exact mRun_rt (δ0 := [some (polyD ps r)]) rfl ((sSeq_of (δ1 := [some (polyD ps r)]) (W' := W) (sEx_of ((mCall_of (ds := [polyD ps r]) rfl).trans (e1 W)))).trans (sRt_of ((mCall_of (aCons_of (e2 W) rfl)).trans (e3 W))))
/-! ### a map -/
def sixD (xs : List Int) : D := .obj .GridMap [.tup (xs.map D.int)]
theorem br_len : (("[" : Str)).length = 1 ∧ (("]" : Str)).length = 1 := by decide
abbrev txM (xs : List Int) : Str := ("[" : Str) ++ Txt.join " " (xs.map txI) ++ ("]" : Str)
theorem join_len {xs : List Int} (hl : xs.length ≤ 60) (hs : ∀ x ∈ xs, Sm x) : (Txt.join " " (xs.map txI)).length ≤ 6000 := by
  show (Builtin.Str.glued " " (xs.map txI)).length ≤ 6000
  rw [size_glued, List.map_map, List.length_map, sp_len]
  have h1 := sum_le (fun x => (txI x).length) 31 xs fun x hx => txI_len (hs x hx)
  have h2 : xs.length * 31 ≤ 60 * 31 := Nat.mul_le_mul_right _ hl
  show (xs.map fun x => (txI x).length).sum + _ ≤ _
  omega
theorem join_ints {mi : MI} {el : ME} {δ : Env} {i : Nat} {xs : List Int} (hm : mi δ W = .ok (xs.map D.int) W) (he : ∀ x ∈ xs, el ((wipeE δ [i]).set i (some (.int x))) W = .ok (.str (txI x)) W) (hl : xs.length ≤ 60) (hs : ∀ x ∈ xs, Sm x) :
    mBin addD (mBin addD (mC (.str "[")) (mJoin " " (mLc mi (gNm i) mYes el [i]))) (mC (.str "]")) δ W = .ok (.str (txM xs)) W := by
  have e := join_of (a := " ") D.int txI hm he hl (fun x hx => Nat.le_trans (txI_len (hs x hx)) (by decide)) (by rw [sp_len]; decide)
  have l := join_len hl hs
  refine (mBin_of ((mBin_of rfl e).trans (add_str (by rw [br_len.1, sizeLine_eq]; omega))) rfl).trans (add_str ?_)
  rw [len_app, br_len.1, br_len.2, sizeLine_eq]
  omega
theorem mv_fmt_map {xs : List Int} (hl : xs.length ≤ 60) (hs : ∀ x ∈ xs, Sm x) : m_format_map [sixD xs] W = .ok (.str (txM xs)) W := by
  have e1 : ∀ W, m_check_map [sixD xs] W = .ok .non W := fun _ => rfl
  have e2 : mIt (mProp pr_numbers (mVar 0)) [some (sixD xs), none] W = .ok (xs.map D.int) W := rfl
  have e3 := join_ints (W := W) (δ := [some (sixD xs), none]) (i := 1) (el := mCall strD (aCons (mVar 1) aNil)) e2 (fun x hx => by
    show strD [.int x] W = _
    exact if_pos (lg_ok (hs x hx))) hl hs
  unfold m_format_map s_format_map
  exact mRun_rt (δ0 := [some (sixD xs), none]) rfl ((sSeq_of (δ1 := [some (sixD xs), none]) (W' := W) (sEx_of ((mCall_of (ds := [sixD xs]) rfl).trans (e1 W)))).trans (sRt_of e3))
end
end ML
set_option Elab.async false
set_option linter.all false
set_option maxRecDepth 100000
set_option maxHeartbeats 4000000
namespace ML
open PySem PySem.Spec PyProof.Rows L2
/-! ### what is refused -/
abbrev tb : MO := .tab "_law_refused" "_law_refused.<locals>.<lambda>"
abbrev lm (m : ME) : ME := mLam 0 "_law_refused" "_law_refused.<locals>.<lambda>" 2 ks__law_error true m
section
variable {W : Wo} {δ : Env} {m : ME}
theorem lm_of {c : Cl} {fs : List D} {d : D} (h0 : W[0]? = some tb) (he : m δ W = .ex c fs W) (hp : lamEnd (pick ks__law_error c fs [none, none] W) = .ok d W) : lm m δ W = .ok d W := by
  show (match W[0]? with
    | some (.tab x' q') => if x' = "_law_refused" ∧ q' = "_law_refused.<locals>.<lambda>" then (match m δ W with
      | .ok d W1 => Res.ok (if true then d else .non) W1
      | .ex c fs W1 => lamEnd (pick ks__law_error c fs (List.replicate 2 none) W1)
      | .bad => .bad) else .bad
    | _ => .bad) = _
  rw [h0]
  show (if ("_law_refused" : Str) = "_law_refused" ∧ ("_law_refused.<locals>.<lambda>" : Str) = "_law_refused.<locals>.<lambda>" then (match m δ W with
      | .ok d W1 => Res.ok (if true then d else .non) W1
      | .ex c fs W1 => lamEnd (pick ks__law_error c fs (List.replicate 2 none) W1)
      | .bad => .bad) else .bad) = _
  rw [if_pos ⟨rfl, rfl⟩, he]
  exact hp
theorem k_int : lamEnd (pick ks__law_error .InvalidInteger [] [none, none] W) = .ok (.str "integer") W := rfl
theorem k_point : lamEnd (pick ks__law_error .InvalidPoint [] [none, none] W) = .ok (.str "point") W := rfl
theorem k_map : lamEnd (pick ks__law_error .InvalidMap [] [none, none] W) = .ok (.str "map") W := rfl
theorem k_poly (x : D) : lamEnd (pick ks__law_error .InvalidPolygon [x] [none, none] W) = .ok (.lst [.str "polygon", x]) W := rfl
def Bad (d : D) (W : Wo) : Prop := d = .non ∨ d = .str "1" ∨ d = .lst [.int 1] ∨ d = .str "abc" ∨ ∃ j, d = .cell j ∧ W[j]? = some (.dct [])
theorem Bad.more {d : D} (h : Bad d W) (l : Wo) : Bad d (W ++ l) := by
  rcases h with h | h | h | h | ⟨j, h, e⟩
  · exact .inl h
  · exact .inr (.inl h)
  · exact .inr (.inr (.inl h))
  · exact .inr (.inr (.inr (.inl h)))
  · exact .inr (.inr (.inr (.inr ⟨j, h, by rw [List.getElem?_append_left (List.getElem?_eq_some_iff.mp e).1]; exact e⟩)))
theorem Bad.isi {d : D} (h : Bad d W) {g : TyK → Option Bool} (h1 : g (.b .none) = some false) (h2 : g (.b .str) = some false) (h3 : g (.b .list) = some false) (h4 : g (.b .dict) = some false) : isiD g d W = .ok (.bl false) W := by
  rcases h with rfl | rfl | rfl | rfl | ⟨j, rfl, e⟩
  · unfold isiD tyOf; simp only [h1]
  · unfold isiD tyOf; simp only [h2]
  · unfold isiD tyOf; simp only [h3]
  · unfold isiD tyOf; simp only [h2]
  · unfold isiD tyOf; simp only [e, h4]
theorem Bad.int {d : D} (h : Bad d W) : m_format_integer [d] W = .ex .InvalidInteger [] W := by
  have e := h.isi (g := g_int) rfl rfl rfl rfl
  unfold m_format_integer s_format_integer m_check_integer_1 m_check_integer s_check_integer m_is_integer s_is_integer
  simp only [mRun, sSeq, sSet, sEx, sRt, sRtN, sIf, sNx, sBk, sCt, sAsg, sPar, mCall, mBin, mUn, mTst, mC, mVar, aNil, aCons, mTup, mLst, mLstC, mDctC, Res.bind, Res.toS, mAndV, mOrV, mAnd, mOr, mNot, mIf, mChain, mProp, mMeth, mMethK, mMakeF, mMakeC, mMakeCK, madeC, Res.calmed, sFldS, sPut, sPut2, sDel, sDelTail, sPropS, mApp, mIndex, mSl, oNone, oSome, mItA, mIt, mIt2, sFor, mLc, lcE, mYes, gNm, gNl, gCn, gTp, setAt, List.map_cons, List.map_nil, List.cons_append, List.nil_append, List.append_nil, List.replicate_succ, List.replicate_zero, List.getElem?_cons_zero, List.getElem?_cons_succ, List.getElem?_nil, List.set_cons_zero, List.set_cons_succ, List.length_cons, List.length_nil, e_sub, e_add, e_lt, e_le, e_gt, e_ge, e_eqI, e_neI, e_not, e_neg, e_idT, e_isN, wipeE, if_true, if_false, Bool.not_true, Bool.not_false, Bool.false_eq_true, Bool.true_eq_false, Option.some.injEq, decide_true, decide_false, sizeLine_eq, Nat.reduceAdd, Nat.reduceLeDiff, e, sRaise]
theorem Bad.point {d : D} (h : Bad d W) : m_format_point [d] W = .ex .InvalidPoint [] W := by
  have e := h.isi (g := g_tuple) rfl rfl rfl rfl
  unfold m_format_point s_format_point m_check_point s_check_point m_is_point s_is_point
  simp only [mRun, sSeq, sSet, sEx, sRt, sRtN, sIf, sNx, sBk, sCt, sAsg, sPar, mCall, mBin, mUn, mTst, mC, mVar, aNil, aCons, mTup, mLst, mLstC, mDctC, Res.bind, Res.toS, mAndV, mOrV, mAnd, mOr, mNot, mIf, mChain, mProp, mMeth, mMethK, mMakeF, mMakeC, mMakeCK, madeC, Res.calmed, sFldS, sPut, sPut2, sDel, sDelTail, sPropS, mApp, mIndex, mSl, oNone, oSome, mItA, mIt, mIt2, sFor, mLc, lcE, mYes, gNm, gNl, gCn, gTp, setAt, List.map_cons, List.map_nil, List.cons_append, List.nil_append, List.append_nil, List.replicate_succ, List.replicate_zero, List.getElem?_cons_zero, List.getElem?_cons_succ, List.getElem?_nil, List.set_cons_zero, List.set_cons_succ, List.length_cons, List.length_nil, e_sub, e_add, e_lt, e_le, e_gt, e_ge, e_eqI, e_neI, e_not, e_neg, e_idT, e_isN, wipeE, if_true, if_false, Bool.not_true, Bool.not_false, Bool.false_eq_true, Bool.true_eq_false, Option.some.injEq, decide_true, decide_false, sizeLine_eq, Nat.reduceAdd, Nat.reduceLeDiff, e, sRaise]
theorem Bad.poly {d : D} (h : Bad d W) : m_format_polygon [d] W = .ex .InvalidPolygon [.non] W := by
  have e := h.isi (g := g_Polygon) rfl rfl rfl rfl
  unfold m_format_polygon s_format_polygon m_check_polygon s_check_polygon
  simp only [mRun, sSeq, sSet, sEx, sRt, sRtN, sIf, sNx, sBk, sCt, sAsg, sPar, mCall, mBin, mUn, mTst, mC, mVar, aNil, aCons, mTup, mLst, mLstC, mDctC, Res.bind, Res.toS, mAndV, mOrV, mAnd, mOr, mNot, mIf, mChain, mProp, mMeth, mMethK, mMakeF, mMakeC, mMakeCK, madeC, Res.calmed, sFldS, sPut, sPut2, sDel, sDelTail, sPropS, mApp, mIndex, mSl, oNone, oSome, mItA, mIt, mIt2, sFor, mLc, lcE, mYes, gNm, gNl, gCn, gTp, setAt, List.map_cons, List.map_nil, List.cons_append, List.nil_append, List.append_nil, List.replicate_succ, List.replicate_zero, List.getElem?_cons_zero, List.getElem?_cons_succ, List.getElem?_nil, List.set_cons_zero, List.set_cons_succ, List.length_cons, List.length_nil, e_sub, e_add, e_lt, e_le, e_gt, e_ge, e_eqI, e_neI, e_not, e_neg, e_idT, e_isN, wipeE, if_true, if_false, Bool.not_true, Bool.not_false, Bool.false_eq_true, Bool.true_eq_false, Option.some.injEq, decide_true, decide_false, sizeLine_eq, Nat.reduceAdd, Nat.reduceLeDiff, e, sRaiseI]
  rfl
theorem Bad.map {d : D} (h : Bad d W) : m_format_map [d] W = .ex .InvalidMap [] W := by
  have e := h.isi (g := g_GridMap) rfl rfl rfl rfl
  unfold m_format_map s_format_map m_check_map s_check_map
  simp only [mRun, sSeq, sSet, sEx, sRt, sRtN, sIf, sNx, sBk, sCt, sAsg, sPar, mCall, mBin, mUn, mTst, mC, mVar, aNil, aCons, mTup, mLst, mLstC, mDctC, Res.bind, Res.toS, mAndV, mOrV, mAnd, mOr, mNot, mIf, mChain, mProp, mMeth, mMethK, mMakeF, mMakeC, mMakeCK, madeC, Res.calmed, sFldS, sPut, sPut2, sDel, sDelTail, sPropS, mApp, mIndex, mSl, oNone, oSome, mItA, mIt, mIt2, sFor, mLc, lcE, mYes, gNm, gNl, gCn, gTp, setAt, List.map_cons, List.map_nil, List.cons_append, List.nil_append, List.append_nil, List.replicate_succ, List.replicate_zero, List.getElem?_cons_zero, List.getElem?_cons_succ, List.getElem?_nil, List.set_cons_zero, List.set_cons_succ, List.length_cons, List.length_nil, e_sub, e_add, e_lt, e_le, e_gt, e_ge, e_eqI, e_neI, e_not, e_neg, e_idT, e_isN, wipeE, if_true, if_false, Bool.not_true, Bool.not_false, Bool.false_eq_true, Bool.true_eq_false, Option.some.injEq, decide_true, decide_false, sizeLine_eq, Nat.reduceAdd, Nat.reduceLeDiff, e, sRaise]
theorem app_mid {r : Wo} {mo me : ME} {xs : List D} {d : D} (ho : mo δ (W ++ MO.lst xs :: r) = .ok (.cell W.length) (W ++ MO.lst xs :: r)) (he : me δ (W ++ MO.lst xs :: r) = .ok d (W ++ MO.lst xs :: r)) (hl : xs.length < 1000) : mApp mo me δ (W ++ MO.lst xs :: r) = .ok .non (W ++ MO.lst (xs ++ [d]) :: r) := by
  have g : (W ++ MO.lst xs :: r)[W.length]? = some (.lst xs) := by simp
  unfold mApp
  rw [ho]
  show (match (W ++ MO.lst xs :: r)[W.length]? with
    | some (.lst _) => (me δ (W ++ MO.lst xs :: r)).bind fun v W2 => appD (.cell W.length) v W2
    | _ => .bad) = _
  rw [g]
  show ((me δ (W ++ MO.lst xs :: r)).bind fun v W2 => appD (.cell W.length) v W2) = _
  rw [he]
  show appD (.cell W.length) d (W ++ MO.lst xs :: r) = _
  unfold appD
  simp only [g]
  have s : (W ++ MO.lst xs :: r).set W.length (.lst (xs ++ [d])) = W ++ MO.lst (xs ++ [d]) :: r := by simp
  rw [s, if_pos (by rw [sizeLine_eq]; omega)]
theorem eq_found {r : Wo} {xs ys : List D} {a b : List PyData} (neg : Bool) (h1 : pdsOf xs = some a) (h2 : pdsOf ys = some b) (h3 : SeqAt.shaped (.list a) = true) (h4 : SeqAt.shaped (.list b) = true) : eqD neg (.cell W.length) (.lst ys) (W ++ MO.lst xs :: r) = .ok (.bl (if neg then !PyData.eqv (.list a) (.list b) else PyData.eqv (.list a) (.list b))) (W ++ MO.lst xs :: r) := by
  refine e_eqD neg (a := .list a) (b := .list b) ?_ ?_ h3 h4
  · unfold pdW
    have g : (W ++ MO.lst xs :: r)[W.length]? = some (.lst xs) := by simp
    simp only [g, h1]
  · show pdOf (.lst ys) = _
    unfold pdOf
    simp only [h2]
/-! ### the whole -/
abbrev rowD : List D := [.tup [.int 1, .int 2], .tup [.int 3, .int 4], .tup [.int 5, .int 6]]
abbrev oddD : List D := [.non, .tup [.int 1], .lst [.int 1, .int 2], .tup [.bl true, .int 0], .str "1,2"]
def someD (k : Nat) (o : D) : List D := rowD.take k ++ [o, .non] ++ rowD.drop k
theorem some_bad : ∀ k, k < 4 → ∀ r, r < 5 → ∀ W, m_format_points [.lst (someD k (oddD.getD r .non))] W = .ex .InvalidPolygon [.int k] W ∧ m_format_points [.tup (someD k (oddD.getD r .non))] W = .ex .InvalidPolygon [.int k] W := by
  intro k hk r hr W
  match k, r, hk, hr with
  | 0, 0, _, _ => exact ⟨rfl, rfl⟩
  | 0, 1, _, _ => exact ⟨rfl, rfl⟩
  | 0, 2, _, _ => exact ⟨rfl, rfl⟩
  | 0, 3, _, _ => exact ⟨rfl, rfl⟩
  | 0, 4, _, _ => exact ⟨rfl, rfl⟩
  | 1, 0, _, _ => exact ⟨rfl, rfl⟩
  | 1, 1, _, _ => exact ⟨rfl, rfl⟩
  | 1, 2, _, _ => exact ⟨rfl, rfl⟩
  | 1, 3, _, _ => exact ⟨rfl, rfl⟩
  | 1, 4, _, _ => exact ⟨rfl, rfl⟩
  | 2, 0, _, _ => exact ⟨rfl, rfl⟩
  | 2, 1, _, _ => exact ⟨rfl, rfl⟩
  | 2, 2, _, _ => exact ⟨rfl, rfl⟩
  | 2, 3, _, _ => exact ⟨rfl, rfl⟩
  | 2, 4, _, _ => exact ⟨rfl, rfl⟩
  | 3, 0, _, _ => exact ⟨rfl, rfl⟩
  | 3, 1, _, _ => exact ⟨rfl, rfl⟩
  | 3, 2, _, _ => exact ⟨rfl, rfl⟩
  | 3, 3, _, _ => exact ⟨rfl, rfl⟩
  | 3, 4, _, _ => exact ⟨rfl, rfl⟩
theorem none_bad {d : D} (h : d = .lst [] ∨ d = .tup [] ∨ d = .non ∨ d = .str "1,2" ∨ d = .int 5 ∨ ∃ j, d = .cell j ∧ W[j]? = some (.dct [])) : m_format_points [d] W = .ex .InvalidPolygon [.non] W := by
  rcases h with rfl | rfl | rfl | rfl | rfl | ⟨j, rfl, e⟩
  · rfl
  · rfl
  · rfl
  · rfl
  · rfl
  · have e2 : isiD (gAny [g_list, g_tuple]) (.cell j) W = .ok (.bl false) W := by
      unfold isiD tyOf
      simp only [e]
      rfl
    unfold m_format_points s_format_points m_check_points s_check_points
    simp only [mRun, sSeq, sSet, sEx, sRt, sRtN, sIf, sNx, sBk, sCt, sAsg, sPar, mCall, mBin, mUn, mTst, mC, mVar, aNil, aCons, mTup, mLst, mLstC, mDctC, Res.bind, Res.toS, mAndV, mOrV, mAnd, mOr, mNot, mIf, mChain, mProp, mMeth, mMethK, mMakeF, mMakeC, mMakeCK, madeC, Res.calmed, sFldS, sPut, sPut2, sDel, sDelTail, sPropS, mApp, mIndex, mSl, oNone, oSome, mItA, mIt, mIt2, sFor, mLc, lcE, mYes, gNm, gNl, gCn, gTp, setAt, List.map_cons, List.map_nil, List.cons_append, List.nil_append, List.append_nil, List.replicate_succ, List.replicate_zero, List.getElem?_cons_zero, List.getElem?_cons_succ, List.getElem?_nil, List.set_cons_zero, List.set_cons_succ, List.length_cons, List.length_nil, e_sub, e_add, e_lt, e_le, e_gt, e_ge, e_eqI, e_neI, e_not, e_neg, e_idT, e_isN, wipeE, if_true, if_false, Bool.not_true, Bool.not_false, Bool.false_eq_true, Bool.true_eq_false, Option.some.injEq, decide_true, decide_false, sizeLine_eq, Nat.reduceAdd, Nat.reduceLeDiff, e2, sRaiseI]
    rfl
end
end ML
set_option Elab.async false
set_option linter.all false
set_option maxRecDepth 100000
set_option maxHeartbeats 4000000
namespace ML
open PySem PySem.Spec PyProof.Rows L2
section
variable {W : Wo} {q : Nat} {m : MO}
theorem get_app {l : Wo} {i : Nat} {x : MO} (h : W[i]? = some x) : (W ++ l)[i]? = some x := by
  rw [List.getElem?_append_left (List.getElem?_eq_some_iff.mp h).1]
  exact h
theorem get_ne {i j : Nat} {x y : MO} (h : W[i]? = some x) (n : j ≠ i) : (W.set j y)[i]? = some x := by
  rw [List.getElem?_set_ne n]
  exact h
theorem get_last {x : MO} : (W ++ [x])[W.length]? = some x := by simp
theorem cons2 {a b : ME} {δ : Env} {x y : D} (h1 : a δ W = .ok x W) (h2 : b δ W = .ok y W) : mLstC (aCons a (aCons b aNil)) δ W = .ok (.cell W.length) (W ++ [.lst [x, y]]) := by
  unfold mLstC
  rw [aCons_of h1 (aCons_of h2 rfl)]
  rfl
theorem mLst_of {r : MA} {δ : Env} {ds : List D} {W W' : Wo} (h : r δ W = .ok ds W') (l : ds.length ≤ 1000) : mLst r δ W = .ok (.lst ds) W' := by
  unfold mLst
  rw [h]
  exact if_pos (by rw [sizeLine_eq]; omega)
abbrev badL (j : Nat) : List D := [.non, .str "1", .lst [.int 1], .cell j, .str "abc"]
abbrev F1 : List D := [.str "integer", .str "integer", .str "point", .str "point", .lst [.str "polygon", .non], .str "map"]
abbrev nines (n : Nat) (k : D) : List D := .lst [.str "polygon", k] :: .lst [.str "polygon", k] :: List.replicate n (.lst [.str "polygon", .non])
theorem tail_loop {V : Wo} (h0 : V[0]? = some tb) (x0 x1 x3 x4 x5 : Option D) (k : D) :
    forL (gNm 6) (sEx (mApp (mVar 2) (lm (mCall m_format_points (aCons (mVar 6) aNil))))) [.lst [], .tup [], .non, .str "1,2", .cell (V.length + 1), .int 5] [x0, x1, some (.cell V.length), x3, x4, x5, none] (V ++ [MO.lst (nines 0 k), MO.dct []]) =
      .nx [x0, x1, some (.cell V.length), x3, x4, x5, some (.int 5)] (V ++ [MO.lst (nines 6 k), MO.dct []]) := by
  have step : ∀ (d : D) (xs : List D) (r : List D) (y : Option D), xs.length < 1000 → (d = .lst [] ∨ d = .tup [] ∨ d = .non ∨ d = .str "1,2" ∨ d = .int 5 ∨ d = .cell (V.length + 1)) →
      forL (gNm 6) (sEx (mApp (mVar 2) (lm (mCall m_format_points (aCons (mVar 6) aNil))))) (d :: r) [x0, x1, some (.cell V.length), x3, x4, x5, y] (V ++ [MO.lst xs, MO.dct []]) = forL (gNm 6) (sEx (mApp (mVar 2) (lm (mCall m_format_points (aCons (mVar 6) aNil))))) r [x0, x1, some (.cell V.length), x3, x4, x5, some d] (V ++ [MO.lst (xs ++ [.lst [.str "polygon", .non]]), MO.dct []]) := by
    intro d xs r y hl hd
    have hb : m_format_points [d] (V ++ [MO.lst xs, MO.dct []]) = .ex .InvalidPolygon [.non] (V ++ [MO.lst xs, MO.dct []]) := none_bad (by
      rcases hd with h | h | h | h | h | h
      · exact .inl h
      · exact .inr (.inl h)
      · exact .inr (.inr (.inl h))
      · exact .inr (.inr (.inr (.inl h)))
      · exact .inr (.inr (.inr (.inr (.inl h))))
      · exact .inr (.inr (.inr (.inr (.inr ⟨_, h, by simp⟩)))))
    have he : mCall m_format_points (aCons (mVar 6) aNil) [x0, x1, some (.cell V.length), x3, x4, x5, some d] (V ++ [MO.lst xs, MO.dct []]) = .ex .InvalidPolygon [.non] (V ++ [MO.lst xs, MO.dct []]) := (mCall_of (ds := [d]) rfl).trans hb
    have e : sEx (mApp (mVar 2) (lm (mCall m_format_points (aCons (mVar 6) aNil)))) [x0, x1, some (.cell V.length), x3, x4, x5, some d] (V ++ [MO.lst xs, MO.dct []]) = .nx [x0, x1, some (.cell V.length), x3, x4, x5, some d] (V ++ [MO.lst (xs ++ [.lst [.str "polygon", .non]]), MO.dct []]) :=
      sEx_of (app_mid (r := [MO.dct []]) rfl (lm_of (get_app h0) he (k_poly _)) hl)
    show SR.turn (sEx (mApp (mVar 2) (lm (mCall m_format_points (aCons (mVar 6) aNil)))) [x0, x1, some (.cell V.length), x3, x4, x5, some d] (V ++ [MO.lst xs, MO.dct []])) _ = _
    rw [e]
    rfl
  rw [step _ _ _ _ (by simp) (.inl rfl), step _ _ _ _ (by simp) (.inr (.inl rfl)), step _ _ _ _ (by simp) (.inr (.inr (.inl rfl))), step _ _ _ _ (by simp) (.inr (.inr (.inr (.inl rfl)))), step _ _ _ _ (by simp) (.inr (.inr (.inr (.inr (.inr rfl))))), step _ _ _ _ (by simp) (.inr (.inr (.inr (.inr (.inl rfl)))))]
  rfl
theorem mv_refused (h0 : W[0]? = some tb) (hq : W[q]? = some m) (hp : PoolOk m) (q0 : q ≠ 0) : ∃ W', m__law_refused [.cell q] W = .ok (.bl true) W' ∧ W'[0]? = some tb := by
  have lq : q < W.length := (List.getElem?_eq_some_iff.mp hq).1
  obtain ⟨r, m1, r0, r1, p1, e1⟩ := mv_take (W := W ++ [.dct []]) (get_app hq) hp (b := 5) (by decide) (by decide)
  obtain ⟨W1, hW1⟩ : ∃ W1, (W ++ [MO.dct []]).set q m1 = W1 := ⟨_, rfl⟩
  have t1 : W1[0]? = some tb := by rw [← hW1]; exact get_ne (get_app h0) q0
  have d1 : W1[W.length]? = some (.dct []) := by rw [← hW1]; exact get_ne get_last (Nat.ne_of_lt lq)
  have q1 : W1[q]? = some m1 := by rw [← hW1]; exact set_same (get_app hq)
  rw [hW1] at e1
  obtain ⟨d, hd, hi⟩ : ∃ d, Bad d W1 ∧ ∀ W0, idxD (.lst (badL W.length)) (.int r) W0 = .ok d W0 := by
    rcases (by omega : r = 0 ∨ r = 1 ∨ r = 2 ∨ r = 3 ∨ r = 4) with rfl | rfl | rfl | rfl | rfl
    · exact ⟨_, .inl rfl, fun _ => rfl⟩
    · exact ⟨_, .inr (.inl rfl), fun _ => rfl⟩
    · exact ⟨_, .inr (.inr (.inl rfl)), fun _ => rfl⟩
    · exact ⟨_, .inr (.inr (.inr (.inr ⟨_, rfl, d1⟩))), fun _ => rfl⟩
    · exact ⟨_, .inr (.inr (.inr (.inl rfl))), fun _ => rfl⟩
  -- the first list
  have V0 : ∀ xs : List D, (W1 ++ [MO.lst xs])[0]? = some tb := fun xs => get_app t1
  have bd : ∀ xs : List D, Bad d (W1 ++ [MO.lst xs]) := fun xs => hd.more _
  obtain ⟨k, m2, k0, k1, p2, e2⟩ := mv_take (W := W1 ++ [.lst F1]) (get_app q1) p1 (b := 4) (by decide) (by decide)
  obtain ⟨W2, hW2⟩ : ∃ W2, (W1 ++ [MO.lst F1]).set q m2 = W2 := ⟨_, rfl⟩
  have t2 : W2[0]? = some tb := by rw [← hW2]; exact get_ne (V0 _) q0
  have q2 : W2[q]? = some m2 := by rw [← hW2]; exact set_same (get_app q1)
  rw [hW2] at e2
  obtain ⟨o, m3, o0, o1, p3, e3⟩ := mv_take q2 p2 (b := 5) (by decide) (by decide)
  obtain ⟨W3, hW3⟩ : ∃ W3, W2.set q m3 = W3 := ⟨_, rfl⟩
  have t3 : W3[0]? = some tb := by rw [← hW3]; exact get_ne t2 q0
  rw [hW3] at e3
  obtain ⟨k, rfl⟩ := Int.eq_ofNat_of_zero_le k0
  obtain ⟨o, rfl⟩ := Int.eq_ofNat_of_zero_le o0
  have hk : k < 4 := by omega
  have ho : o < 5 := by omega
  obtain ⟨sb1, sb2⟩ := some_bad k hk o ho W3
  have io : ∀ W0, idxD (.lst oddD) (.int (o : Nat)) W0 = .ok (oddD.getD o .non) W0 := fun W0 => by
    rcases (by omega : o = 0 ∨ o = 1 ∨ o = 2 ∨ o = 3 ∨ o = 4) with rfl | rfl | rfl | rfl | rfl <;> rfl
  have sl1 : ∀ W0, slD (.lst rowD) none (some (k : Nat)) W0 = .ok (.lst (rowD.take k)) W0 := fun W0 => by
    rcases (by omega : k = 0 ∨ k = 1 ∨ k = 2 ∨ k = 3) with rfl | rfl | rfl | rfl <;> rfl
  have sl2 : ∀ W0, slD (.lst rowD) (some (k : Nat)) none W0 = .ok (.lst (rowD.drop k)) W0 := fun W0 => by
    rcases (by omega : k = 0 ∨ k = 1 ∨ k = 2 ∨ k = 3) with rfl | rfl | rfl | rfl <;> rfl
  have ad : ∀ W0, addD (.lst (rowD.take k)) (.lst [oddD.getD o .non, .non]) W0 = .ok (.lst (rowD.take k ++ [oddD.getD o .non, .non])) W0 := fun W0 => by
    rcases (by omega : k = 0 ∨ k = 1 ∨ k = 2 ∨ k = 3) with rfl | rfl | rfl | rfl <;> rfl
  have ad2 : ∀ W0, addD (.lst (rowD.take k ++ [oddD.getD o .non, .non])) (.lst (rowD.drop k)) W0 = .ok (.lst (someD k (oddD.getD o .non))) W0 := fun W0 => by
    rcases (by omega : k = 0 ∨ k = 1 ∨ k = 2 ∨ k = 3) with rfl | rfl | rfl | rfl <;> rfl
  have e3' : (W3 ++ [MO.lst (nines 0 (.int (k : Nat)))] ++ [MO.dct []]) = W3 ++ [MO.lst (nines 0 (.int (k : Nat))), MO.dct []] := by simp
  refine ⟨W3 ++ [MO.lst (nines 6 (.int (k : Nat))), MO.dct []], ?_, get_app t3⟩
  have lamI : ∀ (a : ME) (δ : Env) (c : Cl) (fs : List D) (x : D) (V : Wo), V[0]? = some tb → a δ V = .ex c fs V → (∀ V : Wo, lamEnd (pick ks__law_error c fs [none, none] V) = .ok x V) → lm a δ V = .ok x V := fun a δ c fs x V h he hp => lm_of h he (hp V)
  unfold m__law_refused s__law_refused
  refine mRun_rt (δ0 := [some (.cell q), none, none, none, none, none, none]) rfl
    ((sSeq_of (δ1 := [some (.cell q), some d, none, none, none, none, none]) (W' := W1) ?b1).trans
    ((sSeq_of (δ1 := [some (.cell q), some d, some (.cell W1.length), none, none, none, none]) (W' := W1 ++ [MO.lst [.str "integer", .str "integer"]]) ?b2).trans
    ((sSeq_of (δ1 := [some (.cell q), some d, some (.cell W1.length), none, none, none, none]) (W' := W1 ++ [MO.lst [.str "integer", .str "integer", .str "point"]]) ?b3).trans
    ((sSeq_of (δ1 := [some (.cell q), some d, some (.cell W1.length), none, none, none, none]) (W' := W1 ++ [MO.lst [.str "integer", .str "integer", .str "point", .str "point"]]) ?b4).trans
    ((sSeq_of (δ1 := [some (.cell q), some d, some (.cell W1.length), none, none, none, none]) (W' := W1 ++ [MO.lst [.str "integer", .str "integer", .str "point", .str "point", .lst [.str "polygon", .non]]]) ?b5).trans
    ((sSeq_of (δ1 := [some (.cell q), some d, some (.cell W1.length), none, none, none, none]) (W' := W1 ++ [MO.lst F1]) ?b6).trans
    ((sSeq_of (δ1 := [some (.cell q), some d, some (.cell W1.length), none, none, none, none]) (W' := W1 ++ [MO.lst F1]) ?b7).trans
    ((sSeq_of (δ1 := [some (.cell q), some d, some (.cell W1.length), some (.lst rowD), none, none, none]) (W' := W1 ++ [MO.lst F1]) ?b8).trans
    ((sSeq_of (δ1 := [some (.cell q), some d, some (.cell W1.length), some (.lst rowD), some (.int (k : Nat)), none, none]) (W' := W2) ?b9).trans
    ((sSeq_of (δ1 := [some (.cell q), some d, some (.cell W1.length), some (.lst rowD), some (.int (k : Nat)), some (.lst (someD k (oddD.getD o .non))), none]) (W' := W3) ?b10).trans
    ((sSeq_of (δ1 := [some (.cell q), some d, some (.cell W3.length), some (.lst rowD), some (.int (k : Nat)), some (.lst (someD k (oddD.getD o .non))), none]) (W' := W3 ++ [MO.lst (nines 0 (.int (k : Nat)))]) ?b11).trans
    ((sSeq_of (δ1 := [some (.cell q), some d, some (.cell W3.length), some (.lst rowD), some (.int (k : Nat)), some (.lst (someD k (oddD.getD o .non))), some (.int 5)]) (W' := W3 ++ [MO.lst (nines 6 (.int (k : Nat))), MO.dct []]) ?b12).trans ?b13))))))))))))
  case b1 => exact sSet_of ((mBin_of (d := .lst (badL W.length)) (e := .int r) (W1 := W ++ [MO.dct []]) (W2 := W1) rfl ((mCall_of (ds := [.cell q, .int 5]) rfl).trans e1)).trans (hi _))
  case b2 => exact sSet_of (cons2 (lamI _ _ _ _ _ _ t1 ((mCall_of (ds := [d]) rfl).trans hd.int) fun _ => k_int) (lamI _ _ _ _ _ _ t1 (show m_format_integer [.bl true] W1 = .ex .InvalidInteger [] W1 from rfl) fun _ => k_int))
  case b3 => exact sEx_of (app_mid (r := []) rfl (lamI _ _ _ _ _ _ (V0 _) ((mCall_of (ds := [d]) rfl).trans (bd _).point) fun _ => k_point) (by decide))
  case b4 => exact sEx_of (app_mid (r := []) rfl (lamI _ _ _ _ _ _ (V0 _) (show m_format_point [.lst [.int 1, .int 2]] _ = .ex .InvalidPoint [] _ from rfl) fun _ => k_point) (by decide))
  case b5 => exact sEx_of (app_mid (r := []) rfl (lamI _ _ _ _ _ _ (V0 _) ((mCall_of (ds := [d]) rfl).trans (bd _).poly) fun _ => k_poly _) (by decide))
  case b6 => exact sEx_of (app_mid (r := []) rfl (lamI _ _ _ _ _ _ (V0 _) ((mCall_of (ds := [d]) rfl).trans (bd _).map) fun _ => k_map) (by decide))
  case b7 => exact sIf_f (mTst_of ((mBin_of rfl rfl).trans (eq_found (r := []) (xs := F1) (ys := F1) true rfl rfl (by decide +kernel) (by decide +kernel))))
  case b8 => rfl
  case b9 => exact sSet_of ((mCall_of (ds := [.cell q, .int 4]) rfl).trans e2)
  case b10 =>
    refine sSet_of ((mBin_of (d := .lst (rowD.take k ++ [oddD.getD o .non, .non])) (e := .lst (rowD.drop k)) (W1 := W3) (W2 := W3) ((mBin_of (d := .lst (rowD.take k)) (e := .lst [oddD.getD o .non, .non]) (W1 := W2) (W2 := W3) ?_ ?_).trans (ad _)) ?_).trans (ad2 _))
    · exact sl1 W2
    · have h1 : mBin idxD (mLst (aCons (mC .non) (aCons (mTup (aCons (mC (.int 1)) aNil)) (aCons (mLst (aCons (mC (.int 1)) (aCons (mC (.int 2)) aNil))) (aCons (mTup (aCons (mC (.bl true)) (aCons (mC (.int 0)) aNil))) (aCons (mC (.str "1,2")) aNil)))))) (mCall m__law_take (aCons (mVar 0) (aCons (mC (.int 5)) aNil))) [some (.cell q), some d, some (.cell W1.length), some (.lst rowD), some (.int (k : Nat)), none, none] W2 = .ok (oddD.getD o .non) W3 :=
        (mBin_of (d := .lst oddD) (e := .int (o : Nat)) (W1 := W2) (W2 := W3) rfl ((mCall_of (ds := [.cell q, .int 5]) rfl).trans e3)).trans (io _)
      exact mLst_of (aCons_of h1 (aCons_of (d := .non) (ds := []) rfl rfl)) (by simp)
    · exact sl2 W3
  case b11 => exact sSet_of (cons2 (lamI _ _ _ _ _ _ t3 ((mCall_of (ds := [.lst (someD k (oddD.getD o .non))]) rfl).trans sb1) fun _ => k_poly _) (lamI _ _ _ _ _ _ t3 ((mCall_of (ds := [.tup (someD k (oddD.getD o .non))]) rfl).trans sb2) fun _ => k_poly _))
  case b12 =>
    refine (sFor_of (items := [.lst [], .tup [], .non, .str "1,2", .cell (W3.length + 1), .int 5]) (W' := W3 ++ [MO.lst (nines 0 (.int (k : Nat))), MO.dct []]) ?_).trans (tail_loop t3 _ _ _ _ _ _)
    have hl : (W3 ++ [MO.lst (nines 0 (.int (k : Nat)))]).length = W3.length + 1 := by simp
    rw [← e3', ← hl]
    rfl
  case b13 =>
    have x0 : ∀ W0, mBin addD (mBin mulS2 (mLst (aCons (mLst (aCons (mC (.str "polygon")) (aCons (mVar 4) aNil))) aNil)) (mC (.int 2))) (mBin mulS2 (mLst (aCons (mLst (aCons (mC (.str "polygon")) (aCons (mC .non) aNil))) aNil)) (mC (.int 6))) [some (.cell q), some d, some (.cell W3.length), some (.lst rowD), some (.int (k : Nat)), some (.lst (someD k (oddD.getD o .non))), some (.int 5)] W0 = .ok (.lst (nines 6 (.int (k : Nat)))) W0 := fun _ => rfl
    refine sRt_of ((mBin_of (d := .cell W3.length) rfl (x0 _)).trans ?_)
    have hk' : k = 0 ∨ k = 1 ∨ k = 2 ∨ k = 3 := by omega
    rcases hk' with rfl | rfl | rfl | rfl
    · exact eq_found (r := [MO.dct []]) (xs := nines 6 (.int 0)) (ys := nines 6 (.int 0)) false rfl rfl (by decide +kernel) (by decide +kernel)
    · exact eq_found (r := [MO.dct []]) (xs := nines 6 (.int 1)) (ys := nines 6 (.int 1)) false rfl rfl (by decide +kernel) (by decide +kernel)
    · exact eq_found (r := [MO.dct []]) (xs := nines 6 (.int 2)) (ys := nines 6 (.int 2)) false rfl rfl (by decide +kernel) (by decide +kernel)
    · exact eq_found (r := [MO.dct []]) (xs := nines 6 (.int 3)) (ys := nines 6 (.int 3)) false rfl rfl (by decide +kernel) (by decide +kernel)
end
end ML
set_option Elab.async false
set_option linter.all false
set_option maxRecDepth 100000
set_option maxHeartbeats 8000000
namespace ML
open PySem PySem.Spec PyProof.Rows L2
/-! ### a round -/
abbrev rBody : MS := (sSeq (sSet 2 (mCall m__law_pool (aCons (mVar 0) (aCons (mVar 1) aNil)))) (sSeq (sPar 3 4 (aCons (mCall m__law_number (aCons (mVar 2) aNil)) (aCons (mCall m__law_point (aCons (mVar 2) aNil)) aNil))) (sSeq (sIf (mOr (mTst (mBin (eqD true) (mCall m_format_integer (aCons (mVar 3) aNil)) (mCall m__law_digits (aCons (mVar 3) aNil)))) (mTst (mBin (eqD true) (mCall m_format_point (aCons (mVar 4) aNil)) (mCall m__law_pair (aCons (mVar 4) aNil))))) (sRt (mC (.bl false))) sNx) (sSeq (sSet 5 (mLc (mItA rng1 (aCons (mBin addD (mC (.int 1)) (mCall m__law_take (aCons (mVar 2) (aCons (mC (.int 6)) aNil)))) aNil)) (gNm 6) mYes (mCall m__law_point (aCons (mVar 2) aNil)) [6])) (sSeq (sSet 7 (mJoin " " (mLc (mIt (mVar 5)) (gNm 8) mYes (mCall m__law_pair (aCons (mVar 8) aNil)) [8]))) (sSeq (sIf (mOr (mTst (mBin (eqD true) (mCall m_format_points (aCons (mVar 5) aNil)) (mVar 7))) (mTst (mBin (eqD true) (mCall m_format_points (aCons (mCall tupleD (aCons (mVar 5) aNil)) aNil)) (mVar 7)))) (sRt (mC (.bl false))) sNx) (sSeq (sSet 9 (mCall m__law_number (aCons (mVar 2) aNil))) (sSeq (sSet 10 (mLst (aCons (mTup (aCons (mVar 9) (aCons (mC (.int 0)) aNil))) (aCons (mTup (aCons (mBin addD (mVar 9) (mC (.int 4))) (aCons (mC (.int 0)) aNil))) (aCons (mTup (aCons (mBin addD (mVar 9) (mC (.int 1))) (aCons (mC (.int 1)) aNil))) (aCons (mTup (aCons (mVar 9) (aCons (mC (.int 5)) aNil))) aNil)))))) (sSeq (sSet 11 (mMakeF .Polygon F_Polygon (aCons (mBin addD (mSl (mVar 10) (oSome (mC (.int 2))) oNone) (mSl (mVar 10) oNone (oSome (mC (.int 2))))) aNil))) (sSeq (sIf (mTst (mBin (eqD true) (mCall m_format_polygon (aCons (mVar 11) aNil)) (mJoin " " (mLc (mIt (mVar 10)) (gNm 8) mYes (mCall m__law_pair (aCons (mVar 8) aNil)) [8])))) (sRt (mC (.bl false))) sNx) (sSeq (sSet 12 (mLst (aCons (mC (.int 1)) (aCons (mCall m__law_number (aCons (mVar 2) aNil)) (aCons (mC (.int 0)) (aCons (mBin idxD (mLst (aCons (mC (.int 1)) (aCons (mUn negD (mC (.int 1))) aNil))) (mCall m__law_take (aCons (mVar 2) (aCons (mC (.int 2)) aNil)))) (aCons (mVar 9) (aCons (mCall m__law_number (aCons (mVar 2) aNil)) aNil)))))))) (sSeq (sSet 7 (mBin addD (mBin addD (mC (.str "[")) (mJoin " " (mLc (mIt (mVar 12)) (gNm 13) mYes (mCall m__law_digits (aCons (mVar 13) aNil)) [13]))) (mC (.str "]")))) (sSeq (sIf (mTst (mBin (eqD true) (mCall m_format_map (aCons (mMakeF .GridMap F_GridMap_6 (aCons (mBin idxD (mVar 12) (mC (.int 0))) (aCons (mBin idxD (mVar 12) (mC (.int 1))) (aCons (mBin idxD (mVar 12) (mC (.int 2))) (aCons (mBin idxD (mVar 12) (mC (.int 3))) (aCons (mBin idxD (mVar 12) (mC (.int 4))) (aCons (mBin idxD (mVar 12) (mC (.int 5))) aNil))))))) aNil)) (mVar 7))) (sRt (mC (.bl false))) sNx) (sIf (mNot (mTst (mCall m__law_refused (aCons (mVar 2) aNil)))) (sRt (mC (.bl false))) sNx))))))))))))))
section
variable {W0 : Wo}
theorem at_mid {m : MO} : (W0 ++ [m])[W0.length]? = some m := by simp
theorem set_mid {m m' : MO} : (W0 ++ [m]).set W0.length m' = W0 ++ [m'] := by simp
theorem points_lc {m : MO} (hp : PoolOk m) {δ : Env} (hδ : δ[2]? = some (some (.cell W0.length))) : ∀ items : List D, ∃ (ps : List P2) (m' : MO), (∀ p ∈ ps, SmP p) ∧ ps.length = items.length ∧ PoolOk m' ∧ lcL (gNm 6) mYes (mCall m__law_point (aCons (mVar 2) aNil)) δ items (W0 ++ [m]) = .ok (ps.map dP) (W0 ++ [m']) := by
  intro items
  induction items generalizing m with
  | nil => exact ⟨[], m, by simp, rfl, hp, rfl⟩
  | cons d r ih =>
    obtain ⟨p, m1, hs, p1, e1⟩ := mv_point (W := W0 ++ [m]) at_mid hp
    rw [set_mid] at e1
    obtain ⟨ps, m2, h1, h2, p2, e2⟩ := ih p1
    refine ⟨p :: ps, m2, fun z hz => (List.mem_cons.mp hz).elim (fun e => e ▸ hs) (h1 z), by simp [h2], p2, ?_⟩
    have ev : mVar 2 (δ.set 6 (some d)) (W0 ++ [m]) = .ok (.cell W0.length) (W0 ++ [m]) := by
      unfold mVar
      rw [List.getElem?_set_ne (by decide), hδ]
    have ec : mCall m__law_point (aCons (mVar 2) aNil) (δ.set 6 (some d)) (W0 ++ [m]) = .ok (dP p) (W0 ++ [m1]) := (mCall_of (aCons_of ev rfl)).trans e1
    unfold lcL
    show (match (Res.ok true (W0 ++ [m]) : Res Bool) with
      | .ok true W1 => match mCall m__law_point (aCons (mVar 2) aNil) (δ.set 6 (some d)) W1 with
        | .ok y W2 => match lcL (gNm 6) mYes (mCall m__law_point (aCons (mVar 2) aNil)) δ r W2 with
          | .ok ys W3 => Res.ok (y :: ys) W3
          | _ => .bad
        | _ => .bad
      | .ok false W1 => lcL (gNm 6) mYes (mCall m__law_point (aCons (mVar 2) aNil)) δ r W1
      | _ => .bad) = _
    simp only [ec, e2]
    rfl
theorem ne_of_eq {a : Str} {W : Wo} (ha : OkS a) : eqD true (.str a) (.str a) W = .ok (.bl false) W := by
  rw [eq_str true ha ha, decide_eq_true rfl]
  rfl
theorem or_ff {a b : MT} {δ : Env} {W W1 W2 : Wo} (h1 : a δ W = .ok false W1) (h2 : b δ W1 = .ok false W2) : mOr a b δ W = .ok false W2 := by
  unfold mOr
  rw [h1]
  exact h2
theorem mNot_of {t : MT} {δ : Env} {W W' : Wo} {k : Bool} (h : t δ W = .ok k W') : mNot t δ W = .ok (!k) W' := by
  unfold mNot
  rw [h]
  rfl
theorem okS_lit {a : Str} (h : ∀ c ∈ a.cps.toList, c < 0x110000) : OkS a := h
theorem okS_txM (xs : List Int) : OkS (txM xs) := ((okS_lit (by decide)).app (okS_join okS_sp fun y hy => by
  obtain ⟨p, _, rfl⟩ := List.mem_map.mp hy
  exact okS_txI p)).app (okS_lit (by decide))
theorem cP_sm {f : Int} (h : f.natAbs < 10 ^ 28) : ∀ p ∈ cP.map (imP (sh f)), SmP p := fun p hp => by
  obtain ⟨b, hb, rfl⟩ := List.mem_map.mp hp
  rw [sh_im]
  have hb2 : b.1.natAbs ≤ 10 ∧ b.2.natAbs ≤ 10 := by
    have : ∀ b ∈ cP, b.1.natAbs ≤ 10 ∧ b.2.natAbs ≤ 10 := by decide +kernel
    exact this b hb
  exact ⟨by show (b.1 + f).natAbs < _; omega, by show b.2.natAbs < _; omega⟩
theorem round_run {ns : List Int} {k : Nat} (hk : k < 64) (h0 : W0[0]? = some tb) (x2 x3 x4 x5 x6 x7 x8 x9 x10 x11 x12 x13 : Option D) :
    ∃ y2 y3 y4 y5 y6 y7 y8 y9 y10 y11 y12 y13 W', rBody [some (.scr ns), some (.int (k : Nat)), x2, x3, x4, x5, x6, x7, x8, x9, x10, x11, x12, x13] W0 = .nx [some (.scr ns), some (.int (k : Nat)), y2, y3, y4, y5, y6, y7, y8, y9, y10, y11, y12, y13] W' ∧ W'[0]? = some tb := by
  have q0 : W0.length ≠ 0 := by
    have := (List.getElem?_eq_some_iff.mp h0).1
    omega
  obtain ⟨m0, p0, e0⟩ := mv_pool (ns := ns) (k := k) (W := W0) hk
  obtain ⟨num, m1, n1, p1, e1⟩ := mv_number (W := W0 ++ [m0]) at_mid p0
  rw [set_mid] at e1
  obtain ⟨pt, m2, n2, p2, e2⟩ := mv_point (W := W0 ++ [m1]) at_mid p1
  rw [set_mid] at e2
  obtain ⟨t, m3, t0, t1, p3, e3⟩ := mv_take (W := W0 ++ [m2]) (q := W0.length) (b := 6) at_mid p2 (by decide) (by decide)
  rw [set_mid] at e3
  obtain ⟨t, rfl⟩ := Int.eq_ofNat_of_zero_le t0
  obtain ⟨ps, m4, hs, hl, p4, e4⟩ := points_lc (W0 := W0) p3 (δ := wipeE [some (.scr ns), some (.int (k : Nat)), some (.cell W0.length), some (.int num), some (dP pt), x5, x6, x7, x8, x9, x10, x11, x12, x13] [6]) rfl (rngD 0 (1 + t))
  have hl : ps.length = 1 + t := by rw [hl]; unfold rngD; rw [List.length_map, List.length_range]
  obtain ⟨far, m5, n5, p5, e5⟩ := mv_number (W := W0 ++ [m4]) at_mid p4
  rw [set_mid] at e5
  obtain ⟨i1, m6, n6, p6, e6⟩ := mv_number (W := W0 ++ [m5]) at_mid p5
  rw [set_mid] at e6
  obtain ⟨g, m7, g0, g1, p7, e7⟩ := mv_take (W := W0 ++ [m6]) (q := W0.length) (b := 2) at_mid p6 (by decide) (by decide)
  rw [set_mid] at e7
  obtain ⟨i2, m8, n8, p8, e8⟩ := mv_number (W := W0 ++ [m7]) at_mid p7
  rw [set_mid] at e8
  obtain ⟨sg, s1, es⟩ : ∃ s : Int, (s = 1 ∨ s = -1) ∧ ∀ W, idxD (.lst [.int 1, .int (-1)]) (.int g) W = .ok (.int s) W := by
    rcases (by omega : g = 0 ∨ g = 1) with rfl | rfl
    · exact ⟨1, .inl rfl, fun _ => rfl⟩
    · exact ⟨-1, .inr rfl, fun _ => rfl⟩
  obtain ⟨six, h6⟩ : ∃ six : List Int, six = [1, i1, 0, sg, far, i2] := ⟨_, rfl⟩
  have six_sm : ∀ x ∈ six, Sm x := fun x hx => by
    rw [h6] at hx
    have up : ∀ {i : Int}, i.natAbs < 10 ^ 28 → Sm i := fun h => Nat.lt_trans h (by decide)
    simp only [List.mem_cons, List.not_mem_nil, or_false] at hx
    rcases hx with rfl | rfl | rfl | rfl | rfl | rfl
    · exact (by decide : (1 : Int).natAbs < 10 ^ 30)
    · exact up n6
    · exact (by decide : (0 : Int).natAbs < 10 ^ 30)
    · rcases s1 with rfl | rfl
      · exact (by decide : (1 : Int).natAbs < 10 ^ 30)
      · exact (by decide : (-1 : Int).natAbs < 10 ^ 30)
    · exact up n5
    · exact up n8
  obtain ⟨W', e9, h9⟩ := mv_refused (W := W0 ++ [m8]) (q := W0.length) (get_app h0) at_mid p8 q0
  have up : ∀ {i : Int}, i.natAbs < 10 ^ 28 → i.natAbs < 10 ^ 30 := fun h => Nat.lt_trans h (by decide)
  have cor : ∀ W, mLst (aCons (mTup (aCons (mVar 9) (aCons (mC (.int 0)) aNil))) (aCons (mTup (aCons (mBin addD (mVar 9) (mC (.int 4))) (aCons (mC (.int 0)) aNil))) (aCons (mTup (aCons (mBin addD (mVar 9) (mC (.int 1))) (aCons (mC (.int 1)) aNil))) (aCons (mTup (aCons (mVar 9) (aCons (mC (.int 5)) aNil))) aNil)))) [some (.scr ns), some (.int (k : Nat)), some (.cell W0.length), some (.int num), some (dP pt), some (.lst (ps.map dP)), x6, some (.str (txL ps)), x8, some (.int far), x10, x11, x12, x13] W = .ok (.lst ((cP.map (imP (sh far))).map dP)) W := fun W => by
    have e : (cP.map (imP (sh far))).map dP = [.tup [.int far, .int 0], .tup [.int (far + 4), .int 0], .tup [.int (far + 1), .int 1], .tup [.int far, .int 5]] := by
      unfold cP
      simp only [List.map_cons, List.map_nil, sh_im, dP, Int.zero_add]
      rw [Int.add_comm 4, Int.add_comm 1]
    rw [e]
    rfl
  have turned : ∀ W, mBin addD (mSl (mVar 10) (oSome (mC (.int 2))) oNone) (mSl (mVar 10) oNone (oSome (mC (.int 2)))) [some (.scr ns), some (.int (k : Nat)), some (.cell W0.length), some (.int num), some (dP pt), some (.lst (ps.map dP)), x6, some (.str (txL ps)), x8, some (.int far), some (.lst ((cP.map (imP (sh far))).map dP)), x11, x12, x13] W = .ok (.lst ((bP.map (imP (sh far))).map dP)) W := fun _ => rfl
  have map_ok : F_GridMap_6 [.int 1, .int i1, .int 0, .int sg, .int far, .int i2] = some (.inl [.tup (six.map D.int)]) := by
    have b : ∀ {i : Int}, i.natAbs < 10 ^ 28 → bdI 2000 i = true := fun h => bdI_iff.mpr (bd_of (Nat.lt_trans h (by decide)))
    have bs : bdI 2000 sg = true := by rcases s1 with rfl | rfl <;> decide +kernel
    have dt : ((1 : Int) * sg - i1 * 0).natAbs = 1 := by rcases s1 with rfl | rfl <;> rw [Int.mul_zero] <;> decide
    show (if (bdI 2000 1 && bdI 2000 i1 && bdI 2000 0 && bdI 2000 sg) = true then (if ((1 : Int) * sg - i1 * 0).natAbs = 1 then some (Sum.inl [D.tup [.int 1, .int i1, .int 0, .int sg, .int far, .int i2]]) else some (Sum.inr (Cl.InvalidMap, ([] : List D)))) else none) = _
    rw [if_pos (by rw [b n6, bs]; decide +kernel), if_pos dt, h6]
    rfl
  refine ⟨some (.cell W0.length), some (.int num), some (dP pt), some (.lst (ps.map dP)), x6, some (.str (txM six)), x8, some (.int far), some (.lst ((cP.map (imP (sh far))).map dP)), some (polyD (cP.map (imP (sh far))) (reflexP (cP.map (imP (sh far))))), some (.lst (six.map D.int)), x13, W', ((sSeq_of (δ1 := [some (.scr ns), some (.int (k : Nat)), some (.cell W0.length), x3, x4, x5, x6, x7, x8, x9, x10, x11, x12, x13]) (W' := W0 ++ [m0]) ?b1).trans
    ((sSeq_of (δ1 := [some (.scr ns), some (.int (k : Nat)), some (.cell W0.length), some (.int num), some (dP pt), x5, x6, x7, x8, x9, x10, x11, x12, x13]) (W' := W0 ++ [m2]) ?b2).trans
    ((sSeq_of (δ1 := [some (.scr ns), some (.int (k : Nat)), some (.cell W0.length), some (.int num), some (dP pt), x5, x6, x7, x8, x9, x10, x11, x12, x13]) (W' := W0 ++ [m2]) ?b3).trans
    ((sSeq_of (δ1 := [some (.scr ns), some (.int (k : Nat)), some (.cell W0.length), some (.int num), some (dP pt), some (.lst (ps.map dP)), x6, x7, x8, x9, x10, x11, x12, x13]) (W' := W0 ++ [m4]) ?b4).trans
    ((sSeq_of (δ1 := [some (.scr ns), some (.int (k : Nat)), some (.cell W0.length), some (.int num), some (dP pt), some (.lst (ps.map dP)), x6, some (.str (txL ps)), x8, x9, x10, x11, x12, x13]) (W' := W0 ++ [m4]) ?b5).trans
    ((sSeq_of (δ1 := [some (.scr ns), some (.int (k : Nat)), some (.cell W0.length), some (.int num), some (dP pt), some (.lst (ps.map dP)), x6, some (.str (txL ps)), x8, x9, x10, x11, x12, x13]) (W' := W0 ++ [m4]) ?b6).trans
    ((sSeq_of (δ1 := [some (.scr ns), some (.int (k : Nat)), some (.cell W0.length), some (.int num), some (dP pt), some (.lst (ps.map dP)), x6, some (.str (txL ps)), x8, some (.int far), x10, x11, x12, x13]) (W' := W0 ++ [m5]) ?b7).trans
    ((sSeq_of (δ1 := [some (.scr ns), some (.int (k : Nat)), some (.cell W0.length), some (.int num), some (dP pt), some (.lst (ps.map dP)), x6, some (.str (txL ps)), x8, some (.int far), some (.lst ((cP.map (imP (sh far))).map dP)), x11, x12, x13]) (W' := W0 ++ [m5]) ?b8).trans
    ((sSeq_of (δ1 := [some (.scr ns), some (.int (k : Nat)), some (.cell W0.length), some (.int num), some (dP pt), some (.lst (ps.map dP)), x6, some (.str (txL ps)), x8, some (.int far), some (.lst ((cP.map (imP (sh far))).map dP)), some (polyD (cP.map (imP (sh far))) (reflexP (cP.map (imP (sh far))))), x12, x13]) (W' := W0 ++ [m5]) ?b9).trans
    ((sSeq_of (δ1 := [some (.scr ns), some (.int (k : Nat)), some (.cell W0.length), some (.int num), some (dP pt), some (.lst (ps.map dP)), x6, some (.str (txL ps)), x8, some (.int far), some (.lst ((cP.map (imP (sh far))).map dP)), some (polyD (cP.map (imP (sh far))) (reflexP (cP.map (imP (sh far))))), x12, x13]) (W' := W0 ++ [m5]) ?b10).trans
    ((sSeq_of (δ1 := [some (.scr ns), some (.int (k : Nat)), some (.cell W0.length), some (.int num), some (dP pt), some (.lst (ps.map dP)), x6, some (.str (txL ps)), x8, some (.int far), some (.lst ((cP.map (imP (sh far))).map dP)), some (polyD (cP.map (imP (sh far))) (reflexP (cP.map (imP (sh far))))), some (.lst (six.map D.int)), x13]) (W' := W0 ++ [m8]) ?b11).trans
    ((sSeq_of (δ1 := [some (.scr ns), some (.int (k : Nat)), some (.cell W0.length), some (.int num), some (dP pt), some (.lst (ps.map dP)), x6, some (.str (txM six)), x8, some (.int far), some (.lst ((cP.map (imP (sh far))).map dP)), some (polyD (cP.map (imP (sh far))) (reflexP (cP.map (imP (sh far))))), some (.lst (six.map D.int)), x13]) (W' := W0 ++ [m8]) ?b12).trans
    ((sSeq_of (δ1 := [some (.scr ns), some (.int (k : Nat)), some (.cell W0.length), some (.int num), some (dP pt), some (.lst (ps.map dP)), x6, some (.str (txM six)), x8, some (.int far), some (.lst ((cP.map (imP (sh far))).map dP)), some (polyD (cP.map (imP (sh far))) (reflexP (cP.map (imP (sh far))))), some (.lst (six.map D.int)), x13]) (W' := W0 ++ [m8]) ?b13).trans
    ?b14))))))))))))), h9⟩
  case b1 => exact sSet_of ((mCall_of (ds := [.scr ns, .int (k : Nat)]) rfl).trans e0)
  case b2 => exact sPar_of (aCons_of ((mCall_of (ds := [.cell W0.length]) rfl).trans e1) (aCons_of ((mCall_of (ds := [.cell W0.length]) rfl).trans e2) rfl))
  case b3 =>
    refine sIf_f (or_ff (mTst_of ((mBin_of ((mCall_of (ds := [.int num]) rfl).trans (mv_fmt_int (up n1))) ((mCall_of (ds := [.int num]) rfl).trans (mv_digits (up n1)))).trans (ne_of_eq (okS_txI _)))) (mTst_of ((mBin_of ((mCall_of (ds := [dP pt]) rfl).trans (mv_fmt_point n2)) ((mCall_of (ds := [dP pt]) rfl).trans (mv_pair n2))).trans (ne_of_eq (okS_txP _)))))
  case b4 =>
    refine sSet_of ((mLc_of (items := rngD 0 (1 + t)) (W' := W0 ++ [m3]) ?_).trans (lcE_of ?_ e4))
    · refine (mItA_of (ds := [.int ((1 + t : Nat) : Int)]) (W' := W0 ++ [m3]) ?_).trans (rng1_nat (by omega))
      refine aCons_of ((mBin_of (d := .int 1) (e := .int (t : Nat)) (W1 := W0 ++ [m2]) (W2 := W0 ++ [m3]) rfl ((mCall_of (ds := [.cell W0.length, .int 6]) rfl).trans e3)).trans ?_) rfl
      rw [e_add]
      congr 2
    · unfold rngD; rw [List.length_map, List.length_range, sizeLine_eq]; omega
  case b5 =>
    exact sSet_of (join_of dP txP (l := ps) rfl (fun p hp => (mCall_of (ds := [dP p]) rfl).trans (mv_pair (hs p hp))) (by omega) (fun p hp => Nat.le_trans (txP_len (hs p hp)) (by decide)) (by rw [sp_len]; decide))
  case b6 =>
    refine sIf_f (or_ff (mTst_of ((mBin_of ((mCall_of (ds := [.lst (ps.map dP)]) rfl).trans (mv_fmt_points (.inl rfl) (by omega) (by omega) hs)) rfl).trans (ne_of_eq (okS_txL _)))) (mTst_of ((mBin_of ((mCall_of (ds := [.tup (ps.map dP)]) rfl).trans (mv_fmt_points (.inr rfl) (by omega) (by omega) hs)) rfl).trans (ne_of_eq (okS_txL _)))))
  case b7 => exact sSet_of ((mCall_of (ds := [.cell W0.length]) rfl).trans e5)
  case b8 => exact sSet_of (cor _)
  case b9 =>
    refine sSet_of ?_
    have ea : aCons (mBin addD (mSl (mVar 10) (oSome (mC (.int 2))) oNone) (mSl (mVar 10) oNone (oSome (mC (.int 2))))) aNil [some (.scr ns), some (.int (k : Nat)), some (.cell W0.length), some (.int num), some (dP pt), some (.lst (ps.map dP)), x6, some (.str (txL ps)), x8, some (.int far), some (.lst ((cP.map (imP (sh far))).map dP)), x11, x12, x13] (W0 ++ [m5]) = .ok [.lst ((bP.map (imP (sh far))).map dP)] (W0 ++ [m5]) := aCons_of (turned _) rfl
    unfold mMakeF
    simp only [ea, Res.bind, far_make n5]
    rfl
  case b10 =>
    refine sIf_f (mTst_of ((mBin_of ((mCall_of (ds := [polyD (cP.map (imP (sh far))) (reflexP (cP.map (imP (sh far))))]) rfl).trans (mv_fmt_poly (by rw [List.length_map]; decide) (by rw [List.length_map]; decide) (cP_sm n5))) (join_of dP txP (l := cP.map (imP (sh far))) rfl (fun p hp => (mCall_of (ds := [dP p]) rfl).trans (mv_pair (cP_sm n5 p hp))) (by rw [List.length_map]; decide) (fun p hp => Nat.le_trans (txP_len (cP_sm n5 p hp)) (by decide)) (by rw [sp_len]; decide))).trans (ne_of_eq (okS_txL _))))
  case b11 =>
    rw [h6]
    refine sSet_of (mLst_of (aCons_of (d := .int 1) (W1 := W0 ++ [m5]) rfl (aCons_of (d := .int i1) (W1 := W0 ++ [m6]) ((mCall_of (ds := [.cell W0.length]) rfl).trans e6) (aCons_of (d := .int 0) (W1 := W0 ++ [m6]) rfl (aCons_of (d := .int sg) (W1 := W0 ++ [m7]) ((mBin_of (d := .lst [.int 1, .int (-1)]) (e := .int g) (W1 := W0 ++ [m6]) (W2 := W0 ++ [m7]) rfl ((mCall_of (ds := [.cell W0.length, .int 2]) rfl).trans e7)).trans (es _)) (aCons_of (d := .int far) (W1 := W0 ++ [m7]) rfl (aCons_of (d := .int i2) (W1 := W0 ++ [m8]) ((mCall_of (ds := [.cell W0.length]) rfl).trans e8) rfl)))))) (by simp))
  case b12 =>
    exact sSet_of (join_ints (xs := six) rfl (fun x hx => (mCall_of (ds := [.int x]) rfl).trans (mv_digits (six_sm x hx))) (by rw [h6]; simp) six_sm)
  case b13 =>
    have em : mMakeF .GridMap F_GridMap_6 (aCons (mBin idxD (mVar 12) (mC (.int 0))) (aCons (mBin idxD (mVar 12) (mC (.int 1))) (aCons (mBin idxD (mVar 12) (mC (.int 2))) (aCons (mBin idxD (mVar 12) (mC (.int 3))) (aCons (mBin idxD (mVar 12) (mC (.int 4))) (aCons (mBin idxD (mVar 12) (mC (.int 5))) aNil)))))) [some (.scr ns), some (.int (k : Nat)), some (.cell W0.length), some (.int num), some (dP pt), some (.lst (ps.map dP)), x6, some (.str (txM six)), x8, some (.int far), some (.lst ((cP.map (imP (sh far))).map dP)), some (polyD (cP.map (imP (sh far))) (reflexP (cP.map (imP (sh far))))), some (.lst (six.map D.int)), x13] (W0 ++ [m8]) = .ok (sixD six) (W0 ++ [m8]) := by
      have ea : aCons (mBin idxD (mVar 12) (mC (.int 0))) (aCons (mBin idxD (mVar 12) (mC (.int 1))) (aCons (mBin idxD (mVar 12) (mC (.int 2))) (aCons (mBin idxD (mVar 12) (mC (.int 3))) (aCons (mBin idxD (mVar 12) (mC (.int 4))) (aCons (mBin idxD (mVar 12) (mC (.int 5))) aNil))))) [some (.scr ns), some (.int (k : Nat)), some (.cell W0.length), some (.int num), some (dP pt), some (.lst (ps.map dP)), x6, some (.str (txM six)), x8, some (.int far), some (.lst ((cP.map (imP (sh far))).map dP)), some (polyD (cP.map (imP (sh far))) (reflexP (cP.map (imP (sh far))))), some (.lst (six.map D.int)), x13] (W0 ++ [m8]) = .ok [.int 1, .int i1, .int 0, .int sg, .int far, .int i2] (W0 ++ [m8]) := by
        rw [h6]
        rfl
      unfold mMakeF
      simp only [ea, Res.bind, map_ok]
      rfl
    exact sIf_f (mTst_of ((mBin_of ((mCall_of (aCons_of em rfl)).trans (mv_fmt_map (by rw [h6]; simp) six_sm)) rfl).trans (ne_of_eq (okS_txM _))))
  case b14 =>
    exact sIf_f (mNot_of (mTst_of ((mCall_of (ds := [.cell W0.length]) rfl).trans e9)))
end
end ML
set_option Elab.async false
set_option linter.all false
set_option maxRecDepth 100000
set_option maxHeartbeats 8000000
namespace ML
open PySem PySem.Spec PyProof.Rows L2
theorem forL_w {g : GM} {b : MS} (I : Env → Wo → Prop) : ∀ (items : List D) (δ : Env) (W : Wo), (∀ x ∈ items, ∀ δ W, I δ W → ∃ δ1 δ2 W2, g x δ = some δ1 ∧ b δ1 W = .nx δ2 W2 ∧ I δ2 W2) → I δ W → ∃ δ2 W2, forL g b items δ W = .nx δ2 W2 ∧ I δ2 W2
  | [], δ, W, _, h => ⟨δ, W, rfl, h⟩
  | x :: r, δ, W, hh, h => by
    obtain ⟨δ1, δ2, W2, h1, h2, h3⟩ := hh x List.mem_cons_self δ W h
    obtain ⟨δ3, W3, h4, h5⟩ := forL_w I r δ2 W2 (fun y hy => hh y (List.mem_cons_of_mem _ hy)) h3
    refine ⟨δ3, W3, ?_, h5⟩
    unfold forL
    simp only [h1, h2, SR.turn]
    exact h4
theorem law_k80 (ns : List Int) (W : Wo) (h0 : W[0]? = some tb) : ∃ W', m_law [.scr ns] W = .ok (.bl true) W' := by
  have l0 : lenD3 ln_t [.scr ns] W = .ok (.int (ns.length : Nat)) W := by
    show lenD [.scr ns] W = _
    show Res.ok (D.int ((dInts ns).length : Nat)) W = _
    unfold dInts
    rw [List.length_map]
  obtain ⟨n, hn, it⟩ : ∃ n : Nat, n ≤ 6 ∧ mItA rng1 (aCons (mCall max2D (aCons (mC (.int 1)) (aCons (mCall min2D (aCons (mC (.int 6)) (aCons (mCall (lenD3 ln_t) (aCons (mVar 0) aNil)) aNil))) aNil))) aNil) [some (.scr ns), none, none, none, none, none, none, none, none, none, none, none, none, none] W = .ok (rngD 0 n) W := by
    have mn : ∀ i j : Int, min2D [.int i, .int j] W = .ok (.int (if j < i then j else i)) W := fun _ _ => rfl
    have mx : ∀ i j : Int, max2D [.int i, .int j] W = .ok (.int (if j > i then j else i)) W := fun _ _ => rfl
    obtain ⟨n, hn, e⟩ : ∃ n : Nat, n ≤ 6 ∧ (if (if ((ns.length : Nat) : Int) < 6 then ((ns.length : Nat) : Int) else 6) > 1 then (if ((ns.length : Nat) : Int) < 6 then ((ns.length : Nat) : Int) else 6) else 1) = (n : Int) := by
      refine ⟨(if (if ((ns.length : Nat) : Int) < 6 then ((ns.length : Nat) : Int) else 6) > 1 then (if ((ns.length : Nat) : Int) < 6 then ((ns.length : Nat) : Int) else 6) else 1 : Int).toNat, ?_, ?_⟩
      · split <;> split <;> omega
      · split <;> split <;> omega
    refine ⟨n, hn, (mItA_of (ds := [.int (n : Nat)]) (W' := W) ?_).trans (rng1_nat (by omega))⟩
    simp only [mRun, sSeq, sSet, sEx, sRt, sRtN, sIf, sNx, sBk, sCt, sAsg, sPar, mCall, mBin, mUn, mTst, mC, mVar, aNil, aCons, mTup, mLst, mLstC, mDctC, Res.bind, Res.toS, mAndV, mOrV, mAnd, mOr, mNot, mIf, mChain, mProp, mMeth, mMethK, mMakeF, mMakeC, mMakeCK, madeC, Res.calmed, sFldS, sPut, sPut2, sDel, sDelTail, sPropS, mApp, mIndex, mSl, oNone, oSome, mItA, mIt, mIt2, sFor, mLc, lcE, mYes, gNm, gNl, gCn, gTp, setAt, List.map_cons, List.map_nil, List.cons_append, List.nil_append, List.append_nil, List.replicate_succ, List.replicate_zero, List.getElem?_cons_zero, List.getElem?_cons_succ, List.getElem?_nil, List.set_cons_zero, List.set_cons_succ, List.length_cons, List.length_nil, e_sub, e_add, e_lt, e_le, e_gt, e_ge, e_eqI, e_neI, e_not, e_neg, e_idT, e_isN, wipeE, if_true, if_false, Bool.not_true, Bool.not_false, Bool.false_eq_true, Bool.true_eq_false, Option.some.injEq, decide_true, decide_false, sizeLine_eq, Nat.reduceAdd, Nat.reduceLeDiff, l0, mn, mx, e]
  obtain ⟨δ2, W2, e, ⟨y1, y2, y3, y4, y5, y6, y7, y8, y9, y10, y11, y12, y13, rfl⟩, _⟩ := forL_w (g := gNm 1) (b := rBody) (fun δ W => (∃ y1 y2 y3 y4 y5 y6 y7 y8 y9 y10 y11 y12 y13 : Option D, δ = [some (.scr ns), y1, y2, y3, y4, y5, y6, y7, y8, y9, y10, y11, y12, y13]) ∧ W[0]? = some tb) (rngD 0 n) [some (.scr ns), none, none, none, none, none, none, none, none, none, none, none, none, none] W (by
    rintro x hx δ W ⟨⟨y1, y2, y3, y4, y5, y6, y7, y8, y9, y10, y11, y12, y13, rfl⟩, hw⟩
    obtain ⟨k, hk, rfl⟩ := mem_rngD hx
    rw [Int.zero_add]
    obtain ⟨z2, z3, z4, z5, z6, z7, z8, z9, z10, z11, z12, z13, W', e, hw'⟩ := round_run (ns := ns) (k := k) (by omega) hw y2 y3 y4 y5 y6 y7 y8 y9 y10 y11 y12 y13
    exact ⟨_, _, _, rfl, e, ⟨_, _, _, _, _, _, _, _, _, _, _, _, _, rfl⟩, hw'⟩) ⟨⟨_, _, _, _, _, _, _, _, _, _, _, _, _, rfl⟩, h0⟩
  exact ⟨W2, mRun_rt (δ0 := [some (.scr ns), none, none, none, none, none, none, none, none, none, none, none, none, none]) rfl ((sSeq_of ((sFor_of it).trans e)).trans (sRt_of (d := .bl true) rfl))⟩
end ML
set_option Elab.async false
set_option linter.all false
set_option maxRecDepth 100000
set_option maxHeartbeats 0
namespace ML
open PySem PySem.Spec PyProof.Rows L2
theorem fo_law {P : Program} {w : World} {K : PySem.W.Frag} {mg : Str → Option Value} {base : Heap} (h : HF P w K mg base) {f : Addr} {fd : FuncData} (F : FunD K "law" "law" (defArgs (top 53)) (defBody (top 53)) (defScope (top 53)) [] [] f fd) : FnOk P w K mg base (L2.CX P w) 10 f fd ["_law_script"] (spN K 1 m_law) :=
  fn_M F sc_law fun cdv A outer s H E hr tk => by
    have nd : List.Nodup (["_law_script", "_law_k", "_law_pool_here", "_law_number_here", "_law_point_here", "_law_row", "_law_turn", "_law_text", "_law_one", "_law_far", "_law_corners", "_law_polygon", "_law_six", "_law_item"] : List Str) := by decide +kernel
    exact (pmss_cons (pms_for (passes_of rfl) rfl (pmi_range1 h.B.range_ (pma_cons (pm_callB (bi_max2 rfl) h.B.max_ calm_max2 (pma_cons pm_int (pma_cons (pm_callB (bi_min2 rfl) h.B.min_ calm_min2 (pma_cons pm_int (pma_cons (pm_callB (bi_len3 (hr.mono (by decide)) (lnok h)) h.B.len_ (calm_len3 _) (pma_cons (pm_var 0) pma_nil)) pma_nil))) pma_nil))) pma_nil)) (pmg_name 1 nd) (pmss_cons (pms_set 2 nd (pm_call (ok__law_pool h) (hr.mono (by decide)) tk (pma_cons (pm_var 0) (pma_cons (pm_var 1) pma_nil)))) (pmss_cons (pms_par (i := 3) (j := 4) rfl nd (by decide) (pma_cons (pm_call (ok__law_number h) (hr.mono (by decide)) tk (pma_cons (pm_var 2) pma_nil)) (pma_cons (pm_call (ok__law_point h) (hr.mono (by decide)) tk (pma_cons (pm_var 2) pma_nil)) pma_nil))) (pmss_cons (pms_if (pmt_of (pmw_or (pmt_cmp (op_neM hr.units) (calm_eq _) (pm_call (ok_format_integer h) (hr.mono (by decide)) tk (pma_cons (pm_var 3) pma_nil)) (pm_call (ok__law_digits h) (hr.mono (by decide)) tk (pma_cons (pm_var 3) pma_nil)) (nomark _)) (pmw_or1 (pmt_cmp (op_neM hr.units) (calm_eq _) (pm_call (ok_format_point h) (hr.mono (by decide)) tk (pma_cons (pm_var 4) pma_nil)) (pm_call (ok__law_pair h) (hr.mono (by decide)) tk (pma_cons (pm_var 4) pma_nil)) (nomark _))))) (pmss_one (pms_ret pm_bl)) pmss_nil) (pmss_cons (pms_setLc 5 (own := [("_law_turn", 6)]) rfl nd rfl (pmi_range1 h.B.range_ (pma_cons (pm_op op_addM calm_add pm_int (pm_call (ok__law_take h) (hr.mono (by decide)) tk (pma_cons (pm_var 2) (pma_cons pm_int pma_nil)))) pma_nil)) (show BlkOk ["_law_script", "_law_k", "_law_pool_here", "_law_number_here", "_law_point_here", "_law_row", "_law_turn", "_law_text", "_law_one", "_law_far", "_law_corners", "_law_polygon", "_law_six", "_law_item"] (defScope (top 53)) _ [("_law_turn", 6)] from ⟨rfl, by decide +kernel, by decide +kernel, by decide +kernel, by decide +kernel⟩) (fun _ _ _ _ _ => (pmg_name 6 nd)) (fun _ _ _ _ _ => pmts_nil) (fun _ _ _ _ _ => (pm_call (ok__law_point h) (hr.mono (by decide)) takes_none5 (pma_cons (pm_var 2) pma_nil)))) (pmss_cons (pms_set 7 nd (pm_join (pm_lc (own := [("_law_one", 8)]) rfl nd (pmi_seq (pm_var 5)) (show BlkOk ["_law_script", "_law_k", "_law_pool_here", "_law_number_here", "_law_point_here", "_law_row", "_law_turn", "_law_text", "_law_one", "_law_far", "_law_corners", "_law_polygon", "_law_six", "_law_item"] (defScope (top 53)) _ [("_law_one", 8)] from ⟨rfl, by decide +kernel, by decide +kernel, by decide +kernel, by decide +kernel⟩) (fun _ _ _ _ _ => (pmg_name 8 nd)) (fun _ _ _ _ _ => pmts_nil) (fun _ _ _ _ _ => (pm_call (ok__law_pair h) (hr.mono (by decide)) takes_none5 (pma_cons (pm_var 8) pma_nil)))))) (pmss_cons (pms_if (pmt_of (pmw_or (pmt_cmp (op_neM hr.units) (calm_eq _) (pm_call (ok_format_points h) (hr.mono (by decide)) tk (pma_cons (pm_var 5) pma_nil)) (pm_var 7) (nomark _)) (pmw_or1 (pmt_cmp (op_neM hr.units) (calm_eq _) (pm_call (ok_format_points h) (hr.mono (by decide)) tk (pma_cons (pm_callTy bi_tuple h.B.tuple_ calm_tuple (pma_cons (pm_var 5) pma_nil)) pma_nil)) (pm_var 7) (nomark _))))) (pmss_one (pms_ret pm_bl)) pmss_nil) (pmss_cons (pms_set 9 nd (pm_call (ok__law_number h) (hr.mono (by decide)) tk (pma_cons (pm_var 2) pma_nil))) (pmss_cons (pms_set 10 nd (pm_lst (pma_cons (pm_tup (pma_cons (pm_var 9) (pma_cons pm_int pma_nil))) (pma_cons (pm_tup (pma_cons (pm_op op_addM calm_add (pm_var 9) pm_int) (pma_cons pm_int pma_nil))) (pma_cons (pm_tup (pma_cons (pm_op op_addM calm_add (pm_var 9) pm_int) (pma_cons pm_int pma_nil))) (pma_cons (pm_tup (pma_cons (pm_var 9) (pma_cons pm_int pma_nil))) pma_nil)))))) (pmss_cons (pms_set 11 nd (pm_make (mkc_Polygon h) law_Polygon (hr.mono (by decide)) tk (pma_cons (pm_op op_addM calm_add (pm_sl (pm_var 10) (pmo_some pm_int) pmo_none) (pm_sl (pm_var 10) pmo_none (pmo_some pm_int))) pma_nil))) (pmss_cons (pms_if (pmt_cmp (op_neM hr.units) (calm_eq _) (pm_call (ok_format_polygon h) (hr.mono (by decide)) tk (pma_cons (pm_var 11) pma_nil)) (pm_join (pm_lc (own := [("_law_one", 8)]) rfl nd (pmi_seq (pm_var 10)) (show BlkOk ["_law_script", "_law_k", "_law_pool_here", "_law_number_here", "_law_point_here", "_law_row", "_law_turn", "_law_text", "_law_one", "_law_far", "_law_corners", "_law_polygon", "_law_six", "_law_item"] (defScope (top 53)) _ [("_law_one", 8)] from ⟨rfl, by decide +kernel, by decide +kernel, by decide +kernel, by decide +kernel⟩) (fun _ _ _ _ _ => (pmg_name 8 nd)) (fun _ _ _ _ _ => pmts_nil) (fun _ _ _ _ _ => (pm_call (ok__law_pair h) (hr.mono (by decide)) takes_none5 (pma_cons (pm_var 8) pma_nil))))) (nomark _)) (pmss_one (pms_ret pm_bl)) pmss_nil) (pmss_cons (pms_set 12 nd (pm_lst (pma_cons pm_int (pma_cons (pm_call (ok__law_number h) (hr.mono (by decide)) tk (pma_cons (pm_var 2) pma_nil)) (pma_cons pm_int (pma_cons (pm_ix (pm_lst (pma_cons pm_int (pma_cons (pm_neg pm_int) pma_nil))) (pm_call (ok__law_take h) (hr.mono (by decide)) tk (pma_cons (pm_var 2) (pma_cons pm_int pma_nil)))) (pma_cons (pm_var 9) (pma_cons (pm_call (ok__law_number h) (hr.mono (by decide)) tk (pma_cons (pm_var 2) pma_nil)) pma_nil)))))))) (pmss_cons (pms_set 7 nd (pm_op op_addM calm_add (pm_op op_addM calm_add pm_str (pm_join (pm_lc (own := [("_law_item", 13)]) rfl nd (pmi_seq (pm_var 12)) (show BlkOk ["_law_script", "_law_k", "_law_pool_here", "_law_number_here", "_law_point_here", "_law_row", "_law_turn", "_law_text", "_law_one", "_law_far", "_law_corners", "_law_polygon", "_law_six", "_law_item"] (defScope (top 53)) _ [("_law_item", 13)] from ⟨rfl, by decide +kernel, by decide +kernel, by decide +kernel, by decide +kernel⟩) (fun _ _ _ _ _ => (pmg_name 13 nd)) (fun _ _ _ _ _ => pmts_nil) (fun _ _ _ _ _ => (pm_call (ok__law_digits h) (hr.mono (by decide)) takes_none5 (pma_cons (pm_var 13) pma_nil)))))) pm_str)) (pmss_cons (pms_if (pmt_cmp (op_neM hr.units) (calm_eq _) (pm_call (ok_format_map h) (hr.mono (by decide)) tk (pma_cons (pm_make (mkc_GridMap_6 h) law_GridMap_6 (hr.mono (by decide)) tk (pma_cons (pm_ix (pm_var 12) pm_int) (pma_cons (pm_ix (pm_var 12) pm_int) (pma_cons (pm_ix (pm_var 12) pm_int) (pma_cons (pm_ix (pm_var 12) pm_int) (pma_cons (pm_ix (pm_var 12) pm_int) (pma_cons (pm_ix (pm_var 12) pm_int) pma_nil))))))) pma_nil)) (pm_var 7) (nomark _)) (pmss_one (pms_ret pm_bl)) pmss_nil) (pmss_one (pms_if (pmt_not (pmt_val (pm_call (ok__law_refused h) (hr.mono (by decide)) tk (pma_cons (pm_var 2) pma_nil)))) (pmss_one (pms_ret pm_bl)) pmss_nil)))))))))))))))) (pmss_one (pms_ret pm_bl)))
end ML
open PySem PySem.W PySem.Calls PyProof.Rows
theorem PySem.Challenge.cw_latticeshapes_k80_values_formatted_holds : PySem.Challenge.rw_latticeshapes_k80_values_formatted.Holds := by
  w_on; o_law
  refine HandSHeadRun.head_any (r := OpenLaw.row PySem.Challenge.rw_latticeshapes_k80_values_formatted) (q := view (OpenLaw.row PySem.Challenge.rw_latticeshapes_k80_values_formatted).prog [53]) (H := (ML.hd.hookT ML.tbL)) (ob := ML.ob) (M := 20000) (loose := ML.nmL) (d := HandSHeadRun.topDef (OpenLaw.row PySem.Challenge.rw_latticeshapes_k80_values_formatted).prog 53) (kwd := []) ML.ob_eq
    (by kernel_rfl) (fun s => by kernel_rfl) ML.run (by kernel_rfl) (by kernel_rfl) (by kernel_rfl) (by rfl) (by first | assumption | decide +kernel) (by decide +kernel) ⟨rfl, rfl, rfl, rfl, rfl, by decide +kernel⟩ ?hw ?hc
  case hw => w_witness2
  case hc =>
    refine ML.law_walkT (xs := ML.tbL) (l := PySem.Challenge.rw_latticeshapes_k80_values_formatted) (k := 10) (x := "_law_script") (m := ML.m_law) (hd := ML.hd) rfl (by kernel_rfl) ⟨⟨rfl, by decide, by decide⟩, rfl⟩ (fun ns hl _ => ML.law_k80 ns (ML.tabW ML.tbL) rfl) ML.tbs fun w mg fa h K X c G hmg0 => ?_
    have hmg : mg ("law" : PySem.Str) = some (.ref fa) := by
      have e : (HandSHeadRun.topDef (OpenLaw.row PySem.Challenge.rw_latticeshapes_k80_values_formatted).prog 53).name = ("law" : PySem.Str) := by kernel_rfl
      rw [← e]
      exact hmg0
    obtain ⟨f, fd, hf, F⟩ := ML.hfl X G c
    have e := hmg.symm.trans hf
    cases e
    exact ⟨fd, fun s v => L2.FunD.bindsA (ps := ["_law_script"]) F (fun _ _ _ _ _ _ us hl => match us, hl with | [_], _ => rfl) s [v] rfl, fun base T => ML.fo_law (ML.hf X G c T) F⟩
