import PyProof.Rows.All
import Wide.All
import OpenK.AllK
import Wide.FinOn
import HandS.ForMost
import HandS.Exc
import HandS.ExcOwn
import HandS.WordsExc
import HandS.CallSlots
import HandS.Wide
import HandS.WideBits
import HandS.TupAny
import HandS.Deep
import HandS.IsInst
import HandS.SortInts
import HandS.Conv
import HandS.Zip
import HandS.Rev
import HandS.NoneIn
import HandS.Style
import HandS.ExcInit
import HandS.ExcIs
import HandS.ExcField
import KE.KExcInit
import HandS.Lambda
import KE.KDictKeyed
import HandS.More
import HandS.SetFor
import KE.GoesEnum
import KE.KAssignIn
import HandS.TupMul
import KE.KExcIs
import KE.KTryMore
import HandS.Strs
import HandS.Dict
import HandS.DictComp
import HandS.DictTup
import HandS.SortKw
import KE.KLam
import KE.SortData
import HandS.DictEq
import HandS.TupSets
import PySem.Challenge.RW_midcarts_k84_whole_all_that_was_ahead
set_option Elab.async false
set_option linter.all false
set_option maxRecDepth 100000
set_option maxHeartbeats 4000000
namespace VL
open PySem L2
/-- data: what a value stands for; ptr: a live (changeable) object; scr: the script -/
inductive D where
  | non | bl (b : Bool) | int (i : Int) | str (x : Str)
  | tup (l : List D) | lst (l : List D) | ptr (a : Addr) | scr (l : List Int) | ty (n : String)
/-- a tuple: tracked -/
def TupAt (K : PySem.W.Frag) (G : Hp) (a : Addr) (xs : List V) : Prop := G a = some (.tup xs)
theorem TupAt.of {K : PySem.W.Frag} {G : Hp} {a : Addr} {xs : List V} (h : G a = some (.tup xs)) : TupAt K G a xs := h
theorem TupAt.sq {K : PySem.W.Frag} {G : Hp} {a : Addr} {xs : List V} (h : TupAt K G a xs) : SqT K G a xs := .inl (.inl h)
mutual
def Rep (K : PySem.W.Frag) (G : Hp) : D → V → Prop
  | .non, v => v = .non
  | .bl b, v => v = .bl b
  | .int i, v => v = .int i
  | .str x, v => v = .str x
  | .tup ds, v => ∃ a vs, v = .ref a ∧ TupAt K G a vs ∧ Reps K G ds vs
  | .lst ds, v => ∃ a vs, v = .ref a ∧ G a = some (.lst vs) ∧ Reps K G ds vs
  | .ptr a, v => v = .ref a
  | .ty n, v => v = .ty n
  | .scr ns, v => ∃ a, v = .ref a ∧ SqL K G a (ns.map V.int)
def Reps (K : PySem.W.Frag) (G : Hp) : List D → List V → Prop
  | [], vs => vs = []
  | d :: ds, vs => ∃ v r, vs = v :: r ∧ Rep K G d v ∧ Reps K G ds r
end
def Le (G G' : Hp) : Prop := ∀ a o, G a = some o → G' a = some o
theorem Le.refl (G : Hp) : Le G G := fun _ _ h => h
theorem Le.trans {A B C : Hp} (x : Le A B) (y : Le B C) : Le A C := fun a o h => y a o (x a o h)
theorem Le.rd {G G' : Hp} {a : Addr} {u : HO} (x : Le G G') (h : Rd G a u) : Rd G' a u := by
  rcases h with h | ⟨o, h⟩
  · exact .inl (x _ _ h)
  · exact .inr ⟨o, x _ _ h⟩
theorem Le.sqT {K : PySem.W.Frag} {G G' : Hp} {a : Addr} {xs : List V} (x : Le G G') (h : SqT K G a xs) : SqT K G' a xs := by
  rcases h with h | h
  · exact .inl (x.rd h)
  · exact .inr h
theorem Le.tup {K : PySem.W.Frag} {G G' : Hp} {a : Addr} {xs : List V} (x : Le G G') (h : TupAt K G a xs) : TupAt K G' a xs := x _ _ h
theorem Le.sqL {K : PySem.W.Frag} {G G' : Hp} {a : Addr} {xs : List V} (x : Le G G') (h : SqL K G a xs) : SqL K G' a xs := by
  rcases h with h | h
  · exact .inl (x.rd h)
  · exact .inr h
mutual
theorem Rep.mono {K : PySem.W.Frag} {G G' : Hp} (x : Le G G') : ∀ (d : D) (v : V), Rep K G d v → Rep K G' d v
  | .non, _, h => h
  | .bl _, _, h => h
  | .int _, _, h => h
  | .str _, _, h => h
  | .ptr _, _, h => h
  | .ty _, _, h => h
  | .tup ds, v, h => by
    obtain ⟨a, vs, e, hs, hr⟩ := h
    exact ⟨a, vs, e, x.tup hs, Reps.mono x ds vs hr⟩
  | .lst ds, v, h => by
    obtain ⟨a, vs, e, hs, hr⟩ := h
    exact ⟨a, vs, e, x _ _ hs, Reps.mono x ds vs hr⟩
  | .scr ns, v, h => by
    obtain ⟨a, e, hs⟩ := h
    exact ⟨a, e, x.sqL hs⟩
theorem Reps.mono {K : PySem.W.Frag} {G G' : Hp} (x : Le G G') : ∀ (ds : List D) (vs : List V), Reps K G ds vs → Reps K G' ds vs
  | [], _, h => h
  | d :: ds, vs, h => by
    obtain ⟨v, r, e, h1, h2⟩ := h
    exact ⟨v, r, e, Rep.mono x d v h1, Reps.mono x ds r h2⟩
end
section
variable {K : PySem.W.Frag} {G : Hp}
theorem Reps.length : ∀ {ds : List D} {vs : List V}, Reps K G ds vs → ds.length = vs.length
  | [], _, h => by cases h; rfl
  | d :: ds, _, h => by
    obtain ⟨v, r, rfl, _, h2⟩ := h
    simp [Reps.length h2]
theorem Reps.get : ∀ {ds : List D} {vs : List V} {i : Nat} {d : D}, Reps K G ds vs → ds[i]? = some d → ∃ v, vs[i]? = some v ∧ Rep K G d v
  | [], _, _, _, _, e => by simp at e
  | _ :: _, _, 0, _, h, e => by
    obtain ⟨v, r, rfl, h1, _⟩ := h
    simp at e; subst e
    exact ⟨v, rfl, h1⟩
  | _ :: ds, _, i + 1, d, h, e => by
    obtain ⟨v, r, rfl, _, h2⟩ := h
    obtain ⟨u, a, b⟩ := Reps.get (i := i) (d := d) h2 (by simpa using e)
    exact ⟨u, by simpa using a, b⟩
theorem Reps.app : ∀ {ds es : List D} {vs ws : List V}, Reps K G ds vs → Reps K G es ws → Reps K G (ds ++ es) (vs ++ ws)
  | [], _, _, _, h, k => by cases h; exact k
  | d :: ds, _, _, _, h, k => by
    obtain ⟨v, r, rfl, h1, h2⟩ := h
    exact ⟨v, _, rfl, h1, Reps.app h2 k⟩
theorem Reps.one {d : D} {v : V} (h : Rep K G d v) : Reps K G [d] [v] := ⟨v, [], rfl, h, rfl⟩
theorem Reps.take : ∀ {ds : List D} {vs : List V} (n : Nat), Reps K G ds vs → Reps K G (ds.take n) (vs.take n)
  | _, _, 0, _ => rfl
  | [], _, _ + 1, h => by cases h; rfl
  | d :: ds, _, n + 1, h => by
    obtain ⟨v, r, rfl, h1, h2⟩ := h
    exact ⟨v, _, rfl, h1, Reps.take n h2⟩
theorem Reps.drop : ∀ {ds : List D} {vs : List V} (n : Nat), Reps K G ds vs → Reps K G (ds.drop n) (vs.drop n)
  | _, _, 0, h => h
  | [], _, _ + 1, h => by cases h; rfl
  | d :: ds, _, n + 1, h => by
    obtain ⟨v, r, rfl, h1, h2⟩ := h
    exact Reps.drop n h2
theorem Reps.set {x : D} {u : V} (q : Rep K G x u) : ∀ {ds : List D} {vs : List V} (i : Nat), Reps K G ds vs → Reps K G (ds.set i x) (vs.set i u)
  | [], _, _, h => by cases h; rfl
  | d :: ds, _, 0, h => by
    obtain ⟨v, r, rfl, h1, h2⟩ := h
    exact ⟨u, r, rfl, q, h2⟩
  | d :: ds, _, i + 1, h => by
    obtain ⟨v, r, rfl, h1, h2⟩ := h
    exact ⟨v, _, rfl, h1, Reps.set q i h2⟩
theorem Reps.erase : ∀ {ds : List D} {vs : List V} (i : Nat), Reps K G ds vs → Reps K G (ds.eraseIdx i) (vs.eraseIdx i)
  | [], _, _, h => by cases h; rfl
  | d :: ds, _, 0, h => by
    obtain ⟨v, r, rfl, h1, h2⟩ := h
    exact h2
  | d :: ds, _, i + 1, h => by
    obtain ⟨v, r, rfl, h1, h2⟩ := h
    exact ⟨v, _, rfl, h1, Reps.erase i h2⟩
theorem Reps.rev {ds : List D} {vs : List V} (h : Reps K G ds vs) : Reps K G ds.reverse vs.reverse := by
  induction ds generalizing vs with
  | nil => cases h; rfl
  | cons d ds ih =>
    obtain ⟨v, r, rfl, h1, h2⟩ := h
    rw [List.reverse_cons, List.reverse_cons]
    exact Reps.app (ih h2) (Reps.one h1)
theorem Reps.ints : ∀ {ns : List Int} {vs : List V}, Reps K G (ns.map D.int) vs ↔ vs = ns.map V.int
  | [], _ => Iff.rfl
  | n :: ns, vs => by
    constructor
    · rintro ⟨v, r, rfl, h1, h2⟩
      cases h1
      rw [Reps.ints.mp h2]; rfl
    · rintro rfl
      exact ⟨_, _, rfl, rfl, Reps.ints.mpr rfl⟩
theorem Reps.bls : ∀ {ns : List Bool} {vs : List V}, Reps K G (ns.map D.bl) vs ↔ vs = ns.map V.bl
  | [], _ => Iff.rfl
  | n :: ns, vs => by
    constructor
    · rintro ⟨v, r, rfl, h1, h2⟩
      cases h1
      rw [Reps.bls.mp h2]; rfl
    · rintro rfl
      exact ⟨_, _, rfl, rfl, Reps.bls.mpr rfl⟩
theorem Reps.dropLast : ∀ {ds : List D} {vs : List V}, Reps K G ds vs → Reps K G ds.dropLast vs.dropLast := by
  intro ds vs h
  rw [List.dropLast_eq_take, List.dropLast_eq_take, h.length]
  exact Reps.take _ h
end
/-- the built-in class straight above an own exception class -/
inductive EB where
  | v | l | r | t
def EB.nm : EB → String
  | .v => "ValueError"
  | .l => "LookupError"
  | .r => "RuntimeError"
  | .t => "TypeError"
def EB.new : EB → String
  | .v => "ValueError.__new__"
  | .l => "LookupError.__new__"
  | .r => "RuntimeError.__new__"
  | .t => "TypeError.__new__"
def EB.tl (b : EB) : List Value := [.type b.nm, .type "Exception", .type "BaseException", .type "object"]
/-- what the written part tells of the class n at C -/
structure ExcK (K : PySem.W.Frag) (n : Str) (b : EB) (C : Addr) : Prop where
  ns : PySem.W.nsIn K mainGlobals n = some (some (.ref C))
  nm : (PySem.W.clsIn K C).map (·.name) = some n
  mro : (PySem.W.clsIn K C).map (·.mro) = some (.ref C :: b.tl)
  ini : PySem.W.excInitIn K C b.tl b.new = true
  ovr : PySem.W.excOver K C b.tl = true
  sa : PySem.W.findIn K (.ref C) "__setattr__" = some (some (.builtin "object.__setattr__"))
  no : PySem.W.findIn K (.ref C) "what" = some none
  is : ExcC K C
  tyC : PySem.W.typeIn K (.ref C) = some (.type "type")
  kC : PySem.W.keepIn K (.ref C) = true
/-- at e: an exception of the class at C, its dict at d -/
def exH (e C d : Addr) : HO := .ext fun h => ∃ (o : Obj) (vs : Array Value), h.get? e = some o ∧ o.cls = .ref C ∧ o.dict = some d ∧ o.data = .fields vs
/-- the lambda's body, by its kind: x its parameter, cn the names that it takes from around -/
def lamB (n : Nat) (x : Str) (cn : List Str) (e : Expr) : Prop := match n with
  | 0 => cn = [] ∧ ∃ p q, e = .UnaryOp .USub (.Name x p) q
  | 1 => ∃ y p1 p2 p3 p4 p5, cn = [y] ∧ e = .Call (.Name "int" p1) [.Compare (.Name x p2) [.Gt] [.Name y p3] p4] [] p5
  | 2 => ∃ y p1 p2 p3, cn = [y] ∧ e = .Subscript (.Name y p1) (.Name x p2) p3
  | _ => False
/-- its names -/
structure LamSc (n : Nat) (x : Str) (cn : List Str) (sc : Scope) : Prop where
  kind : sc.kind = .function
  co : sc.isCoroutine = false
  gen : sc.isGenerator = false
  par : sc.names.lookup x = some .local
  nd : (x :: cn).Nodup
  loc : ∀ y ∈ sc.names, y.2 = .local → y.1 = x
  noc : ∀ y ∈ sc.names, y.2 ≠ .cell
  free : ∀ y ∈ sc.names, y.2 = .free → y.1 ∈ cn
  cap : ∀ y ∈ cn, sc.names.lookup y = some .free
  int : n = 1 → sc.names.lookup ("int" : Str) = some .globalImplicit
  dbg : ∀ y ∈ x :: cn, (y == ("__debug__" : Str)) = false ∧ (y == ("__classdict__" : Str)) = false
def lamArgs (x : Str) (p : Pos) : Arguments := { posonlyargs := [], args := [{ arg := x, annotation := none, pos := p }], vararg := none, kwonlyargs := [], kw_defaults := [], kwarg := none, defaults := [] }
/-- a known thing -/
def frzO (o : Obj) : HO := .frz o (.ext fun _ => True)
/-- what the closure's cells hold -/
def CapsAt (K : PySem.W.Frag) (G : Hp) (cl : List (Str × Addr)) : List Str → List D → Prop
  | [], ds => ds = []
  | y :: cn, ds => ∃ d r ca o u v, ds = d :: r ∧ cl.lookup y = some ca ∧ G ca = some (frzO o) ∧ o.data = .cell (some u) ∧ RelV v u ∧ Rep K G d v ∧ CapsAt K G cl cn r
theorem CapsAt.mono {K : PySem.W.Frag} {G G' : Hp} (x : Le G G') {cl : List (Str × Addr)} : ∀ {cn : List Str} {ds : List D}, CapsAt K G cl cn ds → CapsAt K G' cl cn ds
  | [], _, h => h
  | y :: cn, _, ⟨d, r, ca, o, u, v, e, h1, h2, h3, h4, h5, h6⟩ => ⟨d, r, ca, o, u, v, e, h1, x _ _ h2, h3, h4, Rep.mono x _ _ h5, CapsAt.mono x h6⟩
/-- at a: a lambda of the kind n, which has taken caps from around -/
def LamAt (K : PySem.W.Frag) (G : Hp) (a : Addr) (n : Nat) (caps : List D) : Prop := ∃ (x : Str) (cn : List Str) (q : Str) (p : Pos) (body : Expr) (sc : Scope) (cl : List (Str × Addr)) (pm : Value) (c' : Addr) (ctv : Value),
  lamB n x cn body ∧ LamSc n x cn sc ∧ G a = some (frzO (PySem.W.kla_obj "<lambda>" q (lamArgs x p) body sc cl pm c' ctv)) ∧ G c' = some (LamX.CodeO c' q) ∧ (∀ y c, cl.lookup y = some c → y ∈ cn) ∧ (∀ y z c, cl.lookup y = some c → cl.lookup z = some c → y = z) ∧ CapsAt K G cl cn caps
theorem LamAt.mono {K : PySem.W.Frag} {G G' : Hp} (x : Le G G') {a : Addr} {n : Nat} {caps : List D} (h : LamAt K G a n caps) : LamAt K G' a n caps := by
  obtain ⟨x0, cn, q, p, body, sc, cl, pm, c', ctv, h1, h2, h3, h4, h5, h6, h7⟩ := h
  exact ⟨x0, cn, q, p, body, sc, cl, pm, c', ctv, h1, h2, x _ _ h3, x _ _ h4, h5, h6, h7.mono x⟩
/-- the table of code objects of the def x: where it stands, and what it tells -/
def TabAt (K : PySem.W.Frag) (G H : Hp) (a : Addr) (x : Str) : Prop := (∃ c, PySem.W.tabIn K x = some (c, a)) ∧
  ∃ ps : Array Value, H a = some (.tbl ps) ∧ TriplesOk ps.toList ∧ ∀ pos cv, codeAmong pos ps.toList = some cv → ∃ c, cv = .ref c ∧ G c = some (LamX.CodeO c (x ++ ".<locals>." ++ "<lambda>"))
inductive Cell where
  | lst (l : List D)
  | fz (l : List D)
  | dic (l : List (Key × D))
  | dit (l : List (List Key × D))
  | obj (C : Addr) (fs : List (Str × D))
  | exc (n : Str) (b : EB) (d : D)
  | tab (x : Str)
  | fn (n : Nat) (caps : List D)
  /-- a dict with keys of any depth (whole numbers, None, tuples of such), its keys known for good; its age -/
  | gd (ep : Nat) (l : List (D × D))
abbrev Cs := Addr → Option Cell
def cup (c : Cs) (a : Addr) (x : Cell) : Cs := fun b => if b = a then some x else c b
theorem cup_same {c : Cs} {a : Addr} {x : Cell} : cup c a x a = some x := by unfold cup; rw [if_pos rfl]
theorem cup_ne {c : Cs} {a b : Addr} {x : Cell} (h : b ≠ a) : cup c a x b = c b := by unfold cup; rw [if_neg h]
theorem cup_cup {c : Cs} {a : Addr} {x y : Cell} : cup (cup c a x) a y = cup c a y := by
  funext b; unfold cup; split <;> rfl
/-- fewer cells are told -/
def CLe (c c' : Cs) : Prop := ∀ a x, c a = some x → c' a = some x
theorem CLe.refl (c : Cs) : CLe c c := fun _ _ h => h
theorem CLe.trans {a b c : Cs} (x : CLe a b) (y : CLe b c) : CLe a c := fun d o h => y d o (x d o h)
theorem CLe.new {c c' : Cs} {p : Addr} {x : Cell} (h : c p = none) (k : CLe c c') : CLe c (cup c' p x) := fun a y e => by
  have hne : a ≠ p := fun z => by rw [z, h] at e; cases e
  rw [cup_ne hne]; exact k a y e
def RepK {κ : Type} (K : PySem.W.Frag) (G : Hp) (l : List (κ × D)) (l' : List (κ × V)) : Prop := ∃ vs, Reps K G (l.map (·.2)) vs ∧ l' = (l.map (·.1)).zip vs
/-- an instance's fields -/
def RepF (K : PySem.W.Frag) (G : Hp) : List (Str × D) → List (Str × V) → Prop
  | [], fv => fv = []
  | (f, d) :: fs, fv => ∃ v r, fv = (f, v) :: r ∧ Rep K G d v ∧ RepF K G fs r
theorem RepF.mono {K : PySem.W.Frag} {G G' : Hp} (x : Le G G') : ∀ {fs : List (Str × D)} {fv : List (Str × V)}, RepF K G fs fv → RepF K G' fs fv
  | [], _, h => h
  | (f, d) :: fs, _, ⟨v, r, e, h1, h2⟩ => ⟨v, r, e, Rep.mono x _ _ h1, RepF.mono x h2⟩
theorem RepF.len {K : PySem.W.Frag} {G : Hp} : ∀ {fs : List (Str × D)} {fv : List (Str × V)}, RepF K G fs fv → fv.length = fs.length
  | [], _, h => by cases h; rfl
  | (f, d) :: fs, _, ⟨v, r, e, h1, h2⟩ => by subst e; simp [RepF.len h2]
mutual
/-- data as a key of any depth -/
def nkD : D → Option NestedKey
  | .non => some .none
  | .int i => some (.num i)
  | .tup l => (nkDs l).map .tup
  | _ => none
def nkDs : List D → Option (List NestedKey)
  | [] => some []
  | d :: l => match nkD d, nkDs l with
    | some k, some ks => some (k :: ks)
    | _, _ => none
end
/-- a dict by what stands in its one object: keys, where their tuples lie, values -/
def GdO (a : Addr) (ep : Nat) (xs : List (NestedKey × Addr × V)) : HO := .ext fun h => (a == sysModules) = false ∧ xs.length ≤ sizeLine ∧ ∃ vs : List (NestedKey × Addr × Value),
  Paired (fun (p : NestedKey × Addr × V) (q : NestedKey × Addr × Value) => q.1 = p.1 ∧ q.2.1 = p.2.1 ∧ RelV p.2.2 q.2.2) xs vs ∧
  ∃ o es, h.get? a = some o ∧ o.ExactDict ∧ o.data = .dict es ep ∧ (∀ w : World, es.toList = vs.map fun x => ⟨NestedKey.hash w x.1, .ref x.2.1, x.2.2⟩) ∧ (vs.map (·.1)).Nodup
def GdR (K : PySem.W.Frag) (G : Hp) : List (D × D) → List (NestedKey × Addr × V) → Prop
  | [], xs => xs = []
  | (d, e) :: l, xs => ∃ k b v r, xs = (k, b, v) :: r ∧ nkD d = some k ∧ k.depth ≤ 8 ∧ Rep K G d (.ref b) ∧ Rep K G e v ∧ GdR K G l r
theorem GdR.mono {K : PySem.W.Frag} {G G' : Hp} (x : Le G G') : ∀ {l : List (D × D)} {xs : List (NestedKey × Addr × V)}, GdR K G l xs → GdR K G' l xs
  | [], _, h => h
  | (d, e) :: l, _, ⟨k, b, v, r, e1, h1, h2, h3, h4, h5⟩ => ⟨k, b, v, r, e1, h1, h2, Rep.mono x _ _ h3, Rep.mono x _ _ h4, GdR.mono x h5⟩
/-- what stands at a live cell's address -/
def CellAt (K : PySem.W.Frag) (G H : Hp) (a : Addr) : Cell → Prop
  | .lst ds => G a = none ∧ ∃ vs, H a = some (.lst vs) ∧ Reps K G ds vs
  | .fz ds => ∃ vs, G a = some (.lst vs) ∧ Reps K G ds vs
  | .dic l => G a = none ∧ ∃ l', H a = some (.dK l') ∧ RepK K G l l'
  | .dit l => G a = none ∧ ∃ l', H a = some (.dT l') ∧ RepK K G l l'
  | .obj C fs => G a = none ∧ ∃ dx fv, H a = some (.ins C dx fv) ∧ RepF K G fs fv
  | .exc n b d => ∃ C dd u, ExcK K n b C ∧ G a = some (exH a C dd) ∧ G dd = some (.xd [(("what" : Str), u)]) ∧ Rep K G d u
  | .tab x => G a = none ∧ TabAt K G H a x
  | .fn n caps => LamAt K G a n caps
  | .gd ep l => G a = none ∧ ∃ xs, H a = some (GdO a ep xs) ∧ GdR K G l xs
theorem CellAt.there {K : PySem.W.Frag} {G H : Hp} {a : Addr} {x : Cell} (s : Le G H) (h : CellAt K G H a x) : H a ≠ none := by
  cases x with
  | lst ds => obtain ⟨_, vs, e, _⟩ := h; rw [e]; simp
  | fz ds => obtain ⟨vs, e, _⟩ := h; rw [s _ _ e]; simp
  | dic l => obtain ⟨_, vs, e, _⟩ := h; rw [e]; simp
  | dit l => obtain ⟨_, vs, e, _⟩ := h; rw [e]; simp
  | obj C fs => obtain ⟨_, dx, fv, e, _⟩ := h; rw [e]; simp
  | exc n b d => obtain ⟨C, dd, u, _, e, _⟩ := h; rw [s _ _ e]; simp
  | tab x => obtain ⟨_, _, ps, e, _⟩ := h; rw [e]; simp
  | fn n caps => obtain ⟨_, _, _, _, _, _, _, _, _, _, _, _, e, _⟩ := h; rw [s _ _ e]; simp
  | gd ep l => obtain ⟨_, xs, e, _⟩ := h; rw [e]; simp
theorem CellAt.to {K : PySem.W.Frag} {G H G' H' : Hp} {a : Addr} {x : Cell} (g : Le G G') (hg : G a = none → G' a = none) (hh : G a = none → H' a = H a) (h : CellAt K G H a x) : CellAt K G' H' a x := by
  cases x with
  | lst ds => obtain ⟨n, vs, e, r⟩ := h; exact ⟨hg n, vs, by rw [hh n]; exact e, Reps.mono g _ _ r⟩
  | fz ds => obtain ⟨vs, e, r⟩ := h; exact ⟨vs, g _ _ e, Reps.mono g _ _ r⟩
  | dic l => obtain ⟨n, l', e, vs, r, z⟩ := h; exact ⟨hg n, l', by rw [hh n]; exact e, vs, Reps.mono g _ _ r, z⟩
  | dit l => obtain ⟨n, l', e, vs, r, z⟩ := h; exact ⟨hg n, l', by rw [hh n]; exact e, vs, Reps.mono g _ _ r, z⟩
  | obj C fs => obtain ⟨n, dx, fv, e, r⟩ := h; exact ⟨hg n, dx, fv, by rw [hh n]; exact e, r.mono g⟩
  | exc n b d => obtain ⟨C, dd, u, k, e1, e2, r⟩ := h; exact ⟨C, dd, u, k, g _ _ e1, g _ _ e2, Rep.mono g _ _ r⟩
  | tab x => obtain ⟨n, k, ps, e, z1, z2⟩ := h; exact ⟨hg n, k, ps, by rw [hh n]; exact e, z1, fun pos cv hc => let ⟨c, e1, e2⟩ := z2 pos cv hc; ⟨c, e1, g _ _ e2⟩⟩
  | fn n caps => exact LamAt.mono g h
  | gd ep l => obtain ⟨n, xs, e, r⟩ := h; exact ⟨hg n, xs, by rw [hh n]; exact e, r.mono g⟩
/-- lists and tuples have a bounded length -/
def HLen (K : PySem.W.Frag) (H : Hp) : Prop := (∀ a xs, SqL K H a xs → xs.length ≤ sizeLine) ∧ (∀ a xs, SqT K H a xs → xs.length ≤ sizeLine)
theorem hlen_of {X : Cx} {pins : List (Addr × Obj)} {σ : St} {H : Hp} {s : Shared} (I : Inv X pins σ H s) : HLen X.K H :=
  ⟨fun a xs h => let ⟨_, _, _, z⟩ := I.list h; z, fun a xs h => let ⟨_, _, _, z⟩ := I.tuple h; z⟩
/-- the state, as data tell it -/
structure SR (K : PySem.W.Frag) (G : Hp) (c : Cs) (H : Hp) : Prop where
  sub : Le G H
  at_ : ∀ a x, c a = some x → CellAt K G H a x
/-- from state to state -/
structure Gr (G : Hp) (c : Cs) (H : Hp) (G' : Hp) (c' : Cs) (H' : Hp) : Prop where
  g : Le G G'
  keep : ∀ a o, H a = some o → c a = none → H' a = some o
  nc : ∀ a, c' a ≠ none → c a ≠ none ∨ H a = none
  ng : ∀ a o, G' a = some o → G a = some o ∨ c a ≠ none ∨ H a = none
theorem Gr.refl {G : Hp} {c : Cs} {H : Hp} : Gr G c H G c H := ⟨Le.refl _, fun _ _ h _ => h, fun _ h => .inl h, fun _ _ h => .inl h⟩
theorem Gr.trans {G c H G1 c1 H1 G2 c2 H2} (x : Gr G c H G1 c1 H1) (y : Gr G1 c1 H1 G2 c2 H2) : Gr G c H G2 c2 H2 := by
  have k1 : ∀ a, c a = none → H a ≠ none → c1 a = none := fun a h1 h2 => by
    cases e : c1 a with
    | none => rfl
    | some o =>
      rcases x.nc a (by rw [e]; simp) with q | q
      · exact absurd h1 q
      · exact absurd q h2
  have k2 : ∀ a, H1 a = none → c a ≠ none ∨ H a = none := fun a h => by
    cases e : H a with
    | none => exact .inr rfl
    | some o =>
      cases e' : c a with
      | none => rw [x.keep a o e e'] at h; cases h
      | some _ => exact .inl (by simp)
  refine ⟨x.g.trans y.g, fun a o h n => ?_, fun a h => ?_, fun a o h => ?_⟩
  · exact y.keep a o (x.keep a o h n) (k1 a n (by rw [h]; simp))
  · rcases y.nc a h with q | q
    · exact x.nc a q
    · exact k2 a q
  · rcases y.ng a o h with q | q | q
    · exact x.ng a o q
    · rcases x.nc a q with z | z
      · exact .inr (.inl z)
      · exact .inr (.inr z)
    · rcases k2 a q with z | z
      · exact .inr (.inl z)
      · exact .inr (.inr z)
theorem Gr.less {G c H G' c' c'' H'} (x : Gr G c H G' c' H') (h : CLe c'' c') : Gr G c H G' c'' H' :=
  ⟨x.g, x.keep, fun a n => x.nc a (fun z => by
    cases e : c'' a with
    | none => exact n e
    | some o => rw [h a o e] at z; cases z), x.ng⟩
theorem SR.less {K G c c' H} (x : SR K G c H) (h : CLe c' c) : SR K G c' H := ⟨x.sub, fun a o e => x.at_ a o (h a o e)⟩
theorem SR.free {K G c H} (x : SR K G c H) {p : Addr} (h : H p = none) : c p = none ∧ G p = none := by
  constructor
  · cases e : c p with
    | none => rfl
    | some o => exact absurd h ((x.at_ p o e).there x.sub)
  · cases e : G p with
    | none => rfl
    | some o => rw [x.sub p o e] at h; cases h
theorem le_upd {G : Hp} {p : Addr} {o : HO} (h : G p = none) : Le G (upd G p o) := fun a u e => by
  rw [upd_ne (ne_of_none e h)]; exact e
/-- a new object that stays as it is -/
theorem SR.newG {K G c H} (x : SR K G c H) {p : Addr} {o : HO} (h : H p = none) : SR K (upd G p o) c (upd H p o) ∧ Gr G c H (upd G p o) c (upd H p o) := by
  obtain ⟨hc, hg⟩ := x.free h
  have ne : ∀ a y, c a = some y → a ≠ p := fun a y e z => by rw [z, hc] at e; cases e
  refine ⟨⟨fun a u e => ?_, fun a y e => ?_⟩, ⟨le_upd hg, fun a u e _ => ?_, fun a e => .inl e, fun a u e => ?_⟩⟩
  · by_cases z : a = p
    · subst z; rw [upd_same] at e ⊢; exact e
    · rw [upd_ne z] at e ⊢; exact x.sub _ _ e
  · exact (x.at_ a y e).to (le_upd hg) (fun n => by rw [upd_ne (ne a y e)]; exact n) (fun _ => upd_ne (ne a y e))
  · rw [upd_ne (ne_of_none e h)]; exact e
  · by_cases z : a = p
    · subst z; exact .inr (.inr h)
    · rw [upd_ne z] at e; exact .inl e
/-- a new live object -/
theorem SR.newL {K G c H} (x : SR K G c H) {p : Addr} {o : HO} {y : Cell} (h : H p = none) (hy : CellAt K G (upd H p o) p y) : SR K G (cup c p y) (upd H p o) ∧ Gr G c H G (cup c p y) (upd H p o) := by
  obtain ⟨hc, hg⟩ := x.free h
  refine ⟨⟨fun a u e => ?_, fun a z e => ?_⟩, ⟨Le.refl _, fun a u e _ => ?_, fun a e => ?_, fun a u e => .inl e⟩⟩
  · rw [upd_ne (ne_of_none e hg)]; exact x.sub _ _ e
  · by_cases q : a = p
    · subst q; rw [cup_same] at e; cases e; exact hy
    · rw [cup_ne q] at e
      exact (x.at_ a z e).to (Le.refl _) (fun n => n) (fun _ => upd_ne q)
  · rw [upd_ne (ne_of_none e h)]; exact e
  · by_cases q : a = p
    · subst q; exact .inr h
    · rw [cup_ne q] at e; exact .inl e
/-- a live object changed -/
theorem SR.write {K G c H} (x : SR K G c H) {p : Addr} {o : HO} {y y0 : Cell} (h : c p = some y0) (hg : G p = none) (hy : CellAt K G (upd H p o) p y) : SR K G (cup c p y) (upd H p o) ∧ Gr G c H G (cup c p y) (upd H p o) := by
  refine ⟨⟨fun a u e => ?_, fun a z e => ?_⟩, ⟨Le.refl _, fun a u e n => ?_, fun a e => ?_, fun a u e => .inl e⟩⟩
  · rw [upd_ne (ne_of_none e hg)]; exact x.sub _ _ e
  · by_cases q : a = p
    · subst q; rw [cup_same] at e; cases e; exact hy
    · rw [cup_ne q] at e
      exact (x.at_ a z e).to (Le.refl _) (fun n => n) (fun _ => upd_ne q)
  · have q : a ≠ p := fun z => by rw [z, h] at n; cases n
    rw [upd_ne q]; exact e
  · by_cases q : a = p
    · subst q; exact .inl (by rw [h]; simp)
    · rw [cup_ne q] at e; exact .inl e
/-- an object beside is changed -/
theorem SR.other {K G c H} (x : SR K G c H) {p : Addr} {o : HO} (hc : c p = none) (hg : G p = none) : SR K G c (upd H p o) :=
  ⟨fun a u e => by rw [upd_ne (ne_of_none e hg)]; exact x.sub _ _ e, fun a z e => (x.at_ a z e).to (Le.refl _) (fun n => n) (fun _ => upd_ne (fun q => by rw [q, hc] at e; cases e))⟩
/-- a live list comes to stay as it is -/
theorem SR.freeze {K G c H} (x : SR K G c H) {p : Addr} {ds : List D} (h : c p = some (.lst ds)) : ∃ vs, Reps K G ds vs ∧ SR K (upd G p (.lst vs)) (cup c p (.fz ds)) H ∧ Gr G c H (upd G p (.lst vs)) (cup c p (.fz ds)) H := by
  obtain ⟨hg, vs, hv, hr⟩ := x.at_ p _ h
  refine ⟨vs, hr, ⟨fun a u e => ?_, fun a z e => ?_⟩, ⟨le_upd hg, fun a u e n => e, fun a e => ?_, fun a u e => ?_⟩⟩
  · by_cases q : a = p
    · subst q; rw [upd_same] at e; cases e; exact hv
    · rw [upd_ne q] at e; exact x.sub _ _ e
  · by_cases q : a = p
    · subst q; rw [cup_same] at e; cases e; exact ⟨vs, upd_same, Reps.mono (le_upd hg) _ _ hr⟩
    · rw [cup_ne q] at e
      exact (x.at_ a z e).to (le_upd hg) (fun n => by rw [upd_ne q]; exact n) (fun _ => rfl)
  · by_cases q : a = p
    · subst q; exact .inl (by rw [h]; simp)
    · rw [cup_ne q] at e; exact .inl e
  · by_cases q : a = p
    · subst q; exact .inr (.inl (by rw [h]; simp))
    · rw [upd_ne q] at e; exact .inl e
abbrev En := List (Option D)
def EnR (K : PySem.W.Frag) (G : Hp) (en : En) (σ : St) : Prop := en.length = σ.length ∧ ∀ (i : Nat) (d : D), en[i]? = some (some d) → ∃ v, σ[i]? = some (some v) ∧ Rep K G d v
theorem EnR.mono {K : PySem.W.Frag} {G G' : Hp} {en : En} {σ : St} (g : Le G G') (h : EnR K G en σ) : EnR K G' en σ := ⟨h.1, fun i d e => let ⟨v, a, b⟩ := h.2 i d e; ⟨v, a, Rep.mono g _ _ b⟩⟩
theorem EnR.set {K : PySem.W.Frag} {G : Hp} {en : En} {σ : St} (h : EnR K G en σ) {i : Nat} {d : D} {v : V} (r : Rep K G d v) : EnR K G (en.set i (some d)) (σ.set i (some v)) := by
  refine ⟨by simp [h.1], fun j e he => ?_⟩
  by_cases q : i = j
  · subst q
    by_cases z : i < en.length
    · rw [List.getElem?_set_self z] at he
      cases he
      exact ⟨v, List.getElem?_set_self (by rw [← h.1]; exact z), r⟩
    · rw [List.getElem?_eq_none (by simpa using z)] at he; cases he
  · rw [List.getElem?_set_ne q] at he ⊢
    exact h.2 j e he
theorem EnR.unset {K : PySem.W.Frag} {G : Hp} {en : En} {σ : St} (h : EnR K G en σ) (i : Nat) : EnR K G (en.set i none) (σ.set i none) := by
  refine ⟨by simp [h.1], fun j e he => ?_⟩
  by_cases q : i = j
  · subst q
    by_cases z : i < en.length
    · rw [List.getElem?_set_self z] at he; cases he
    · rw [List.getElem?_eq_none (by simpa using z)] at he; cases he
  · rw [List.getElem?_set_ne q] at he ⊢
    exact h.2 j e he
def ewipe (en : En) : List Nat → En
  | [] => en
  | v :: vs => (ewipe en vs).set v none
theorem EnR.wipe {K : PySem.W.Frag} {G : Hp} {en : En} {σ : St} (h : EnR K G en σ) : ∀ vs : List Nat, EnR K G (ewipe en vs) (wipe σ vs)
  | [] => h
  | v :: vs => (EnR.wipe h vs).unset v
abbrev DK := D → Cs → Prop
abbrev XK0 := Str → D → Cs → Prop
abbrev XD := Str → D → En → Cs → Prop
def noX : XD := fun _ _ _ _ => False
abbrev WE := En → Cs → DK → XD → Prop
abbrev WT := En → Cs → (Bool → Cs → Prop) → XD → Prop
abbrev WA := En → Cs → (List D → Cs → Prop) → XD → Prop
structure EndD where
  nx : En → Cs → Prop
  rt : DK
  bk : En → Cs → Prop := fun _ _ => False
  ct : En → Cs → Prop := fun _ _ => False
abbrev WS := EndD → XD → En → Cs → Prop
/-- an own exception as it leaves: its class is the module's name n; its field what is d -/
def ExcAt (K : PySem.W.Frag) (mg : Str → Option Value) (G H : Hp) (n : Str) (d : D) (cls : Value) (dx : Option Addr) : Prop :=
  mg n = some cls ∧ ∃ dd v, dx = some dd ∧ G dd = some (.xd [(("what" : Str), v)]) ∧ Rep K G d v
/-- what the exceptions that leave reach -/
def XOk (K : PySem.W.Frag) (mg : Str → Option Value) (W : WX) (X0 : XD) (G : Hp) (c : Cs) (H : Hp) : Prop :=
  ∀ n d en' c' cls dx σ' H' G', X0 n d en' c' → Gr G c H G' c' H' → SR K G' c' H' → EnR K G' en' σ' → ExcAt K mg G' H' n d cls dx → W cls dx σ' H'
theorem XOk.more {K mg W X0 G c H G1 c1 H1} (h : XOk K mg W X0 G c H) (g : Gr G c H G1 c1 H1) : XOk K mg W X0 G1 c1 H1 :=
  fun n d en' c' cls dx σ' H' G' x g' s e a => h n d en' c' cls dx σ' H' G' x (g.trans g') s e a
theorem XOk.none {K mg W G c H} : XOk K mg W noX G c H := fun _ _ _ _ _ _ _ _ _ x => x.elim
section
variable (K : PySem.W.Frag) (mg : Str → Option Value) (W : WX)
def rdE (w : WE) : TE := fun σ H Q => ∃ G en c Q0 X0, SR K G c H ∧ EnR K G en σ ∧ w en c Q0 X0 ∧ XOk K mg W X0 G c H ∧
  ∀ d c' v H' G', Q0 d c' → Gr G c H G' c' H' → SR K G' c' H' → Rep K G' d v → Q v H'
def rdT (w : WT) : TT := fun σ H Q => ∃ G en c Q0 X0, SR K G c H ∧ EnR K G en σ ∧ w en c Q0 X0 ∧ XOk K mg W X0 G c H ∧
  ∀ b c' H' G', Q0 b c' → Gr G c H G' c' H' → SR K G' c' H' → Q b H'
def rdA (w : WA) : TA := fun σ H Q => ∃ G en c Q0 X0, SR K G c H ∧ EnR K G en σ ∧ w en c Q0 X0 ∧ XOk K mg W X0 G c H ∧
  ∀ ds c' vs H' G', Q0 ds c' → Gr G c H G' c' H' → SR K G' c' H' → Reps K G' ds vs → Q vs H'
def StK (G : Hp) (c : Cs) (H : Hp) (P : En → Cs → Prop) (Q : St → Hp → Prop) : Prop := ∀ en' c' σ' H' G', P en' c' → Gr G c H G' c' H' → SR K G' c' H' → EnR K G' en' σ' → Q σ' H'
theorem StK.more {K G c H G1 c1 H1 P Q} (h : StK K G c H P Q) (g : Gr G c H G1 c1 H1) : StK K G1 c1 H1 P Q := fun en' c' σ' H' G' p g' s e => h en' c' σ' H' G' p (g.trans g') s e
def RtK (G : Hp) (c : Cs) (H : Hp) (P : DK) (Q : VK) : Prop := ∀ d c' v H' G', P d c' → Gr G c H G' c' H' → SR K G' c' H' → Rep K G' d v → Q v H'
theorem RtK.more {K G c H G1 c1 H1 P Q} (h : RtK K G c H P Q) (g : Gr G c H G1 c1 H1) : RtK K G1 c1 H1 P Q := fun d c' v H' G' p g' s e => h d c' v H' G' p (g.trans g') s e
structure EndK (G : Hp) (c : Cs) (H : Hp) (D0 : EndD) (D : Ends) : Prop where
  nx : StK K G c H D0.nx D.nx
  rt : RtK K G c H D0.rt D.rt
  bk : StK K G c H D0.bk D.bk
  ct : StK K G c H D0.ct D.ct
def rdS (w : WS) : TS := fun D σ H => ∃ G en c D0 X0, SR K G c H ∧ EnR K G en σ ∧ w D0 X0 en c ∧ XOk K mg W X0 G c H ∧ EndK K G c H D0 D
end
theorem EndK.more {K G c H G1 c1 H1 D0 D} (h : EndK K G c H D0 D) (g : Gr G c H G1 c1 H1) : EndK K G1 c1 H1 D0 D := ⟨h.nx.more g, h.rt.more g, h.bk.more g, h.ct.more g⟩
/-- the judgements, by data -/
abbrev JE (X : Cx) (W : WX) (e : Expr) (w : WE) : Prop := PE X e (rdE X.K X.mg W w)
abbrev JT (X : Cx) (W : WX) (e : Expr) (w : WT) : Prop := PT X e (rdT X.K X.mg W w)
abbrev JA (X : Cx) (W : WX) (es : List Expr) (w : WA) : Prop := PA X es (rdA X.K X.mg W w)
abbrev JS (X : Cx) (W : WX) (st : Stmt) (w : WS) : Prop := PS X st (rdS X.K X.mg W w)
abbrev JSs (X : Cx) (W : WX) (st : List Stmt) (w : WS) : Prop := PSs X st (rdS X.K X.mg W w)
section
variable {X : Cx}
/-- another reading -/
theorem PE.of {e : Expr} {t t' : TE} (h : PE X e t) (k : ∀ σ H Q, t' σ H Q → t σ H Q) : PE X e t' := ⟨fun pins s σ H Q I q => h.run pins s σ H Q I (k σ H Q q)⟩
theorem PT.of {e : Expr} {t t' : TT} (h : PT X e t) (k : ∀ σ H Q, t' σ H Q → t σ H Q) : PT X e t' := ⟨fun pins s σ H Q I q => h.run pins s σ H Q I (k σ H Q q)⟩
theorem PW.of {e : Expr} {t t' : TT} (h : PW X e t) (k : ∀ σ H Q, t' σ H Q → t σ H Q) : PW X e t' := ⟨fun wh pins s σ H Q I q => h.run wh pins s σ H Q I (k σ H Q q)⟩
theorem PA.of {e : List Expr} {t t' : TA} (h : PA X e t) (k : ∀ σ H Q, t' σ H Q → t σ H Q) : PA X e t' := ⟨fun pos pins s σ H Q I q => h.run pos pins s σ H Q I (k σ H Q q)⟩
theorem PS.of {e : Stmt} {t t' : TS} (h : PS X e t) (k : ∀ D σ H, t' D σ H → t D σ H) : PS X e t' := ⟨fun pins s σ H D I q => h.run pins s σ H D I (k D σ H q)⟩
theorem PSs.of {e : List Stmt} {t t' : TS} (h : PSs X e t) (k : ∀ D σ H, t' D σ H → t D σ H) : PSs X e t' := ⟨fun pins s σ H D I q => h.run pins s σ H D I (k D σ H q)⟩
theorem PG.of {e : Expr} {t t' : TG} (h : PG X e t) (k : ∀ v σ H Q, t' v σ H Q → t v σ H Q) : PG X e t' := ⟨fun pins s σ H v u Q I r q => h.run pins s σ H v u Q I r (k v σ H Q q)⟩
/-- a walk's reading, the lengths known -/
theorem PI.of {tg it : Expr} {t t' : TI} (h : PI X tg it t) (k : ∀ σ H R, t' σ H R → t σ H (fun J H' => HLen X.K H' → R J H')) : PI X tg it t' := by
  refine ⟨fun pins s σ H R I q => ?_⟩
  refine thn (h.run pins s σ H _ I (k σ H R q)) fun v s1 h1 => thn h1 fun u s2 ⟨a, fp, tn, J, H', e, I', T, z1, z2, z3⟩ => ⟨a, fp, tn, J, H', e, I', T, z1, z2, z3 (hlen_of I')⟩
end
end VL
namespace VL
open PySem PySem.Spec PyProof.Rows L2
abbrev Ctr := List D → Cs → DK → XK0 → Prop
/-- a def's promise, by data; n: how many parameters -/
def spD (K : PySem.W.Frag) (mg : Str → Option Value) (n : Nat) (ct : Ctr) : Sp := fun vs H Q E => ∃ G ds c Q0 X0, SR K G c H ∧ Reps K G ds vs ∧ ds.length = n ∧ ct ds c Q0 X0 ∧ RtK K G c H Q0 Q ∧
  ∀ m d c' cls dx H' G', X0 m d c' → Gr G c H G' c' H' → SR K G' c' H' → ExcAt K mg G' H' m d cls dx → E cls dx H'
structure FnG (P : Program) (w : World) (K : PySem.W.Frag) (mg : Str → Option Value) (base : Heap) (k : Nat) (f : Addr) (fd : FuncData) (ps : List Str) (sp : Sp) : Prop where
  len : ∀ vs H Q E, sp vs H Q E → vs.length = ps.length
  run : ∀ (A : Around) (outer : List PySem.Env) (s : Shared) (H : Hp) (args : Args) (us : List Value) (vs : List V) (Q : VK) (E : XK), Room k A → A.guards = some [] → Env0 P w K mg base A outer s H →
    BindsTo s fd args (ps.zip us) → Vals vs us → sp vs H Q E → codeAny (model P w) A (.call (.ref f) args) (CR (L2.CX P w) outer P w H s Q E) s
/-- the state at a body's begin -/
def enOf (n : Nat) (ds : List D) : En := ds.map some ++ List.replicate (n - ds.length) none
theorem enOf_start {K : PySem.W.Frag} {G : Hp} {N : List Str} {ds : List D} {vs : List V} (r : Reps K G ds vs) : EnR K G (enOf N.length ds) (L2.start N vs) := by
  have hl := r.length
  refine ⟨by unfold enOf L2.start; simp [hl], fun i d e => ?_⟩
  unfold enOf at e
  by_cases hi : i < ds.length
  · rw [List.getElem?_append_left (by simpa using hi), List.getElem?_map] at e
    cases q : ds[i]? with
    | none => rw [q] at e; cases e
    | some d' =>
      rw [q] at e
      obtain rfl : d' = d := by simpa using e
      obtain ⟨v, hv, rv⟩ := r.get q
      refine ⟨v, ?_, rv⟩
      unfold L2.start
      rw [List.getElem?_append_left (by rw [List.length_map, ← hl]; exact hi), List.getElem?_map, hv]; rfl
  · rw [List.getElem?_append_right (by simpa using hi), List.getElem?_replicate] at e
    split at e <;> cases e
def endOf (Q : DK) : EndD := { nx := fun _ c' => ∃ c0, CLe c0 c' ∧ Q .non c0, rt := fun d c' => ∃ c0, CLe c0 c' ∧ Q d c0 }
def excOf (X0 : XK0) : XD := fun n d _ c' => ∃ c0, CLe c0 c' ∧ X0 n d c0
abbrev WXE (E : XK) : WX := fun cls d _ H => E cls d H
section
variable {P : Program} {w : World} {K : PySem.W.Frag} {mg : Str → Option Value} {base : Heap}
theorem fnG_of {x qual : Str} {st : Stmt} {f : Addr} {fd : FuncData} {N ps : List Str} {k : Nat} {ct : Ctr} {wb : WS} (F : Fun K x qual st f fd) (S : FnScope N ps (defScope st))
    (hb : ∀ (cdv : Value) (A : Around) (outer : List PySem.Env) (s : Shared) (H : Hp) (E : XK), Room k (A.deeper (envOfC qual (defScope st) s.heap.objs.size f cdv)) → A.guards = some [] →
      JSs (cxOf (L2.CX P w) P w K mg base N qual (defScope st) f cdv A outer s H E) (WXE E) (defBody st) wb)
    (hp : ∀ ds c Q X0, ds.length = ps.length → ct ds c Q X0 → wb (endOf Q) (excOf X0) (enOf N.length ds) c) :
    FnG P w K mg base (k + 1) f fd ps (spD K mg ps.length ct) := by
  obtain ⟨oc, od, kV, doc, pm, an, cdv, cv, osl, rfl, lk, hcd⟩ := F.ex
  have len : ∀ vs H Q E, spD K mg ps.length ct vs H Q E → vs.length = ps.length := by
    rintro vs H Q E ⟨G, ds, c, Q0, X0, _, r, e, _⟩
    rw [← r.length]; exact e
  refine ⟨len, ?_⟩
  intro A outer s H args us vs Q E hr hg e0 hbd hv hsp
  have nv : vs.length = ps.length := len _ _ _ _ hsp
  have kin : K.In s.heap := e0.mod.kin.keeps (fun b o q => (e0.bs b o q).1)
  have nolim : s.heap.NoLimit := e0.mod.nolimit.keeps (fun b o q => (e0.bs b o q).1)
  refine codeAny_call_function hr.depth (kin _ _ lk) rfl S.co S.gen rfl (PySem.W.codeRec_of kin hcd) (hbd _ _ _ _ ?_)
  refine wpAny_newFunctionEnv_cells S.kind ?_ ?_
  · rintro ⟨y, u⟩ hy
    exact (S.par y (List.of_mem_zip hy).1).imp id fun q => ⟨q, PySem.W.cellsFrom_some _ _ _ (.inl q)⟩
  intro env he s1 ic
  subst he
  refine ⟨nolim.keeps ic.toInCall.keep, codeAny_func ?_⟩
  have I := inv_start (CX := L2.CX P w) (E := E) S hr.hd e0 nv hv ic
  obtain ⟨G, ds, c, Q0, X0, sr, rp, dl, hc, hq, hx⟩ := hsp
  have body := hb cdv A outer s H E (hr.deeper _) hg
  have want : rdS K mg (WXE E) wb { nx := fun _ H' => Q .non H', rt := Q } (L2.start N vs) H := by
    refine ⟨G, _, c, _, _, sr, enOf_start rp, hp ds c Q0 X0 dl hc, ?_, ⟨?_, ?_, ?_, ?_⟩⟩
    · rintro m d en' c' cls dx σ' H' G' ⟨c0, le, q⟩ g s2 _ ea
      exact hx m d c0 cls dx H' G' q (g.less le) (s2.less le) ea
    · rintro en' c' σ' H' G' ⟨c0, le, q⟩ g s2 _
      exact hq _ c0 _ H' G' q (g.less le) (s2.less le) rfl
    · rintro d c' v H' G' ⟨c0, le, q⟩ g s2 r2
      exact hq d c0 v H' G' q (g.less le) (s2.less le) r2
    · rintro en' c' σ' H' G' q _ _ _
      exact q.elim
    · rintro en' c' σ' H' G' q _ _ _
      exact q.elim
  refine wpAny_mono (body.run [] s1 (L2.start N vs) H _ I want) ?_ (fun e s' z => z)
  intro fl s' z
  cases fl with
  | ret u => obtain ⟨v, _, H', J, rv, q⟩ := z; exact ⟨v, H', J.os, J.bare, J.base, J.hok, rv, q⟩
  | next => obtain ⟨_, H', J, q⟩ := z; exact ⟨V.non, H', J.os, J.bare, J.base, J.hok, rfl, q⟩
  | brk => obtain ⟨_, _, _, q⟩ := z; cases q
  | cont => obtain ⟨_, _, _, q⟩ := z; cases q
end
/-- at level k a contract one below is at hand -/
def lvl (ct : Nat → Ctr) : Nat → Ctr
  | 0 => fun _ _ _ _ => False
  | k + 1 => ct k
/-- a def that may be called by the module's name x -/
def Cal (P : Program) (w : World) (K : PySem.W.Frag) (mg : Str → Option Value) (base : Heap) (k : Nat) (x : Str) (n : Nat) (ct : Nat → Ctr) : Prop :=
  ∃ f fd ps, mg x = some (.ref f) ∧ PySem.W.keepIn K (.ref f) = true ∧ Binds K fd ps [] ∧ ps.length = n ∧ FnG P w K mg base k f fd ps (spD K mg n (lvl ct k))
def wVar (i : Nat) : WE := fun en c Q _ => match en[i]? with
  | some (some d) => Q d c
  | _ => False
def wC (d : D) : WE := fun _ c Q _ => Q d c
section
variable {X : Cx} {W : WX} {a b e : Expr} {es : List Expr} {wa wb we : WE} {ws : WA} {pos : Pos} {k : Nat}
theorem je_var (i : Nat) {x : Str} (hN : X.N[i]? = some x := by rfl) (hv : Vis X.env.scope x := by first | exact Or.inl rfl | exact Or.inr (Or.inl rfl) | exact Or.inr (Or.inr rfl)) (hd : (x == ("__debug__" : Str)) = false := by decide)
    (hcd : (x == ("__classdict__" : Str)) = false := by decide) : JE X W (.Name x pos) (wVar i) := by
  refine PE.of (pe_var hN hv hd hcd) ?_
  rintro σ H Q ⟨G, en, c, Q0, X0, s, er, q, x0, kk⟩
  unfold wVar at q
  split at q
  · rename_i d hd
    obtain ⟨v, hv, r⟩ := er.2 i d hd
    exact ⟨v, hv, kk d c v H G q Gr.refl s r⟩
  · exact q.elim
theorem je_c {d : D} {v : V} (h : PE X e (tC v)) (r : ∀ K G, Rep K G d v) : JE X W e (wC d) := by
  refine PE.of h ?_
  rintro σ H Q ⟨G, en, c, Q0, X0, s, er, q, x0, kk⟩
  exact kk d c v H G q Gr.refl s (r _ _)
theorem je_int {i : Int} {j : Nat} : JE X W (.Constant (.int i) j pos) (wC (.int i)) := je_c pe_int fun _ _ => rfl
theorem je_bl {i : Bool} {j : Nat} : JE X W (.Constant (.bool i) j pos) (wC (.bl i)) := je_c pe_bl fun _ _ => rfl
theorem je_non {j : Nat} : JE X W (.Constant .none j pos) (wC .non) := je_c pe_non fun _ _ => rfl
theorem je_str {x : Str} {j : Nat} : JE X W (.Constant (.str x) j pos) (wC (.str x)) := je_c pe_str fun _ _ => rfl
abbrev Op1 := D → Cs → DK → Prop
abbrev Op2 := D → D → Cs → DK → Prop
/-- an operation by data is served by a reading over the heap -/
def Fin_ (K : PySem.W.Frag) (G : Hp) (c : Cs) (H : Hp) (Q0 : DK) (Q : VK) : Prop := ∀ d c' v H' G', Q0 d c' → Gr G c H G' c' H' → SR K G' c' H' → Rep K G' d v → Q v H'
def Op2R (X : Cx) (f : Value → Value → Sem Value) (o : Op2) : Prop := ∃ r : R2, OpR X f r ∧
  ∀ G c H x y v u Q0 Q, SR X.K G c H → Rep X.K G x v → Rep X.K G y u → o x y c Q0 → Fin_ X.K G c H Q0 Q → r v u H Q
def wBin (o : Op2) (wa wb : WE) : WE := fun en c Q X => wa en c (fun x c1 => wb en c1 (fun y c2 => o x y c2 Q) X) X
theorem rd_bin {o : Op2} {r : R2} (hr : ∀ G c H x y v u Q0 Q, SR X.K G c H → Rep X.K G x v → Rep X.K G y u → o x y c Q0 → Fin_ X.K G c H Q0 Q → r v u H Q)
    {σ : L2.St} {H : Hp} {Q : VK} {G : Hp} {en : En} {c : Cs} {Q0 : DK} {X0 : XD} (s : SR X.K G c H) (er : EnR X.K G en σ) (q : wBin o wa wb en c Q0 X0) (x0 : XOk X.K X.mg W X0 G c H) (kk : Fin_ X.K G c H Q0 Q) :
    tOp r (rdE X.K X.mg W wa) (rdE X.K X.mg W wb) σ H Q := by
  refine ⟨G, en, c, _, X0, s, er, q, x0, fun d1 c1 v1 H1 G1 q1 g1 s1 r1 => ?_⟩
  refine ⟨G1, en, c1, _, X0, s1, er.mono g1.g, q1, x0.more g1, fun d2 c2 v2 H2 G2 q2 g2 s2 r2 => ?_⟩
  exact hr G2 c2 H2 d1 d2 v1 v2 Q0 Q s2 (Rep.mono g2.g _ _ r1) r2 q2 fun d c' v H' G' z g s' r => kk d c' v H' G' z ((g1.trans g2).trans g) s' r
theorem je_bin {op : Operator} {o : Op2} (ho : Op2R X (binaryOp op) o) (ha : JE X W a wa) (hb : JE X W b wb) : JE X W (.BinOp a op b pos) (wBin o wa wb) := by
  obtain ⟨r, h1, h2⟩ := ho
  exact PE.of (pe_op h1 ha hb) fun σ H Q ⟨G, en, c, Q0, X0, s, er, q, x0, kk⟩ => rd_bin h2 s er q x0 fun d c' v H' G' z g s' r => kk d c' v H' G' z g s' r
theorem je_cmp {op : CmpOp} {o : Op2} (ho : Op2R X (compareOp op) o) (ha : JE X W a wa) (hb : JE X W b wb) (hm : behindInMarks op b = false := by rfl) : JE X W (.Compare a [op] [b] pos) (wBin o wa wb) := by
  obtain ⟨r, h1, h2⟩ := ho
  exact PE.of (pe_cmpR h1 ha hb hm) fun σ H Q ⟨G, en, c, Q0, X0, s, er, q, x0, kk⟩ => rd_bin h2 s er q x0 fun d c' v H' G' z g s' r => kk d c' v H' G' z g s' r
def wUn (o : Op1) (wa : WE) : WE := fun en c Q X => wa en c (fun x c1 => o x c1 Q) X
def onB (Q : Bool → Cs → Prop) : DK := fun d c' => match d with
  | .bl b => Q b c'
  | _ => False
theorem onB_bl {Q : Bool → Cs → Prop} {d : D} {c : Cs} (h : onB Q d c) : ∃ b, d = .bl b ∧ Q b c := by
  cases d <;> first
    | exact h.elim
    | exact ⟨_, rfl, h⟩
def wTst (w : WE) : WT := fun en c Q X => w en c (onB Q) X
theorem jt_val (ha : JE X W a wa) (he : ∀ whole, isTrue a X.env whole = (do let v ← whole; standAt a.pos; holding [v] (truthy v)) := by intro _; rfl) : JT X W a (wTst wa) := by
  refine PT.of (pt_val ha he) fun σ H Q ⟨G, en, c, Q0, X0, s, er, q, x0, kk⟩ => ?_
  refine ⟨G, en, c, _, X0, s, er, q, x0, fun d1 c1 v1 H1 G1 q1 g1 s1 r1 => ?_⟩
  obtain ⟨b, rfl, q1⟩ := onB_bl q1
  exact ⟨b, r1, kk b c1 H1 G1 q1 g1 s1⟩
theorem jt_cmp {op : CmpOp} {o : Op2} (ho : Op2R X (compareOp op) o) (ha : JE X W a wa) (hb : JE X W b wb) (hm : behindInMarks op b = false := by rfl) : JT X W (.Compare a [op] [b] pos) (wTst (wBin o wa wb)) := by
  obtain ⟨r, h1, h2⟩ := ho
  refine PT.of (pt_cmpR h1 ha hb hm) fun σ H Q ⟨G, en, c, Q0, X0, s, er, q, x0, kk⟩ => ?_
  refine rd_bin h2 s er q x0 fun d c' v H' G' z g s' r => ?_
  obtain ⟨b, rfl, z⟩ := onB_bl z
  exact ⟨b, r, kk b c' H' G' z g s'⟩
def wNot (t : WT) : WT := fun en c Q X => t en c (fun b c' => Q (!b) c') X
def wAnd (t u : WT) : WT := fun en c Q X => t en c (fun b c' => if b = true then u en c' Q X else Q false c') X
def wOr (t u : WT) : WT := fun en c Q X => t en c (fun b c' => if b = true then Q true c' else u en c' Q X) X
variable {ta tb : WT} {rest : List Expr}
theorem jt_not (ha : JT X W a ta) : JT X W (.UnaryOp .Not a pos) (wNot ta) := by
  refine PT.of (pt_not ha) fun σ H Q ⟨G, en, c, Q0, X0, s, er, q, x0, kk⟩ => ?_
  exact ⟨G, en, c, _, X0, s, er, q, x0, fun b c' H' G' z g s' => kk (!b) c' H' G' z g s'⟩
abbrev JW (X : Cx) (W : WX) (e : Expr) (w : WT) : Prop := PW X e (rdT X.K X.mg W w)
theorem JW.jt (h : JW X W e ta) : JT X W e ta := PW.pt h
theorem jw_and1 (ha : JT X W a ta) : JW X W (.BoolOp .And [a] pos) ta := pw_and1 ha
theorem jw_or1 (ha : JT X W a ta) : JW X W (.BoolOp .Or [a] pos) ta := pw_or1 ha
theorem jw_and (ha : JT X W a ta) (hb : JW X W (.BoolOp .And (b :: rest) pos) tb) : JW X W (.BoolOp .And (a :: b :: rest) pos) (wAnd ta tb) := by
  refine PW.of (pw_and ha hb) fun σ H Q ⟨G, en, c, Q0, X0, s, er, q, x0, kk⟩ => ?_
  refine ⟨G, en, c, _, X0, s, er, q, x0, fun d1 c1 H1 G1 q1 g1 s1 => ?_⟩
  cases d1 with
  | true => exact iteT ⟨G1, en, c1, _, X0, s1, er.mono g1.g, by simpa [onB] using q1, x0.more g1, fun d c' H' G' z g s' => kk d c' H' G' z (g1.trans g) s'⟩
  | false =>
    refine iteF ?_
    exact kk false c1 H1 G1 (by simpa [onB] using q1) g1 s1
theorem jw_or (ha : JT X W a ta) (hb : JW X W (.BoolOp .Or (b :: rest) pos) tb) : JW X W (.BoolOp .Or (a :: b :: rest) pos) (wOr ta tb) := by
  refine PW.of (pw_or ha hb) fun σ H Q ⟨G, en, c, Q0, X0, s, er, q, x0, kk⟩ => ?_
  refine ⟨G, en, c, _, X0, s, er, q, x0, fun d1 c1 H1 G1 q1 g1 s1 => ?_⟩
  cases d1 with
  | true =>
    refine iteT ?_
    exact kk true c1 H1 G1 (by simpa [onB] using q1) g1 s1
  | false => exact iteF ⟨G1, en, c1, _, X0, s1, er.mono g1.g, by simpa [onB] using q1, x0.more g1, fun d c' H' G' z g s' => kk d c' H' G' z (g1.trans g) s'⟩
/-- and, or, not of truths, as values -/
def wAndV (wa wb : WE) : WE := fun en c Q X => wa en c (onB fun b c' => if b = true then wb en c' Q X else Q (.bl false) c') X
def wOrV (wa wb : WE) : WE := fun en c Q X => wa en c (onB fun b c' => if b = true then Q (.bl true) c' else wb en c' Q X) X
def wNotV (wa : WE) : WE := fun en c Q X => wa en c (onB fun b c' => Q (.bl (!b)) c') X
theorem je_one {op : BoolOp} (h : JE X W a wa) : JE X W (.BoolOp op [a] pos) wa := pe_one h
theorem je_and (ha : JE X W a wa) (hb : JE X W (.BoolOp .And (b :: rest) pos) wb) : JE X W (.BoolOp .And (a :: b :: rest) pos) (wAndV wa wb) := by
  refine PE.of (pe_and ha hb) fun σ H Q ⟨G, en, c, Q0, X0, s, er, q, x0, kk⟩ => ?_
  refine ⟨G, en, c, _, X0, s, er, q, x0, fun d1 c1 v1 H1 G1 q1 g1 s1 r1 => ?_⟩
  obtain ⟨t, rfl, q1⟩ := onB_bl q1
  refine ⟨t, r1, ?_⟩
  cases t with
  | true => exact iteT ⟨G1, en, c1, _, X0, s1, er.mono g1.g, by simpa [onB] using q1, x0.more g1, fun d c' v H' G' z g s' r => kk d c' v H' G' z (g1.trans g) s' r⟩
  | false =>
    refine iteF ?_
    exact kk (.bl false) c1 _ H1 G1 (by simpa [onB] using q1) g1 s1 rfl
def wIf (t : WT) (wa wb : WE) : WE := fun en c Q X => t en c (fun b c' => if b = true then wa en c' Q X else wb en c' Q X) X
theorem je_ifx {t : Expr} (ht : JT X W t ta) (ha : JE X W a wa) (hb : JE X W b wb) : JE X W (.IfExp t a b pos) (wIf ta wa wb) := by
  refine PE.of (pe_ifExp ht ha hb) fun σ H Q ⟨G, en, c, Q0, X0, s, er, q, x0, kk⟩ => ?_
  refine ⟨G, en, c, _, X0, s, er, q, x0, fun d1 c1 H1 G1 q1 g1 s1 => ?_⟩
  cases d1 with
  | true => exact iteT ⟨G1, en, c1, _, X0, s1, er.mono g1.g, by simpa [onB] using q1, x0.more g1, fun d c' v H' G' z g s' r => kk d c' v H' G' z (g1.trans g) s' r⟩
  | false => exact iteF ⟨G1, en, c1, _, X0, s1, er.mono g1.g, by simpa [onB] using q1, x0.more g1, fun d c' v H' G' z g s' r => kk d c' v H' G' z (g1.trans g) s' r⟩
def wNil : WA := fun _ c Q _ => Q [] c
def wCons (w : WE) (ws : WA) : WA := fun en c Q X => w en c (fun d c1 => ws en c1 (fun ds c2 => Q (d :: ds) c2) X) X
theorem ja_nil : JA X W [] wNil := PA.of pa_nil fun σ H Q ⟨G, en, c, Q0, X0, s, er, q, x0, kk⟩ => kk [] c [] H G q Gr.refl s rfl
theorem ja_cons (he : JE X W e we) (hs : JA X W es ws) (h : starEach (e :: es) X.env = (false, eval e X.env) :: starEach es X.env := by rfl) : JA X W (e :: es) (wCons we ws) := by
  refine PA.of (pa_cons he hs h) fun σ H Q ⟨G, en, c, Q0, X0, s, er, q, x0, kk⟩ => ?_
  refine ⟨G, en, c, _, X0, s, er, q, x0, fun d1 c1 v1 H1 G1 q1 g1 s1 r1 => ?_⟩
  exact ⟨G1, en, c1, _, X0, s1, er.mono g1.g, q1, x0.more g1, fun ds c' vs H' G' z g s' r => kk _ c' _ H' G' z (g1.trans g) s' ⟨v1, vs, rfl, Rep.mono g.g _ _ r1, r⟩⟩
def wTup (ws : WA) : WE := fun en c Q X => ws en c (fun ds c1 => ds.length ≤ sizeLine ∧ Q (.tup ds) c1) X
/-- a list display whose list stays as it is; one that lives -/
def wLst (ws : WA) : WE := fun en c Q X => ws en c (fun ds c1 => ds.length ≤ sizeLine ∧ Q (.lst ds) c1) X
def wLstL (ws : WA) : WE := fun en c Q X => ws en c (fun ds c1 => ds.length ≤ sizeLine ∧ ∀ p, c1 p = none → Q (.ptr p) (cup c1 p (.lst ds))) X
theorem je_tup {x1 : Nat} (h : JA X W es ws) : JE X W (.Tuple es x1 pos) (wTup ws) := by
  refine PE.of (pe_tup h) fun σ H Q ⟨G, en, c, Q0, X0, s, er, q, x0, kk⟩ => ?_
  refine ⟨G, en, c, _, X0, s, er, q, x0, fun ds c1 vs H1 G1 ⟨z, q1⟩ g1 s1 r1 => ⟨by rw [← r1.length]; exact z, fun p hp => ?_⟩⟩
  obtain ⟨s2, g2⟩ := s1.newG hp
  exact kk _ c1 _ _ _ q1 (g1.trans g2) s2 ⟨p, vs, rfl, TupAt.of upd_same, Reps.mono g2.g _ _ r1⟩
theorem je_lst (h : JA X W es ws) : JE X W (.List es pos) (wLst ws) := by
  refine PE.of (pe_lst h) fun σ H Q ⟨G, en, c, Q0, X0, s, er, q, x0, kk⟩ => ?_
  refine ⟨G, en, c, _, X0, s, er, q, x0, fun ds c1 vs H1 G1 ⟨z, q1⟩ g1 s1 r1 => ⟨by rw [← r1.length]; exact z, fun p hp => ?_⟩⟩
  obtain ⟨s2, g2⟩ := s1.newG hp
  exact kk _ c1 _ _ _ q1 (g1.trans g2) s2 ⟨p, vs, rfl, upd_same, Reps.mono g2.g _ _ r1⟩
theorem je_lstL (h : JA X W es ws) : JE X W (.List es pos) (wLstL ws) := by
  refine PE.of (pe_lst h) fun σ H Q ⟨G, en, c, Q0, X0, s, er, q, x0, kk⟩ => ?_
  refine ⟨G, en, c, _, X0, s, er, q, x0, fun ds c1 vs H1 G1 ⟨z, q1⟩ g1 s1 r1 => ⟨by rw [← r1.length]; exact z, fun p hp => ?_⟩⟩
  obtain ⟨hc, hg⟩ := s1.free hp
  obtain ⟨s2, g2⟩ := s1.newL (y := .lst ds) hp ⟨hg, vs, upd_same, r1⟩
  exact kk _ _ _ _ _ (q1 p hc) (g1.trans g2) s2 rfl
/-- a value that was live is told as one that stays -/
def wFz (w : WE) : WE := fun en c Q X => w en c (fun d c1 => match d with
  | .ptr p => match c1 p with
    | some (.lst ds) => Q (.lst ds) (cup c1 p (.fz ds))
    | some (.fz ds) => Q (.lst ds) c1
    | _ => False
  | d => Q d c1) X
theorem je_fz (h : JE X W e we) : JE X W e (wFz we) := by
  refine PE.of h fun σ H Q ⟨G, en, c, Q0, X0, s, er, q, x0, kk⟩ => ?_
  refine ⟨G, en, c, _, X0, s, er, q, x0, fun d1 c1 v1 H1 G1 q1 g1 s1 r1 => ?_⟩
  cases d1 with
  | ptr p =>
    dsimp only at q1
    split at q1
    · rename_i ds hd
      obtain ⟨vs, rv, s2, g2⟩ := s1.freeze hd
      exact kk _ _ _ _ _ q1 (g1.trans g2) s2 ⟨p, vs, r1, upd_same, Reps.mono g2.g _ _ rv⟩
    · rename_i ds hd
      obtain ⟨vs, e1, e2⟩ := s1.at_ _ _ hd
      exact kk _ _ _ _ _ q1 g1 s1 ⟨p, vs, r1, e1, e2⟩
    · exact q1.elim
  | _ => exact kk _ _ _ _ _ q1 g1 s1 r1
/-- a def of the module is called -/
def wCall (n : Nat) (ct : Nat → Ctr) (k : Nat) (ws : WA) : WE := fun en c Q X => ws en c (fun ds c1 => ds.length = n ∧ lvl ct k ds c1 Q (fun n d c2 => X n d en c2)) X
theorem run_fnG {x : Str} {n : Nat} {f : Addr} {fd : FuncData} {ps : List Str} {sp : Sp} {pins : List (Addr × Obj)} {σ : L2.St} {H : Hp} {s : Shared} {Q : VK} {E : XK} {us : List Value} {vs : List V} (F : FnG X.prog X.w X.K X.mg X.base k f fd ps sp) (hr : Room k X.A) (hg : X.A.guards = some [])
    (hb : Binds X.K fd ps []) (hx : PassesAt (L2.CX X.prog X.w) X σ E) (I : Inv X pins σ H s) (r : Vals vs us) (h : sp vs H Q E) : wpAny (model X.prog X.w) X.A (call (.ref f) us) (EP X pins σ Q) X.xe s := by
  have nl : us.length = ps.length := r.length.symm.trans (F.len vs H Q E h)
  have bd := hb s us I.kIn (by rw [List.append_nil]; exact nl)
  rw [List.append_nil] at bd
  refine wpAny_call (codeAny_mono (F.run X.A X.stack s H ⟨us, []⟩ us vs Q E hr hg I.env0 bd r h) ?_)
  rintro (e | fl) s' z
  · exact hx pins H s e s' I z
  · cases fl <;> first
      | exact False.elim z
      | exact I.after z
theorem je_call {x : Str} {n : Nat} {ct : Nat → Ctr} {p : Pos} (cl : Cal X.prog X.w X.K X.mg X.base k x n ct) (hr : Room k X.A) (hg : X.A.guards = some []) (tk : Takes X W) (ha : JA X W (e :: es) ws) (hgl : Gl X x := by rfl)
    (hdb : (x == ("__debug__" : Str)) = false := by decide) (he : starEach (e :: es) X.env = (false, eval e X.env) :: starEach es X.env := by rfl) (hpl : (backTo pos (starEach es X.env)).any (·.1) = false := by rfl) :
    JE X W (.Call (.Name x p) (e :: es) [] pos) (wCall n ct k ws) := by
  obtain ⟨f, fd, ps, hm, hk, hb, hl, F⟩ := cl
  refine ⟨fun pins s0 σ H Q I ⟨G, en, c, Q0, X0, s, er, q, x0, kk⟩ => ?_⟩
  refine wpAny_Call_Name_kw (ld_glob I hgl hm ?_ hdb)
  refine PySem.W.callWith_K (h₀ := X.base) I.ok.mod.kin hk ?_ he hpl
  refine thn (ha.run pos pins s0 σ H (fun vs H1 => spD X.K X.mg n (lvl ct k) vs H1 Q (L2.WE W σ)) I ?_) fun us s1 ⟨vs, H1, I1, r, z⟩ => ⟨I1.kIn, ?_⟩
  · refine ⟨G, en, c, fun ds c1 => ds.length = n ∧ lvl ct k ds c1 Q0 (fun n d c2 => X0 n d en c2), X0, s, er, q, x0, fun ds c1 vs H1 G1 ⟨hlen, q1⟩ g1 s1 r1 => ?_⟩
    · refine ⟨G1, ds, c1, Q0, _, s1, r1, hlen, q1, fun d c' v H' G' z g s' r' => kk d c' v H' G' z (g1.trans g) s' r', ?_⟩
      intro m d c' cls dx H' G' z g s' ea
      exact x0 m d en c' cls dx σ H' G' z (g1.trans g) s' (er.mono (g1.trans g).g) ea
  · refine thn (run_fnG (x := x) (n := n) F hr hg hb (passAt tk σ) I1 r z) fun u s2 z => z
end
end VL
namespace VL
open PySem PySem.Spec PyProof.Rows L2
/-- the items of a list that is tracked as one -/
def lstOf (c : Cs) : D → Option (List D)
  | .lst l => some l
  | .ptr p => match c p with
    | some (.lst l) => some l
    | some (.fz l) => some l
    | _ => none
  | _ => none
/-- the items of a list, the script, a tuple -/
def seqOf (c : Cs) : D → Option (List D)
  | .tup l => some l
  | .scr ns => some (ns.map .int)
  | d => lstOf c d
def isTup : D → Bool
  | .tup _ => true
  | _ => false
section
variable {K : PySem.W.Frag} {G : Hp} {c : Cs} {H : Hp}
theorem lst_at {d : D} {v : V} {l : List D} (s : SR K G c H) (r : Rep K G d v) (h : lstOf c d = some l) : ∃ a vs, v = .ref a ∧ H a = some (.lst vs) ∧ Reps K G l vs := by
  cases d with
  | lst l' =>
    obtain ⟨a, vs, e, h1, h2⟩ := r
    cases h
    exact ⟨a, vs, e, s.sub _ _ h1, h2⟩
  | ptr p =>
    have e : v = .ref p := r
    have h : (match c p with | some (.lst l) => some l | some (.fz l) => some l | _ => none) = some l := h
    cases hc : c p with
    | none => rw [hc] at h; cases h
    | some x =>
      rw [hc] at h
      cases x with
      | lst l' =>
        cases h
        obtain ⟨_, vs, h1, h2⟩ := s.at_ _ _ hc
        exact ⟨p, vs, e, h1, h2⟩
      | fz l' =>
        cases h
        obtain ⟨vs, h1, h2⟩ := s.at_ _ _ hc
        exact ⟨p, vs, e, s.sub _ _ h1, h2⟩
      | dic l' => cases h
      | dit l' => cases h
      | obj C fs => cases h
      | exc _ _ _ => cases h
      | tab _ => cases h
      | fn _ _ => cases h
      | gd _ _ => cases h
  | _ => cases h
theorem seq_at {d : D} {v : V} {l : List D} (s : SR K G c H) (r : Rep K G d v) (h : seqOf c d = some l) : ∃ a vs, v = .ref a ∧ Reps K G l vs ∧ ((isTup d = true ∧ SqT K H a vs) ∨ (isTup d = false ∧ SqL K H a vs)) := by
  have ll : lstOf c d = some l → isTup d = false → ∃ a vs, v = .ref a ∧ Reps K G l vs ∧ ((isTup d = true ∧ SqT K H a vs) ∨ (isTup d = false ∧ SqL K H a vs)) := fun h1 h2 => by
    obtain ⟨a, vs, e, h3, h4⟩ := lst_at s r h1
    exact ⟨a, vs, e, h4, .inr ⟨h2, SqL.of h3⟩⟩
  cases d <;> first
    | exact ll h rfl
    | skip
  · obtain ⟨a, vs, e, h1, h2⟩ := r
    cases h
    exact ⟨a, vs, e, h2, .inl ⟨rfl, s.sub.sqT h1.sq⟩⟩
  · obtain ⟨a, e, h1⟩ := r
    cases h
    exact ⟨a, _, e, Reps.ints.mpr rfl, .inr ⟨rfl, s.sub.sqL h1⟩⟩
theorem seq_len {d : D} {v : V} {l : List D} (s : SR K G c H) (hl : HLen K H) (r : Rep K G d v) (h : seqOf c d = some l) : l.length ≤ sizeLine := by
  obtain ⟨a, vs, e, h1, h2⟩ := seq_at s r h
  rw [h1.length]
  rcases h2 with ⟨_, h2⟩ | ⟨_, h2⟩
  · exact hl.2 _ _ h2
  · exact hl.1 _ _ h2
end
def MulOk (i j : Int) : Prop := CMul i j ∨ CMulW i j
section
variable {X : Cx}
theorem mulOk_r : OpR X (binaryOp .Mult) (rI MulOk fun i j => .int (i * j)) := fun pins s σ H x y v u Q I rx ry ⟨i, j, e1, e2, h, q⟩ => by
  rcases h with h | h
  · exact op_mul pins s σ H x y v u Q I rx ry ⟨i, j, e1, e2, h, q⟩
  · exact op_mulW pins s σ H x y v u Q I rx ry ⟨i, j, e1, e2, h, q⟩
/-- what an operation on two ints is by data -/
def oII (C : Int → Int → Prop) (g : Int → Int → D) : Op2 := fun x y c Q => match x, y with
  | .int i, .int j => C i j ∧ Q (g i j) c
  | _, _ => False
theorem oII_r {f : Value → Value → Sem Value} {C : Int → Int → Prop} {g : Int → Int → D} {g' : Int → Int → V} (h : OpR X f (rI C g')) (hg : ∀ i j K G, Rep K G (g i j) (g' i j)) : Op2R X f (oII C g) := by
  refine ⟨_, h, ?_⟩
  intro G c H x y v u Q0 Q s rx ry q k
  unfold oII at q
  split at q
  · rename_i i j
    exact ⟨i, j, rx, ry, q.1, k _ c _ H G q.2 Gr.refl s (hg _ _ _ _)⟩
  · exact q.elim
theorem rI_of {f : Value → Value → Sem Value} {g' : Int → Int → V} (h : OpR X f (rI0 g')) : OpR X f (rI (fun _ _ => True) g') :=
  fun pins s σ H x y v u Q I rx ry ⟨i, j, e1, e2, _, q⟩ => h pins s σ H x y v u Q I rx ry ⟨i, j, e1, e2, q⟩
def oSub : Op2 := oII (fun _ _ => True) fun i j => .int (i - j)
theorem r_sub : Op2R X (binaryOp .Sub) oSub := oII_r (rI_of op_sub) fun _ _ _ _ => rfl
def oFdiv : Op2 := oII (fun _ j => 0 < j ∧ j.natAbs.log2 < 9000) fun i j => .int (i / j)
theorem r_fdiv : Op2R X (binaryOp .FloorDiv) oFdiv := oII_r op_fdivW fun _ _ _ _ => rfl
def oMod : Op2 := oII (fun _ j => 0 < j) fun i j => .int (i % j)
theorem r_mod : Op2R X (binaryOp .Mod) oMod := oII_r op_mod fun _ _ _ _ => rfl
def oPow : Op2 := oII (fun i j => 0 ≤ j ∧ j ≤ 1000000 ∧ i.natAbs < 2 ^ 64) fun i j => .int (i ^ j.toNat)
theorem r_pow : Op2R X (binaryOp .Pow) oPow := oII_r op_pow fun _ _ _ _ => rfl
def oLt : Op2 := oII (fun _ _ => True) fun i j => .bl (decide (i < j))
theorem r_lt : Op2R X (compareOp .Lt) oLt := oII_r (rI_of op_lt) fun _ _ _ _ => rfl
def oLe : Op2 := oII (fun _ _ => True) fun i j => .bl (decide (i ≤ j))
theorem r_le : Op2R X (compareOp .LtE) oLe := oII_r (rI_of op_le) fun _ _ _ _ => rfl
def oGt : Op2 := oII (fun _ _ => True) fun i j => .bl (decide (j < i))
theorem r_gt : Op2R X (compareOp .Gt) oGt := oII_r (rI_of op_gt) fun _ _ _ _ => rfl
def oGe : Op2 := oII (fun _ _ => True) fun i j => .bl (decide (j ≤ i))
theorem r_ge : Op2R X (compareOp .GtE) oGe := oII_r (rI_of op_ge) fun _ _ _ _ => rfl
def oNeg : Op1 := fun x c Q => match x with
  | .int i => Q (.int (-i)) c
  | _ => False
def oAdd : Op2 := fun x y c Q => match x, y with
  | .int i, .int j => Q (.int (i + j)) c
  | .str i, .str j => i.length + j.length ≤ sizeLine ∧ Q (.str (i ++ j)) c
  | .tup a, .tup b => a.length + b.length ≤ sizeLine ∧ Q (.tup (a ++ b)) c
  | x, y => match lstOf c x, lstOf c y with
    | some a, some b => a.length + b.length ≤ sizeLine ∧ Q (.lst (a ++ b)) c
    | _, _ => False
theorem r_add : Op2R X (binaryOp .Add) oAdd := by
  refine ⟨_, op_add.or (op_add_str.or (op_catA.or op_cat)), ?_⟩
  intro G c H x y v u Q0 Q s rx ry q k
  unfold oAdd at q
  split at q
  · exact .inl ⟨_, _, rx, ry, k _ c _ H G q Gr.refl s rfl⟩
  · exact .inr (.inl ⟨_, _, rx, ry, q.1, k _ c _ H G q.2 Gr.refl s rfl⟩)
  · rename_i a b
    obtain ⟨z, q⟩ := q
    obtain ⟨p1, vs, e1, h1, t1⟩ := rx
    obtain ⟨p2, ws, e2, h2, t2⟩ := ry
    refine .inr (.inr (.inl ⟨p1, p2, vs, ws, e1, e2, s.sub.sqT h1.sq, s.sub.sqT h2.sq, by rw [← t1.length, ← t2.length]; exact z, fun hn => ?_, fun _ hn => ?_, fun _ _ p hp => ?_⟩))
    · refine k _ c _ H G q Gr.refl s ⟨p2, ws, rfl, h2, ?_⟩
      have e : a = [] := List.eq_nil_of_length_eq_zero (by rw [t1.length, hn]; rfl)
      subst e
      exact t2
    · refine k _ c _ H G q Gr.refl s ⟨p1, vs, rfl, h1, ?_⟩
      have e : b = [] := List.eq_nil_of_length_eq_zero (by rw [t2.length, hn]; rfl)
      subst e
      rw [List.append_nil]
      exact t1
    · obtain ⟨hc, hg⟩ := s.free hp
      obtain ⟨s2, g2⟩ := s.newG (o := HO.tup (vs ++ ws)) hp
      exact k _ c _ _ _ q g2 s2 ⟨p, _, rfl, TupAt.of upd_same, Reps.app (Reps.mono g2.g _ _ t1) (Reps.mono g2.g _ _ t2)⟩
  · split at q
    · rename_i a b ha hb
      obtain ⟨z, q⟩ := q
      obtain ⟨p1, vs, e1, h1, t1⟩ := lst_at s rx ha
      obtain ⟨p2, ws, e2, h2, t2⟩ := lst_at s ry hb
      refine .inr (.inr (.inr ⟨p1, p2, vs, ws, e1, e2, h1, h2, by rw [← t1.length, ← t2.length]; exact z, fun p hp => ?_⟩))
      obtain ⟨hc, hg⟩ := s.free hp
      obtain ⟨s2, g2⟩ := s.newG (o := HO.lst (vs ++ ws)) hp
      exact k _ c _ _ _ q g2 s2 ⟨p, _, rfl, upd_same, Reps.app (Reps.mono g2.g _ _ t1) (Reps.mono g2.g _ _ t2)⟩
    · exact q.elim
end
end VL
namespace VL
open PySem PySem.Spec PyProof.Rows L2
mutual
def toP : D → PyData
  | .non => .none
  | .bl b => .bool b
  | .int i => .int i
  | .str x => .str x
  | .tup l => .tuple (toPs l)
  | .lst l => .list (toPs l)
  | .ptr _ => .dict []
  | .scr _ => .dict []
  | .ty _ => .dict []
def toPs : List D → List PyData
  | [] => []
  | d :: ds => toP d :: toPs ds
end
/-- data that may be compared: no live things in it, texts of true signs, not too deep -/
def okD (d : D) : Prop := SeqAt.shaped (toP d) = true
def deq (x y : D) : Bool := PyData.eqv (toP x) (toP y)
mutual
theorem dp_of {K : PySem.W.Frag} {G : Hp} : ∀ (d : D) (v : V), (toP d).canLay0 = true → Rep K G d v → Dp K G v (toP d)
  | .non, _, _, h => by cases h; exact .non
  | .bl b, _, _, h => by cases h; exact .bl b
  | .int i, _, _, h => by cases h; exact .int i
  | .str x, _, _, h => by cases h; exact .str x
  | .tup l, v, k, h => by
    obtain ⟨a, vs, rfl, h1, h2⟩ := h
    exact .tup h1.sq (dps_of l vs (by simpa [toP, PyData.canLay0] using k) h2)
  | .lst l, v, k, h => by
    obtain ⟨a, vs, rfl, h1, h2⟩ := h
    exact .lst (SqL.of h1) (dps_of l vs (by simpa [toP, PyData.canLay0] using k) h2)
  | .ptr _, _, k, _ => by simp [toP, PyData.canLay0] at k
  | .scr _, _, k, _ => by simp [toP, PyData.canLay0] at k
  | .ty _, _, k, _ => by simp [toP, PyData.canLay0] at k
theorem dps_of {K : PySem.W.Frag} {G : Hp} : ∀ (l : List D) (vs : List V), PyData.canLayAll0 (toPs l) = true → Reps K G l vs → DpAll K G vs (toPs l)
  | [], _, _, h => by cases h; exact .nil
  | d :: ds, _, k, h => by
    obtain ⟨v, r, rfl, h1, h2⟩ := h
    have k : (toP d).canLay0 = true ∧ PyData.canLayAll0 (toPs ds) = true := by simpa [toPs, PyData.canLayAll0] using k
    exact .cons (dp_of d v k.1 h1) (dps_of ds r k.2 h2)
end
/-- a live list read as data -/
def rdv (c : Cs) : D → D
  | .ptr p => match c p with
    | some (.lst l) => .lst l
    | some (.fz l) => .lst l
    | _ => .ptr p
  | d => d
section
variable {K : PySem.W.Frag} {G : Hp} {c : Cs} {H : Hp}
theorem rep_rdv {d : D} {v : V} (s : SR K G c H) (r : Rep K G d v) : Rep K H (rdv c d) v := by
  cases d with
  | ptr p =>
    have hp : Rep K H (.ptr p) v := r
    show Rep K H (match c p with | some (.lst l) => D.lst l | some (.fz l) => D.lst l | _ => D.ptr p) v
    cases hc : c p with
    | none => exact hp
    | some x =>
      cases x with
      | lst l =>
        obtain ⟨_, vs, h1, h2⟩ := s.at_ _ _ hc
        exact ⟨p, vs, r, h1, Reps.mono s.sub _ _ h2⟩
      | fz l =>
        obtain ⟨vs, h1, h2⟩ := s.at_ _ _ hc
        exact ⟨p, vs, r, s.sub _ _ h1, Reps.mono s.sub _ _ h2⟩
      | dic l => exact hp
      | dit l => exact hp
      | obj C fs => exact hp
      | exc _ _ _ => exact hp
      | tab _ => exact hp
      | fn _ _ => exact hp
      | gd _ _ => exact hp
  | _ => exact Rep.mono s.sub _ _ r
theorem dp_rdv {d : D} {v : V} (s : SR K G c H) (r : Rep K G d v) (h : okD (rdv c d)) : Dp K H v (toP (rdv c d)) := dp_of _ _ (SeqAt.canLay_of_shaped h) (rep_rdv s r)
end
def oEq : Op2 := fun x y c Q => match x, y with
  | .str a, .str b => Q (.bl (decide (a = b))) c
  | x, y => okD (rdv c x) ∧ okD (rdv c y) ∧ Q (.bl (deq (rdv c x) (rdv c y))) c
def oNe : Op2 := fun x y c Q => match x, y with
  | .str a, .str b => Q (.bl (!decide (a = b))) c
  | x, y => okD (rdv c x) ∧ okD (rdv c y) ∧ Q (.bl (!deq (rdv c x) (rdv c y))) c
theorem dec_strV {a b : Str} : decide (V.str a = V.str b) = decide (a = b) := by
  by_cases h : a = b
  · subst h; simp
  · rw [decide_eq_false h, decide_eq_false (fun q => h (V.str.inj q))]
def isNon : D → Bool
  | .non => true
  | _ => false
theorem isNon_r {K : PySem.W.Frag} {G : Hp} {d : D} {v : V} (r : Rep K G d v) : decide (v = .non) = isNon d := by
  cases d with
  | non => cases r; rfl
  | bl b => cases r; rfl
  | int i => cases r; rfl
  | str x => cases r; rfl
  | tup l => obtain ⟨a, vs, rfl, _⟩ := r; rfl
  | lst l => obtain ⟨a, vs, rfl, _⟩ := r; rfl
  | ptr p => cases r; rfl
  | scr l => obtain ⟨a, rfl, _⟩ := r; rfl
  | ty n => cases r; rfl
def oIs : Op2 := fun x y c Q => match y with
  | .non => Q (.bl (isNon x)) c
  | .bl b => match x with
    | .bl a => Q (.bl (decide (a = b))) c
    | _ => False
  | _ => False
def oIsNot : Op2 := fun x y c Q => match y with
  | .non => Q (.bl (!isNon x)) c
  | .bl b => match x with
    | .bl a => Q (.bl (!decide (a = b))) c
    | _ => False
  | _ => False
/-- flat things -/
def flat : D → Bool
  | .non => true
  | .bl _ => true
  | .int _ => true
  | .str _ => true
  | _ => false
theorem flat_r {K : PySem.W.Frag} {G : Hp} {d : D} {v : V} (r : Rep K G d v) (h : flat d = true) : flatV v = true := by
  cases d <;> first
    | (cases r; rfl)
    | (simp [flat] at h; done)
theorem flats_r {K : PySem.W.Frag} {G : Hp} : ∀ {l : List D} {vs : List V}, Reps K G l vs → l.all flat = true → vs.all flatV = true
  | [], _, r, _ => by cases r; rfl
  | d :: ds, _, r, h => by
    obtain ⟨v, t, rfl, h1, h2⟩ := r
    simp only [List.all_cons, Bool.and_eq_true] at h ⊢
    exact ⟨flat_r h1 h.1, flats_r h2 h.2⟩
theorem eqV_r {K : PySem.W.Frag} {G : Hp} {d e : D} {v u : V} (r : Rep K G d v) (q : Rep K G e u) (h : flat d = true) (h' : flat e = true) : eqV v u = deq d e := by
  cases d <;> first
    | (simp [flat] at h; done)
    | (cases e <;> first
        | (simp [flat] at h'; done)
        | (cases r; cases q; simp [deq, toP, PyData.eqv, eqV]))
theorem inV_r {K : PySem.W.Frag} {G : Hp} {d : D} {v : V} (q : Rep K G d v) (h' : flat d = true) : ∀ {l : List D} {vs : List V}, Reps K G l vs → l.all flat = true → inV v vs = l.any fun z => deq z d
  | [], _, r, _ => by cases r; rfl
  | e :: ds, _, r, h => by
    obtain ⟨u, t, rfl, h1, h2⟩ := r
    simp only [List.all_cons, Bool.and_eq_true] at h
    have ih := inV_r q h' h2 h.2
    unfold inV at ih ⊢
    rw [List.any_cons, List.any_cons, ih, eqV_r h1 q h.1 h']
theorem any_toPs (x : D) : ∀ l : List D, ((toPs l).any fun z => PyData.eqv z (toP x)) = l.any fun z => deq z x
  | [] => rfl
  | d :: ds => by rw [toPs, List.any_cons, List.any_cons, any_toPs x ds]; rfl
def oInG (neg : Bool) : Op2 := fun x y c Q => match y with
  | .tup l => flat x = true ∧ l.all flat = true ∧ Q (.bl (if neg then !(l.any fun z => deq z x) else l.any fun z => deq z x)) c
  | .str z => match x with
    | .str w => (∃ ch, w = ⟨#[ch]⟩) ∧ Q (.bl (if neg then !(decide (w.cps.getD 0 0 ∈ z.cps.toList)) else decide (w.cps.getD 0 0 ∈ z.cps.toList))) c
    | _ => False
  | y => match lstOf c y with
    | some l => okD (rdv c x) ∧ okD (.lst l) ∧ Q (.bl (if neg then !(l.any fun z => deq z (rdv c x)) else l.any fun z => deq z (rdv c x))) c
    | none => False
def oNotIn : Op2 := oInG true
section
variable {X : Cx} {k : Nat}
theorem r_eq (hr : Room k X.A) : Op2R X (compareOp .Eq) oEq := by
  refine ⟨_, (op_eqD hr.units).or op_eq, ?_⟩
  intro G c H x y v u Q0 Q s rx ry q kk
  unfold oEq at q
  split at q
  · cases rx
    cases ry
    refine .inr ⟨rfl, ?_⟩
    rw [dec_strV]
    exact kk _ c _ H G q Gr.refl s rfl
  · obtain ⟨h1, h2, q⟩ := q
    exact .inl ⟨_, _, dp_rdv s rx h1, dp_rdv s ry h2, h1, h2, kk _ c _ H G q Gr.refl s rfl⟩
theorem r_ne (hr : Room k X.A) : Op2R X (compareOp .NotEq) oNe := by
  refine ⟨_, (op_neD hr.units).or op_ne, ?_⟩
  intro G c H x y v u Q0 Q s rx ry q kk
  unfold oNe at q
  split at q
  · cases rx
    cases ry
    refine .inr ⟨rfl, ?_⟩
    rw [dec_strV]
    exact kk _ c _ H G q Gr.refl s rfl
  · obtain ⟨h1, h2, q⟩ := q
    exact .inl ⟨_, _, dp_rdv s rx h1, dp_rdv s ry h2, h1, h2, kk _ c _ H G q Gr.refl s rfl⟩
theorem r_is : Op2R X (compareOp .Is) oIs := by
  refine ⟨_, op_isN.or op_isBl, ?_⟩
  intro G c H x y v u Q0 Q s rx ry q kk
  cases y <;> first
    | exact q.elim
    | skip
  · refine .inl ⟨ry, ?_⟩
    rw [isNon_r rx]
    exact kk _ c _ H G q Gr.refl s rfl
  · cases x <;> first
      | exact q.elim
      | skip
    exact .inr ⟨_, _, rx, ry, kk _ c _ H G q Gr.refl s rfl⟩
theorem r_isnot : Op2R X (compareOp .IsNot) oIsNot := by
  refine ⟨_, op_notN.or op_notBl, ?_⟩
  intro G c H x y v u Q0 Q s rx ry q kk
  cases y <;> first
    | exact q.elim
    | skip
  · refine .inl ⟨ry, ?_⟩
    rw [isNon_r rx]
    exact kk _ c _ H G q Gr.refl s rfl
  · cases x <;> first
      | exact q.elim
      | skip
    exact .inr ⟨_, _, rx, ry, kk _ c _ H G q Gr.refl s rfl⟩
theorem inG_r {neg : Bool} {G : Hp} {c : Cs} {H : Hp} {x y : D} {v u : V} {Q0 : DK} {Q : VK} (s : SR X.K G c H) (rx : Rep X.K G x v) (ry : Rep X.K G y u) (q : oInG neg x y c Q0) (kk : Fin_ X.K G c H Q0 Q) :
    (∃ d ds, Dp X.K H v d ∧ Dp X.K H u (.list ds) ∧ SeqAt.shaped d = true ∧ SeqAt.shaped (.list ds) = true ∧ Q (.bl (if neg then !(ds.any fun z => PyData.eqv z d) else ds.any fun z => PyData.eqv z d)) H) ∨ rIn X.K neg v u H Q ∨
    (∃ (ch : Nat) (z : Str), v = .str ⟨#[ch]⟩ ∧ u = .str z ∧ Q (.bl (if neg then !decide (ch ∈ z.cps.toList) else decide (ch ∈ z.cps.toList))) H) := by
  have ll : (∃ l, lstOf c y = some l ∧ okD (rdv c x) ∧ okD (.lst l) ∧ Q0 (.bl (if neg then !(l.any fun z => deq z (rdv c x)) else l.any fun z => deq z (rdv c x))) c) → ∃ d ds, Dp X.K H v d ∧ Dp X.K H u (.list ds) ∧ SeqAt.shaped d = true ∧ SeqAt.shaped (.list ds) = true ∧ Q (.bl (if neg then !(ds.any fun z => PyData.eqv z d) else ds.any fun z => PyData.eqv z d)) H := by
    rintro ⟨l, e, h1, h2, q⟩
    obtain ⟨a, vs, e1, h3, h4⟩ := lst_at s ry e
    have hd : Dp X.K H u (toP (.lst l)) := dp_of _ _ (SeqAt.canLay_of_shaped h2) ⟨a, vs, e1, h3, Reps.mono s.sub _ _ h4⟩
    refine ⟨_, toPs l, dp_rdv s rx h1, hd, h1, h2, ?_⟩
    rw [any_toPs]
    exact kk _ c _ H G q Gr.refl s rfl
  unfold oInG at q
  split at q
  · rename_i l
    obtain ⟨h1, h2, q⟩ := q
    obtain ⟨a, vs, e1, h3, h4⟩ := ry
    refine .inr (.inl ⟨a, vs, e1, .inr (s.sub.sqT h3.sq), flat_r rx h1, flats_r h4 h2, ?_⟩)
    rw [inV_r rx h1 h4 h2]
    exact kk _ c _ H G q Gr.refl s rfl
  · split at q
    · obtain ⟨⟨ch, rfl⟩, q⟩ := q
      refine .inr (.inr ⟨ch, _, rx, ry, ?_⟩)
      exact kk _ c _ H G q Gr.refl s rfl
    · exact q.elim
  · split at q
    · rename_i l e
      exact .inl (ll ⟨l, e, q⟩)
    · exact q.elim
theorem r_notin (hr : Room k X.A) : Op2R X (compareOp .NotIn) oNotIn := by
  refine ⟨_, (op_notInD (by have := hr.un; omega)).or (op_notIn_seq.or op_notIn_sign), ?_⟩
  intro G c H x y v u Q0 Q s rx ry q kk
  exact inG_r s rx ry q kk
end
def oMul : Op2 := fun x y c Q => match x, y with
  | .int i, .int j => MulOk i j ∧ Q (.int (i * j)) c
  | x, .int k => match lstOf c x with
    | some l => -(2 ^ 63) ≤ k ∧ k < 2 ^ 63 ∧ l.length * k.toNat ≤ sizeLine ∧ Q (.lst (List.replicate k.toNat l).flatten) c
    | none => False
  | _, _ => False
theorem Reps.reps {K : PySem.W.Frag} {G : Hp} {l : List D} {vs : List V} (h : Reps K G l vs) : ∀ n : Nat, Reps K G (List.replicate n l).flatten (List.replicate n vs).flatten
  | 0 => rfl
  | n + 1 => by rw [List.replicate_succ, List.replicate_succ, List.flatten_cons, List.flatten_cons]; exact Reps.app h (Reps.reps h n)
section
variable {X : Cx} {k : Nat} {W : WX}
theorem r_mul : Op2R X (binaryOp .Mult) oMul := by
  refine ⟨_, mulOk_r.or op_rep, ?_⟩
  intro G c H x y v u Q0 Q s rx ry q kk
  unfold oMul at q
  split at q
  · exact .inl ⟨_, _, rx, ry, q.1, kk _ c _ H G q.2 Gr.refl s rfl⟩
  · split at q
    · rename_i l e
      obtain ⟨h1, h2, h3, q⟩ := q
      obtain ⟨a, vs, e1, h4, h5⟩ := lst_at s rx e
      refine .inr ⟨a, _, vs, e1, ry, h4, h1, h2, by rw [← h5.length]; exact h3, fun p hp => ?_⟩
      obtain ⟨s2, g2⟩ := s.newG (o := HO.lst (List.replicate _ vs).flatten) hp
      exact kk _ c _ _ _ q g2 s2 ⟨p, _, rfl, upd_same, Reps.reps (Reps.mono g2.g _ _ h5) _⟩
    · exact q.elim
  · exact q.elim
theorem atI_r {K : PySem.W.Frag} {G : Hp} {l : List D} {vs : List V} {i : Int} {d : D} (r : Reps K G l vs) (h : atI l i = some d) : ∃ v, atI vs i = some v ∧ Rep K G d v := by
  unfold atI at h ⊢
  rw [← r.length]
  cases e : ixN l.length i with
  | none => rw [e] at h; cases h
  | some j =>
    rw [e] at h
    exact r.get h
def oIx : Op2 := fun x y c Q => match y with
  | .int i => match x with
    | .str z => ∃ ch, z.length ≤ sizeLine ∧ atI z.cps.toList i = some ch ∧ Q (.str ⟨#[ch]⟩) c
    | x => match seqOf c x with
      | some l => ∃ d, atI l i = some d ∧ Q d c
      | none => False
  | _ => False
variable {a b : Expr} {wa wb : WE} {pos : Pos}
theorem je_ix (ha : JE X W a wa) (hb : JE X W b wb) (hs : PlainIx b := by exact fun _ _ => rfl) : JE X W (.Subscript a b pos) (wBin oIx wa wb) := by
  refine PE.of (pe_ix ix_seq ha hb hs) fun σ H Q ⟨G, en, c, Q0, X0, s, er, q, x0, kk⟩ => ?_
  refine rd_bin ?_ s er q x0 fun d c' v H' G' z g s' r => kk d c' v H' G' z g s' r
  intro G c H x y v u Q0 Q s rx ry q kk
  unfold oIx at q
  split at q
  · rename_i i
    split at q
    · obtain ⟨ch, h1, h2, q⟩ := q
      exact .inr (.inr ⟨_, i, ch, rx, ry, h1, h2, kk _ c _ H G q Gr.refl s rfl⟩)
    · split at q
      · rename_i l e
        obtain ⟨d, h1, q⟩ := q
        obtain ⟨p, vs, e1, h2, h3⟩ := seq_at s rx e
        obtain ⟨w, h4, h5⟩ := atI_r h2 h1
        rcases h3 with ⟨_, h3⟩ | ⟨_, h3⟩
        · exact .inr (.inl ⟨p, vs, i, w, e1, ry, h3, h4, kk _ c _ H G q Gr.refl s h5⟩)
        · exact .inl ⟨p, vs, i, w, e1, ry, h3, h4, kk _ c _ H G q Gr.refl s h5⟩
      · exact q.elim
  · exact q.elim
abbrev WO := En → Cs → (Option Int → Cs → Prop) → XD → Prop
def rdO (K : PySem.W.Frag) (mg : Str → Option Value) (W : WX) (w : WO) : TO := fun σ H Q => ∃ G en c Q0 X0, SR K G c H ∧ EnR K G en σ ∧ w en c Q0 X0 ∧ XOk K mg W X0 G c H ∧
  ∀ o c' H' G', Q0 o c' → Gr G c H G' c' H' → SR K G' c' H' → Q o H'
abbrev JO (X : Cx) (W : WX) (e : Option Expr) (w : WO) : Prop := PO X e (rdO X.K X.mg W w)
def wNoPart : WO := fun _ c Q _ => Q none c
def wPart (w : WE) : WO := fun en c Q X => w en c (fun d c' => match d with
  | .int i => Q (some i) c'
  | _ => False) X
theorem PO.imp {e : Option Expr} {t t' : TO} (h : PO X e t) (k : ∀ σ H Q, t' σ H Q → t σ H Q) : PO X e t' := by
  refine ⟨fun pins s σ H Q I q => ?_⟩
  exact h.run pins s σ H _ I (k σ H Q q)
theorem jo_none : JO X W none wNoPart := PO.imp po_none fun σ H Q ⟨G, en, c, Q0, X0, s, er, q, x0, kk⟩ => kk none c H G q Gr.refl s
theorem jo_some (ha : JE X W a wa) : JO X W (some a) (wPart wa) := by
  refine PO.imp (po_some ha) fun σ H Q ⟨G, en, c, Q0, X0, s, er, q, x0, kk⟩ => ?_
  refine ⟨G, en, c, _, X0, s, er, q, x0, fun d1 c1 v1 H1 G1 q1 g1 s1 r1 => ?_⟩
  cases d1 <;> first
    | exact q1.elim
    | exact ⟨_, r1, kk _ c1 H1 G1 q1 g1 s1⟩
def cutL {α : Type} (l : List α) (lo hi : Option Int) : List α := (l.drop (HT.sIx l.length 0 lo)).take (HT.sIx l.length l.length hi - HT.sIx l.length 0 lo)
theorem Reps.cut {K : PySem.W.Frag} {G : Hp} {l : List D} {vs : List V} (h : Reps K G l vs) (lo hi : Option Int) : Reps K G (cutL l lo hi) (cutV vs lo hi) := by
  unfold cutL cutV
  rw [h.length]
  exact Reps.take _ (Reps.drop _ h)
def oSl (x : D) (lo hi : Option Int) (c : Cs) (Q : DK) : Prop := match x with
  | .str z => z.length ≤ sizeLine ∧ Q (.str (cutS z lo hi)) c
  | .tup l => Q (.tup (cutL l lo hi)) c
  | x => match seqOf c x with
    | some l => Q (.lst (cutL l lo hi)) c
    | none => False
def wSl (wa : WE) (wl wh : WO) : WE := fun en c Q X => wa en c (fun x c1 => wl en c1 (fun lo c2 => wh en c2 (fun hi c3 => oSl x lo hi c3 Q) X) X) X
theorem cut_whole {α : Type} {l : List α} {lo hi : Option Int} (h : HT.sIx l.length 0 lo = 0 ∧ HT.sIx l.length l.length hi = l.length) : cutL l lo hi = l := by
  unfold cutL
  rw [h.1, h.2]; simp
theorem je_sl {lo hi : Option Expr} {wl wh : WO} {p2 : Pos} (ha : JE X W a wa) (hl : JO X W lo wl) (hh : JO X W hi wh) : JE X W (.Subscript a (.Slice lo hi none p2) pos) (wSl wa wl wh) := by
  refine PE.of (pe_slice (sl_list.or (sl_tupA.or sl_str)) ha hl hh) fun σ H Q ⟨G, en, c, Q0, X0, s, er, q, x0, kk⟩ => ?_
  refine ⟨G, en, c, _, X0, s, er, q, x0, fun d1 c1 v1 H1 G1 q1 g1 s1 r1 => ?_⟩
  refine ⟨G1, en, c1, _, X0, s1, er.mono g1.g, q1, x0.more g1, fun lo c2 H2 G2 q2 g2 s2 => ?_⟩
  refine ⟨G2, en, c2, _, X0, s2, er.mono (g1.trans g2).g, q2, x0.more (g1.trans g2), fun hi c3 H3 G3 q3 g3 s3 => ?_⟩
  have r3 := Rep.mono (g2.trans g3).g _ _ r1
  have gg := (g1.trans g2).trans g3
  unfold oSl at q3
  split at q3
  · exact .inr (.inr ⟨_, r3, q3.1, kk _ c3 _ H3 G3 q3.2 gg s3 rfl⟩)
  · rename_i l
    obtain ⟨p, vs, e1, h1, h2⟩ := r3
    refine .inr (.inl ⟨p, vs, e1, s3.sub.sqT h1.sq, fun hw => ?_, fun hw p' hp => ?_⟩)
    · refine kk _ c3 _ H3 G3 q3 gg s3 ⟨p, vs, rfl, h1, ?_⟩
      rw [← h2.length] at hw
      rw [cut_whole hw]
      exact h2
    · obtain ⟨s4, g4⟩ := s3.newG (o := HO.tup (cutV vs lo hi)) hp
      exact kk _ c3 _ _ _ q3 (gg.trans g4) s4 ⟨p', _, rfl, TupAt.of upd_same, Reps.mono g4.g _ _ (h2.cut lo hi)⟩
  · rename_i hn1 hn2
    split at q3
    · rename_i l e
      obtain ⟨p, vs, e1, h1, h2⟩ := seq_at s3 r3 e
      rcases h2 with ⟨ht, h2⟩ | ⟨_, h2⟩
      · exfalso
        cases d1 <;> first
          | (simp [isTup] at ht; done)
          | exact hn2 _ rfl
      · refine .inl ⟨p, vs, e1, h2, fun p' hp => ?_⟩
        obtain ⟨s4, g4⟩ := s3.newG (o := HO.lst (cutV vs lo hi)) hp
        exact kk _ c3 _ _ _ q3 (gg.trans g4) s4 ⟨p', _, rfl, upd_same, Reps.mono g4.g _ _ (h1.cut lo hi)⟩
    · exact q3.elim
end
end VL
namespace VL
open PySem PySem.Spec PyProof.Rows L2
abbrev OpN := List D → Cs → DK → Prop
def CallD (X : Cx) (f : Value) (o : OpN) : Prop := ∃ r : List V → Hp → VK → Prop, CallR X f r ∧
  ∀ G c H ds vs Q0 Q, SR X.K G c H → Reps X.K G ds vs → o ds c Q0 → Fin_ X.K G c H Q0 Q → r vs H Q
def wBi (o : OpN) (ws : WA) : WE := fun en c Q X => ws en c (fun ds c1 => o ds c1 Q) X
section
variable {X : Cx} {W : WX} {e o : Expr} {es : List Expr} {we : WE} {ws : WA} {x : Str} {p pos apos cpos : Pos} {id T : String} {k : Nat}
theorem rd_bi {o : OpN} {r : List V → Hp → VK → Prop} (hr : ∀ G c H ds vs Q0 Q, SR X.K G c H → Reps X.K G ds vs → o ds c Q0 → Fin_ X.K G c H Q0 Q → r vs H Q)
    {σ : L2.St} {H : Hp} {Q : VK} (h : rdE X.K X.mg W (wBi o ws) σ H Q) : tCB r (rdA X.K X.mg W ws) σ H Q := by
  obtain ⟨G, en, c, Q0, X0, s, er, q, x0, kk⟩ := h
  refine ⟨G, en, c, _, X0, s, er, q, x0, fun d1 c1 v1 H1 G1 q1 g1 s1 r1 => ?_⟩
  exact hr G1 c1 H1 d1 v1 Q0 _ s1 r1 q1 fun d c' v H' G' z g s' r => kk d c' v H' G' z (g1.trans g) s' r
theorem je_bi {o : OpN} (ho : CallD X (.builtin id) o) (hm : X.mg x = none) (hv : bootBuiltins x = some (.builtin id)) (ha : JA X W (e :: es) ws) (hg : Gl X x := by rfl) (hn : x ≠ "__name__" := by decide) (hdb : (x == ("__debug__" : Str)) = false := by decide)
    (he : starEach (e :: es) X.env = (false, eval e X.env) :: starEach es X.env := by rfl) (hpl : (backTo pos (starEach es X.env)).any (·.1) = false := by rfl) : JE X W (.Call (.Name x p) (e :: es) [] pos) (wBi o ws) := by
  obtain ⟨r, h1, h2⟩ := ho
  exact PE.of (pe_callB h1 hg hm hv ha hn hdb he hpl) fun σ H Q h => rd_bi h2 h
theorem je_bt {o : OpN} (ho : CallD X (.type T) o) (hm : X.mg x = none) (hv : bootBuiltins x = some (.type T)) (ha : JA X W (e :: es) ws) (hg : Gl X x := by rfl) (hn : x ≠ "__name__" := by decide) (hdb : (x == ("__debug__" : Str)) = false := by decide)
    (he : starEach (e :: es) X.env = (false, eval e X.env) :: starEach es X.env := by rfl) (hpl : (backTo pos (starEach es X.env)).any (·.1) = false := by rfl) : JE X W (.Call (.Name x p) (e :: es) [] pos) (wBi o ws) := by
  obtain ⟨r, h1, h2⟩ := ho
  exact PE.of (pe_callTy h1 hg hm hv ha hn hdb he hpl) fun σ H Q h => rd_bi h2 h
/-- a built-in class as a value -/
theorem je_ty {n : String} (hm : X.mg x = none) (hv : bootBuiltins x = some (.type n)) (hg : Gl X x := by rfl) (hn : x ≠ "__name__" := by decide) (hdb : (x == ("__debug__" : Str)) = false := by decide) : JE X W (.Name x pos) (wC (.ty n)) :=
  je_c (pe_bltn (v := .ty n) hg hm hv rfl hn hdb) fun _ _ => rfl
theorem Reps.one' {K : PySem.W.Frag} {G : Hp} {d : D} {vs : List V} (h : Reps K G [d] vs) : ∃ v, vs = [v] ∧ Rep K G d v := by
  obtain ⟨v, r, rfl, h1, h2⟩ := h
  cases h2
  exact ⟨v, rfl, h1⟩
theorem Reps.two' {K : PySem.W.Frag} {G : Hp} {d e : D} {vs : List V} (h : Reps K G [d, e] vs) : ∃ v u, vs = [v, u] ∧ Rep K G d v ∧ Rep K G e u := by
  obtain ⟨v, r, rfl, h1, h2⟩ := h
  obtain ⟨u, rfl, h3⟩ := Reps.one' h2
  exact ⟨v, u, rfl, h1, h3⟩
/-- len -/
def oLen : OpN := fun ds c Q => match ds with
  | [x] => match x with
    | .str z => z.length ≤ sizeLine ∧ Q (.int z.length) c
    | x => match seqOf c x with
      | some l => Q (.int l.length) c
      | none => False
  | _ => False
theorem c_len : CallD X (.builtin "len") oLen := by
  refine ⟨_, call_len, ?_⟩
  intro G c H ds vs Q0 Q s r q kk
  unfold oLen at q
  split at q
  · obtain ⟨v, rfl, r1⟩ := Reps.one' r
    split at q
    · exact ⟨v, _, rfl, by rw [show v = _ from r1]; exact ⟨q.1, rfl⟩, kk _ c _ H G q.2 Gr.refl s rfl⟩
    · split at q
      · rename_i l e
        obtain ⟨a, vs, rfl, h1, h2⟩ := seq_at s r1 e
        refine ⟨_, vs.length, rfl, ?_, kk _ c _ H G q Gr.refl s ?_⟩
        · rcases h2 with ⟨_, h2⟩ | ⟨_, h2⟩
          · exact .inr ⟨vs, h2, rfl⟩
          · exact .inl ⟨vs, h2, rfl⟩
        · rw [h1.length]; rfl
      · exact q.elim
  · exact q.elim
/-- abs -/
def oAbs : OpN := fun ds c Q => match ds with
  | [.int i] => Q (.int (if i < 0 then -i else i)) c
  | _ => False
theorem c_abs : CallD X (.builtin "abs") oAbs := by
  refine ⟨_, call_abs, ?_⟩
  intro G c H ds vs Q0 Q s r q kk
  unfold oAbs at q
  split at q
  · obtain ⟨v, rfl, r1⟩ := Reps.one' r
    cases r1
    exact ⟨_, rfl, kk _ c _ H G q Gr.refl s rfl⟩
  · exact q.elim
/-- int(n), int(flag) -/
def oInt : OpN := fun ds c Q => match ds with
  | [.int i] => Q (.int i) c
  | [.bl b] => Q (.int (if b then 1 else 0)) c
  | _ => False
theorem c_int : CallD X (.type "int") oInt := by
  refine ⟨_, call_int1, ?_⟩
  intro G c H ds vs Q0 Q s r q kk
  unfold oInt at q
  split at q
  · obtain ⟨v, rfl, r1⟩ := Reps.one' r
    cases r1
    exact .inl ⟨_, rfl, kk _ c _ H G q Gr.refl s rfl⟩
  · obtain ⟨v, rfl, r1⟩ := Reps.one' r
    cases r1
    exact .inr ⟨_, rfl, kk _ c _ H G q Gr.refl s rfl⟩
  · exact q.elim
/-- max, min: of two numbers, of a list of numbers -/
def oMax : OpN := fun ds c Q => match ds with
  | [.int i, .int j] => Q (.int (if j > i then j else i)) c
  | [x] => ∃ ns : List Int, lstOf c x = some (ns.map .int) ∧ 0 < ns.length ∧ ∀ m, m ∈ ns → (∀ y, y ∈ ns → y ≤ m) → Q (.int m) c
  | _ => False
def oMin : OpN := fun ds c Q => match ds with
  | [.int i, .int j] => Q (.int (if j < i then j else i)) c
  | [x] => ∃ ns : List Int, lstOf c x = some (ns.map .int) ∧ 0 < ns.length ∧ ∀ m, m ∈ ns → (∀ y, y ∈ ns → m ≤ y) → Q (.int m) c
  | _ => False
theorem ints_at {K : PySem.W.Frag} {G : Hp} {c : Cs} {H : Hp} {d : D} {v : V} {ns : List Int} (s : SR K G c H) (r : Rep K G d v) (h : lstOf c d = some (ns.map .int)) : ∃ a, v = .ref a ∧ H a = some (.lst (ns.map V.int)) := by
  obtain ⟨a, vs, e, h1, h2⟩ := lst_at s r h
  rw [Reps.ints.mp h2] at h1
  exact ⟨a, e, h1⟩
theorem c_max (hc : X.calm = true) : CallD X (.builtin "max") oMax := by
  refine ⟨_, (call_max2 hc).or (cr_max hc), ?_⟩
  intro G c H ds vs Q0 Q s r q kk
  unfold oMax at q
  split at q
  · obtain ⟨v, u, rfl, r1, r2⟩ := Reps.two' r
    cases r1
    cases r2
    exact .inl ⟨_, _, rfl, kk _ c _ H G q Gr.refl s rfl⟩
  · obtain ⟨v, rfl, r1⟩ := Reps.one' r
    obtain ⟨ns, e, h1, q⟩ := q
    obtain ⟨a, rfl, h2⟩ := ints_at s r1 e
    exact .inr ⟨a, ns, rfl, SqL.of h2, h1, fun m hm hle => kk _ c _ H G (q m hm hle) Gr.refl s rfl⟩
  · exact q.elim
theorem c_min (hc : X.calm = true) : CallD X (.builtin "min") oMin := by
  refine ⟨_, (call_min2 hc).or (cr_min hc), ?_⟩
  intro G c H ds vs Q0 Q s r q kk
  unfold oMin at q
  split at q
  · obtain ⟨v, u, rfl, r1, r2⟩ := Reps.two' r
    cases r1
    cases r2
    exact .inl ⟨_, _, rfl, kk _ c _ H G q Gr.refl s rfl⟩
  · obtain ⟨v, rfl, r1⟩ := Reps.one' r
    obtain ⟨ns, e, h1, q⟩ := q
    obtain ⟨a, rfl, h2⟩ := ints_at s r1 e
    exact .inr ⟨a, ns, rfl, SqL.of h2, h1, fun m hm hle => kk _ c _ H G (q m hm hle) Gr.refl s rfl⟩
  · exact q.elim
/-- all, any of a list of truths -/
def oAll : OpN := fun ds c Q => match ds with
  | [x] => ∃ bs : List Bool, lstOf c x = some (bs.map .bl) ∧ Q (.bl (bs.all (fun b => b))) c
  | _ => False
theorem bls_at {K : PySem.W.Frag} {G : Hp} {c : Cs} {H : Hp} {d : D} {v : V} {ns : List Bool} (s : SR K G c H) (r : Rep K G d v) (h : lstOf c d = some (ns.map .bl)) : ∃ a, v = .ref a ∧ H a = some (.lst (ns.map V.bl)) := by
  obtain ⟨a, vs, e, h1, h2⟩ := lst_at s r h
  rw [Reps.bls.mp h2] at h1
  exact ⟨a, e, h1⟩
theorem c_all (hc : X.calm = true) : CallD X (.builtin "all") oAll := by
  refine ⟨_, cr_all hc, ?_⟩
  intro G c H ds vs Q0 Q s r q kk
  unfold oAll at q
  split at q
  · obtain ⟨v, rfl, r1⟩ := Reps.one' r
    obtain ⟨ns, e, q⟩ := q
    obtain ⟨a, rfl, h2⟩ := bls_at s r1 e
    exact ⟨a, ns, rfl, SqL.of h2, kk _ c _ H G q Gr.refl s rfl⟩
  · exact q.elim
/-- tuple(x), list(x) that stays, list(x) that lives -/
def oTuple : OpN := fun ds c Q => match ds with
  | [x] => match seqOf c x with
    | some l => Q (.tup l) c
    | none => False
  | _ => False
def oList : OpN := fun ds c Q => match ds with
  | [x] => match seqOf c x with
    | some l => Q (.lst l) c
    | none => False
  | _ => False
def oListL : OpN := fun ds c Q => match ds with
  | [x] => match seqOf c x with
    | some l => ∀ p, c p = none → Q (.ptr p) (cup c p (.lst l))
    | none => False
  | _ => False
theorem c_tuple : CallD X (.type "tuple") oTuple := by
  refine ⟨_, call_tuple_of, ?_⟩
  intro G c H ds vs Q0 Q s r q kk
  unfold oTuple at q
  split at q
  · rename_i x
    obtain ⟨v, rfl, r1⟩ := Reps.one' r
    split at q
    · rename_i l e
      have keep : isTup x = true → seqOf c x = some l → x = .tup l := fun h1 h2 => by
        cases x <;> first
          | (simp [isTup] at h1; done)
          | (cases h2; rfl)
      obtain ⟨a, vs, rfl, h1, h2⟩ := seq_at s r1 e
      rcases h2 with ⟨ht, h2⟩ | ⟨_, h2⟩
      · refine ⟨a, vs, rfl, .inr ⟨h2, kk _ c _ H G q Gr.refl s ?_⟩⟩
        rw [← keep ht e]; exact r1
      · refine ⟨a, vs, rfl, .inl ⟨h2, fun p hp => ?_⟩⟩
        obtain ⟨s2, g2⟩ := s.newG (o := HO.tup vs) hp
        exact kk _ c _ _ _ q g2 s2 ⟨p, vs, rfl, TupAt.of upd_same, Reps.mono g2.g _ _ h1⟩
    · exact q.elim
  · exact q.elim
theorem c_listL : CallD X (.type "list") oListL := by
  refine ⟨_, call_list_of, ?_⟩
  intro G c H ds vs Q0 Q s r q kk
  unfold oListL at q
  split at q
  · obtain ⟨v, rfl, r1⟩ := Reps.one' r
    split at q
    · rename_i x l e
      obtain ⟨a, vs, rfl, h1, h2⟩ := seq_at s r1 e
      refine ⟨a, vs, rfl, ?_, fun p hp => ?_⟩
      · rcases h2 with ⟨ht, h2⟩ | ⟨_, h2⟩
        · exact .inr h2
        · exact .inl h2
      · obtain ⟨hc, hg⟩ := s.free hp
        obtain ⟨s2, g2⟩ := s.newL (o := HO.lst vs) (y := .lst l) hp ⟨hg, vs, upd_same, h1⟩
        exact kk _ _ _ _ _ (q p hc) g2 s2 rfl
    · exact q.elim
  · exact q.elim
/-- sorted of a list of numbers -/
def isrt (ns : List Int) : List Int := ns.mergeSort (fun a b => decide (a ≤ b))
theorem isrt_perm (ns : List Int) : (isrt ns).Perm ns := List.mergeSort_perm _ _
theorem isrt_sorted (ns : List Int) : (isrt ns).Pairwise (· ≤ ·) := by
  have h := List.pairwise_mergeSort (le := fun a b : Int => decide (a ≤ b)) (fun a b c h1 h2 => by simp at *; omega) (fun a b => by simp; omega) ns
  exact h.imp (fun h => by simpa using h)
theorem isrt_unique {ns ms : List Int} (h1 : ms.Perm ns) (h2 : ms.Pairwise (· ≤ ·)) : ms = isrt ns :=
  List.Perm.eq_of_pairwise (le := fun a b : Int => a ≤ b) (fun a b _ _ h h' => Int.le_antisymm h h') h2 (isrt_sorted ns) (h1.trans (isrt_perm ns).symm)
/-- divmod -/
def oDivmod : OpN := fun ds c Q => match ds with
  | [.int i, .int j] => 0 < j ∧ j.natAbs.log2 < 9000 ∧ Q (.tup [.int (i / j), .int (i % j)]) c
  | _ => False
theorem c_divmod : CallD X (.builtin "divmod") oDivmod := by
  refine ⟨_, call_divmodW, ?_⟩
  intro G c H ds vs Q0 Q s r q kk
  unfold oDivmod at q
  split at q
  · obtain ⟨v, u, rfl, r1, r2⟩ := Reps.two' r
    cases r1
    cases r2
    refine ⟨_, _, rfl, ⟨q.1, PyProof.noPylong_of_log2 q.2.1⟩, fun p hp => ?_⟩
    obtain ⟨s2, g2⟩ := s.newG (o := HO.tup [.int _, .int _]) hp
    exact kk _ c _ _ _ q.2.2 g2 s2 ⟨p, _, rfl, TupAt.of upd_same, ⟨_, _, rfl, rfl, ⟨_, _, rfl, rfl, rfl⟩⟩⟩
  · exact q.elim
/-- isinstance with built-in classes -/
def tyN (c : Cs) : D → String
  | .non => "NoneType"
  | .bl _ => "bool"
  | .int _ => "int"
  | .str _ => "str"
  | .tup _ => "tuple"
  | .lst _ => "list"
  | .scr _ => "list"
  | .ptr p => match c p with
    | some (.lst _) => "list"
    | some (.fz _) => "list"
    | some (.dic _) => "dict"
    | _ => ""
  | .ty _ => ""
def isTy (m n : String) : Bool := m == n || (m == "bool" && n == "int")
def tyNs : List String := ["NoneType", "bool", "int", "str", "tuple", "list", "dict"]
def clsNs : List String := ["bool", "int", "str", "tuple", "list", "dict"]
theorem kit_all : ∀ m ∈ tyNs, ∀ n ∈ clsNs, kitB m n = some (isTy m n) := by decide +kernel
theorem kit_ok {K : PySem.W.Frag} {m n : String} (hm : m ∈ tyNs) (hn : n ∈ clsNs) : PySem.W.kitOne K (.type m) (.type n) = some (isTy m n) := kit_ty (kit_all m hm n hn)
theorem kitAny_ok {K : PySem.W.Frag} {m : String} (hm : m ∈ tyNs) : ∀ ns : List String, (∀ n ∈ ns, n ∈ clsNs) → PySem.W.kitAny K (.type m) (ns.map .type) = some (ns.any (isTy m))
  | [], _ => rfl
  | n :: ns, h => by
    have h1 := kit_ok (K := K) hm (h n List.mem_cons_self)
    have h2 := kitAny_ok (K := K) hm ns fun n q => h n (List.mem_cons_of_mem _ q)
    rw [List.map_cons, List.any_cons]
    refine kitAny_cons h1 (fun e => ?_) (fun e => ?_)
    · rw [h2, e, Bool.false_or]
    · rw [e, Bool.true_or]
theorem tyX_of {K : PySem.W.Frag} {G : Hp} {c : Cs} {H : Hp} {d : D} {v : V} (s : SR K G c H) (r : Rep K G d v) (h : tyN c d ∈ tyNs) : TyX K H v (.type (tyN c d)) := by
  have no : ∀ {m : String}, m = "" → ¬ m ∈ tyNs := fun e h => by rw [e] at h; simp [tyNs] at h
  have rdl : ∀ {a : Addr} {vs : List V}, SqL K H a vs → TyX K H (.ref a) (.type "list") := fun {a vs} h => by
    rcases h with (h | ⟨o, h⟩) | ⟨o, _, _, h, hc, _⟩
    · exact .base (.lst h)
    · exact .base (.frz h)
    · exact .kList h hc
  cases d with
  | non => cases r; exact .base .non
  | bl b => cases r; exact .base (.bl b)
  | int i => cases r; exact .base (.int i)
  | str x => cases r; exact .base (.str x)
  | tup l =>
    obtain ⟨a, vs, rfl, h1, h2⟩ := r
    exact .base (.tup (s.sub.tup h1))
  | lst l =>
    obtain ⟨a, vs, rfl, h1, h2⟩ := r
    exact .base (.lst (s.sub _ _ h1))
  | scr l =>
    obtain ⟨a, rfl, h1⟩ := r
    exact rdl (s.sub.sqL h1)
  | ty n => exact absurd h (no rfl)
  | ptr p =>
    have e : v = .ref p := r
    subst e
    show TyX K H (.ref p) (.type (match c p with | some (.lst _) => "list" | some (.fz _) => "list" | some (.dic _) => "dict" | _ => ""))
    have h : (match c p with | some (.lst _) => "list" | some (.fz _) => "list" | some (.dic _) => "dict" | _ => "") ∈ tyNs := h
    cases hc : c p with
    | none => rw [hc] at h; exact absurd h (no rfl)
    | some x =>
      cases x with
      | lst l =>
        obtain ⟨_, vs, h1, _⟩ := s.at_ _ _ hc
        exact .base (.lst h1)
      | fz l =>
        obtain ⟨vs, h1, _⟩ := s.at_ _ _ hc
        exact .base (.lst (s.sub _ _ h1))
      | dic l =>
        obtain ⟨_, vs, h1, _⟩ := s.at_ _ _ hc
        exact .base (.dK h1)
      | obj C fs => rw [hc] at h; exact absurd h (no rfl)
      | exc _ _ _ => rw [hc] at h; exact absurd h (no rfl)
      | dit _ => rw [hc] at h; exact absurd h (no rfl)
      | tab _ => rw [hc] at h; exact absurd h (no rfl)
      | fn _ _ => rw [hc] at h; exact absurd h (no rfl)
      | gd _ _ => rw [hc] at h; exact absurd h (no rfl)
def oIsi : OpN := fun ds c Q => match ds with
  | [x, .ty n] => tyN c x ∈ tyNs ∧ n ∈ clsNs ∧ Q (.bl (isTy (tyN c x) n)) c
  | [x, .tup cs] => tyN c x ∈ tyNs ∧ ∃ ns : List String, cs = ns.map .ty ∧ (∀ n ∈ ns, n ∈ clsNs) ∧ Q (.bl (ns.any (isTy (tyN c x)))) c
  | _ => False
theorem Reps.tys {K : PySem.W.Frag} {G : Hp} : ∀ {ns : List String} {vs : List V}, Reps K G (ns.map D.ty) vs → vs = ns.map V.ty
  | [], _, h => h
  | n :: ns, _, h => by
    obtain ⟨v, r, rfl, h1, h2⟩ := h
    cases h1
    rw [Reps.tys h2]; rfl
theorem tys_cls : ∀ ns : List String, Paired ClsV (ns.map V.ty) (ns.map Value.type)
  | [] => .nil
  | n :: ns => .cons (.ty n) (tys_cls ns)
theorem c_isi : CallD X (.builtin "isinstance") oIsi := by
  refine ⟨_, call_isi.or (call_isiT.or call_isiK), ?_⟩
  intro G c H ds vs Q0 Q s r q kk
  unfold oIsi at q
  split at q
  · obtain ⟨v, u, rfl, r1, r2⟩ := Reps.two' r
    cases r2
    obtain ⟨h1, h2, q⟩ := q
    exact .inl ⟨v, _, _, _, _, rfl, .ty _, tyX_of s r1 h1, kit_ok h1 h2, kk _ c _ H G q Gr.refl s rfl⟩
  · obtain ⟨v, u, rfl, r1, r2⟩ := Reps.two' r
    obtain ⟨h1, ns, rfl, h2, q⟩ := q
    obtain ⟨a, ws, rfl, h3, h4⟩ := r2
    cases Reps.tys h4
    exact .inr (.inl ⟨v, a, _, _, _, _, rfl, s.sub.tup h3, tys_cls ns, tyX_of s r1 h1, kitAny_ok h1 ns h2, kk _ c _ H G q Gr.refl s rfl⟩)
  · exact q.elim
end
end VL
namespace VL
open PySem PySem.Spec PyProof.Rows L2
section
variable {X : Cx} {W : WX} {e o : Expr} {es : List Expr} {we wo : WE} {ws : WA} {x : Str} {p pos apos cpos : Pos} {id T : String} {k : Nat}
def shD (d : D) : Str := (toP d).shown
abbrev OpM := D → List D → Cs → DK → Prop
def MtD (X : Cx) (id : String) (o : OpM) : Prop := ∃ r : V → List V → Hp → VK → Prop, MtR X id r ∧
  ∀ G c H x v ds vs Q0 Q, SR X.K G c H → Rep X.K G x v → Reps X.K G ds vs → o x ds c Q0 → Fin_ X.K G c H Q0 Q → r v vs H Q
def isLst (c : Cs) (x : D) : Prop := (lstOf c x).isSome = true
def wMt (o : OpM) (wo : WE) (ws : WA) : WE := fun en c Q X => wo en c (fun x c1 => isLst c1 x ∧ ws en c1 (fun ds c2 => o x ds c2 Q) X) X
def wMt0 (o : OpM) (wo : WE) : WE := fun en c Q X => wo en c (fun x c1 => isLst c1 x ∧ o x [] c1 Q) X
theorem lst_ty {G : Hp} {c : Cs} {H : Hp} {d : D} {v : V} (s : SR X.K G c H) (r : Rep X.K G d v) (h : isLst c d) : tyV X.K "list" v H := by
  unfold isLst at h
  obtain ⟨l, e⟩ := Option.isSome_iff_exists.mp h
  obtain ⟨a, vs, rfl, h1, _⟩ := lst_at s r e
  exact Or.inl ⟨rfl, vs, SqL.of h1⟩
theorem je_mt {name : Str} {om : OpM} (ho : MtD X id om) (pa : PlainAttrs "list") (slot : Slot "list" name id) (hty : typeOf (.builtin id) = pure (.type "method_descriptor")) (hw : JE X W o wo) (ha : JA X W (e :: es) ws)
    (hbase : attributeBase o name X.env (eval o X.env) = eval o X.env := by rfl)
    (hfew : ((backTo cpos (starEach (e :: es) X.env)).all (fun x => !x.1) && (backToKw cpos (keywordEach [] X.env)).all (fun x => x.1.isSome)
      && decide ((e :: es).length + ([] : List Keyword).length + (if ([] : List Keyword).isEmpty then 0 else 1) < 30)) = true := by rfl)
    (hline : (apos.endLine == cpos.line) = true := by rfl) (hs : starEach (e :: es) X.env = (false, eval e X.env) :: starEach es X.env := by rfl) (hplain : (backTo cpos (starEach es X.env)).any (·.1) = false := by rfl) :
    JE X W (.Call (.Attribute o name apos) (e :: es) [] cpos) (wMt om wo ws) := by
  obtain ⟨r, h1, h2⟩ := ho
  refine PE.of (pe_bm pa slot hty h1 hw ha hbase hfew hline hs hplain) fun σ H Q ⟨G, en, c, Q0, X0, s, er, q, x0, kk⟩ => ?_
  refine ⟨G, en, c, _, X0, s, er, q, x0, fun d1 c1 v1 H1 G1 ⟨t1, q1⟩ g1 s1 r1 => ⟨lst_ty s1 r1 t1, ?_⟩⟩
  refine ⟨G1, en, c1, _, X0, s1, er.mono g1.g, q1, x0.more g1, fun ds c2 vs H2 G2 q2 g2 s2 r2 => ?_⟩
  exact h2 G2 c2 H2 d1 v1 ds vs Q0 _ s2 (Rep.mono g2.g _ _ r1) r2 q2 fun d c' v H' G' z g s' r => kk d c' v H' G' z ((g1.trans g2).trans g) s' r
theorem je_mt0 {name : Str} {om : OpM} (ho : MtD X id om) (pa : PlainAttrs "list") (slot : Slot "list" name id) (hty : typeOf (.builtin id) = pure (.type "method_descriptor")) (hw : JE X W o wo)
    (hbase : attributeBase o name X.env (eval o X.env) = eval o X.env := by rfl) (hline : (apos.endLine == cpos.line) = true := by rfl) : JE X W (.Call (.Attribute o name apos) [] [] cpos) (wMt0 om wo) := by
  obtain ⟨r, h1, h2⟩ := ho
  refine PE.of (pe_bm0 pa slot hty h1 hw hbase hline) fun σ H Q ⟨G, en, c, Q0, X0, s, er, q, x0, kk⟩ => ?_
  refine ⟨G, en, c, _, X0, s, er, q, x0, fun d1 c1 v1 H1 G1 ⟨t1, q1⟩ g1 s1 r1 => ⟨lst_ty s1 r1 t1, ?_⟩⟩
  exact h2 G1 c1 H1 d1 v1 [] [] Q0 _ s1 r1 rfl q1 fun d c' v H' G' z g s' r => kk d c' v H' G' z (g1.trans g) s' r
/-- the live list at x -/
def liveOf (c : Cs) : D → Option (Addr × List D)
  | .ptr p => match c p with
    | some (.lst l) => some (p, l)
    | _ => none
  | _ => none
theorem live_at {K : PySem.W.Frag} {G : Hp} {c : Cs} {H : Hp} {d : D} {v : V} {q : Addr} {l : List D} (s : SR K G c H) (r : Rep K G d v) (h : liveOf c d = some (q, l)) : v = .ref q ∧ c q = some (.lst l) ∧ G q = none ∧ ∃ vs, H q = some (.lst vs) ∧ Reps K G l vs := by
  cases d with
  | ptr p =>
    have h : (match c p with | some (.lst l) => some (p, l) | _ => none) = some (q, l) := h
    cases hc : c p with
    | none => rw [hc] at h; cases h
    | some x =>
      rw [hc] at h
      cases x with
      | lst l' =>
        cases h
        obtain ⟨h1, h2⟩ := s.at_ _ _ hc
        exact ⟨r, hc, h1, h2⟩
      | fz l' => cases h
      | dic l' => cases h
      | dit l' => cases h
      | obj C fs => cases h
      | exc _ _ _ => cases h
      | tab _ => cases h
      | fn _ _ => cases h
      | gd _ _ => cases h
  | _ => cases h
/-- a live list is changed to l' -/
theorem live_set {K : PySem.W.Frag} {G : Hp} {c : Cs} {H : Hp} {q : Addr} {l l' : List D} {vs' : List V} {Q0 : DK} {Q : VK} (s : SR K G c H) (hc : c q = some (.lst l)) (hg : G q = none) (r : Reps K G l' vs') (kk : Fin_ K G c H Q0 Q) {d : D} {v : V} (hd : Rep K G d v) (z : Q0 d (cup c q (.lst l'))) : Q v (upd H q (.lst vs')) := by
  obtain ⟨s2, g2⟩ := s.write (o := HO.lst vs') (y := .lst l') hc hg ⟨hg, vs', upd_same, r⟩
  exact kk _ _ _ _ _ z g2 s2 hd
def oAppend : OpM := fun x ds c Q => match ds with
  | [d] => ∃ p l, liveOf c x = some (p, l) ∧ l.length < sizeLine ∧ Q .non (cup c p (.lst (l ++ [d])))
  | _ => False
theorem m_append : MtD X "list.append" oAppend := by
  refine ⟨_, mt_append, ?_⟩
  intro G c H x v ds vs Q0 Q s rx r q kk
  unfold oAppend at q
  split at q
  · obtain ⟨p, l, e, hz, q⟩ := q
    obtain ⟨u, rfl, r1⟩ := Reps.one' r
    obtain ⟨rfl, h1, h2, ws, h3, h4⟩ := live_at s rx e
    exact ⟨p, ws, u, rfl, rfl, h3, by rw [← h4.length]; exact hz, live_set s h1 h2 (Reps.app h4 (Reps.one r1)) kk (d := .non) rfl q⟩
  · exact q.elim
def oInsert : OpM := fun x ds c Q => match ds with
  | [.int i, d] => ∃ p l, liveOf c x = some (p, l) ∧ l.length < sizeLine ∧ 0 ≤ i ∧ i < 2 ^ 63 ∧ Q .non (cup c p (.lst (l.take i.toNat ++ [d] ++ l.drop i.toNat)))
  | _ => False
def oPop0 : OpM := fun x ds c Q => match ds with
  | [] => ∃ p l d, liveOf c x = some (p, l) ∧ l[l.length - 1]? = some d ∧ Q d (cup c p (.lst l.dropLast))
  | _ => False
theorem m_pop0 : MtD X "list.pop" oPop0 := by
  refine ⟨_, mt_pop, ?_⟩
  intro G c H x v ds vs Q0 Q s rx r q kk
  unfold oPop0 at q
  split at q
  · obtain ⟨p, l, d, e, hl, q⟩ := q
    cases r
    obtain ⟨rfl, h1, h2, ws, h3, h4⟩ := live_at s rx e
    obtain ⟨u, hu, ru⟩ := h4.get hl
    exact ⟨p, ws, u, rfl, rfl, h3, by rw [← h4.length]; exact hu, live_set s h1 h2 h4.dropLast kk ru q⟩
  · exact q.elim
def oPopAt : OpM := fun x ds c Q => match ds with
  | [.int i] => ∃ p l d j, liveOf c x = some (p, l) ∧ -(2 ^ 63) ≤ i ∧ i < 2 ^ 63 ∧ ixN l.length i = some j ∧ l[j]? = some d ∧ Q d (cup c p (.lst (l.eraseIdx j)))
  | _ => False
theorem m_popAt : MtD X "list.pop" oPopAt := by
  refine ⟨_, mt_popAt, ?_⟩
  intro G c H x v ds vs Q0 Q s rx r q kk
  unfold oPopAt at q
  split at q
  · obtain ⟨p, l, d, j, e, h7, h8, h9, hl, q⟩ := q
    obtain ⟨u1, rfl, ri⟩ := Reps.one' r
    cases ri
    obtain ⟨rfl, h1, h2, ws, h3, h4⟩ := live_at s rx e
    obtain ⟨u, hu, ru⟩ := h4.get hl
    exact ⟨p, ws, _, j, u, rfl, rfl, h3, h7, h8, by rw [← h4.length]; exact (ixN_seq h9).1, hu, live_set s h1 h2 (Reps.erase _ h4) kk ru q⟩
  · exact q.elim
def oReverse : OpM := fun x ds c Q => match ds with
  | [] => ∃ p l, liveOf c x = some (p, l) ∧ Q .non (cup c p (.lst l.reverse))
  | _ => False
def oClear : OpM := fun x ds c Q => match ds with
  | [] => ∃ p l, liveOf c x = some (p, l) ∧ Q .non (cup c p (.lst []))
  | _ => False
end
end VL
namespace VL
open PySem PySem.Spec PyProof.Rows L2
set_option maxHeartbeats 4000000 in
theorem meets_enumB1 {v : Value} {o : Obj} {H : Heap → Prop} (B : Begins v o H) :
    Meets (Builtin.«enumerate.__new__» ⟨[.type "enumerate", v], []⟩) (fun _ R s => H s.heap ∧
      R (.ok (.ret (.ref (s.heap.push o).objs.size))) { s with heap := (s.heap.push o).push { cls := .type "enumerate", data := .fields #[.none, .bool false, .ref s.heap.objs.size, rawInt 0, .none, .none] } }) :=
  .of_wp fun prog w A R s h => by
    obtain ⟨hp, g, d, tk, os⟩ := s; obtain ⟨h1, h⟩ := h
    have hsub := sub_enumerate
    have q1 : ∀ {A' : Around} {E : Value → Shared → Prop} {Q : Value → Shared → Prop}, Q (.ref hp.objs.size) ⟨hp.push o, g, d, tk, os⟩ → wpAny (model prog w) A' (pyIter v) Q E ⟨hp, g, d, tk, os⟩ :=
      fun q => B.iter prog w _ _ ⟨hp, g, d, tk, os⟩ _ h1 q
    wp_walk using q1
    refine wpAny_stack_any fun st => wpAny_pure ?_
    split
    · rename_i c _ _ _ _ _
      cases (c == Value.type "enumerate")
      · wp_walk using q1
        exact ⟨_, rfl, h⟩
      · wp_walk using q1
        exact ⟨_, rfl, h⟩
    · wp_walk using q1
      exact ⟨_, rfl, h⟩
theorem call_enumB1 {prog : Program} {w : World} {A : Around} {E : Value → Shared → Prop} {s : Shared} {v : Value} {o : Obj} {H : Heap → Prop} {Q : Value → Shared → Prop} (B : Begins v o H) (h1 : H s.heap)
    (h : ∀ h', IsEnum h' (s.heap.objs.size + 1) s.heap.objs.size 0 .none → h'.get? s.heap.objs.size = some o → h'.objs.size = s.heap.objs.size + 2 →
      (∀ b o, s.heap.get? b = some o → h'.get? b = some o) → Q (.ref (s.heap.objs.size + 1)) { s with heap := h' }) :
    wpAny (model prog w) A (call (.type "enumerate") [v]) Q E s := by
  refine callType_new F.called_enumerate (by decide) (F.typeCall_enumerate_1 _) (F.newCall_enumerate_1 _) (fun obj => F.args_object_init_2 obj _) F.entry_enumerate_new
    (meets_enumB1 B) ⟨h1, ?_⟩
  have hz : (s.heap.push o).objs.size = s.heap.objs.size + 1 := Heap.size_push ..
  show _ ∧ _
  rw [hz]
  have he : IsEnum ((s.heap.push o).push { cls := .type "enumerate", data := .fields #[.none, .bool false, .ref s.heap.objs.size, rawInt 0, .none, .none] }) (s.heap.objs.size + 1) s.heap.objs.size 0 .none := by
    have := Heap.get?_push_size (s.heap.push o) (o := { cls := .type "enumerate", data := .fields #[.none, .bool false, .ref s.heap.objs.size, rawInt 0, .none, .none] }) rfl
    rw [hz] at this; exact this
  refine ⟨⟨_, he, rfl⟩, h _ he (Heap.get?_push_of_some _ (Heap.get?_push_size _ B.free)) (by rw [Heap.size_push, hz]) fun b o x => Heap.get?_push_of_some _ (Heap.get?_push_of_some _ x)⟩
/-- the tuple at a, each item in a new pair -/
def IteT (K : PySem.W.Frag) (a : Addr) : It :=
  ⟨fun i H => ∃ (xs : List V) (x : V), SqT K H a xs ∧ xs[i]? = some x, fun i H v H' => ∃ T x, v = .ref T ∧ H T = none ∧ H' = upd H T (.tup [.int (i : Nat), x]) ∧ ∀ xs, SqT K H a xs → xs[i]? = some x, fun i H => ∃ xs : List V, SqT K H a xs ∧ xs.length ≤ i⟩
theorem turn_enumT {P : Program} {w : World} {K : PySem.W.Frag} {elts : List Expr} {kk : Nat} {tpos : Pos} (a e it : Addr) :
    Turn P w K (.Tuple elts kk tpos) (IteT K a) [e, it] e (fun i h => (∃ old, IsEnum h e it ((i : Nat) : Int) old) ∧ h.IsTupleIter it a i ∧ e ≠ it ∧ a ≠ e ∧ a ≠ it) where
  mem := by simp
  obj := fun i h st b hb => by
    obtain ⟨⟨old, he⟩, ⟨o, ho, hc, hd⟩, _⟩ := st
    have e' : b = e ∨ b = it := by simpa using hb
    rcases e' with z | z
    · rw [z]; exact ⟨_, he, fun v q => nomatch q⟩
    · rw [z]; exact ⟨o, ho, fun v q => by rw [hd] at q; cases q⟩
  keep := fun i h h' st k => let ⟨⟨old, he⟩, hi, hne⟩ := st; ⟨⟨old, k e (by simp) _ he⟩, hi.at fun o q => k it (by simp) o q, hne⟩
  item := by
    intro X hP hw hK hc i pins s σ H E I hf st hg
    subst hP hw hK
    obtain ⟨⟨old, he⟩, hit, hne, hae, hai⟩ := st
    obtain ⟨xs, x, hq, hx⟩ := hg
    obtain ⟨its, rv, p, hz⟩ := I.tuple hq
    obtain ⟨u, hu, ru⟩ := rv.get hx
    have hel : e < s.heap.objs.size := Heap.lt_size he
    have hil : it < s.heap.objs.size := by obtain ⟨_, q, _⟩ := hit; exact Heap.lt_size q
    have hlt : i < its.toArray.size := by
      obtain ⟨h1, _⟩ := List.getElem?_eq_some_iff.mp hu
      simpa using h1
    have hh : X.A.in1.handled = none := I.ok.hd hc
    refine wpAny_pyNext_enum_itemC (Draws.tuple hh it a hai its.toArray) he ⟨hit, p⟩ hlt hne (by simp [hne, Ne.symm hae]) fun u' h' tk hu' ho hst hT hsz hk => ?_
    have eu : u' = u := by
      have : its[i]? = some u' := by simpa using hu'
      rw [hu] at this
      exact (Option.some.inj this).symm
    subst eu
    obtain ⟨hit', _⟩ := hst
    refine ⟨_, rfl, wpAny_letOwnedTupleGo_enum (s := { s with heap := h', toks := tk + 1 }) ho fun h'' he' sb => ?_⟩
    have hT2 : h''.get? s.heap.objs.size = some { cls := .type "tuple", data := .seq #[.int i tk, u'] } := (sb.2 _ (Nat.ne_of_gt hel)).trans hT
    have new : ObjOk X.prog X.w (upd H s.heap.objs.size (.tup [.int (i : Nat), x])) h'' s.heap.objs.size (.tup [.int (i : Nat), x]) :=
      ⟨by show 2 ≤ sizeLine; decide, [.int i tk, u'], .cons ⟨_, rfl⟩ (.cons ru .nil), ⟨_, hT2, rfl, _, rfl⟩⟩
    have I1 : Inv X pins σ (upd H s.heap.objs.size (.tup [.int (i : Nat), x])) { s with heap := h'', toks := tk + 1 } :=
      I.turnedNew (ch := [e, it]) (fun b ob hb q => (sb.2 b (fun z => hb (by simp [z]))).trans (hk b ob (fun z => hb (by simp [z])) (fun z => hb (by simp [z])) q)) hf (Nat.le_refl _) new
    refine ⟨.ref s.heap.objs.size, _, I1, rfl, ⟨_, x, rfl, I.hok.fresh (Nat.le_refl _), rfl, fun ys hy => by rw [I.tuple_inj hy hq]; exact hx⟩, ⟨⟨u', ?_⟩, hit'.at fun o q => (sb.2 it (Ne.symm hne)).trans q, hne, hae, hai⟩, fun b hb => ?_⟩
    · have e1 : ((i + 1 : Nat) : Int) = (i : Int) + 1 := by omega
      rw [e1]; exact he'
    · have hb' : b < s.heap.objs.size := by
        have e' : b = e ∨ b = it := by simpa using hb
        rcases e' with z | z
        · rw [z]; exact hel
        · rw [z]; exact hil
      rw [upd_ne (Nat.ne_of_lt hb')]
      exact (hf b hb).1
  done := by
    intro X hP hw hK hc i pins s σ H E I hf st hg
    subst hP hw hK
    obtain ⟨⟨old, he⟩, hit, hne, hae, hai⟩ := st
    obtain ⟨xs, hq, hx⟩ := hg
    obtain ⟨its, rv, p, hz⟩ := I.tuple hq
    obtain ⟨f0, f1, f2, f3, f4, f5⟩ := hf it (by simp)
    have hl := rv.length
    have hh : X.A.in1.handled = none := I.ok.hd hc
    have hT : s.TypeIs (.ref e) "enumerate" := ⟨_, he, rfl⟩
    unfold pyNext
    refine wpAny_bind (wpAny_attempt (wpAny_callSpecial?_slot (name := Str.ofString "__next__") hT F.slot_enumerate_next
      (wpAny_call_entry F.slot_enumerate_next hT F.entry_enumerate_next ?_ (F.args_enumerate_next_1 _))))
    show wpAny _ _ (field (.ref e) 2 >>= _) _ _ _
    refine wpAny_bind (wpAny_field he rfl (x := .ref it) rfl ?_)
    refine wpAny_bind (wpAny_nextOf_tuple_end hh hit p (by simp; omega) fun h' x he' hx' => ?_)
    obtain ⟨o, ho, hcs⟩ := hx'
    refine wpAny_bind (wpAny_isInstance (T := "StopIteration") (b := true) ⟨o, ho, hcs⟩ isSubtype_stop ?_)
    exact wpAny_pure ⟨rfl, I.turned (t' := s.toks) (fun b o hb q => he' b o hb q) f0 f1 f3 f4 f5⟩
  self := fun A i s Q E st h => let ⟨⟨_, he⟩, _⟩ := st; wpAny_pyIter_enum he h
/-- enumerate of a list, of a tuple -/
def iEnumA (K : PySem.W.Frag) (ta : TA) : TI := fun σ H R => ta σ H fun vs H1 => ∃ a xs, vs = [.ref a] ∧ ((SqL K H1 a xs ∧ R (Ite K a) H1) ∨ (SqT K H1 a xs ∧ R (IteT K a) H1))
theorem pi_enumA {X : Cx} {e : Expr} {ta : TA} {p pos tpos : Pos} {elts : List Expr} {kk : Nat} (hg : Gl X "enumerate") (hm : X.mg "enumerate" = none) (ha : PA X [e] ta) (hs : starEach [e] X.env = [(false, eval e X.env)] := by rfl) :
    PI X (.Tuple elts kk tpos) (.Call (.Name "enumerate" p) [e] [] pos) (iEnumA X.K ta) := by
  refine ⟨fun pins s σ H R I h => ?_⟩
  refine Call_ (ld_blt I hg hm boot_enumerate (PyProof.Rows.callWith_type1 (thn (ha.run pos pins s σ H _ I h) fun us s1 ⟨vs, H1, I1, r1, q1⟩ => ?_) hs rfl))
  obtain ⟨a, xs, ex, q⟩ := q1
  subst ex
  cases r1 with
  | cons r rr =>
    cases rr
    cases r
    rcases q with ⟨hq, q⟩ | ⟨hq, q⟩
    · obtain ⟨its, rv, p', hz⟩ := I1.list hq
      refine call_enumerate_list p'.isList fun h' he hit hsz hk => wpAny_pyIter_enum he ?_
      have I2 : Inv X pins σ H1 { s1 with heap := h' } := I1.kept (t' := s1.toks) hk
      refine ⟨s1.heap.objs.size + 1, [s1.heap.objs.size + 1, s1.heap.objs.size], _, _, H1, rfl, I2, turn_enum a (s1.heap.objs.size + 1) s1.heap.objs.size, ⟨⟨.none, he⟩, hit, Nat.succ_ne_self _⟩, fun b hb => ?_, q⟩
      have e' : b = s1.heap.objs.size + 1 ∨ b = s1.heap.objs.size := by simpa using hb
      have hle : s1.heap.objs.size ≤ b := by
        rcases e' with z | z
        · rw [z]; exact Nat.le_add_right _ _
        · rw [z]; exact Nat.le_refl _
      exact I1.fpOk hle (I1.hok.fresh hle)
    · obtain ⟨its, rv, p', hz⟩ := I1.tuple hq
      have hal : a < s1.heap.objs.size := by obtain ⟨_, q, _⟩ := id p'; exact Heap.lt_size q
      refine call_enumB1 (begins_tuple a its.toArray) p' fun h' he hit hsz hk => wpAny_pyIter_enum he ?_
      have I2 : Inv X pins σ H1 { s1 with heap := h' } := I1.kept (t' := s1.toks) hk
      refine ⟨s1.heap.objs.size + 1, [s1.heap.objs.size + 1, s1.heap.objs.size], _, _, H1, rfl, I2, turn_enumT a (s1.heap.objs.size + 1) s1.heap.objs.size, ⟨⟨.none, he⟩, ⟨_, hit, rfl, rfl⟩, Nat.succ_ne_self _, Nat.ne_of_lt (Nat.lt_succ_of_lt hal), Nat.ne_of_lt hal⟩, fun b hb => ?_, q⟩
      have e' : b = s1.heap.objs.size + 1 ∨ b = s1.heap.objs.size := by simpa using hb
      have hle : s1.heap.objs.size ≤ b := by
        rcases e' with z | z
        · rw [z]; exact Nat.le_add_right _ _
        · rw [z]; exact Nat.le_refl _
      exact I1.fpOk hle (I1.hok.fresh hle)
end VL
namespace VL
open PySem PySem.Spec PyProof.Rows L2 RZ
/-- the items, what must hold at each turn, the cells -/
abbrev IK := List D → (Cs → Prop) → Cs → Prop
abbrev WI := En → Cs → IK → XD → Prop
/-- from a state behind (G0): the walk J gives the items ds as long as chk holds -/
def Srv (K : PySem.W.Frag) (G0 : Hp) (J : It) (ds : List D) (chk : Cs → Prop) : Prop := ∀ i G c H, Le G0 G → SR K G c H → chk c →
  (∀ d, ds[i]? = some d → J.go i H ∧ ∀ x H', J.yld i H x H' → ∃ G', SR K G' c H' ∧ Gr G c H G' c H' ∧ Rep K G' d x) ∧ (ds.length ≤ i → J.stop i H)
def rdI (K : PySem.W.Frag) (mg : Str → Option Value) (W : WX) (wi : WI) : TI := fun σ H R => ∃ G en c Q0 X0, SR K G c H ∧ EnR K G en σ ∧ wi en c Q0 X0 ∧ XOk K mg W X0 G c H ∧
  ∀ ds chk c' J H' G', Q0 ds chk c' → Gr G c H G' c' H' → SR K G' c' H' → Srv K G' J ds chk → R J H'
abbrev JI (X : Cx) (W : WX) (tg e : Expr) (wi : WI) : Prop := PI X tg e (rdI X.K X.mg W wi)
section
variable {X : Cx} {W : WX} {tg e a b : Expr} {es : List Expr} {we wa wb : WE} {ws : WA} {x : Str} {p pos tpos : Pos} {k : Nat}
/-- a list or a tuple that stays as it is through the walk -/
def wSeq (we : WE) : WI := fun en c Q X => we en c (fun d c1 => match seqOf c1 d with
  | some l => l.length ≤ sizeLine → Q l (fun c' => seqOf c' d = some l) c1
  | none => False) X
theorem srv_seq {K : PySem.W.Frag} {G : Hp} {d : D} {v : V} {l : List D} (r : Rep K G d v) : ∀ {a : Addr}, v = .ref a → Srv K G (if isTup d = true then Itt K a else Itl K a) l (fun c' => seqOf c' d = some l) := by
  intro a ea i G1 c H le s e
  obtain ⟨a', vs, e1, h1, h2⟩ := seq_at s (Rep.mono le _ _ r) e
  rw [ea] at e1
  cases e1
  rcases h2 with ⟨ht, h2⟩ | ⟨ht, h2⟩
  · rw [if_pos ht]
    refine ⟨fun d' hd => ?_, fun hi => ⟨vs, h2, by rw [← h1.length]; exact hi⟩⟩
    obtain ⟨u, hu, ru⟩ := h1.get hd
    refine ⟨⟨vs, u, h2, hu⟩, fun x H' y => ?_⟩
    obtain ⟨rfl, y⟩ := y
    refine ⟨G1, s, Gr.refl, ?_⟩
    have := y vs h2
    rw [hu] at this
    cases this
    exact ru
  · rw [if_neg (by rw [ht]; exact Bool.false_ne_true)]
    refine ⟨fun d' hd => ?_, fun hi => ⟨vs, h2, by rw [← h1.length]; exact hi⟩⟩
    obtain ⟨u, hu, ru⟩ := h1.get hd
    refine ⟨⟨vs, u, h2, hu⟩, fun x H' y => ?_⟩
    obtain ⟨rfl, y⟩ := y
    refine ⟨G1, s, Gr.refl, ?_⟩
    have := y vs h2
    rw [hu] at this
    cases this
    exact ru
/-- a list or a tuple, whichever it is -/
theorem pi_any {tl : TE} (hl : PE X e tl) : PI X tg e (fun σ H R => tl σ H fun x H1 => (∃ a, x = .ref a ∧ (∃ xs, SqL X.K H1 a xs) ∧ R (Itl X.K a) H1) ∨ (∃ a, x = .ref a ∧ (∃ xs, SqT X.K H1 a xs) ∧ R (Itt X.K a) H1)) := by
  refine ⟨fun pins s σ H R I h => ?_⟩
  refine thn (hl.run pins s σ H _ I h) fun v s1 ⟨x, H1, I1, r1, q1⟩ => ?_
  have base : PE X e (fun σ' H' Q => False) := ⟨fun _ _ _ _ _ _ z => z.elim⟩
  rcases q1 with ⟨a, e1, ⟨xs, hq⟩, q⟩ | ⟨a, e1, ⟨xs, hq⟩, q⟩
  · subst e1
    cases r1
    obtain ⟨its, rv, p, hz⟩ := I1.list hq
    refine wpAny_pyIter_list p.isList ⟨s1.heap.objs.size, [s1.heap.objs.size], _, _, H1, rfl, I1.kept (t' := s1.toks) (fun b o z => Heap.get?_push_of_some _ z), turn_list a _, ⟨_, Heap.get?_push_size _ rfl, rfl, rfl⟩, ?_, q⟩
    intro b hb
    have z : b = s1.heap.objs.size := by simpa using hb
    subst z
    exact I1.fpOk (Nat.le_refl _) I1.fresh
  · subst e1
    cases r1
    obtain ⟨its, rv, p, hz⟩ := I1.tuple hq
    refine wpAny_pyIter_tuple (show s1.heap.IsTuple a its.toArray from p) ⟨s1.heap.objs.size, [s1.heap.objs.size], _, _, H1, rfl, I1.kept (t' := s1.toks) (fun b o z => Heap.get?_push_of_some _ z), turn_tuple a _, ⟨_, Heap.get?_push_size _ rfl, rfl, rfl⟩, ?_, q⟩
    intro b hb
    have z : b = s1.heap.objs.size := by simpa using hb
    subst z
    exact I1.fpOk (Nat.le_refl _) I1.fresh
theorem ji_seq (h : JE X W e we) : JI X W tg e (wSeq we) := by
  refine PI.of (pi_any h) fun σ H R ⟨G, en, c, Q0, X0, s, er, q, x0, kk⟩ => ?_
  refine ⟨G, en, c, _, X0, s, er, q, x0, fun d c1 v H1 G1 q1 g1 s1 r1 => ?_⟩
  split at q1
  · rename_i l hl
    obtain ⟨a, vs, e1, h1, h2⟩ := seq_at s1 r1 hl
    have sv := srv_seq (l := l) r1 e1
    rcases h2 with ⟨ht, h2⟩ | ⟨ht, h2⟩
    · rw [if_pos ht] at sv
      exact .inr ⟨a, e1, ⟨vs, h2⟩, fun hh => kk l _ c1 _ H1 G1 (q1 (seq_len s1 hh r1 hl)) g1 s1 sv⟩
    · rw [if_neg (by rw [ht]; exact Bool.false_ne_true)] at sv
      exact .inl ⟨a, e1, ⟨vs, h2⟩, fun hh => kk l _ c1 _ H1 G1 (q1 (seq_len s1 hh r1 hl)) g1 s1 sv⟩
  · exact q1.elim
/-- range -/
def rgD (lo hi : Int) : List D := (List.range (hi - lo).toNat).map fun (i : Nat) => .int (lo + (i : Nat))
def wRg1 (we : WE) : WI := fun en c Q X => we en c (fun d c1 => match d with
  | .int j => -(2 ^ 62) ≤ j ∧ j < 2 ^ 62 ∧ Q (rgD 0 j) (fun _ => True) c1
  | _ => False) X
def wRg2 (wa wb : WE) : WI := fun en c Q X => wa en c (fun d c1 => wb en c1 (fun d' c2 => match d, d' with
  | .int i, .int j => (-(2 ^ 62) ≤ i ∧ i < 2 ^ 62 ∧ -(2 ^ 62) ≤ j ∧ j < 2 ^ 62) ∧ Q (rgD i j) (fun _ => True) c2
  | _, _ => False) X) X
theorem srv_rg {K : PySem.W.Frag} {G : Hp} (lo hi : Int) : Srv K G (Itr lo (hi - lo).toNat) (rgD lo hi) (fun _ => True) := by
  intro i G1 c H le s _
  unfold rgD
  refine ⟨fun d hd => ?_, fun hi' => ?_⟩
  · rw [List.getElem?_map] at hd
    cases e : (List.range (hi - lo).toNat)[i]? with
    | none => rw [e] at hd; cases hd
    | some j =>
      rw [e] at hd
      cases hd
      obtain ⟨h1, h2⟩ := List.getElem?_eq_some_iff.mp e
      rw [List.getElem_range] at h2
      subst h2
      rw [List.length_range] at h1
      refine ⟨h1, fun x H' y => ?_⟩
      obtain ⟨rfl, rfl⟩ := y
      exact ⟨G1, s, Gr.refl, rfl⟩
  · rw [List.length_map, List.length_range] at hi'
    exact hi'
theorem ji_rg1 (hm : X.mg "range" = none) (ha : JE X W a wa) (hg : Gl X "range" := by rfl) (hs : starEach [a] X.env = [(false, eval a X.env)] := by rfl) : JI X W tg (.Call (.Name "range" p) [a] [] pos) (wRg1 wa) := by
  refine PI.of (pi_range1 hg hm (pa_cons ha pa_nil hs) hs) fun σ H R ⟨G, en, c, Q0, X0, s, er, q, x0, kk⟩ => ?_
  refine ⟨G, en, c, _, X0, s, er, q, x0, fun d c1 v H1 G1 q1 g1 s1 r1 => ?_⟩
  cases d <;> first
    | exact q1.elim
    | skip
  rename_i j
  have e : v = .int j := r1
  subst e
  refine ⟨j, rfl, q1.1, q1.2.1, fun _ => kk _ _ c1 _ H1 G1 q1.2.2 g1 s1 ?_⟩
  have := srv_rg (K := X.K) (G := G1) 0 j
  rw [Int.sub_zero] at this
  exact this
/-- enumerate of a list -/
def enD (n : Nat) : List D → List D
  | [] => []
  | d :: l => .tup [.int n, d] :: enD (n + 1) l
theorem enD_length : ∀ (l : List D) (n : Nat), (enD n l).length = l.length
  | [], _ => rfl
  | d :: l, n => by rw [enD, List.length_cons, List.length_cons, enD_length l]
theorem enD_get : ∀ (l : List D) (n i : Nat) (y : D), (enD n l)[i]? = some y → ∃ d, l[i]? = some d ∧ y = .tup [.int ((n + i : Nat) : Int), d]
  | [], _, _, _, h => by simp [enD] at h
  | d :: l, n, 0, y, h => by
    simp [enD] at h
    exact ⟨d, rfl, by rw [← h]; simp⟩
  | d :: l, n, i + 1, y, h => by
    rw [enD, List.getElem?_cons_succ] at h
    obtain ⟨d', h1, h2⟩ := enD_get l (n + 1) i y h
    exact ⟨d', by simpa using h1, by rw [h2, Nat.add_assoc, Nat.add_comm 1 i]⟩
def wEnum (we : WE) : WI := fun en c Q X => we en c (fun d c1 => match seqOf c1 d with
  | some l => l.length ≤ sizeLine → Q (enD 0 l) (fun c' => seqOf c' d = some l) c1
  | none => False) X
theorem pair_new {K : PySem.W.Frag} {G : Hp} {c : Cs} {H : Hp} {T : Addr} {x y : V} {d d' : D} (s : SR K G c H) (n : H T = none) (r : Rep K G d x) (r' : Rep K G d' y) :
    ∃ G', SR K G' c (upd H T (.tup [x, y])) ∧ Gr G c H G' c (upd H T (.tup [x, y])) ∧ Rep K G' (.tup [d, d']) (.ref T) := by
  obtain ⟨s2, g2⟩ := s.newG (o := HO.tup [x, y]) n
  exact ⟨_, s2, g2, T, _, rfl, TupAt.of upd_same, x, [y], rfl, Rep.mono g2.g _ _ r, y, [], rfl, Rep.mono g2.g _ _ r', rfl⟩
theorem srv_enum {K : PySem.W.Frag} {G : Hp} {d : D} {v : V} {l : List D} (r : Rep K G d v) {a : Addr} (ea : v = .ref a) : Srv K G (if isTup d = true then IteT K a else Ite K a) (enD 0 l) (fun c' => seqOf c' d = some l) := by
  intro i G1 c H le s e
  obtain ⟨a', vs, e1, h1, h2⟩ := seq_at s (Rep.mono le _ _ r) e
  rw [ea] at e1
  cases e1
  rcases h2 with ⟨ht, h2⟩ | ⟨ht, h2⟩
  · rw [if_pos ht]
    refine ⟨fun y hy => ?_, fun hi => ⟨vs, h2, by rw [← h1.length, ← enD_length l 0]; exact hi⟩⟩
    obtain ⟨d', hd, rfl⟩ := enD_get l 0 i y hy
    obtain ⟨u, hu, ru⟩ := h1.get hd
    refine ⟨⟨vs, u, h2, hu⟩, fun x H' z => ?_⟩
    obtain ⟨T, w, rfl, hn, rfl, hw⟩ := z
    have := hw vs h2
    rw [hu] at this
    cases this
    rw [Nat.zero_add]
    exact pair_new s hn rfl ru
  · rw [if_neg (by rw [ht]; decide)]
    refine ⟨fun y hy => ?_, fun hi => ⟨vs, h2, by rw [← h1.length, ← enD_length l 0]; exact hi⟩⟩
    obtain ⟨d', hd, rfl⟩ := enD_get l 0 i y hy
    obtain ⟨u, hu, ru⟩ := h1.get hd
    refine ⟨⟨vs, u, h2, hu⟩, fun x H' z => ?_⟩
    obtain ⟨T, w, rfl, hn, rfl, hw⟩ := z
    have := hw vs h2
    rw [hu] at this
    cases this
    rw [Nat.zero_add]
    exact pair_new s hn rfl ru
theorem ji_enum {elts : List Expr} {kk' : Nat} (hm : X.mg "enumerate" = none) (ha : JE X W a wa) (hg : Gl X "enumerate" := by rfl) (hs : starEach [a] X.env = [(false, eval a X.env)] := by rfl) : JI X W (.Tuple elts kk' tpos) (.Call (.Name "enumerate" p) [a] [] pos) (wEnum wa) := by
  refine PI.of (pi_enumA hg hm (pa_cons ha pa_nil hs) hs) fun σ H R ⟨G, en, c, Q0, X0, s, er, q, x0, kk⟩ => ?_
  refine ⟨G, en, c, _, X0, s, er, q, x0, fun d c1 v H1 G1 q1 g1 s1 r1 => ?_⟩
  split at q1
  · rename_i l hl
    obtain ⟨a', vs, e1, h1, h2⟩ := seq_at s1 r1 hl
    have sv := srv_enum (l := l) r1 e1
    rcases h2 with ⟨ht, h2⟩ | ⟨ht, h2⟩
    · rw [if_pos ht] at sv
      exact ⟨a', vs, by rw [e1], .inr ⟨h2, fun hh => kk _ _ c1 _ H1 G1 (q1 (seq_len s1 hh r1 hl)) g1 s1 sv⟩⟩
    · rw [if_neg (by rw [ht]; decide)] at sv
      exact ⟨a', vs, by rw [e1], .inl ⟨h2, fun hh => kk _ _ c1 _ H1 G1 (q1 (seq_len s1 hh r1 hl)) g1 s1 sv⟩⟩
  · exact q1.elim
/-- zip of two lists, of two tuples -/
def wZip (wa wb : WE) : WI := fun en c Q X => wa en c (fun d c1 => wb en c1 (fun d' c2 => match seqOf c2 d, seqOf c2 d' with
  | some l, some m => isTup d = isTup d' ∧ (l.length ≤ sizeLine → m.length ≤ sizeLine → Q (List.zipWith (fun x y => .tup [x, y]) l m) (fun c' => seqOf c' d = some l ∧ seqOf c' d' = some m) c2)
  | _, _ => False) X) X
theorem srv_zip {K : PySem.W.Frag} {G : Hp} {d d' : D} {v v' : V} {l m : List D} (r : Rep K G d v) (r' : Rep K G d' v') {a b : Addr} (ea : v = .ref a) (eb : v' = .ref b) (ht : isTup d = isTup d') :
    Srv K G (if isTup d = true then ItzT K a b else Itz K a b) (List.zipWith (fun x y => .tup [x, y]) l m) (fun c' => seqOf c' d = some l ∧ seqOf c' d' = some m) := by
  intro i G1 c H le s ⟨e, e'⟩
  obtain ⟨a', vs, e1, h1, h2⟩ := seq_at s (Rep.mono le _ _ r) e
  obtain ⟨b', ws, e3, h3, h4⟩ := seq_at s (Rep.mono le _ _ r') e'
  rw [ea] at e1
  rw [eb] at e3
  cases e1
  cases e3
  have both : ∀ y, (List.zipWith (fun x y => D.tup [x, y]) l m)[i]? = some y → ∃ p q u w, vs[i]? = some u ∧ ws[i]? = some w ∧ Rep K G1 p u ∧ Rep K G1 q w ∧ y = .tup [p, q] := fun y hy => by
    rw [List.getElem?_zipWith] at hy
    cases hl : l[i]? with
    | none => rw [hl] at hy; simp at hy
    | some p =>
      cases hm : m[i]? with
      | none => rw [hl, hm] at hy; simp at hy
      | some q =>
        rw [hl, hm] at hy
        obtain ⟨u, hu, ru⟩ := h1.get hl
        obtain ⟨w, hw, rw'⟩ := h3.get hm
        exact ⟨p, q, u, w, hu, hw, ru, rw', by simpa using hy.symm⟩
  have stop : (List.zipWith (fun x y => D.tup [x, y]) l m).length ≤ i → vs.length ≤ i ∨ ws.length ≤ i := fun h => by
    rw [List.length_zipWith, h1.length, h3.length] at h
    omega
  rcases h2 with ⟨t1, h2⟩ | ⟨t1, h2⟩
  · rcases h4 with ⟨t2, h4⟩ | ⟨t2, h4⟩
    · rw [if_pos t1]
      refine ⟨fun y hy => ?_, fun hi => ⟨vs, ws, h2, h4, stop hi⟩⟩
      obtain ⟨p, q, u, w, hu, hw, ru, rw', rfl⟩ := both y hy
      refine ⟨⟨vs, ws, u, w, h2, h4, hu, hw⟩, fun x H' z => ?_⟩
      obtain ⟨T, u', w', rfl, hn, rfl, k1, k2⟩ := z
      have z1 := k1 vs h2
      have z2 := k2 ws h4
      rw [hu] at z1
      rw [hw] at z2
      cases z1
      cases z2
      exact pair_new s hn ru rw'
    · rw [t1, t2] at ht; cases ht
  · rcases h4 with ⟨t2, h4⟩ | ⟨t2, h4⟩
    · rw [t1, t2] at ht; cases ht
    · rw [if_neg (by rw [t1]; exact Bool.false_ne_true)]
      refine ⟨fun y hy => ?_, fun hi => ⟨vs, ws, h2, h4, stop hi⟩⟩
      obtain ⟨p, q, u, w, hu, hw, ru, rw', rfl⟩ := both y hy
      refine ⟨⟨vs, ws, u, w, h2, h4, hu, hw⟩, fun x H' z => ?_⟩
      obtain ⟨T, u', w', rfl, hn, rfl, k1, k2⟩ := z
      have z1 := k1 vs h2
      have z2 := k2 ws h4
      rw [hu] at z1
      rw [hw] at z2
      cases z1
      cases z2
      exact pair_new s hn ru rw'
theorem ji_zip {elts : List Expr} {kk' : Nat} (hm : X.mg "zip" = none) (ha : JE X W a wa) (hb : JE X W b wb) (hg : Gl X "zip" := by rfl) (hs2 : starEach [b] X.env = [(false, eval b X.env)] := by rfl)
    (hs : starEach [a, b] X.env = (false, eval a X.env) :: starEach [b] X.env := by rfl) (hpl : (backTo pos (starEach [b] X.env)).any (·.1) = false := by rfl) : JI X W (.Tuple elts kk' tpos) (.Call (.Name "zip" p) [a, b] [] pos) (wZip wa wb) := by
  refine PI.of (pi_zipA hg hm (pa_cons ha (pa_cons hb pa_nil hs2) hs) hs hpl) fun σ H R ⟨G, en, c, Q0, X0, s, er, q, x0, kk⟩ => ?_
  refine ⟨G, en, c, _, X0, s, er, q, x0, fun d c1 v H1 G1 q1 g1 s1 r1 => ?_⟩
  refine ⟨G1, en, c1, _, X0, s1, er.mono g1.g, q1, x0.more g1, fun d' c2 v' H2 G2 q2 g2 s2 r2 => ?_⟩
  have r1' := Rep.mono g2.g _ _ r1
  split at q2
  · rename_i l m hl hm'
    obtain ⟨ht, q2⟩ := q2
    obtain ⟨a', vs, e1, h1, h2⟩ := seq_at s2 r1' hl
    obtain ⟨b', ws, e3, h3, h4⟩ := seq_at s2 r2 hm'
    have sv := srv_zip (l := l) (m := m) r1' r2 e1 e3 ht
    refine ⟨a', b', vs, ws, by rw [e1, e3], ?_⟩
    rcases h2 with ⟨t1, h2⟩ | ⟨t1, h2⟩
    · rcases h4 with ⟨t2, h4⟩ | ⟨t2, h4⟩
      · rw [if_pos t1] at sv
        exact .inr ⟨h2, h4, fun hh => kk _ _ c2 _ H2 G2 (q2 (seq_len s2 hh r1' hl) (seq_len s2 hh r2 hm')) (g1.trans g2) s2 sv⟩
      · rw [t1, t2] at ht; cases ht
    · rcases h4 with ⟨t2, h4⟩ | ⟨t2, h4⟩
      · rw [t1, t2] at ht; cases ht
      · rw [if_neg (by rw [t1]; exact Bool.false_ne_true)] at sv
        exact .inl ⟨h2, h4, fun hh => kk _ _ c2 _ H2 G2 (q2 (seq_len s2 hh r1' hl) (seq_len s2 hh r2 hm')) (g1.trans g2) s2 sv⟩
  · exact q2.elim
end
inductive Tg where
  | nm (i : Nat)
  | tup (ts : List Tg)
mutual
def gTg (K : PySem.W.Frag) : Tg → TG
  | .nm i => gName i
  | .tup ts => fun v σ H Q => gTup K ts.length (gTgs K ts) v σ H Q ∨ gUnl K ts.length (gTgs K ts) v σ H Q
def gTgs (K : PySem.W.Frag) : List Tg → TGs
  | [] => gNil
  | t :: ts => gCons (gTg K t) (gTgs K ts)
end
mutual
def bindT : Tg → D → En → Option En
  | .nm i, d, en => some (en.set i (some d))
  | .tup ts, d, en => match d with
    | .tup ds => bindTs ts ds en
    | .lst ds => bindTs ts ds en
    | _ => none
def bindTs : List Tg → List D → En → Option En
  | [], [], en => some en
  | t :: ts, d :: ds, en => match bindT t d en with
    | some en' => bindTs ts ds en'
    | none => none
  | _, _, _ => none
end
mutual
def slotsT : Tg → List Nat
  | .nm i => [i]
  | .tup ts => slotsTs ts
def slotsTs : List Tg → List Nat
  | [] => []
  | t :: ts => slotsT t ++ slotsTs ts
end
theorem wipe_set {σ : L2.St} {i : Nat} {o : Option V} : ∀ {vs : List Nat}, i ∈ vs → wipe (σ.set i o) vs = wipe σ vs
  | v :: vs, h => by
    unfold wipe
    by_cases e : i ∈ vs
    · rw [wipe_set e]
    · have hv : i = v := by
        rcases List.mem_cons.mp h with h | h
        · exact h
        · exact absurd h e
      subst hv
      have out : ∀ ws : List Nat, i ∉ ws → wipe (σ.set i o) ws = (wipe σ ws).set i o := fun ws => by
        induction ws with
        | nil => intro _; rfl
        | cons w ws ih =>
          intro hn
          rw [List.mem_cons, not_or] at hn
          unfold wipe
          rw [ih hn.2, List.set_comm _ _ hn.1]
      rw [out vs e, List.set_set]
theorem pg_any {es : List Expr} {k n : Nat} {pos : Pos} {X : Cx} {t : TGs} (hc : X.calm = true) (h : PGs X es t) (hn : (assignEach es X.env).length = n) (hst : (assignEach es X.env).findIdx? (·.1) = none) :
    PG X (.Tuple es k pos) (fun v σ H Q => gTup X.K n t v σ H Q ∨ gUnl X.K n t v σ H Q) :=
  ⟨fun pins s σ H v u Q I r q => q.elim (fun q => (pg_tup hc h hn hst).run pins s σ H v u Q I r q) (fun q => (pg_unl hc h hn hst).run pins s σ H v u Q I r q)⟩
mutual
theorem gTg_ok {K : PySem.W.Frag} {G H : Hp} (le : Le G H) {vs : List Nat} : ∀ (t : Tg) (d : D) (v : V) (en en' : En) (σ : L2.St) (Q : L2.St → Hp → Prop), (∀ i ∈ slotsT t, i ∈ vs) → EnR K G en σ → Rep K G d v → bindT t d en = some en' →
    (∀ σ', EnR K G en' σ' → wipe σ' vs = wipe σ vs → Q σ' H) → gTg K t v σ H Q
  | .nm i, d, v, en, en', σ, Q, hv, er, r, hb, k => by
    cases hb
    exact k _ (er.set r) (wipe_set (hv i (by simp [slotsT])))
  | .tup ts, d, v, en, en', σ, Q, hv, er, r, hb, k => by
    cases d <;> first
      | (simp [bindT] at hb; done)
      | skip
    · rename_i ds
      have hb : bindTs ts ds en = some en' := by simpa [bindT] using hb
      obtain ⟨a, us, rfl, h1, h2⟩ := r
      exact .inl ⟨a, us, rfl, le.sqT h1.sq, by rw [← h2.length]; exact bindTs_len ts ds en en' hb, gTgs_ok le ts ds us en en' σ Q (by simpa [slotsT] using hv) er h2 hb k⟩
    · rename_i ds
      have hb : bindTs ts ds en = some en' := by simpa [bindT] using hb
      obtain ⟨a, us, rfl, h1, h2⟩ := r
      exact .inr ⟨a, us, rfl, SqL.of (le _ _ h1), by rw [← h2.length]; exact bindTs_len ts ds en en' hb, gTgs_ok le ts ds us en en' σ Q (by simpa [slotsT] using hv) er h2 hb k⟩
theorem gTgs_ok {K : PySem.W.Frag} {G H : Hp} (le : Le G H) {vs : List Nat} : ∀ (ts : List Tg) (ds : List D) (us : List V) (en en' : En) (σ : L2.St) (Q : L2.St → Hp → Prop), (∀ i ∈ slotsTs ts, i ∈ vs) → EnR K G en σ → Reps K G ds us → bindTs ts ds en = some en' →
    (∀ σ', EnR K G en' σ' → wipe σ' vs = wipe σ vs → Q σ' H) → gTgs K ts us σ H Q
  | [], [], us, en, en', σ, Q, hv, er, r, hb, k => by
    cases r
    cases hb
    exact ⟨rfl, k σ er rfl⟩
  | [], _ :: _, _, _, _, _, _, _, _, _, hb, _ => by simp [bindTs] at hb
  | _ :: _, [], _, _, _, _, _, _, _, _, hb, _ => by simp [bindTs] at hb
  | t :: ts, d :: ds, us, en, en', σ, Q, hv, er, r, hb, k => by
    obtain ⟨v, us', rfl, h1, h2⟩ := r
    have hv : (∀ i ∈ slotsT t, i ∈ vs) ∧ ∀ i ∈ slotsTs ts, i ∈ vs := ⟨fun i h => hv i (by simp [slotsTs, h]), fun i h => hv i (by simp [slotsTs, h])⟩
    cases e : bindT t d en with
    | none => simp [bindTs, e] at hb
    | some en1 =>
      have hb : bindTs ts ds en1 = some en' := by simpa [bindTs, e] using hb
      refine ⟨v, us', rfl, gTg_ok le t d v en en1 σ _ hv.1 er h1 e fun σ1 er1 w1 => ?_⟩
      exact gTgs_ok le ts ds us' en1 en' σ1 Q hv.2 er1 h2 hb fun σ2 er2 w2 => k σ2 er2 (w2.trans w1)
theorem bindTs_len : ∀ (ts : List Tg) (ds : List D) (en en' : En), bindTs ts ds en = some en' → ds.length = ts.length
  | [], [], _, _, _ => rfl
  | [], _ :: _, _, _, hb => by simp [bindTs] at hb
  | _ :: _, [], _, _, hb => by simp [bindTs] at hb
  | t :: ts, d :: ds, en, en', hb => by
    cases e : bindT t d en with
    | none => simp [bindTs, e] at hb
    | some en1 =>
      have hb : bindTs ts ds en1 = some en' := by simpa [bindTs, e] using hb
      simp [bindTs_len ts ds en1 en' hb]
end
end VL
namespace VL
open PySem PySem.Spec PyProof.Rows L2
section
variable {X : Cx} {W : WX} {tg e a b : Expr} {es : List Expr} {we wa wb : WE} {ws : WA} {x : Str} {p pos pos' tpos : Pos} {k : Nat} {st : Stmt} {rest : List Stmt} {t u : WS} {wt : WT}
def sNil : WS := fun D _ en c => D.nx en c
def sSeq (t u : WS) : WS := fun D X en c => t { D with nx := fun en' c' => u D X en' c' } X en c
theorem jss_nil : JSs X W [] sNil := PSs.of pss_nil fun D σ H ⟨G, en, c, D0, X0, s, er, q, x0, k⟩ => k.nx en c σ H G q Gr.refl s er
theorem jss_cons (h1 : JS X W st t) (h2 : JSs X W rest u) : JSs X W (st :: rest) (sSeq t u) := by
  refine PSs.of (pss_cons h1 h2) fun D σ H ⟨G, en, c, D0, X0, s, er, q, x0, k⟩ => ?_
  refine ⟨G, en, c, _, X0, s, er, q, x0, ⟨fun en' c' σ' H' G' q' g' s' e' => ?_, k.rt, k.bk, k.ct⟩⟩
  exact ⟨G', en', c', D0, X0, s', e', q', x0.more g', k.more g'⟩
theorem jss_one (h1 : JS X W st t) : JSs X W [st] t := pss_one h1
def sPass : WS := fun D _ en c => D.nx en c
def sBrk : WS := fun D _ en c => D.bk en c
def sCont : WS := fun D _ en c => D.ct en c
def sExpr (we : WE) : WS := fun D X en c => we en c (fun _ c' => D.nx en c') X
theorem js_expr (h : JE X W e we) (hs : swapsWith e none pos.line X.env = pure false := by rfl) : JS X W (.Expr e pos) (sExpr we) := by
  refine PS.of (ps_expr h hs) fun D σ H ⟨G, en, c, D0, X0, s, er, q, x0, k⟩ => ?_
  exact ⟨G, en, c, _, X0, s, er, q, x0, fun d c' v H' G' q' g' s' _ => k.nx en c' σ H' G' q' g' s' (er.mono g'.g)⟩
def sRet (we : WE) : WS := fun D X en c => we en c D.rt X
theorem js_ret (h : JE X W e we) : JS X W (.Return (some e) pos) (sRet we) := by
  refine PS.of (ps_ret h) fun D σ H ⟨G, en, c, D0, X0, s, er, q, x0, k⟩ => ?_
  exact ⟨G, en, c, _, X0, s, er, q, x0, k.rt⟩
def sRetN : WS := fun D _ _ c => D.rt .non c
def sIf (wt : WT) (t u : WS) : WS := fun D X en c => wt en c (fun b c' => if b = true then t D X en c' else u D X en c') X
theorem js_if {body orelse : List Stmt} (hc : JT X W e wt) (ha : JSs X W body t) (hb : JSs X W orelse u) : JS X W (.If e body orelse pos) (sIf wt t u) := by
  refine PS.of (ps_if hc ha hb) fun D σ H ⟨G, en, c, D0, X0, s, er, q, x0, k⟩ => ?_
  refine ⟨G, en, c, _, X0, s, er, q, x0, fun d c1 H1 G1 q1 g1 s1 => ?_⟩
  cases d with
  | true => exact iteT ⟨G1, en, c1, D0, X0, s1, er.mono g1.g, by simpa using q1, x0.more g1, k.more g1⟩
  | false => exact iteF ⟨G1, en, c1, D0, X0, s1, er.mono g1.g, by simpa using q1, x0.more g1, k.more g1⟩
/-- never reached -/
def sNever : WS := fun _ _ _ _ => False
theorem js_never : JS X W st sNever := PS.of ps_never fun D σ H ⟨G, en, c, D0, X0, s, er, q, x0, k⟩ => q
def sSet (i : Nat) (we : WE) : WS := fun D X en c => we en c (fun d c' => D.nx (en.set i (some d)) c') X
theorem js_set (i : Nat) {y : Str} {pos' : Pos} (hN : X.N.Nodup) (he : JE X W e we) (hi : X.N[i]? = some y := by rfl) (hx : Loc X.env.scope y := by first | exact Or.inl rfl | exact Or.inr rfl)
    (hs : swapsWith e (some (.Name y pos')) pos.line X.env = pure false := by rfl) (hf : X.fn y = true ∨ X.env.scope.names.lookup y = some .local := by first | exact .inl rfl | exact .inr rfl | assumption) :
    JS X W (.Assign [.Name y pos'] e pos) (sSet i we) := by
  refine PS.of (ps_set hN hi hx he hs hf) fun D σ H ⟨G, en, c, D0, X0, s, er, q, x0, k⟩ => ?_
  exact ⟨G, en, c, _, X0, s, er, q, x0, fun d c' v H' G' q' g' s' r' => k.nx _ c' _ H' G' q' g' s' ((er.mono g'.g).set r')⟩
/-- name op= value -/
def sAug (i : Nat) (o : Op2) (we : WE) : WS := fun D X en c => match en[i]? with
  | some (some x) => we en c (fun y c1 => o x y c1 (fun z c2 => D.nx (en.set i (some z)) c2)) X
  | _ => False
abbrev WG := D → En → Cs → (En → Cs → Prop) → XD → Prop
abbrev WGs := List D → En → Cs → (En → Cs → Prop) → XD → Prop
def rdG (K : PySem.W.Frag) (mg : Str → Option Value) (W : WX) (wg : WG) : TG := fun v σ H Q => ∃ G en c d Q0 X0, SR K G c H ∧ EnR K G en σ ∧ Rep K G d v ∧ wg d en c Q0 X0 ∧ XOk K mg W X0 G c H ∧ StK K G c H Q0 Q
def rdGs (K : PySem.W.Frag) (mg : Str → Option Value) (W : WX) (wg : WGs) : TGs := fun vs σ H Q => ∃ G en c ds Q0 X0, SR K G c H ∧ EnR K G en σ ∧ Reps K G ds vs ∧ wg ds en c Q0 X0 ∧ XOk K mg W X0 G c H ∧ StK K G c H Q0 Q
abbrev JG (X : Cx) (W : WX) (tg : Expr) (wg : WG) : Prop := PG X tg (rdG X.K X.mg W wg)
abbrev JGs (X : Cx) (W : WX) (tg : List Expr) (wg : WGs) : Prop := PGs X tg (rdGs X.K X.mg W wg)
theorem PGs.of {es : List Expr} {t t' : TGs} (h : PGs X es t) (k : ∀ v σ H Q, t' v σ H Q → t v σ H Q) : PGs X es t' := ⟨fun pins s σ H v u Q I r q => h.run pins s σ H v u Q I r (k v σ H Q q)⟩
def gNm (i : Nat) : WG := fun d en c Q _ => Q (en.set i (some d)) c
theorem jg_nm (i : Nat) {y : Str} (hN : X.N.Nodup) (hi : X.N[i]? = some y := by rfl) (hx : Loc X.env.scope y := by first | exact Or.inl rfl | exact Or.inr rfl) (hf : X.fn y = true ∨ X.env.scope.names.lookup y = some .local := by first | exact .inl rfl | exact .inr rfl | assumption) :
    JG X W (.Name y pos) (gNm i) := PG.of (pg_name hN hi hx hf) fun v σ H Q ⟨G, en, c, d, Q0, X0, s, er, r, q, x0, k⟩ => k _ c _ H G q Gr.refl s (er.set r)
def gNil' : WGs := fun ds en c Q _ => ds = [] ∧ Q en c
def gCons' (g : WG) (gs : WGs) : WGs := fun ds en c Q X => match ds with
  | d :: r => g d en c (fun en1 c1 => gs r en1 c1 Q X) X
  | [] => False
variable {g : WG} {gs : WGs}
theorem jgs_nil : JGs X W [] gNil' := PGs.of pgs_nil fun vs σ H Q ⟨G, en, c, ds, Q0, X0, s, er, r, q, x0, k⟩ => by
  obtain ⟨rfl, q⟩ := q
  cases r
  exact ⟨rfl, k _ c _ H G q Gr.refl s er⟩
theorem jgs_cons (h1 : JG X W e g) (h2 : JGs X W es gs) (hs : (assignEach (e :: es) X.env).map (·.2) = assign e X.env :: (assignEach es X.env).map (·.2) := by rfl) : JGs X W (e :: es) (gCons' g gs) := by
  refine PGs.of (pgs_cons h1 h2 hs) fun vs σ H Q ⟨G, en, c, ds, Q0, X0, s, er, r, q, x0, k⟩ => ?_
  cases ds with
  | nil => exact q.elim
  | cons d ds =>
    obtain ⟨v, us, rfl, r1, r2⟩ := r
    refine ⟨v, us, rfl, G, en, c, d, _, X0, s, er, r1, q, x0, fun en1 c1 σ1 H1 G1 q1 g1 s1 e1 => ?_⟩
    exact ⟨G1, en1, c1, ds, Q0, X0, s1, e1, Reps.mono g1.g _ _ r2, q1, x0.more g1, fun en' c' σ' H' G' z g' s' e' => k en' c' σ' H' G' z (g1.trans g') s' e'⟩
/-- a tuple of n things -/
def gTp (n : Nat) (gs : WGs) : WG := fun d en c Q X => match d with
  | .tup ds => ds.length = n ∧ gs ds en c Q X
  | .lst ds => ds.length = n ∧ gs ds en c Q X
  | _ => False
theorem jg_tp {k' n : Nat} (hc : X.calm = true) (h : JGs X W es gs) (hn : (assignEach es X.env).length = n := by rfl) (hst : (assignEach es X.env).findIdx? (·.1) = none := by rfl) : JG X W (.Tuple es k' pos) (gTp n gs) := by
  refine PG.of (pg_any hc h hn hst) fun v σ H Q ⟨G, en, c, d, Q0, X0, s, er, r, q, x0, k⟩ => ?_
  cases d <;> first
    | exact q.elim
    | skip
  · obtain ⟨a, vs, rfl, h1, h2⟩ := r
    exact .inl ⟨a, vs, rfl, s.sub.sqT h1.sq, by rw [← h2.length]; exact q.1, G, en, c, _, Q0, X0, s, er, h2, q.2, x0, k⟩
  · obtain ⟨a, vs, rfl, h1, h2⟩ := r
    exact .inr ⟨a, vs, rfl, SqL.of (s.sub _ _ h1), by rw [← h2.length]; exact q.1, G, en, c, _, Q0, X0, s, er, h2, q.2, x0, k⟩
/-- o[i] = d by data -/
def oSetIx : D → D → D → Cs → (Cs → Prop) → Prop := fun o i d c Q => match i with
  | .int i => ∃ p l j, liveOf c o = some (p, l) ∧ ixN l.length i = some j ∧ Q (cup c p (.lst (l.set j d)))
  | _ => False
def gSb (wo wi : WE) : WG := fun d en c Q X => wo en c (fun o c1 => wi en c1 (fun i c2 => oSetIx o i d c2 (fun c3 => Q en c3)) X) X
theorem setIx_ok {G : Hp} {c : Cs} {H : Hp} {o i d : D} {vo vi vd : V} {Q : Cs → Prop} {R : Hp → Prop} (s : SR X.K G c H) (ro : Rep X.K G o vo) (ri : Rep X.K G i vi) (rd : Rep X.K G d vd) (q : oSetIx o i d c Q)
    (k : ∀ c' H', Q c' → Gr G c H G c' H' → SR X.K G c' H' → R H') : rSetL vo vi vd H R := by
  unfold oSetIx at q
  split at q
  · obtain ⟨p, l, j, e, hj, q⟩ := q
    obtain ⟨rfl, h1, h2, ws, h3, h4⟩ := live_at s ro e
    refine ⟨p, ws, _, j, rfl, ri, h3, by rw [← h4.length]; exact hj, ?_⟩
    obtain ⟨s2, g2⟩ := s.write (o := HO.lst (ws.set j vd)) (y := .lst (l.set j d)) h1 h2 ⟨h2, _, upd_same, Reps.set rd j h4⟩
    exact k _ _ q g2 s2
  · exact q.elim
theorem jg_sb (ho : JE X W a wa) (hi : JE X W b wb) (ha : ∀ v, assign (.Subscript a b pos) X.env v = (do
      let ov ← holding [v] (eval a X.env)
      let iv ← holding [v, ov] (eval b X.env)
      standAt pos
      holding [v, ov, iv] (setItem ov iv v)
      release [v, ov, iv] []) := by intro _; rfl) : JG X W (.Subscript a b pos) (gSb wa wb) := by
  refine PG.of (pg_sub ho hi set_list ha) fun v σ H Q ⟨G, en, c, d, Q0, X0, s, er, r, q, x0, k⟩ => ?_
  refine ⟨G, en, c, _, X0, s, er, q, x0, fun d1 c1 v1 H1 G1 q1 g1 s1 r1 => ?_⟩
  refine ⟨G1, en, c1, _, X0, s1, er.mono g1.g, q1, x0.more g1, fun d2 c2 v2 H2 G2 q2 g2 s2 r2 => ?_⟩
  refine setIx_ok s2 (Rep.mono g2.g _ _ r1) r2 (Rep.mono (g1.trans g2).g _ _ r) q2 fun c' H' z g' s' => ?_
  exact k en c' σ H' G2 z ((g1.trans g2).trans g') s' (er.mono ((g1.trans g2).trans g').g)
def sAsg (we : WE) (g : WG) : WS := fun D X en c => we en c (fun d c1 => g d en c1 (fun en' c' => D.nx en' c') X) X
theorem js_asg (he : JE X W e we) (hg : JG X W tg g) (hs : swapsWithSole [tg] e pos.line X.env = pure false := by rfl) (hw : swappedStores [tg] e X.env = pure none := by rfl)
    (h1 : (assignEach [tg] X.env).map (·.2) = [assign tg X.env] := by rfl) : JS X W (.Assign [tg] e pos) (sAsg we g) := by
  refine PS.of (ps_asg he hg hs hw h1) fun D σ H ⟨G, en, c, D0, X0, s, er, q, x0, k⟩ => ?_
  refine ⟨G, en, c, _, X0, s, er, q, x0, fun d c1 v H1 G1 q1 g1 s1 r1 => ?_⟩
  exact ⟨G1, en, c1, d, _, X0, s1, er.mono g1.g, r1, q1, x0.more g1, fun en' c' σ' H' G' z g' s' e' => k.nx en' c' σ' H' G' z (g1.trans g') s' e'⟩
/-- a, b = x, y of plain names: stored without a tuple -/
def sPar (i j : Nat) (ws : WA) : WS := fun D X en c => ws en c (fun ds c' => match ds with
  | [d, d'] => D.nx ((en.set i (some d)).set j (some d')) c'
  | _ => False) X
theorem js_par (i j : Nat) {y z : Str} {px py pt : Pos} {kt k2 : Nat} {pt2 : Pos} (hc : X.calm = true) (hN : X.N.Nodup) (ha : JA X W [a, b] ws) (hij : i ≠ j := by decide) (hi : X.N[i]? = some y := by rfl) (hj : X.N[j]? = some z := by rfl)
    (hx : X.env.scope.names.lookup y = some .local := by rfl) (hy : X.env.scope.names.lookup z = some .local := by rfl)
    (hw : swappedStores [.Tuple [.Name y px, .Name z py] kt pt] (.Tuple [a, b] k2 pt2) X.env = pure (some [y, z]) := by rfl)
    (hs : swapsWithSole [.Tuple [.Name y px, .Name z py] kt pt] (.Tuple [a, b] k2 pt2) pos.line X.env = pure false := by rfl) :
    JS X W (.Assign [.Tuple [.Name y px, .Name z py] kt pt] (.Tuple [a, b] k2 pt2) pos) (sPar i j ws) := by
  refine PS.of (ps_par hc hN hi hj hij hx hy ha hw hs) fun D σ H ⟨G, en, c, D0, X0, s, er, q, x0, k⟩ => ?_
  refine ⟨G, en, c, _, X0, s, er, q, x0, fun ds c1 vs H1 G1 q1 g1 s1 r1 => ?_⟩
  split at q1
  · obtain ⟨v, u, rfl, r1, r2⟩ := Reps.two' r1
    exact ⟨v, u, rfl, k.nx _ c1 _ H1 G1 q1 g1 s1 (((er.mono g1.g).set r1).set r2)⟩
  · exact q1.elim
/-- the rest of the items -/
def loopW (chk : Cs → Prop) (t : Tg) (wb : WS) (D0 : EndD) (X : XD) : List D → En → Cs → Prop
  | [], en, c => chk c ∧ D0.nx en c
  | d :: r, en, c => chk c ∧ match bindT t d en with
    | some en' => wb { D0 with nx := loopW chk t wb D0 X r, ct := loopW chk t wb D0 X r, bk := D0.nx } X en' c
    | none => False
def sFor (wi : WI) (t : Tg) (wb : WS) : WS := fun D X en c => wi en c (fun ds chk c1 => loopW chk t wb D X ds en c1) X
abbrev JTg (X : Cx) (tg : Expr) (t : Tg) : Prop := PG X tg (gTg X.K t)
theorem jt_nm (i : Nat) {y : Str} (hN : X.N.Nodup) (hi : X.N[i]? = some y := by rfl) (hx : Loc X.env.scope y := by first | exact Or.inl rfl | exact Or.inr rfl) (hf : X.fn y = true ∨ X.env.scope.names.lookup y = some .local := by first | exact .inl rfl | exact .inr rfl | assumption) :
    JTg X (.Name y pos) (.nm i) := pg_name hN hi hx hf
abbrev JTgs (X : Cx) (es : List Expr) (ts : List Tg) : Prop := PGs X es (gTgs X.K ts)
theorem jtgs_nil : JTgs X [] [] := pgs_nil
theorem jtgs_cons {tt : Tg} {ts : List Tg} (h1 : JTg X e tt) (h2 : JTgs X es ts) (hs : (assignEach (e :: es) X.env).map (·.2) = assign e X.env :: (assignEach es X.env).map (·.2) := by rfl) : JTgs X (e :: es) (tt :: ts) := pgs_cons h1 h2 hs
theorem jt_tp {k' : Nat} {ts : List Tg} (hc : X.calm = true) (h : JTgs X es ts) (hn : (assignEach es X.env).length = ts.length := by rfl) (hst : (assignEach es X.env).findIdx? (·.1) = none := by rfl) : JTg X (.Tuple es k' pos) (.tup ts) := pg_any hc h hn hst
theorem js_for {body : List Stmt} {wi : WI} {tt : Tg} {wb : WS} (hp : PassesOwn (model X.prog X.w) X.A X.env X.xe) (hc : X.calm = true) (hi : JI X W tg e wi) (hg : JTg X tg tt) (hb : JSs X W body wb)
    (hs : ∀ x, foldedSetIterable e X.env x = pure x := by intro _; rfl) : JS X W (.For tg e body [] pos) (sFor wi tt wb) := by
  refine PS.of (ps_for hp hc hi hg hb hs) fun D σ H ⟨G, en, c, D0, X0, s, er, q, x0, k⟩ => ?_
  refine ⟨G, en, c, _, X0, s, er, q, x0, fun ds chk c1 J H1 G1 q1 g1 s1 sv => ?_⟩
  refine ⟨fun i m σ H => ∃ G en c, Gr G1 c1 H1 G c H ∧ SR X.K G c H ∧ EnR X.K G en σ ∧ i ≤ ds.length ∧ m = ds.length - i ∧ loopW chk tt wb D0 X0 (ds.drop i) en c, ⟨ds.length, G1, en, c1, Gr.refl, s1, er.mono g1.g, Nat.zero_le _, rfl, q1⟩, ?_⟩
  rintro i m σ2 H2 ⟨G2, en2, c2, g2, s2, er2, hi2, rfl, lw⟩
  by_cases hlt : i < ds.length
  · rw [List.drop_eq_getElem_cons hlt] at lw
    obtain ⟨hck, lw⟩ := lw
    have hd : ds[i]? = some ds[i] := List.getElem?_eq_getElem hlt
    obtain ⟨hgo, hy⟩ := (sv i G2 c2 H2 g2.g s2 hck).1 _ hd
    split at lw
    · rename_i en3 hb3
      refine .inr ⟨hgo, fun σ' H' => ∃ G en c, Gr G1 c1 H1 G c H' ∧ SR X.K G c H' ∧ EnR X.K G en σ' ∧ loopW chk tt wb D0 X0 (ds.drop (i + 1)) en c, ?_, ?_⟩
      · rintro σ' H' ⟨G, en, c, h1, h2, h3, h4⟩
        exact ⟨ds.length - (i + 1), by omega, G, en, c, h1, h2, h3, hlt, rfl, h4⟩
      · intro x H' y
        obtain ⟨G3, s3, g3, r3⟩ := hy x H' y
        refine gTg_ok (vs := slotsT tt) s3.sub tt _ x en2 en3 σ2 _ (fun _ h => h) (er2.mono g3.g) r3 hb3 fun σ3 er3 _ => ?_
        have gg := (g1.trans g2).trans g3
        refine ⟨G3, en3, c2, _, X0, s3, er3, lw, x0.more gg, ⟨?_, k.rt.more gg, ?_, ?_⟩⟩
        · exact fun en' c' σ' H' G' z g' s' e' => ⟨G', en', c', (g2.trans g3).trans g', s', e', z⟩
        · exact fun en' c' σ' H' G' z g' s' e' => k.nx en' c' σ' H' G' z (gg.trans g') s' e'
        · exact fun en' c' σ' H' G' z g' s' e' => ⟨G', en', c', (g2.trans g3).trans g', s', e', z⟩
    · exact lw.elim
  · have hi3 : i = ds.length := by omega
    subst hi3
    rw [List.drop_length] at lw
    obtain ⟨hck, lw⟩ := lw
    exact .inl ⟨(sv _ G2 c2 H2 g2.g s2 hck).2 (Nat.le_refl _), k.nx en2 c2 σ2 H2 G2 lw (g1.trans g2) s2 er2⟩
end
end VL
namespace VL
open PySem PySem.Spec PyProof.Rows L2
theorem Gr.beside {G1 c1 H1 G c H} {p : Addr} {o : HO} (h : H1 p = none) (g : Gr G1 c1 H1 G c H) : Gr G1 c1 H1 G c (upd H p o) :=
  ⟨g.g, fun a u e n => by rw [upd_ne (ne_of_none e h)]; exact g.keep a u e n, g.nc, g.ng⟩
theorem Gr.at_ {G c H G' c' H'} {p : Addr} {o : HO} (g : Gr G c H G' c' H') (h : H p = some o) (hc : c p = none) (hg : G p = none) : H' p = some o ∧ c' p = none ∧ G' p = none := by
  refine ⟨g.keep p o h hc, ?_, ?_⟩
  · cases e : c' p with
    | none => rfl
    | some x =>
      rcases g.nc p (by rw [e]; simp) with z | z
      · exact absurd hc z
      · rw [h] at z; cases z
  · cases e : G' p with
    | none => rfl
    | some x =>
      rcases g.ng p x e with z | z | z
      · rw [hg] at z; cases z
      · exact absurd hc z
      · rw [h] at z; cases z
theorem adoptG {K : PySem.W.Frag} {G1 c1 H1 G c H} {p : Addr} {vs : List V} (s : SR K G c H) (g : Gr G1 c1 H1 G c H) (h1 : H1 p = none) (h : H p = some (.lst vs)) (hc : c p = none) (hg : G p = none) :
    SR K (upd G p (.lst vs)) c H ∧ Gr G1 c1 H1 (upd G p (.lst vs)) c H := by
  refine ⟨⟨fun a u e => ?_, fun a z e => ?_⟩, ⟨g.g.trans (le_upd hg), g.keep, g.nc, fun a u e => ?_⟩⟩
  · by_cases q : a = p
    · subst q; rw [upd_same] at e; cases e; exact h
    · rw [upd_ne q] at e; exact s.sub _ _ e
  · have q : a ≠ p := fun z => by rw [z, hc] at e; cases e
    exact (s.at_ a z e).to (le_upd hg) (fun n => by rw [upd_ne q]; exact n) (fun _ => rfl)
  · by_cases q : a = p
    · subst q; exact .inr (.inr h1)
    · rw [upd_ne q] at e; exact g.ng _ _ e
theorem wipe_wipe (σ : L2.St) : ∀ vs : List Nat, wipe (wipe σ vs) vs = wipe σ vs := by
  have gen : ∀ (ws vs : List Nat), (∀ i ∈ ws, i ∈ vs) → wipe (wipe σ ws) vs = wipe σ vs := by
    intro ws
    induction ws with
    | nil => intro vs _; rfl
    | cons w ws ih =>
      intro vs h
      rw [wipe, wipe_set (h w List.mem_cons_self)]
      exact ih vs fun i hi => h i (List.mem_cons_of_mem _ hi)
  exact fun vs => gen vs vs fun _ h => h
/-- a comprehension's turns: what is left, what stands in the new list -/
def lcW (chk : Cs → Prop) (t : Tg) (wt : WT) (we : WE) (vs : List Nat) (en : En) (fin : List D → Cs → Prop) : List D → List D → Cs → Prop
  | [], acc, c => chk c ∧ fin acc c
  | d :: r, acc, c => chk c ∧ match bindT t d (ewipe en vs) with
    | some en' => wt en' c (fun b c1 => if b = true then we en' c1 (fun y c2 => lcW chk t wt we vs en fin r (acc ++ [y]) c2) noX else lcW chk t wt we vs en fin r acc c1) noX
    | none => False
def wLc (wi : WI) (t : Tg) (wt : WT) (we : WE) (vs : List Nat) : WE := fun en c Q X => wi en c (fun ds chk c1 => ds.length ≤ sizeLine ∧ lcW chk t wt we vs en (fun acc c' => Q (.lst acc) c') ds [] c1) X
def wLcL (wi : WI) (t : Tg) (wt : WT) (we : WE) (vs : List Nat) : WE := fun en c Q X => wi en c (fun ds chk c1 => ds.length ≤ sizeLine ∧ lcW chk t wt we vs en (fun acc c' => ∀ p, c' p = none → Q (.ptr p) (cup c' p (.lst acc))) ds [] c1) X
def wYes : WT := fun _ c Q _ => Q true c
abbrev W0 : WX := fun _ _ _ _ => False
abbrev JTs (X : Cx) (W : WX) (ifs : List Expr) (wt : WT) : Prop := PTs X ifs (rdT X.K X.mg W wt)
section
variable {X : Cx} {W : WX} {tg e a b elt iter : Expr} {es ifs : List Expr} {we wa wb : WE} {ws : WA} {x : Str} {p pos pos' tpos : Pos} {k : Nat} {wt : WT} {wi : WI} {t : Tg}
theorem PTs.of {es : List Expr} {t t' : TT} (h : PTs X es t) (k : ∀ σ H Q, t' σ H Q → t σ H Q) : PTs X es t' := ⟨fun pins s σ H Q I q => h.run pins s σ H Q I (k σ H Q q)⟩
theorem jts_nil : JTs X W [] wYes := PTs.of pts_nil fun σ H Q ⟨G, en, c, Q0, X0, s, er, q, x0, kk⟩ => kk true c H G q Gr.refl s
theorem jts_one (h : JT X W a wt) : JTs X W [a] wt := pts_one h
theorem XOk.none0 {K mg G c H} : XOk K mg W0 noX G c H := fun _ _ _ _ _ _ _ _ _ z => z.elim
theorem lc_ok {vs : List Nat} (hv : ∀ i ∈ slotsT t, i ∈ vs) {σ : L2.St} {H1 : Hp} {G1 : Hp} {c1 : Cs} {en : En} {ds : List D} {chk : Cs → Prop} {J : It} {fin : List D → Cs → Prop} {Q : VK} (s1 : SR X.K G1 c1 H1) (er : EnR X.K G1 en σ) (sv : Srv X.K G1 J ds chk)
    (hz : ds.length ≤ sizeLine) (q : lcW chk t wt we vs en fin ds [] c1) {D0 : Addr} (hD : H1 D0 = none)
    (hf : ∀ G c acc vacc H, Gr G1 c1 H1 G c H → SR X.K G c H → H D0 = some (.lst vacc) → c D0 = none → G D0 = none → Reps X.K G acc vacc → fin acc c → Q (.ref D0) H) :
    ∃ Wv : Nat → Nat → Hp → Prop, (∃ m, Wv 0 m (upd H1 D0 (.lst []))) ∧ ∀ i m H, Wv i m H → (J.stop i H ∧ Q (.ref D0) H) ∨ (J.go i H ∧ ∃ Nx : Hp → Prop, (∀ H', Nx H' → ∃ m', m' < m ∧ Wv (i + 1) m' H') ∧
      ∀ x H', J.yld i H x H' → gTg X.K t x (wipe σ vs) H' fun σ2 H2 => wipe σ2 vs = wipe σ vs ∧ rdT X.K X.mg W0 wt σ2 H2 fun b H3 =>
        if b = true then rdE X.K X.mg W0 we σ2 H3 fun y H4 => ∃ acc, H4 D0 = some (.lst acc) ∧ acc.length < sizeLine ∧ Nx (upd H4 D0 (.lst (acc ++ [y]))) else Nx H3) := by
  obtain ⟨hc0, hg0⟩ := s1.free hD
  refine ⟨fun i m H => ∃ G c acc vacc, Gr G1 c1 H1 G c H ∧ SR X.K G c H ∧ H D0 = some (.lst vacc) ∧ c D0 = none ∧ G D0 = none ∧ Reps X.K G acc vacc ∧ acc.length ≤ i ∧ i ≤ ds.length ∧ m = ds.length - i ∧ lcW chk t wt we vs en fin (ds.drop i) acc c,
    ⟨ds.length, G1, c1, [], [], Gr.refl.beside hD, s1.other hc0 hg0, upd_same, hc0, hg0, rfl, Nat.le_refl _, Nat.zero_le _, rfl, q⟩, ?_⟩
  rintro i m H ⟨G, c, acc, vacc, g, s, h1, h2, h3, h4, h5, h6, rfl, lw⟩
  by_cases hlt : i < ds.length
  · rw [List.drop_eq_getElem_cons hlt] at lw
    obtain ⟨hck, lw⟩ := lw
    have hd : ds[i]? = some ds[i] := List.getElem?_eq_getElem hlt
    obtain ⟨hgo, hy⟩ := (sv i G c H g.g s hck).1 _ hd
    split at lw
    · rename_i en3 hb3
      refine .inr ⟨hgo, fun H' => ∃ G c acc vacc, Gr G1 c1 H1 G c H' ∧ SR X.K G c H' ∧ H' D0 = some (.lst vacc) ∧ c D0 = none ∧ G D0 = none ∧ Reps X.K G acc vacc ∧ acc.length ≤ i + 1 ∧ lcW chk t wt we vs en fin (ds.drop (i + 1)) acc c, ?_, ?_⟩
      · rintro H' ⟨G, c, acc, vacc, z1, z2, z3, z4, z5, z6, z7, z8⟩
        exact ⟨ds.length - (i + 1), by omega, G, c, acc, vacc, z1, z2, z3, z4, z5, z6, z7, hlt, rfl, z8⟩
      · intro x H' y
        obtain ⟨G3, s3, g3, r3⟩ := hy x H' y
        have er3 := (er.mono (g.g.trans g3.g)).wipe vs
        refine gTg_ok (vs := vs) s3.sub t _ x _ en3 (wipe σ vs) _ hv er3 r3 hb3 fun σ3 er4 hw => ⟨?_, ?_⟩
        · rw [hw]
          exact wipe_wipe σ vs
        · refine ⟨G3, en3, c, _, noX, s3, er4, lw, XOk.none0, fun bb c4 H4 G4 q4 g4 s4 => ?_⟩
          have ga := g3.trans g4
          obtain ⟨k1, k2, k3⟩ := ga.at_ h1 h2 h3
          cases bb with
          | false =>
            refine iteF ⟨G4, c4, acc, vacc, g.trans ga, s4, k1, k2, k3, Reps.mono ga.g _ _ h4, by omega, by simpa using q4⟩
          | true =>
            refine iteT ⟨G4, en3, c4, _, noX, s4, er4.mono g4.g, by simpa using q4, XOk.none0, fun d c5 v H5 G5 q5 g5 s5 r5 => ?_⟩
            obtain ⟨k4, k5, k6⟩ := g5.at_ k1 k2 k3
            have gb := ga.trans g5
            refine ⟨vacc, k4, by rw [← h4.length]; omega, G5, c5, acc ++ [d], vacc ++ [v], ((g.trans gb).beside hD), s5.other k5 k6, upd_same, k5, k6, Reps.app (Reps.mono gb.g _ _ h4) (Reps.one r5), by simp; omega, q5⟩
    · exact lw.elim
  · have hi3 : i = ds.length := by omega
    subst hi3
    rw [List.drop_length] at lw
    obtain ⟨hck, lw⟩ := lw
    exact .inl ⟨(sv _ G c H g.g s hck).2 (Nat.le_refl _), hf G c acc vacc H g s h1 h2 h3 h4 lw⟩
end
end VL
namespace VL
open PySem PySem.Spec PyProof.Rows L2
section
variable {X : Cx} {W : WX} {tg e a b elt iter : Expr} {es ifs : List Expr} {we wa wb : WE} {ws : WA} {x : Str} {p pos pos' tpos : Pos} {k : Nat} {wt : WT} {wi : WI} {t : Tg}
theorem tLc_of {vs : List Nat} (hv : ∀ i ∈ slotsT t, i ∈ vs) {σ : L2.St} {H : Hp} {Q : VK} (h : rdE X.K X.mg W (wLc wi t wt we vs) σ H Q) :
    tLc (rdI X.K X.mg W wi) (gTg X.K t) (rdT X.K X.mg W0 wt) (rdE X.K X.mg W0 we) vs σ H Q := by
  obtain ⟨G, en, c, Q0, X0, s, er, q, x0, kk⟩ := h
  refine ⟨G, en, c, _, X0, s, er, q, x0, fun ds chk c1 J H1 G1 ⟨hz, q1⟩ g1 s1 sv D0 hD => ?_⟩
  refine lc_ok hv s1 (er.mono g1.g) sv hz q1 hD fun G2 c2 acc vacc H2 g2 s2 h1 h2 h3 h4 q2 => ?_
  obtain ⟨s3, g3⟩ := adoptG s2 g2 hD h1 h2 h3
  exact kk _ c2 _ H2 _ q2 (g1.trans g3) s3 ⟨D0, vacc, rfl, upd_same, Reps.mono (le_upd h3) _ _ h4⟩
variable {scope : Scope} {own : List (Str × Nat)}
theorem je_lc (hc : X.calm = true) (hN : X.N.Nodup) (hi : JI X W tg iter wi) (ok : BlkOk X.N X.env.scope scope own)
    (hg : ∀ (s : Shared) (H : Hp) (C : Addr) (cl : List (Str × Addr)) (fp : List Addr), JTg (X.blk s H scope (compEnvC scope cl C X.env) fp) tg t) (ht : ∀ (s : Shared) (H : Hp) (C : Addr) (cl : List (Str × Addr)) (fp : List Addr), JTs (X.blk s H scope (compEnvC scope cl C X.env) fp) W0 ifs wt)
    (he : ∀ (s : Shared) (H : Hp) (C : Addr) (cl : List (Str × Addr)) (fp : List Addr), JE (X.blk s H scope (compEnvC scope cl C X.env) fp) W0 elt we) (hv : ∀ i ∈ slotsT t, i ∈ own.map (·.2) := by decide) (hs : ∀ x, foldedSetIterable iter X.env x = pure x := by intro _; rfl) :
    JE X W (.ListComp elt [⟨tg, iter, ifs, 0⟩] scope pos) (wLc wi t wt we (own.map (·.2))) := PE.of (pe_lc hc hN hi ok hg ht he hs) fun σ H Q h => tLc_of hv h
theorem set_rd {i : Nat} {w : WE} {te : TE} (h : ∀ σ H Q, rdE X.K X.mg W w σ H Q → te σ H Q) {D : Ends} {σ : L2.St} {H : Hp} (q : rdS X.K X.mg W (sSet i w) D σ H) : tAsg te (gName i) D σ H := by
  obtain ⟨G, en, c, D0, X0, s, er, q, x0, k⟩ := q
  exact h _ _ _ ⟨G, en, c, _, X0, s, er, q, x0, fun d c' v H' G' q' g' s' r' => k.nx _ c' _ H' G' q' g' s' ((er.mono g'.g).set r')⟩
theorem js_setLc (i : Nat) {y : Str} {py spos : Pos} (hc : X.calm = true) (hN : X.N.Nodup) (hsw : swapsWith (.ListComp elt [⟨tg, iter, ifs, 0⟩] scope pos) (some (.Name y py)) spos.line X.env = pure true) (hi : JI X W tg iter wi) (ok : BlkOk X.N X.env.scope scope own)
    (hg : ∀ (s : Shared) (H : Hp) (C : Addr) (cl : List (Str × Addr)) (fp : List Addr), JTg (X.blk s H scope (compEnvC scope cl C X.env) fp) tg t) (ht : ∀ (s : Shared) (H : Hp) (C : Addr) (cl : List (Str × Addr)) (fp : List Addr), JTs (X.blk s H scope (compEnvC scope cl C X.env) fp) W0 ifs wt)
    (he : ∀ (s : Shared) (H : Hp) (C : Addr) (cl : List (Str × Addr)) (fp : List Addr), JE (X.blk s H scope (compEnvC scope cl C X.env) fp) W0 elt we) (hv : ∀ i ∈ slotsT t, i ∈ own.map (·.2) := by decide) (hy : X.N[i]? = some y := by rfl) (hyl : X.env.scope.names.lookup y = some .local := by rfl)
    (hs : ∀ x, foldedSetIterable iter X.env x = pure x := by intro _; rfl) : JS X W (.Assign [.Name y py] (.ListComp elt [⟨tg, iter, ifs, 0⟩] scope pos) spos) (sSet i (wLc wi t wt we (own.map (·.2)))) :=
  PS.of (ps_setLc hc hN hy hyl hsw hi ok hg ht he hs) fun D σ H h => set_rd (fun σ H Q h => tLc_of hv h) h
/-- the inner clause's turns -/
def lcI (chk : Cs → Prop) (t : Tg) (wt : WT) (we : WE) (vs : List Nat) (en : En) (fin : List D → Cs → Prop) : List D → List D → Cs → Prop
  | [], acc, c => chk c ∧ fin acc c
  | d :: r, acc, c => chk c ∧ match bindT t d (ewipe en vs) with
    | some en' => wt en' c (fun b c1 => if b = true then we en' c1 (fun y c2 => acc.length < sizeLine ∧ lcI chk t wt we vs en fin r (acc ++ [y]) c2) noX else lcI chk t wt we vs en fin r acc c1) noX
    | none => False
/-- the outer clause's -/
def lcO (chk : Cs → Prop) (t : Tg) (wt : WT) (wi1 : WI) (t1 : Tg) (wt1 : WT) (we : WE) (vs vs1 : List Nat) (en : En) (fin : List D → Cs → Prop) : List D → List D → Cs → Prop
  | [], acc, c => chk c ∧ fin acc c
  | d :: r, acc, c => chk c ∧ match bindT t d (ewipe en vs) with
    | some en' => wt en' c (fun b c1 => if b = true then wi1 en' c1 (fun ds1 chk1 c2 => lcI chk1 t1 wt1 we vs1 en' (fun acc' c3 => lcO chk t wt wi1 t1 wt1 we vs vs1 en fin r acc' c3) ds1 acc c2) noX else lcO chk t wt wi1 t1 wt1 we vs vs1 en fin r acc c1) noX
    | none => False
def wLc2 (wi : WI) (t : Tg) (wt : WT) (wi1 : WI) (t1 : Tg) (wt1 : WT) (we : WE) (vs vs1 : List Nat) : WE := fun en c Q X => wi en c (fun ds chk c1 => lcO chk t wt wi1 t1 wt1 we vs vs1 en (fun acc c' => Q (.lst acc) c') ds [] c1) X
/-- the state while the new list at D0 grows -/
def InD (K : PySem.W.Frag) (G1 : Hp) (c1 : Cs) (H1 : Hp) (D0 : Addr) (acc : List D) (c : Cs) (G : Hp) (H : Hp) : Prop :=
  Gr G1 c1 H1 G c H ∧ SR K G c H ∧ c D0 = none ∧ G D0 = none ∧ ∃ vacc, H D0 = some (.lst vacc) ∧ Reps K G acc vacc
theorem InD.step {K G1 c1 H1 D0 acc c G H G' c' H'} (h : InD K G1 c1 H1 D0 acc c G H) (g : Gr G c H G' c' H') (s : SR K G' c' H') : InD K G1 c1 H1 D0 acc c' G' H' := by
  obtain ⟨a, b, h2, h3, vacc, h1, h4⟩ := h
  obtain ⟨k1, k2, k3⟩ := g.at_ h1 h2 h3
  exact ⟨a.trans g, s, k2, k3, vacc, k1, Reps.mono g.g _ _ h4⟩
theorem li_ok {vs : List Nat} (hv : ∀ i ∈ slotsT t, i ∈ vs) {σ : L2.St} {H1 G1 : Hp} {c1 : Cs} {H4 G4 : Hp} {c4 : Cs} {en : En} {acc0 ds : List D} {chk : Cs → Prop} {J : It} {fin : List D → Cs → Prop} {Nx : Hp → Prop} {D0 : Addr} (hD : H1 D0 = none)
    (st : InD X.K G1 c1 H1 D0 acc0 c4 G4 H4) (er : EnR X.K G4 en σ) (sv : Srv X.K G4 J ds chk) (q : lcI chk t wt we vs en fin ds acc0 c4)
    (hf : ∀ G c acc H, InD X.K G1 c1 H1 D0 acc c G H → fin acc c → Nx H) :
    ∃ Wv : Nat → Nat → Hp → Prop, (∃ m, Wv 0 m H4) ∧ ∀ i m H, Wv i m H → (J.stop i H ∧ Nx H) ∨ (J.go i H ∧ ∃ Nx1 : Hp → Prop, (∀ H', Nx1 H' → ∃ m', m' < m ∧ Wv (i + 1) m' H') ∧
      ∀ x H', J.yld i H x H' → gTg X.K t x (wipe σ vs) H' fun σ2 H2 => wipe σ2 vs = wipe σ vs ∧ rdT X.K X.mg W0 wt σ2 H2 fun b H3 =>
        if b = true then rdE X.K X.mg W0 we σ2 H3 fun y H4 => ∃ acc, H4 D0 = some (.lst acc) ∧ acc.length < sizeLine ∧ Nx1 (upd H4 D0 (.lst (acc ++ [y]))) else Nx1 H3) := by
  refine ⟨fun i m H => ∃ G c acc, InD X.K G1 c1 H1 D0 acc c G H ∧ Le G4 G ∧ i ≤ ds.length ∧ m = ds.length - i ∧ lcI chk t wt we vs en fin (ds.drop i) acc c,
    ⟨ds.length, G4, c4, acc0, st, Le.refl _, Nat.zero_le _, rfl, q⟩, ?_⟩
  rintro i m H ⟨G, c, acc, st2, le, h6, rfl, lw⟩
  have s := st2.2.1
  by_cases hlt : i < ds.length
  · rw [List.drop_eq_getElem_cons hlt] at lw
    obtain ⟨hck, lw⟩ := lw
    have hd : ds[i]? = some ds[i] := List.getElem?_eq_getElem hlt
    obtain ⟨hgo, hy⟩ := (sv i G c H le s hck).1 _ hd
    split at lw
    · rename_i en3 hb3
      refine .inr ⟨hgo, fun H' => ∃ G c acc, InD X.K G1 c1 H1 D0 acc c G H' ∧ Le G4 G ∧ lcI chk t wt we vs en fin (ds.drop (i + 1)) acc c, ?_, ?_⟩
      · rintro H' ⟨G, c, acc, z1, z2, z8⟩
        exact ⟨ds.length - (i + 1), by omega, G, c, acc, z1, z2, hlt, rfl, z8⟩
      · intro x H' y
        obtain ⟨G3, s3, g3, r3⟩ := hy x H' y
        have er3 := (er.mono (le.trans g3.g)).wipe vs
        refine gTg_ok (vs := vs) s3.sub t _ x _ en3 (wipe σ vs) _ hv er3 r3 hb3 fun σ3 er4 hw => ⟨by rw [hw]; exact wipe_wipe σ vs, ?_⟩
        refine ⟨G3, en3, c, _, noX, s3, er4, lw, XOk.none0, fun bb c5 H5 G5 q5 g5 s5 => ?_⟩
        have st5 := st2.step (g3.trans g5) s5
        cases bb with
        | false => exact iteF ⟨G5, c5, acc, st5, le.trans (g3.trans g5).g, by simpa using q5⟩
        | true =>
          refine iteT ⟨G5, en3, c5, (fun y c2 => acc.length < sizeLine ∧ lcI chk t wt we vs en fin (ds.drop (i + 1)) (acc ++ [y]) c2), noX, s5, er4.mono g5.g, by simpa using q5, XOk.none0, fun d c6 v H6 G6 ⟨hz, q6⟩ g6 s6 r6 => ?_⟩
          obtain ⟨gg, _, k2, k3, vacc, k1, k4⟩ := st5.step g6 s6
          have nst : InD X.K G1 c1 H1 D0 (acc ++ [d]) c6 G6 (upd H6 D0 (.lst (vacc ++ [v]))) := ⟨gg.beside hD, s6.other k2 k3, k2, k3, vacc ++ [v], upd_same, Reps.app k4 (Reps.one r6)⟩
          exact ⟨vacc, k1, by rw [← k4.length]; exact hz, G6, c6, acc ++ [d], nst, le.trans ((g3.trans g5).trans g6).g, q6⟩
    · exact lw.elim
  · have hi3 : i = ds.length := by omega
    subst hi3
    rw [List.drop_length] at lw
    obtain ⟨hck, lw⟩ := lw
    exact .inl ⟨(sv _ G c H le s hck).2 (Nat.le_refl _), hf G c acc H st2 lw⟩
theorem tLc2_of {wi1 : WI} {t1 : Tg} {wt1 : WT} {vs vs1 : List Nat} (hv : ∀ i ∈ slotsT t, i ∈ vs) (hv1 : ∀ i ∈ slotsT t1, i ∈ vs1) {σ : L2.St} {H : Hp} {Q : VK} (h : rdE X.K X.mg W (wLc2 wi t wt wi1 t1 wt1 we vs vs1) σ H Q) :
    tLc2 (rdI X.K X.mg W wi) (gTg X.K t) (rdT X.K X.mg W0 wt) (rdI X.K X.mg W0 wi1) (gTg X.K t1) (rdT X.K X.mg W0 wt1) (rdE X.K X.mg W0 we) vs vs1 σ H Q := by
  obtain ⟨G, en, c, Q0, X0, s, er, q, x0, kk⟩ := h
  refine ⟨G, en, c, _, X0, s, er, q, x0, fun ds chk c1 J H1 G1 q1 g1 s1 sv D0 hD => ?_⟩
  obtain ⟨hc0, hg0⟩ := s1.free hD
  have er1 := er.mono g1.g
  refine ⟨fun i m H => ∃ G c acc, InD X.K G1 c1 H1 D0 acc c G H ∧ i ≤ ds.length ∧ m = ds.length - i ∧ lcO chk t wt wi1 t1 wt1 we vs vs1 en (fun acc c' => Q0 (.lst acc) c') (ds.drop i) acc c,
    ⟨ds.length, G1, c1, [], ⟨Gr.refl.beside hD, s1.other hc0 hg0, hc0, hg0, [], upd_same, rfl⟩, Nat.zero_le _, rfl, q1⟩, ?_⟩
  rintro i m H2 ⟨G2, c2, acc, st2, h6, rfl, lw⟩
  have s2 := st2.2.1
  by_cases hlt : i < ds.length
  · rw [List.drop_eq_getElem_cons hlt] at lw
    obtain ⟨hck, lw⟩ := lw
    have hd : ds[i]? = some ds[i] := List.getElem?_eq_getElem hlt
    obtain ⟨hgo, hy⟩ := (sv i G2 c2 H2 st2.1.g s2 hck).1 _ hd
    split at lw
    · rename_i en3 hb3
      refine .inr ⟨hgo, fun H' => ∃ G c acc, InD X.K G1 c1 H1 D0 acc c G H' ∧ lcO chk t wt wi1 t1 wt1 we vs vs1 en (fun acc c' => Q0 (.lst acc) c') (ds.drop (i + 1)) acc c, ?_, ?_⟩
      · rintro H' ⟨G, c, acc, z1, z8⟩
        exact ⟨ds.length - (i + 1), by omega, G, c, acc, z1, hlt, rfl, z8⟩
      · intro x H' y
        obtain ⟨G3, s3, g3, r3⟩ := hy x H' y
        have er3 := (er1.mono (st2.1.g.trans g3.g)).wipe vs
        refine gTg_ok (vs := vs) s3.sub t _ x _ en3 (wipe σ vs) _ hv er3 r3 hb3 fun σ3 er4 hw => ⟨by rw [hw]; exact wipe_wipe σ vs, ?_⟩
        refine ⟨G3, en3, c2, _, noX, s3, er4, lw, XOk.none0, fun bb c5 H5 G5 q5 g5 s5 => ?_⟩
        have st5 := st2.step (g3.trans g5) s5
        cases bb with
        | false => exact iteF ⟨G5, c5, acc, st5, by simpa using q5⟩
        | true =>
          refine iteT ⟨G5, en3, c5, (fun ds1 chk1 c2 => lcI chk1 t1 wt1 we vs1 en3 (fun acc' c3 => lcO chk t wt wi1 t1 wt1 we vs vs1 en (fun acc c' => Q0 (.lst acc) c') (ds.drop (i + 1)) acc' c3) ds1 acc c2), noX, s5, er4.mono g5.g, by simpa using q5, XOk.none0, fun ds1 chk1 c6 J1 H6 G6 q6 g6 s6 sv6 => ?_⟩
          have st6 := st5.step g6 s6
          exact li_ok hv1 hD st6 (er4.mono (g5.trans g6).g) sv6 q6 fun G c acc H z1 z2 => ⟨G, c, acc, z1, z2⟩
    · exact lw.elim
  · have hi3 : i = ds.length := by omega
    subst hi3
    rw [List.drop_length] at lw
    obtain ⟨hck, lw⟩ := lw
    refine .inl ⟨(sv _ G2 c2 H2 st2.1.g s2 hck).2 (Nat.le_refl _), ?_⟩
    obtain ⟨g2, _, k2, k3, vacc, k1, k4⟩ := st2
    obtain ⟨s7, g7⟩ := adoptG s2 g2 hD k1 k2 k3
    exact kk _ c2 _ H2 _ lw (g1.trans g7) s7 ⟨D0, vacc, rfl, upd_same, Reps.mono (le_upd k3) _ _ k4⟩
theorem js_setLc2 (i : Nat) {y : Str} {py spos : Pos} {tg1 iter1 : Expr} {ifs1 : List Expr} {vs1 : List Nat} {wi1 : WI} {t1 : Tg} {wt1 : WT} (hc : X.calm = true) (hN : X.N.Nodup)
    (hsw : swapsWith (.ListComp elt [⟨tg, iter, ifs, 0⟩, ⟨tg1, iter1, ifs1, 0⟩] scope pos) (some (.Name y py)) spos.line X.env = pure true) (hi : JI X W tg iter wi) (ok : BlkOk X.N X.env.scope scope own)
    (hg : ∀ (s : Shared) (H : Hp) (C : Addr) (cl : List (Str × Addr)) (fp : List Addr), JTg (X.blk s H scope (compEnvC scope cl C X.env) fp) tg t) (ht : ∀ (s : Shared) (H : Hp) (C : Addr) (cl : List (Str × Addr)) (fp : List Addr), JTs (X.blk s H scope (compEnvC scope cl C X.env) fp) W0 ifs wt)
    (hi1 : ∀ (s : Shared) (H : Hp) (C : Addr) (cl : List (Str × Addr)) (fp : List Addr), JI (X.blk s H scope (compEnvC scope cl C X.env) fp) W0 tg1 iter1 wi1)
    (hg1 : ∀ (s : Shared) (H : Hp) (C : Addr) (cl : List (Str × Addr)) (fp : List Addr), JTg (X.blk s H scope (compEnvC scope cl C X.env) fp) tg1 t1) (ht1 : ∀ (s : Shared) (H : Hp) (C : Addr) (cl : List (Str × Addr)) (fp : List Addr), JTs (X.blk s H scope (compEnvC scope cl C X.env) fp) W0 ifs1 wt1)
    (he : ∀ (s : Shared) (H : Hp) (C : Addr) (cl : List (Str × Addr)) (fp : List Addr), JE (X.blk s H scope (compEnvC scope cl C X.env) fp) W0 elt we) (hv : ∀ i ∈ slotsT t, i ∈ own.map (·.2) := by decide) (hv1 : ∀ i ∈ slotsT t1, i ∈ vs1 := by decide) (hvs : ∀ i ∈ vs1, i ∈ own.map (·.2) := by decide)
    (hy : X.N[i]? = some y := by rfl) (hyl : X.env.scope.names.lookup y = some .local := by rfl) (hs : ∀ x, foldedSetIterable iter X.env x = pure x := by intro _; rfl) (hs1 : ∀ env x, foldedSetIterable iter1 env x = pure x := by intro _ _; rfl) :
    JS X W (.Assign [.Name y py] (.ListComp elt [⟨tg, iter, ifs, 0⟩, ⟨tg1, iter1, ifs1, 0⟩] scope pos) spos) (sSet i (wLc2 wi t wt wi1 t1 wt1 we (own.map (·.2)) vs1)) :=
  PS.of (ps_setLc2 hc hN hy hyl hsw hi ok hvs hg ht hi1 hg1 ht1 he hs hs1) fun D σ H h => set_rd (fun σ H Q h => tLc2_of hv hv1 h) h
/-- list(range(..)) -/
def wLRg (wa : WE) : WE := fun en c Q X => wa en c (fun d c1 => match d with
  | .int j => -(2 ^ 62) ≤ j ∧ j ≤ 16777216 ∧ Q (.lst (rgD 0 j)) c1
  | _ => False) X
end
end VL
namespace VL
open PySem PySem.Spec PyProof.Rows L2
theorem noCX {P : Program} {w : World} {l : List PySem.Env} {H : Hp} {s s' : Shared} {e : Value} (h : L2.CX P w l H s (fun _ _ _ => False) e s') : False := by
  obtain ⟨_, _, _, _, _, _, _, _, _, _, _, _, z⟩ := h
  exact z
/-- the law is called at the script: what the heap behind the top gives -/
theorem law_runs {P : Program} {w : World} {K : PySem.W.Frag} {mg mb : Str → Option Value} {k : Nat} {fa a : Addr} {fd : FuncData} {x : Str} {ct : Ctr} {s1 : Shared} {vs : List Value} {ns : List Int}
    (kin : K.In s1.heap) (hmg : s1.heap.Ns mainGlobals mg) (hmb : s1.heap.Ns builtinsNs mb) (hbb : ∀ y : Str, y ≠ "__name__" → mb y = bootBuiltins y) (lim : s1.heap.NoLimit) (gens : s1.gens = #[])
    (ha : s1.heap.get? a = some { cls := .type "list", data := .seq vs.toArray }) (hin : IntsAre vs ns) (hz : ns.length ≤ sizeLine) (room : Room k callerA)
    (F : ∀ base : Heap, K.In base → base.Ns mainGlobals mg → FnG P w K mg base k fa fd [x] (spD K mg 1 ct)) (bd : ∀ (s : Shared) (u : Value), BindsTo s fd ⟨[u], []⟩ [(x, u)])
    (hct : ct [.scr ns] (fun _ => none) (fun d _ => d = .bl true) (fun _ _ _ => False)) :
    codeAny (model P w) callerA (.call (.ref fa) ⟨[.ref a], []⟩) (fun r s' => r = .ok (.ret (.bool true)) ∧ OldK s1.heap s'.heap ∧ s'.os = s1.os ∧ AllBare s'.gens) s1 := by
  have rv : Vals (ns.map V.int) vs := vals_of_ints hin
  have len : ns.length = vs.length := hin.length.symm
  let ob : Obj := { cls := .type "list", data := .seq vs.toArray }
  -- what is tracked at the entry: the script alone, or nothing where it is an object of the written part
  have go : ∀ H : Hp, (∀ b u, H b = some u → b = a ∧ u = .frz ob (.lst (ns.map V.int))) → SqL K H a (ns.map V.int) → (H a ≠ none → K.lookup a = none) →
      codeAny (model P w) callerA (.call (.ref fa) ⟨[.ref a], []⟩) (fun r s' => r = .ok (.ret (.bool true)) ∧ OldK s1.heap s'.heap ∧ s'.os = s1.os ∧ AllBare s'.gens) s1 := by
    intro H only sq notK
    have ok : HOk P w H s1.heap := fun b u e => by
      obtain ⟨rfl, rfl⟩ := only b u e
      exact ⟨ha, by rw [List.length_map]; exact hz, vs, _, rv, ha⟩
    have stays : ∀ {b : Addr} {o : Obj}, s1.heap.get? b = some o → b ≠ a → (hidT s1.heap H).get? b = some o := fun {b o} e ne => hidT_get e (by
      cases q : H b with
      | none => rfl
      | some u => exact absurd (only b u q).1 ne)
    have ns_of : ∀ {b : Addr} {m : Str → Option Value}, s1.heap.Ns b m → (hidT s1.heap H).Ns b m := fun {b m} ⟨o, es, ep, e, hd, r⟩ => ⟨o, es, ep, stays e (fun z => by
      rw [z, ha] at e
      cases e
      cases hd), hd, r⟩
    have kin' : K.In (hidT s1.heap H) := fun b o e => by
      have e1 := kin b o e
      refine hidT_get e1 ?_
      cases q : H b with
      | none => rfl
      | some u =>
        obtain ⟨rfl, _⟩ := only b u q
        rw [notK (by rw [q]; simp)] at e
        cases e
    have md : Mod K mg (hidT s1.heap H) := ⟨kin', ns_of hmg, ⟨mb, ns_of hmb, hbb⟩, by obtain ⟨m, h1, h2⟩ := lim; exact ⟨m, ns_of h1, h2⟩⟩
    have e0 : Env0 P w K mg (hidT s1.heap H) callerA [] s1 H := ⟨rfl, md, fun b o e => of_hidT e, Nat.le_of_eq (hidT_size _ _), trivial, fun b hb => by exact absurd (show b ∈ ([] : List Addr) from hb) (by simp), ok, .of_eq gens⟩
    have want : spD K mg 1 ct [.ref a] H (fun v _ => v = .bl true) (fun _ _ _ => False) := by
      refine ⟨H, [.scr ns], fun _ => none, _, _, ⟨Le.refl _, fun b y e => by cases e⟩, ⟨_, _, rfl, ⟨a, rfl, sq⟩, rfl⟩, rfl, hct, ?_, ?_⟩
      · rintro d c' v H' G' rfl _ _ r
        exact r
      · rintro m d c' cls dx H' G' z
        exact z.elim
    refine codeAny_mono ((F _ kin' (ns_of hmg)).run callerA [] s1 H ⟨[.ref a], []⟩ [.ref a] [.ref a] _ _ room rfl e0 (bd s1 (.ref a)) (.cons rfl .nil) want) ?_
    rintro (e | fl) s' z
    · exact (noCX z).elim
    · cases fl <;> first
        | exact False.elim z
        | skip
      obtain ⟨v, H', os, bare, un, ok', r, q⟩ := z
      have q : v = .bl true := q
      subst q
      have r : _ = Value.bool true := r
      subst r
      refine ⟨rfl, OldK.of_keep fun b o e => ?_, os, bare⟩
      cases q : H b with
      | none => exact un.keep b o e q (fun z => by cases z) (fun z => by cases z)
      | some u =>
        obtain ⟨rfl, rfl⟩ := only b u q
        have k1 : s1.heap.get? b = some ob := (ok b _ q).1
        have k2 : s'.heap.get? b = some ob := (ok' b _ (un.frzs b ob _ q)).1
        rw [k1] at e
        cases e
        exact k2
  cases hk : K.lookup a with
  | some o =>
    have e := kin a o hk
    rw [ha] at e
    cases e
    exact go (fun _ => none) (fun b u z => by cases z) (.inr ⟨_, vs.toArray, _, hk, rfl, rfl, rfl, by rw [List.size_toArray, ← len]; exact hz, rv⟩) (fun z => absurd rfl z)
  | none =>
    refine go (fun b => if b = a then some (.frz ob (.lst (ns.map V.int))) else none) (fun b u z => ?_) (.inl (.inr ⟨ob, if_pos rfl⟩)) (fun _ => hk)
    by_cases hb : b = a
    · rw [if_pos hb] at z; cases z; exact ⟨hb, rfl⟩
    · rw [if_neg hb] at z; cases z
theorem walk_ofG {l : PySem.W.OpenLaw} {n k : Nat} {q : Program} {loose : List Str} {XP : (Str → Option Value) → Heap → Prop} {YP : World → Heap → Prop} {d : DefRec} {K : Params → PySem.W.Frag} {ct : Ctr} {x : Str}
    (hn : l.most = some n) (hn2 : n ≤ sizeLine) (hdf : d.params.defaults = []) (hr : Room k callerA) (hY : ∀ (w : World) (h : Heap), YP w h → (K w.params).In h)
    (F : ∀ (w : World) (mg : Str → Option Value) (fa : Addr) (h : Heap), (K w.params).In h → h.Ns mainGlobals mg → mg d.name = some (.ref fa) →
      ∃ fd : FuncData, (∀ (s : Shared) (u : Value), BindsTo s fd ⟨[u], []⟩ [(x, u)]) ∧ ∀ base : Heap, (K w.params).In base → base.Ns mainGlobals mg → FnG l.prog w (K w.params) mg base k fa fd [x] (spD (K w.params) mg 1 ct))
    (hct : ∀ ns : List Int, ns.length ≤ n → ct [.scr ns] (fun _ => none) (fun d _ => d = .bl true) (fun _ _ _ => False)) :
    PySem.W.WalkO q loose XP YP l.row.toRowW d [] (fun f vs => PySem.call f vs) := by
  refine Att.attach_call hn hdf ?_
  intro w s0 s1 mg mb fa o pm cd doc a vs ns G Y ho hd hcd hmg hobj hints hlen hg
  obtain ⟨fd, hb, hF⟩ := F w mg fa _ (hY w _ Y) G.T.g hmg
  exact law_runs (hY w _ Y) G.T.g G.T.b G.T.builtins G.T.nolimit hg hobj hints (Nat.le_trans hlen hn2) hr hF hb (hct ns hlen)
end VL
namespace VL
open PySem PySem.Spec PyProof.Rows L2
/-- the def st stands behind the top as x -/
def DefAt (K : PySem.W.Frag) (mg : Str → Option Value) (x : Str) (st : Stmt) (ps : List Str) : Prop :=
  ∃ f fd, mg x = some (.ref f) ∧ Fun K x x st f fd ∧ Binds K fd ps []
theorem def_mk {K : PySem.W.Frag} {mg : Str → Option Value} {h : Heap} {x : Str} {st : Stmt} {ps : List Str} {f : Addr} {oc : Value} {od an : Option Addr} {osl : Array (Option Value)} {kV doc pm cdv ct : Value} (X : K.In h) (G : h.Ns mainGlobals mg)
    (a : PySem.W.nsIn K mainGlobals x = some (some (.ref f))) (l : K.lookup f = some ⟨oc, od, .func (PySem.W.fnOf x x (defArgs st) (defBody st) (defScope st) .none kV doc pm an cdv ct), osl⟩) (c : PySem.W.codeIn K cdv x = true) (k : PySem.W.keepIn K (.ref f) = true)
    (hb : ∀ (kV doc pm : Value) (an : Option Addr) (cdv ct : Value) (us : List Value), us.length = ps.length → bindArgs (PySem.W.fnOf x x (defArgs st) (defBody st) (defScope st) .none kV doc pm an cdv ct) ⟨us, []⟩ = pure (ps.zip us)) : DefAt K mg x st ps := by
  have F := fun_mk (st := st) l c k
  exact ⟨f, _, PySem.W.mg_of X G a, F, F.binds hb⟩
section
variable {P : Program} {w : World} {K : PySem.W.Frag} {mg : Str → Option Value} {base : Heap}
theorem cal_zero {x : Str} {st : Stmt} {ps : List Str} {n : Nat} {ct : Nat → Ctr} (h : DefAt K mg x st ps) (hn : ps.length = n := by rfl) : Cal P w K mg base 0 x n ct := by
  obtain ⟨f, fd, h1, F, hb⟩ := h
  refine ⟨f, fd, ps, h1, F.kp, hb, hn, ?_, ?_⟩
  · rintro vs H Q E ⟨_, _, _, _, _, _, _, _, z, _⟩
    exact z.elim
  · rintro A outer s H args us vs Q E _ _ _ _ _ ⟨_, _, _, _, _, _, _, _, z, _⟩
    exact z.elim
theorem cal_succ {x : Str} {st : Stmt} {N ps : List Str} {n k : Nat} {ct : Nat → Ctr} {wb : WS} (h : DefAt K mg x st ps) (S : FnScope N ps (defScope st))
    (hb : ∀ (f : Addr) (cdv : Value) (A : Around) (outer : List PySem.Env) (s : Shared) (H : Hp) (E : XK), Room k (A.deeper (envOfC x (defScope st) s.heap.objs.size f cdv)) → A.guards = some [] →
      JSs (cxOf (L2.CX P w) P w K mg base N x (defScope st) f cdv A outer s H E) (WXE E) (defBody st) wb)
    (hp : ∀ ds c Q X0, ds.length = n → ct k ds c Q X0 → wb (endOf Q) (excOf X0) (enOf N.length ds) c) (hn : ps.length = n := by rfl) : Cal P w K mg base (k + 1) x n ct := by
  obtain ⟨f, fd, h1, F, hb'⟩ := h
  subst hn
  exact ⟨f, fd, ps, h1, F.kp, hb', rfl, fnG_of F S (hb f) hp⟩
end
/-- the law's own def, for the end -/
theorem law_mk {P : Program} {w : World} {K : PySem.W.Frag} {mg : Str → Option Value} {x y : Str} {st : Stmt} {fa : Addr} {N : List Str} {k : Nat} {ct : Nat → Ctr} {wb : WS} (h : DefAt K mg x st [y]) (hfa : mg x = some (.ref fa)) (S : FnScope N [y] (defScope st))
    (hbd : ∀ (kV doc pm : Value) (an : Option Addr) (cdv cv u : Value), bindArgs (PySem.W.fnOf x x (defArgs st) (defBody st) (defScope st) .none kV doc pm an cdv cv) ⟨[u], []⟩ = pure [(y, u)])
    (hb : ∀ base : Heap, K.In base → base.Ns mainGlobals mg → ∀ (f : Addr) (cdv : Value) (A : Around) (outer : List PySem.Env) (s : Shared) (H : Hp) (E : XK), Room k (A.deeper (envOfC x (defScope st) s.heap.objs.size f cdv)) → A.guards = some [] →
      JSs (cxOf (L2.CX P w) P w K mg base N x (defScope st) f cdv A outer s H E) (WXE E) (defBody st) wb)
    (hp : ∀ ds c Q X0, ds.length = 1 → ct k ds c Q X0 → wb (endOf Q) (excOf X0) (enOf N.length ds) c) :
    ∃ fd : FuncData, (∀ (s : Shared) (u : Value), BindsTo s fd ⟨[u], []⟩ [(y, u)]) ∧ ∀ base : Heap, K.In base → base.Ns mainGlobals mg → FnG P w K mg base (k + 1) fa fd [y] (spD K mg 1 (ct k)) := by
  obtain ⟨f, fd, h1, F, _⟩ := h
  rw [h1] at hfa
  cases hfa
  refine ⟨fd, ?_, fun base h2 h3 => fnG_of (ps := [y]) F S (hb base h2 h3 fa) hp⟩
  obtain ⟨oc, od, kV, doc, pm, an, cdv, cv, osl, rfl, _, _⟩ := F.ex
  exact fun s u => .of_eq (hbd kV doc pm an cdv cv u)
end VL
namespace VL
open PySem PySem.Spec PyProof.Rows L2
def Cell.items : Cell → Option (List D)
  | .lst l => some l
  | .fz l => some l
  | .dic _ => none
  | .dit _ => none
  | .obj _ _ => none
  | .exc _ _ _ => none
  | .tab _ => none
  | .fn _ _ => none
  | .gd _ _ => none
theorem it_lst {l : List D} : Cell.items (.lst l) = some l := rfl
theorem it_fz {l : List D} : Cell.items (.fz l) = some l := rfl
theorem lst_ptr {c : Cs} {p : Addr} : lstOf c (.ptr p) = (c p).bind Cell.items := by
  show (match c p with | some (.lst l) => some l | some (.fz l) => some l | _ => none) = _
  cases c p with
  | none => rfl
  | some x => cases x <;> rfl
section
variable {c : Cs} {Q : DK} {i j : Int} {l m : List D} {x y d : D} {p : Addr} {ns : List Int} {b b' : Bool} {s t : Str}
theorem e_sub : oSub (.int i) (.int j) c Q = Q (.int (i - j)) c := propext ⟨fun h => h.2, fun h => ⟨trivial, h⟩⟩
theorem e_fdiv : oFdiv (.int i) (.int j) c Q = ((0 < j ∧ j.natAbs.log2 < 9000) ∧ Q (.int (i / j)) c) := rfl
theorem e_mod : oMod (.int i) (.int j) c Q = (0 < j ∧ Q (.int (i % j)) c) := rfl
theorem e_pow : oPow (.int i) (.int j) c Q = ((0 ≤ j ∧ j ≤ 1000000 ∧ -18446744073709551616 < i ∧ i < 18446744073709551616) ∧ Q (.int (i ^ j.toNat)) c) :=
  propext ⟨fun h => ⟨⟨h.1.1, h.1.2.1, by have := h.1.2.2; omega, by have := h.1.2.2; omega⟩, h.2⟩, fun h => ⟨⟨h.1.1, h.1.2.1, by have := h.1.2.2; omega⟩, h.2⟩⟩
theorem e_lt : oLt (.int i) (.int j) c Q = Q (.bl (decide (i < j))) c := propext ⟨fun h => h.2, fun h => ⟨trivial, h⟩⟩
theorem e_le : oLe (.int i) (.int j) c Q = Q (.bl (decide (i ≤ j))) c := propext ⟨fun h => h.2, fun h => ⟨trivial, h⟩⟩
theorem e_gt : oGt (.int i) (.int j) c Q = Q (.bl (decide (j < i))) c := propext ⟨fun h => h.2, fun h => ⟨trivial, h⟩⟩
theorem e_ge : oGe (.int i) (.int j) c Q = Q (.bl (decide (j ≤ i))) c := propext ⟨fun h => h.2, fun h => ⟨trivial, h⟩⟩
theorem e_neg : oNeg (.int i) c Q = Q (.int (-i)) c := rfl
theorem e_add : oAdd (.int i) (.int j) c Q = Q (.int (i + j)) c := rfl
theorem e_addS : oAdd (.str s) (.str t) c Q = (s.length + t.length ≤ sizeLine ∧ Q (.str (s ++ t)) c) := rfl
theorem e_addT : oAdd (.tup l) (.tup m) c Q = (l.length + m.length ≤ sizeLine ∧ Q (.tup (l ++ m)) c) := rfl
theorem e_addL : oAdd (.lst l) (.lst m) c Q = (l.length + m.length ≤ sizeLine ∧ Q (.lst (l ++ m)) c) := rfl
theorem e_mul : oMul (.int i) (.int j) c Q = (MulOk i j ∧ Q (.int (i * j)) c) := rfl
theorem e_mulL : oMul (.lst l) (.int i) c Q = (-(2 ^ 63) ≤ i ∧ i < 2 ^ 63 ∧ l.length * i.toNat ≤ sizeLine ∧ Q (.lst (List.replicate i.toNat l).flatten) c) := rfl
theorem e_augI {C : Int → Int → Prop} {g : Int → Int → D} : oII C g (.int i) (.int j) c Q = (C i j ∧ Q (g i j) c) := rfl
theorem e_ixT : oIx (.tup l) (.int i) c Q = (∃ d, atI l i = some d ∧ Q d c) := rfl
theorem e_ixL : oIx (.lst l) (.int i) c Q = (∃ d, atI l i = some d ∧ Q d c) := rfl
theorem e_ixN : oIx (.scr ns) (.int i) c Q = (∃ d, atI (ns.map D.int) i = some d ∧ Q d c) := rfl
theorem e_ixP : oIx (.ptr p) (.int i) c Q = (∃ l, (c p).bind Cell.items = some l ∧ ∃ d, atI l i = some d ∧ Q d c) := by
  show (match lstOf c (.ptr p) with | some l => (∃ d, atI l i = some d ∧ Q d c) | none => False) = _
  rw [lst_ptr]
  cases (c p).bind Cell.items with
  | none => simp
  | some l => simp
theorem e_lenT : oLen [.tup l] c Q = Q (.int l.length) c := rfl
theorem e_lenL : oLen [.lst l] c Q = Q (.int l.length) c := rfl
theorem e_lenN : oLen [.scr ns] c Q = Q (.int ns.length) c := by show Q (.int ((ns.map D.int).length : Nat)) c = _; rw [List.length_map]
theorem e_lenS : oLen [.str s] c Q = (s.length ≤ sizeLine ∧ Q (.int s.length) c) := rfl
theorem e_lenP : oLen [.ptr p] c Q = (∃ l, (c p).bind Cell.items = some l ∧ Q (.int l.length) c) := by
  show (match lstOf c (.ptr p) with | some l => Q (.int (l.length : Nat)) c | none => False) = _
  rw [lst_ptr]
  cases (c p).bind Cell.items with
  | none => simp
  | some l => simp
theorem e_abs : oAbs [.int i] c Q = Q (.int (if i < 0 then -i else i)) c := rfl
theorem e_intI : oInt [.int i] c Q = Q (.int i) c := rfl
theorem e_intB : oInt [.bl b] c Q = Q (.int (if b then 1 else 0)) c := rfl
theorem e_max : oMax [.int i, .int j] c Q = Q (.int (if j > i then j else i)) c := rfl
theorem e_min : oMin [.int i, .int j] c Q = Q (.int (if j < i then j else i)) c := rfl
theorem e_all {bs : List Bool} : oAll [.lst (bs.map .bl)] c Q = Q (.bl (bs.all (fun b => b))) c := by
  refine propext ⟨fun ⟨as, h, q⟩ => ?_, fun h => ⟨bs, rfl, h⟩⟩
  have e : bs.map D.bl = as.map D.bl := by simpa [lstOf] using h
  have : bs = as := by
    have f : Function.Injective D.bl := fun a b h => by cases h; rfl
    exact (List.map_inj_right (fun _ _ h => f h)).mp e
  rw [this]; exact q
theorem e_tupL : oTuple [.lst l] c Q = Q (.tup l) c := rfl
theorem e_tupT : oTuple [.tup l] c Q = Q (.tup l) c := rfl
theorem e_listL : oList [.lst l] c Q = Q (.lst l) c := rfl
theorem e_listT : oList [.tup l] c Q = Q (.lst l) c := rfl
theorem e_listN : oList [.scr ns] c Q = Q (.lst (ns.map .int)) c := rfl
theorem e_listLL : oListL [.lst l] c Q = (∀ p, c p = none → Q (.ptr p) (cup c p (.lst l))) := rfl
theorem e_listLT : oListL [.tup l] c Q = (∀ p, c p = none → Q (.ptr p) (cup c p (.lst l))) := rfl
theorem e_divmod : oDivmod [.int i, .int j] c Q = (0 < j ∧ j.natAbs.log2 < 9000 ∧ Q (.tup [.int (i / j), .int (i % j)]) c) := rfl
theorem e_isNon : oIs x .non c Q = Q (.bl (isNon x)) c := rfl
theorem e_isntNon : oIsNot x .non c Q = Q (.bl (!isNon x)) c := rfl
theorem e_isB {a b : Bool} {c : Cs} {Q : DK} : oIs (.bl a) (.bl b) c Q = Q (.bl (decide (a = b))) c := rfl
theorem e_isntB {a b : Bool} {c : Cs} {Q : DK} : oIsNot (.bl a) (.bl b) c Q = Q (.bl (!decide (a = b))) c := rfl
theorem e_tyT {ss : List String} (h : ∀ n ∈ ss, n ∈ clsNs) (h1 : tyN c x ∈ tyNs) : oIsi [x, .tup (ss.map .ty)] c Q = Q (.bl (ss.any (isTy (tyN c x)))) c := by
  refine propext ⟨fun ⟨_, ns, e, _, q⟩ => ?_, fun q => ⟨h1, ss, rfl, h, q⟩⟩
  have : ss = ns := (List.map_inj_right (fun _ _ h => by cases h; rfl)).mp e
  rw [this]; exact q
/-- isinstance with a pair of classes, with one -/
theorem e_tyLT : oIsi [x, .tup [.ty "list", .ty "tuple"]] c Q = (tyN c x ∈ tyNs ∧ Q (.bl (isTy (tyN c x) "list" || isTy (tyN c x) "tuple")) c) := by
  refine propext ⟨fun h => ⟨h.1, ?_⟩, fun ⟨h1, q⟩ => ?_⟩
  · have := (e_tyT (c := c) (Q := Q) (x := x) (ss := ["list", "tuple"]) (by decide) h.1).mp h
    simpa using this
  · refine (e_tyT (c := c) (Q := Q) (x := x) (ss := ["list", "tuple"]) (by decide) h1).mpr ?_
    simpa using q
theorem e_ty1 {n : String} : oIsi [x, .ty n] c Q = (tyN c x ∈ tyNs ∧ n ∈ clsNs ∧ Q (.bl (isTy (tyN c x) n)) c) := rfl
theorem tyN_non : tyN c .non = "NoneType" := rfl
theorem tyN_bl : tyN c (.bl b) = "bool" := rfl
theorem tyN_int : tyN c (.int i) = "int" := rfl
theorem tyN_str : tyN c (.str s) = "str" := rfl
theorem tyN_tup : tyN c (.tup l) = "tuple" := rfl
theorem tyN_lst : tyN c (.lst l) = "list" := rfl
theorem at0 {α : Type} {a : α} {l : List α} : atI (a :: l) 0 = some a := by
  unfold atI ixN
  rw [if_pos (by omega), if_pos (by simp)]
  rfl
theorem atI_nat {α : Type} {l : List α} {n : Nat} : atI l (n : Int) = l[n]? := by
  unfold atI ixN
  rw [if_pos (by omega)]
  by_cases h : n < l.length
  · rw [if_pos (by omega)]
    show l[((n : Int)).toNat]? = _
    rw [Int.toNat_natCast]
  · rw [if_neg (by omega), List.getElem?_eq_none (by omega)]
    rfl
theorem at1 {α : Type} {a b : α} {l : List α} : atI (a :: b :: l) 1 = some b := atI_nat (n := 1)
theorem at2 {α : Type} {a b z : α} {l : List α} : atI (a :: b :: z :: l) 2 = some z := atI_nat (n := 2)
theorem at3 {α : Type} {a b z u : α} {l : List α} : atI (a :: b :: z :: u :: l) 3 = some u := atI_nat (n := 3)
theorem atI_of {α : Type} {l : List α} {i : Int} (h : 0 ≤ i) : atI l i = l[i.toNat]? := by
  have := atI_nat (l := l) (n := i.toNat)
  rwa [Int.toNat_of_nonneg h] at this
theorem ixN_of {n : Nat} {i : Int} (h : 0 ≤ i) (h' : i < n) : ixN n i = some i.toNat := by
  unfold ixN
  rw [if_pos h, if_pos h']
theorem e_live : liveOf c (.ptr p) = (match c p with | some (.lst l) => some (p, l) | _ => none) := rfl
theorem live_iff {q : Addr} {l : List D} : liveOf c (.ptr p) = some (q, l) ↔ q = p ∧ c p = some (.lst l) := by
  rw [e_live]
  constructor
  · intro h
    cases e : c p with
    | none => rw [e] at h; cases h
    | some z => cases z <;> rw [e] at h <;> cases h; exact ⟨rfl, rfl⟩
  · rintro ⟨rfl, h⟩
    rw [h]
theorem e_setIx {Q : Cs → Prop} : oSetIx (.ptr p) (.int i) d c Q = (∃ l, c p = some (.lst l) ∧ ∃ j, ixN l.length i = some j ∧ Q (cup c p (.lst (l.set j d)))) :=
  propext ⟨fun ⟨q, l, j, h, h2, h3⟩ => by obtain ⟨rfl, h⟩ := live_iff.mp h; exact ⟨l, h, j, h2, h3⟩, fun ⟨l, h, j, h2⟩ => ⟨p, l, j, live_iff.mpr ⟨rfl, h⟩, h2⟩⟩
theorem e_insert : oInsert (.ptr p) [.int i, d] c Q = (∃ l, c p = some (.lst l) ∧ l.length < sizeLine ∧ 0 ≤ i ∧ i < 2 ^ 63 ∧ Q .non (cup c p (.lst (l.take i.toNat ++ [d] ++ l.drop i.toNat)))) :=
  propext ⟨fun ⟨q, l, h, h2⟩ => by obtain ⟨rfl, h⟩ := live_iff.mp h; exact ⟨l, h, h2⟩, fun ⟨l, h, h2⟩ => ⟨p, l, live_iff.mpr ⟨rfl, h⟩, h2⟩⟩
theorem e_append : oAppend (.ptr p) [d] c Q = (∃ l, c p = some (.lst l) ∧ l.length < sizeLine ∧ Q .non (cup c p (.lst (l ++ [d])))) :=
  propext ⟨fun ⟨q, l, h, h2⟩ => by obtain ⟨rfl, h⟩ := live_iff.mp h; exact ⟨l, h, h2⟩, fun ⟨l, h, h2⟩ => ⟨p, l, live_iff.mpr ⟨rfl, h⟩, h2⟩⟩
theorem e_isL : isLst c (.ptr p) = (((c p).bind Cell.items).isSome = true) := by unfold isLst; rw [lst_ptr]
theorem e_isLL : isLst c (.lst l) = True := propext ⟨fun _ => trivial, fun _ => rfl⟩
theorem e_seqP : seqOf c (.ptr p) = (c p).bind Cell.items := lst_ptr
theorem e_seqL : seqOf c (.lst l) = some l := rfl
theorem e_seqT : seqOf c (.tup l) = some l := rfl
theorem e_seqN : seqOf c (.scr ns) = some (ns.map .int) := rfl
theorem ix30 : ixN 3 0 = some 0 := rfl
theorem ix32 : ixN 3 2 = some 2 := rfl
end
theorem wVar_z {d : D} {en : En} {c : Cs} {Q : DK} {X : XD} : wVar 0 (some d :: en) c Q X = Q d c := rfl
theorem wVar_s {i : Nat} {o : Option D} {en : En} {c : Cs} {Q : DK} {X : XD} : wVar (i + 1) (o :: en) c Q X = wVar i en c Q X := rfl
theorem lvl_s {ct : Nat → Ctr} {k : Nat} : lvl ct (k + 1) = ct k := rfl
end VL
namespace VL
open PySem PySem.Spec PyProof.Rows L2
theorem loop_inv {chk : Cs → Prop} {t : Tg} {wb : WS} {D0 : EndD} {X : XD} : ∀ {ds : List D} (I : Nat → En → Cs → Prop) {en : En} {c : Cs}, I 0 en c →
    (∀ i en c d, ds[i]? = some d → I i en c → chk c ∧ ∃ en', bindT t d en = some en' ∧ ∀ D1 : EndD, (∀ en c, I (i + 1) en c → D1.nx en c) → (∀ en c, I (i + 1) en c → D1.ct en c) → D1.rt = D0.rt → D1.bk = D0.nx → wb D1 X en' c) →
    (∀ en c, I ds.length en c → chk c ∧ D0.nx en c) → loopW chk t wb D0 X ds en c
  | [], I, en, c, h0, _, hf => hf en c h0
  | d :: r, I, en, c, h0, hs, hf => by
    obtain ⟨hc, en', hb, h⟩ := hs 0 en c d rfl h0
    have rest : ∀ en c, I 1 en c → loopW chk t wb D0 X r en c := fun en c h1 =>
      loop_inv (fun i => I (i + 1)) h1 (fun i en c d' e hi => hs (i + 1) en c d' (by simpa using e) hi) (fun en c hi => hf en c (by simpa using hi))
    refine ⟨hc, ?_⟩
    rw [hb]
    exact h _ rest rest rfl rfl
theorem lc_inv {chk : Cs → Prop} {t : Tg} {wt : WT} {we : WE} {vs : List Nat} {en : En} {fin : List D → Cs → Prop} : ∀ {ds : List D} (I : Nat → List D → Cs → Prop) {acc : List D} {c : Cs}, I 0 acc c →
    (∀ i acc c d, ds[i]? = some d → I i acc c → chk c ∧ ∃ en', bindT t d (ewipe en vs) = some en' ∧ ∀ Nx : List D → Cs → Prop, (∀ acc c, I (i + 1) acc c → Nx acc c) →
      wt en' c (fun b c1 => if b = true then we en' c1 (fun y c2 => Nx (acc ++ [y]) c2) noX else Nx acc c1) noX) →
    (∀ acc c, I ds.length acc c → chk c ∧ fin acc c) → lcW chk t wt we vs en fin ds acc c
  | [], I, acc, c, h0, _, hf => hf acc c h0
  | d :: r, I, acc, c, h0, hs, hf => by
    obtain ⟨hc, en', hb, h⟩ := hs 0 acc c d rfl h0
    have rest : ∀ acc c, I 1 acc c → lcW chk t wt we vs en fin r acc c := fun acc c h1 =>
      lc_inv (fun i => I (i + 1)) h1 (fun i en c d' e hi => hs (i + 1) en c d' (by simpa using e) hi) (fun en c hi => hf en c (by simpa using hi))
    refine ⟨hc, ?_⟩
    rw [hb]
    exact h _ rest
/-- a comprehension that changes nothing: the items by f -/
theorem lc_map {chk : Cs → Prop} {t : Tg} {we : WE} {vs : List Nat} {en : En} {fin : List D → Cs → Prop} {ds : List D} {c : Cs} (f : D → D) (hc : chk c)
    (hs : ∀ d, d ∈ ds → ∃ en', bindT t d (ewipe en vs) = some en' ∧ ∀ Q : DK, Q (f d) c → we en' c Q noX) (hf : fin (ds.map f) c) : lcW chk t wYes we vs en fin ds [] c := by
  refine lc_inv (fun i acc c' => acc = (ds.take i).map f ∧ c' = c) ⟨rfl, rfl⟩ ?_ ?_
  · rintro i acc c' d hd ⟨rfl, rfl⟩
    have hi := (List.getElem?_eq_some_iff.mp hd).1
    obtain ⟨en', hb, h⟩ := hs d (List.mem_of_getElem? hd)
    refine ⟨hc, en', hb, fun Nx k => h _ (k _ _ ⟨?_, rfl⟩)⟩
    rw [List.take_succ, hd, List.map_append]
    rfl
  · rintro acc c' ⟨rfl, rfl⟩
    refine ⟨hc, ?_⟩
    rw [List.take_length]
    exact hf
/-- two clauses that change nothing -/
theorem lci_map {chk : Cs → Prop} {t : Tg} {we : WE} {vs : List Nat} {en : En} {fin : List D → Cs → Prop} {c : Cs} (f : D → D) (hc : chk c) : ∀ {ds acc : List D},
    (∀ d, d ∈ ds → ∃ en', bindT t d (ewipe en vs) = some en' ∧ ∀ Q : DK, Q (f d) c → we en' c Q noX) → acc.length + ds.length ≤ sizeLine → fin (acc ++ ds.map f) c → lcI chk t wYes we vs en fin ds acc c
  | [], acc, _, _, hf => ⟨hc, by simpa using hf⟩
  | d :: r, acc, hs, hz, hf => by
    obtain ⟨en', hb, h⟩ := hs d (List.mem_cons_self ..)
    refine ⟨hc, ?_⟩
    rw [hb]
    refine h _ ⟨by simp at hz; omega, lci_map f hc (fun d hd => hs d (List.mem_cons_of_mem _ hd)) (by simp at hz ⊢; omega) (by simpa using hf)⟩
theorem CLe.cup_new {c : Cs} {p : Addr} {x : Cell} (h : c p = none) : CLe c (cup c p x) := fun a y e => by
  have : a ≠ p := fun z => by rw [z, h] at e; cases e
  rw [cup_ne this]; exact e
theorem cutL_map {α β : Type} (f : α → β) (l : List α) (lo hi : Option Int) : cutL (l.map f) lo hi = (cutL l lo hi).map f := by
  unfold cutL
  rw [List.length_map, ← List.map_drop, ← List.map_take]
theorem cutL_to {α : Type} {l : List α} {n : Int} (h : 0 ≤ n) : cutL l none (some n) = l.take n.toNat := by
  unfold cutL
  have e : HT.sIx l.length l.length (some n) = min n.toNat l.length := by
    show (if n < 0 then (n + (l.length : Int)).toNat else min n.toNat l.length) = _
    rw [if_neg (by omega)]
  rw [e, HT.sIx_none, List.drop_zero, Nat.sub_zero]
  rcases Nat.le_total n.toNat l.length with h | h
  · rw [Nat.min_eq_left h]
  · rw [Nat.min_eq_right h, List.take_length, List.take_of_length_le h]
theorem cutL_from {α : Type} {l : List α} {n : Int} (h : 0 ≤ n) : cutL l (some n) none = l.drop n.toNat := by
  unfold cutL
  have e : HT.sIx l.length 0 (some n) = min n.toNat l.length := by
    show (if n < 0 then (n + (l.length : Int)).toNat else min n.toNat l.length) = _
    rw [if_neg (by omega)]
  rw [e, HT.sIx_none]
  rcases Nat.le_total n.toNat l.length with h | h
  · rw [Nat.min_eq_left h, List.take_of_length_le (by simp)]
  · rw [Nat.min_eq_right h, List.drop_length, List.drop_eq_nil_of_le h]; simp
theorem rgD0_mem {j : Int} {d : D} (h : d ∈ rgD 0 j) : ∃ i : Int, d = .int i ∧ 0 ≤ i ∧ i < j := by
  unfold rgD at h
  obtain ⟨i, hi, rfl⟩ := List.mem_map.mp h
  have := List.mem_range.mp hi
  exact ⟨_, rfl, by omega, by omega⟩
theorem rgD0_get {j : Int} {i : Nat} {d : D} (h : (rgD 0 j)[i]? = some d) : d = .int (i : Nat) ∧ (i : Int) < j := by
  unfold rgD at h
  rw [List.getElem?_map] at h
  cases e : (List.range (j - 0).toNat)[i]? with
  | none => rw [e] at h; cases h
  | some m =>
    rw [e] at h
    cases h
    obtain ⟨h1, h2⟩ := List.getElem?_eq_some_iff.mp e
    rw [List.getElem_range] at h2
    rw [List.length_range] at h1
    subst h2
    exact ⟨by simp, by omega⟩
theorem rgD0_len {j : Int} : (rgD 0 j).length = j.toNat := by unfold rgD; simp
theorem sizeL : sizeLine = 16777216 := rfl
theorem inn_non : isNon .non = true := rfl
theorem inn_bl {b : Bool} : isNon (.bl b) = false := rfl
theorem inn_int {i : Int} : isNon (.int i) = false := rfl
theorem inn_str {i : Str} : isNon (.str i) = false := rfl
theorem inn_tup {i : List D} : isNon (.tup i) = false := rfl
theorem inn_lst {i : List D} : isNon (.lst i) = false := rfl
theorem inn_ptr {i : Addr} : isNon (.ptr i) = false := rfl
section
variable {c : Cs} {Q : DK} {l : List D} {ns : List Int} {lo hi : Option Int}
theorem e_slT : oSl (.tup l) lo hi c Q = Q (.tup (cutL l lo hi)) c := rfl
theorem e_slL : oSl (.lst l) lo hi c Q = Q (.lst (cutL l lo hi)) c := rfl
theorem e_slN : oSl (.scr ns) lo hi c Q = Q (.lst ((cutL ns lo hi).map .int)) c := by rw [← cutL_map]; rfl
theorem isT_P {p : Addr} : isTup (.ptr p) = false := rfl
theorem isT_L : isTup (.lst l) = false := rfl
theorem isT_T : isTup (.tup l) = true := rfl
theorem isT_N : isTup (.scr ns) = false := rfl
end
theorem isTys : isTy "NoneType" "bool" = false ∧ isTy "NoneType" "int" = false ∧ isTy "NoneType" "str" = false ∧ isTy "NoneType" "tuple" = false ∧ isTy "NoneType" "list" = false ∧ isTy "NoneType" "dict" = false ∧ isTy "bool" "bool" = true ∧ isTy "bool" "int" = true ∧ isTy "bool" "str" = false ∧ isTy "bool" "tuple" = false ∧ isTy "bool" "list" = false ∧ isTy "bool" "dict" = false ∧ isTy "int" "bool" = false ∧ isTy "int" "int" = true ∧ isTy "int" "str" = false ∧ isTy "int" "tuple" = false ∧ isTy "int" "list" = false ∧ isTy "int" "dict" = false ∧ isTy "str" "bool" = false ∧ isTy "str" "int" = false ∧ isTy "str" "str" = true ∧ isTy "str" "tuple" = false ∧ isTy "str" "list" = false ∧ isTy "str" "dict" = false ∧ isTy "tuple" "bool" = false ∧ isTy "tuple" "int" = false ∧ isTy "tuple" "str" = false ∧ isTy "tuple" "tuple" = true ∧ isTy "tuple" "list" = false ∧ isTy "tuple" "dict" = false ∧ isTy "list" "bool" = false ∧ isTy "list" "int" = false ∧ isTy "list" "str" = false ∧ isTy "list" "tuple" = false ∧ isTy "list" "list" = true ∧ isTy "list" "dict" = false ∧ isTy "dict" "bool" = false ∧ isTy "dict" "int" = false ∧ isTy "dict" "str" = false ∧ isTy "dict" "tuple" = false ∧ isTy "dict" "list" = false ∧ isTy "dict" "dict" = true := by decide
theorem tyMem : ("NoneType" ∈ tyNs) = True ∧ ("bool" ∈ tyNs) = True ∧ ("int" ∈ tyNs) = True ∧ ("str" ∈ tyNs) = True ∧ ("tuple" ∈ tyNs) = True ∧ ("list" ∈ tyNs) = True ∧ ("dict" ∈ tyNs) = True ∧ ("bool" ∈ clsNs) = True ∧ ("int" ∈ clsNs) = True ∧ ("str" ∈ clsNs) = True ∧ ("tuple" ∈ clsNs) = True ∧ ("list" ∈ clsNs) = True ∧ ("dict" ∈ clsNs) = True := by
  have h : ∀ {p : Prop}, p → p = True := fun h => propext ⟨fun _ => trivial, fun _ => h⟩
  refine ⟨?_, ?_, ?_, ?_, ?_, ?_, ?_, ?_, ?_, ?_, ?_, ?_, ?_⟩ <;> exact h (by decide)
section
variable {c : Cs} {Q : DK} {i j : Int} {a b : Bool} {s t : Str}
theorem deqI : deq (.int i) (.int j) = decide (i = j) := by
  by_cases h : i = j
  · subst h; simp [deq, toP, PyData.eqv]
  · simp [deq, toP, PyData.eqv, h]
theorem e_eqI : oEq (.int i) (.int j) c Q = Q (.bl (decide (i = j))) c := by
  rw [← deqI]
  exact propext ⟨fun h => h.2.2, fun h => ⟨rfl, rfl, h⟩⟩
theorem e_neI : oNe (.int i) (.int j) c Q = Q (.bl (decide (i ≠ j))) c := by
  rw [show decide (i ≠ j) = !deq (.int i) (.int j) by rw [deqI]; by_cases h : i = j <;> simp [h]]
  exact propext ⟨fun h => h.2.2, fun h => ⟨rfl, rfl, h⟩⟩
theorem deqB : deq (.bl a) (.bl b) = decide (a = b) := by cases a <;> cases b <;> rfl
theorem e_eqB : oEq (.bl a) (.bl b) c Q = Q (.bl (decide (a = b))) c := by
  rw [← deqB]
  exact propext ⟨fun h => h.2.2, fun h => ⟨rfl, rfl, h⟩⟩
theorem e_neB : oNe (.bl a) (.bl b) c Q = Q (.bl (decide (a ≠ b))) c := by
  rw [show decide (a ≠ b) = !deq (.bl a) (.bl b) by rw [deqB]; cases a <;> cases b <;> rfl]
  exact propext ⟨fun h => h.2.2, fun h => ⟨rfl, rfl, h⟩⟩
theorem e_eqS : oEq (.str s) (.str t) c Q = Q (.bl (decide (s = t))) c := rfl
theorem e_neS : oNe (.str s) (.str t) c Q = Q (.bl (!decide (s = t))) c := rfl
theorem e_eqN : oEq .non .non c Q = Q (.bl true) c := propext ⟨fun h => h.2.2, fun h => ⟨rfl, rfl, h⟩⟩
end
end VL
namespace VL
open PySem PySem.Spec PyProof.Rows L2
mutual
def pl : D → Bool
  | .non => true
  | .bl _ => true
  | .int _ => true
  | .str _ => true
  | .tup l => pls l
  | .lst l => pls l
  | .ptr _ => false
  | .scr _ => false
  | .ty _ => false
def pls : List D → Bool
  | [] => true
  | d :: l => pl d && pls l
end
mutual
def dep : D → Nat
  | .tup l => deps l + 1
  | .lst l => deps l + 1
  | .non => 0
  | .bl _ => 0
  | .int _ => 0
  | .str _ => 0
  | .ptr _ => 0
  | .scr _ => 0
  | .ty _ => 0
def deps : List D → Nat
  | [] => 0
  | d :: l => max (dep d) (deps l)
end
mutual
def fine : D → Bool
  | .non => true
  | .bl _ => true
  | .int i => decide (i.natAbs.log2 < 1920)
  | .str x => PyData.strOk x
  | .tup l => fines l
  | .lst l => fines l
  | .ptr _ => false
  | .scr _ => false
  | .ty _ => false
def fines : List D → Bool
  | [] => true
  | d :: l => fine d && fines l
end
mutual
def wt : D → Nat
  | .non => 4
  | .bl _ => 5
  | .int i => i.natAbs.log2 + 2
  | .str x => 10 * x.length + 2
  | .tup l => wts l + 3
  | .lst l => wts l + 3
  | .ptr _ => 0
  | .scr _ => 0
  | .ty _ => 0
def wts : List D → Nat
  | [] => 0
  | d :: l => wt d + 2 + wts l
end
theorem pls_all : ∀ {l : List D}, pls l = true ↔ ∀ d ∈ l, pl d = true
  | [] => by simp [pls]
  | d :: l => by simp [pls, pls_all (l := l)]
theorem fines_all : ∀ {l : List D}, fines l = true ↔ ∀ d ∈ l, fine d = true
  | [] => by simp [fines]
  | d :: l => by simp [fines, fines_all (l := l)]
theorem deps_le : ∀ {l : List D} {n : Nat}, deps l ≤ n ↔ ∀ d ∈ l, dep d ≤ n
  | [], n => by simp [deps]
  | d :: l, n => by
    simp only [deps, List.mem_cons, forall_eq_or_imp]
    rw [← deps_le (l := l)]
    omega
theorem wts_le : ∀ {l : List D} {n : Nat}, (∀ d ∈ l, wt d ≤ n) → wts l ≤ l.length * (n + 2)
  | [], n, _ => by simp [wts]
  | d :: l, n, h => by
    have h1 := h d (List.mem_cons_self ..)
    have h2 := wts_le (l := l) fun d hd => h d (List.mem_cons_of_mem _ hd)
    simp only [wts, List.length_cons, Nat.add_mul, Nat.one_mul]
    omega
mutual
theorem lay_fine : ∀ d : D, fine d = true → (toP d).canLay0 = true ∧ (toP d).showable = true ∧ (toP d).depth = dep d ∧ (shD d).length ≤ wt d
  | .non, _ => ⟨rfl, rfl, rfl, by simp [shD, toP, PyData.shown, wt]; decide⟩
  | .bl b, _ => ⟨rfl, rfl, rfl, by cases b <;> decide⟩
  | .int i, h => by
    have h : i.natAbs.log2 < 1920 := by simpa [fine] using h
    refine ⟨rfl, by simp [toP, PyData.showable, h], rfl, ?_⟩
    show (Str.ofString (toString i)).length ≤ i.natAbs.log2 + 2
    have := int_text_length_le (a := i) (k := i.natAbs.log2 + 1) (by omega) (by omega)
    have e : (Str.ofString (toString i)).length = (toString i).length := PySem.ofString_length _
    omega
  | .str x, h => by
    have h : PyData.strOk x = true := by simpa [fine] using h
    refine ⟨by simpa [toP, PyData.canLay0] using h, rfl, rfl, ?_⟩
    show (reprText x).length ≤ 10 * x.length + 2
    refine StrLaws.reprText_len x fun c hc => ?_
    have h1 : ∀ c ∈ x.cps.toList, c < 0x110000 := by
      unfold PyData.strOk at h
      rw [← Array.all_toList] at h
      intro c hc
      simpa using List.all_eq_true.mp h c hc
    exact Nat.lt_of_lt_of_le (h1 c hc) (by decide)
  | .tup l, h => by
    obtain ⟨h1, h2, h3, h4⟩ := lays_fine l (by simpa [fine] using h)
    refine ⟨by simpa [toP, PyData.canLay0] using h1, by simpa [toP, PyData.showable] using h2, by simp [toP, PyData.depth, dep, h3], ?_⟩
    show (tupleText (PyData.shownAll (toPs l))).length ≤ wts l + 3
    unfold tupleText
    rw [strLen_append, strLen_append]
    have e1 : ((("(" : String) : Str)).length = 1 := rfl
    have e3 : (((if (PyData.shownAll (toPs l)).length == 1 then ",)" else ")" : String) : Str)).length ≤ 2 := by split <;> decide
    rw [e1]
    by_cases e : PyData.shownAll (toPs l) = []
    · rw [e] at e3 ⊢
      have : (Str.join ", " []).length = 0 := rfl
      omega
    · have := join_length_add _ e
      omega
  | .lst l, h => by
    obtain ⟨h1, h2, h3, h4⟩ := lays_fine l (by simpa [fine] using h)
    refine ⟨by simpa [toP, PyData.canLay0] using h1, by simpa [toP, PyData.showable] using h2, by simp [toP, PyData.depth, dep, h3], ?_⟩
    show (listText (PyData.shownAll (toPs l))).length ≤ wts l + 3
    unfold listText
    rw [strLen_append]
    have e1 : (("]" : String) : Str).length = 1 := rfl
    rw [e1]
    cases e : PyData.shownAll (toPs l) with
    | nil => show 1 + 1 ≤ _; omega
    | cons t r =>
      have hY : (textFrom 0 "[" (t :: r)).length = (textFrom 1 (("[" : Str) ++ (if (0 : Nat) > 0 then ", " else "" : String) ++ t) r).length := rfl
      have e2 : ((("[" : Str) ++ (if (0 : Nat) > 0 then ", " else "" : String) ++ t)).length = 1 + t.length := by
        rw [strLen_append, strLen_append]; rfl
      rw [hY, textFrom_length_pos r 1 _ (Nat.succ_pos 0), e2]
      rw [e, piled_cons] at h4
      omega
  | .ptr _, h => by simp [fine] at h
  | .scr _, h => by simp [fine] at h
  | .ty _, h => by simp [fine] at h
theorem lays_fine : ∀ l : List D, fines l = true → PyData.canLayAll0 (toPs l) = true ∧ PyData.showableAll (toPs l) = true ∧ PyData.depthAll (toPs l) = deps l ∧ piled (PyData.shownAll (toPs l)) ≤ wts l
  | [], _ => ⟨rfl, rfl, rfl, Nat.le_refl _⟩
  | d :: l, h => by
    simp only [fines, Bool.and_eq_true] at h
    obtain ⟨h1, h2, h3, h4⟩ := lay_fine d h.1
    obtain ⟨g1, g2, g3, g4⟩ := lays_fine l h.2
    refine ⟨by simp [toPs, PyData.canLayAll0, h1, g1], by simp [toPs, PyData.showableAll, h2, g2], by simp [toPs, PyData.depthAll, h3, g3, deps], ?_⟩
    show piled (PyData.shown (toP d) :: PyData.shownAll (toPs l)) ≤ wt d + 2 + wts l
    rw [piled_cons]
    have : (PyData.shown (toP d)).length ≤ wt d := h4
    omega
end
theorem ok_fine {d : D} (h : fine d = true) (k : dep d ≤ 64) : okD d := by
  obtain ⟨h1, _, h3, _⟩ := lay_fine d h
  unfold okD SeqAt.shaped
  rw [h1, h3]
  simpa using k
theorem fine_int {i : Int} (h : -(2 ^ 1900 : Int) < i ∧ i < 2 ^ 1900) : fine (.int i) = true := by
  show decide (i.natAbs.log2 < 1920) = true
  rw [decide_eq_true_eq]
  by_cases e : i.natAbs = 0
  · rw [e]; decide
  · rw [Nat.log2_lt e]
    have : i.natAbs < 2 ^ 1900 := by omega
    exact Nat.lt_trans this (by decide +kernel)
mutual
def toL : D → D
  | .tup l => .lst (toLs l)
  | .lst l => .lst (toLs l)
  | .non => .non
  | .bl b => .bl b
  | .int i => .int i
  | .str x => .str x
  | .ptr a => .ptr a
  | .scr l => .scr l
  | .ty n => .ty n
def toLs : List D → List D
  | [] => []
  | d :: l => toL d :: toLs l
end
theorem toLs_map : ∀ l : List D, toLs l = l.map toL
  | [] => rfl
  | d :: l => by rw [toLs, toLs_map l]; rfl
end VL
namespace VL
open PySem PySem.Spec PyProof.Rows L2 RT
section
variable {X : Cx} {W : WX} {a b e : Expr} {es : List Expr} {wa wb wc : WE} {ws wk : WA} {p pos : Pos} {k : Nat} {o1 o2 : Op2}
def wChn (o o' : Op2) (wa wb wc : WE) : WE := fun en c Q X => wa en c (fun x c1 => wb en c1 (fun y c2 => o x y c2 (onB fun t c3 => if t = true then wc en c3 (fun z c4 => o' y z c4 Q) X else Q (.bl false) c3)) X) X
theorem chn_rd {r r' : R2} (ho : ∀ (G : Hp) (c : Cs) (H : Hp) (x y : D) (v u : V) (Q0 : DK) (Q : VK), SR X.K G c H → Rep X.K G x v → Rep X.K G y u → o1 x y c Q0 → Fin_ X.K G c H Q0 Q → r v u H Q)
    (ho' : ∀ (G : Hp) (c : Cs) (H : Hp) (x y : D) (v u : V) (Q0 : DK) (Q : VK), SR X.K G c H → Rep X.K G x v → Rep X.K G y u → o2 x y c Q0 → Fin_ X.K G c H Q0 Q → r' v u H Q) {σ : L2.St} {H : Hp} {Q : VK}
    (h : rdE X.K X.mg W (wChn o1 o2 wa wb wc) σ H Q) : tChain r r' (rdE X.K X.mg W wa) (rdE X.K X.mg W wb) (rdE X.K X.mg W wc) σ H Q := by
  obtain ⟨G, en, c, Q0, X0, s, er, q, x0, kk⟩ := h
  refine ⟨G, en, c, _, X0, s, er, q, x0, fun x c1 v H1 G1 q1 g1 s1 r1 => ?_⟩
  refine ⟨G1, en, c1, _, X0, s1, er.mono g1.g, q1, x0.more g1, fun y c2 u H2 G2 q2 g2 s2 r2 => ?_⟩
  refine ho G2 c2 H2 x y v u _ _ s2 (Rep.mono g2.g _ _ r1) r2 q2 fun d c3 z H3 G3 q3 g3 s3 r3 => ?_
  cases d <;> first
    | exact q3.elim
    | skip
  rename_i t
  refine ⟨t, r3, ?_⟩
  have q3 : if t = true then wc en c3 (fun z c4 => o2 y z c4 Q0) X0 else Q0 (.bl false) c3 := q3
  have g13 := (g1.trans g2).trans g3
  cases t with
  | true =>
    refine iteT ⟨G3, en, c3, _, X0, s3, er.mono g13.g, by simpa using q3, x0.more g13, fun z c4 w H4 G4 q4 g4 s4 r4 => ?_⟩
    exact ho' G4 c4 H4 y z u w _ _ s4 (Rep.mono (g3.trans g4).g _ _ r2) r4 q4 fun d c' v' H' G' z' g' s' r' => kk d c' v' H' G' z' ((g13.trans g4).trans g') s' r'
  | false => exact iteF (kk (.bl false) _ _ _ _ (by simpa using q3) g13 s3 rfl)
theorem jt_chn {op op' : CmpOp} {a b e : Expr} (ho : Op2R X (compareOp op) o1) (ho' : Op2R X (compareOp op') o2) (ha : JE X W a wa) (hb : JE X W b wb) (hc : JE X W e wc) (hm : lastMarks [op, op'] [b, e] = false := by with_unfolding_all rfl) :
    JT X W (.Compare a [op, op'] [b, e] pos) (wTst (wChn o1 o2 wa wb wc)) := by
  obtain ⟨r, h, hr⟩ := ho
  obtain ⟨r', h', hr'⟩ := ho'
  refine PT.of (pt_chain h h' ha hb hc hm) fun σ H Q ⟨G, en, c, Q0, X0, s, er, q, x0, kk⟩ => ?_
  refine chn_rd hr hr' ⟨G, en, c, _, X0, s, er, q, x0, fun d c' v H' G' z g s' r => ?_⟩
  cases d <;> first
    | exact z.elim
    | skip
  exact ⟨_, r, kk _ c' H' G' z g s'⟩
def truD (c : Cs) : D → Option Bool
  | .non => some false
  | .bl b => some b
  | .int i => some (i != 0)
  | .str z => if z.length ≤ sizeLine then some ((z.length : Int) != 0) else none
  | d => (seqOf c d).map fun l => !l.isEmpty
def wTru (w : WE) : WT := fun en c Q X => w en c (fun d c' => ∃ b, truD c' d = some b ∧ Q b c') X
theorem jt_tru (ha : JE X W a wa) (he : ∀ whole, isTrue a X.env whole = (do let v ← whole; standAt a.pos; holding [v] (truthy v)) := by exact fun _ => rfl) : JT X W a (wTru wa) := by
  refine PT.of (pt_truth ha he) fun σ H Q ⟨G, en, c, Q0, X0, s, er, q, x0, kk⟩ => ?_
  refine ⟨G, en, c, _, X0, s, er, q, x0, fun d c1 v H1 G1 ⟨b, e, q1⟩ g1 s1 r1 => ⟨b, ?_, kk b c1 H1 G1 q1 g1 s1⟩⟩
  have seq : ∀ l, seqOf c1 d = some l → b = !l.isEmpty → TruV X.K v H1 b := fun l hl hb => by
    obtain ⟨p, vs, rfl, h1, h2⟩ := seq_at s1 r1 hl
    have e2 : (!l.isEmpty) = !vs.isEmpty := by
      have := h1.length
      cases l <;> cases vs <;> simp at this ⊢
    rcases h2 with ⟨_, h2⟩ | ⟨_, h2⟩
    · exact .inr (.inl ⟨vs, h2, hb.trans e2⟩)
    · exact .inl ⟨vs, h2, hb.trans e2⟩
  have viaSeq : (seqOf c1 d).map (fun l => !l.isEmpty) = some b → TruV X.K v H1 b := fun h => by
    cases hl : seqOf c1 d with
    | none => rw [hl] at h; cases h
    | some l =>
      rw [hl] at h
      cases h
      exact seq l hl rfl
  cases d with
  | non => cases r1; cases e; exact rfl
  | bl t => cases r1; cases e; exact rfl
  | int i => cases r1; cases e; exact rfl
  | str z =>
    cases r1
    have e : (if z.length ≤ sizeLine then some ((z.length : Int) != 0) else none) = some b := e
    by_cases hz : z.length ≤ sizeLine
    · rw [if_pos hz] at e
      cases e
      exact ⟨hz, rfl⟩
    · rw [if_neg hz] at e
      cases e
  | tup l => exact viaSeq e
  | lst l => exact viaSeq e
  | ptr q => exact viaSeq e
  | scr l => exact viaSeq e
  | ty n => exact viaSeq e
theorem je_gs {x z : Str} (hm : ∃ t, X.mg x = some (.str z t)) (hg : Gl X x := by rfl) (hd : (x == ("__debug__" : Str)) = false := by decide) : JE X W (.Name x pos) (wC (.str z)) := by
  obtain ⟨t, hm⟩ := hm
  exact PE.of (pe_glob (v := .str z) hg hm ⟨t, rfl⟩ hd) fun σ H Q ⟨G, en, c, Q0, X0, s, er, q, x0, kk⟩ => kk _ c _ H G q Gr.refl s rfl
def sPar3 (i j l : Nat) (ws : WA) : WS := fun D X en c => ws en c (fun ds c' => match ds with
  | [d, d', d''] => D.nx (((en.set i (some d)).set j (some d')).set l (some d'')) c'
  | _ => False) X
theorem js_par3 {a b e : Expr} (i j l : Nat) {y z u : Str} {px py pz pt : Pos} {kt k2 : Nat} {pt2 : Pos} (hc : X.calm = true) (hN : X.N.Nodup) (ha : JA X W [a, b, e] ws) (hij : i ≠ j := by decide) (hil : i ≠ l := by decide) (hjl : j ≠ l := by decide) (hi : X.N[i]? = some y := by rfl) (hj : X.N[j]? = some z := by rfl) (hl : X.N[l]? = some u := by rfl)
    (hx : X.env.scope.names.lookup y = some .local := by rfl) (hy : X.env.scope.names.lookup z = some .local := by rfl) (hu : X.env.scope.names.lookup u = some .local := by rfl)
    (hw : swappedStores [.Tuple [.Name y px, .Name z py, .Name u pz] kt pt] (.Tuple [a, b, e] k2 pt2) X.env = pure (some [y, z, u]) := by rfl)
    (hs : swapsWithSole [.Tuple [.Name y px, .Name z py, .Name u pz] kt pt] (.Tuple [a, b, e] k2 pt2) pos.line X.env = pure false := by rfl) :
    JS X W (.Assign [.Tuple [.Name y px, .Name z py, .Name u pz] kt pt] (.Tuple [a, b, e] k2 pt2) pos) (sPar3 i j l ws) := by
  refine PS.of (ps_par3 hc hN hi hj hl hij hil hjl hx hy hu ha hw hs) fun D σ H ⟨G, en, c, D0, X0, s, er, q, x0, k⟩ => ?_
  refine ⟨G, en, c, _, X0, s, er, q, x0, fun ds c1 vs H1 G1 q1 g1 s1 r1 => ?_⟩
  split at q1
  · obtain ⟨v, r, rfl, r1, r2⟩ := r1
    obtain ⟨v', w, rfl, r2, r3⟩ := Reps.two' r2
    exact ⟨v, v', w, rfl, k.nx _ c1 _ H1 G1 q1 g1 s1 ((((er.mono g1.g).set r1).set r2).set r3)⟩
  · exact q1.elim
def wRev (we : WE) : WI := fun en c Q X => we en c (fun d c1 => match seqOf c1 d with
  | some l => l.length ≤ sizeLine → Q l.reverse (fun c' => seqOf c' d = some l) c1
  | none => False) X
theorem rev_get {α : Type} {l : List α} {i : Nat} {x : α} (h : l.reverse[i]? = some x) : i < l.length ∧ l[l.length - 1 - i]? = some x := by
  obtain ⟨h1, h2⟩ := List.getElem?_eq_some_iff.mp h
  rw [List.length_reverse] at h1
  rw [List.getElem_reverse] at h2
  exact ⟨h1, by rw [← h2]; exact List.getElem?_eq_getElem _⟩
theorem srv_rev {K : PySem.W.Frag} {G : Hp} {d : D} {v : V} {l : List D} {m : Nat} (r : Rep K G d v) (hm : m = l.length) : ∀ {a : Addr}, v = .ref a → Srv K G (if isTup d = true then ItvT K a m else Itv K a m) l.reverse (fun c' => seqOf c' d = some l) := by
  intro a ea i G1 c H le s e
  obtain ⟨a', vs, e1, h1, h2⟩ := seq_at s (Rep.mono le _ _ r) e
  rw [ea] at e1
  cases e1
  rcases h2 with ⟨ht, h2⟩ | ⟨ht, h2⟩
  · rw [if_pos ht]
    refine ⟨fun d' hd => ?_, fun hi => by show m ≤ i; rw [hm]; simpa using hi⟩
    obtain ⟨hi, hd⟩ := rev_get hd
    obtain ⟨u, hu, ru⟩ := h1.get hd
    rw [← hm] at hi hu
    refine ⟨⟨hi, vs, u, h2, hu⟩, fun x H' y => ?_⟩
    obtain ⟨rfl, y⟩ := y
    refine ⟨G1, s, Gr.refl, ?_⟩
    have := y vs h2
    rw [hu] at this
    cases this
    exact ru
  · rw [if_neg (by rw [ht]; exact Bool.false_ne_true)]
    refine ⟨fun d' hd => ?_, fun hi => by show m ≤ i; rw [hm]; simpa using hi⟩
    obtain ⟨hi, hd⟩ := rev_get hd
    obtain ⟨u, hu, ru⟩ := h1.get hd
    rw [← hm] at hi hu
    refine ⟨⟨hi, vs, u, h2, hu⟩, fun x H' y => ?_⟩
    obtain ⟨rfl, y⟩ := y
    refine ⟨G1, s, Gr.refl, ?_⟩
    have := y vs h2
    rw [hu] at this
    cases this
    exact ru
theorem ji_rev {tg : Expr} (hm : X.mg "reversed" = none) (ha : JE X W a wa) (hg : Gl X "reversed" := by rfl) (hs : starEach [a] X.env = (false, eval a X.env) :: starEach [] X.env := by rfl) : JI X W tg (.Call (.Name "reversed" p) [a] [] pos) (wRev wa) := by
  refine PI.of (RT.pi_revA hg hm ha hs) fun σ H R ⟨G, en, c, Q0, X0, s, er, q, x0, kk⟩ => ?_
  refine ⟨G, en, c, _, X0, s, er, q, x0, fun d c1 v H1 G1 q1 g1 s1 r1 => ?_⟩
  split at q1
  · rename_i l hl
    obtain ⟨a', vs, e1, h1, h2⟩ := seq_at s1 r1 hl
    have sv := srv_rev (m := vs.length) (l := l) r1 h1.length.symm e1
    refine ⟨a', vs, e1, ?_⟩
    rcases h2 with ⟨ht, h2⟩ | ⟨ht, h2⟩
    · rw [if_pos ht] at sv
      exact .inr ⟨h2, fun hh => kk _ _ c1 _ H1 G1 (q1 (seq_len s1 hh r1 hl)) g1 s1 sv⟩
    · rw [if_neg (by rw [ht]; exact Bool.false_ne_true)] at sv
      exact .inl ⟨h2, fun hh => kk _ _ c1 _ H1 G1 (q1 (seq_len s1 hh r1 hl)) g1 s1 sv⟩
  · exact q1.elim
/-- the values in the parameters' order -/
def permF {α : Type} (perm : List Nat) (l : List α) : List α := perm.filterMap fun i => l[i]?
theorem PK.of {kws : List Keyword} {t t' : TA} (h : PK X kws t) (k : ∀ σ H Q, t' σ H Q → t σ H Q) : PK X kws t' := ⟨fun pos pins s σ H Q I q => h.run pos pins s σ H Q I (k σ H Q q)⟩
def wCallK (np nk : Nat) (perm : List Nat) (n : Nat) (ct : Nat → Ctr) (k : Nat) (ws wk : WA) : WE := fun en c Q X => ws en c (fun ds c1 => wk en c1 (fun es c2 => ds.length = np ∧ es.length = nk ∧ (permF perm (ds ++ es)).length = n ∧ lvl ct k (permF perm (ds ++ es)) c2 Q (fun n d c3 => X n d en c3)) X) X
variable {np n : Nat} {ct : Nat → Ctr} {x : Str} {ks : List Str} {perm : List Nat} {kws : List Keyword}
end
def oSortedL : OpN := fun ds c Q => match ds with
  | [x] => ∃ ns : List Int, lstOf c x = some (ns.map .int) ∧ ∀ p, c p = none → Q (.ptr p) (cup c p (.lst ((isrt ns).map .int)))
  | _ => False
theorem c_sortedL {X : Cx} : CallD X (.builtin "sorted") oSortedL := by
  refine ⟨_, cr_sortedI, ?_⟩
  intro G c H ds vs Q0 Q s r q kk
  unfold oSortedL at q
  split at q
  · obtain ⟨v, rfl, r1⟩ := Reps.one' r
    obtain ⟨ns, e, q⟩ := q
    obtain ⟨a, rfl, h2⟩ := ints_at s r1 e
    refine ⟨a, ns, rfl, SqL.of h2, fun ns' p hp1 hp2 hp => ?_⟩
    rw [isrt_unique hp1 hp2]
    obtain ⟨hc, hg⟩ := s.free hp
    obtain ⟨s2, g2⟩ := s.newL (o := HO.lst ((isrt ns).map V.int)) (y := .lst ((isrt ns).map .int)) hp ⟨hg, _, upd_same, Reps.ints.mpr rfl⟩
    exact kk _ _ _ _ _ (q p hc) g2 s2 rfl
  · exact q.elim
section
variable {c : Cs} {Q : DK} {i : Int} {d : D} {p : Addr}
theorem e_srtL {ns : List Int} (q : ∀ p, c p = none → Q (.ptr p) (cup c p (.lst ((isrt ns).map .int)))) : oSortedL [.lst (ns.map .int)] c Q := ⟨ns, rfl, q⟩
theorem e_pop0 : oPop0 (.ptr p) [] c Q = (∃ l, c p = some (.lst l) ∧ ∃ d, l[l.length - 1]? = some d ∧ Q d (cup c p (.lst l.dropLast))) :=
  propext ⟨fun ⟨q, l, d, h, h2, h3⟩ => by obtain ⟨rfl, h⟩ := live_iff.mp h; exact ⟨l, h, d, h2, h3⟩, fun ⟨l, h, d, h2, h3⟩ => ⟨p, l, d, live_iff.mpr ⟨rfl, h⟩, h2, h3⟩⟩
theorem e_popAt : oPopAt (.ptr p) [.int i] c Q = (∃ l, c p = some (.lst l) ∧ ∃ d j, -(2 ^ 63) ≤ i ∧ i < 2 ^ 63 ∧ ixN l.length i = some j ∧ l[j]? = some d ∧ Q d (cup c p (.lst (l.eraseIdx j)))) :=
  propext ⟨fun ⟨q, l, d, j, h, h2⟩ => by obtain ⟨rfl, h⟩ := live_iff.mp h; exact ⟨l, h, d, j, h2⟩, fun ⟨l, h, d, j, h2⟩ => ⟨p, l, d, j, live_iff.mpr ⟨rfl, h⟩, h2⟩⟩
end
section
variable {c : Cs} {Q : DK} {p : Addr} {i : Int} {a b d e : D}
theorem e_tupP : oTuple [.ptr p] c Q = (∃ l, (c p).bind Cell.items = some l ∧ Q (.tup l) c) := by
  show (match seqOf c (.ptr p) with | some l => Q (.tup l) c | none => False) = _
  rw [e_seqP]
  cases (c p).bind Cell.items with
  | none => simp
  | some l => simp
theorem e_listP : oList [.ptr p] c Q = (∃ l, (c p).bind Cell.items = some l ∧ Q (.lst l) c) := by
  show (match seqOf c (.ptr p) with | some l => Q (.lst l) c | none => False) = _
  rw [e_seqP]
  cases (c p).bind Cell.items with
  | none => simp
  | some l => simp
theorem e_neN : oNe .non .non c Q = Q (.bl false) c := propext ⟨fun h => h.2.2, fun h => ⟨rfl, rfl, h⟩⟩
theorem e_neIN : oNe (.int i) .non c Q = Q (.bl true) c := propext ⟨fun h => h.2.2, fun h => ⟨rfl, rfl, h⟩⟩
theorem e_neNI : oNe .non (.int i) c Q = Q (.bl true) c := propext ⟨fun h => h.2.2, fun h => ⟨rfl, rfl, h⟩⟩
theorem e_eqIN : oEq (.int i) .non c Q = Q (.bl false) c := propext ⟨fun h => h.2.2, fun h => ⟨rfl, rfl, h⟩⟩
theorem e_eqNI : oEq .non (.int i) c Q = Q (.bl false) c := propext ⟨fun h => h.2.2, fun h => ⟨rfl, rfl, h⟩⟩
theorem dl1 : [a].dropLast = [] := rfl
theorem dl2 : [a, b].dropLast = [a] := rfl
theorem dl3 : [a, b, d].dropLast = [a, b] := rfl
theorem ix10 : ixN 1 0 = some 0 := rfl
theorem ix20 : ixN 2 0 = some 0 := rfl
theorem ix21 : ixN 2 1 = some 1 := rfl
end
end VL
namespace VL
open PySem PySem.Spec PyProof.Rows L2
def wSlL (wa : WE) (wl wh : WO) : WE := fun en c Q X => wa en c (fun x c1 => wl en c1 (fun lo c2 => wh en c2 (fun hi c3 => match lstOf c3 x with
  | some l => ∀ p, c3 p = none → Q (.ptr p) (cup c3 p (.lst (cutL l lo hi)))
  | none => False) X) X) X
mutual
inductive RdE (c : Cs) : D → D → Prop
  | non : RdE c .non .non
  | bl (b : Bool) : RdE c (.bl b) (.bl b)
  | int (i : Int) : RdE c (.int i) (.int i)
  | str (s : Str) : RdE c (.str s) (.str s)
  | tup {l m : List D} : RdsE c l m → RdE c (.tup l) (.tup m)
  | lst {l m : List D} : RdsE c l m → RdE c (.lst l) (.lst m)
  | ptr {p : Addr} {l m : List D} : (c p).bind Cell.items = some l → RdsE c l m → RdE c (.ptr p) (.lst m)
inductive RdsE (c : Cs) : List D → List D → Prop
  | nil : RdsE c [] []
  | cons {d e : D} {l m : List D} : RdE c d e → RdsE c l m → RdsE c (d :: l) (e :: m)
end
mutual
theorem RdE.self {c : Cs} : ∀ {d : D}, pl d = true → RdE c d d
  | .non, _ => .non
  | .bl b, _ => .bl b
  | .int i, _ => .int i
  | .str s, _ => .str s
  | .tup l, h => .tup (RdsE.self (l := l) (by simpa [pl] using h))
  | .lst l, h => .lst (RdsE.self (l := l) (by simpa [pl] using h))
  | .ptr _, h => by simp [pl] at h
  | .scr _, h => by simp [pl] at h
  | .ty _, h => by simp [pl] at h
theorem RdsE.self {c : Cs} : ∀ {l : List D}, pls l = true → RdsE c l l
  | [], _ => .nil
  | d :: l, h => by
    simp only [pls, Bool.and_eq_true] at h
    exact .cons (RdE.self h.1) (RdsE.self h.2)
end
theorem RdsE.len {c : Cs} : ∀ {l m : List D}, RdsE c l m → l.length = m.length
  | _, _, .nil => rfl
  | _, _, .cons _ h => by simp [h.len]
theorem RdsE.get {c : Cs} : ∀ {l m : List D}, RdsE c l m → ∀ {i : Nat} {d : D}, l[i]? = some d → ∃ e, m[i]? = some e ∧ RdE c d e
  | _, _, .nil, _, _, h => by simp at h
  | _, _, .cons r _, 0, _, h => by cases h; exact ⟨_, rfl, r⟩
  | _, _, .cons _ h, i + 1, _, e => by
    obtain ⟨z, h1, h2⟩ := h.get (i := i) (by simpa using e)
    exact ⟨z, by simpa using h1, h2⟩
theorem RdE.of_ptr {c : Cs} {p : Addr} {l : List D} (h : c p = some (.lst l)) (hp : pls l = true) : RdE c (.ptr p) (.lst l) := .ptr (by rw [h]; rfl) (RdsE.self hp)
theorem tyN_ptr {c : Cs} {p : Addr} {l : List D} (h : (c p).bind Cell.items = some l) : tyN c (.ptr p) = "list" := by
  show (match c p with | some (.lst _) => "list" | some (.fz _) => "list" | some (.dic _) => "dict" | _ => "") = "list"
  cases e : c p with
  | none => rw [e] at h; cases h
  | some x => cases x <;> rw [e] at h <;> first | rfl | cases h
section
variable {c : Cs} {Q : DK} {i : Int} {d : D} {p : Addr}
theorem e_rev : oReverse (.ptr p) [] c Q = (∃ l, c p = some (.lst l) ∧ Q .non (cup c p (.lst l.reverse))) :=
  propext ⟨fun ⟨q, l, h, h2⟩ => by obtain ⟨rfl, h⟩ := live_iff.mp h; exact ⟨l, h, h2⟩, fun ⟨l, h, h2⟩ => ⟨p, l, live_iff.mpr ⟨rfl, h⟩, h2⟩⟩
theorem e_clear : oClear (.ptr p) [] c Q = (∃ l, c p = some (.lst l) ∧ Q .non (cup c p (.lst []))) :=
  propext ⟨fun ⟨q, l, h, h2⟩ => by obtain ⟨rfl, h⟩ := live_iff.mp h; exact ⟨l, h, h2⟩, fun ⟨l, h, h2⟩ => ⟨p, l, live_iff.mpr ⟨rfl, h⟩, h2⟩⟩
end
section
variable {c : Cs} {Q : DK} {p q : Addr} {l : List D}
theorem e_addPP : oAdd (.ptr p) (.ptr q) c Q = (∃ a, (c p).bind Cell.items = some a ∧ ∃ b, (c q).bind Cell.items = some b ∧ a.length + b.length ≤ sizeLine ∧ Q (.lst (a ++ b)) c) := by
  show (match lstOf c (.ptr p), lstOf c (.ptr q) with | some a, some b => a.length + b.length ≤ sizeLine ∧ Q (.lst (a ++ b)) c | _, _ => False) = _
  rw [lst_ptr, lst_ptr]
  cases (c p).bind Cell.items <;> cases (c q).bind Cell.items <;> simp
theorem e_addPL : oAdd (.ptr p) (.lst l) c Q = (∃ a, (c p).bind Cell.items = some a ∧ a.length + l.length ≤ sizeLine ∧ Q (.lst (a ++ l)) c) := by
  show (match lstOf c (.ptr p), some l with | some a, some b => a.length + b.length ≤ sizeLine ∧ Q (.lst (a ++ b)) c | _, _ => False) = _
  rw [lst_ptr]
  cases (c p).bind Cell.items <;> simp
theorem e_addLP : oAdd (.lst l) (.ptr p) c Q = (∃ a, (c p).bind Cell.items = some a ∧ l.length + a.length ≤ sizeLine ∧ Q (.lst (l ++ a)) c) := by
  show (match some l, lstOf c (.ptr p) with | some a, some b => a.length + b.length ≤ sizeLine ∧ Q (.lst (a ++ b)) c | _, _ => False) = _
  rw [lst_ptr]
  cases (c p).bind Cell.items <;> simp
end
end VL
namespace VL
open PySem PySem.Spec PyProof.Rows L2
theorem split_take {α : Type} {l : List α} {i : Nat} {a : α} (h : l[i]? = some a) : l = l.take i ++ a :: l.drop (i + 1) ∧ l.take (i + 1) = l.take i ++ [a] := by
  obtain ⟨hi, rfl⟩ := List.getElem?_eq_some_iff.mp h
  refine ⟨?_, by rw [List.take_succ, h]; rfl⟩
  rw [← List.drop_eq_getElem_cons hi, List.take_append_drop]
section
variable {chk : Cs → Prop} {t : Tg} {wb : WS} {D0 : EndD} {X : XD} {α : Type}
/-- the next turn, whichever way -/
def Step (D1 D0 : EndD) (J : En → Cs → Prop) : Prop := (∀ en c, J en c → D1.nx en c) ∧ (∀ en c, J en c → D1.ct en c) ∧ D1.rt = D0.rt ∧ D1.bk = D0.nx
theorem loopP (enc : α → D) {as : List α} (I : List α → En → Cs → Prop) {en : En} {c : Cs} (h0 : I [] en c)
    (hs : ∀ pre a post en c, as = pre ++ a :: post → I pre en c → chk c ∧ ∃ en', bindT t (enc a) en = some en' ∧ ∀ D1 : EndD, Step D1 D0 (I (pre ++ [a])) → wb D1 X en' c)
    (hf : ∀ en c, I as en c → chk c ∧ D0.nx en c) : loopW chk t wb D0 X (as.map enc) en c := by
  refine loop_inv (fun i => I (as.take i)) (by simpa using h0) (fun i en c d hd hi => ?_) fun en c hi => hf en c (by simpa using hi)
  rw [List.getElem?_map] at hd
  cases ha : as[i]? with
  | none => rw [ha] at hd; cases hd
  | some a =>
    rw [ha] at hd
    cases hd
    obtain ⟨e1, e2⟩ := split_take ha
    obtain ⟨hc, en', hb, h⟩ := hs _ a _ en c e1 hi
    exact ⟨hc, en', hb, fun D1 a1 a2 a3 a4 => h D1 (by rw [← e2]; exact ⟨a1, a2, a3, a4⟩)⟩
variable {wt : WT} {we : WE} {vs : List Nat} {en : En} {fin : List D → Cs → Prop} {c : Cs}
/-- comprehensions over known things -/
theorem lcP (enc : α → D) {as : List α} (I : List α → List D → Cs → Prop) (h0 : I [] [] c)
    (hs : ∀ pre a post acc c, as = pre ++ a :: post → I pre acc c → chk c ∧ ∃ en', bindT t (enc a) (ewipe en vs) = some en' ∧ ∀ Nx : List D → Cs → Prop, (∀ acc c, I (pre ++ [a]) acc c → Nx acc c) →
      wt en' c (fun b c1 => if b = true then we en' c1 (fun y c2 => Nx (acc ++ [y]) c2) noX else Nx acc c1) noX)
    (hf : ∀ acc c, I as acc c → chk c ∧ fin acc c) : lcW chk t wt we vs en fin (as.map enc) [] c := by
  refine lc_inv (fun i => I (as.take i)) (by simpa using h0) (fun i acc c d hd hi => ?_) fun acc c hi => hf acc c (by simpa using hi)
  rw [List.getElem?_map] at hd
  cases ha : as[i]? with
  | none => rw [ha] at hd; cases hd
  | some a =>
    rw [ha] at hd
    cases hd
    obtain ⟨e1, e2⟩ := split_take ha
    obtain ⟨hc, en', hb, h⟩ := hs _ a _ acc c e1 hi
    exact ⟨hc, en', hb, fun Nx a1 => h Nx (by rw [← e2]; exact a1)⟩
theorem lcM (enc : α → D) {as : List α} (f : α → D) (hc : chk c) (hs : ∀ a, a ∈ as → ∃ en', bindT t (enc a) (ewipe en vs) = some en' ∧ ∀ Q : DK, Q (f a) c → we en' c Q noX) (hf : fin (as.map f) c) : lcW chk t wYes we vs en fin (as.map enc) [] c := by
  refine lcP enc (fun pre acc c' => acc = pre.map f ∧ c' = c) ⟨rfl, rfl⟩ ?_ ?_
  · rintro pre a post acc c' e ⟨rfl, rfl⟩
    obtain ⟨en', hb, h⟩ := hs a (by rw [e]; simp)
    exact ⟨hc, en', hb, fun Nx k => h _ (k _ _ ⟨by simp, rfl⟩)⟩
  · rintro acc c' ⟨rfl, rfl⟩
    exact ⟨hc, hf⟩
end
end VL
namespace VL
open PySem PySem.Spec PyProof.Rows L2
/-- f = d among the fields -/
def putD (f : Str) (d : D) : List (Str × D) → List (Str × D)
  | [] => [(f, d)]
  | (g, x) :: r => if g = f then (g, d) :: r else (g, x) :: putD f d r
section
variable {K : PySem.W.Frag} {G : Hp}
theorem RepF.get {f : Str} {d : D} : ∀ {fs : List (Str × D)} {fv : List (Str × V)}, RepF K G fs fv → fs.lookup f = some d → ∃ v, fv.lookup f = some v ∧ Rep K G d v
  | [], _, h, e => by cases e
  | (g, x) :: fs, _, ⟨v, r, ev, h1, h2⟩, e => by
    subst ev
    simp only [List.lookup] at e ⊢
    cases hb : f == g with
    | true =>
      rw [hb] at e
      cases e
      exact ⟨v, rfl, h1⟩
    | false =>
      rw [hb] at e
      exact RepF.get h2 e
theorem RepF.put {f : Str} {d : D} {y : V} (hy : Rep K G d y) : ∀ {fs : List (Str × D)} {fv : List (Str × V)}, RepF K G fs fv → RepF K G (putD f d fs) (putF f y fv)
  | [], _, h => by cases h; exact ⟨y, [], rfl, hy, rfl⟩
  | (g, x) :: fs, _, ⟨v, r, ev, h1, h2⟩ => by
    subst ev
    unfold putD putF
    by_cases hg : g = f
    · rw [if_pos hg, if_pos hg]
      exact ⟨y, r, rfl, hy, h2⟩
    · rw [if_neg hg, if_neg hg]
      exact ⟨v, _, rfl, h1, RepF.put hy h2⟩
end
section
variable {X : Cx} {W : WX} {o e value : Expr} {f : Str} {pos pos' tpos apos : Pos} {wo we wv : WE} {ws : WA} {es : List Expr}
/-- o.f -/
def wFld (C : Addr) (f : Str) (wo : WE) : WE := fun en c Q X => wo en c (fun d c1 => match d with
  | .ptr p => ∃ fs v, c1 p = some (.obj C fs) ∧ fs.lookup f = some v ∧ Q v c1
  | _ => False) X
/-- o.f = e -/
def sFldS (C : Addr) (f : Str) (wo we : WE) : WS := fun D X en c => we en c (fun y c1 => wo en c1 (fun d c2 => match d with
  | .ptr p => ∃ fs, c2 p = some (.obj C fs) ∧ fs.length < 1000 ∧ D.nx en (cup c2 p (.obj C (putD f y fs)))
  | _ => False) X) X
/-- o.f op= e -/
def sFldA (C : Addr) (f : Str) (o2 : Op2) (wo we : WE) : WS := fun D X en c => wo en c (fun d c1 => match d with
  | .ptr p => ∃ fs v, c1 p = some (.obj C fs) ∧ fs.lookup f = some v ∧ we en c1 (fun y c2 => o2 v y c2 fun z c3 => ∃ fs', c3 p = some (.obj C fs') ∧ fs'.length < 1000 ∧ D.nx en (cup c3 p (.obj C (putD f z fs')))) X
  | _ => False) X
/-- .., o.f, .. = -/
def gFld (C : Addr) (f : Str) (wo : WE) : WG := fun y en c Q X => wo en c (fun d c2 => match d with
  | .ptr p => ∃ fs, c2 p = some (.obj C fs) ∧ fs.length < 1000 ∧ Q en (cup c2 p (.obj C (putD f y fs)))
  | _ => False) X
def wMeth (C : Addr) (m : Str) (n : Nat) (ct : Nat → Ctr) (k : Nat) (wo : WE) (ws : WA) : WE := fun en c Q X => wo en c (fun d c1 => match d with
  | .ptr p => ∃ fs, c1 p = some (.obj C fs) ∧ fs.lookup m = none ∧ ws en c1 (fun ds c2 => ds.length + 1 = n ∧ lvl ct k (.ptr p :: ds) c2 Q (fun n d c3 => X n d en c3)) X
  | _ => False) X
def lvl2 (ct : Nat → Ctr) : Nat → Ctr
  | 0 => fun _ _ _ _ => False
  | k + 1 => lvl ct k
theorem lvl2_s {ct : Nat → Ctr} {k : Nat} : lvl2 ct (k + 1) = lvl ct k := rfl
def wMake (C : Addr) (n : Nat) (ct : Nat → Ctr) (k : Nat) (ws : WA) : WE := fun en c Q X => ws en c (fun ds c1 => ds.length + 1 = n ∧ ∀ p, c1 p = none → lvl2 ct k (.ptr p :: ds) (cup c1 p (.obj C [])) (fun d c2 => isNon d = true ∧ Q (.ptr p) c2) (fun n d c3 => X n d en c3)) X
end
end VL
namespace VL
open PySem PySem.Spec PyProof.Rows L2
section
variable {X : Cx}
def oMulT : Op2 := fun x y c Q => match x, y with
  | .tup l, .int k => l ≠ [] ∧ 0 ≤ k ∧ k ≤ 1000 ∧ l.length ≤ 1000 ∧ Q (.tup (List.replicate k.toNat l).flatten) c
  | _, _ => False
end
theorem e_mulT {l : List D} {i : Int} {c : Cs} {Q : DK} : oMulT (.tup l) (.int i) c Q = (l ≠ [] ∧ 0 ≤ i ∧ i ≤ 1000 ∧ l.length ≤ 1000 ∧ Q (.tup (List.replicate i.toNat l).flatten) c) := rfl
end VL
set_option maxHeartbeats 4000000
namespace VL
open PySem PySem.Spec PyProof.Rows L2
open Builtin Builtin.ObjectAttr
section
variable {X : Cx} {W : WX} {e : Expr} {ws : WA} {p p1 pos pos' : Pos} {n : Str} {b : EB} {k : Nat}
/-- raise n(e) -/
def sRaise (n : Str) (k : Nat) (ws : WA) : WS := fun _ X en c => 2 ≤ k ∧ ws en c (fun ds c1 => ∃ d, ds = [d] ∧ X n d en c1) X
end
end VL
set_option maxHeartbeats 4000000
namespace VL
open PySem PySem.Spec PyProof.Rows L2
/-- the names of an except clause's tuple, and what they stand for -/
inductive Nms (X : Cx) : List Expr → List Value → Prop
  | nil : Nms X [] []
  | cons {x : Str} {p : Pos} {c : Value} {es : List Expr} {cs : List Value} (hg : Gl X x) (hm : X.mg x = some c) (hd : (x == ("__debug__" : Str)) = false) (h : starEach (.Name x p :: es) X.env = (false, eval (.Name x p) X.env) :: starEach es X.env) (r : Nms X es cs) : Nms X (.Name x p :: es) (c :: cs)
theorem Nms.len {X : Cx} {es : List Expr} {cs : List Value} (h : Nms X es cs) : cs.length = es.length := by
  induction h with
  | nil => rfl
  | cons _ _ _ _ _ ih => simp [ih]
end VL
set_option maxHeartbeats 4000000
namespace VL
open PySem PySem.Spec PyProof.Rows L2
instance decEB : DecidableEq EB := fun a b => by
  cases a <;> cases b <;> first | exact isTrue rfl | exact isFalse (fun h => by cases h)
section
variable {K : W.Frag}
theorem ExcK.sub {n m : Str} {b b' : EB} {C D : Addr} (T : ExcK K n b C) (T' : ExcK K m b' D) : W.subIn K (.ref C) (.ref D) = some (decide (C = D)) := by
  obtain ⟨cd, h1, h2⟩ := Option.map_eq_some_iff.mp T.mro
  show W.mroIn K C (.ref D) = _
  unfold W.mroIn
  rw [h1, Option.bind_some, h2]
  have e0 : (Value.ref C :: b.tl).isEmpty = false := rfl
  have e1 : (Value.ref C :: b.tl).contains (.ref D) = decide (C = D) := by
    rw [List.contains_cons]
    have e2 : b.tl.contains (.ref D) = false := by cases b <;> rfl
    rw [e2, Bool.or_false]
    by_cases h : C = D
    · subst h
      simp
    · have h' : Value.ref D ≠ Value.ref C := fun z => h (Value.ref.inj z).symm
      rw [decide_eq_false h]
      exact beq_eq_false_iff_ne.mpr h'
  rw [if_neg (by rw [e0]; decide), e1]
theorem ExcK.inj {n : Str} {b b' : EB} {C D : Addr} (T : ExcK K n b C) (T' : ExcK K n b' D) : C = D := by
  have h1 := T.ns
  rw [T'.ns] at h1
  exact (Value.ref.inj (Option.some.inj (Option.some.inj h1))).symm
end
/-- what's kept at a -/
def KeptAt (K : W.Frag) (H : Hp) (a C : Addr) (u : V) : Prop := ∃ dd, H a = some (exH a C dd) ∧ H dd = some (.xd [(("what" : Str), u)])
theorem SR.kept {K : W.Frag} {G : Hp} {c : Cs} {H : Hp} {p : Addr} {n : Str} {b : EB} {d : D} (s : SR K G c H) (h : c p = some (.exc n b d)) : ∃ C u, ExcK K n b C ∧ KeptAt K H p C u ∧ Rep K G d u := by
  obtain ⟨C, dd, u, k, e1, e2, r⟩ := s.at_ _ _ h
  exact ⟨C, u, k, ⟨dd, s.sub _ _ e1, s.sub _ _ e2⟩, r⟩
section
variable {X : Cx} {W0 : WX} {e t : Expr} {we : WE} {p p1 p2 pos : Pos} {pb : Str}
/-- a class of the module's own, by its name -/
def wIsX (P : Str → EB → Bool) (we : WE) : WE := fun en c Q X => we en c (fun d c1 => match d with
  | .ptr a => ∃ n b x, c1 a = some (.exc n b x) ∧ Q (.bl (P n b)) c1
  | _ => False) X
/-- .what -/
def wWhat (we : WE) : WE := fun en c Q X => we en c (fun d c1 => match d with
  | .ptr a => ∃ n b x, c1 a = some (.exc n b x) ∧ Q x c1
  | _ => False) X
end
/-- isinstance(e, (A, B, ..)), the module's own ones -/
inductive Owns (X : Cx) : List Expr → List Str → List Addr → Prop
  | nil : Owns X [] [] []
  | cons {y : Str} {p : Pos} {C : Addr} {b : EB} {es : List Expr} {ys : List Str} {cs : List Addr} (T : ExcK X.K y b C) (hm : X.mg y = some (.ref C)) (hg : Gl X y) (hd : (y == ("__debug__" : Str)) = false) (hs : starEach (.Name y p :: es) X.env = (false, eval (.Name y p) X.env) :: starEach es X.env) (r : Owns X es ys cs) : Owns X (.Name y p :: es) (y :: ys) (C :: cs)
theorem Owns.len {X : Cx} {es : List Expr} {ys : List Str} {cs : List Addr} (h : Owns X es ys cs) : cs.length = es.length := by
  induction h with
  | nil => rfl
  | cons _ _ _ _ _ _ ih => simp [ih]
section
variable {K : W.Frag}
theorem SR.keep {G : Hp} {c : Cs} {H : Hp} {a C dd : Addr} {n : Str} {b : EB} {d : D} {u : V} (x : SR K G c H) (h : H a = none) (T : ExcK K n b C) (hd : G dd = some (.xd [(("what" : Str), u)])) (r : Rep K G d u) :
    SR K (upd G a (exH a C dd)) (cup c a (.exc n b d)) (upd H a (exH a C dd)) ∧ Gr G c H (upd G a (exH a C dd)) (cup c a (.exc n b d)) (upd H a (exH a C dd)) := by
  obtain ⟨s1, g1⟩ := x.newG (o := exH a C dd) h
  obtain ⟨hc, hg⟩ := x.free h
  refine ⟨⟨s1.sub, fun p y e => ?_⟩, ⟨g1.g, g1.keep, fun p e => ?_, g1.ng⟩⟩
  · by_cases hp : p = a
    · subst hp
      rw [cup_same] at e
      cases e
      refine ⟨C, dd, u, T, upd_same, ?_, Rep.mono g1.g _ _ r⟩
      rw [upd_ne (ne_of_none hd hg)]
      exact hd
    · rw [cup_ne hp] at e
      exact s1.at_ p y e
  · by_cases hp : p = a
    · subst hp
      exact .inr h
    · rw [cup_ne hp] at e
      exact .inl e
end
/-- try: body, except (..) as x: y = x; i is x's slot, j is y's -/
def sTry (ns : List (Str × EB)) (i j : Nat) (wb : WS) : WS := fun D _ en c => wb D (fun n d en' c' => ∃ b, (n, b) ∈ ns ∧ ∀ a, c' a = none → D.nx (((en'.set i (some (.ptr a))).set j (some (.ptr a))).set i none) (cup c' a (.exc n b d))) en c
end VL
set_option maxHeartbeats 4000000
namespace VL
open PySem PySem.Spec PyProof.Rows L2
section
variable {X : Cx} {W : WX} {e : Expr} {we : WE} {k : Nat} {p1 p2 p3 pos : Pos}
def wBack (we : WE) : WE := fun en c Q X => we en c (fun d c1 => match lstOf c1 d with
  | some l => Q (.lst l.reverse) c1
  | none => False) X
theorem je_back (he : JE X W e we) : JE X W (.Subscript e (.Slice none none (some (.UnaryOp .USub (.Constant (.int 1) k p1) p2)) p3) pos) (wBack we) := by
  refine PE.of (pe_revL he) fun σ H Q ⟨G, en, c, Q0, X0, s, er, q, x0, kk⟩ => ?_
  refine ⟨G, en, c, _, X0, s, er, q, x0, fun d1 c1 v1 H1 G1 q1 g1 s1 r1 => ?_⟩
  split at q1
  · rename_i l e
    obtain ⟨a, vs, e1, h1, h2⟩ := lst_at s1 r1 e
    refine ⟨a, vs, e1, SqL.of h1, fun p hp => ?_⟩
    obtain ⟨s2, g2⟩ := s1.newG (o := HO.lst vs.reverse) hp
    exact kk _ c1 _ _ _ q1 (g1.trans g2) s2 ⟨p, _, rfl, upd_same, Reps.rev (Reps.mono g2.g _ _ h2)⟩
  · exact q1.elim
def oMulV : Op2 := fun x y c Q => match lstOf c x, y with
  | some l, .int k => -(2 ^ 63) ≤ k ∧ k < 2 ^ 63 ∧ l.length * k.toNat ≤ sizeLine ∧ ∀ p, c p = none → Q (.ptr p) (cup c p (.lst (List.replicate k.toNat l).flatten))
  | _, _ => False
end
theorem e_mulV {l : List D} {i : Int} {c : Cs} {Q : DK} : oMulV (.lst l) (.int i) c Q = (-(2 ^ 63) ≤ i ∧ i < 2 ^ 63 ∧ l.length * i.toNat ≤ sizeLine ∧ ∀ p, c p = none → Q (.ptr p) (cup c p (.lst (List.replicate i.toNat l).flatten))) := rfl
theorem lo_lst {c : Cs} {l : List D} : lstOf c (.lst l) = some l := rfl
end VL
set_option maxHeartbeats 4000000
namespace VL
open PySem PySem.Spec PyProof.Rows L2
inductive Fars (X : Cx) : List Expr → List String → Prop
  | nil : Fars X [] []
  | cons {y : Str} {p : Pos} {T : String} {es : List Expr} {ts : List String} (hm : X.mg y = none) (hb : bootBuiltins y = some (.type T)) (hk : W.kitMeta T = true) (hf : ∀ b : EB, b.tl.contains (.type T) = false) (hg : Gl X y) (hn : y ≠ "__name__") (hd : (y == ("__debug__" : Str)) = false) (hs : starEach (.Name y p :: es) X.env = (false, eval (.Name y p) X.env) :: starEach es X.env) (r : Fars X es ts) : Fars X (.Name y p :: es) (T :: ts)
theorem Fars.len {X : Cx} {es : List Expr} {ts : List String} (h : Fars X es ts) : ts.length = es.length := by
  induction h with
  | nil => rfl
  | cons _ _ _ _ _ _ _ _ _ ih => simp [ih]
end VL
set_option maxHeartbeats 4000000
set_option maxHeartbeats 4000000
set_option maxHeartbeats 4000000
namespace VL
open PySem PySem.Spec PyProof.Rows L2
section
variable {P : Program} {w : World} {A : Around} {E : Value → Shared → Prop} {s : Shared}
/-- what fills a set: its result -/
def fills (R : Result → Shared → Prop) (P : Program) (w : World) (A : Around) : Fin → Shared → Prop := fun fin s' => match fin with
  | .done f => R (.ok f) s'
  | .again c' => c'.quiet = true ∧ codeAny (model P w) A c' R s'
/-- an empty set S is filled from a list of ints -/
theorem fill_list {S l : Addr} {items : Array Value} {ns : List Int} {R : Result → Shared → Prop} (hh : A.handled = none) (hS : s.heap.get? S = some { cls := .type "set", dict := none, data := .set #[] 0 (.fresh 0 0 (!w.params.followText "set-order")) })
    (hl : s.heap.IsList l items) (hi : IntsAre items.toList ns) (hb : ns.length + 1 < scanBound)
    (q : ∀ h' tk c, SetR w h' S (fun j => decide (j ∈ ns)) c → c ≤ ns.length → (∀ b o, b ≠ S → s.heap.get? b = some o → h'.get? b = some o) → R (.ok (.ret .none)) { s with heap := h', toks := tk }) :
    wpAny (model P w) A.in1.in1 (Builtin.«set.__init__» ⟨[.ref S, .ref l], []⟩) (fills R P w A.in1) (fun e s' => R (.error e) s') s := by
  have hlen : items.size = ns.length := by
    have z := IntsAre.length hi
    rwa [Array.length_toList] at z
  obtain ⟨⟨kls, dct, dat, sls⟩, hg, hk, m, hd⟩ := id hl
  simp only at hk hd
  subst hk hd
  have s1 := F.sub_list_set
  have s2 := F.sub_list_frozenset
  have s3 : (Value.type "list" == Value.type "dict") = false := by decide
  have hlS : l ≠ S := fun e => by
    rw [e, hS] at hg
    have z := congrArg (Option.map Obj.cls) hg
    simp at z
  have ltl : l < s.heap.objs.size := Heap.lt_size hg
  have ltS : S < s.heap.objs.size := Heap.lt_size hS
  unfold Builtin.«set.__init__» noKeywords Builtin.Frozenset.updateFrom
  generalize hPI : pyIter = PI
  wp_walk
  subst hPI
  refine wpAny_pyIter_list hl (wpAny_bind (wpAny_runValue ?_))
  refine set_update_ints ((Walks.list (A := A.in1.in1.in1) (by simp [hh]) _ l (Nat.ne_of_lt ltl) items).toS) S ?_ ns hlen hb (fun i v hv => ?_) items.size 0 _ (Nat.sub_zero _) (Nat.zero_le _) ⟨⟨_, Heap.get?_push_size _ rfl, rfl, rfl⟩, hl.push _⟩ ⟨0, Nat.le_refl 0, setR_new_at (Heap.get?_push_of_some _ hS)⟩ fun s' c' hm hc' hR => ?_
  · simp only [List.mem_cons, List.not_mem_nil, or_false, not_or]
    exact ⟨Nat.ne_of_lt ltS, Ne.symm hlS⟩
  · have lt : i < ns.length := by rw [← hlen]; exact (Array.getElem?_eq_some_iff.mp hv).1
    obtain ⟨t, e⟩ := PyProof.Rows.IntsAre.int_at hi i v (by rw [Array.getElem?_toList]; exact hv)
    refine ⟨ns[i], t, List.getElem?_eq_getElem lt, ?_⟩
    rw [e, List.getD_eq_getElem?_getD, List.getElem?_eq_getElem lt]
    rfl
  · have es : s' = { s with heap := s'.heap, toks := s'.toks } := by
      have a1 := hm.gens
      have a2 := hm.drawn
      have a3 := hm.os
      cases s'
      cases s
      simp only at a1 a2 a3
      subst a2 a3
      cases a1
      rfl
    show wpAny _ _ _ _ _ _
    refine wpAny_pure ?_
    show wpAny _ _ (ret Value.none) _ _ _
    refine wpAny_pure ?_
    show R _ _
    rw [es]
    rw [hlen] at hc'
    refine q _ _ c' hR hc' fun b o hbS e => hm.heap b o ?_ (Heap.get?_push_of_some _ e)
    simp only [List.mem_cons, List.not_mem_nil, or_false, not_or]
    exact ⟨hbS, Nat.ne_of_lt (Heap.lt_size e)⟩
/-- the object of an empty set -/
abbrev emptyS (w : World) : Obj := { cls := .type "set", dict := none, data := .set #[] 0 (.fresh 0 0 (!w.params.followText "set-order")) }
set_option maxHeartbeats 3200000 in
/-- set(xs) -/
theorem set_list {l : Addr} {items : Array Value} {ns : List Int} {Q : Value → Shared → Prop} (hh : A.handled = none) (hl : s.heap.IsList l items) (hi : IntsAre items.toList ns) (hb : ns.length + 1 < scanBound)
    (q : ∀ h' tk c, SetR w h' s.heap.objs.size (fun j => decide (j ∈ ns)) c → c ≤ ns.length → (∀ b o, s.heap.get? b = some o → h'.get? b = some o) → Q (.ref s.heap.objs.size) { s with heap := h', toks := tk }) :
    wpAny (model P w) A (call (.type "set") [.ref l]) Q E s := by
  have T := F.called_set
  obtain ⟨c, tl, t1⟩ := T.mro
  have t2 := T.made
  have t3 := T.sub
  have t4 := T.notType
  have t5 := T.canCreate
  have t6 := F.typeCall_set_1 (.ref l)
  refine wpAny_call (codeAny_of_tree ?_)
  show wpAny _ _ (callAny (.type "set") _) _ _ _
  refine wpAny_pure ⟨Code.quiet_builtin _ (by decide +kernel), codeAny_builtin F.entry_type_call ?_⟩
  rw [Around.under_plain (weight_type_call_type "set" [.ref l] []) rfl]
  repeat (any_goals (first | assumption | wp_step))
  refine codeAny_mono (code_set_led1 (.ref l) (E := E) (Q₁ := fun v s1 => v = .ref s.heap.objs.size ∧ s1 = { s with heap := s.heap.push (emptyS w) }) ⟨rfl, rfl⟩) fun r s1 hr => ?_
  rcases r with e | f
  · exact hr
  · cases f with
    | ret v =>
      obtain ⟨rfl, rfl⟩ := hr
      have hS : (s.heap.push (emptyS w)).get? s.heap.objs.size = some (emptyS w) := Heap.get?_push_size _ rfl
      have t7 : Shared.TypeIs { s with heap := s.heap.push (emptyS w) } (.ref s.heap.objs.size) "set" := ⟨_, hS, rfl⟩
      have t8 := T.init.lookup
      have t9 := T.init.bind (.ref s.heap.objs.size)
      repeat (any_goals (first | assumption | wp_step))
      refine codeAny_mono (codeAny_call_builtin (R := wants (fun r s2 => r = .none ∧ ∃ h' tk c, s2 = { s with heap := h', toks := tk } ∧ SetR w h' s.heap.objs.size (fun j => decide (j ∈ ns)) c ∧ c ≤ ns.length ∧ ∀ b o, s.heap.get? b = some o → h'.get? b = some o) E) T.init.plain F.entry_set_init (check_set_init_1 t7 ?_)) fun r2 s2 hr2 => ?_
      · refine fill_list (R := wants _ E) hh hS (hl.push _) hi hb fun h' tk c hR hc hk => ⟨rfl, h', tk, c, rfl, hR, hc, fun b o e => hk b o (Nat.ne_of_lt (Heap.lt_size e)) (Heap.get?_push_of_some _ e)⟩
      · rcases r2 with e | f2
        · exact hr2
        · cases f2 with
          | ret v2 =>
            obtain ⟨rfl, h', tk, c, rfl, hR, hc, hk⟩ := hr2
            repeat (any_goals (first | assumption | wp_step))
            exact q h' tk c hR hc hk
          | _ => exact hr2.elim
    | _ => exact hr.elim
end
end VL
namespace VL
open PySem PySem.Spec PyProof.Rows L2
/-- the objects at T are known -/
def keepT (h : Heap) (T : List Addr) (H : Hp) : Hp := fun b => if b ∈ T then (h.get? b).map frzO else H b
def dropT (T : List Addr) (H : Hp) : Hp := fun b => if b ∈ T then none else H b
theorem keepT_in {h : Heap} {T : List Addr} {H : Hp} {b : Addr} (m : b ∈ T) : keepT h T H b = (h.get? b).map frzO := if_pos m
theorem frzO_at {P : Program} {w : World} {H : Hp} {h : Heap} {b : Addr} {o : Obj} (x : HOk P w H h) (e : H b = some (frzO o)) : h.get? b = some o := (x b _ e).1
section
variable {K : PySem.W.Frag} {G G' H H' : Hp} {T : List Addr}
/-- G' is G without known things -/
def Less (G G' : Hp) : Prop := ∀ b o, G b = some o → (∀ x, o ≠ frzO x) → G' b = some o
theorem Less.rd {xs : List V} (L : Less G G') {a : Addr} (h : SqL K G a xs) : SqL K G' a xs := by
  rcases h with (h | ⟨o, h⟩) | h
  · exact .inl (.inl (L _ _ h (fun x z => nomatch z)))
  · exact .inl (.inr ⟨o, L _ _ h (fun x z => nomatch z)⟩)
  · exact .inr h
mutual
theorem Rep.less (L : Less G G') : ∀ (d : D) (v : V), Rep K G d v → Rep K G' d v
  | .non, _, h => h
  | .bl _, _, h => h
  | .int _, _, h => h
  | .str _, _, h => h
  | .ptr _, _, h => h
  | .ty _, _, h => h
  | .tup ds, v, h => by
    obtain ⟨a, vs, e, hs, hr⟩ := h
    exact ⟨a, vs, e, L _ _ hs (fun x z => nomatch z), Reps.less L ds vs hr⟩
  | .lst ds, v, h => by
    obtain ⟨a, vs, e, hs, hr⟩ := h
    exact ⟨a, vs, e, L _ _ hs (fun x z => nomatch z), Reps.less L ds vs hr⟩
  | .scr ns, v, h => by
    obtain ⟨a, e, hs⟩ := h
    exact ⟨a, e, L.rd hs⟩
theorem Reps.less (L : Less G G') : ∀ (ds : List D) (vs : List V), Reps K G ds vs → Reps K G' ds vs
  | [], _, h => h
  | d :: ds, vs, h => by
    obtain ⟨v, r, e, h1, h2⟩ := h
    exact ⟨v, r, e, Rep.less L d v h1, Reps.less L ds r h2⟩
end
theorem RepF.less (L : Less G G') : ∀ {fs : List (Str × D)} {fv : List (Str × V)}, RepF K G fs fv → RepF K G' fs fv
  | [], _, h => h
  | (f, d) :: fs, _, ⟨v, r, e, h1, h2⟩ => ⟨v, r, e, Rep.less L _ _ h1, RepF.less L h2⟩
theorem GdR.less (L : Less G G') : ∀ {l : List (D × D)} {xs : List (NestedKey × Addr × V)}, GdR K G l xs → GdR K G' l xs
  | [], _, h => h
  | (d, e) :: l, _, ⟨k, b, v, r, e1, h1, h2, h3, h4, h5⟩ => ⟨k, b, v, r, e1, h1, h2, Rep.less L _ _ h3, Rep.less L _ _ h4, GdR.less L h5⟩
theorem RepK.less {κ : Type} (L : Less G G') {l : List (κ × D)} {l' : List (κ × V)} (h : RepK K G l l') : RepK K G' l l' := let ⟨vs, r, e⟩ := h; ⟨vs, Reps.less L _ _ r, e⟩
end
end VL
set_option maxHeartbeats 2000000
set_option maxHeartbeats 2000000
namespace VL
open PySem PySem.Spec PyProof.Rows L2 LamX
section
variable {Y : Cx} {pins : List (Addr × Obj)} {σ : L2.St} {H : Hp} {s : Shared} {T : List Addr}
/-- the cells, for the time of the body -/
structure Cells (Y : Cx) (s : Shared) (H : Hp) (T : List Addr) : Prop where
  at_ : ∀ b ∈ T, ∃ o, H b = some (frzO o)
theorem Cells.get (F : Cells Y s H T) (I : Inv Y pins σ H s) {b : Addr} (m : b ∈ T) : ∃ o, H b = some (frzO o) ∧ s.heap.get? b = some o := let ⟨o, e⟩ := F.at_ b m; ⟨o, e, frzO_at I.hok e⟩
theorem Cells.keep (F : Cells Y s H T) (I : Inv Y pins σ H s) {b : Addr} (m : b ∈ T) : keepT s.heap T (dropT T H) b = H b := by
  obtain ⟨o, e1, e2⟩ := F.get I m
  rw [keepT_in m, e2, e1]; rfl
end
end VL
set_option maxHeartbeats 2000000
set_option maxHeartbeats 2000000
set_option maxHeartbeats 2000000
set_option maxHeartbeats 4000000
set_option maxHeartbeats 4000000
namespace VL
open PySem PySem.Spec PyProof.Rows L2
def lexLe (x y : Int × Int) : Prop := x.1 < y.1 ∨ x.1 = y.1 ∧ x.2 ≤ y.2
def prD (e : Int × Int) : D := .tup [.int e.1, .int e.2]
def wSrtIt (we : WE) : WE := fun en c Q X => we en c (fun d c1 => ∃ (p : Addr) (l : List (Int × Int)), d = .ptr p ∧ c1 p = some (.dic (l.map fun e => (Sum.inl e.1, D.int e.2))) ∧
  ∀ (ms : List (Int × Int)) (q : Addr), ms.Perm l → ms.Pairwise lexLe → c1 q = none → Q (.ptr q) (cup c1 q (.lst (ms.map prD)))) X
end VL
set_option maxHeartbeats 4000000
set_option maxHeartbeats 4000000
set_option maxHeartbeats 4000000
namespace VL
open PySem PySem.Spec PyProof.Rows L2
mutual
/-- a value that is a key, by what is known of the heap -/
def NkH (H : Hp) : NestedKey → V → Prop
  | .none, v => v = .non
  | .num i, v => v = .int i
  | .text _, _ => False
  | .tup ks, v => ∃ a vs, v = .ref a ∧ H a = some (.tup vs) ∧ NksH H ks vs
def NksH (H : Hp) : List NestedKey → List V → Prop
  | [], vs => vs = []
  | k :: ks, vs => ∃ v r, vs = v :: r ∧ NkH H k v ∧ NksH H ks r
end
mutual
theorem nk_rep {K : PySem.W.Frag} {G H : Hp} (g : Le G H) : ∀ (d : D) (k : NestedKey) (v : V), nkD d = some k → Rep K G d v → NkH H k v
  | .non, k, v, h, r => by simp only [nkD, Option.some.injEq] at h; subst h; exact r
  | .int i, k, v, h, r => by simp only [nkD, Option.some.injEq] at h; subst h; exact r
  | .tup l, k, v, h, r => by
    simp only [nkD, Option.map_eq_some_iff] at h
    obtain ⟨ks, h1, rfl⟩ := h
    obtain ⟨a, vs, e, ht, hr⟩ := r
    exact ⟨a, vs, e, g _ _ ht, nks_rep g l ks vs h1 hr⟩
  | .bl _, _, _, h, _ => by simp [nkD] at h
  | .str _, _, _, h, _ => by simp [nkD] at h
  | .lst _, _, _, h, _ => by simp [nkD] at h
  | .ptr _, _, _, h, _ => by simp [nkD] at h
  | .scr _, _, _, h, _ => by simp [nkD] at h
  | .ty _, _, _, h, _ => by simp [nkD] at h
theorem nks_rep {K : PySem.W.Frag} {G H : Hp} (g : Le G H) : ∀ (l : List D) (ks : List NestedKey) (vs : List V), nkDs l = some ks → Reps K G l vs → NksH H ks vs
  | [], ks, vs, h, r => by simp only [nkDs, Option.some.injEq] at h; subst h; exact r
  | d :: l, ks, vs, h, r => by
    obtain ⟨v, w, rfl, r1, r2⟩ := r
    unfold nkDs at h
    split at h
    · rename_i k ks' h1 h2
      cases h
      exact ⟨v, w, rfl, nk_rep g d k v h1 r1, nks_rep g l ks' w h2 r2⟩
    · cases h
end
mutual
theorem nk_is {P : Program} {w : World} {H : Hp} {h : Heap} (ok : HOk P w H h) : ∀ (k : NestedKey) (v : V) (u : Value), NkH H k v → RelV v u → NestedIs h k u
  | .none, v, u, hk, r => by subst hk; cases r; exact .none
  | .num i, v, u, hk, r => by subst hk; obtain ⟨t, rfl⟩ := r; exact .int i t
  | .text _, _, _, hk, _ => hk.elim
  | .tup ks, v, u, hk, r => by
    obtain ⟨a, vs, rfl, ht, hks⟩ := hk
    cases r
    obtain ⟨_, its, rv, o, ho, hc, n, hd⟩ := (show ObjOk P w H h a (.tup vs) from ok a _ ht)
    exact .tup ho hc hd (by rw [List.toList_toArray]; exact nks_is ok ks vs its hks rv)
theorem nks_is {P : Program} {w : World} {H : Hp} {h : Heap} (ok : HOk P w H h) : ∀ (ks : List NestedKey) (vs : List V) (us : List Value), NksH H ks vs → Vals vs us → NestedAll h ks us
  | [], vs, us, hk, r => by subst hk; cases r; exact .nil
  | k :: ks, vs, us, hk, r => by
    obtain ⟨v, w', rfl, h1, h2⟩ := hk
    cases r with
    | cons r1 r2 => exact .cons (nk_is ok k v _ h1 r1) (nks_is ok ks w' _ h2 r2)
end
/-- the keys are keys -/
def KeysH (H : Hp) (xs : List (NestedKey × Addr × V)) : Prop := ∀ e ∈ xs, NkH H e.1 (.ref e.2.1) ∧ e.1.depth ≤ 8
theorem GdR.keys {K : PySem.W.Frag} {G H : Hp} (g : Le G H) : ∀ {l : List (D × D)} {xs : List (NestedKey × Addr × V)}, GdR K G l xs → KeysH H xs
  | [], xs, h => by cases h; intro e he; cases he
  | (d, e) :: l, xs, ⟨k, b, v, r, e1, h1, h2, h3, h4, h5⟩ => by
    subst e1
    intro x hx
    rcases List.mem_cons.mp hx with rfl | hx
    · exact ⟨nk_rep g d k _ h1 h3, h2⟩
    · exact GdR.keys g h5 x hx
section
variable {K : PySem.W.Frag} {G : Hp}
theorem GdR.len : ∀ {l : List (D × D)} {xs : List (NestedKey × Addr × V)}, GdR K G l xs → xs.length = l.length
  | [], _, h => by cases h; rfl
  | (d, e) :: l, _, ⟨k1, b, v, r, e1, h1, h2, h3, h4, h5⟩ => by subst e1; simp [GdR.len h5]
end
end VL
set_option maxHeartbeats 4000000
namespace VL
open PySem PySem.Spec PyProof.Rows L2 RZ
theorem GdR.at_ {K : PySem.W.Frag} {G : Hp} : ∀ {l : List (D × D)} {xs : List (NestedKey × Addr × V)} {i : Nat} {x : NestedKey × Addr × V}, GdR K G l xs → xs[i]? = some x → ∃ e, l[i]? = some e ∧ Rep K G e.1 (.ref x.2.1)
  | [], _, _, _, h, hx => by cases h; simp at hx
  | (d, e) :: l, _, 0, x, ⟨k1, b, v, r, e1, h1, h2, h3, h4, h5⟩, hx => by
    subst e1
    obtain rfl := Option.some.inj hx
    exact ⟨(d, e), rfl, h3⟩
  | (d, e) :: l, _, i + 1, x, ⟨k1, b, v, r, e1, h1, h2, h3, h4, h5⟩, hx => by
    subst e1
    exact GdR.at_ (i := i) h5 hx
end VL
set_option maxHeartbeats 2000000
namespace VL
open PySem PySem.Spec PyProof.Rows L2
def MaskG (m : Nat) : Prop := m = 7 ∨ m = 31 ∨ m = 127 ∨ m = 511 ∨ m = 2047
/-- the slots met, as bits -/
def orbA (m : Nat) : Nat → Nat → Nat → Nat
  | 0, _, acc => acc
  | n + 1, x, acc => orbA m n ((x * 5 + 1) % (m + 1)) (acc ||| (1 <<< x))
theorem lcgI_next (m x : Nat) : ∀ b, lcgI m ((x * 5 + 1) % (m + 1)) b = lcgI m x (b + 1)
  | 0 => rfl
  | b + 1 => by
    show (lcgI m ((x * 5 + 1) % (m + 1)) b * 5 + 1) % (m + 1) = (lcgI m x (b + 1) * 5 + 1) % (m + 1)
    rw [lcgI_next m x b]
theorem orb_met (m j : Nat) : ∀ (n x acc : Nat), (orbA m n x acc).testBit j = true → acc.testBit j = true ∨ ∃ b, b < n ∧ lcgI m x b = j
  | 0, x, acc, h => .inl h
  | n + 1, x, acc, h => by
    rcases orb_met m j n _ _ h with h | ⟨b, hb, e⟩
    · rw [Nat.testBit_or, Bool.or_eq_true] at h
      rcases h with h | h
      · exact .inl h
      · refine .inr ⟨0, Nat.succ_pos _, ?_⟩
        rw [Nat.one_shiftLeft, Nat.testBit_two_pow] at h
        exact (by simpa using h : x = j)
    · exact .inr ⟨b + 1, by omega, by rw [← lcgI_next]; exact e⟩
theorem orb_7 : orbA 7 8 0 0 = 2 ^ 8 - 1 := by decide +kernel
theorem orb_31 : orbA 31 32 0 0 = 2 ^ 32 - 1 := by decide +kernel
theorem orb_127 : orbA 127 128 0 0 = 2 ^ 128 - 1 := by decide +kernel
theorem orb_511 : orbA 511 512 0 0 = 2 ^ 512 - 1 := by decide +kernel
theorem orb_2047 : orbA 2047 2048 0 0 = 2 ^ 2048 - 1 := by decide +kernel
theorem orb_all {m : Nat} (hm : MaskG m) {j : Nat} (hj : j ≤ m) : ∃ b, b ≤ m ∧ lcgI m 0 b = j := by
  have key : orbA m (m + 1) 0 0 = 2 ^ (m + 1) - 1 := by
    rcases hm with e | e | e | e | e <;> subst e
    · exact orb_7
    · exact orb_31
    · exact orb_127
    · exact orb_511
    · exact orb_2047
  have h : (orbA m (m + 1) 0 0).testBit j = true := by
    rw [key, Nat.testBit_two_pow_sub_one]
    exact decide_eq_true (by omega)
  rcases orb_met m j _ _ _ h with h | ⟨b, hb, e⟩
  · simp at h
  · exact ⟨b, by omega, e⟩
theorem orb_round {m : Nat} (hm : MaskG m) : lcgI m 0 (m + 1) = 0 := by
  rcases hm with e | e | e | e | e <;> subst e <;> decide +kernel
theorem lcgI_sum (m x a : Nat) : ∀ k, lcgI m (lcgI m x a) k = lcgI m x (a + k)
  | 0 => rfl
  | k + 1 => by
    show (lcgI m (lcgI m x a) k * 5 + 1) % (m + 1) = (lcgI m x (a + k) * 5 + 1) % (m + 1)
    rw [lcgI_sum m x a k]
/-- each slot follows on each -/
theorem orb_from {m : Nat} (hm : MaskG m) {i j : Nat} (hi : i ≤ m) (hj : j ≤ m) : ∃ k, k ≤ m ∧ lcgI m i k = j := by
  obtain ⟨a, ha, rfl⟩ := orb_all hm hi
  obtain ⟨b, hb, rfl⟩ := orb_all hm hj
  by_cases c : a ≤ b
  · refine ⟨b - a, by omega, ?_⟩
    rw [lcgI_sum]
    congr 1
    omega
  · refine ⟨b + (m + 1) - a, by omega, ?_⟩
    have e : a + (b + (m + 1) - a) = (m + 1) + b := by omega
    rw [lcgI_sum, e, ← lcgI_sum, orb_round hm]
theorem run_hits {m : Nat} (hm : MaskG m) (h : Int) {j : Nat} (hj : j ≤ m) : ∃ n, n ≤ m + 12 ∧ runI m (SetTable.bits h) n = j := by
  obtain ⟨k, hk, e⟩ := orb_from hm (runI_le m (SetTable.bits h) 12) hj
  refine ⟨12 + k, by omega, ?_⟩
  rw [runI_tail (bits_lt h), e]
/-- a table as it is laid: rising places, no gaps kept -/
structure TabG (t : SetTable) (n : Nat) : Prop where
  ris : Ris t.place.toList
  dm : t.dummies = #[]
  sz : t.place.size = n
  mok : MaskG t.mask
theorem maskG_le {m : Nat} (h : MaskG m) : m ≤ 2047 := by rcases h with e | e | e | e | e <;> omega
theorem maskG_odd {m : Nat} (h : MaskG m) : m % 2 = 1 := by rcases h with e | e | e | e | e <;> subst e <;> rfl
/-- the first empty slot on the way of a hash -/
theorem TabG.first {t : SetTable} {n : Nat} (T : TabG t n) (hl : n ≤ t.mask) (h : Int) : ∃ K, K < 10 * SetTable.turns t.mask ∧ way t.mask h K ∉ t.place.toList ∧ ∀ k, k < K → way t.mask h k ∈ t.place.toList := by
  obtain ⟨j, hj, hn⟩ := st_missing t.place.toList (t.mask + 1) (by rw [Array.length_toList, T.sz]; omega)
  obtain ⟨r, hr, er⟩ := run_hits T.mok h (Nat.le_of_lt_succ hj)
  obtain ⟨k, hk, ek⟩ := run_nth t.mask (SetTable.bits h) r
  have ew : way t.mask h k = j := by
    show (nth t.mask _ k).j = j
    rw [ek]
    exact er
  obtain ⟨K, h1, h2, h3⟩ := st_least (p := fun k => way t.mask h k ∉ t.place.toList) k (by show way t.mask h k ∉ _; rw [ew]; exact hn)
  refine ⟨K, ?_, h2, fun c hc => Classical.byContradiction fun q => h3 c hc q⟩
  unfold SetTable.turns
  omega
theorem TabG.put {t : SetTable} {n : Nat} (T : TabG t n) {j : Nat} (hj : j ∉ t.place.toList) : (t.put j).2 = SetTable.below t.place j ∧ SetTable.below t.place j ≤ n ∧ TabG (t.put j).1 (n + 1) ∧ (t.put j).1.mask = t.mask ∧ (t.put j).1.led = t.led ∧ (t.put j).1.plain = t.plain ∧ (t.put j).1.fill = n + 1 := by
  have hb := (below_cut T.ris j).1
  have hp := put_place t j
  have hlen : (t.put j).1.place.size = n + 1 := by
    rw [← Array.length_toList, hp, len_ins _ (by rw [Array.length_toList]; exact hb), Array.length_toList, T.sz]
  have hd := put_dm T.dm j
  refine ⟨rfl, by rw [← T.sz]; exact hb, ⟨ris_insert T.ris fun e => hj (List.mem_of_getElem? (by rw [Array.getElem?_toList]; exact e)), hd, hlen, T.mok⟩, rfl, rfl, rfl, ?_⟩
  unfold SetTable.fill
  rw [hlen, hd]
  rfl
structure OwnG (m n : Nat) (owner : Array (Option Nat)) : Prop where
  sz : owner.size = m + 1
  all : ∀ k, k < n → ∃ j, j ≤ m ∧ oAt owner j = some k
  ps : ∃ ps : List Nat, ps.length = n ∧ ∀ j, j ≤ m → oAt owner j ≠ none → j ∈ ps
theorem way_in (m : Nat) (h : Int) (k : Nat) : way m h k ≤ m := by
  have hi : SetTable.bits h % (m + 1) ≤ m := Nat.le_of_lt_succ (Nat.mod_lt _ (Nat.succ_pos _))
  have hr := (runEnd_bd hi).1
  have hge := runEnd_ge m (SetTable.bits h % (m + 1))
  have := nth_in (m := m) k (runAt m (SetTable.bits h % (m + 1)) (SetTable.bits h)) (by unfold runAt; simp only; omega)
  exact Nat.le_trans (Nat.le_add_right _ _) this
theorem OwnG.more {m n : Nat} {owner : Array (Option Nat)} (hm : MaskG m) (W : OwnG m n owner) (hl : n ≤ m) (h : Int) :
    ∃ j, SetTable.layClean.free m owner (SetTable.turns m) (SetTable.bits h % (m + 1)) (SetTable.bits h) = some j ∧ OwnG m (n + 1) (owner.setIfInBounds j (some n)) := by
  obtain ⟨ps, hps, hin⟩ := W.ps
  obtain ⟨j0, h0, hn0⟩ := st_missing ps (m + 1) (by omega)
  have hf : oAt owner j0 = none := Classical.byContradiction fun z => hn0 (hin j0 (by omega) z)
  obtain ⟨r, hr, er⟩ := run_hits hm h (Nat.le_of_lt_succ h0)
  have ew : way m h (off m (SetTable.bits h % (m + 1)) (SetTable.bits h) r) = j0 := by
    show (nth m _ _).j = j0
    rw [nth_off, itL_run]
    exact er
  obtain ⟨K, k1, k2, k3⟩ := st_least (p := fun k => oAt owner (way m h k) = none) _ (show oAt owner (way m h (off m (SetTable.bits h % (m + 1)) (SetTable.bits h) r)) = none by rw [ew]; exact hf)
  have hj := way_in m h K
  refine ⟨way m h K, free_spec m owner _ r _ _ K (by unfold SetTable.turns; omega) k1 (fun c hc => ?_) (by rw [show oAt owner (nth m (runAt m (SetTable.bits h % (m + 1)) (SetTable.bits h)) K).j = none from k2]; rfl), ?_⟩
  · cases z : oAt owner (nth m (runAt m (SetTable.bits h % (m + 1)) (SetTable.bits h)) c).j with
    | none => exact absurd z (k3 c hc)
    | some _ => rfl
  have hself := oAt_set_self (owner := owner) (some n) (show way m h K < owner.size by rw [W.sz]; omega)
  have other : ∀ i, i ≠ way m h K → oAt (owner.setIfInBounds (way m h K) (some n)) i = oAt owner i := fun i hi => oAt_set_ne _ hi
  refine ⟨by rw [Array.size_setIfInBounds]; exact W.sz, fun k hk => ?_, ⟨way m h K :: ps, by rw [List.length_cons, hps], fun i hi hne => ?_⟩⟩
  · by_cases c : k < n
    · obtain ⟨i, hi, e⟩ := W.all k c
      exact ⟨i, hi, by rw [other i (fun z => by rw [z, k2] at e; cases e)]; exact e⟩
    · obtain rfl : k = n := by omega
      exact ⟨_, hj, hself⟩
  · by_cases c : i = way m h K
    · rw [c]; exact List.mem_cons_self ..
    · rw [other i c] at hne
      exact List.mem_cons_of_mem _ (hin i hi hne)
theorem fold_g {m : Nat} (hm : MaskG m) : ∀ (rest : List Int) (n : Nat) (owner : Array (Option Nat)), OwnG m n owner → n + rest.length ≤ m → ∃ owner', rest.foldl (stepF m) (some (owner, n)) = some (owner', n + rest.length) ∧ OwnG m (n + rest.length) owner'
  | [], n, owner, W, _ => ⟨owner, rfl, W⟩
  | h :: rest, n, owner, W, hl => by
    rw [List.length_cons] at hl ⊢
    obtain ⟨j, e, W'⟩ := W.more hm (by omega) h
    obtain ⟨o2, f, W2⟩ := fold_g hm rest (n + 1) _ W' (by omega)
    have en : n + 1 + rest.length = n + (rest.length + 1) := by omega
    rw [en] at f W2
    refine ⟨o2, ?_, W2⟩
    rw [List.foldl_cons, stepF_some e]
    exact f
theorem lay_g {m : Nat} (hm : MaskG m) {hs : Array Int} (hn : hs.size ≤ m) : ∃ owner, SetTable.layClean m hs = some owner ∧ OwnG m hs.size owner := by
  have W0 : OwnG m 0 (Array.replicate (m + 1) none) := ⟨by simp, fun k hk => absurd hk (Nat.not_lt_zero _), [], rfl, fun j hj e => absurd (oAt_init hj) e⟩
  have hz : hs.toList.length = hs.size := Array.length_toList
  obtain ⟨owner, f, W⟩ := fold_g hm hs.toList 0 _ W0 (by omega)
  rw [Nat.zero_add, hz] at f W
  refine ⟨owner, ?_, W⟩
  rw [layClean_eq, f]
  rfl
theorem relaid_g (t : SetTable) {hs : Array Int} {wanted M : Nat} (hw : SetTable.sizeAbove wanted - 1 = M) (hM : MaskG M) (hn : hs.size ≤ M) :
    ∃ t' order, t.relaid hs wanted = some (t', order) ∧ order.toList.Perm (List.range hs.size) ∧ TabG t' hs.size ∧ t'.mask = M ∧ t'.led = t.led := by
  obtain ⟨owner, e, W⟩ := lay_g hM hn
  have hr : t.relaid hs wanted = some (tabOf t M owner, ((L2.liveOf M owner).map (·.2)).toArray) := by
    rw [relaid_eq, hw, e]
    rfl
  have hrr : Ris (List.range (M + 1)) := List.pairwise_lt_range
  obtain ⟨r1, r2⟩ := ris_live (fun j => owner.getD j none) (List.range (M + 1)) hrr
  have r1 : Ris ((L2.liveOf M owner).map (·.1)) := r1
  have nd : ((L2.liveOf M owner).map (·.1)).Nodup := List.Pairwise.imp (fun h => Nat.ne_of_lt h) r1
  have hcov : ∀ k, k < hs.size → k ∈ (L2.liveOf M owner).map (·.2) := fun k hk => by
    obtain ⟨j, b1, b2⟩ := W.all k hk
    exact List.mem_map.mpr ⟨(j, k), (mem_live W.sz).2 ⟨b1, b2⟩, rfl⟩
  have hlen : (L2.liveOf M owner).length = hs.size := by
    obtain ⟨ps, p1, p2⟩ := W.ps
    have a := nat_nodup_len ((L2.liveOf M owner).map (·.1)) ps nd fun x hx => by
      obtain ⟨⟨y, k⟩, hq, rfl⟩ := List.mem_map.mp hx
      obtain ⟨b1, b2⟩ := (mem_live W.sz).1 hq
      exact p2 y b1 (by rw [b2]; simp)
    have b := nat_nodup_len (List.range hs.size) ((L2.liveOf M owner).map (·.2)) List.nodup_range fun k hk => hcov k (List.mem_range.mp hk)
    rw [List.length_map] at a b
    rw [List.length_range] at b
    omega
  refine ⟨_, _, hr, perm_range hs.size _ (by show ((L2.liveOf M owner).map (·.2)).length = _; rw [List.length_map]; exact hlen) hcov, ⟨r1, rfl, ?_, hM⟩, rfl, rfl⟩
  show ((L2.liveOf M owner).map (·.1)).toArray.size = hs.size
  rw [List.size_toArray, List.length_map]
  exact hlen
theorem grow_7 : SetTable.sizeAbove (SetTable.grown 5) = 32 := by decide +kernel
theorem grow_31 : SetTable.sizeAbove (SetTable.grown 19) = 128 := by decide +kernel
theorem grow_127 : SetTable.sizeAbove (SetTable.grown 77) = 512 := by decide +kernel
theorem grow_511 : SetTable.sizeAbove (SetTable.grown 307) = 2048 := by decide +kernel
end VL
set_option maxHeartbeats 2000000
namespace VL
open PySem PySem.Spec PyProof.Rows L2
section
variable {P : Program} {w : World} {A : Around} {E : Value → Shared → Prop} {s : Shared}
theorem hashV_tup {m : Nat} {a : Addr} {o : Obj} {vs : Array Value} {nn : Nat} (ho : s.heap.get? a = some o) (hc : o.cls = .type "tuple") (hd : o.data = .seq vs nn)
    (each : ∀ v ∈ vs.toList, ∀ Q : Bool → Shared → Prop, (∀ b, Q b s) → wpAny (model P w) A (hashByValue m v) Q E s) {Q : Bool → Shared → Prop} (h : ∀ b, Q b s) : wpAny (model P w) A (hashByValue (m + 1) (.ref a)) Q E s := by
  have hT : s.TypeIs (.ref a) "tuple" := ⟨o, ho, hc⟩
  unfold hashByValue
  refine wpAny_bind (wpAny_specialOf hT F.slot_tuple_hash.lookup ?_)
  show wpAny _ _ (seqItems? (.ref a) >>= _) _ _ s
  refine wpAny_bind (wpAny_seqItems ho hd ?_)
  refine wpAny_bind ?_
  show wpAny _ _ (forIn vs _ _) _ _ s
  rw [← Array.forIn_toList]
  refine wpAny_forIn_list _ (fun rest r s' => s' = s ∧ r.1 = none ∧ ∀ v ∈ rest, v ∈ vs.toList) _ ?_ ?_ _ _ ⟨rfl, rfl, fun v hv => hv⟩
  · rintro v rest r s' ⟨rfl, hr, hall⟩
    refine wpAny_bind (each v (hall v (List.mem_cons_self ..)) _ fun b => ?_)
    cases b with
    | false => exact wpAny_pure (wpAny_pure (h false))
    | true => exact wpAny_pure ⟨rfl, rfl, fun u hu => hall u (List.mem_cons_of_mem _ hu)⟩
  · rintro ⟨r1, r2⟩ s' ⟨rfl, hr, _⟩
    obtain rfl : r1 = none := hr
    exact wpAny_pure (h true)
mutual
theorem hashV_key : ∀ (k : NestedKey) (v : Value) (n : Nat), NestedIs s.heap k v → k.depth ≤ n → ∀ Q : Bool → Shared → Prop, (∀ b, Q b s) → wpAny (model P w) A (hashByValue n v) Q E s
  | .none, _, n, x, _, Q, h => by cases x; cases n <;> exact wpAny_pure (h _)
  | .num i, _, n, x, _, Q, h => by cases x <;> cases n <;> exact wpAny_pure (h _)
  | .text y, _, n, x, _, Q, h => by cases x; cases n <;> exact wpAny_pure (h _)
  | .tup ks, _, n, x, hn, Q, h => by
    cases x with
    | tup ho hc hd hk =>
      rw [NestedKey.depth] at hn
      match n, hn with
      | n + 1, hn => exact hashV_tup ho hc hd (fun v hv Q' h' => hashV_keys ks _ n hk (by omega) v hv Q' h') h
theorem hashV_keys : ∀ (ks : List NestedKey) (vs : List Value) (n : Nat), NestedAll s.heap ks vs → NestedKey.depthAll ks ≤ n → ∀ v ∈ vs, ∀ Q : Bool → Shared → Prop, (∀ b, Q b s) → wpAny (model P w) A (hashByValue n v) Q E s
  | [], _, n, x, _, v, hv, _, _ => by cases x; cases hv
  | k :: ks, _, n, x, hn, v, hv, Q, h => by
    rw [NestedKey.depthAll] at hn
    cases x with
    | cons x1 x2 =>
      rcases List.mem_cons.mp hv with e | hv
      · rw [e]; exact hashV_key k _ n x1 (by omega) Q h
      · exact hashV_keys ks _ n x2 (by omega) v hv Q h
end
theorem plainC_tup {m : Nat} {a : Addr} {o : Obj} {vs : Array Value} {nn : Nat} (ho : s.heap.get? a = some o) (hc : o.cls = .type "tuple") (hd : o.data = .seq vs nn)
    (each : ∀ v ∈ vs.toList, ∀ Q : Bool → Shared → Prop, Q false s → wpAny (model P w) A (ofAClassStatement m v) Q E s) {Q : Bool → Shared → Prop} (h : Q false s) : wpAny (model P w) A (ofAClassStatement (m + 1) (.ref a)) Q E s := by
  have hT : s.TypeIs (.ref a) "tuple" := ⟨o, ho, hc⟩
  unfold ofAClassStatement
  refine wpAny_bind (wpAny_typeOf hT ?_)
  have e : (("tuple" : String) == "tuple") = true := by decide
  dsimp only
  rw [e]
  simp only [if_true]
  try refine wpAny_bind (wpAny_pure ?_)
  simp only [Bool.not_true, Bool.false_eq_true, if_false]
  show wpAny _ _ (seqItems? (.ref a) >>= _) _ _ s
  refine wpAny_bind (wpAny_seqItems ho hd ?_)
  refine wpAny_bind ?_
  show wpAny _ _ (forIn vs _ _) _ _ s
  rw [← Array.forIn_toList]
  refine wpAny_forIn_list _ (fun rest r s' => s' = s ∧ r.1 = none ∧ ∀ v ∈ rest, v ∈ vs.toList) _ ?_ ?_ _ _ ⟨rfl, rfl, fun v hv => hv⟩
  · rintro v rest r s' ⟨rfl, hr, hall⟩
    refine wpAny_bind (each v (hall v (List.mem_cons_self ..)) _ ?_)
    exact wpAny_pure ⟨rfl, rfl, fun u hu => hall u (List.mem_cons_of_mem _ hu)⟩
  · rintro ⟨r1, r2⟩ s' ⟨rfl, hr, _⟩
    obtain rfl : r1 = none := hr
    exact wpAny_pure h
mutual
theorem plainC_key : ∀ (k : NestedKey) (v : Value) (n : Nat), NestedIs s.heap k v → k.depth ≤ n → ∀ Q : Bool → Shared → Prop, Q false s → wpAny (model P w) A (ofAClassStatement n v) Q E s
  | .none, _, n, x, _, Q, h => by cases x; cases n <;> exact wpAny_pure h
  | .num i, _, n, x, _, Q, h => by cases x <;> cases n <;> exact wpAny_pure h
  | .text y, _, n, x, _, Q, h => by cases x; cases n <;> exact wpAny_pure h
  | .tup ks, _, n, x, hn, Q, h => by
    cases x with
    | tup ho hc hd hk =>
      rw [NestedKey.depth] at hn
      match n, hn with
      | n + 1, hn => exact plainC_tup ho hc hd (fun v hv Q' h' => plainC_keys ks _ n hk (by omega) v hv Q' h') h
theorem plainC_keys : ∀ (ks : List NestedKey) (vs : List Value) (n : Nat), NestedAll s.heap ks vs → NestedKey.depthAll ks ≤ n → ∀ v ∈ vs, ∀ Q : Bool → Shared → Prop, Q false s → wpAny (model P w) A (ofAClassStatement n v) Q E s
  | [], _, n, x, _, v, hv, _, _ => by cases x; cases hv
  | k :: ks, _, n, x, hn, v, hv, Q, h => by
    rw [NestedKey.depthAll] at hn
    cases x with
    | cons x1 x2 =>
      rcases List.mem_cons.mp hv with e | hv
      · rw [e]; exact plainC_key k _ n x1 (by omega) Q h
      · exact plainC_keys ks _ n x2 (by omega) v hv Q h
end
abbrev NK (P : Program) (w : World) := nestedKind P w
/-- a search among such keys shows nothing -/
theorem seen_key {k : NestedKey} {b : Addr} {Q : Bool → Shared → Prop} (hk : (NK P w).is s.heap k b) {ys : List Value} (hy : ∀ y ∈ ys, ∃ k' c, y = Value.ref c ∧ (NK P w).is s.heap k' c) (h : Q false s) :
    wpAny (model P w) A (searchCouldBeSeen (.ref b) ys) Q E s := by
  unfold searchCouldBeSeen
  refine wpAny_bind (wpAny_forIn_list _ (fun rest r s' => s' = s ∧ r.1 = none ∧ ∀ y ∈ rest, ∃ k' c, y = Value.ref c ∧ (NK P w).is s.heap k' c) _ ?_ ?_ _ _ ⟨rfl, rfl, hy⟩)
  · rintro v rest r s' ⟨rfl, hr, hall⟩
    obtain ⟨k', c, rfl, hc⟩ := hall v (List.mem_cons_self ..)
    have hrest : ∀ y ∈ rest, ∃ k' c, y = Value.ref c ∧ (NK P w).is s'.heap k' c := fun u hu => hall u (List.mem_cons_of_mem _ hu)
    dsimp only
    by_cases hv : (b == c || (carriedByValue (.ref b) && carriedByValue (.ref c))) = true
    · exact wp_if_pos hv (wpAny_pure ⟨rfl, rfl, hrest⟩)
    · refine wp_if_neg hv (wpAny_bind ((NK P w).quiet hk ?_))
      refine wp_if_neg (by decide) (wpAny_bind ((NK P w).quiet hc ?_))
      refine wp_if_neg (by decide) (wpAny_bind (plainC_key k _ 8 hk.1 hk.2 _ ?_))
      refine wp_if_neg (by decide) (wpAny_bind (plainC_key k' _ 8 hc.1 hc.2 _ ?_))
      exact wp_if_neg (by decide) (wpAny_pure ⟨rfl, rfl, hrest⟩)
  · rintro ⟨r1, r2⟩ s' ⟨rfl, hr, _⟩
    obtain rfl : r1 = none := hr
    exact wpAny_pure h
/-- the set at a: its entries L, in the order of their places -/
structure SetN (P : Program) (w : World) (h : Heap) (a : Addr) (L : List (Addr × NestedKey)) (es : Array (Int × Value)) (ep : Nat) (t : SetTable) : Prop where
  ob : ∃ o, h.get? a = some o ∧ o.ExactSet ∧ o.data = .set es ep t
  rows : es.toList = L.map fun p => (p.2.hash w, Value.ref p.1)
  tab : TabG t L.length
  keys : ∀ p ∈ L, (NK P w).is h p.2 p.1
  room : L.length * 5 < t.mask * 3
variable {a : Addr} {L : List (Addr × NestedKey)} {es : Array (Int × Value)} {ep : Nat} {t : SetTable}
theorem SetN.size (R : SetN P w s.heap a L es ep t) : es.size = L.length := by rw [← Array.length_toList, R.rows, List.length_map]
theorem SetN.fits (R : SetN P w s.heap a L es ep t) : t.fits es.size = true := by
  have h1 := R.tab.sz
  have h2 := R.size
  have h3 := R.room
  unfold SetTable.fits SetTable.fill
  rw [R.tab.dm, Bool.and_eq_true, beq_iff_eq, decide_eq_true_eq]
  exact ⟨by omega, by show t.place.size + 0 ≤ t.mask; omega⟩
theorem SetN.entry (R : SetN P w s.heap a L es ep t) {i : Nat} {p : Addr × NestedKey} (h : L[i]? = some p) : es[i]? = some (p.2.hash w, Value.ref p.1) := by
  rw [← Array.getElem?_toList, R.rows, List.getElem?_map, h]
  rfl
theorem SetN.tight (R : SetN P w s.heap a L es ep t) : ¬ t.gaveWay = true := by
  unfold SetTable.gaveWay
  rw [maskG_odd R.tab.mok]
  decide
theorem nth_dm (m : Nat) : ∀ (n : Nat) (p : SetTable.Probe), p.dummy = none → (nth m p n).dummy = none
  | 0, p, h => h
  | n + 1, p, h => nth_dm m n (adv m p) (by unfold adv; split <;> exact h)
/-- the search of a key that is not there, from the c-th step on -/
theorem seek_from (R : SetN P w s.heap a L es ep t) {x : Addr} {k : NestedKey} (hx : (NK P w).is s.heap k x) (hu : A.units + 8 < cLine) (hnot : k ∉ L.map (·.2)) {K : Nat} (hKf : K < 10 * SetTable.turns t.mask)
    (hK : way t.mask (k.hash w) K ∉ t.place.toList) (hKb : ∀ c, c < K → way t.mask (k.hash w) c ∈ t.place.toList) {Q : SetFound → Shared → Prop} (hout : Q (.free (way t.mask (k.hash w) K) false) s) :
    ∀ (f c : Nat) (stand : Option SetTable.Probe), stand.getD (t.probeStart (k.hash w)) = nth t.mask (t.probeStart (k.hash w)) c → c ≤ K → K - c < f → wpAny (model P w) A (setSearchFrom a (.ref x) (k.hash w) true f stand) Q E s
  | 0, c, stand, _, _, hf => absurd hf (Nat.not_lt_zero _)
  | f + 1, c, stand, hst, hc, hf => by
    obtain ⟨o, ho, hex, hd⟩ := R.ob
    rw [setSearchFrom_succ]
    refine wpAny_bind (wpAny_setState_of ho hd R.fits ?_)
    dsimp only
    refine wp_if_neg R.tight ?_
    try refine wpAny_bind (wpAny_pure ?_)
    have on : ∀ q, (nth t.mask (nth t.mask (t.probeStart (k.hash w)) c) q).j = way t.mask (k.hash w) (c + q) := fun q => by
      show _ = (nth t.mask (t.probeStart (k.hash w)) (c + q)).j
      rw [nth_add]
    have eK : c + (K - c) = K := by omega
    have hpd : (nth t.mask (t.probeStart (k.hash w)) c).dummy = none := nth_dm _ c _ rfl
    rcases go_spec t R.tab.ris R.tab.dm (fun i => (es[i]?.map (·.1)).getD 0) (k.hash w) (10 * SetTable.turns t.mask) (K - c) _ hpd (by omega) (fun q hq => by rw [on]; exact hKb _ (by omega)) (by rw [on, eK]; exact hK) with ⟨q, i, hq, hi, hh, _, hpr⟩ | ⟨_, hpr⟩
    · have hpr' : t.probe (fun i => (es[i]?.map (·.1)).getD 0) (k.hash w) (stand.getD (t.probeStart (k.hash w))) = some (.candidate (way t.mask (k.hash w) (c + q)) i (nth t.mask (t.probeStart (k.hash w)) (c + (q + 1)))) := by
        rw [hst, ← on, nth_add t.mask c _ (q + 1)]
        exact hpr
      rw [hpr']
      dsimp only
      rw [on] at hi
      have hil : i < L.length := by
        have := (List.getElem?_eq_some_iff.mp hi).1
        rw [Array.length_toList, R.tab.sz] at this
        exact this
      have hp : L[i]? = some L[i] := List.getElem?_eq_getElem hil
      have hm : L[i] ∈ L := List.getElem_mem hil
      have hkk : ¬ L[i].2 = k := fun z => hnot (List.mem_map.mpr ⟨_, hm, z⟩)
      have hrest : wpAny (model P w) A (searchRest a (.ref x) (k.hash w) true f es t (way t.mask (k.hash w) (c + q)) i (nth t.mask (t.probeStart (k.hash w)) (c + (q + 1)))) Q E s := by
        unfold searchRest
        rw [R.entry hp]
        dsimp only
        refine wpAny_bind (wpAny_holding ((NK P w).eqBool hu (R.keys _ hm) hx ?_))
        refine wpAny_bind (wpAny_setState_of ho hd R.fits ?_)
        dsimp only
        refine wp_if_neg (by simp [hkk]) ?_
        try refine wpAny_bind (wpAny_pure ?_)
        rw [sameMem]
        dsimp only
        simp only [if_true, slot_live R.tab.ris hi, R.entry hp]
        refine wpAny_bind (wpAny_isSame_ref_self (wpAny_bind (wpAny_pure ?_)))
        simp only [if_true]
        refine wp_if_neg (by simp [hkk]) ?_
        exact seek_from R hx hu hnot hKf hK hKb hout f (c + (q + 1)) _ rfl (by omega) (by omega)
      by_cases hl : t.led = true
      · refine wp_if_neg (by simp [hl]) ?_
        try refine wpAny_bind (wpAny_pure ?_)
        exact hrest
      · refine wp_if_pos (by simp [hl]) (wpAny_bind (seen_key hx (fun y hy => ?_) ?_))
        · obtain ⟨e, he, rfl⟩ := List.mem_map.mp hy
          have he2 : e ∈ es.toList := by have := he; simp at this; simpa using this.1
          rw [R.rows] at he2
          obtain ⟨p2, hp2, rfl⟩ := List.mem_map.mp he2
          exact ⟨p2.2, p2.1, rfl, R.keys p2 hp2⟩
        · refine wp_if_neg (by decide) ?_
          try refine wpAny_bind (wpAny_pure ?_)
          exact hrest
    · have hpr' : t.probe (fun i => (es[i]?.map (·.1)).getD 0) (k.hash w) (stand.getD (t.probeStart (k.hash w))) = some (.empty (way t.mask (k.hash w) K) none) := by
        have e2 := on (K - c)
        rw [eK] at e2
        rw [hst, ← e2]
        exact hpr
      rw [hpr']
      exact wpAny_pure hout
end
end VL
set_option maxHeartbeats 4000000
namespace VL
open PySem PySem.Spec PyProof.Rows L2
section
variable {P : Program} {w : World} {A : Around} {E : Value → Shared → Prop} {s : Shared} {a : Addr} {L : List (Addr × NestedKey)} {es : Array (Int × Value)} {ep : Nat} {t : SetTable}
theorem isN_same {h h' : Heap} {k : NestedKey} {b : Addr} {o : Obj} (hb : (NK P w).is h k b) (ho : h.get? a = some o) (hd : o.data = .set es ep t) (hs : Heap.SameBut a h h') : (NK P w).is h' k b :=
  ⟨NestedIs.at (fun c ob vs n hc hv => by
    refine (hs.2 c fun e => ?_).trans hc
    subst e
    rw [ho] at hc
    cases hc
    rw [hd] at hv
    cases hv) k _ hb.1, hb.2⟩
theorem isN_keep {h h' : Heap} {k : NestedKey} {b : Addr} (hb : (NK P w).is h k b) (hk : ∀ c o, h.get? c = some o → h'.get? c = some o) : (NK P w).is h' k b := ⟨NestedIs.at (fun c ob vs n hc _ => hk c ob hc) k _ hb.1, hb.2⟩
theorem SetN.keep {h h' : Heap} (R : SetN P w h a L es ep t) (hk : ∀ c o, h.get? c = some o → h'.get? c = some o) : SetN P w h' a L es ep t :=
  let ⟨o, ho, r⟩ := R.ob; ⟨⟨o, hk _ _ ho, r⟩, R.rows, R.tab, fun p hp => isN_keep (R.keys p hp) hk, R.room⟩
/-- the entries in another order -/
theorem rows_order (L : List (Addr × NestedKey)) (es : Array (Int × Value)) (order : Array Nat) (hr : es.toList = L.map fun p => (p.2.hash w, Value.ref p.1)) (hp : order.toList.Perm (List.range L.length)) :
    ∃ L2 : List (Addr × NestedKey), (order.filterMap (es[·]?)).toList = (L2.map fun p => (p.2.hash w, Value.ref p.1)) ∧ L2.Perm L := by
  have hget : ∀ i, es[i]? = (L[i]?).map fun p : Addr × NestedKey => (p.2.hash w, Value.ref p.1) := fun i => by rw [← Array.getElem?_toList, hr, List.getElem?_map]
  refine ⟨order.toList.filterMap fun i => L[i]?, ?_, ?_⟩
  · rw [Array.toList_filterMap, List.map_filterMap]
    exact congrArg (fun f => order.toList.filterMap f) (funext fun i => hget i)
  · refine (hp.filterMap _).trans (List.Perm.of_eq ?_)
    have key : ∀ n, n ≤ L.length → ((List.range n).filterMap fun i => L[i]?) = L.take n := by
      intro n
      induction n with
      | zero => intro _; rfl
      | succ n ih =>
        intro hn
        rw [List.range_succ, List.filterMap_append, ih (by omega), List.take_succ, List.getElem?_eq_getElem (show n < L.length by omega)]
        simp [show n < L.length by omega]
    rw [key _ (Nat.le_refl _), List.take_length]
/-- laid anew, larger -/
theorem relay_n {o : Obj} (ho : s.heap.get? a = some o) (hex : o.ExactSet) (hd : o.data = .set es ep t) (hrows : es.toList = L.map fun p => (p.2.hash w, Value.ref p.1)) (T : TabG t L.length) (hfl : L.length ≤ t.mask) (keys : ∀ p ∈ L, (NK P w).is s.heap p.2 p.1) {wanted M : Nat}
    (hw : SetTable.sizeAbove wanted - 1 = M) (hM : MaskG M) (hw2 : SetTable.sizeAbove wanted ≤ 2048) (hn : L.length * 5 < M * 3) {Q : Unit → Shared → Prop}
    (hQ : ∀ h' L' es' ep' t', Heap.SameBut a s.heap h' → SetN P w h' a L' es' ep' t' → L'.Perm L → Q () { s with heap := h' }) : wpAny (model P w) A (setRelay a wanted) Q E s := by
  have hsl : es.size = L.length := by rw [← Array.length_toList, hrows, List.length_map]
  have hfits : t.fits es.size = true := by
    unfold SetTable.fits SetTable.fill
    rw [T.dm, Bool.and_eq_true, beq_iff_eq, decide_eq_true_eq, hsl]
    exact ⟨T.sz, by rw [T.sz]; exact hfl⟩
  have hLM : L.length ≤ M := by omega
  have hm2 := maskG_le hM
  obtain ⟨t', order, e, hp, T', em, el⟩ := relaid_g t (hs := es.map (·.1)) (wanted := wanted) hw hM (by rw [Array.size_map, hsl]; exact hLM)
  rw [Array.size_map, hsl] at hp T'
  obtain ⟨L2, r1, r2⟩ := rows_order (w := w) L es order hrows hp
  have hs2 : (order.filterMap (es[·]?)).size = es.size := by rw [← Array.length_toList, r1, List.length_map, r2.length_eq, hsl]
  rw [setRelay_eq]
  refine wpAny_bind (wpAny_setState_of ho hd hfits ?_)
  dsimp only
  refine wp_if_neg (by rw [sizeLine_eq]; omega) ?_
  try refine wpAny_bind (wpAny_pure ?_)
  rw [e]
  dsimp only
  refine wpAny_bind (wp_if_neg (by rw [hs2]; simp) ?_)
  try refine wpAny_bind (wpAny_pure ?_)
  refine wpAny_pure ?_
  dsimp only
  refine wpAny_storeSet_of ho hd ?_ (by rw [hs2, hsl, sizeLine_eq]; omega)
  have sb : Heap.SameBut a s.heap (s.heap.update a (Obj.putSet (order.filterMap (es[·]?)) t')) := Heap.SameBut.update ..
  exact hQ _ L2 _ (ep + 1) t' sb ⟨⟨_, store_at ho hd, ⟨hex.1, hex.2.1, hex.2.2⟩, rfl⟩, r1, by rw [r2.length_eq]; exact T', fun p hp => isN_same (keys p (r2.mem_iff.mp hp)) ho hd sb, by rw [r2.length_eq, em]; exact hn⟩ r2
/-- a key that is not there is added -/
theorem add_n (R : SetN P w s.heap a L es ep t) {x : Addr} {k : NestedKey} (hx : (NK P w).is s.heap k x) (hu : A.units + 8 < cLine) (hnot : k ∉ L.map (·.2)) (hfew : L.length < 1200) {Q : Bool → Shared → Prop}
    (hQ : ∀ b h' L' es' ep' t', Heap.SameBut a s.heap h' → SetN P w h' a L' es' ep' t' → L'.Perm ((x, k) :: L) → Q b { s with heap := h' }) :
    wpAny (model P w) A (setAddHashed a (.ref x) (k.hash w)) Q E s := by
  obtain ⟨o, ho, hex, hd⟩ := R.ob
  have hsl := R.size
  have hroom := R.room
  have hm2 := maskG_le R.tab.mok
  obtain ⟨K, hKf, hK, hKb⟩ := R.tab.first (by omega) (k.hash w)
  have hturn : 10 * SetTable.turns t.mask ≤ 20620 := by unfold SetTable.turns; omega
  unfold setAddHashed
  refine wpAny_holding ?_
  rw [show (100000 : Nat) = 99999 + 1 from rfl, setAddHashedIn_succ]
  refine wpAny_bind (wpAny_setState_of ho hd R.fits ?_)
  dsimp only
  refine wp_if_neg (by simp [byScan, Value.scannable]) ?_
  try refine wpAny_bind (wpAny_pure ?_)
  unfold setSearch
  refine wpAny_bind (seek_from R hx hu hnot hKf hK hKb ?_ 100000 0 none rfl (Nat.zero_le _) (by omega))
  dsimp only
  refine wpAny_bind (wpAny_setState_of ho hd R.fits ?_)
  dsimp only
  obtain ⟨q1, q2, q3, q4, q5, q6, q7⟩ := R.tab.put hK
  generalize hpt : t.put (way t.mask (k.hash w) K) = pt at q1 q3 q4 q5 q6 q7 ⊢
  obtain ⟨t1, p⟩ := pt
  dsimp only at q1 q3 q4 q5 q6 q7 ⊢
  subst q1
  -- whichever way the hash is told, the table is as good
  have go : ∀ t2 : SetTable, TabG t2 (L.length + 1) → t2.mask = t.mask → t2.fill = L.length + 1 → wpAny (model P w) A (do
      storeSet a (SetTable.insertAt es (SetTable.below t.place (way t.mask (k.hash w) K)) (k.hash w, Value.ref x)) t2
      if !false && t2.tooFull then setRelay a (SetTable.grown (es.size + 1))
      return true) Q E s := by
    intro t2 T2 m2 f2
    have pm : (L.take (SetTable.below t.place (way t.mask (k.hash w) K)) ++ (x, k) :: L.drop (SetTable.below t.place (way t.mask (k.hash w) K))).Perm ((x, k) :: L) := put_perm L _ (x, k)
    have hin : (SetTable.insertAt es (SetTable.below t.place (way t.mask (k.hash w) K)) (k.hash w, Value.ref x)).toList = (L.take (SetTable.below t.place (way t.mask (k.hash w) K)) ++ (x, k) :: L.drop (SetTable.below t.place (way t.mask (k.hash w) K))).map fun p => (p.2.hash w, Value.ref p.1) := by
      rw [SetTable.toList_insertAt, R.rows, List.map_append, List.map_cons, List.map_take, List.map_drop]
    generalize SetTable.insertAt es (SetTable.below t.place (way t.mask (k.hash w) K)) (k.hash w, Value.ref x) = es1 at hin ⊢
    generalize L.take (SetTable.below t.place (way t.mask (k.hash w) K)) ++ (x, k) :: L.drop (SetTable.below t.place (way t.mask (k.hash w) K)) = L1 at pm hin
    have hlen : L1.length = L.length + 1 := pm.length_eq
    have hes : es1.size = L.length + 1 := by rw [← Array.length_toList, hin, List.length_map, hlen]
    refine wpAny_bind (wpAny_storeSet_of ho hd ?_ (by rw [hes, sizeLine_eq]; omega))
    have sb : Heap.SameBut a s.heap (s.heap.update a (Obj.putSet es1 t2)) := Heap.SameBut.update ..
    have ho1 := store_at (es' := es1) (t' := t2) ho hd
    generalize s.heap.update a (Obj.putSet es1 t2) = h1 at sb ho1 ⊢
    have keys1 : ∀ p ∈ L1, (NK P w).is h1 p.2 p.1 := fun p hp => by
      rcases List.mem_cons.mp (pm.mem_iff.mp hp) with e | hp
      · rw [e]; exact isN_same hx ho hd sb
      · exact isN_same (R.keys p hp) ho hd sb
    by_cases hf : t2.tooFull = true
    · have hfull : (L.length + 1) * 5 ≥ t.mask * 3 := by
        have h := hf
        unfold SetTable.tooFull at h
        rw [decide_eq_true_eq, f2, m2] at h
        exact h
      rw [hsl]
      have grow : ∀ M, SetTable.sizeAbove (SetTable.grown (L.length + 1)) - 1 = M → MaskG M → SetTable.sizeAbove (SetTable.grown (L.length + 1)) ≤ 2048 → (L.length + 1) * 5 < M * 3 →
          wpAny (model P w) A (setRelay a (SetTable.grown (L.length + 1))) (fun _ s' => wpAny (model P w) A (pure true) Q E s') E { s with heap := h1 } := fun M g1 g2 g3 g4 => by
        refine relay_n (s := { s with heap := h1 }) ho1 ⟨hex.1, hex.2.1, hex.2.2⟩ rfl hin (by rw [hlen]; exact T2) (by rw [hlen, m2]; omega) keys1 g1 g2 g3 (by rw [hlen]; exact g4) ?_
        intro h2 L2 es2 ep2 t3 sb2 R2 pm2
        exact wpAny_pure (hQ true h2 L2 es2 ep2 t3 (sb.trans sb2) R2 (pm2.trans pm))
      refine wp_if_pos (by simp [hf]) (wpAny_bind ?_)
      have cs : (t.mask = 7 ∧ L.length = 4) ∨ (t.mask = 31 ∧ L.length = 18) ∨ (t.mask = 127 ∧ L.length = 76) ∨ (t.mask = 511 ∧ L.length = 306) := by
        rcases R.tab.mok with e | e | e | e | e <;> rw [e] at hroom hfull <;> omega
      rcases cs with ⟨_, e⟩ | ⟨_, e⟩ | ⟨_, e⟩ | ⟨_, e⟩
      · exact grow 31 (by rw [e, grow_7]) (.inr (.inl rfl)) (by rw [e, grow_7]; decide) (by omega)
      · exact grow 127 (by rw [e, grow_31]) (.inr (.inr (.inl rfl))) (by rw [e, grow_31]; decide) (by omega)
      · exact grow 511 (by rw [e, grow_127]) (.inr (.inr (.inr (.inl rfl)))) (by rw [e, grow_127]; decide) (by omega)
      · exact grow 2047 (by rw [e, grow_511]) (.inr (.inr (.inr (.inr rfl)))) (by rw [e, grow_511]; decide) (by omega)
    · refine wp_if_neg (by simp [hf]) ?_
      try refine wpAny_bind (wpAny_pure ?_)
      refine wpAny_pure (hQ true h1 L1 es1 (ep + 1) t2 sb ⟨⟨_, ho1, ⟨hex.1, hex.2.1, hex.2.2⟩, rfl⟩, hin, by rw [hlen]; exact T2, keys1, ?_⟩ pm)
      have h := hf
      unfold SetTable.tooFull at h
      rw [decide_eq_true_eq, f2, m2] at h
      rw [hlen, m2]
      omega
  have T1 : TabG { t1 with plain := false } (L.length + 1) := ⟨q3.ris, q3.dm, q3.sz, q3.mok⟩
  have both : ∀ b : Bool, wpAny (model P w) A (do
      storeSet a (SetTable.insertAt es (SetTable.below t.place (way t.mask (k.hash w) K)) (k.hash w, Value.ref x)) (if b then t1 else { t1 with plain := false })
      if !false && (if b then t1 else { t1 with plain := false }).tooFull then setRelay a (SetTable.grown (es.size + 1))
      return true) Q E s := fun b => by
    cases b
    · exact go _ T1 q4 q7
    · exact go _ q3 q4 q7
  by_cases hpl : t1.plain = true
  · refine wp_if_pos hpl (wpAny_bind (hashV_key k _ 8 hx.1 hx.2 _ fun b => ?_))
    exact both b
  · refine wp_if_neg hpl ?_
    refine wpAny_bind (wpAny_pure ?_)
    exact both true
end
end VL
set_option maxHeartbeats 4000000
namespace VL
open PySem PySem.Spec PyProof.Rows L2
section
variable {P : Program} {w : World} {A : Around} {E : Value → Shared → Prop} {s : Shared}
theorem update_n {J : Addr} {fp wr : List Addr} {G : Array GenState → Array GenState → Prop} {n : Nat} {Pv : Nat → Value → Prop} {St : Nat → Shared → Prop} {R : Result → Shared → Prop} (W : WalksS P w A.in1 J fp wr G n Pv St) (S : Addr) (hSf : S ∉ fp)
    (ks : List (Addr × NestedKey)) (hn : n = ks.length) (nd : (ks.map (·.2)).Nodup) (hfew : ks.length ≤ 1200) (hval : ∀ i v, Pv i v → ∃ p, ks[i]? = some p ∧ v = .ref p.1) (h0 : Heap) (hk : ∀ p ∈ ks, (NK P w).is h0 p.2 p.1) (hS0 : h0.get? S = none) (hw0 : ∀ b ∈ wr, h0.get? b = none) (hu : A.in1.units + 8 < cLine) :
    ∀ (r i : Nat) (s : Shared), n - i = r → i ≤ n → St i s → (∀ b o, h0.get? b = some o → s.heap.get? b = some o) → (∃ L es ep t, SetN P w s.heap S L es ep t ∧ L.Perm (ks.take i)) →
      (∀ s' L es ep t, Moved (S :: wr) G s s' → SetN P w s'.heap S L es ep t → L.Perm ks → (∀ b o, h0.get? b = some o → s'.heap.get? b = some o) → R (.ok (.ret .none)) s') →
      codeAny (model P w) A (.builtin "set.update.loop" ⟨[.ref S, .ref J], []⟩) R s := by
  have hSw : S ∉ wr := fun h => hSf (W.sub _ h)
  have hsub : ∀ b ∈ wr, b ∈ S :: wr := fun b hb => List.mem_cons_of_mem _ hb
  have stays : ∀ {s s' : Shared}, Moved wr G s s' → (∀ b o, h0.get? b = some o → s.heap.get? b = some o) → ∀ b o, h0.get? b = some o → s'.heap.get? b = some o := fun hm hkp b o e => hm.heap b o (fun hb => by rw [hw0 b hb] at e; cases e) (hkp b o e)
  have setAt : ∀ {s s' : Shared} {L : List (Addr × NestedKey)} {es : Array (Int × Value)} {ep : Nat} {t : SetTable} {i : Nat}, Moved wr G s s' → (∀ b o, h0.get? b = some o → s'.heap.get? b = some o) → L.Perm (ks.take i) → SetN P w s.heap S L es ep t → SetN P w s'.heap S L es ep t := fun hm hkp pm R =>
    let ⟨o, ho, r⟩ := R.ob
    ⟨⟨o, hm.heap S o hSw ho, r⟩, R.rows, R.tab, fun p hp => isN_keep (hk p (List.mem_of_mem_take (pm.mem_iff.mp hp))) hkp, R.room⟩
  intro r
  induction r with
  | zero =>
    intro i s hr hi hst hkp ⟨L, es, ep, t, hS, pm⟩ hR
    have hin : i = n := by omega
    subst hin
    refine codeAny_builtin F.entry_set_update_loop ?_
    rw [Around.under_plainId F.plain_set_update_loop _]
    show wpAny _ A.in1 (pyNext (.ref J) >>= _) _ _ s
    refine wpAny_bind (W.done s _ _ hst fun s' hm => ?_)
    show wpAny _ A.in1 (ret Value.none) _ _ s'
    have hkp' := stays hm hkp
    rw [hn, List.take_length] at pm
    exact wpAny_pure (hR s' L es ep t (hm.mono hsub) (setAt (i := ks.length) hm hkp' (by rw [List.take_length]; exact pm) hS) pm hkp')
  | succ r ih =>
    intro i s hr hi hst hkp ⟨L, es, ep, t, hS, pm⟩ hR
    refine codeAny_builtin F.entry_set_update_loop ?_
    rw [Around.under_plainId F.plain_set_update_loop _]
    show wpAny _ A.in1 (pyNext (.ref J) >>= _) _ _ s
    refine wpAny_bind (W.item i s _ _ (by omega) hst fun v s' hP hst' hm => ?_)
    obtain ⟨p, hp, rfl⟩ := hval i v hP
    have hkp' := stays hm hkp
    have hS' := setAt hm hkp' pm hS
    have hx : (NK P w).is s'.heap p.2 p.1 := isN_keep (hk p (List.mem_of_getElem? hp)) hkp'
    have hnot : p.2 ∉ L.map (·.2) := fun z => by
      have z2 : p.2 ∈ (ks.take i).map (·.2) := (pm.map (·.2)).mem_iff.mp z
      rw [List.map_take] at z2
      obtain ⟨j, hj, e⟩ := List.getElem_of_mem z2
      rw [List.length_take] at hj
      rw [List.getElem_take] at e
      obtain ⟨hi2, ei⟩ := List.getElem?_eq_some_iff.mp hp
      have hne := (List.nodup_iff_pairwise_ne.mp nd)
      have := List.pairwise_iff_getElem.mp hne j i (by omega) (by rw [List.length_map]; exact hi2) (by omega)
      rw [e] at this
      exact this (by rw [List.getElem_map, ei])
    have hlen : L.length ≤ i := by rw [pm.length_eq, List.length_take]; omega
    show wpAny _ A.in1 (holding [Value.ref p.1] (setAdd S (.ref p.1)) >>= _) _ _ s'
    refine wpAny_bind (wpAny_holding ?_)
    unfold setAdd
    refine wpAny_holding (wpAny_bind ((NK P w).pyHash hu hx ?_))
    refine add_n (s := { s' with toks := s'.toks + p.2.draws }) hS' hx hu hnot (by omega) fun b h' L' es' ep' t' hsb hS2 pm2 => ?_
    have hkp2 : ∀ b o, h0.get? b = some o → h'.get? b = some o := fun b o e => (hsb.2 b (fun z => by rw [z, hS0] at e; cases e)).trans (hkp' b o e)
    have pm3 : L'.Perm (ks.take (i + 1)) := by
      rw [List.take_succ, hp]
      refine pm2.trans ((List.Perm.cons p pm).trans ?_)
      exact (List.perm_append_singleton p _).symm
    refine wpAny_pure ⟨plainId_quiet F.plain_set_update_loop _, ih (i + 1) _ (by omega) (by omega) (W.frame _ s' _ _ hst' (Nat.le_add_right _ _) fun b hb o e => ?_) hkp2 ⟨L', es', ep', t', hS2, pm3⟩ fun s'' L2 es2 ep2 t2 hm'' hS'' pm'' hkp'' => ?_⟩
    · exact (hsb.2 b (fun z : b = S => hSf (by rw [← z]; exact hb))).trans e
    · refine hR s'' L2 es2 ep2 t2 (Moved.trans W.gtrans ((hm.mono hsub).then_heap (Nat.le_add_right _ _) fun b o hb e => ?_) hm'') hS'' pm'' hkp''
      exact (hsb.2 b (fun z : b = S => hb (by rw [z]; exact List.mem_cons_self ..))).trans e
/-- a new set has nothing -/
theorem setN_new {h : Heap} {a : Addr} (ho : h.get? a = some (emptyS w)) : SetN P w h a [] #[] 0 (.fresh 0 0 (!w.params.followText "set-order")) :=
  ⟨⟨_, ho, ⟨rfl, rfl, rfl⟩, rfl⟩, rfl, ⟨List.Pairwise.nil, rfl, rfl, .inl rfl⟩, fun p hp => (by cases hp), by show 0 * 5 < 7 * 3; omega⟩
theorem fill_n {S l : Addr} {items : Array Value} {ks : List (Addr × NestedKey)} {R : Result → Shared → Prop} (hh : A.handled = none) (hu : A.units + 20 < cLine) (hS : s.heap.get? S = some (emptyS w)) (hl : s.heap.IsList l items) (hit : items.toList = ks.map fun p => Value.ref p.1)
    (nd : (ks.map (·.2)).Nodup) (hfew : ks.length ≤ 1200) (h0 : Heap) (hk : ∀ p ∈ ks, (NK P w).is h0 p.2 p.1) (hS0 : h0.get? S = none) (hl0 : h0.get? s.heap.objs.size = none) (hkp : ∀ b o, h0.get? b = some o → s.heap.get? b = some o)
    (q : ∀ h' tk L es ep t, SetN P w h' S L es ep t → L.Perm ks → (∀ b o, h0.get? b = some o → h'.get? b = some o) → R (.ok (.ret .none)) { s with heap := h', toks := tk }) :
    wpAny (model P w) A.in1.in1 (Builtin.«set.__init__» ⟨[.ref S, .ref l], []⟩) (fills R P w A.in1) (fun e s' => R (.error e) s') s := by
  have hlen : items.size = ks.length := by
    have := congrArg List.length hit
    rwa [Array.length_toList, List.length_map] at this
  obtain ⟨⟨kls, dct, dat, sls⟩, hg, hk1, m, hd⟩ := id hl
  simp only at hk1 hd
  subst hk1 hd
  have s1 := F.sub_list_set
  have s2 := F.sub_list_frozenset
  have s3 : (Value.type "list" == Value.type "dict") = false := by decide
  have hlS : l ≠ S := fun e => by
    rw [e, hS] at hg
    have z := congrArg (Option.map Obj.cls) hg
    simp at z
  have ltl : l < s.heap.objs.size := Heap.lt_size hg
  have ltS : S < s.heap.objs.size := Heap.lt_size hS
  unfold Builtin.«set.__init__» noKeywords Builtin.Frozenset.updateFrom
  generalize hPI : pyIter = PI
  wp_walk
  subst hPI
  refine wpAny_pyIter_list hl (wpAny_bind (wpAny_runValue ?_))
  refine update_n ((Walks.list (A := A.in1.in1.in1) (by simp [hh]) _ l (Nat.ne_of_lt ltl) items).toS) S ?_ ks hlen nd hfew (fun i v hv => ?_) h0 hk hS0 (fun b hb => by rw [List.mem_singleton.mp hb]; exact hl0) (by show A.units + 1 + 1 + 1 + 8 < _; omega) items.size 0 _ (Nat.sub_zero _) (Nat.zero_le _) ⟨⟨_, Heap.get?_push_size _ rfl, rfl, rfl⟩, hl.push _⟩
    (fun b o e => Heap.get?_push_of_some _ (hkp b o e)) ⟨[], _, _, _, setN_new (Heap.get?_push_of_some _ hS), .refl _⟩ fun s' L es ep t hm hS' pm hkp' => ?_
  · simp only [List.mem_cons, List.not_mem_nil, or_false, not_or]
    exact ⟨Nat.ne_of_lt ltS, Ne.symm hlS⟩
  · have hv : items[i]? = some v := hv
    rw [← Array.getElem?_toList, hit, List.getElem?_map] at hv
    obtain ⟨p, hp, rfl⟩ := Option.map_eq_some_iff.mp hv
    exact ⟨p, hp, rfl⟩
  · have e5 : s' = { s with heap := s'.heap, toks := s'.toks } := by
      have a1 := hm.gens
      have a2 := hm.drawn
      have a3 := hm.os
      cases s'
      cases s
      simp only at a1 a2 a3
      subst a2 a3
      cases a1
      rfl
    show wpAny _ _ _ _ _ _
    refine wpAny_pure (wpAny_pure ?_)
    show R _ _
    rw [e5]
    exact q _ _ L es ep t hS' pm hkp'
set_option maxHeartbeats 3200000 in
/-- set(xs) -/
theorem set_n {l : Addr} {items : Array Value} {ks : List (Addr × NestedKey)} {Q : Value → Shared → Prop} (hh : A.handled = none) (hu : A.units + 20 < cLine) (hl : s.heap.IsList l items) (hit : items.toList = ks.map fun p => Value.ref p.1) (nd : (ks.map (·.2)).Nodup) (hfew : ks.length ≤ 1200) (hk : ∀ p ∈ ks, (NK P w).is s.heap p.2 p.1)
    (q : ∀ h' tk L es ep t, SetN P w h' s.heap.objs.size L es ep t → L.Perm ks → (∀ b o, s.heap.get? b = some o → h'.get? b = some o) → Q (.ref s.heap.objs.size) { s with heap := h', toks := tk }) :
    wpAny (model P w) A (call (.type "set") [.ref l]) Q E s := by
  have T := F.called_set
  obtain ⟨c, tl, t1⟩ := T.mro
  have t2 := T.made
  have t3 := T.sub
  have t4 := T.notType
  have t5 := T.canCreate
  have t6 := F.typeCall_set_1 (.ref l)
  refine wpAny_call (codeAny_of_tree ?_)
  show wpAny _ _ (callAny (.type "set") _) _ _ _
  refine wpAny_pure ⟨Code.quiet_builtin _ (by decide +kernel), codeAny_builtin F.entry_type_call ?_⟩
  rw [Around.under_plain (weight_type_call_type "set" [.ref l] []) rfl]
  repeat (any_goals (first | assumption | wp_step))
  have out : ∀ b, s.heap.objs.size ≤ b → s.heap.get? b = none := fun b hb => by
    cases z : s.heap.get? b with
    | none => rfl
    | some o => exact absurd (Nat.lt_of_lt_of_le (Heap.lt_size z) hb) (Nat.lt_irrefl _)
  refine codeAny_mono (code_set_led1 (.ref l) (E := E) (Q₁ := fun v s1 => v = .ref s.heap.objs.size ∧ s1 = { s with heap := s.heap.push (emptyS w) }) ⟨rfl, rfl⟩) fun r s1 hr => ?_
  rcases r with e | f
  · exact hr
  · cases f with
    | ret v =>
      obtain ⟨rfl, rfl⟩ := hr
      have hS : (s.heap.push (emptyS w)).get? s.heap.objs.size = some (emptyS w) := Heap.get?_push_size _ rfl
      have t7 : Shared.TypeIs { s with heap := s.heap.push (emptyS w) } (.ref s.heap.objs.size) "set" := ⟨_, hS, rfl⟩
      have t8 := T.init.lookup
      have t9 := T.init.bind (.ref s.heap.objs.size)
      repeat (any_goals (first | assumption | wp_step))
      refine codeAny_mono (codeAny_call_builtin (R := wants (fun r s2 => r = .none ∧ ∃ h' tk L es ep t, s2 = { s with heap := h', toks := tk } ∧ SetN P w h' s.heap.objs.size L es ep t ∧ L.Perm ks ∧ ∀ b o, s.heap.get? b = some o → h'.get? b = some o) E) T.init.plain F.entry_set_init (check_set_init_1 t7 ?_)) fun r2 s2 hr2 => ?_
      · exact fill_n (R := wants _ E) hh hu hS (hl.push _) hit nd hfew s.heap hk (out _ (Nat.le_refl _)) (out _ (by rw [Heap.size_push]; exact Nat.le_succ _)) (fun b o e => Heap.get?_push_of_some _ e) fun h' tk L es ep t hR pm hkp => ⟨rfl, h', tk, L, es, ep, t, rfl, hR, pm, hkp⟩
      · rcases r2 with e | f2
        · exact hr2
        · cases f2 with
          | ret v2 =>
            obtain ⟨rfl, h', tk, L, es, ep, t, rfl, hR, pm, hkp⟩ := hr2
            repeat (any_goals (first | assumption | wp_step))
            exact q h' tk L es ep t hR pm hkp
          | _ => exact hr2.elim
    | _ => exact hr.elim
end
/-- len(set(e)), the things all unlike: NOTHING is lost -/
def wLenSet (we : WE) : WE := fun en c Q X => we en c (fun d c1 => ∃ (l : List D) (ks : List NestedKey), lstOf c1 d = some l ∧ l.map nkD = ks.map some ∧ (∀ d ∈ l, isTup d = true) ∧ (∀ k ∈ ks, k.depth ≤ 8) ∧ ks.Nodup ∧ ks.length ≤ 1200 ∧ Q (.int (l.length : Nat)) c1) X
theorem keys_reps {K : PySem.W.Frag} {G H : Hp} (sub : Le G H) : ∀ {l : List D} {ks : List NestedKey} {vs : List V}, Reps K G l vs → l.map nkD = ks.map some → (∀ d ∈ l, isTup d = true) → ∃ as : List Addr, vs = as.map V.ref ∧ as.length = ks.length ∧ ∀ p ∈ as.zip ks, NkH H p.2 (.ref p.1)
  | [], ks, _, h, e, _ => by
    cases h
    cases ks with
    | nil => exact ⟨[], rfl, rfl, fun p hp => by cases hp⟩
    | cons k ks => cases e
  | d :: l, ks, _, ⟨v, r, e1, h1, h2⟩, e, ht => by
    subst e1
    cases ks with
    | nil => cases e
    | cons k ks =>
      rw [List.map_cons, List.map_cons, List.cons.injEq] at e
      obtain ⟨as, rfl, hl, hp⟩ := keys_reps sub h2 e.2 fun x hx => ht x (List.mem_cons_of_mem _ hx)
      have htd := ht d (List.mem_cons_self ..)
      cases d <;> first
        | (cases htd; done)
        | skip
      obtain ⟨b, ws, rfl, _, _⟩ := id h1
      refine ⟨b :: as, rfl, by simp [hl], fun p hp' => ?_⟩
      rw [List.zip_cons_cons] at hp'
      rcases List.mem_cons.mp hp' with rfl | hp'
      · exact nk_rep sub _ _ _ e.1 h1
      · exact hp p hp'
section
variable {X : Cx} {W : WX} {k : Nat} {e : Expr} {we : WE} {p p2 q pos : Pos}
theorem je_lenSet (hr : Room k X.A) (hc : X.calm = true) (hm : X.mg "len" = none) (hm2 : X.mg "set" = none) (he : JE X W e we) (hg : Gl X "len" := by rfl) (hg2 : Gl X "set" := by rfl) (na : starEach [e] X.env = (false, eval e X.env) :: starEach [] X.env := by rfl) :
    JE X W (.Call (.Name "len" p) [.Call (.Name "set" p2) [e] [] q] [] pos) (wLenSet we) := by
  refine ⟨fun pins s0 σ H Q I ⟨G, en, c, Q0, X0, s, er, q, x0, kk⟩ => ?_⟩
  refine Call_ (ld_blt I hg hm PySem.boot_len ?_)
  refine PyProof.Rows.callWith_builtin1 (PyProof.Rows.args_cons ?_ rfl) rfl rfl
  refine Call_ (ld_blt I hg2 hm2 PyProof.Rows.boot_set ?_)
  refine PyProof.Rows.callWith_type1 (PyProof.Rows.args_cons (thn (he.run pins s0 σ H (fun v H1 => ∃ G1 d c1, Gr G c H G1 c1 H1 ∧ SR X.K G1 c1 H1 ∧ Rep X.K G1 d v ∧ ∃ (l : List D) (ks : List NestedKey), lstOf c1 d = some l ∧ l.map nkD = ks.map some ∧ (∀ d ∈ l, isTup d = true) ∧ (∀ k ∈ ks, k.depth ≤ 8) ∧ ks.Nodup ∧ ks.length ≤ 1200 ∧ Q0 (.int (l.length : Nat)) c1) I ?_) fun u1 s1 ⟨v1, H1, I1, r1, G1, d, c1, g1, sr1, rd, l, ks, hl, hks, ht, hdp, nd, hfew, q1⟩ => PyProof.Rows.args_nil ?_) na) na rfl
  · exact ⟨G, en, c, _, X0, s, er, q, x0, fun d c1 v H1 G1 q1 g1 s1 r1 => ⟨G1, d, c1, g1, s1, r1, q1⟩⟩
  obtain ⟨a, vs, rfl, ha, hvs⟩ := lst_at sr1 rd hl
  obtain rfl : u1 = Value.ref a := r1
  obtain ⟨as, rfl, hal, hkeys⟩ := keys_reps sr1.sub hvs hks ht
  obtain ⟨its, vits, pli, _⟩ := I1.list (SqL.of ha)
  have hits : its = as.map Value.ref := by
    have key : ∀ (as : List Addr) (us : List Value), Vals (as.map V.ref) us → us = as.map Value.ref := by
      intro as
      induction as with
      | nil => intro us h; cases h; rfl
      | cons b as ih =>
        intro us h
        cases h with
        | cons h1 h2 =>
          obtain rfl := (show _ = Value.ref b from h1)
          rw [ih _ h2]
          rfl
    exact key as its vits
  have z2 : (as.zip ks).map (·.2) = ks := List.map_snd_zip (by omega)
  have z1 : (as.zip ks).map (·.1) = as := List.map_fst_zip (by omega)
  have zl : (as.zip ks).length = ks.length := by rw [← List.length_map (·.2), z2]
  refine set_n (ks := as.zip ks) (I1.ok.hd hc) (by have := hr.un; omega) pli.isList ?_ (by rw [z2]; exact nd) (by rw [zl]; exact hfew) (fun p hp => ⟨nk_is I1.hok p.2 _ _ (hkeys p hp) rfl, hdp _ (by rw [← z2]; exact List.mem_map.mpr ⟨p, hp, rfl⟩)⟩) fun h' tk L es ep t R pm hkp => ?_
  · have e9 : (as.zip ks).map (fun p => Value.ref p.1) = ((as.zip ks).map (·.1)).map Value.ref := by rw [List.map_map]; rfl
    rw [e9, z1]
    simpa using hits
  refine PyProof.Rows.args_nil ?_
  have I2 : Inv X pins σ H1 { s1 with heap := h', toks := tk } := I1.kept hkp
  have R2 : SetN X.prog X.w ({ s1 with heap := h', toks := tk } : Shared).heap s1.heap.objs.size L es ep t := R
  obtain ⟨o, ho, hex, hd⟩ := R2.ob
  have hsz : es.size = l.length := by
    have h3 := congrArg List.length hks
    rw [List.length_map, List.length_map] at h3
    rw [R2.size, pm.length_eq, zl, h3]
  have hlk : l.length = ks.length := by simpa using congrArg List.length hks
  refine call_len_set ho hex hd R2.fits (by rw [hsz]; omega) ⟨.int (l.length : Nat), H1, I2.tok _, ⟨_, by rw [hsz]⟩, kk _ c1 _ H1 G1 q1 g1 sr1 rfl⟩
end
end VL
namespace VL
open PySem PySem.Spec PyProof.Rows L2
def Bx (p : Addr) (N : Int) (c : Cs) : Prop := ∃ a b n : Int, c p = some (.lst [.int a, .int b, .int n]) ∧ 0 ≤ a ∧ 0 ≤ b ∧ b < 2147483648 ∧ 0 ≤ n ∧ n ≤ N
def Up (p : Addr) (N : Int) (c c' : Cs) : Prop := Bx p N c' ∧ ∀ q x, q ≠ p → c q = some x → c' q = some x
theorem Bx.le {p : Addr} {N M : Int} {c : Cs} (h : Bx p N c) (l : N ≤ M) : Bx p M c := by
  obtain ⟨a, b, n, h⟩ := h
  exact ⟨a, b, n, h.1, h.2.1, h.2.2.1, h.2.2.2.1, h.2.2.2.2.1, by omega⟩
theorem Up.le {p : Addr} {N M : Int} {c c' : Cs} (h : Up p N c c') (l : N ≤ M) : Up p M c c' := ⟨h.1.le l, h.2⟩
theorem Up.trans {p : Addr} {N M : Int} {c c' c'' : Cs} (h : Up p N c c') (g : Up p M c' c'') : Up p M c c'' := ⟨g.1, fun q x z e => g.2 q x z (h.2 q x z e)⟩
theorem Up.refl {p : Addr} {N : Int} {c : Cs} (h : Bx p N c) : Up p N c c := ⟨h, fun _ _ _ e => e⟩
theorem Up.mk {p : Addr} {N : Int} {c : Cs} {a b n : Int} (h : 0 ≤ a ∧ 0 ≤ b ∧ b < 2147483648 ∧ 0 ≤ n ∧ n ≤ N) : Up p N c (cup c p (.lst [.int a, .int b, .int n])) :=
  ⟨⟨a, b, n, cup_same, h⟩, fun q x z e => by rw [cup_ne z]; exact e⟩
theorem Bx.some {p : Addr} {N : Int} {c : Cs} (h : Bx p N c) : ∃ x, c p = some x := by
  obtain ⟨a, b, n, h, _⟩ := h
  exact ⟨_, h⟩
theorem mul64 {i j : Int} (h : 0 ≤ i) (h' : i < 18446744073709551616) : MulOk i j := .inl (.inl ⟨by omega, by omega⟩)
theorem mul64' {i j : Int} (h : 0 ≤ j) (h' : j < 18446744073709551616) : MulOk i j := .inl (.inr ⟨by omega, by omega⟩)
theorem lg_ok {j : Int} {n : Nat} (h : 0 < j) (h' : j < (2 : Int) ^ n) : j.natAbs.log2 < n := by
  have h1 : j.natAbs ≠ 0 := by omega
  have : ((j.natAbs : Nat) : Int) < ((2 ^ n : Nat) : Int) := by
    rw [Int.natAbs_of_nonneg (by omega)]; push_cast; exact h'
  exact (Nat.log2_lt h1).mpr (by exact_mod_cast this)
def c_l_take (k : Nat) : Ctr := fun ds c Q _ => ∃ (p : Addr) (s N : Int) (d : Nat), ds = [.ptr p, .int s] ∧ d ≤ k ∧ d ≤ 20 ∧ 0 < s ∧ s ≤ (10000000 : Int) ^ (d + 1) ∧ Bx p N c ∧ N + 2 ^ d ≤ 70368744177664 ∧
  ∀ r c', 0 ≤ r → r < s → Up p (N + 2 ^ d) c c' → Q (.int r) c'
def w_l_take (k : Nat) : WS := (sSeq (sIf (wTst (wBin oGt (wBin oIx (wVar 0) (wC (.int 0))) (wC (.int 0)))) (sSeq (sAsg (wBi oDivmod (wCons (wBin oIx (wVar 0) (wC (.int 0))) (wCons (wVar 1) wNil))) (gTp 2 (gCons' (gSb (wVar 0) (wC (.int 0))) (gCons' (gNm 5) gNil')))) (sRet (wVar 5))) sNil) (sSeq (sIf (wTst (wBin oGt (wVar 1) (wBin oPow (wC (.int 10)) (wC (.int 7))))) (sRet (wBin oMod (wBin oAdd (wCall 2 c_l_take k (wCons (wVar 0) (wCons (wBin oPow (wC (.int 10)) (wC (.int 7))) wNil))) (wBin oMul (wBin oPow (wC (.int 10)) (wC (.int 7))) (wCall 2 c_l_take k (wCons (wVar 0) (wCons (wBin oAdd (wBin oFdiv (wBin oSub (wVar 1) (wC (.int 1))) (wBin oPow (wC (.int 10)) (wC (.int 7)))) (wC (.int 1))) wNil))))) (wVar 1))) sNil) (sSeq (sAsg (wBin oAdd (wBin oIx (wVar 0) (wC (.int 2))) (wC (.int 1))) (gSb (wVar 0) (wC (.int 2)))) (sSeq (sSet 2 (wBin oAdd (wC (.int 69621)) (wBin oMul (wBin oIx (wVar 0) (wC (.int 2))) (wBin oIx (wVar 0) (wC (.int 2)))))) (sSeq (sSet 3 (wBin oMod (wBin oMul (wBin oAdd (wBin oIx (wVar 0) (wC (.int 1))) (wBin oMul (wC (.int 39373)) (wBin oIx (wVar 0) (wC (.int 2))))) (wVar 2)) (wC (.int 2147483587)))) (sSeq (sSet 4 (wBin oMod (wBin oAdd (wBin oMul (wVar 3) (wBin oAdd (wBin oMod (wVar 3) (wC (.int 30011))) (wC (.int 5)))) (wBin oIx (wVar 0) (wC (.int 2)))) (wC (.int 2147483563)))) (sRet (wBin oMod (wBin oFdiv (wBin oMod (wBin oMul (wVar 4) (wBin oAdd (wBin oMod (wVar 4) (wC (.int 1013))) (wC (.int 3)))) (wC (.int 998244353))) (wC (.int 16))) (wVar 1)))))))))
theorem p_l_take (k : Nat) (ds : List D) (c : Cs) (Q : DK) (X0 : XK0) (hlen0 : ds.length = 2) (h : c_l_take k ds c Q X0) : w_l_take k (endOf Q) (excOf X0) (enOf 6 ds) c := by
  obtain ⟨p, s, N, d, rfl, hk, hd, h0, h1, ⟨a, b, n, hc, ha, hb, hb', hn, hN⟩, hlim, q⟩ := h
  have hlg : s.natAbs.log2 < 9000 := lg_ok h0 (Int.lt_of_le_of_lt h1 (by
    have : ∀ d : Nat, d ≤ 20 → (10000000 : Int) ^ (d + 1) < 2 ^ 9000 := by decide +kernel
    exact this d hd))
  have h10 : (1 : Int) ≤ 2 ^ d := Int.pow_pos (by omega)
  simp only [w_l_take, sRaise, sTry, wIsX, wWhat, wBack, lo_lst, e_mulV, sizeL, sNil, sSeq, sPass, sBrk, sCont, sExpr, sRet, sRetN, sIf, sNever, sSet, sAug, gNm, gTp, gNil', gCons', gSb, sAsg, sPar, sFor, wVar_z, wVar_s, wC, wChn, wTru, sPar3, wRev, wCallK, permF, List.filterMap_cons, List.filterMap_nil, wBin, wUn, wTst, wNot, wAnd, wOr, wAndV, wOrV, wNotV, wIf, wNil, wCons, wTup, wLst, wLstL, wFz, wCall, wBi, wMt, wMt0, wSl, wSlL, wPart, wNoPart, wYes, wSeq, wRg1, wRg2, wEnum, wZip, wLc, wLcL, wLRg, wFld, sFldS, sFldA, gFld, wMeth, wMake, lvl2_s, onB, e_eqI, e_neI, e_eqB, e_neB, e_eqS, e_neS, e_eqN, e_tyLT, e_ty1, isTys, tyMem, tyN_non, tyN_bl, tyN_int, tyN_str, tyN_tup, tyN_lst, Bool.true_or, Bool.or_true, Bool.or_false, Bool.false_or, Bool.not_true, Bool.not_false, inn_non, inn_bl, inn_int, inn_str, inn_tup, inn_lst, inn_ptr, e_slT, e_slL, e_slN, isT_P, isT_L, isT_T, isT_N, e_sub, e_fdiv, e_mod, e_pow, e_lt, e_le, e_gt, e_ge, e_neg, e_add, e_addS, e_addT, e_addL, e_addPP, e_addPL, e_addLP, e_mul, e_mulL, e_mulT, e_augI, e_ixT, e_ixL, e_ixN, e_ixP, e_lenT, e_lenL, e_lenN, e_lenS, e_lenP, e_abs, e_intI, e_intB, e_max, e_min, e_tupL, e_tupT, e_listL, e_listT, e_listN, e_listLL, e_listLT, e_divmod, e_isNon, e_isntNon, e_isB, e_isntB, e_setIx, e_insert, e_append, e_isL, e_isLL, e_seqP, e_seqL, e_seqT, e_seqN, it_lst, it_fz, Option.bind_some, Option.isSome_some, ix10, ix20, ix21, ix30, ix32, dl1, dl2, dl3, List.eraseIdx_cons_zero, e_pop0, e_popAt, e_rev, e_clear, e_tupP, e_listP, e_neN, e_neIN, e_neNI, e_eqIN, e_eqNI, at0, at1, at2, at3, Cell.lst.injEq, Cell.obj.injEq, Option.some.injEq, exists_eq_left', decide_eq_true_eq, true_and, and_true, cup_same, cup_cup, List.flatten_nil, List.flatten_cons, enOf, endOf, excOf, List.map_cons, List.map_nil, List.length_cons, List.length_nil, List.replicate, Nat.reduceAdd, Nat.reduceSub, List.cons_append, List.nil_append, List.set_cons_zero, List.set_cons_succ, List.getElem?_cons_zero, List.getElem?_cons_succ, List.getElem_cons_zero, List.getElem_cons_succ, reduceCtorEq, if_true, if_false, Bool.false_eq_true, decide_true, decide_false, ne_eq, not_true, not_false_eq_true, Int.reduceEq, Nat.reduceMul, true_imp_iff, Int.reduceToNat, Int.reducePow, Nat.reducePow, Int.reduceLE, Int.reduceLT, Nat.reduceLT, and_self, Nat.reduceLeDiff, Int.reduceNeg, Int.reduceAdd, Int.reduceSub, Int.reduceMul, Int.cast_ofNat_Int, hc]
  split
  · refine ⟨h0, hlg, _, CLe.refl _, q _ _ (Int.emod_nonneg _ (by omega)) (Int.emod_lt_of_pos _ h0) (Up.mk ⟨Int.ediv_nonneg ha (by omega), hb, hb', hn, by omega⟩)⟩
  · split
    · rename_i h7
      cases d with
      | zero => simp at h1; omega
      | succ d =>
        cases k with
        | zero => omega
        | succ k =>
          have e2 : (2 : Int) ^ (d + 1) = 2 ^ d + 2 ^ d := by rw [Int.pow_succ]; omega
          have e1 : (1 : Int) ≤ 2 ^ d := Int.pow_pos (by omega)
          rw [e2] at hlim q
          refine ⟨p, _, N, 0, rfl, by omega, by omega, by omega, by omega, ⟨a, b, n, hc, ha, hb, hb', hn, hN⟩, by simp; omega, fun r c1 r0 r1 u1 => ⟨by decide, ?_⟩⟩
          have s2 : (s - 1) / 10000000 + 1 ≤ (10000000 : Int) ^ (d + 1) := by
            rw [Int.pow_succ] at h1
            omega
          refine ⟨p, _, N + 1, d, rfl, by omega, by omega, by omega, s2, u1.1.le (by simp), by omega, fun r2 c2 r3 r4 u2 => ?_⟩
          simp only [sRaise, sTry, wIsX, wWhat, wBack, lo_lst, e_mulV, sizeL, sNil, sSeq, sPass, sBrk, sCont, sExpr, sRet, sRetN, sIf, sNever, sSet, sAug, gNm, gTp, gNil', gCons', gSb, sAsg, sPar, sFor, wVar_z, wVar_s, wC, wChn, wTru, sPar3, wRev, wCallK, permF, List.filterMap_cons, List.filterMap_nil, wBin, wUn, wTst, wNot, wAnd, wOr, wAndV, wOrV, wNotV, wIf, wNil, wCons, wTup, wLst, wLstL, wFz, wCall, wBi, wMt, wMt0, wSl, wSlL, wPart, wNoPart, wYes, wSeq, wRg1, wRg2, wEnum, wZip, wLc, wLcL, wLRg, wFld, sFldS, sFldA, gFld, wMeth, wMake, lvl2_s, onB, e_eqI, e_neI, e_eqB, e_neB, e_eqS, e_neS, e_eqN, e_tyLT, e_ty1, isTys, tyMem, tyN_non, tyN_bl, tyN_int, tyN_str, tyN_tup, tyN_lst, Bool.true_or, Bool.or_true, Bool.or_false, Bool.false_or, Bool.not_true, Bool.not_false, inn_non, inn_bl, inn_int, inn_str, inn_tup, inn_lst, inn_ptr, e_slT, e_slL, e_slN, isT_P, isT_L, isT_T, isT_N, e_sub, e_fdiv, e_mod, e_pow, e_lt, e_le, e_gt, e_ge, e_neg, e_add, e_addS, e_addT, e_addL, e_addPP, e_addPL, e_addLP, e_mul, e_mulL, e_mulT, e_augI, e_ixT, e_ixL, e_ixN, e_ixP, e_lenT, e_lenL, e_lenN, e_lenS, e_lenP, e_abs, e_intI, e_intB, e_max, e_min, e_tupL, e_tupT, e_listL, e_listT, e_listN, e_listLL, e_listLT, e_divmod, e_isNon, e_isntNon, e_isB, e_isntB, e_setIx, e_insert, e_append, e_isL, e_isLL, e_seqP, e_seqL, e_seqT, e_seqN, it_lst, it_fz, Option.bind_some, Option.isSome_some, ix10, ix20, ix21, ix30, ix32, dl1, dl2, dl3, List.eraseIdx_cons_zero, e_pop0, e_popAt, e_rev, e_clear, e_tupP, e_listP, e_neN, e_neIN, e_neNI, e_eqIN, e_eqNI, at0, at1, at2, at3, Cell.lst.injEq, Cell.obj.injEq, Option.some.injEq, exists_eq_left', decide_eq_true_eq, true_and, and_true, cup_same, cup_cup]
          refine ⟨mul64 (by omega) (by omega), h0, _, CLe.refl _, q _ _ (Int.emod_nonneg _ (by omega)) (Int.emod_lt_of_pos _ h0) ((u1.trans u2).le (by omega))⟩
    · have m1 := Int.emod_nonneg ((b + 39373 * (n + 1)) * (69621 + (n + 1) * (n + 1))) (show (2147483587 : Int) ≠ 0 by omega)
      have m2 := Int.emod_lt_of_pos ((b + 39373 * (n + 1)) * (69621 + (n + 1) * (n + 1))) (show (0 : Int) < 2147483587 by omega)
      refine ⟨mul64 (by omega) (by omega), mul64 (by omega) (by omega), mul64 (by omega) (by omega), mul64 m1 (by omega), ?_⟩
      generalize (b + 39373 * (n + 1)) * (69621 + (n + 1) * (n + 1)) % 2147483587 = u at *
      generalize u * (u % 30011 + 5) + (n + 1) = v
      have m1 := Int.emod_nonneg v (show (2147483563 : Int) ≠ 0 by omega)
      have m2 := Int.emod_lt_of_pos v (show (0 : Int) < 2147483563 by omega)
      refine ⟨mul64 m1 (by omega), by decide, h0, _, CLe.refl _, q _ _ (Int.emod_nonneg _ (by omega)) (Int.emod_lt_of_pos _ h0) (Up.mk ⟨ha, hb, hb', by omega, by omega⟩)⟩
/-- a box's number is taken: for use at a level of at least six -/
theorem take_use {k : Nat} {p : Addr} {s N : Int} {c : Cs} {Q : DK} {X0 : XK0} (hk : 6 ≤ k) (h0 : 0 < s) (h1 : s ≤ 1000000000000000000000000000000000000000000) (hb : Bx p N c) (hN : N + 32 ≤ 70368744177664)
    (q : ∀ r c', 0 ≤ r → r < s → Up p (N + 32) c c' → Q (.int r) c') : lvl c_l_take k [.ptr p, .int s] c Q X0 := by
  cases k with
  | zero => omega
  | succ k => exact ⟨p, s, N, 5, rfl, by omega, by omega, h0, h1, hb, hN, q⟩
theorem take_us {k : Nat} {p : Addr} {s N : Int} {c : Cs} {Q : DK} {X0 : XK0} (hk : 5 ≤ k) (h0 : 0 < s) (h1 : s ≤ 1000000000000000000000000000000000000000000) (hb : Bx p N c) (hN : N + 32 ≤ 70368744177664)
    (q : ∀ r c', 0 ≤ r → r < s → Up p (N + 32) c c' → Q (.int r) c') : c_l_take k [.ptr p, .int s] c Q X0 := ⟨p, s, N, 5, rfl, by omega, by omega, h0, h1, hb, hN, q⟩
def c_l_box (k : Nat) : Ctr := fun ds c Q _ => ∃ (l : List Int) (j : Int), ds = [.lst (l.map .int), .int j] ∧ 0 ≤ j ∧ j < 1000 ∧ ∀ p c', c p = none → Up p 0 c c' → Q (.ptr p) c'
def w_l_box (k : Nat) : WS := (sSeq (sSet 2 (wIf (wTst (wBin oLt (wVar 1) (wBi oLen (wCons (wVar 0) wNil)))) (wBin oIx (wVar 0) (wVar 1)) (wC (.int 0)))) (sRet (wLstL (wCons (wBin oMul (wBi oAbs (wCons (wVar 2) wNil)) (wBi oInt (wCons (wBin oGe (wBi oAbs (wCons (wVar 2) wNil)) (wBin oPow (wC (.int 10)) (wC (.int 18)))) wNil))) (wCons (wBin oMod (wBin oMul (wBin oAdd (wBin oAdd (wBin oMod (wVar 2) (wC (.int 2147483629))) (wBin oMul (wC (.int 15485863)) (wVar 1))) (wC (.int 43))) (wC (.int 48271))) (wC (.int 2147483647))) (wCons (wC (.int 0)) wNil))))))
theorem p_l_box (k : Nat) (ds : List D) (c : Cs) (Q : DK) (X0 : XK0) (hlen0 : ds.length = 2) (h : c_l_box k ds c Q X0) : w_l_box k (endOf Q) (excOf X0) (enOf 3 ds) c := by
  obtain ⟨l, j, rfl, h0, h1, q⟩ := h
  have fin : ∀ v : Int, MulOk (if v < 0 then -v else v) (if (1000000000000000000 : Int) ≤ (if v < 0 then -v else v) then 1 else 0) ∧ MulOk 15485863 j ∧ MulOk (v % 2147483629 + 15485863 * j + 43) 48271 ∧
      ∀ p, c p = none → ∃ c0, CLe c0 (cup c p (Cell.lst [D.int ((if v < 0 then -v else v) * if (1000000000000000000 : Int) ≤ (if v < 0 then -v else v) then 1 else 0), D.int ((v % 2147483629 + 15485863 * j + 43) * 48271 % 2147483647), D.int 0])) ∧ Q (D.ptr p) c0 := by
    intro v
    have hv : (0 : Int) ≤ if v < 0 then -v else v := by split <;> omega
    refine ⟨mul64' (by split <;> omega) (by split <;> omega), mul64 (by omega) (by omega), mul64' (by omega) (by omega), fun p hp => ⟨_, CLe.refl _, q p _ hp (Up.mk ⟨?_, ?_, ?_, by omega, by omega⟩)⟩⟩
    · exact Int.mul_nonneg hv (by split <;> omega)
    · exact Int.emod_nonneg _ (by omega)
    · have := Int.emod_lt_of_pos ((v % 2147483629 + 15485863 * j + 43) * 48271) (show (0 : Int) < 2147483647 by omega)
      omega
  simp only [w_l_box, sRaise, sTry, wIsX, wWhat, wBack, lo_lst, e_mulV, sizeL, sNil, sSeq, sPass, sBrk, sCont, sExpr, sRet, sRetN, sIf, sNever, sSet, sAug, gNm, gTp, gNil', gCons', gSb, sAsg, sPar, sFor, wVar_z, wVar_s, wC, wChn, wTru, sPar3, wRev, wCallK, permF, List.filterMap_cons, List.filterMap_nil, wBin, wUn, wTst, wNot, wAnd, wOr, wAndV, wOrV, wNotV, wIf, wNil, wCons, wTup, wLst, wLstL, wFz, wCall, wBi, wMt, wMt0, wSl, wSlL, wPart, wNoPart, wYes, wSeq, wRg1, wRg2, wEnum, wZip, wLc, wLcL, wLRg, wFld, sFldS, sFldA, gFld, wMeth, wMake, lvl2_s, onB, e_eqI, e_neI, e_eqB, e_neB, e_eqS, e_neS, e_eqN, e_tyLT, e_ty1, isTys, tyMem, tyN_non, tyN_bl, tyN_int, tyN_str, tyN_tup, tyN_lst, Bool.true_or, Bool.or_true, Bool.or_false, Bool.false_or, Bool.not_true, Bool.not_false, inn_non, inn_bl, inn_int, inn_str, inn_tup, inn_lst, inn_ptr, e_slT, e_slL, e_slN, isT_P, isT_L, isT_T, isT_N, e_sub, e_fdiv, e_mod, e_pow, e_lt, e_le, e_gt, e_ge, e_neg, e_add, e_addS, e_addT, e_addL, e_addPP, e_addPL, e_addLP, e_mul, e_mulL, e_mulT, e_augI, e_ixT, e_ixL, e_ixN, e_ixP, e_lenT, e_lenL, e_lenN, e_lenS, e_lenP, e_abs, e_intI, e_intB, e_max, e_min, e_tupL, e_tupT, e_listL, e_listT, e_listN, e_listLL, e_listLT, e_divmod, e_isNon, e_isntNon, e_isB, e_isntB, e_setIx, e_insert, e_append, e_isL, e_isLL, e_seqP, e_seqL, e_seqT, e_seqN, it_lst, it_fz, Option.bind_some, Option.isSome_some, ix10, ix20, ix21, ix30, ix32, dl1, dl2, dl3, List.eraseIdx_cons_zero, e_pop0, e_popAt, e_rev, e_clear, e_tupP, e_listP, e_neN, e_neIN, e_neNI, e_eqIN, e_eqNI, at0, at1, at2, at3, Cell.lst.injEq, Cell.obj.injEq, Option.some.injEq, exists_eq_left', decide_eq_true_eq, true_and, and_true, cup_same, cup_cup, List.flatten_nil, List.flatten_cons, enOf, endOf, excOf, List.map_cons, List.map_nil, List.length_cons, List.length_nil, List.replicate, Nat.reduceAdd, Nat.reduceSub, List.cons_append, List.nil_append, List.set_cons_zero, List.set_cons_succ, List.getElem?_cons_zero, List.getElem?_cons_succ, List.getElem_cons_zero, List.getElem_cons_succ, reduceCtorEq, if_true, if_false, Bool.false_eq_true, decide_true, decide_false, ne_eq, not_true, not_false_eq_true, Int.reduceEq, Nat.reduceMul, true_imp_iff, Int.reduceToNat, Int.reducePow, Nat.reducePow, Int.reduceLE, Int.reduceLT, Nat.reduceLT, and_self, Nat.reduceLeDiff, Int.reduceNeg, Int.reduceAdd, Int.reduceSub, Int.reduceMul, Int.cast_ofNat_Int]
  split
  · rename_i hj
    rw [List.length_map] at hj
    have e : atI (l.map D.int) j = some (.int (l[j.toNat]'(by omega))) := by
      rw [atI_of h0, List.getElem?_map, List.getElem?_eq_getElem (by omega)]
      rfl
    simp only [e, sRaise, sTry, wIsX, wWhat, wBack, lo_lst, e_mulV, sizeL, sNil, sSeq, sPass, sBrk, sCont, sExpr, sRet, sRetN, sIf, sNever, sSet, sAug, gNm, gTp, gNil', gCons', gSb, sAsg, sPar, sFor, wVar_z, wVar_s, wC, wChn, wTru, sPar3, wRev, wCallK, permF, List.filterMap_cons, List.filterMap_nil, wBin, wUn, wTst, wNot, wAnd, wOr, wAndV, wOrV, wNotV, wIf, wNil, wCons, wTup, wLst, wLstL, wFz, wCall, wBi, wMt, wMt0, wSl, wSlL, wPart, wNoPart, wYes, wSeq, wRg1, wRg2, wEnum, wZip, wLc, wLcL, wLRg, wFld, sFldS, sFldA, gFld, wMeth, wMake, lvl2_s, onB, e_eqI, e_neI, e_eqB, e_neB, e_eqS, e_neS, e_eqN, e_tyLT, e_ty1, isTys, tyMem, tyN_non, tyN_bl, tyN_int, tyN_str, tyN_tup, tyN_lst, Bool.true_or, Bool.or_true, Bool.or_false, Bool.false_or, Bool.not_true, Bool.not_false, inn_non, inn_bl, inn_int, inn_str, inn_tup, inn_lst, inn_ptr, e_slT, e_slL, e_slN, isT_P, isT_L, isT_T, isT_N, e_sub, e_fdiv, e_mod, e_pow, e_lt, e_le, e_gt, e_ge, e_neg, e_add, e_addS, e_addT, e_addL, e_addPP, e_addPL, e_addLP, e_mul, e_mulL, e_mulT, e_augI, e_ixT, e_ixL, e_ixN, e_ixP, e_lenT, e_lenL, e_lenN, e_lenS, e_lenP, e_abs, e_intI, e_intB, e_max, e_min, e_tupL, e_tupT, e_listL, e_listT, e_listN, e_listLL, e_listLT, e_divmod, e_isNon, e_isntNon, e_isB, e_isntB, e_setIx, e_insert, e_append, e_isL, e_isLL, e_seqP, e_seqL, e_seqT, e_seqN, it_lst, it_fz, Option.bind_some, Option.isSome_some, ix10, ix20, ix21, ix30, ix32, dl1, dl2, dl3, List.eraseIdx_cons_zero, e_pop0, e_popAt, e_rev, e_clear, e_tupP, e_listP, e_neN, e_neIN, e_neNI, e_eqIN, e_eqNI, at0, at1, at2, at3, Cell.lst.injEq, Cell.obj.injEq, Option.some.injEq, exists_eq_left', decide_eq_true_eq, true_and, and_true, cup_same, cup_cup, List.flatten_nil, List.flatten_cons, enOf, endOf, excOf, List.map_cons, List.map_nil, List.length_cons, List.length_nil, List.replicate, Nat.reduceAdd, Nat.reduceSub, List.cons_append, List.nil_append, List.set_cons_zero, List.set_cons_succ, List.getElem?_cons_zero, List.getElem?_cons_succ, List.getElem_cons_zero, List.getElem_cons_succ, reduceCtorEq, if_true, if_false, Bool.false_eq_true, decide_true, decide_false, ne_eq, not_true, not_false_eq_true, Int.reduceEq, Nat.reduceMul, true_imp_iff, Int.reduceToNat, Int.reducePow, Nat.reducePow, Int.reduceLE, Int.reduceLT, Nat.reduceLT, and_self, Nat.reduceLeDiff, Int.reduceNeg, Int.reduceAdd, Int.reduceSub, Int.reduceMul, Int.cast_ofNat_Int]
    exact fin _
  · simpa only [sRaise, sTry, wIsX, wWhat, wBack, lo_lst, e_mulV, sizeL, sNil, sSeq, sPass, sBrk, sCont, sExpr, sRet, sRetN, sIf, sNever, sSet, sAug, gNm, gTp, gNil', gCons', gSb, sAsg, sPar, sFor, wVar_z, wVar_s, wC, wChn, wTru, sPar3, wRev, wCallK, permF, List.filterMap_cons, List.filterMap_nil, wBin, wUn, wTst, wNot, wAnd, wOr, wAndV, wOrV, wNotV, wIf, wNil, wCons, wTup, wLst, wLstL, wFz, wCall, wBi, wMt, wMt0, wSl, wSlL, wPart, wNoPart, wYes, wSeq, wRg1, wRg2, wEnum, wZip, wLc, wLcL, wLRg, wFld, sFldS, sFldA, gFld, wMeth, wMake, lvl2_s, onB, e_eqI, e_neI, e_eqB, e_neB, e_eqS, e_neS, e_eqN, e_tyLT, e_ty1, isTys, tyMem, tyN_non, tyN_bl, tyN_int, tyN_str, tyN_tup, tyN_lst, Bool.true_or, Bool.or_true, Bool.or_false, Bool.false_or, Bool.not_true, Bool.not_false, inn_non, inn_bl, inn_int, inn_str, inn_tup, inn_lst, inn_ptr, e_slT, e_slL, e_slN, isT_P, isT_L, isT_T, isT_N, e_sub, e_fdiv, e_mod, e_pow, e_lt, e_le, e_gt, e_ge, e_neg, e_add, e_addS, e_addT, e_addL, e_addPP, e_addPL, e_addLP, e_mul, e_mulL, e_mulT, e_augI, e_ixT, e_ixL, e_ixN, e_ixP, e_lenT, e_lenL, e_lenN, e_lenS, e_lenP, e_abs, e_intI, e_intB, e_max, e_min, e_tupL, e_tupT, e_listL, e_listT, e_listN, e_listLL, e_listLT, e_divmod, e_isNon, e_isntNon, e_isB, e_isntB, e_setIx, e_insert, e_append, e_isL, e_isLL, e_seqP, e_seqL, e_seqT, e_seqN, it_lst, it_fz, Option.bind_some, Option.isSome_some, ix10, ix20, ix21, ix30, ix32, dl1, dl2, dl3, List.eraseIdx_cons_zero, e_pop0, e_popAt, e_rev, e_clear, e_tupP, e_listP, e_neN, e_neIN, e_neNI, e_eqIN, e_eqNI, at0, at1, at2, at3, Cell.lst.injEq, Cell.obj.injEq, Option.some.injEq, exists_eq_left', decide_eq_true_eq, true_and, and_true, cup_same, cup_cup, List.flatten_nil, List.flatten_cons, enOf, endOf, excOf, List.map_cons, List.map_nil, List.length_cons, List.length_nil, List.replicate, Nat.reduceAdd, Nat.reduceSub, List.cons_append, List.nil_append, List.set_cons_zero, List.set_cons_succ, List.getElem?_cons_zero, List.getElem?_cons_succ, List.getElem_cons_zero, List.getElem_cons_succ, reduceCtorEq, if_true, if_false, Bool.false_eq_true, decide_true, decide_false, ne_eq, not_true, not_false_eq_true, Int.reduceEq, Nat.reduceMul, true_imp_iff, Int.reduceToNat, Int.reducePow, Nat.reducePow, Int.reduceLE, Int.reduceLT, Nat.reduceLT, and_self, Nat.reduceLeDiff, Int.reduceNeg, Int.reduceAdd, Int.reduceSub, Int.reduceMul, Int.cast_ofNat_Int] using fin 0
def c_l_folded (k : Nat) : Ctr := fun ds c Q _ => ∃ (ns : List Int) (n : Int), ds = [.scr ns, .int n] ∧ ns.length ≤ 63 ∧ 0 < n ∧ n ≤ 63 ∧ ∀ ms : List Int, (ms.length : Int) ≤ n → Q (.lst (ms.map .int)) c
def w_l_folded (k : Nat) : WS := (sSeq (sSet 2 (wBi oListL (wCons (wSl (wVar 0) wNoPart (wPart (wVar 1))) wNil))) (sSeq (sFor (wEnum (wSl (wVar 0) (wPart (wVar 1)) (wPart (wC (.int 63))))) (.tup [(.nm 3), (.nm 4)]) (sAsg (wBin oAdd (wBin oIx (wVar 2) (wBin oMod (wVar 3) (wVar 1))) (wBin oMul (wVar 4) (wBin oAdd (wVar 3) (wC (.int 2))))) (gSb (wVar 2) (wBin oMod (wVar 3) (wVar 1))))) (sRet (wFz (wVar 2)))))
theorem p_l_folded (k : Nat) (ds : List D) (c : Cs) (Q : DK) (X0 : XK0) (hlen0 : ds.length = 2) (h : c_l_folded k ds c Q X0) : w_l_folded k (endOf Q) (excOf X0) (enOf 5 ds) c := by
  obtain ⟨ns, n, rfl, h63, h0, h1, q⟩ := h
  simp only [w_l_folded, sRaise, sTry, wIsX, wWhat, wBack, lo_lst, e_mulV, sizeL, sNil, sSeq, sPass, sBrk, sCont, sExpr, sRet, sRetN, sIf, sNever, sSet, sAug, gNm, gTp, gNil', gCons', gSb, sAsg, sPar, sFor, wVar_z, wVar_s, wC, wChn, wTru, sPar3, wRev, wCallK, permF, List.filterMap_cons, List.filterMap_nil, wBin, wUn, wTst, wNot, wAnd, wOr, wAndV, wOrV, wNotV, wIf, wNil, wCons, wTup, wLst, wLstL, wFz, wCall, wBi, wMt, wMt0, wSl, wSlL, wPart, wNoPart, wYes, wSeq, wRg1, wRg2, wEnum, wZip, wLc, wLcL, wLRg, wFld, sFldS, sFldA, gFld, wMeth, wMake, lvl2_s, onB, e_eqI, e_neI, e_eqB, e_neB, e_eqS, e_neS, e_eqN, e_tyLT, e_ty1, isTys, tyMem, tyN_non, tyN_bl, tyN_int, tyN_str, tyN_tup, tyN_lst, Bool.true_or, Bool.or_true, Bool.or_false, Bool.false_or, Bool.not_true, Bool.not_false, inn_non, inn_bl, inn_int, inn_str, inn_tup, inn_lst, inn_ptr, e_slT, e_slL, e_slN, isT_P, isT_L, isT_T, isT_N, e_sub, e_fdiv, e_mod, e_pow, e_lt, e_le, e_gt, e_ge, e_neg, e_add, e_addS, e_addT, e_addL, e_addPP, e_addPL, e_addLP, e_mul, e_mulL, e_mulT, e_augI, e_ixT, e_ixL, e_ixN, e_ixP, e_lenT, e_lenL, e_lenN, e_lenS, e_lenP, e_abs, e_intI, e_intB, e_max, e_min, e_tupL, e_tupT, e_listL, e_listT, e_listN, e_listLL, e_listLT, e_divmod, e_isNon, e_isntNon, e_isB, e_isntB, e_setIx, e_insert, e_append, e_isL, e_isLL, e_seqP, e_seqL, e_seqT, e_seqN, it_lst, it_fz, Option.bind_some, Option.isSome_some, ix10, ix20, ix21, ix30, ix32, dl1, dl2, dl3, List.eraseIdx_cons_zero, e_pop0, e_popAt, e_rev, e_clear, e_tupP, e_listP, e_neN, e_neIN, e_neNI, e_eqIN, e_eqNI, at0, at1, at2, at3, Cell.lst.injEq, Cell.obj.injEq, Option.some.injEq, exists_eq_left', decide_eq_true_eq, true_and, and_true, cup_same, cup_cup, List.flatten_nil, List.flatten_cons, enOf, endOf, excOf, List.map_cons, List.map_nil, List.length_cons, List.length_nil, List.replicate, Nat.reduceAdd, Nat.reduceSub, List.cons_append, List.nil_append, List.set_cons_zero, List.set_cons_succ, List.getElem?_cons_zero, List.getElem?_cons_succ, List.getElem_cons_zero, List.getElem_cons_succ, reduceCtorEq, if_true, if_false, Bool.false_eq_true, decide_true, decide_false, ne_eq, not_true, not_false_eq_true, Int.reduceEq, Nat.reduceMul, true_imp_iff, Int.reduceToNat, Int.reducePow, Nat.reducePow, Int.reduceLE, Int.reduceLT, Nat.reduceLT, and_self, Nat.reduceLeDiff, Int.reduceNeg, Int.reduceAdd, Int.reduceSub, Int.reduceMul, Int.cast_ofNat_Int]
  intro p hp _
  rw [cutL_to (by omega)]
  have hsz : ∀ i : Int, 0 ≤ i % n ∧ i % n < n := fun i => ⟨Int.emod_nonneg _ (by omega), Int.emod_lt_of_pos _ h0⟩
  refine loop_inv (fun i en c' => i ≤ 63 ∧ ∃ ms : List Int, ∃ o3 o4, en = [some (.scr ns), some (.int n), some (.ptr p), o3, o4] ∧ (ms.length : Int) ≤ n ∧ (i < ((cutL ns (some n) (some 63)).map D.int).length → (ms.length : Int) = n) ∧ c' = cup c p (.lst (ms.map .int)))
    ⟨by omega, ns.take n.toNat, _, _, rfl, by rw [List.length_take]; omega, ?_, rfl⟩ ?_ ?_
  · unfold cutL
    rw [List.length_map, List.length_take, List.length_drop, List.length_take]
    have : HT.sIx ns.length 0 (some n) = min n.toNat ns.length := by
      show (if n < 0 then (n + (ns.length : Int)).toNat else min n.toNat ns.length) = _
      rw [if_neg (by omega)]
    omega
  · rintro i en c' d hd ⟨hi, ms, o3, o4, rfl, h2, h3, rfl⟩
    obtain ⟨e, he, rfl⟩ := enD_get _ _ _ _ hd
    have hlt := (List.getElem?_eq_some_iff.mp he).1
    rw [List.getElem?_map] at he
    cases hv : (cutL ns (some n) (some 63))[i]? with
    | none => rw [hv] at he; cases he
    | some v =>
      rw [hv] at he
      cases he
      have hl := h3 hlt
      refine ⟨trivial, _, rfl, fun D1 h4 h5 h6 h7 => ?_⟩
      have hm := hsz ((0 + i : Nat) : Int)
      generalize hmm : ((0 + i : Nat) : Int) % n = m at hm
      have e : atI (ms.map D.int) m = some (.int (ms[m.toNat]'(by omega))) := by
        rw [atI_of hm.1, List.getElem?_map, List.getElem?_eq_getElem (by omega)]
        rfl
      have hcut : (cutL ns (some n) (some 63)).length ≤ 63 := by
        unfold cutL
        rw [List.length_take, List.length_drop]
        omega
      rw [List.length_map] at hlt
      simp only [sRaise, sTry, wIsX, wWhat, wBack, lo_lst, e_mulV, sizeL, sNil, sSeq, sPass, sBrk, sCont, sExpr, sRet, sRetN, sIf, sNever, sSet, sAug, gNm, gTp, gNil', gCons', gSb, sAsg, sPar, sFor, wVar_z, wVar_s, wC, wChn, wTru, sPar3, wRev, wCallK, permF, List.filterMap_cons, List.filterMap_nil, wBin, wUn, wTst, wNot, wAnd, wOr, wAndV, wOrV, wNotV, wIf, wNil, wCons, wTup, wLst, wLstL, wFz, wCall, wBi, wMt, wMt0, wSl, wSlL, wPart, wNoPart, wYes, wSeq, wRg1, wRg2, wEnum, wZip, wLc, wLcL, wLRg, wFld, sFldS, sFldA, gFld, wMeth, wMake, lvl2_s, onB, e_eqI, e_neI, e_eqB, e_neB, e_eqS, e_neS, e_eqN, e_tyLT, e_ty1, isTys, tyMem, tyN_non, tyN_bl, tyN_int, tyN_str, tyN_tup, tyN_lst, Bool.true_or, Bool.or_true, Bool.or_false, Bool.false_or, Bool.not_true, Bool.not_false, inn_non, inn_bl, inn_int, inn_str, inn_tup, inn_lst, inn_ptr, e_slT, e_slL, e_slN, isT_P, isT_L, isT_T, isT_N, e_sub, e_fdiv, e_mod, e_pow, e_lt, e_le, e_gt, e_ge, e_neg, e_add, e_addS, e_addT, e_addL, e_addPP, e_addPL, e_addLP, e_mul, e_mulL, e_mulT, e_augI, e_ixT, e_ixL, e_ixN, e_ixP, e_lenT, e_lenL, e_lenN, e_lenS, e_lenP, e_abs, e_intI, e_intB, e_max, e_min, e_tupL, e_tupT, e_listL, e_listT, e_listN, e_listLL, e_listLT, e_divmod, e_isNon, e_isntNon, e_isB, e_isntB, e_setIx, e_insert, e_append, e_isL, e_isLL, e_seqP, e_seqL, e_seqT, e_seqN, it_lst, it_fz, Option.bind_some, Option.isSome_some, ix10, ix20, ix21, ix30, ix32, dl1, dl2, dl3, List.eraseIdx_cons_zero, e_pop0, e_popAt, e_rev, e_clear, e_tupP, e_listP, e_neN, e_neIN, e_neNI, e_eqIN, e_eqNI, at0, at1, at2, at3, Cell.lst.injEq, Cell.obj.injEq, Option.some.injEq, exists_eq_left', decide_eq_true_eq, true_and, and_true, cup_same, cup_cup, List.flatten_nil, List.flatten_cons, enOf, endOf, excOf, List.map_cons, List.map_nil, List.length_cons, List.length_nil, List.replicate, Nat.reduceAdd, Nat.reduceSub, List.cons_append, List.nil_append, List.set_cons_zero, List.set_cons_succ, List.getElem?_cons_zero, List.getElem?_cons_succ, List.getElem_cons_zero, List.getElem_cons_succ, reduceCtorEq, if_true, if_false, Bool.false_eq_true, decide_true, decide_false, ne_eq, not_true, not_false_eq_true, Int.reduceEq, Nat.reduceMul, true_imp_iff, Int.reduceToNat, Int.reducePow, Nat.reducePow, Int.reduceLE, Int.reduceLT, Nat.reduceLT, and_self, Nat.reduceLeDiff, Int.reduceNeg, Int.reduceAdd, Int.reduceSub, Int.reduceMul, Int.cast_ofNat_Int, hmm, e]
      refine ⟨h0, mul64' (by omega) (by omega), h0, m.toNat, ixN_of hm.1 (by rw [List.length_map]; omega), ?_⟩
      refine h4 _ _ ⟨by omega, ms.set m.toNat (ms[m.toNat]'(by omega) + v * (((0 + i : Nat) : Int) + 2)), _, _, rfl, by rw [List.length_set]; omega, fun _ => by rw [List.length_set]; omega, ?_⟩
      rw [List.map_set]
  · rintro en c' ⟨_, ms, o3, o4, rfl, h2, _, rfl⟩
    refine ⟨trivial, ?_⟩
    simp only [sRaise, sTry, wIsX, wWhat, wBack, lo_lst, e_mulV, sizeL, sNil, sSeq, sPass, sBrk, sCont, sExpr, sRet, sRetN, sIf, sNever, sSet, sAug, gNm, gTp, gNil', gCons', gSb, sAsg, sPar, sFor, wVar_z, wVar_s, wC, wChn, wTru, sPar3, wRev, wCallK, permF, List.filterMap_cons, List.filterMap_nil, wBin, wUn, wTst, wNot, wAnd, wOr, wAndV, wOrV, wNotV, wIf, wNil, wCons, wTup, wLst, wLstL, wFz, wCall, wBi, wMt, wMt0, wSl, wSlL, wPart, wNoPart, wYes, wSeq, wRg1, wRg2, wEnum, wZip, wLc, wLcL, wLRg, wFld, sFldS, sFldA, gFld, wMeth, wMake, lvl2_s, onB, e_eqI, e_neI, e_eqB, e_neB, e_eqS, e_neS, e_eqN, e_tyLT, e_ty1, isTys, tyMem, tyN_non, tyN_bl, tyN_int, tyN_str, tyN_tup, tyN_lst, Bool.true_or, Bool.or_true, Bool.or_false, Bool.false_or, Bool.not_true, Bool.not_false, inn_non, inn_bl, inn_int, inn_str, inn_tup, inn_lst, inn_ptr, e_slT, e_slL, e_slN, isT_P, isT_L, isT_T, isT_N, e_sub, e_fdiv, e_mod, e_pow, e_lt, e_le, e_gt, e_ge, e_neg, e_add, e_addS, e_addT, e_addL, e_addPP, e_addPL, e_addLP, e_mul, e_mulL, e_mulT, e_augI, e_ixT, e_ixL, e_ixN, e_ixP, e_lenT, e_lenL, e_lenN, e_lenS, e_lenP, e_abs, e_intI, e_intB, e_max, e_min, e_tupL, e_tupT, e_listL, e_listT, e_listN, e_listLL, e_listLT, e_divmod, e_isNon, e_isntNon, e_isB, e_isntB, e_setIx, e_insert, e_append, e_isL, e_isLL, e_seqP, e_seqL, e_seqT, e_seqN, it_lst, it_fz, Option.bind_some, Option.isSome_some, ix10, ix20, ix21, ix30, ix32, dl1, dl2, dl3, List.eraseIdx_cons_zero, e_pop0, e_popAt, e_rev, e_clear, e_tupP, e_listP, e_neN, e_neIN, e_neNI, e_eqIN, e_eqNI, at0, at1, at2, at3, Cell.lst.injEq, Cell.obj.injEq, Option.some.injEq, exists_eq_left', decide_eq_true_eq, true_and, and_true, cup_same, cup_cup, List.flatten_nil, List.flatten_cons, enOf, endOf, excOf, List.map_cons, List.map_nil, List.length_cons, List.length_nil, List.replicate, Nat.reduceAdd, Nat.reduceSub, List.cons_append, List.nil_append, List.set_cons_zero, List.set_cons_succ, List.getElem?_cons_zero, List.getElem?_cons_succ, List.getElem_cons_zero, List.getElem_cons_succ, reduceCtorEq, if_true, if_false, Bool.false_eq_true, decide_true, decide_false, ne_eq, not_true, not_false_eq_true]
    exact ⟨c, CLe.cup_new hp, q ms h2⟩
theorem RdsE.zip {c : Cs} : ∀ {l m : List D}, RdsE c l m → ∀ d ∈ List.zipWith (fun x y => D.tup [x, y]) l m, ∃ x y, d = .tup [x, y] ∧ RdE c x y ∧ y ∈ m
  | _, _, .nil, _, h => by simp at h
  | _, _, .cons r h, d, hd => by
    rw [List.zipWith_cons_cons] at hd
    rcases List.mem_cons.mp hd with rfl | hd
    · exact ⟨_, _, rfl, r, List.mem_cons_self ..⟩
    · obtain ⟨x, y, e, h1, h2⟩ := RdsE.zip h d hd
      exact ⟨x, y, e, h1, List.mem_cons_of_mem _ h2⟩
def c_l_same (k : Nat) : Ctr := fun ds c Q _ => ∃ x y, ds = [x, y] ∧ RdE c x y ∧ dep y ≤ k ∧ Q (.bl true) c
theorem same_of {k : Nat} {x : D} {c : Cs} {Q : DK} {X0 : XK0} (h : pl x = true) (hd : dep x ≤ k) (q : Q (.bl true) c) : c_l_same k [x, x] c Q X0 := ⟨x, x, rfl, .self h, hd, q⟩
def w_l_same (k : Nat) : WS := (sSeq (sIf (wTst (wBi oIsi (wCons (wVar 1) (wCons (wTup (wCons (wC (.ty "list")) (wCons (wC (.ty "tuple")) wNil))) wNil)))) (sSeq (sIf (wOr (wTst (wBin oNe (wBi oIsi (wCons (wVar 0) (wCons (wC (.ty "list")) wNil))) (wBi oIsi (wCons (wVar 1) (wCons (wC (.ty "list")) wNil))))) (wTst (wBin oNe (wBi oIsi (wCons (wVar 0) (wCons (wC (.ty "tuple")) wNil))) (wBi oIsi (wCons (wVar 1) (wCons (wC (.ty "tuple")) wNil)))))) (sRet (wC (.bl false))) sNil) (sRet (wAndV (wBin oEq (wBi oLen (wCons (wVar 0) wNil)) (wBi oLen (wCons (wVar 1) wNil))) (wBi oAll (wCons (wLc (wZip (wVar 0) (wVar 1)) (.tup [(.nm 2), (.nm 3)]) wYes (wCall 2 c_l_same k (wCons (wVar 2) (wCons (wVar 3) wNil))) [2, 3]) wNil))))) sNil) (sSeq (sIf (wOr (wTst (wBin oIs (wVar 1) (wC .non))) (wTst (wBi oIsi (wCons (wVar 1) (wCons (wC (.ty "str")) wNil))))) (sRet (wAndV (wBin oEq (wVar 0) (wVar 1)) (wBin oEq (wBi oIsi (wCons (wVar 0) (wCons (wC (.ty "str")) wNil))) (wBi oIsi (wCons (wVar 1) (wCons (wC (.ty "str")) wNil)))))) sNil) (sRet (wAndV (wBi oIsi (wCons (wVar 0) (wCons (wC (.ty "int")) wNil))) (wAndV (wBin oEq (wBi oIsi (wCons (wVar 0) (wCons (wC (.ty "bool")) wNil))) (wBi oIsi (wCons (wVar 1) (wCons (wC (.ty "bool")) wNil)))) (wBin oEq (wVar 0) (wVar 1)))))))
theorem p_l_same (k : Nat) (ds : List D) (c : Cs) (Q : DK) (X0 : XK0) (hlen0 : ds.length = 2) (h : c_l_same k ds c Q X0) : w_l_same k (endOf Q) (excOf X0) (enOf 4 ds) c := by
  obtain ⟨x, y, rfl, hr, hd, q⟩ := h
  have rt : ∃ c0, CLe c0 c ∧ Q (.bl true) c0 := ⟨c, CLe.refl _, q⟩
  have seq : ∀ (chk : Cs → Prop) (x y : D) (l m : List D), chk c → RdsE c l m → deps m + 1 ≤ k → m.length ≤ sizeLine → 
      lcW chk (Tg.tup [Tg.nm 2, Tg.nm 3]) wYes (wCall 2 c_l_same k (wCons (wVar 2) (wCons (wVar 3) wNil))) [2, 3] [some x, some y, none, none]
      (fun acc c' => oAll [.lst acc] c' fun d c1 => ∃ c0, CLe c0 c1 ∧ Q d c0) (List.zipWith (fun x y => D.tup [x, y]) l m) [] c := by
    intro chk x y l m hchk hl hd hz
    refine lc_map (fun _ => .bl true) hchk (fun d hd' => ?_) ?_
    · obtain ⟨u, v, rfl, h1, h2⟩ := hl.zip d hd'
      refine ⟨_, rfl, fun Q q => ?_⟩
      simp only [sRaise, sTry, wIsX, wWhat, wBack, lo_lst, e_mulV, sizeL, sNil, sSeq, sPass, sBrk, sCont, sExpr, sRet, sRetN, sIf, sNever, sSet, sAug, gNm, gTp, gNil', gCons', gSb, sAsg, sPar, sFor, wVar_z, wVar_s, wC, wChn, wTru, sPar3, wRev, wCallK, permF, List.filterMap_cons, List.filterMap_nil, wBin, wUn, wTst, wNot, wAnd, wOr, wAndV, wOrV, wNotV, wIf, wNil, wCons, wTup, wLst, wLstL, wFz, wCall, wBi, wMt, wMt0, wSl, wSlL, wPart, wNoPart, wYes, wSeq, wRg1, wRg2, wEnum, wZip, wLc, wLcL, wLRg, wFld, sFldS, sFldA, gFld, wMeth, wMake, lvl2_s, onB, e_eqI, e_neI, e_eqB, e_neB, e_eqS, e_neS, e_eqN, e_tyLT, e_ty1, isTys, tyMem, tyN_non, tyN_bl, tyN_int, tyN_str, tyN_tup, tyN_lst, Bool.true_or, Bool.or_true, Bool.or_false, Bool.false_or, Bool.not_true, Bool.not_false, inn_non, inn_bl, inn_int, inn_str, inn_tup, inn_lst, inn_ptr, e_slT, e_slL, e_slN, isT_P, isT_L, isT_T, isT_N, e_sub, e_fdiv, e_mod, e_pow, e_lt, e_le, e_gt, e_ge, e_neg, e_add, e_addS, e_addT, e_addL, e_addPP, e_addPL, e_addLP, e_mul, e_mulL, e_mulT, e_augI, e_ixT, e_ixL, e_ixN, e_ixP, e_lenT, e_lenL, e_lenN, e_lenS, e_lenP, e_abs, e_intI, e_intB, e_max, e_min, e_tupL, e_tupT, e_listL, e_listT, e_listN, e_listLL, e_listLT, e_divmod, e_isNon, e_isntNon, e_isB, e_isntB, e_setIx, e_insert, e_append, e_isL, e_isLL, e_seqP, e_seqL, e_seqT, e_seqN, it_lst, it_fz, Option.bind_some, Option.isSome_some, ix10, ix20, ix21, ix30, ix32, dl1, dl2, dl3, List.eraseIdx_cons_zero, e_pop0, e_popAt, e_rev, e_clear, e_tupP, e_listP, e_neN, e_neIN, e_neNI, e_eqIN, e_eqNI, at0, at1, at2, at3, Cell.lst.injEq, Cell.obj.injEq, Option.some.injEq, exists_eq_left', decide_eq_true_eq, true_and, and_true, cup_same, cup_cup, List.flatten_nil, List.flatten_cons, enOf, endOf, excOf, List.map_cons, List.map_nil, List.length_cons, List.length_nil, List.replicate, Nat.reduceAdd, Nat.reduceSub, List.cons_append, List.nil_append, List.set_cons_zero, List.set_cons_succ, List.getElem?_cons_zero, List.getElem?_cons_succ, List.getElem_cons_zero, List.getElem_cons_succ, reduceCtorEq, if_true, if_false, Bool.false_eq_true, decide_true, decide_false, ne_eq, not_true, not_false_eq_true, Int.reduceEq, Nat.reduceMul, true_imp_iff, Int.reduceToNat, Int.reducePow, Nat.reducePow, Int.reduceLE, Int.reduceLT, Nat.reduceLT, and_self, Nat.reduceLeDiff, Int.reduceNeg, Int.reduceAdd, Int.reduceSub, Int.reduceMul, Int.cast_ofNat_Int, ewipe]
      cases k with
      | zero => omega
      | succ k => exact ⟨u, v, rfl, h1, deps_le.mp (show deps m ≤ k by omega) _ h2, q⟩
    · rw [show (List.zipWith (fun x y => D.tup [x, y]) l m).map (fun _ => D.bl true) = (List.replicate (List.zipWith (fun x y => D.tup [x, y]) l m).length true).map D.bl by rw [List.map_replicate]; exact List.map_const' .., e_all]
      simpa using rt
  cases hr with
  | non =>
    simp only [w_l_same, sRaise, sTry, wIsX, wWhat, wBack, lo_lst, e_mulV, sizeL, sNil, sSeq, sPass, sBrk, sCont, sExpr, sRet, sRetN, sIf, sNever, sSet, sAug, gNm, gTp, gNil', gCons', gSb, sAsg, sPar, sFor, wVar_z, wVar_s, wC, wChn, wTru, sPar3, wRev, wCallK, permF, List.filterMap_cons, List.filterMap_nil, wBin, wUn, wTst, wNot, wAnd, wOr, wAndV, wOrV, wNotV, wIf, wNil, wCons, wTup, wLst, wLstL, wFz, wCall, wBi, wMt, wMt0, wSl, wSlL, wPart, wNoPart, wYes, wSeq, wRg1, wRg2, wEnum, wZip, wLc, wLcL, wLRg, wFld, sFldS, sFldA, gFld, wMeth, wMake, lvl2_s, onB, e_eqI, e_neI, e_eqB, e_neB, e_eqS, e_neS, e_eqN, e_tyLT, e_ty1, isTys, tyMem, tyN_non, tyN_bl, tyN_int, tyN_str, tyN_tup, tyN_lst, Bool.true_or, Bool.or_true, Bool.or_false, Bool.false_or, Bool.not_true, Bool.not_false, inn_non, inn_bl, inn_int, inn_str, inn_tup, inn_lst, inn_ptr, e_slT, e_slL, e_slN, isT_P, isT_L, isT_T, isT_N, e_sub, e_fdiv, e_mod, e_pow, e_lt, e_le, e_gt, e_ge, e_neg, e_add, e_addS, e_addT, e_addL, e_addPP, e_addPL, e_addLP, e_mul, e_mulL, e_mulT, e_augI, e_ixT, e_ixL, e_ixN, e_ixP, e_lenT, e_lenL, e_lenN, e_lenS, e_lenP, e_abs, e_intI, e_intB, e_max, e_min, e_tupL, e_tupT, e_listL, e_listT, e_listN, e_listLL, e_listLT, e_divmod, e_isNon, e_isntNon, e_isB, e_isntB, e_setIx, e_insert, e_append, e_isL, e_isLL, e_seqP, e_seqL, e_seqT, e_seqN, it_lst, it_fz, Option.bind_some, Option.isSome_some, ix10, ix20, ix21, ix30, ix32, dl1, dl2, dl3, List.eraseIdx_cons_zero, e_pop0, e_popAt, e_rev, e_clear, e_tupP, e_listP, e_neN, e_neIN, e_neNI, e_eqIN, e_eqNI, at0, at1, at2, at3, Cell.lst.injEq, Cell.obj.injEq, Option.some.injEq, exists_eq_left', decide_eq_true_eq, true_and, and_true, cup_same, cup_cup, List.flatten_nil, List.flatten_cons, enOf, endOf, excOf, List.map_cons, List.map_nil, List.length_cons, List.length_nil, List.replicate, Nat.reduceAdd, Nat.reduceSub, List.cons_append, List.nil_append, List.set_cons_zero, List.set_cons_succ, List.getElem?_cons_zero, List.getElem?_cons_succ, List.getElem_cons_zero, List.getElem_cons_succ, reduceCtorEq, if_true, if_false, Bool.false_eq_true, decide_true, decide_false, ne_eq, not_true, not_false_eq_true, Int.reduceEq, Nat.reduceMul, true_imp_iff, Int.reduceToNat, Int.reducePow, Nat.reducePow, Int.reduceLE, Int.reduceLT, Nat.reduceLT, and_self, Nat.reduceLeDiff, Int.reduceNeg, Int.reduceAdd, Int.reduceSub, Int.reduceMul, Int.cast_ofNat_Int]
    exact rt
  | bl b =>
    simp only [w_l_same, sRaise, sTry, wIsX, wWhat, wBack, lo_lst, e_mulV, sizeL, sNil, sSeq, sPass, sBrk, sCont, sExpr, sRet, sRetN, sIf, sNever, sSet, sAug, gNm, gTp, gNil', gCons', gSb, sAsg, sPar, sFor, wVar_z, wVar_s, wC, wChn, wTru, sPar3, wRev, wCallK, permF, List.filterMap_cons, List.filterMap_nil, wBin, wUn, wTst, wNot, wAnd, wOr, wAndV, wOrV, wNotV, wIf, wNil, wCons, wTup, wLst, wLstL, wFz, wCall, wBi, wMt, wMt0, wSl, wSlL, wPart, wNoPart, wYes, wSeq, wRg1, wRg2, wEnum, wZip, wLc, wLcL, wLRg, wFld, sFldS, sFldA, gFld, wMeth, wMake, lvl2_s, onB, e_eqI, e_neI, e_eqB, e_neB, e_eqS, e_neS, e_eqN, e_tyLT, e_ty1, isTys, tyMem, tyN_non, tyN_bl, tyN_int, tyN_str, tyN_tup, tyN_lst, Bool.true_or, Bool.or_true, Bool.or_false, Bool.false_or, Bool.not_true, Bool.not_false, inn_non, inn_bl, inn_int, inn_str, inn_tup, inn_lst, inn_ptr, e_slT, e_slL, e_slN, isT_P, isT_L, isT_T, isT_N, e_sub, e_fdiv, e_mod, e_pow, e_lt, e_le, e_gt, e_ge, e_neg, e_add, e_addS, e_addT, e_addL, e_addPP, e_addPL, e_addLP, e_mul, e_mulL, e_mulT, e_augI, e_ixT, e_ixL, e_ixN, e_ixP, e_lenT, e_lenL, e_lenN, e_lenS, e_lenP, e_abs, e_intI, e_intB, e_max, e_min, e_tupL, e_tupT, e_listL, e_listT, e_listN, e_listLL, e_listLT, e_divmod, e_isNon, e_isntNon, e_isB, e_isntB, e_setIx, e_insert, e_append, e_isL, e_isLL, e_seqP, e_seqL, e_seqT, e_seqN, it_lst, it_fz, Option.bind_some, Option.isSome_some, ix10, ix20, ix21, ix30, ix32, dl1, dl2, dl3, List.eraseIdx_cons_zero, e_pop0, e_popAt, e_rev, e_clear, e_tupP, e_listP, e_neN, e_neIN, e_neNI, e_eqIN, e_eqNI, at0, at1, at2, at3, Cell.lst.injEq, Cell.obj.injEq, Option.some.injEq, exists_eq_left', decide_eq_true_eq, true_and, and_true, cup_same, cup_cup, List.flatten_nil, List.flatten_cons, enOf, endOf, excOf, List.map_cons, List.map_nil, List.length_cons, List.length_nil, List.replicate, Nat.reduceAdd, Nat.reduceSub, List.cons_append, List.nil_append, List.set_cons_zero, List.set_cons_succ, List.getElem?_cons_zero, List.getElem?_cons_succ, List.getElem_cons_zero, List.getElem_cons_succ, reduceCtorEq, if_true, if_false, Bool.false_eq_true, decide_true, decide_false, ne_eq, not_true, not_false_eq_true, Int.reduceEq, Nat.reduceMul, true_imp_iff, Int.reduceToNat, Int.reducePow, Nat.reducePow, Int.reduceLE, Int.reduceLT, Nat.reduceLT, and_self, Nat.reduceLeDiff, Int.reduceNeg, Int.reduceAdd, Int.reduceSub, Int.reduceMul, Int.cast_ofNat_Int]
    exact rt
  | int i =>
    simp only [w_l_same, sRaise, sTry, wIsX, wWhat, wBack, lo_lst, e_mulV, sizeL, sNil, sSeq, sPass, sBrk, sCont, sExpr, sRet, sRetN, sIf, sNever, sSet, sAug, gNm, gTp, gNil', gCons', gSb, sAsg, sPar, sFor, wVar_z, wVar_s, wC, wChn, wTru, sPar3, wRev, wCallK, permF, List.filterMap_cons, List.filterMap_nil, wBin, wUn, wTst, wNot, wAnd, wOr, wAndV, wOrV, wNotV, wIf, wNil, wCons, wTup, wLst, wLstL, wFz, wCall, wBi, wMt, wMt0, wSl, wSlL, wPart, wNoPart, wYes, wSeq, wRg1, wRg2, wEnum, wZip, wLc, wLcL, wLRg, wFld, sFldS, sFldA, gFld, wMeth, wMake, lvl2_s, onB, e_eqI, e_neI, e_eqB, e_neB, e_eqS, e_neS, e_eqN, e_tyLT, e_ty1, isTys, tyMem, tyN_non, tyN_bl, tyN_int, tyN_str, tyN_tup, tyN_lst, Bool.true_or, Bool.or_true, Bool.or_false, Bool.false_or, Bool.not_true, Bool.not_false, inn_non, inn_bl, inn_int, inn_str, inn_tup, inn_lst, inn_ptr, e_slT, e_slL, e_slN, isT_P, isT_L, isT_T, isT_N, e_sub, e_fdiv, e_mod, e_pow, e_lt, e_le, e_gt, e_ge, e_neg, e_add, e_addS, e_addT, e_addL, e_addPP, e_addPL, e_addLP, e_mul, e_mulL, e_mulT, e_augI, e_ixT, e_ixL, e_ixN, e_ixP, e_lenT, e_lenL, e_lenN, e_lenS, e_lenP, e_abs, e_intI, e_intB, e_max, e_min, e_tupL, e_tupT, e_listL, e_listT, e_listN, e_listLL, e_listLT, e_divmod, e_isNon, e_isntNon, e_isB, e_isntB, e_setIx, e_insert, e_append, e_isL, e_isLL, e_seqP, e_seqL, e_seqT, e_seqN, it_lst, it_fz, Option.bind_some, Option.isSome_some, ix10, ix20, ix21, ix30, ix32, dl1, dl2, dl3, List.eraseIdx_cons_zero, e_pop0, e_popAt, e_rev, e_clear, e_tupP, e_listP, e_neN, e_neIN, e_neNI, e_eqIN, e_eqNI, at0, at1, at2, at3, Cell.lst.injEq, Cell.obj.injEq, Option.some.injEq, exists_eq_left', decide_eq_true_eq, true_and, and_true, cup_same, cup_cup, List.flatten_nil, List.flatten_cons, enOf, endOf, excOf, List.map_cons, List.map_nil, List.length_cons, List.length_nil, List.replicate, Nat.reduceAdd, Nat.reduceSub, List.cons_append, List.nil_append, List.set_cons_zero, List.set_cons_succ, List.getElem?_cons_zero, List.getElem?_cons_succ, List.getElem_cons_zero, List.getElem_cons_succ, reduceCtorEq, if_true, if_false, Bool.false_eq_true, decide_true, decide_false, ne_eq, not_true, not_false_eq_true, Int.reduceEq, Nat.reduceMul, true_imp_iff, Int.reduceToNat, Int.reducePow, Nat.reducePow, Int.reduceLE, Int.reduceLT, Nat.reduceLT, and_self, Nat.reduceLeDiff, Int.reduceNeg, Int.reduceAdd, Int.reduceSub, Int.reduceMul, Int.cast_ofNat_Int]
    exact rt
  | str z =>
    simp only [w_l_same, sRaise, sTry, wIsX, wWhat, wBack, lo_lst, e_mulV, sizeL, sNil, sSeq, sPass, sBrk, sCont, sExpr, sRet, sRetN, sIf, sNever, sSet, sAug, gNm, gTp, gNil', gCons', gSb, sAsg, sPar, sFor, wVar_z, wVar_s, wC, wChn, wTru, sPar3, wRev, wCallK, permF, List.filterMap_cons, List.filterMap_nil, wBin, wUn, wTst, wNot, wAnd, wOr, wAndV, wOrV, wNotV, wIf, wNil, wCons, wTup, wLst, wLstL, wFz, wCall, wBi, wMt, wMt0, wSl, wSlL, wPart, wNoPart, wYes, wSeq, wRg1, wRg2, wEnum, wZip, wLc, wLcL, wLRg, wFld, sFldS, sFldA, gFld, wMeth, wMake, lvl2_s, onB, e_eqI, e_neI, e_eqB, e_neB, e_eqS, e_neS, e_eqN, e_tyLT, e_ty1, isTys, tyMem, tyN_non, tyN_bl, tyN_int, tyN_str, tyN_tup, tyN_lst, Bool.true_or, Bool.or_true, Bool.or_false, Bool.false_or, Bool.not_true, Bool.not_false, inn_non, inn_bl, inn_int, inn_str, inn_tup, inn_lst, inn_ptr, e_slT, e_slL, e_slN, isT_P, isT_L, isT_T, isT_N, e_sub, e_fdiv, e_mod, e_pow, e_lt, e_le, e_gt, e_ge, e_neg, e_add, e_addS, e_addT, e_addL, e_addPP, e_addPL, e_addLP, e_mul, e_mulL, e_mulT, e_augI, e_ixT, e_ixL, e_ixN, e_ixP, e_lenT, e_lenL, e_lenN, e_lenS, e_lenP, e_abs, e_intI, e_intB, e_max, e_min, e_tupL, e_tupT, e_listL, e_listT, e_listN, e_listLL, e_listLT, e_divmod, e_isNon, e_isntNon, e_isB, e_isntB, e_setIx, e_insert, e_append, e_isL, e_isLL, e_seqP, e_seqL, e_seqT, e_seqN, it_lst, it_fz, Option.bind_some, Option.isSome_some, ix10, ix20, ix21, ix30, ix32, dl1, dl2, dl3, List.eraseIdx_cons_zero, e_pop0, e_popAt, e_rev, e_clear, e_tupP, e_listP, e_neN, e_neIN, e_neNI, e_eqIN, e_eqNI, at0, at1, at2, at3, Cell.lst.injEq, Cell.obj.injEq, Option.some.injEq, exists_eq_left', decide_eq_true_eq, true_and, and_true, cup_same, cup_cup, List.flatten_nil, List.flatten_cons, enOf, endOf, excOf, List.map_cons, List.map_nil, List.length_cons, List.length_nil, List.replicate, Nat.reduceAdd, Nat.reduceSub, List.cons_append, List.nil_append, List.set_cons_zero, List.set_cons_succ, List.getElem?_cons_zero, List.getElem?_cons_succ, List.getElem_cons_zero, List.getElem_cons_succ, reduceCtorEq, if_true, if_false, Bool.false_eq_true, decide_true, decide_false, ne_eq, not_true, not_false_eq_true, Int.reduceEq, Nat.reduceMul, true_imp_iff, Int.reduceToNat, Int.reducePow, Nat.reducePow, Int.reduceLE, Int.reduceLT, Nat.reduceLT, and_self, Nat.reduceLeDiff, Int.reduceNeg, Int.reduceAdd, Int.reduceSub, Int.reduceMul, Int.cast_ofNat_Int]
    exact rt
  | tup hl =>
    have e := hl.len
    simp only [w_l_same, sRaise, sTry, wIsX, wWhat, wBack, lo_lst, e_mulV, sizeL, sNil, sSeq, sPass, sBrk, sCont, sExpr, sRet, sRetN, sIf, sNever, sSet, sAug, gNm, gTp, gNil', gCons', gSb, sAsg, sPar, sFor, wVar_z, wVar_s, wC, wChn, wTru, sPar3, wRev, wCallK, permF, List.filterMap_cons, List.filterMap_nil, wBin, wUn, wTst, wNot, wAnd, wOr, wAndV, wOrV, wNotV, wIf, wNil, wCons, wTup, wLst, wLstL, wFz, wCall, wBi, wMt, wMt0, wSl, wSlL, wPart, wNoPart, wYes, wSeq, wRg1, wRg2, wEnum, wZip, wLc, wLcL, wLRg, wFld, sFldS, sFldA, gFld, wMeth, wMake, lvl2_s, onB, e_eqI, e_neI, e_eqB, e_neB, e_eqS, e_neS, e_eqN, e_tyLT, e_ty1, isTys, tyMem, tyN_non, tyN_bl, tyN_int, tyN_str, tyN_tup, tyN_lst, Bool.true_or, Bool.or_true, Bool.or_false, Bool.false_or, Bool.not_true, Bool.not_false, inn_non, inn_bl, inn_int, inn_str, inn_tup, inn_lst, inn_ptr, e_slT, e_slL, e_slN, isT_P, isT_L, isT_T, isT_N, e_sub, e_fdiv, e_mod, e_pow, e_lt, e_le, e_gt, e_ge, e_neg, e_add, e_addS, e_addT, e_addL, e_addPP, e_addPL, e_addLP, e_mul, e_mulL, e_mulT, e_augI, e_ixT, e_ixL, e_ixN, e_ixP, e_lenT, e_lenL, e_lenN, e_lenS, e_lenP, e_abs, e_intI, e_intB, e_max, e_min, e_tupL, e_tupT, e_listL, e_listT, e_listN, e_listLL, e_listLT, e_divmod, e_isNon, e_isntNon, e_isB, e_isntB, e_setIx, e_insert, e_append, e_isL, e_isLL, e_seqP, e_seqL, e_seqT, e_seqN, it_lst, it_fz, Option.bind_some, Option.isSome_some, ix10, ix20, ix21, ix30, ix32, dl1, dl2, dl3, List.eraseIdx_cons_zero, e_pop0, e_popAt, e_rev, e_clear, e_tupP, e_listP, e_neN, e_neIN, e_neNI, e_eqIN, e_eqNI, at0, at1, at2, at3, Cell.lst.injEq, Cell.obj.injEq, Option.some.injEq, exists_eq_left', decide_eq_true_eq, true_and, and_true, cup_same, cup_cup, List.flatten_nil, List.flatten_cons, enOf, endOf, excOf, List.map_cons, List.map_nil, List.length_cons, List.length_nil, List.replicate, Nat.reduceAdd, Nat.reduceSub, List.cons_append, List.nil_append, List.set_cons_zero, List.set_cons_succ, List.getElem?_cons_zero, List.getElem?_cons_succ, List.getElem_cons_zero, List.getElem_cons_succ, reduceCtorEq, if_true, if_false, Bool.false_eq_true, decide_true, decide_false, ne_eq, not_true, not_false_eq_true, Int.reduceEq, Nat.reduceMul, true_imp_iff, Int.reduceToNat, Int.reducePow, Nat.reducePow, Int.reduceLE, Int.reduceLT, Nat.reduceLT, and_self, Nat.reduceLeDiff, Int.reduceNeg, Int.reduceAdd, Int.reduceSub, Int.reduceMul, Int.cast_ofNat_Int, e]
    exact fun _ hz => ⟨by rw [List.length_zipWith]; omega, seq _ _ _ _ _ trivial hl (by simpa [dep] using hd) hz⟩
  | lst hl =>
    have e := hl.len
    simp only [w_l_same, sRaise, sTry, wIsX, wWhat, wBack, lo_lst, e_mulV, sizeL, sNil, sSeq, sPass, sBrk, sCont, sExpr, sRet, sRetN, sIf, sNever, sSet, sAug, gNm, gTp, gNil', gCons', gSb, sAsg, sPar, sFor, wVar_z, wVar_s, wC, wChn, wTru, sPar3, wRev, wCallK, permF, List.filterMap_cons, List.filterMap_nil, wBin, wUn, wTst, wNot, wAnd, wOr, wAndV, wOrV, wNotV, wIf, wNil, wCons, wTup, wLst, wLstL, wFz, wCall, wBi, wMt, wMt0, wSl, wSlL, wPart, wNoPart, wYes, wSeq, wRg1, wRg2, wEnum, wZip, wLc, wLcL, wLRg, wFld, sFldS, sFldA, gFld, wMeth, wMake, lvl2_s, onB, e_eqI, e_neI, e_eqB, e_neB, e_eqS, e_neS, e_eqN, e_tyLT, e_ty1, isTys, tyMem, tyN_non, tyN_bl, tyN_int, tyN_str, tyN_tup, tyN_lst, Bool.true_or, Bool.or_true, Bool.or_false, Bool.false_or, Bool.not_true, Bool.not_false, inn_non, inn_bl, inn_int, inn_str, inn_tup, inn_lst, inn_ptr, e_slT, e_slL, e_slN, isT_P, isT_L, isT_T, isT_N, e_sub, e_fdiv, e_mod, e_pow, e_lt, e_le, e_gt, e_ge, e_neg, e_add, e_addS, e_addT, e_addL, e_addPP, e_addPL, e_addLP, e_mul, e_mulL, e_mulT, e_augI, e_ixT, e_ixL, e_ixN, e_ixP, e_lenT, e_lenL, e_lenN, e_lenS, e_lenP, e_abs, e_intI, e_intB, e_max, e_min, e_tupL, e_tupT, e_listL, e_listT, e_listN, e_listLL, e_listLT, e_divmod, e_isNon, e_isntNon, e_isB, e_isntB, e_setIx, e_insert, e_append, e_isL, e_isLL, e_seqP, e_seqL, e_seqT, e_seqN, it_lst, it_fz, Option.bind_some, Option.isSome_some, ix10, ix20, ix21, ix30, ix32, dl1, dl2, dl3, List.eraseIdx_cons_zero, e_pop0, e_popAt, e_rev, e_clear, e_tupP, e_listP, e_neN, e_neIN, e_neNI, e_eqIN, e_eqNI, at0, at1, at2, at3, Cell.lst.injEq, Cell.obj.injEq, Option.some.injEq, exists_eq_left', decide_eq_true_eq, true_and, and_true, cup_same, cup_cup, List.flatten_nil, List.flatten_cons, enOf, endOf, excOf, List.map_cons, List.map_nil, List.length_cons, List.length_nil, List.replicate, Nat.reduceAdd, Nat.reduceSub, List.cons_append, List.nil_append, List.set_cons_zero, List.set_cons_succ, List.getElem?_cons_zero, List.getElem?_cons_succ, List.getElem_cons_zero, List.getElem_cons_succ, reduceCtorEq, if_true, if_false, Bool.false_eq_true, decide_true, decide_false, ne_eq, not_true, not_false_eq_true, Int.reduceEq, Nat.reduceMul, true_imp_iff, Int.reduceToNat, Int.reducePow, Nat.reducePow, Int.reduceLE, Int.reduceLT, Nat.reduceLT, and_self, Nat.reduceLeDiff, Int.reduceNeg, Int.reduceAdd, Int.reduceSub, Int.reduceMul, Int.cast_ofNat_Int, e]
    exact fun _ hz => ⟨by rw [List.length_zipWith]; omega, seq _ _ _ _ _ trivial hl (by simpa [dep] using hd) hz⟩
  | ptr hp hl =>
    have e := hl.len
    have ht := tyN_ptr hp
    simp only [w_l_same, sRaise, sTry, wIsX, wWhat, wBack, lo_lst, e_mulV, sizeL, sNil, sSeq, sPass, sBrk, sCont, sExpr, sRet, sRetN, sIf, sNever, sSet, sAug, gNm, gTp, gNil', gCons', gSb, sAsg, sPar, sFor, wVar_z, wVar_s, wC, wChn, wTru, sPar3, wRev, wCallK, permF, List.filterMap_cons, List.filterMap_nil, wBin, wUn, wTst, wNot, wAnd, wOr, wAndV, wOrV, wNotV, wIf, wNil, wCons, wTup, wLst, wLstL, wFz, wCall, wBi, wMt, wMt0, wSl, wSlL, wPart, wNoPart, wYes, wSeq, wRg1, wRg2, wEnum, wZip, wLc, wLcL, wLRg, wFld, sFldS, sFldA, gFld, wMeth, wMake, lvl2_s, onB, e_eqI, e_neI, e_eqB, e_neB, e_eqS, e_neS, e_eqN, e_tyLT, e_ty1, isTys, tyMem, tyN_non, tyN_bl, tyN_int, tyN_str, tyN_tup, tyN_lst, Bool.true_or, Bool.or_true, Bool.or_false, Bool.false_or, Bool.not_true, Bool.not_false, inn_non, inn_bl, inn_int, inn_str, inn_tup, inn_lst, inn_ptr, e_slT, e_slL, e_slN, isT_P, isT_L, isT_T, isT_N, e_sub, e_fdiv, e_mod, e_pow, e_lt, e_le, e_gt, e_ge, e_neg, e_add, e_addS, e_addT, e_addL, e_addPP, e_addPL, e_addLP, e_mul, e_mulL, e_mulT, e_augI, e_ixT, e_ixL, e_ixN, e_ixP, e_lenT, e_lenL, e_lenN, e_lenS, e_lenP, e_abs, e_intI, e_intB, e_max, e_min, e_tupL, e_tupT, e_listL, e_listT, e_listN, e_listLL, e_listLT, e_divmod, e_isNon, e_isntNon, e_isB, e_isntB, e_setIx, e_insert, e_append, e_isL, e_isLL, e_seqP, e_seqL, e_seqT, e_seqN, it_lst, it_fz, Option.bind_some, Option.isSome_some, ix10, ix20, ix21, ix30, ix32, dl1, dl2, dl3, List.eraseIdx_cons_zero, e_pop0, e_popAt, e_rev, e_clear, e_tupP, e_listP, e_neN, e_neIN, e_neNI, e_eqIN, e_eqNI, at0, at1, at2, at3, Cell.lst.injEq, Cell.obj.injEq, Option.some.injEq, exists_eq_left', decide_eq_true_eq, true_and, and_true, cup_same, cup_cup, List.flatten_nil, List.flatten_cons, enOf, endOf, excOf, List.map_cons, List.map_nil, List.length_cons, List.length_nil, List.replicate, Nat.reduceAdd, Nat.reduceSub, List.cons_append, List.nil_append, List.set_cons_zero, List.set_cons_succ, List.getElem?_cons_zero, List.getElem?_cons_succ, List.getElem_cons_zero, List.getElem_cons_succ, reduceCtorEq, if_true, if_false, Bool.false_eq_true, decide_true, decide_false, ne_eq, not_true, not_false_eq_true, Int.reduceEq, Nat.reduceMul, true_imp_iff, Int.reduceToNat, Int.reducePow, Nat.reducePow, Int.reduceLE, Int.reduceLT, Nat.reduceLT, and_self, Nat.reduceLeDiff, Int.reduceNeg, Int.reduceAdd, Int.reduceSub, Int.reduceMul, Int.cast_ofNat_Int, ht, hp, e]
    exact fun _ hz => ⟨by rw [List.length_zipWith]; omega, seq _ _ _ _ _ hp hl (by simpa [dep] using hd) hz⟩
def c_l_lists (k : Nat) : Ctr := fun ds c Q _ => ∃ x, ds = [x] ∧ pl x = true ∧ dep x ≤ k ∧ Q (toL x) c
def w_l_lists (k : Nat) : WS := (sRet (wIf (wTst (wBi oIsi (wCons (wVar 0) (wCons (wTup (wCons (wC (.ty "list")) (wCons (wC (.ty "tuple")) wNil))) wNil)))) (wLc (wSeq (wVar 0)) (.nm 1) wYes (wCall 1 c_l_lists k (wCons (wVar 1) wNil)) [1]) (wVar 0)))
theorem p_l_lists (k : Nat) (ds : List D) (c : Cs) (Q : DK) (X0 : XK0) (hlen0 : ds.length = 1) (h : c_l_lists k ds c Q X0) : w_l_lists k (endOf Q) (excOf X0) (enOf 2 ds) c := by
  obtain ⟨x, rfl, hp, hd, q⟩ := h
  have seq : ∀ (l : List D) (x : D), pls l = true → deps l + 1 ≤ k → toL x = .lst (l.map toL) → Q (toL x) c →
      lcW (fun _ => True) (Tg.nm 1) wYes (wCall 1 c_l_lists k (wCons (wVar 1) wNil)) [1] [some x, none] (fun acc c' => ∃ c0, CLe c0 c' ∧ Q (.lst acc) c0) l [] c := by
    intro l x hp hd hx q
    refine lc_map toL trivial (fun d hd' => ⟨_, rfl, fun Q q => ?_⟩) ⟨c, CLe.refl _, hx ▸ q⟩
    simp only [sRaise, sTry, wIsX, wWhat, wBack, lo_lst, e_mulV, sizeL, sNil, sSeq, sPass, sBrk, sCont, sExpr, sRet, sRetN, sIf, sNever, sSet, sAug, gNm, gTp, gNil', gCons', gSb, sAsg, sPar, sFor, wVar_z, wVar_s, wC, wChn, wTru, sPar3, wRev, wCallK, permF, List.filterMap_cons, List.filterMap_nil, wBin, wUn, wTst, wNot, wAnd, wOr, wAndV, wOrV, wNotV, wIf, wNil, wCons, wTup, wLst, wLstL, wFz, wCall, wBi, wMt, wMt0, wSl, wSlL, wPart, wNoPart, wYes, wSeq, wRg1, wRg2, wEnum, wZip, wLc, wLcL, wLRg, wFld, sFldS, sFldA, gFld, wMeth, wMake, lvl2_s, onB, e_eqI, e_neI, e_eqB, e_neB, e_eqS, e_neS, e_eqN, e_tyLT, e_ty1, isTys, tyMem, tyN_non, tyN_bl, tyN_int, tyN_str, tyN_tup, tyN_lst, Bool.true_or, Bool.or_true, Bool.or_false, Bool.false_or, Bool.not_true, Bool.not_false, inn_non, inn_bl, inn_int, inn_str, inn_tup, inn_lst, inn_ptr, e_slT, e_slL, e_slN, isT_P, isT_L, isT_T, isT_N, e_sub, e_fdiv, e_mod, e_pow, e_lt, e_le, e_gt, e_ge, e_neg, e_add, e_addS, e_addT, e_addL, e_addPP, e_addPL, e_addLP, e_mul, e_mulL, e_mulT, e_augI, e_ixT, e_ixL, e_ixN, e_ixP, e_lenT, e_lenL, e_lenN, e_lenS, e_lenP, e_abs, e_intI, e_intB, e_max, e_min, e_tupL, e_tupT, e_listL, e_listT, e_listN, e_listLL, e_listLT, e_divmod, e_isNon, e_isntNon, e_isB, e_isntB, e_setIx, e_insert, e_append, e_isL, e_isLL, e_seqP, e_seqL, e_seqT, e_seqN, it_lst, it_fz, Option.bind_some, Option.isSome_some, ix10, ix20, ix21, ix30, ix32, dl1, dl2, dl3, List.eraseIdx_cons_zero, e_pop0, e_popAt, e_rev, e_clear, e_tupP, e_listP, e_neN, e_neIN, e_neNI, e_eqIN, e_eqNI, at0, at1, at2, at3, Cell.lst.injEq, Cell.obj.injEq, Option.some.injEq, exists_eq_left', decide_eq_true_eq, true_and, and_true, cup_same, cup_cup, List.flatten_nil, List.flatten_cons, enOf, endOf, excOf, List.map_cons, List.map_nil, List.length_cons, List.length_nil, List.replicate, Nat.reduceAdd, Nat.reduceSub, List.cons_append, List.nil_append, List.set_cons_zero, List.set_cons_succ, List.getElem?_cons_zero, List.getElem?_cons_succ, List.getElem_cons_zero, List.getElem_cons_succ, reduceCtorEq, if_true, if_false, Bool.false_eq_true, decide_true, decide_false, ne_eq, not_true, not_false_eq_true, Int.reduceEq, Nat.reduceMul, true_imp_iff, Int.reduceToNat, Int.reducePow, Nat.reducePow, Int.reduceLE, Int.reduceLT, Nat.reduceLT, and_self, Nat.reduceLeDiff, Int.reduceNeg, Int.reduceAdd, Int.reduceSub, Int.reduceMul, Int.cast_ofNat_Int, ewipe]
    cases k with
    | zero => omega
    | succ k => exact ⟨d, rfl, pls_all.mp hp _ hd', deps_le.mp (show deps l ≤ k by omega) _ hd', q⟩
  cases x <;> simp only [pl, reduceCtorEq, Bool.false_eq_true] at hp
  · simp only [w_l_lists, sRaise, sTry, wIsX, wWhat, wBack, lo_lst, e_mulV, sizeL, sNil, sSeq, sPass, sBrk, sCont, sExpr, sRet, sRetN, sIf, sNever, sSet, sAug, gNm, gTp, gNil', gCons', gSb, sAsg, sPar, sFor, wVar_z, wVar_s, wC, wChn, wTru, sPar3, wRev, wCallK, permF, List.filterMap_cons, List.filterMap_nil, wBin, wUn, wTst, wNot, wAnd, wOr, wAndV, wOrV, wNotV, wIf, wNil, wCons, wTup, wLst, wLstL, wFz, wCall, wBi, wMt, wMt0, wSl, wSlL, wPart, wNoPart, wYes, wSeq, wRg1, wRg2, wEnum, wZip, wLc, wLcL, wLRg, wFld, sFldS, sFldA, gFld, wMeth, wMake, lvl2_s, onB, e_eqI, e_neI, e_eqB, e_neB, e_eqS, e_neS, e_eqN, e_tyLT, e_ty1, isTys, tyMem, tyN_non, tyN_bl, tyN_int, tyN_str, tyN_tup, tyN_lst, Bool.true_or, Bool.or_true, Bool.or_false, Bool.false_or, Bool.not_true, Bool.not_false, inn_non, inn_bl, inn_int, inn_str, inn_tup, inn_lst, inn_ptr, e_slT, e_slL, e_slN, isT_P, isT_L, isT_T, isT_N, e_sub, e_fdiv, e_mod, e_pow, e_lt, e_le, e_gt, e_ge, e_neg, e_add, e_addS, e_addT, e_addL, e_addPP, e_addPL, e_addLP, e_mul, e_mulL, e_mulT, e_augI, e_ixT, e_ixL, e_ixN, e_ixP, e_lenT, e_lenL, e_lenN, e_lenS, e_lenP, e_abs, e_intI, e_intB, e_max, e_min, e_tupL, e_tupT, e_listL, e_listT, e_listN, e_listLL, e_listLT, e_divmod, e_isNon, e_isntNon, e_isB, e_isntB, e_setIx, e_insert, e_append, e_isL, e_isLL, e_seqP, e_seqL, e_seqT, e_seqN, it_lst, it_fz, Option.bind_some, Option.isSome_some, ix10, ix20, ix21, ix30, ix32, dl1, dl2, dl3, List.eraseIdx_cons_zero, e_pop0, e_popAt, e_rev, e_clear, e_tupP, e_listP, e_neN, e_neIN, e_neNI, e_eqIN, e_eqNI, at0, at1, at2, at3, Cell.lst.injEq, Cell.obj.injEq, Option.some.injEq, exists_eq_left', decide_eq_true_eq, true_and, and_true, cup_same, cup_cup, List.flatten_nil, List.flatten_cons, enOf, endOf, excOf, List.map_cons, List.map_nil, List.length_cons, List.length_nil, List.replicate, Nat.reduceAdd, Nat.reduceSub, List.cons_append, List.nil_append, List.set_cons_zero, List.set_cons_succ, List.getElem?_cons_zero, List.getElem?_cons_succ, List.getElem_cons_zero, List.getElem_cons_succ, reduceCtorEq, if_true, if_false, Bool.false_eq_true, decide_true, decide_false, ne_eq, not_true, not_false_eq_true, Int.reduceEq, Nat.reduceMul, true_imp_iff, Int.reduceToNat, Int.reducePow, Nat.reducePow, Int.reduceLE, Int.reduceLT, Nat.reduceLT, and_self, Nat.reduceLeDiff, Int.reduceNeg, Int.reduceAdd, Int.reduceSub, Int.reduceMul, Int.cast_ofNat_Int]
    exact ⟨c, CLe.refl _, q⟩
  · simp only [w_l_lists, sRaise, sTry, wIsX, wWhat, wBack, lo_lst, e_mulV, sizeL, sNil, sSeq, sPass, sBrk, sCont, sExpr, sRet, sRetN, sIf, sNever, sSet, sAug, gNm, gTp, gNil', gCons', gSb, sAsg, sPar, sFor, wVar_z, wVar_s, wC, wChn, wTru, sPar3, wRev, wCallK, permF, List.filterMap_cons, List.filterMap_nil, wBin, wUn, wTst, wNot, wAnd, wOr, wAndV, wOrV, wNotV, wIf, wNil, wCons, wTup, wLst, wLstL, wFz, wCall, wBi, wMt, wMt0, wSl, wSlL, wPart, wNoPart, wYes, wSeq, wRg1, wRg2, wEnum, wZip, wLc, wLcL, wLRg, wFld, sFldS, sFldA, gFld, wMeth, wMake, lvl2_s, onB, e_eqI, e_neI, e_eqB, e_neB, e_eqS, e_neS, e_eqN, e_tyLT, e_ty1, isTys, tyMem, tyN_non, tyN_bl, tyN_int, tyN_str, tyN_tup, tyN_lst, Bool.true_or, Bool.or_true, Bool.or_false, Bool.false_or, Bool.not_true, Bool.not_false, inn_non, inn_bl, inn_int, inn_str, inn_tup, inn_lst, inn_ptr, e_slT, e_slL, e_slN, isT_P, isT_L, isT_T, isT_N, e_sub, e_fdiv, e_mod, e_pow, e_lt, e_le, e_gt, e_ge, e_neg, e_add, e_addS, e_addT, e_addL, e_addPP, e_addPL, e_addLP, e_mul, e_mulL, e_mulT, e_augI, e_ixT, e_ixL, e_ixN, e_ixP, e_lenT, e_lenL, e_lenN, e_lenS, e_lenP, e_abs, e_intI, e_intB, e_max, e_min, e_tupL, e_tupT, e_listL, e_listT, e_listN, e_listLL, e_listLT, e_divmod, e_isNon, e_isntNon, e_isB, e_isntB, e_setIx, e_insert, e_append, e_isL, e_isLL, e_seqP, e_seqL, e_seqT, e_seqN, it_lst, it_fz, Option.bind_some, Option.isSome_some, ix10, ix20, ix21, ix30, ix32, dl1, dl2, dl3, List.eraseIdx_cons_zero, e_pop0, e_popAt, e_rev, e_clear, e_tupP, e_listP, e_neN, e_neIN, e_neNI, e_eqIN, e_eqNI, at0, at1, at2, at3, Cell.lst.injEq, Cell.obj.injEq, Option.some.injEq, exists_eq_left', decide_eq_true_eq, true_and, and_true, cup_same, cup_cup, List.flatten_nil, List.flatten_cons, enOf, endOf, excOf, List.map_cons, List.map_nil, List.length_cons, List.length_nil, List.replicate, Nat.reduceAdd, Nat.reduceSub, List.cons_append, List.nil_append, List.set_cons_zero, List.set_cons_succ, List.getElem?_cons_zero, List.getElem?_cons_succ, List.getElem_cons_zero, List.getElem_cons_succ, reduceCtorEq, if_true, if_false, Bool.false_eq_true, decide_true, decide_false, ne_eq, not_true, not_false_eq_true, Int.reduceEq, Nat.reduceMul, true_imp_iff, Int.reduceToNat, Int.reducePow, Nat.reducePow, Int.reduceLE, Int.reduceLT, Nat.reduceLT, and_self, Nat.reduceLeDiff, Int.reduceNeg, Int.reduceAdd, Int.reduceSub, Int.reduceMul, Int.cast_ofNat_Int]
    exact ⟨c, CLe.refl _, q⟩
  · simp only [w_l_lists, sRaise, sTry, wIsX, wWhat, wBack, lo_lst, e_mulV, sizeL, sNil, sSeq, sPass, sBrk, sCont, sExpr, sRet, sRetN, sIf, sNever, sSet, sAug, gNm, gTp, gNil', gCons', gSb, sAsg, sPar, sFor, wVar_z, wVar_s, wC, wChn, wTru, sPar3, wRev, wCallK, permF, List.filterMap_cons, List.filterMap_nil, wBin, wUn, wTst, wNot, wAnd, wOr, wAndV, wOrV, wNotV, wIf, wNil, wCons, wTup, wLst, wLstL, wFz, wCall, wBi, wMt, wMt0, wSl, wSlL, wPart, wNoPart, wYes, wSeq, wRg1, wRg2, wEnum, wZip, wLc, wLcL, wLRg, wFld, sFldS, sFldA, gFld, wMeth, wMake, lvl2_s, onB, e_eqI, e_neI, e_eqB, e_neB, e_eqS, e_neS, e_eqN, e_tyLT, e_ty1, isTys, tyMem, tyN_non, tyN_bl, tyN_int, tyN_str, tyN_tup, tyN_lst, Bool.true_or, Bool.or_true, Bool.or_false, Bool.false_or, Bool.not_true, Bool.not_false, inn_non, inn_bl, inn_int, inn_str, inn_tup, inn_lst, inn_ptr, e_slT, e_slL, e_slN, isT_P, isT_L, isT_T, isT_N, e_sub, e_fdiv, e_mod, e_pow, e_lt, e_le, e_gt, e_ge, e_neg, e_add, e_addS, e_addT, e_addL, e_addPP, e_addPL, e_addLP, e_mul, e_mulL, e_mulT, e_augI, e_ixT, e_ixL, e_ixN, e_ixP, e_lenT, e_lenL, e_lenN, e_lenS, e_lenP, e_abs, e_intI, e_intB, e_max, e_min, e_tupL, e_tupT, e_listL, e_listT, e_listN, e_listLL, e_listLT, e_divmod, e_isNon, e_isntNon, e_isB, e_isntB, e_setIx, e_insert, e_append, e_isL, e_isLL, e_seqP, e_seqL, e_seqT, e_seqN, it_lst, it_fz, Option.bind_some, Option.isSome_some, ix10, ix20, ix21, ix30, ix32, dl1, dl2, dl3, List.eraseIdx_cons_zero, e_pop0, e_popAt, e_rev, e_clear, e_tupP, e_listP, e_neN, e_neIN, e_neNI, e_eqIN, e_eqNI, at0, at1, at2, at3, Cell.lst.injEq, Cell.obj.injEq, Option.some.injEq, exists_eq_left', decide_eq_true_eq, true_and, and_true, cup_same, cup_cup, List.flatten_nil, List.flatten_cons, enOf, endOf, excOf, List.map_cons, List.map_nil, List.length_cons, List.length_nil, List.replicate, Nat.reduceAdd, Nat.reduceSub, List.cons_append, List.nil_append, List.set_cons_zero, List.set_cons_succ, List.getElem?_cons_zero, List.getElem?_cons_succ, List.getElem_cons_zero, List.getElem_cons_succ, reduceCtorEq, if_true, if_false, Bool.false_eq_true, decide_true, decide_false, ne_eq, not_true, not_false_eq_true, Int.reduceEq, Nat.reduceMul, true_imp_iff, Int.reduceToNat, Int.reducePow, Nat.reducePow, Int.reduceLE, Int.reduceLT, Nat.reduceLT, and_self, Nat.reduceLeDiff, Int.reduceNeg, Int.reduceAdd, Int.reduceSub, Int.reduceMul, Int.cast_ofNat_Int]
    exact ⟨c, CLe.refl _, q⟩
  · simp only [w_l_lists, sRaise, sTry, wIsX, wWhat, wBack, lo_lst, e_mulV, sizeL, sNil, sSeq, sPass, sBrk, sCont, sExpr, sRet, sRetN, sIf, sNever, sSet, sAug, gNm, gTp, gNil', gCons', gSb, sAsg, sPar, sFor, wVar_z, wVar_s, wC, wChn, wTru, sPar3, wRev, wCallK, permF, List.filterMap_cons, List.filterMap_nil, wBin, wUn, wTst, wNot, wAnd, wOr, wAndV, wOrV, wNotV, wIf, wNil, wCons, wTup, wLst, wLstL, wFz, wCall, wBi, wMt, wMt0, wSl, wSlL, wPart, wNoPart, wYes, wSeq, wRg1, wRg2, wEnum, wZip, wLc, wLcL, wLRg, wFld, sFldS, sFldA, gFld, wMeth, wMake, lvl2_s, onB, e_eqI, e_neI, e_eqB, e_neB, e_eqS, e_neS, e_eqN, e_tyLT, e_ty1, isTys, tyMem, tyN_non, tyN_bl, tyN_int, tyN_str, tyN_tup, tyN_lst, Bool.true_or, Bool.or_true, Bool.or_false, Bool.false_or, Bool.not_true, Bool.not_false, inn_non, inn_bl, inn_int, inn_str, inn_tup, inn_lst, inn_ptr, e_slT, e_slL, e_slN, isT_P, isT_L, isT_T, isT_N, e_sub, e_fdiv, e_mod, e_pow, e_lt, e_le, e_gt, e_ge, e_neg, e_add, e_addS, e_addT, e_addL, e_addPP, e_addPL, e_addLP, e_mul, e_mulL, e_mulT, e_augI, e_ixT, e_ixL, e_ixN, e_ixP, e_lenT, e_lenL, e_lenN, e_lenS, e_lenP, e_abs, e_intI, e_intB, e_max, e_min, e_tupL, e_tupT, e_listL, e_listT, e_listN, e_listLL, e_listLT, e_divmod, e_isNon, e_isntNon, e_isB, e_isntB, e_setIx, e_insert, e_append, e_isL, e_isLL, e_seqP, e_seqL, e_seqT, e_seqN, it_lst, it_fz, Option.bind_some, Option.isSome_some, ix10, ix20, ix21, ix30, ix32, dl1, dl2, dl3, List.eraseIdx_cons_zero, e_pop0, e_popAt, e_rev, e_clear, e_tupP, e_listP, e_neN, e_neIN, e_neNI, e_eqIN, e_eqNI, at0, at1, at2, at3, Cell.lst.injEq, Cell.obj.injEq, Option.some.injEq, exists_eq_left', decide_eq_true_eq, true_and, and_true, cup_same, cup_cup, List.flatten_nil, List.flatten_cons, enOf, endOf, excOf, List.map_cons, List.map_nil, List.length_cons, List.length_nil, List.replicate, Nat.reduceAdd, Nat.reduceSub, List.cons_append, List.nil_append, List.set_cons_zero, List.set_cons_succ, List.getElem?_cons_zero, List.getElem?_cons_succ, List.getElem_cons_zero, List.getElem_cons_succ, reduceCtorEq, if_true, if_false, Bool.false_eq_true, decide_true, decide_false, ne_eq, not_true, not_false_eq_true, Int.reduceEq, Nat.reduceMul, true_imp_iff, Int.reduceToNat, Int.reducePow, Nat.reducePow, Int.reduceLE, Int.reduceLT, Nat.reduceLT, and_self, Nat.reduceLeDiff, Int.reduceNeg, Int.reduceAdd, Int.reduceSub, Int.reduceMul, Int.cast_ofNat_Int]
    exact ⟨c, CLe.refl _, q⟩
  · simp only [w_l_lists, sRaise, sTry, wIsX, wWhat, wBack, lo_lst, e_mulV, sizeL, sNil, sSeq, sPass, sBrk, sCont, sExpr, sRet, sRetN, sIf, sNever, sSet, sAug, gNm, gTp, gNil', gCons', gSb, sAsg, sPar, sFor, wVar_z, wVar_s, wC, wChn, wTru, sPar3, wRev, wCallK, permF, List.filterMap_cons, List.filterMap_nil, wBin, wUn, wTst, wNot, wAnd, wOr, wAndV, wOrV, wNotV, wIf, wNil, wCons, wTup, wLst, wLstL, wFz, wCall, wBi, wMt, wMt0, wSl, wSlL, wPart, wNoPart, wYes, wSeq, wRg1, wRg2, wEnum, wZip, wLc, wLcL, wLRg, wFld, sFldS, sFldA, gFld, wMeth, wMake, lvl2_s, onB, e_eqI, e_neI, e_eqB, e_neB, e_eqS, e_neS, e_eqN, e_tyLT, e_ty1, isTys, tyMem, tyN_non, tyN_bl, tyN_int, tyN_str, tyN_tup, tyN_lst, Bool.true_or, Bool.or_true, Bool.or_false, Bool.false_or, Bool.not_true, Bool.not_false, inn_non, inn_bl, inn_int, inn_str, inn_tup, inn_lst, inn_ptr, e_slT, e_slL, e_slN, isT_P, isT_L, isT_T, isT_N, e_sub, e_fdiv, e_mod, e_pow, e_lt, e_le, e_gt, e_ge, e_neg, e_add, e_addS, e_addT, e_addL, e_addPP, e_addPL, e_addLP, e_mul, e_mulL, e_mulT, e_augI, e_ixT, e_ixL, e_ixN, e_ixP, e_lenT, e_lenL, e_lenN, e_lenS, e_lenP, e_abs, e_intI, e_intB, e_max, e_min, e_tupL, e_tupT, e_listL, e_listT, e_listN, e_listLL, e_listLT, e_divmod, e_isNon, e_isntNon, e_isB, e_isntB, e_setIx, e_insert, e_append, e_isL, e_isLL, e_seqP, e_seqL, e_seqT, e_seqN, it_lst, it_fz, Option.bind_some, Option.isSome_some, ix10, ix20, ix21, ix30, ix32, dl1, dl2, dl3, List.eraseIdx_cons_zero, e_pop0, e_popAt, e_rev, e_clear, e_tupP, e_listP, e_neN, e_neIN, e_neNI, e_eqIN, e_eqNI, at0, at1, at2, at3, Cell.lst.injEq, Cell.obj.injEq, Option.some.injEq, exists_eq_left', decide_eq_true_eq, true_and, and_true, cup_same, cup_cup, List.flatten_nil, List.flatten_cons, enOf, endOf, excOf, List.map_cons, List.map_nil, List.length_cons, List.length_nil, List.replicate, Nat.reduceAdd, Nat.reduceSub, List.cons_append, List.nil_append, List.set_cons_zero, List.set_cons_succ, List.getElem?_cons_zero, List.getElem?_cons_succ, List.getElem_cons_zero, List.getElem_cons_succ, reduceCtorEq, if_true, if_false, Bool.false_eq_true, decide_true, decide_false, ne_eq, not_true, not_false_eq_true, Int.reduceEq, Nat.reduceMul, true_imp_iff, Int.reduceToNat, Int.reducePow, Nat.reducePow, Int.reduceLE, Int.reduceLT, Nat.reduceLT, and_self, Nat.reduceLeDiff, Int.reduceNeg, Int.reduceAdd, Int.reduceSub, Int.reduceMul, Int.cast_ofNat_Int]
    exact fun hz => ⟨hz, seq _ (.tup _) hp (by simpa [dep] using hd) (by rw [toL, toLs_map]) q⟩
  · simp only [w_l_lists, sRaise, sTry, wIsX, wWhat, wBack, lo_lst, e_mulV, sizeL, sNil, sSeq, sPass, sBrk, sCont, sExpr, sRet, sRetN, sIf, sNever, sSet, sAug, gNm, gTp, gNil', gCons', gSb, sAsg, sPar, sFor, wVar_z, wVar_s, wC, wChn, wTru, sPar3, wRev, wCallK, permF, List.filterMap_cons, List.filterMap_nil, wBin, wUn, wTst, wNot, wAnd, wOr, wAndV, wOrV, wNotV, wIf, wNil, wCons, wTup, wLst, wLstL, wFz, wCall, wBi, wMt, wMt0, wSl, wSlL, wPart, wNoPart, wYes, wSeq, wRg1, wRg2, wEnum, wZip, wLc, wLcL, wLRg, wFld, sFldS, sFldA, gFld, wMeth, wMake, lvl2_s, onB, e_eqI, e_neI, e_eqB, e_neB, e_eqS, e_neS, e_eqN, e_tyLT, e_ty1, isTys, tyMem, tyN_non, tyN_bl, tyN_int, tyN_str, tyN_tup, tyN_lst, Bool.true_or, Bool.or_true, Bool.or_false, Bool.false_or, Bool.not_true, Bool.not_false, inn_non, inn_bl, inn_int, inn_str, inn_tup, inn_lst, inn_ptr, e_slT, e_slL, e_slN, isT_P, isT_L, isT_T, isT_N, e_sub, e_fdiv, e_mod, e_pow, e_lt, e_le, e_gt, e_ge, e_neg, e_add, e_addS, e_addT, e_addL, e_addPP, e_addPL, e_addLP, e_mul, e_mulL, e_mulT, e_augI, e_ixT, e_ixL, e_ixN, e_ixP, e_lenT, e_lenL, e_lenN, e_lenS, e_lenP, e_abs, e_intI, e_intB, e_max, e_min, e_tupL, e_tupT, e_listL, e_listT, e_listN, e_listLL, e_listLT, e_divmod, e_isNon, e_isntNon, e_isB, e_isntB, e_setIx, e_insert, e_append, e_isL, e_isLL, e_seqP, e_seqL, e_seqT, e_seqN, it_lst, it_fz, Option.bind_some, Option.isSome_some, ix10, ix20, ix21, ix30, ix32, dl1, dl2, dl3, List.eraseIdx_cons_zero, e_pop0, e_popAt, e_rev, e_clear, e_tupP, e_listP, e_neN, e_neIN, e_neNI, e_eqIN, e_eqNI, at0, at1, at2, at3, Cell.lst.injEq, Cell.obj.injEq, Option.some.injEq, exists_eq_left', decide_eq_true_eq, true_and, and_true, cup_same, cup_cup, List.flatten_nil, List.flatten_cons, enOf, endOf, excOf, List.map_cons, List.map_nil, List.length_cons, List.length_nil, List.replicate, Nat.reduceAdd, Nat.reduceSub, List.cons_append, List.nil_append, List.set_cons_zero, List.set_cons_succ, List.getElem?_cons_zero, List.getElem?_cons_succ, List.getElem_cons_zero, List.getElem_cons_succ, reduceCtorEq, if_true, if_false, Bool.false_eq_true, decide_true, decide_false, ne_eq, not_true, not_false_eq_true, Int.reduceEq, Nat.reduceMul, true_imp_iff, Int.reduceToNat, Int.reducePow, Nat.reducePow, Int.reduceLE, Int.reduceLT, Nat.reduceLT, and_self, Nat.reduceLeDiff, Int.reduceNeg, Int.reduceAdd, Int.reduceSub, Int.reduceMul, Int.cast_ofNat_Int]
    exact fun hz => ⟨hz, seq _ (.lst _) hp (by simpa [dep] using hd) (by rw [toL, toLs_map]) q⟩
/-- a comprehension that takes from the box -/
theorem lc_box {chk : Cs → Prop} {t : Tg} {we : WE} {vs : List Nat} {en : En} {fin : List D → Cs → Prop} {ds : List D} {p : Addr} {N C : Int} {c : Cs} (P : D → Prop) (hC : 0 ≤ C) (hb : Bx p N c)
    (hs : ∀ d, d ∈ ds → ∀ c1 M, N ≤ M → M + C ≤ N + C * ds.length → Up p M c c1 → chk c1 ∧ ∃ en', bindT t d (ewipe en vs) = some en' ∧ ∀ Q : DK, (∀ y c2, P y → Up p (M + C) c1 c2 → Q y c2) → we en' c1 Q noX)
    (hf : ∀ acc c', acc.length = ds.length → (∀ y ∈ acc, P y) → Up p (N + C * ds.length) c c' → chk c' ∧ fin acc c') : lcW chk t wYes we vs en fin ds [] c := by
  have up : ∀ i : Nat, i < ds.length → C * (i : Int) + C ≤ C * ds.length := fun i hi => by
    have : C * ((i : Int) + 1) ≤ C * ds.length := Int.mul_le_mul_of_nonneg_left (by omega) hC
    rw [Int.mul_add, Int.mul_one] at this
    exact this
  refine lc_inv (fun i acc c' => acc.length = i ∧ i ≤ ds.length ∧ (∀ y ∈ acc, P y) ∧ Up p (N + C * i) c c') ⟨rfl, by omega, (fun _ h => by cases h), by simpa using Up.refl hb⟩ ?_ ?_
  · rintro i acc c' d hd ⟨h1, h2, h3, h4⟩
    have hi := (List.getElem?_eq_some_iff.mp hd).1
    have hm : 0 ≤ C * (i : Int) := Int.mul_nonneg hC (by omega)
    obtain ⟨hc, en', hb, h⟩ := hs d (List.mem_of_getElem? hd) c' _ (by omega) (by have := up i hi; omega) h4
    refine ⟨hc, en', hb, fun Nx k => h _ fun y c2 hy hu => k _ _ ⟨by simp [h1], by omega, ?_, ?_⟩⟩
    · intro z hz
      rcases List.mem_append.mp hz with hz | hz
      · exact h3 z hz
      · rw [List.mem_singleton.mp hz]; exact hy
    · have e : N + C * ((i + 1 : Nat) : Int) = N + C * i + C := by push_cast; rw [Int.mul_add, Int.mul_one]; omega
      rw [e]
      exact h4.trans hu
  · rintro acc c' ⟨h1, _, h3, h4⟩
    exact hf acc c' h1 h3 h4
theorem e_allT {acc : List D} {c : Cs} {Q : DK} (h : ∀ y ∈ acc, y = .bl true) (q : Q (.bl true) c) : oAll [.lst acc] c Q := by
  have e : acc = (List.replicate acc.length true).map D.bl := by
    rw [List.map_replicate]
    exact List.eq_replicate_iff.mpr ⟨rfl, h⟩
  rw [e, e_all]
  simpa using q
theorem seq_gen {A B : WS} {D : EndD} {X : XD} {en : En} {c : Cs} (h : ∀ D2 : EndD, D2.rt = D.rt → D2.ct = D.ct → D2.bk = D.bk → (∀ en c, B D X en c → D2.nx en c) → A D2 X en c) : sSeq A B D X en c := h { D with nx := fun en c => B D X en c } rfl rfl rfl fun _ _ h => h
end VL
namespace VL
open PySem PySem.Spec PyProof.Rows L2
abbrev Gn := Option Int × Option Int
abbrev Wo := List Gn × List Int
def oD : Option Int → D
  | none => .non
  | some i => .int i
def gD (g : Gn) : D := .tup [oD g.1, oD g.2]
def gsD (gs : List Gn) : D := .tup (gs.map gD)
def wD (w : Wo) : D := .tup [gsD w.1, .tup (w.2.map .int)]
mutual
/-- lists as tuples, all the way -/
def toT : D → D
  | .tup l => .tup (toTs l)
  | .lst l => .tup (toTs l)
  | .non => .non
  | .bl b => .bl b
  | .int i => .int i
  | .str x => .str x
  | .ptr a => .ptr a
  | .scr l => .scr l
  | .ty n => .ty n
def toTs : List D → List D
  | [] => []
  | d :: l => toT d :: toTs l
end
theorem toTs_map : ∀ l : List D, toTs l = l.map toT
  | [] => rfl
  | d :: l => by rw [toTs, toTs_map l]; rfl
mutual
theorem toT_toL : ∀ d : D, toT (toL d) = toT d
  | .tup l => by rw [toL, toT, toT, toTs_toLs l]
  | .lst l => by rw [toL, toT, toT, toTs_toLs l]
  | .non => rfl
  | .bl _ => rfl
  | .int _ => rfl
  | .str _ => rfl
  | .ptr _ => rfl
  | .scr _ => rfl
  | .ty _ => rfl
theorem toTs_toLs : ∀ l : List D, toTs (toLs l) = toTs l
  | [] => rfl
  | d :: l => by rw [toLs, toTs, toTs, toT_toL d, toTs_toLs l]
end
mutual
theorem pl_toL : ∀ d : D, pl (toL d) = pl d
  | .tup l => by rw [toL, pl, pl, pls_toLs l]
  | .lst l => by rw [toL, pl, pl, pls_toLs l]
  | .non => rfl
  | .bl _ => rfl
  | .int _ => rfl
  | .str _ => rfl
  | .ptr _ => rfl
  | .scr _ => rfl
  | .ty _ => rfl
theorem pls_toLs : ∀ l : List D, pls (toLs l) = pls l
  | [] => rfl
  | d :: l => by rw [toLs, pls, pls, pl_toL d, pls_toLs l]
end
mutual
theorem dep_toL : ∀ d : D, dep (toL d) = dep d
  | .tup l => by rw [toL, dep, dep, deps_toLs l]
  | .lst l => by rw [toL, dep, dep, deps_toLs l]
  | .non => rfl
  | .bl _ => rfl
  | .int _ => rfl
  | .str _ => rfl
  | .ptr _ => rfl
  | .scr _ => rfl
  | .ty _ => rfl
theorem deps_toLs : ∀ l : List D, deps (toLs l) = deps l
  | [] => rfl
  | d :: l => by rw [toLs, deps, deps, dep_toL d, deps_toLs l]
end
theorem toT_oD (o : Option Int) : toT (oD o) = oD o := by cases o <;> rfl
theorem toT_gD (g : Gn) : toT (gD g) = gD g := by simp [gD, toT, toTs, toT_oD]
theorem toT_ints (l : List Int) : toT (.tup (l.map .int)) = .tup (l.map .int) := by
  rw [toT, toTs_map, List.map_map]
  congr 1
theorem toT_gsD (gs : List Gn) : toT (gsD gs) = gsD gs := by
  rw [gsD, toT, toTs_map, List.map_map]
  congr 1
  exact List.map_congr_left fun g _ => toT_gD g
theorem toT_wD (w : Wo) : toT (wD w) = wD w := by
  rw [wD, toT, toTs, toTs, toTs, toT_gsD, toT_ints]
theorem pl_oD (o : Option Int) : pl (oD o) = true := by cases o <;> rfl
theorem dep_oD (o : Option Int) : dep (oD o) = 0 := by cases o <;> rfl
theorem pl_gD (g : Gn) : pl (gD g) = true := by simp [gD, pl, pls, pl_oD]
theorem dep_gD (g : Gn) : dep (gD g) = 1 := by simp [gD, dep, deps, dep_oD]
theorem pls_ints (l : List Int) : pls (l.map .int) = true := pls_all.mpr fun d hd => by obtain ⟨i, _, rfl⟩ := List.mem_map.mp hd; rfl
theorem deps_ints (l : List Int) : deps (l.map .int) = 0 := by
  have := (deps_le (l := l.map .int) (n := 0)).mpr fun d hd => by obtain ⟨i, _, rfl⟩ := List.mem_map.mp hd; exact Nat.le_refl _
  omega
theorem pl_gsD (gs : List Gn) : pl (gsD gs) = true := by
  show pls (gs.map gD) = true
  exact pls_all.mpr fun d hd => by obtain ⟨g, _, rfl⟩ := List.mem_map.mp hd; exact pl_gD g
theorem dep_gsD (gs : List Gn) : dep (gsD gs) ≤ 2 := by
  show deps (gs.map gD) + 1 ≤ 2
  have := (deps_le (l := gs.map gD) (n := 1)).mpr fun d hd => by obtain ⟨g, _, rfl⟩ := List.mem_map.mp hd; rw [dep_gD]; exact Nat.le_refl _
  omega
theorem pl_wD (w : Wo) : pl (wD w) = true := by simp [wD, pl, pls, pl_gsD, pls_ints]
theorem dep_wD (w : Wo) : dep (wD w) ≤ 3 := by
  have h1 := dep_gsD w.1
  have h2 := deps_ints w.2
  simp only [wD, dep, deps, h2]
  omega
/-- x tells the world w, by tuples or lists -/
def WLike (x : D) (w : Wo) : Prop := toT x = wD w ∧ pl x = true ∧ dep x ≤ 3
theorem WLike.self (w : Wo) : WLike (wD w) w := ⟨toT_wD w, pl_wD w, dep_wD w⟩
theorem WLike.lists (w : Wo) : WLike (toL (wD w)) w := ⟨(toT_toL _).trans (toT_wD w), (pl_toL _).trans (pl_wD w), by rw [dep_toL]; exact dep_wD w⟩
def c_as_tuples (k : Nat) : Ctr := fun ds c Q _ => ∃ x, ds = [x] ∧ pl x = true ∧ dep x ≤ k ∧ Q (toT x) c
def w_as_tuples (k : Nat) : WS := (sSeq (sIf (wTst (wBi oIsi (wCons (wVar 0) (wCons (wTup (wCons (wC (.ty "list")) (wCons (wC (.ty "tuple")) wNil))) wNil)))) (sRet (wBi oTuple (wCons (wLc (wSeq (wVar 0)) (.nm 1) wYes (wCall 1 c_as_tuples k (wCons (wVar 1) wNil)) [1]) wNil))) sNil) (sRet (wVar 0)))
theorem p_as_tuples (k : Nat) (ds : List D) (c : Cs) (Q : DK) (X0 : XK0) (hlen0 : ds.length = 1) (h : c_as_tuples k ds c Q X0) : w_as_tuples k (endOf Q) (excOf X0) (enOf 2 ds) c := by
  obtain ⟨x, rfl, hp, hd, q⟩ := h
  have seq : ∀ (l : List D) (x : D), pls l = true → deps l + 1 ≤ k → toT x = .tup (l.map toT) → Q (toT x) c →
      lcW (fun _ => True) (Tg.nm 1) wYes (wCall 1 c_as_tuples k (wCons (wVar 1) wNil)) [1] [some x, none] (fun acc c' => ∃ c0, CLe c0 c' ∧ Q (.tup acc) c0) l [] c := by
    intro l x hp hd hx q
    refine lc_map toT trivial (fun d hd' => ⟨_, rfl, fun Q q => ?_⟩) ⟨c, CLe.refl _, hx ▸ q⟩
    simp only [sRaise, sTry, wIsX, wWhat, wBack, lo_lst, e_mulV, sizeL, sNil, sSeq, sPass, sBrk, sCont, sExpr, sRet, sRetN, sIf, sNever, sSet, sAug, gNm, gTp, gNil', gCons', gSb, sAsg, sPar, sFor, wVar_z, wVar_s, wC, wChn, wTru, sPar3, wRev, wCallK, permF, List.filterMap_cons, List.filterMap_nil, wBin, wUn, wTst, wNot, wAnd, wOr, wAndV, wOrV, wNotV, wIf, wNil, wCons, wTup, wLst, wLstL, wFz, wCall, wBi, wMt, wMt0, wSl, wSlL, wPart, wNoPart, wYes, wSeq, wRg1, wRg2, wEnum, wZip, wLc, wLcL, wLRg, wFld, sFldS, sFldA, gFld, wMeth, wMake, lvl2_s, onB, e_eqI, e_neI, e_eqB, e_neB, e_eqS, e_neS, e_eqN, e_tyLT, e_ty1, isTys, tyMem, tyN_non, tyN_bl, tyN_int, tyN_str, tyN_tup, tyN_lst, Bool.true_or, Bool.or_true, Bool.or_false, Bool.false_or, Bool.not_true, Bool.not_false, inn_non, inn_bl, inn_int, inn_str, inn_tup, inn_lst, inn_ptr, e_slT, e_slL, e_slN, isT_P, isT_L, isT_T, isT_N, e_sub, e_fdiv, e_mod, e_pow, e_lt, e_le, e_gt, e_ge, e_neg, e_add, e_addS, e_addT, e_addL, e_addPP, e_addPL, e_addLP, e_mul, e_mulL, e_mulT, e_augI, e_ixT, e_ixL, e_ixN, e_ixP, e_lenT, e_lenL, e_lenN, e_lenS, e_lenP, e_abs, e_intI, e_intB, e_max, e_min, e_tupL, e_tupT, e_listL, e_listT, e_listN, e_listLL, e_listLT, e_divmod, e_isNon, e_isntNon, e_isB, e_isntB, e_setIx, e_insert, e_append, e_isL, e_isLL, e_seqP, e_seqL, e_seqT, e_seqN, it_lst, it_fz, Option.bind_some, Option.isSome_some, ix10, ix20, ix21, ix30, ix32, dl1, dl2, dl3, List.eraseIdx_cons_zero, e_pop0, e_popAt, e_rev, e_clear, e_tupP, e_listP, e_neN, e_neIN, e_neNI, e_eqIN, e_eqNI, at0, at1, at2, at3, Cell.lst.injEq, Cell.obj.injEq, Option.some.injEq, exists_eq_left', decide_eq_true_eq, true_and, and_true, cup_same, cup_cup, List.flatten_nil, List.flatten_cons, enOf, endOf, excOf, List.map_cons, List.map_nil, List.length_cons, List.length_nil, List.replicate, Nat.reduceAdd, Nat.reduceSub, List.cons_append, List.nil_append, List.set_cons_zero, List.set_cons_succ, List.getElem?_cons_zero, List.getElem?_cons_succ, List.getElem_cons_zero, List.getElem_cons_succ, reduceCtorEq, if_true, if_false, Bool.false_eq_true, decide_true, decide_false, ne_eq, not_true, not_false_eq_true, Int.reduceEq, Nat.reduceMul, true_imp_iff, Int.reduceToNat, Int.reducePow, Nat.reducePow, Int.reduceLE, Int.reduceLT, Nat.reduceLT, and_self, Nat.reduceLeDiff, Int.reduceNeg, Int.reduceAdd, Int.reduceSub, Int.reduceMul, Int.cast_ofNat_Int, ewipe]
    cases k with
    | zero => omega
    | succ k => exact ⟨d, rfl, pls_all.mp hp _ hd', deps_le.mp (show deps l ≤ k by omega) _ hd', q⟩
  cases x <;> simp only [pl, reduceCtorEq, Bool.false_eq_true] at hp
  · simp only [w_as_tuples, sRaise, sTry, wIsX, wWhat, wBack, lo_lst, e_mulV, sizeL, sNil, sSeq, sPass, sBrk, sCont, sExpr, sRet, sRetN, sIf, sNever, sSet, sAug, gNm, gTp, gNil', gCons', gSb, sAsg, sPar, sFor, wVar_z, wVar_s, wC, wChn, wTru, sPar3, wRev, wCallK, permF, List.filterMap_cons, List.filterMap_nil, wBin, wUn, wTst, wNot, wAnd, wOr, wAndV, wOrV, wNotV, wIf, wNil, wCons, wTup, wLst, wLstL, wFz, wCall, wBi, wMt, wMt0, wSl, wSlL, wPart, wNoPart, wYes, wSeq, wRg1, wRg2, wEnum, wZip, wLc, wLcL, wLRg, wFld, sFldS, sFldA, gFld, wMeth, wMake, lvl2_s, onB, e_eqI, e_neI, e_eqB, e_neB, e_eqS, e_neS, e_eqN, e_tyLT, e_ty1, isTys, tyMem, tyN_non, tyN_bl, tyN_int, tyN_str, tyN_tup, tyN_lst, Bool.true_or, Bool.or_true, Bool.or_false, Bool.false_or, Bool.not_true, Bool.not_false, inn_non, inn_bl, inn_int, inn_str, inn_tup, inn_lst, inn_ptr, e_slT, e_slL, e_slN, isT_P, isT_L, isT_T, isT_N, e_sub, e_fdiv, e_mod, e_pow, e_lt, e_le, e_gt, e_ge, e_neg, e_add, e_addS, e_addT, e_addL, e_addPP, e_addPL, e_addLP, e_mul, e_mulL, e_mulT, e_augI, e_ixT, e_ixL, e_ixN, e_ixP, e_lenT, e_lenL, e_lenN, e_lenS, e_lenP, e_abs, e_intI, e_intB, e_max, e_min, e_tupL, e_tupT, e_listL, e_listT, e_listN, e_listLL, e_listLT, e_divmod, e_isNon, e_isntNon, e_isB, e_isntB, e_setIx, e_insert, e_append, e_isL, e_isLL, e_seqP, e_seqL, e_seqT, e_seqN, it_lst, it_fz, Option.bind_some, Option.isSome_some, ix10, ix20, ix21, ix30, ix32, dl1, dl2, dl3, List.eraseIdx_cons_zero, e_pop0, e_popAt, e_rev, e_clear, e_tupP, e_listP, e_neN, e_neIN, e_neNI, e_eqIN, e_eqNI, at0, at1, at2, at3, Cell.lst.injEq, Cell.obj.injEq, Option.some.injEq, exists_eq_left', decide_eq_true_eq, true_and, and_true, cup_same, cup_cup, List.flatten_nil, List.flatten_cons, enOf, endOf, excOf, List.map_cons, List.map_nil, List.length_cons, List.length_nil, List.replicate, Nat.reduceAdd, Nat.reduceSub, List.cons_append, List.nil_append, List.set_cons_zero, List.set_cons_succ, List.getElem?_cons_zero, List.getElem?_cons_succ, List.getElem_cons_zero, List.getElem_cons_succ, reduceCtorEq, if_true, if_false, Bool.false_eq_true, decide_true, decide_false, ne_eq, not_true, not_false_eq_true, Int.reduceEq, Nat.reduceMul, true_imp_iff, Int.reduceToNat, Int.reducePow, Nat.reducePow, Int.reduceLE, Int.reduceLT, Nat.reduceLT, and_self, Nat.reduceLeDiff, Int.reduceNeg, Int.reduceAdd, Int.reduceSub, Int.reduceMul, Int.cast_ofNat_Int]
    exact ⟨c, CLe.refl _, q⟩
  · simp only [w_as_tuples, sRaise, sTry, wIsX, wWhat, wBack, lo_lst, e_mulV, sizeL, sNil, sSeq, sPass, sBrk, sCont, sExpr, sRet, sRetN, sIf, sNever, sSet, sAug, gNm, gTp, gNil', gCons', gSb, sAsg, sPar, sFor, wVar_z, wVar_s, wC, wChn, wTru, sPar3, wRev, wCallK, permF, List.filterMap_cons, List.filterMap_nil, wBin, wUn, wTst, wNot, wAnd, wOr, wAndV, wOrV, wNotV, wIf, wNil, wCons, wTup, wLst, wLstL, wFz, wCall, wBi, wMt, wMt0, wSl, wSlL, wPart, wNoPart, wYes, wSeq, wRg1, wRg2, wEnum, wZip, wLc, wLcL, wLRg, wFld, sFldS, sFldA, gFld, wMeth, wMake, lvl2_s, onB, e_eqI, e_neI, e_eqB, e_neB, e_eqS, e_neS, e_eqN, e_tyLT, e_ty1, isTys, tyMem, tyN_non, tyN_bl, tyN_int, tyN_str, tyN_tup, tyN_lst, Bool.true_or, Bool.or_true, Bool.or_false, Bool.false_or, Bool.not_true, Bool.not_false, inn_non, inn_bl, inn_int, inn_str, inn_tup, inn_lst, inn_ptr, e_slT, e_slL, e_slN, isT_P, isT_L, isT_T, isT_N, e_sub, e_fdiv, e_mod, e_pow, e_lt, e_le, e_gt, e_ge, e_neg, e_add, e_addS, e_addT, e_addL, e_addPP, e_addPL, e_addLP, e_mul, e_mulL, e_mulT, e_augI, e_ixT, e_ixL, e_ixN, e_ixP, e_lenT, e_lenL, e_lenN, e_lenS, e_lenP, e_abs, e_intI, e_intB, e_max, e_min, e_tupL, e_tupT, e_listL, e_listT, e_listN, e_listLL, e_listLT, e_divmod, e_isNon, e_isntNon, e_isB, e_isntB, e_setIx, e_insert, e_append, e_isL, e_isLL, e_seqP, e_seqL, e_seqT, e_seqN, it_lst, it_fz, Option.bind_some, Option.isSome_some, ix10, ix20, ix21, ix30, ix32, dl1, dl2, dl3, List.eraseIdx_cons_zero, e_pop0, e_popAt, e_rev, e_clear, e_tupP, e_listP, e_neN, e_neIN, e_neNI, e_eqIN, e_eqNI, at0, at1, at2, at3, Cell.lst.injEq, Cell.obj.injEq, Option.some.injEq, exists_eq_left', decide_eq_true_eq, true_and, and_true, cup_same, cup_cup, List.flatten_nil, List.flatten_cons, enOf, endOf, excOf, List.map_cons, List.map_nil, List.length_cons, List.length_nil, List.replicate, Nat.reduceAdd, Nat.reduceSub, List.cons_append, List.nil_append, List.set_cons_zero, List.set_cons_succ, List.getElem?_cons_zero, List.getElem?_cons_succ, List.getElem_cons_zero, List.getElem_cons_succ, reduceCtorEq, if_true, if_false, Bool.false_eq_true, decide_true, decide_false, ne_eq, not_true, not_false_eq_true, Int.reduceEq, Nat.reduceMul, true_imp_iff, Int.reduceToNat, Int.reducePow, Nat.reducePow, Int.reduceLE, Int.reduceLT, Nat.reduceLT, and_self, Nat.reduceLeDiff, Int.reduceNeg, Int.reduceAdd, Int.reduceSub, Int.reduceMul, Int.cast_ofNat_Int]
    exact ⟨c, CLe.refl _, q⟩
  · simp only [w_as_tuples, sRaise, sTry, wIsX, wWhat, wBack, lo_lst, e_mulV, sizeL, sNil, sSeq, sPass, sBrk, sCont, sExpr, sRet, sRetN, sIf, sNever, sSet, sAug, gNm, gTp, gNil', gCons', gSb, sAsg, sPar, sFor, wVar_z, wVar_s, wC, wChn, wTru, sPar3, wRev, wCallK, permF, List.filterMap_cons, List.filterMap_nil, wBin, wUn, wTst, wNot, wAnd, wOr, wAndV, wOrV, wNotV, wIf, wNil, wCons, wTup, wLst, wLstL, wFz, wCall, wBi, wMt, wMt0, wSl, wSlL, wPart, wNoPart, wYes, wSeq, wRg1, wRg2, wEnum, wZip, wLc, wLcL, wLRg, wFld, sFldS, sFldA, gFld, wMeth, wMake, lvl2_s, onB, e_eqI, e_neI, e_eqB, e_neB, e_eqS, e_neS, e_eqN, e_tyLT, e_ty1, isTys, tyMem, tyN_non, tyN_bl, tyN_int, tyN_str, tyN_tup, tyN_lst, Bool.true_or, Bool.or_true, Bool.or_false, Bool.false_or, Bool.not_true, Bool.not_false, inn_non, inn_bl, inn_int, inn_str, inn_tup, inn_lst, inn_ptr, e_slT, e_slL, e_slN, isT_P, isT_L, isT_T, isT_N, e_sub, e_fdiv, e_mod, e_pow, e_lt, e_le, e_gt, e_ge, e_neg, e_add, e_addS, e_addT, e_addL, e_addPP, e_addPL, e_addLP, e_mul, e_mulL, e_mulT, e_augI, e_ixT, e_ixL, e_ixN, e_ixP, e_lenT, e_lenL, e_lenN, e_lenS, e_lenP, e_abs, e_intI, e_intB, e_max, e_min, e_tupL, e_tupT, e_listL, e_listT, e_listN, e_listLL, e_listLT, e_divmod, e_isNon, e_isntNon, e_isB, e_isntB, e_setIx, e_insert, e_append, e_isL, e_isLL, e_seqP, e_seqL, e_seqT, e_seqN, it_lst, it_fz, Option.bind_some, Option.isSome_some, ix10, ix20, ix21, ix30, ix32, dl1, dl2, dl3, List.eraseIdx_cons_zero, e_pop0, e_popAt, e_rev, e_clear, e_tupP, e_listP, e_neN, e_neIN, e_neNI, e_eqIN, e_eqNI, at0, at1, at2, at3, Cell.lst.injEq, Cell.obj.injEq, Option.some.injEq, exists_eq_left', decide_eq_true_eq, true_and, and_true, cup_same, cup_cup, List.flatten_nil, List.flatten_cons, enOf, endOf, excOf, List.map_cons, List.map_nil, List.length_cons, List.length_nil, List.replicate, Nat.reduceAdd, Nat.reduceSub, List.cons_append, List.nil_append, List.set_cons_zero, List.set_cons_succ, List.getElem?_cons_zero, List.getElem?_cons_succ, List.getElem_cons_zero, List.getElem_cons_succ, reduceCtorEq, if_true, if_false, Bool.false_eq_true, decide_true, decide_false, ne_eq, not_true, not_false_eq_true, Int.reduceEq, Nat.reduceMul, true_imp_iff, Int.reduceToNat, Int.reducePow, Nat.reducePow, Int.reduceLE, Int.reduceLT, Nat.reduceLT, and_self, Nat.reduceLeDiff, Int.reduceNeg, Int.reduceAdd, Int.reduceSub, Int.reduceMul, Int.cast_ofNat_Int]
    exact ⟨c, CLe.refl _, q⟩
  · simp only [w_as_tuples, sRaise, sTry, wIsX, wWhat, wBack, lo_lst, e_mulV, sizeL, sNil, sSeq, sPass, sBrk, sCont, sExpr, sRet, sRetN, sIf, sNever, sSet, sAug, gNm, gTp, gNil', gCons', gSb, sAsg, sPar, sFor, wVar_z, wVar_s, wC, wChn, wTru, sPar3, wRev, wCallK, permF, List.filterMap_cons, List.filterMap_nil, wBin, wUn, wTst, wNot, wAnd, wOr, wAndV, wOrV, wNotV, wIf, wNil, wCons, wTup, wLst, wLstL, wFz, wCall, wBi, wMt, wMt0, wSl, wSlL, wPart, wNoPart, wYes, wSeq, wRg1, wRg2, wEnum, wZip, wLc, wLcL, wLRg, wFld, sFldS, sFldA, gFld, wMeth, wMake, lvl2_s, onB, e_eqI, e_neI, e_eqB, e_neB, e_eqS, e_neS, e_eqN, e_tyLT, e_ty1, isTys, tyMem, tyN_non, tyN_bl, tyN_int, tyN_str, tyN_tup, tyN_lst, Bool.true_or, Bool.or_true, Bool.or_false, Bool.false_or, Bool.not_true, Bool.not_false, inn_non, inn_bl, inn_int, inn_str, inn_tup, inn_lst, inn_ptr, e_slT, e_slL, e_slN, isT_P, isT_L, isT_T, isT_N, e_sub, e_fdiv, e_mod, e_pow, e_lt, e_le, e_gt, e_ge, e_neg, e_add, e_addS, e_addT, e_addL, e_addPP, e_addPL, e_addLP, e_mul, e_mulL, e_mulT, e_augI, e_ixT, e_ixL, e_ixN, e_ixP, e_lenT, e_lenL, e_lenN, e_lenS, e_lenP, e_abs, e_intI, e_intB, e_max, e_min, e_tupL, e_tupT, e_listL, e_listT, e_listN, e_listLL, e_listLT, e_divmod, e_isNon, e_isntNon, e_isB, e_isntB, e_setIx, e_insert, e_append, e_isL, e_isLL, e_seqP, e_seqL, e_seqT, e_seqN, it_lst, it_fz, Option.bind_some, Option.isSome_some, ix10, ix20, ix21, ix30, ix32, dl1, dl2, dl3, List.eraseIdx_cons_zero, e_pop0, e_popAt, e_rev, e_clear, e_tupP, e_listP, e_neN, e_neIN, e_neNI, e_eqIN, e_eqNI, at0, at1, at2, at3, Cell.lst.injEq, Cell.obj.injEq, Option.some.injEq, exists_eq_left', decide_eq_true_eq, true_and, and_true, cup_same, cup_cup, List.flatten_nil, List.flatten_cons, enOf, endOf, excOf, List.map_cons, List.map_nil, List.length_cons, List.length_nil, List.replicate, Nat.reduceAdd, Nat.reduceSub, List.cons_append, List.nil_append, List.set_cons_zero, List.set_cons_succ, List.getElem?_cons_zero, List.getElem?_cons_succ, List.getElem_cons_zero, List.getElem_cons_succ, reduceCtorEq, if_true, if_false, Bool.false_eq_true, decide_true, decide_false, ne_eq, not_true, not_false_eq_true, Int.reduceEq, Nat.reduceMul, true_imp_iff, Int.reduceToNat, Int.reducePow, Nat.reducePow, Int.reduceLE, Int.reduceLT, Nat.reduceLT, and_self, Nat.reduceLeDiff, Int.reduceNeg, Int.reduceAdd, Int.reduceSub, Int.reduceMul, Int.cast_ofNat_Int]
    exact ⟨c, CLe.refl _, q⟩
  · simp only [w_as_tuples, sRaise, sTry, wIsX, wWhat, wBack, lo_lst, e_mulV, sizeL, sNil, sSeq, sPass, sBrk, sCont, sExpr, sRet, sRetN, sIf, sNever, sSet, sAug, gNm, gTp, gNil', gCons', gSb, sAsg, sPar, sFor, wVar_z, wVar_s, wC, wChn, wTru, sPar3, wRev, wCallK, permF, List.filterMap_cons, List.filterMap_nil, wBin, wUn, wTst, wNot, wAnd, wOr, wAndV, wOrV, wNotV, wIf, wNil, wCons, wTup, wLst, wLstL, wFz, wCall, wBi, wMt, wMt0, wSl, wSlL, wPart, wNoPart, wYes, wSeq, wRg1, wRg2, wEnum, wZip, wLc, wLcL, wLRg, wFld, sFldS, sFldA, gFld, wMeth, wMake, lvl2_s, onB, e_eqI, e_neI, e_eqB, e_neB, e_eqS, e_neS, e_eqN, e_tyLT, e_ty1, isTys, tyMem, tyN_non, tyN_bl, tyN_int, tyN_str, tyN_tup, tyN_lst, Bool.true_or, Bool.or_true, Bool.or_false, Bool.false_or, Bool.not_true, Bool.not_false, inn_non, inn_bl, inn_int, inn_str, inn_tup, inn_lst, inn_ptr, e_slT, e_slL, e_slN, isT_P, isT_L, isT_T, isT_N, e_sub, e_fdiv, e_mod, e_pow, e_lt, e_le, e_gt, e_ge, e_neg, e_add, e_addS, e_addT, e_addL, e_addPP, e_addPL, e_addLP, e_mul, e_mulL, e_mulT, e_augI, e_ixT, e_ixL, e_ixN, e_ixP, e_lenT, e_lenL, e_lenN, e_lenS, e_lenP, e_abs, e_intI, e_intB, e_max, e_min, e_tupL, e_tupT, e_listL, e_listT, e_listN, e_listLL, e_listLT, e_divmod, e_isNon, e_isntNon, e_isB, e_isntB, e_setIx, e_insert, e_append, e_isL, e_isLL, e_seqP, e_seqL, e_seqT, e_seqN, it_lst, it_fz, Option.bind_some, Option.isSome_some, ix10, ix20, ix21, ix30, ix32, dl1, dl2, dl3, List.eraseIdx_cons_zero, e_pop0, e_popAt, e_rev, e_clear, e_tupP, e_listP, e_neN, e_neIN, e_neNI, e_eqIN, e_eqNI, at0, at1, at2, at3, Cell.lst.injEq, Cell.obj.injEq, Option.some.injEq, exists_eq_left', decide_eq_true_eq, true_and, and_true, cup_same, cup_cup, List.flatten_nil, List.flatten_cons, enOf, endOf, excOf, List.map_cons, List.map_nil, List.length_cons, List.length_nil, List.replicate, Nat.reduceAdd, Nat.reduceSub, List.cons_append, List.nil_append, List.set_cons_zero, List.set_cons_succ, List.getElem?_cons_zero, List.getElem?_cons_succ, List.getElem_cons_zero, List.getElem_cons_succ, reduceCtorEq, if_true, if_false, Bool.false_eq_true, decide_true, decide_false, ne_eq, not_true, not_false_eq_true, Int.reduceEq, Nat.reduceMul, true_imp_iff, Int.reduceToNat, Int.reducePow, Nat.reducePow, Int.reduceLE, Int.reduceLT, Nat.reduceLT, and_self, Nat.reduceLeDiff, Int.reduceNeg, Int.reduceAdd, Int.reduceSub, Int.reduceMul, Int.cast_ofNat_Int]
    exact fun hz => ⟨hz, seq _ (.tup _) hp (by simpa [dep] using hd) (by rw [toT, toTs_map]) q⟩
  · simp only [w_as_tuples, sRaise, sTry, wIsX, wWhat, wBack, lo_lst, e_mulV, sizeL, sNil, sSeq, sPass, sBrk, sCont, sExpr, sRet, sRetN, sIf, sNever, sSet, sAug, gNm, gTp, gNil', gCons', gSb, sAsg, sPar, sFor, wVar_z, wVar_s, wC, wChn, wTru, sPar3, wRev, wCallK, permF, List.filterMap_cons, List.filterMap_nil, wBin, wUn, wTst, wNot, wAnd, wOr, wAndV, wOrV, wNotV, wIf, wNil, wCons, wTup, wLst, wLstL, wFz, wCall, wBi, wMt, wMt0, wSl, wSlL, wPart, wNoPart, wYes, wSeq, wRg1, wRg2, wEnum, wZip, wLc, wLcL, wLRg, wFld, sFldS, sFldA, gFld, wMeth, wMake, lvl2_s, onB, e_eqI, e_neI, e_eqB, e_neB, e_eqS, e_neS, e_eqN, e_tyLT, e_ty1, isTys, tyMem, tyN_non, tyN_bl, tyN_int, tyN_str, tyN_tup, tyN_lst, Bool.true_or, Bool.or_true, Bool.or_false, Bool.false_or, Bool.not_true, Bool.not_false, inn_non, inn_bl, inn_int, inn_str, inn_tup, inn_lst, inn_ptr, e_slT, e_slL, e_slN, isT_P, isT_L, isT_T, isT_N, e_sub, e_fdiv, e_mod, e_pow, e_lt, e_le, e_gt, e_ge, e_neg, e_add, e_addS, e_addT, e_addL, e_addPP, e_addPL, e_addLP, e_mul, e_mulL, e_mulT, e_augI, e_ixT, e_ixL, e_ixN, e_ixP, e_lenT, e_lenL, e_lenN, e_lenS, e_lenP, e_abs, e_intI, e_intB, e_max, e_min, e_tupL, e_tupT, e_listL, e_listT, e_listN, e_listLL, e_listLT, e_divmod, e_isNon, e_isntNon, e_isB, e_isntB, e_setIx, e_insert, e_append, e_isL, e_isLL, e_seqP, e_seqL, e_seqT, e_seqN, it_lst, it_fz, Option.bind_some, Option.isSome_some, ix10, ix20, ix21, ix30, ix32, dl1, dl2, dl3, List.eraseIdx_cons_zero, e_pop0, e_popAt, e_rev, e_clear, e_tupP, e_listP, e_neN, e_neIN, e_neNI, e_eqIN, e_eqNI, at0, at1, at2, at3, Cell.lst.injEq, Cell.obj.injEq, Option.some.injEq, exists_eq_left', decide_eq_true_eq, true_and, and_true, cup_same, cup_cup, List.flatten_nil, List.flatten_cons, enOf, endOf, excOf, List.map_cons, List.map_nil, List.length_cons, List.length_nil, List.replicate, Nat.reduceAdd, Nat.reduceSub, List.cons_append, List.nil_append, List.set_cons_zero, List.set_cons_succ, List.getElem?_cons_zero, List.getElem?_cons_succ, List.getElem_cons_zero, List.getElem_cons_succ, reduceCtorEq, if_true, if_false, Bool.false_eq_true, decide_true, decide_false, ne_eq, not_true, not_false_eq_true, Int.reduceEq, Nat.reduceMul, true_imp_iff, Int.reduceToNat, Int.reducePow, Nat.reducePow, Int.reduceLE, Int.reduceLT, Nat.reduceLT, and_self, Nat.reduceLeDiff, Int.reduceNeg, Int.reduceAdd, Int.reduceSub, Int.reduceMul, Int.cast_ofNat_Int]
    exact fun hz => ⟨hz, seq _ (.lst _) hp (by simpa [dep] using hd) (by rw [toT, toTs_map]) q⟩
theorem as_tuples_use {k : Nat} {x : D} {w : Wo} {c : Cs} {Q : DK} {X0 : XK0} (hk : 4 ≤ k) (h : WLike x w) (q : Q (wD w) c) : lvl c_as_tuples k [x] c Q X0 := by
  cases k with
  | zero => omega
  | succ k => exact ⟨x, rfl, h.2.1, by have := h.2.2; omega, h.1 ▸ q⟩
def lowsOf (gs : List Gn) : List Int := gs.filterMap (·.1)
def highsOf (gs : List Gn) : List Int := gs.filterMap (·.2)
def wordOf (g : Gn) (x : Int) : Option Bool :=
  if g.1.any (fun l => x < l) then some false else if g.2.any (fun h => h < x) then some true else none
def wordD : Option Bool → D
  | none => .non
  | some false => .str "low"
  | some true => .str "high"
theorem high_ne : (("high" : Str) = "low") = False := by decide
theorem low_eq : (("low" : Str) = "low") = True := by decide
def c_exchanged_word (k : Nat) : Ctr := fun ds c Q _ => ∃ g x, (ds = [gD g, .int x] ∨ ds = [.lst [oD g.1, oD g.2], .int x]) ∧ Q (wordD (wordOf g x)) c
def w_exchanged_word (k : Nat) : WS := (sSeq (sAsg (wVar 0) (gTp 2 (gCons' (gNm 2) (gCons' (gNm 3) gNil')))) (sSeq (sIf (wAnd (wTst (wBin oIsNot (wVar 2) (wC .non))) (wTst (wBin oLt (wVar 1) (wVar 2)))) (sRet (wC (.str "low"))) sNil) (sRet (wIf (wAnd (wTst (wBin oIsNot (wVar 3) (wC .non))) (wTst (wBin oGt (wVar 1) (wVar 3)))) (wC (.str "high")) (wC .non)))))
theorem p_exchanged_word (k : Nat) (ds : List D) (c : Cs) (Q : DK) (X0 : XK0) (hlen0 : ds.length = 2) (h : c_exchanged_word k ds c Q X0) : w_exchanged_word k (endOf Q) (excOf X0) (enOf 4 ds) c := by
  obtain ⟨⟨l, h⟩, x, hds, q⟩ := h
  rcases hds with rfl | rfl <;> cases l <;> cases h <;> simp only [w_exchanged_word, gD, oD, sRaise, sTry, wIsX, wWhat, wBack, lo_lst, e_mulV, sizeL, sNil, sSeq, sPass, sBrk, sCont, sExpr, sRet, sRetN, sIf, sNever, sSet, sAug, gNm, gTp, gNil', gCons', gSb, sAsg, sPar, sFor, wVar_z, wVar_s, wC, wChn, wTru, sPar3, wRev, wCallK, permF, List.filterMap_cons, List.filterMap_nil, wBin, wUn, wTst, wNot, wAnd, wOr, wAndV, wOrV, wNotV, wIf, wNil, wCons, wTup, wLst, wLstL, wFz, wCall, wBi, wMt, wMt0, wSl, wSlL, wPart, wNoPart, wYes, wSeq, wRg1, wRg2, wEnum, wZip, wLc, wLcL, wLRg, wFld, sFldS, sFldA, gFld, wMeth, wMake, lvl2_s, onB, e_eqI, e_neI, e_eqB, e_neB, e_eqS, e_neS, e_eqN, e_tyLT, e_ty1, isTys, tyMem, tyN_non, tyN_bl, tyN_int, tyN_str, tyN_tup, tyN_lst, Bool.true_or, Bool.or_true, Bool.or_false, Bool.false_or, Bool.not_true, Bool.not_false, inn_non, inn_bl, inn_int, inn_str, inn_tup, inn_lst, inn_ptr, e_slT, e_slL, e_slN, isT_P, isT_L, isT_T, isT_N, e_sub, e_fdiv, e_mod, e_pow, e_lt, e_le, e_gt, e_ge, e_neg, e_add, e_addS, e_addT, e_addL, e_addPP, e_addPL, e_addLP, e_mul, e_mulL, e_mulT, e_augI, e_ixT, e_ixL, e_ixN, e_ixP, e_lenT, e_lenL, e_lenN, e_lenS, e_lenP, e_abs, e_intI, e_intB, e_max, e_min, e_tupL, e_tupT, e_listL, e_listT, e_listN, e_listLL, e_listLT, e_divmod, e_isNon, e_isntNon, e_isB, e_isntB, e_setIx, e_insert, e_append, e_isL, e_isLL, e_seqP, e_seqL, e_seqT, e_seqN, it_lst, it_fz, Option.bind_some, Option.isSome_some, ix10, ix20, ix21, ix30, ix32, dl1, dl2, dl3, List.eraseIdx_cons_zero, e_pop0, e_popAt, e_rev, e_clear, e_tupP, e_listP, e_neN, e_neIN, e_neNI, e_eqIN, e_eqNI, at0, at1, at2, at3, Cell.lst.injEq, Cell.obj.injEq, Option.some.injEq, exists_eq_left', decide_eq_true_eq, true_and, and_true, cup_same, cup_cup, List.flatten_nil, List.flatten_cons, enOf, endOf, excOf, List.map_cons, List.map_nil, List.length_cons, List.length_nil, List.replicate, Nat.reduceAdd, Nat.reduceSub, List.cons_append, List.nil_append, List.set_cons_zero, List.set_cons_succ, List.getElem?_cons_zero, List.getElem?_cons_succ, List.getElem_cons_zero, List.getElem_cons_succ, reduceCtorEq, if_true, if_false, Bool.false_eq_true, decide_true, decide_false, ne_eq, not_true, not_false_eq_true, Int.reduceEq, Nat.reduceMul, true_imp_iff, Int.reduceToNat, Int.reducePow, Nat.reducePow, Int.reduceLE, Int.reduceLT, Nat.reduceLT, and_self, Nat.reduceLeDiff, Int.reduceNeg, Int.reduceAdd, Int.reduceSub, Int.reduceMul, Int.cast_ofNat_Int]
  all_goals simp only [wordOf, wordD, Option.any_some, Option.any_none, decide_eq_true_eq, Bool.false_eq_true, if_false] at q
  all_goals
    first
      | exact ⟨c, CLe.refl _, q⟩
      | (split
         · rename_i h1; rw [if_pos h1] at q; exact ⟨c, CLe.refl _, q⟩
         · rename_i h1; rw [if_neg h1] at q
           first
             | exact ⟨c, CLe.refl _, q⟩
             | (split
                · rename_i h2; rw [if_pos h2] at q; exact ⟨c, CLe.refl _, q⟩
                · rename_i h2; rw [if_neg h2] at q; exact ⟨c, CLe.refl _, q⟩))
/-- the pair and the cart's load behind an exchange -/
def swapG (g : Gn) (x : Int) (b : Bool) : Gn × Option Int := if b then ((g.1, some x), g.2) else ((some x, g.2), g.1)
def loadAt (w : Wo) (i : Nat) : Int := w.2.getD i 0
def granAt (w : Wo) (j : Nat) : Gn := w.1.getD j (none, none)
def exchW (w : Wo) (i j : Nat) (b : Bool) : Wo := (w.1.set j (swapG (granAt w j) (loadAt w i) b).1, w.2.set i ((swapG (granAt w j) (loadAt w i) b).2.getD 0))
theorem set_cut {α : Type} {l : List α} {j : Nat} {x : α} (h : j < l.length) : l.take j ++ [x] ++ l.drop (j + 1) = l.set j x := by
  rw [List.set_eq_take_append_cons_drop, if_pos h, List.append_assoc]
  rfl
theorem at_gran {w : Wo} {j : Nat} (h : j < w.1.length) : atI (w.1.map gD) (j : Int) = some (gD (granAt w j)) := by
  rw [atI_nat, List.getElem?_map, List.getElem?_eq_getElem h]
  simp [granAt, h]
theorem at_load {w : Wo} {i : Nat} (h : i < w.2.length) : atI (w.2.map D.int) (i : Int) = some (.int (loadAt w i)) := by
  rw [atI_nat, List.getElem?_map, List.getElem?_eq_getElem h]
  simp [loadAt, h]
def c_exchanged (k : Nat) : Ctr := fun ds c Q _ => ∃ (w : Wo) (i j : Nat) (b : Bool), ds = [wD w, .int i, .int j, wordD (some b)] ∧ i < w.2.length ∧ j < w.1.length ∧ w.1.length ≤ 100000 ∧ w.2.length ≤ 100000 ∧ ((swapG (granAt w j) (loadAt w i) b).2.isSome = true) ∧ Q (wD (exchW w i j b)) c
def w_exchanged (k : Nat) : WS := (sSeq (sAsg (wVar 0) (gTp 2 (gCons' (gNm 5) (gCons' (gNm 6) gNil')))) (sSeq (sAsg (wBin oIx (wVar 5) (wVar 2)) (gTp 2 (gCons' (gNm 7) (gCons' (gNm 8) gNil')))) (sSeq (sSet 4 (wBin oIx (wVar 6) (wVar 1))) (sSeq (sAsg (wIf (wTst (wBin oEq (wVar 3) (wC (.str "low")))) (wTup (wCons (wTup (wCons (wVar 4) (wCons (wVar 8) wNil))) (wCons (wVar 7) wNil))) (wTup (wCons (wTup (wCons (wVar 7) (wCons (wVar 4) wNil))) (wCons (wVar 8) wNil)))) (gTp 2 (gCons' (gNm 9) (gCons' (gNm 10) gNil')))) (sRet (wTup (wCons (wBin oAdd (wBin oAdd (wSl (wVar 5) wNoPart (wPart (wVar 2))) (wTup (wCons (wVar 9) wNil))) (wSl (wVar 5) (wPart (wBin oAdd (wVar 2) (wC (.int 1)))) wNoPart)) (wCons (wBin oAdd (wBin oAdd (wSl (wVar 6) wNoPart (wPart (wVar 1))) (wTup (wCons (wVar 10) wNil))) (wSl (wVar 6) (wPart (wBin oAdd (wVar 1) (wC (.int 1)))) wNoPart)) wNil))))))))
theorem p_exchanged (k : Nat) (ds : List D) (c : Cs) (Q : DK) (X0 : XK0) (hlen0 : ds.length = 4) (h : c_exchanged k ds c Q X0) : w_exchanged k (endOf Q) (excOf X0) (enOf 11 ds) c := by
  obtain ⟨w, i, j, b, rfl, hi, hj, hz1, hz2, hs, q⟩ := h
  have q : Q (.tup [.tup ((w.1.set j (swapG (granAt w j) (loadAt w i) b).1).map gD), .tup ((w.2.set i ((swapG (granAt w j) (loadAt w i) b).2.getD 0)).map .int)]) c := q
  simp only [w_exchanged, wD, gsD, sRaise, sTry, wIsX, wWhat, wBack, lo_lst, e_mulV, sizeL, sNil, sSeq, sPass, sBrk, sCont, sExpr, sRet, sRetN, sIf, sNever, sSet, sAug, gNm, gTp, gNil', gCons', gSb, sAsg, sPar, sFor, wVar_z, wVar_s, wC, wChn, wTru, sPar3, wRev, wCallK, permF, List.filterMap_cons, List.filterMap_nil, wBin, wUn, wTst, wNot, wAnd, wOr, wAndV, wOrV, wNotV, wIf, wNil, wCons, wTup, wLst, wLstL, wFz, wCall, wBi, wMt, wMt0, wSl, wSlL, wPart, wNoPart, wYes, wSeq, wRg1, wRg2, wEnum, wZip, wLc, wLcL, wLRg, wFld, sFldS, sFldA, gFld, wMeth, wMake, lvl2_s, onB, e_eqI, e_neI, e_eqB, e_neB, e_eqS, e_neS, e_eqN, e_tyLT, e_ty1, isTys, tyMem, tyN_non, tyN_bl, tyN_int, tyN_str, tyN_tup, tyN_lst, Bool.true_or, Bool.or_true, Bool.or_false, Bool.false_or, Bool.not_true, Bool.not_false, inn_non, inn_bl, inn_int, inn_str, inn_tup, inn_lst, inn_ptr, e_slT, e_slL, e_slN, isT_P, isT_L, isT_T, isT_N, e_sub, e_fdiv, e_mod, e_pow, e_lt, e_le, e_gt, e_ge, e_neg, e_add, e_addS, e_addT, e_addL, e_addPP, e_addPL, e_addLP, e_mul, e_mulL, e_mulT, e_augI, e_ixT, e_ixL, e_ixN, e_ixP, e_lenT, e_lenL, e_lenN, e_lenS, e_lenP, e_abs, e_intI, e_intB, e_max, e_min, e_tupL, e_tupT, e_listL, e_listT, e_listN, e_listLL, e_listLT, e_divmod, e_isNon, e_isntNon, e_isB, e_isntB, e_setIx, e_insert, e_append, e_isL, e_isLL, e_seqP, e_seqL, e_seqT, e_seqN, it_lst, it_fz, Option.bind_some, Option.isSome_some, ix10, ix20, ix21, ix30, ix32, dl1, dl2, dl3, List.eraseIdx_cons_zero, e_pop0, e_popAt, e_rev, e_clear, e_tupP, e_listP, e_neN, e_neIN, e_neNI, e_eqIN, e_eqNI, at0, at1, at2, at3, Cell.lst.injEq, Cell.obj.injEq, Option.some.injEq, exists_eq_left', decide_eq_true_eq, true_and, and_true, cup_same, cup_cup, List.flatten_nil, List.flatten_cons, enOf, endOf, excOf, List.map_cons, List.map_nil, List.length_cons, List.length_nil, List.replicate, Nat.reduceAdd, Nat.reduceSub, List.cons_append, List.nil_append, List.set_cons_zero, List.set_cons_succ, List.getElem?_cons_zero, List.getElem?_cons_succ, List.getElem_cons_zero, List.getElem_cons_succ, reduceCtorEq, if_true, if_false, Bool.false_eq_true, decide_true, decide_false, ne_eq, not_true, not_false_eq_true, Int.reduceEq, Nat.reduceMul, true_imp_iff, Int.reduceToNat, Int.reducePow, Nat.reducePow, Int.reduceLE, Int.reduceLT, Nat.reduceLT, and_self, Nat.reduceLeDiff, Int.reduceNeg, Int.reduceAdd, Int.reduceSub, Int.reduceMul, Int.cast_ofNat_Int, at_gran hj, at_load hi]
  cases b <;> simp only [gD, wordD, sRaise, sTry, wIsX, wWhat, wBack, lo_lst, e_mulV, sizeL, sNil, sSeq, sPass, sBrk, sCont, sExpr, sRet, sRetN, sIf, sNever, sSet, sAug, gNm, gTp, gNil', gCons', gSb, sAsg, sPar, sFor, wVar_z, wVar_s, wC, wChn, wTru, sPar3, wRev, wCallK, permF, List.filterMap_cons, List.filterMap_nil, wBin, wUn, wTst, wNot, wAnd, wOr, wAndV, wOrV, wNotV, wIf, wNil, wCons, wTup, wLst, wLstL, wFz, wCall, wBi, wMt, wMt0, wSl, wSlL, wPart, wNoPart, wYes, wSeq, wRg1, wRg2, wEnum, wZip, wLc, wLcL, wLRg, wFld, sFldS, sFldA, gFld, wMeth, wMake, lvl2_s, onB, e_eqI, e_neI, e_eqB, e_neB, e_eqS, e_neS, e_eqN, e_tyLT, e_ty1, isTys, tyMem, tyN_non, tyN_bl, tyN_int, tyN_str, tyN_tup, tyN_lst, Bool.true_or, Bool.or_true, Bool.or_false, Bool.false_or, Bool.not_true, Bool.not_false, inn_non, inn_bl, inn_int, inn_str, inn_tup, inn_lst, inn_ptr, e_slT, e_slL, e_slN, isT_P, isT_L, isT_T, isT_N, e_sub, e_fdiv, e_mod, e_pow, e_lt, e_le, e_gt, e_ge, e_neg, e_add, e_addS, e_addT, e_addL, e_addPP, e_addPL, e_addLP, e_mul, e_mulL, e_mulT, e_augI, e_ixT, e_ixL, e_ixN, e_ixP, e_lenT, e_lenL, e_lenN, e_lenS, e_lenP, e_abs, e_intI, e_intB, e_max, e_min, e_tupL, e_tupT, e_listL, e_listT, e_listN, e_listLL, e_listLT, e_divmod, e_isNon, e_isntNon, e_isB, e_isntB, e_setIx, e_insert, e_append, e_isL, e_isLL, e_seqP, e_seqL, e_seqT, e_seqN, it_lst, it_fz, Option.bind_some, Option.isSome_some, ix10, ix20, ix21, ix30, ix32, dl1, dl2, dl3, List.eraseIdx_cons_zero, e_pop0, e_popAt, e_rev, e_clear, e_tupP, e_listP, e_neN, e_neIN, e_neNI, e_eqIN, e_eqNI, at0, at1, at2, at3, Cell.lst.injEq, Cell.obj.injEq, Option.some.injEq, exists_eq_left', decide_eq_true_eq, true_and, and_true, cup_same, cup_cup, List.flatten_nil, List.flatten_cons, enOf, endOf, excOf, List.map_cons, List.map_nil, List.length_cons, List.length_nil, List.replicate, Nat.reduceAdd, Nat.reduceSub, List.cons_append, List.nil_append, List.set_cons_zero, List.set_cons_succ, List.getElem?_cons_zero, List.getElem?_cons_succ, List.getElem_cons_zero, List.getElem_cons_succ, reduceCtorEq, if_true, if_false, Bool.false_eq_true, decide_true, decide_false, ne_eq, not_true, not_false_eq_true, Int.reduceEq, Nat.reduceMul, true_imp_iff, Int.reduceToNat, Int.reducePow, Nat.reducePow, Int.reduceLE, Int.reduceLT, Nat.reduceLT, and_self, Nat.reduceLeDiff, Int.reduceNeg, Int.reduceAdd, Int.reduceSub, Int.reduceMul, Int.cast_ofNat_Int, low_eq, high_ne]
  all_goals
    rw [cutL_to (by omega), cutL_from (by omega), cutL_to (by omega), cutL_from (by omega)]
    obtain ⟨o, ho⟩ := Option.isSome_iff_exists.mp hs
    have e1 : ((j : Int) + 1).toNat = j + 1 := by omega
    have e2 : ((i : Int) + 1).toNat = i + 1 := by omega
    rw [e1, e2, Int.toNat_natCast, Int.toNat_natCast]
    refine ⟨by simp; omega, by simp; omega, by simp; omega, by simp; omega, c, CLe.refl _, ?_⟩
    rw [set_cut (by simpa using hj), set_cut (by simpa using hi)]
    rw [ho, Option.getD_some, List.map_set, List.map_set] at q
    simp only [swapG, Bool.false_eq_true, if_false, if_true] at q ho
    rw [ho]
    exact q
def c_look_cart (k : Nat) : Ctr := fun ds c Q _ => ∃ (w : Wo) (i : Nat), ds = [wD w, .int i] ∧ i < w.2.length ∧ Q .non c
def w_look_cart (k : Nat) : WS := (sIf (wNot (wTst (wChn oLe oLt (wC (.int 0)) (wVar 1) (wBi oLen (wCons (wBin oIx (wVar 0) (wC (.int 1))) wNil))))) sNever sNil)
theorem p_look_cart (k : Nat) (ds : List D) (c : Cs) (Q : DK) (X0 : XK0) (hlen0 : ds.length = 2) (h : c_look_cart k ds c Q X0) : w_look_cart k (endOf Q) (excOf X0) (enOf 2 ds) c := by
  obtain ⟨w, i, rfl, hi, q⟩ := h
  simp only [w_look_cart, wD, sRaise, sTry, wIsX, wWhat, wBack, lo_lst, e_mulV, sizeL, sNil, sSeq, sPass, sBrk, sCont, sExpr, sRet, sRetN, sIf, sNever, sSet, sAug, gNm, gTp, gNil', gCons', gSb, sAsg, sPar, sFor, wVar_z, wVar_s, wC, wChn, wTru, sPar3, wRev, wCallK, permF, List.filterMap_cons, List.filterMap_nil, wBin, wUn, wTst, wNot, wAnd, wOr, wAndV, wOrV, wNotV, wIf, wNil, wCons, wTup, wLst, wLstL, wFz, wCall, wBi, wMt, wMt0, wSl, wSlL, wPart, wNoPart, wYes, wSeq, wRg1, wRg2, wEnum, wZip, wLc, wLcL, wLRg, wFld, sFldS, sFldA, gFld, wMeth, wMake, lvl2_s, onB, e_eqI, e_neI, e_eqB, e_neB, e_eqS, e_neS, e_eqN, e_tyLT, e_ty1, isTys, tyMem, tyN_non, tyN_bl, tyN_int, tyN_str, tyN_tup, tyN_lst, Bool.true_or, Bool.or_true, Bool.or_false, Bool.false_or, Bool.not_true, Bool.not_false, inn_non, inn_bl, inn_int, inn_str, inn_tup, inn_lst, inn_ptr, e_slT, e_slL, e_slN, isT_P, isT_L, isT_T, isT_N, e_sub, e_fdiv, e_mod, e_pow, e_lt, e_le, e_gt, e_ge, e_neg, e_add, e_addS, e_addT, e_addL, e_addPP, e_addPL, e_addLP, e_mul, e_mulL, e_mulT, e_augI, e_ixT, e_ixL, e_ixN, e_ixP, e_lenT, e_lenL, e_lenN, e_lenS, e_lenP, e_abs, e_intI, e_intB, e_max, e_min, e_tupL, e_tupT, e_listL, e_listT, e_listN, e_listLL, e_listLT, e_divmod, e_isNon, e_isntNon, e_isB, e_isntB, e_setIx, e_insert, e_append, e_isL, e_isLL, e_seqP, e_seqL, e_seqT, e_seqN, it_lst, it_fz, Option.bind_some, Option.isSome_some, ix10, ix20, ix21, ix30, ix32, dl1, dl2, dl3, List.eraseIdx_cons_zero, e_pop0, e_popAt, e_rev, e_clear, e_tupP, e_listP, e_neN, e_neIN, e_neNI, e_eqIN, e_eqNI, at0, at1, at2, at3, Cell.lst.injEq, Cell.obj.injEq, Option.some.injEq, exists_eq_left', decide_eq_true_eq, true_and, and_true, cup_same, cup_cup, List.flatten_nil, List.flatten_cons, enOf, endOf, excOf, List.map_cons, List.map_nil, List.length_cons, List.length_nil, List.replicate, Nat.reduceAdd, Nat.reduceSub, List.cons_append, List.nil_append, List.set_cons_zero, List.set_cons_succ, List.getElem?_cons_zero, List.getElem?_cons_succ, List.getElem_cons_zero, List.getElem_cons_succ, reduceCtorEq, if_true, if_false, Bool.false_eq_true, decide_true, decide_false, ne_eq, not_true, not_false_eq_true, Int.reduceEq, Nat.reduceMul, true_imp_iff, Int.reduceToNat, Int.reducePow, Nat.reducePow, Int.reduceLE, Int.reduceLT, Nat.reduceLT, and_self, Nat.reduceLeDiff, Int.reduceNeg, Int.reduceAdd, Int.reduceSub, Int.reduceMul, Int.cast_ofNat_Int, List.length_map]
  rw [if_pos (by omega), if_neg (by simp; omega)]
  exact ⟨c, CLe.refl _, q⟩
def c_look_granary (k : Nat) : Ctr := fun ds c Q _ => ∃ (w : Wo) (j : Nat), ds = [wD w, .int j] ∧ j < w.1.length ∧ Q .non c
def w_look_granary (k : Nat) : WS := (sIf (wNot (wTst (wChn oLe oLt (wC (.int 0)) (wVar 1) (wBi oLen (wCons (wBin oIx (wVar 0) (wC (.int 0))) wNil))))) sNever sNil)
theorem p_look_granary (k : Nat) (ds : List D) (c : Cs) (Q : DK) (X0 : XK0) (hlen0 : ds.length = 2) (h : c_look_granary k ds c Q X0) : w_look_granary k (endOf Q) (excOf X0) (enOf 2 ds) c := by
  obtain ⟨w, i, rfl, hi, q⟩ := h
  simp only [w_look_granary, wD, gsD, sRaise, sTry, wIsX, wWhat, wBack, lo_lst, e_mulV, sizeL, sNil, sSeq, sPass, sBrk, sCont, sExpr, sRet, sRetN, sIf, sNever, sSet, sAug, gNm, gTp, gNil', gCons', gSb, sAsg, sPar, sFor, wVar_z, wVar_s, wC, wChn, wTru, sPar3, wRev, wCallK, permF, List.filterMap_cons, List.filterMap_nil, wBin, wUn, wTst, wNot, wAnd, wOr, wAndV, wOrV, wNotV, wIf, wNil, wCons, wTup, wLst, wLstL, wFz, wCall, wBi, wMt, wMt0, wSl, wSlL, wPart, wNoPart, wYes, wSeq, wRg1, wRg2, wEnum, wZip, wLc, wLcL, wLRg, wFld, sFldS, sFldA, gFld, wMeth, wMake, lvl2_s, onB, e_eqI, e_neI, e_eqB, e_neB, e_eqS, e_neS, e_eqN, e_tyLT, e_ty1, isTys, tyMem, tyN_non, tyN_bl, tyN_int, tyN_str, tyN_tup, tyN_lst, Bool.true_or, Bool.or_true, Bool.or_false, Bool.false_or, Bool.not_true, Bool.not_false, inn_non, inn_bl, inn_int, inn_str, inn_tup, inn_lst, inn_ptr, e_slT, e_slL, e_slN, isT_P, isT_L, isT_T, isT_N, e_sub, e_fdiv, e_mod, e_pow, e_lt, e_le, e_gt, e_ge, e_neg, e_add, e_addS, e_addT, e_addL, e_addPP, e_addPL, e_addLP, e_mul, e_mulL, e_mulT, e_augI, e_ixT, e_ixL, e_ixN, e_ixP, e_lenT, e_lenL, e_lenN, e_lenS, e_lenP, e_abs, e_intI, e_intB, e_max, e_min, e_tupL, e_tupT, e_listL, e_listT, e_listN, e_listLL, e_listLT, e_divmod, e_isNon, e_isntNon, e_isB, e_isntB, e_setIx, e_insert, e_append, e_isL, e_isLL, e_seqP, e_seqL, e_seqT, e_seqN, it_lst, it_fz, Option.bind_some, Option.isSome_some, ix10, ix20, ix21, ix30, ix32, dl1, dl2, dl3, List.eraseIdx_cons_zero, e_pop0, e_popAt, e_rev, e_clear, e_tupP, e_listP, e_neN, e_neIN, e_neNI, e_eqIN, e_eqNI, at0, at1, at2, at3, Cell.lst.injEq, Cell.obj.injEq, Option.some.injEq, exists_eq_left', decide_eq_true_eq, true_and, and_true, cup_same, cup_cup, List.flatten_nil, List.flatten_cons, enOf, endOf, excOf, List.map_cons, List.map_nil, List.length_cons, List.length_nil, List.replicate, Nat.reduceAdd, Nat.reduceSub, List.cons_append, List.nil_append, List.set_cons_zero, List.set_cons_succ, List.getElem?_cons_zero, List.getElem?_cons_succ, List.getElem_cons_zero, List.getElem_cons_succ, reduceCtorEq, if_true, if_false, Bool.false_eq_true, decide_true, decide_false, ne_eq, not_true, not_false_eq_true, Int.reduceEq, Nat.reduceMul, true_imp_iff, Int.reduceToNat, Int.reducePow, Nat.reducePow, Int.reduceLE, Int.reduceLT, Nat.reduceLT, and_self, Nat.reduceLeDiff, Int.reduceNeg, Int.reduceAdd, Int.reduceSub, Int.reduceMul, Int.cast_ofNat_Int, List.length_map]
  rw [if_pos (by omega), if_neg (by simp; omega)]
  exact ⟨c, CLe.refl _, q⟩
/-- cm tells a cart and a granary of w -/
def CLike (cm : D) (w : Wo) (i j : Nat) : Prop := (cm = .tup [.int i, .int j] ∨ cm = .lst [.int i, .int j]) ∧ i < w.2.length ∧ j < w.1.length
def c_look_coming (k : Nat) : Ctr := fun ds c Q _ => ∃ (w : Wo) (i j : Nat) (cm : D), ds = [wD w, cm] ∧ CLike cm w i j ∧ 1 ≤ k ∧ Q .non c
def w_look_coming (k : Nat) : WS := (sSeq (sAsg (wVar 1) (gTp 2 (gCons' (gNm 2) (gCons' (gNm 3) gNil')))) (sSeq (sExpr (wCall 2 c_look_cart k (wCons (wVar 0) (wCons (wVar 2) wNil)))) (sExpr (wCall 2 c_look_granary k (wCons (wVar 0) (wCons (wVar 3) wNil))))))
theorem p_look_coming (k : Nat) (ds : List D) (c : Cs) (Q : DK) (X0 : XK0) (hlen0 : ds.length = 2) (h : c_look_coming k ds c Q X0) : w_look_coming k (endOf Q) (excOf X0) (enOf 4 ds) c := by
  obtain ⟨w, i, j, cm, rfl, ⟨hcm, hi, hj⟩, hk, q⟩ := h
  obtain ⟨k, rfl⟩ : ∃ k', k = k' + 1 := ⟨k - 1, by omega⟩
  rcases hcm with rfl | rfl <;> simp only [w_look_coming, sRaise, sTry, wIsX, wWhat, wBack, lo_lst, e_mulV, sizeL, sNil, sSeq, sPass, sBrk, sCont, sExpr, sRet, sRetN, sIf, sNever, sSet, sAug, gNm, gTp, gNil', gCons', gSb, sAsg, sPar, sFor, wVar_z, wVar_s, wC, wChn, wTru, sPar3, wRev, wCallK, permF, List.filterMap_cons, List.filterMap_nil, wBin, wUn, wTst, wNot, wAnd, wOr, wAndV, wOrV, wNotV, wIf, wNil, wCons, wTup, wLst, wLstL, wFz, wCall, wBi, wMt, wMt0, wSl, wSlL, wPart, wNoPart, wYes, wSeq, wRg1, wRg2, wEnum, wZip, wLc, wLcL, wLRg, wFld, sFldS, sFldA, gFld, wMeth, wMake, lvl2_s, onB, e_eqI, e_neI, e_eqB, e_neB, e_eqS, e_neS, e_eqN, e_tyLT, e_ty1, isTys, tyMem, tyN_non, tyN_bl, tyN_int, tyN_str, tyN_tup, tyN_lst, Bool.true_or, Bool.or_true, Bool.or_false, Bool.false_or, Bool.not_true, Bool.not_false, inn_non, inn_bl, inn_int, inn_str, inn_tup, inn_lst, inn_ptr, e_slT, e_slL, e_slN, isT_P, isT_L, isT_T, isT_N, e_sub, e_fdiv, e_mod, e_pow, e_lt, e_le, e_gt, e_ge, e_neg, e_add, e_addS, e_addT, e_addL, e_addPP, e_addPL, e_addLP, e_mul, e_mulL, e_mulT, e_augI, e_ixT, e_ixL, e_ixN, e_ixP, e_lenT, e_lenL, e_lenN, e_lenS, e_lenP, e_abs, e_intI, e_intB, e_max, e_min, e_tupL, e_tupT, e_listL, e_listT, e_listN, e_listLL, e_listLT, e_divmod, e_isNon, e_isntNon, e_isB, e_isntB, e_setIx, e_insert, e_append, e_isL, e_isLL, e_seqP, e_seqL, e_seqT, e_seqN, it_lst, it_fz, Option.bind_some, Option.isSome_some, ix10, ix20, ix21, ix30, ix32, dl1, dl2, dl3, List.eraseIdx_cons_zero, e_pop0, e_popAt, e_rev, e_clear, e_tupP, e_listP, e_neN, e_neIN, e_neNI, e_eqIN, e_eqNI, at0, at1, at2, at3, Cell.lst.injEq, Cell.obj.injEq, Option.some.injEq, exists_eq_left', decide_eq_true_eq, true_and, and_true, cup_same, cup_cup, List.flatten_nil, List.flatten_cons, enOf, endOf, excOf, List.map_cons, List.map_nil, List.length_cons, List.length_nil, List.replicate, Nat.reduceAdd, Nat.reduceSub, List.cons_append, List.nil_append, List.set_cons_zero, List.set_cons_succ, List.getElem?_cons_zero, List.getElem?_cons_succ, List.getElem_cons_zero, List.getElem_cons_succ, reduceCtorEq, if_true, if_false, Bool.false_eq_true, decide_true, decide_false, ne_eq, not_true, not_false_eq_true, Int.reduceEq, Nat.reduceMul, true_imp_iff, Int.reduceToNat, Int.reducePow, Nat.reducePow, Int.reduceLE, Int.reduceLT, Nat.reduceLT, and_self, Nat.reduceLeDiff, Int.reduceNeg, Int.reduceAdd, Int.reduceSub, Int.reduceMul, Int.cast_ofNat_Int, lvl_s]
  all_goals exact ⟨w, i, rfl, hi, w, j, rfl, hj, c, CLe.refl _, q⟩
/-- a coming: the world behind, the place and its word, the toll -/
def cameW (w : Wo) (i j : Nat) : Wo × Option (Nat × Bool) × Int :=
  match wordOf (granAt w j) (loadAt w i) with
  | none => (w, none, 0)
  | some b => let w' := exchW w i j b; (w', some (j, b), if loadAt w' i - loadAt w i < 0 then -(loadAt w' i - loadAt w i) else loadAt w' i - loadAt w i)
def placeD : Option (Nat × Bool) → D
  | none => .non
  | some (j, b) => .tup [.int j, wordD (some b)]
def cameD (r : Wo × Option (Nat × Bool) × Int) : D := .tup [wD r.1, placeD r.2.1, .int r.2.2]
theorem word_some {g : Gn} {x : Int} {b : Bool} (h : wordOf g x = some b) : ∃ y, (swapG g x b).2 = some y ∧ if b then y < x else x < y := by
  obtain ⟨l, u⟩ := g
  unfold wordOf at h
  split at h
  · rename_i h1
    cases h
    cases l with
    | none => simp at h1
    | some y => exact ⟨y, rfl, by simpa using h1⟩
  · split at h
    · rename_i h1
      cases h
      cases u with
      | none => simp at h1
      | some y => exact ⟨y, rfl, by simpa using h1⟩
    · cases h
theorem exch_len (w : Wo) (i j : Nat) (b : Bool) : (exchW w i j b).1.length = w.1.length ∧ (exchW w i j b).2.length = w.2.length := by simp [exchW]
def c_came (k : Nat) : Ctr := fun ds c Q _ => ∃ (x : D) (w : Wo) (i j : Nat) (cm : D), ds = [x, cm] ∧ WLike x w ∧ CLike cm w i j ∧ 6 ≤ k ∧ w.1.length ≤ 100000 ∧ w.2.length ≤ 100000 ∧ Q (cameD (cameW w i j)) c
def w_came (k : Nat) : WS := (sSeq (sSet 2 (wCall 1 c_as_tuples k (wCons (wVar 0) wNil))) (sSeq (sExpr (wCall 2 c_look_coming k (wCons (wVar 2) (wCons (wVar 1) wNil)))) (sSeq (sAsg (wVar 1) (gTp 2 (gCons' (gNm 6) (gCons' (gNm 7) gNil')))) (sSeq (sSet 3 (wBin oIx (wBin oIx (wVar 2) (wC (.int 1))) (wVar 6))) (sSeq (sSet 4 (wCall 2 c_exchanged_word k (wCons (wBin oIx (wBin oIx (wVar 2) (wC (.int 0))) (wVar 7)) (wCons (wVar 3) wNil)))) (sSeq (sIf (wTst (wBin oIs (wVar 4) (wC .non))) (sRet (wTup (wCons (wVar 2) (wCons (wC .non) (wCons (wC (.int 0)) wNil))))) sNil) (sSeq (sSet 5 (wCall 4 c_exchanged k (wCons (wVar 2) (wCons (wVar 6) (wCons (wVar 7) (wCons (wVar 4) wNil)))))) (sRet (wTup (wCons (wVar 5) (wCons (wTup (wCons (wVar 7) (wCons (wVar 4) wNil))) (wCons (wBi oAbs (wCons (wBin oSub (wBin oIx (wBin oIx (wVar 5) (wC (.int 1))) (wVar 6)) (wVar 3)) wNil)) wNil))))))))))))
theorem p_came (k : Nat) (ds : List D) (c : Cs) (Q : DK) (X0 : XK0) (hlen0 : ds.length = 2) (h : c_came k ds c Q X0) : w_came k (endOf Q) (excOf X0) (enOf 8 ds) c := by
  obtain ⟨x, w, i, j, cm, rfl, hx, hcm, hk, hz1, hz2, q⟩ := h
  have hi := hcm.2.1
  have hj := hcm.2.2
  simp only [w_came, sRaise, sTry, wIsX, wWhat, wBack, lo_lst, e_mulV, sizeL, sNil, sSeq, sPass, sBrk, sCont, sExpr, sRet, sRetN, sIf, sNever, sSet, sAug, gNm, gTp, gNil', gCons', gSb, sAsg, sPar, sFor, wVar_z, wVar_s, wC, wChn, wTru, sPar3, wRev, wCallK, permF, List.filterMap_cons, List.filterMap_nil, wBin, wUn, wTst, wNot, wAnd, wOr, wAndV, wOrV, wNotV, wIf, wNil, wCons, wTup, wLst, wLstL, wFz, wCall, wBi, wMt, wMt0, wSl, wSlL, wPart, wNoPart, wYes, wSeq, wRg1, wRg2, wEnum, wZip, wLc, wLcL, wLRg, wFld, sFldS, sFldA, gFld, wMeth, wMake, lvl2_s, onB, e_eqI, e_neI, e_eqB, e_neB, e_eqS, e_neS, e_eqN, e_tyLT, e_ty1, isTys, tyMem, tyN_non, tyN_bl, tyN_int, tyN_str, tyN_tup, tyN_lst, Bool.true_or, Bool.or_true, Bool.or_false, Bool.false_or, Bool.not_true, Bool.not_false, inn_non, inn_bl, inn_int, inn_str, inn_tup, inn_lst, inn_ptr, e_slT, e_slL, e_slN, isT_P, isT_L, isT_T, isT_N, e_sub, e_fdiv, e_mod, e_pow, e_lt, e_le, e_gt, e_ge, e_neg, e_add, e_addS, e_addT, e_addL, e_addPP, e_addPL, e_addLP, e_mul, e_mulL, e_mulT, e_augI, e_ixT, e_ixL, e_ixN, e_ixP, e_lenT, e_lenL, e_lenN, e_lenS, e_lenP, e_abs, e_intI, e_intB, e_max, e_min, e_tupL, e_tupT, e_listL, e_listT, e_listN, e_listLL, e_listLT, e_divmod, e_isNon, e_isntNon, e_isB, e_isntB, e_setIx, e_insert, e_append, e_isL, e_isLL, e_seqP, e_seqL, e_seqT, e_seqN, it_lst, it_fz, Option.bind_some, Option.isSome_some, ix10, ix20, ix21, ix30, ix32, dl1, dl2, dl3, List.eraseIdx_cons_zero, e_pop0, e_popAt, e_rev, e_clear, e_tupP, e_listP, e_neN, e_neIN, e_neNI, e_eqIN, e_eqNI, at0, at1, at2, at3, Cell.lst.injEq, Cell.obj.injEq, Option.some.injEq, exists_eq_left', decide_eq_true_eq, true_and, and_true, cup_same, cup_cup, List.flatten_nil, List.flatten_cons, enOf, endOf, excOf, List.map_cons, List.map_nil, List.length_cons, List.length_nil, List.replicate, Nat.reduceAdd, Nat.reduceSub, List.cons_append, List.nil_append, List.set_cons_zero, List.set_cons_succ, List.getElem?_cons_zero, List.getElem?_cons_succ, List.getElem_cons_zero, List.getElem_cons_succ, reduceCtorEq, if_true, if_false, Bool.false_eq_true, decide_true, decide_false, ne_eq, not_true, not_false_eq_true, Int.reduceEq, Nat.reduceMul, true_imp_iff, Int.reduceToNat, Int.reducePow, Nat.reducePow, Int.reduceLE, Int.reduceLT, Nat.reduceLT, and_self, Nat.reduceLeDiff, Int.reduceNeg, Int.reduceAdd, Int.reduceSub, Int.reduceMul, Int.cast_ofNat_Int]
  refine as_tuples_use (by omega) hx ?_
  obtain ⟨k, rfl⟩ : ∃ k', k = k' + 2 := ⟨k - 2, by omega⟩
  simp only [lvl_s]
  refine ⟨w, i, j, cm, rfl, hcm, by omega, ?_⟩
  rcases hcm.1 with rfl | rfl
  all_goals
    simp only [wD, gsD, sRaise, sTry, wIsX, wWhat, wBack, lo_lst, e_mulV, sizeL, sNil, sSeq, sPass, sBrk, sCont, sExpr, sRet, sRetN, sIf, sNever, sSet, sAug, gNm, gTp, gNil', gCons', gSb, sAsg, sPar, sFor, wVar_z, wVar_s, wC, wChn, wTru, sPar3, wRev, wCallK, permF, List.filterMap_cons, List.filterMap_nil, wBin, wUn, wTst, wNot, wAnd, wOr, wAndV, wOrV, wNotV, wIf, wNil, wCons, wTup, wLst, wLstL, wFz, wCall, wBi, wMt, wMt0, wSl, wSlL, wPart, wNoPart, wYes, wSeq, wRg1, wRg2, wEnum, wZip, wLc, wLcL, wLRg, wFld, sFldS, sFldA, gFld, wMeth, wMake, lvl2_s, onB, e_eqI, e_neI, e_eqB, e_neB, e_eqS, e_neS, e_eqN, e_tyLT, e_ty1, isTys, tyMem, tyN_non, tyN_bl, tyN_int, tyN_str, tyN_tup, tyN_lst, Bool.true_or, Bool.or_true, Bool.or_false, Bool.false_or, Bool.not_true, Bool.not_false, inn_non, inn_bl, inn_int, inn_str, inn_tup, inn_lst, inn_ptr, e_slT, e_slL, e_slN, isT_P, isT_L, isT_T, isT_N, e_sub, e_fdiv, e_mod, e_pow, e_lt, e_le, e_gt, e_ge, e_neg, e_add, e_addS, e_addT, e_addL, e_addPP, e_addPL, e_addLP, e_mul, e_mulL, e_mulT, e_augI, e_ixT, e_ixL, e_ixN, e_ixP, e_lenT, e_lenL, e_lenN, e_lenS, e_lenP, e_abs, e_intI, e_intB, e_max, e_min, e_tupL, e_tupT, e_listL, e_listT, e_listN, e_listLL, e_listLT, e_divmod, e_isNon, e_isntNon, e_isB, e_isntB, e_setIx, e_insert, e_append, e_isL, e_isLL, e_seqP, e_seqL, e_seqT, e_seqN, it_lst, it_fz, Option.bind_some, Option.isSome_some, ix10, ix20, ix21, ix30, ix32, dl1, dl2, dl3, List.eraseIdx_cons_zero, e_pop0, e_popAt, e_rev, e_clear, e_tupP, e_listP, e_neN, e_neIN, e_neNI, e_eqIN, e_eqNI, at0, at1, at2, at3, Cell.lst.injEq, Cell.obj.injEq, Option.some.injEq, exists_eq_left', decide_eq_true_eq, true_and, and_true, cup_same, cup_cup, List.flatten_nil, List.flatten_cons, enOf, endOf, excOf, List.map_cons, List.map_nil, List.length_cons, List.length_nil, List.replicate, Nat.reduceAdd, Nat.reduceSub, List.cons_append, List.nil_append, List.set_cons_zero, List.set_cons_succ, List.getElem?_cons_zero, List.getElem?_cons_succ, List.getElem_cons_zero, List.getElem_cons_succ, reduceCtorEq, if_true, if_false, Bool.false_eq_true, decide_true, decide_false, ne_eq, not_true, not_false_eq_true, Int.reduceEq, Nat.reduceMul, true_imp_iff, Int.reduceToNat, Int.reducePow, Nat.reducePow, Int.reduceLE, Int.reduceLT, Nat.reduceLT, and_self, Nat.reduceLeDiff, Int.reduceNeg, Int.reduceAdd, Int.reduceSub, Int.reduceMul, Int.cast_ofNat_Int, at_gran hj, at_load hi]
    refine ⟨granAt w j, loadAt w i, .inl rfl, ?_⟩
    unfold cameW at q
    cases hw : wordOf (granAt w j) (loadAt w i) with
    | none =>
      simp only [hw] at q
      simp only [wordD, sRaise, sTry, wIsX, wWhat, wBack, lo_lst, e_mulV, sizeL, sNil, sSeq, sPass, sBrk, sCont, sExpr, sRet, sRetN, sIf, sNever, sSet, sAug, gNm, gTp, gNil', gCons', gSb, sAsg, sPar, sFor, wVar_z, wVar_s, wC, wChn, wTru, sPar3, wRev, wCallK, permF, List.filterMap_cons, List.filterMap_nil, wBin, wUn, wTst, wNot, wAnd, wOr, wAndV, wOrV, wNotV, wIf, wNil, wCons, wTup, wLst, wLstL, wFz, wCall, wBi, wMt, wMt0, wSl, wSlL, wPart, wNoPart, wYes, wSeq, wRg1, wRg2, wEnum, wZip, wLc, wLcL, wLRg, wFld, sFldS, sFldA, gFld, wMeth, wMake, lvl2_s, onB, e_eqI, e_neI, e_eqB, e_neB, e_eqS, e_neS, e_eqN, e_tyLT, e_ty1, isTys, tyMem, tyN_non, tyN_bl, tyN_int, tyN_str, tyN_tup, tyN_lst, Bool.true_or, Bool.or_true, Bool.or_false, Bool.false_or, Bool.not_true, Bool.not_false, inn_non, inn_bl, inn_int, inn_str, inn_tup, inn_lst, inn_ptr, e_slT, e_slL, e_slN, isT_P, isT_L, isT_T, isT_N, e_sub, e_fdiv, e_mod, e_pow, e_lt, e_le, e_gt, e_ge, e_neg, e_add, e_addS, e_addT, e_addL, e_addPP, e_addPL, e_addLP, e_mul, e_mulL, e_mulT, e_augI, e_ixT, e_ixL, e_ixN, e_ixP, e_lenT, e_lenL, e_lenN, e_lenS, e_lenP, e_abs, e_intI, e_intB, e_max, e_min, e_tupL, e_tupT, e_listL, e_listT, e_listN, e_listLL, e_listLT, e_divmod, e_isNon, e_isntNon, e_isB, e_isntB, e_setIx, e_insert, e_append, e_isL, e_isLL, e_seqP, e_seqL, e_seqT, e_seqN, it_lst, it_fz, Option.bind_some, Option.isSome_some, ix10, ix20, ix21, ix30, ix32, dl1, dl2, dl3, List.eraseIdx_cons_zero, e_pop0, e_popAt, e_rev, e_clear, e_tupP, e_listP, e_neN, e_neIN, e_neNI, e_eqIN, e_eqNI, at0, at1, at2, at3, Cell.lst.injEq, Cell.obj.injEq, Option.some.injEq, exists_eq_left', decide_eq_true_eq, true_and, and_true, cup_same, cup_cup, List.flatten_nil, List.flatten_cons, enOf, endOf, excOf, List.map_cons, List.map_nil, List.length_cons, List.length_nil, List.replicate, Nat.reduceAdd, Nat.reduceSub, List.cons_append, List.nil_append, List.set_cons_zero, List.set_cons_succ, List.getElem?_cons_zero, List.getElem?_cons_succ, List.getElem_cons_zero, List.getElem_cons_succ, reduceCtorEq, if_true, if_false, Bool.false_eq_true, decide_true, decide_false, ne_eq, not_true, not_false_eq_true, Int.reduceEq, Nat.reduceMul, true_imp_iff, Int.reduceToNat, Int.reducePow, Nat.reducePow, Int.reduceLE, Int.reduceLT, Nat.reduceLT, and_self, Nat.reduceLeDiff, Int.reduceNeg, Int.reduceAdd, Int.reduceSub, Int.reduceMul, Int.cast_ofNat_Int]
      exact ⟨c, CLe.refl _, q⟩
    | some b =>
      simp only [hw] at q
      obtain ⟨y, hy, _⟩ := word_some hw
      have hl : i < (exchW w i j b).2.length := by rw [(exch_len w i j b).2]; exact hi
      cases b <;> simp only [wordD, sRaise, sTry, wIsX, wWhat, wBack, lo_lst, e_mulV, sizeL, sNil, sSeq, sPass, sBrk, sCont, sExpr, sRet, sRetN, sIf, sNever, sSet, sAug, gNm, gTp, gNil', gCons', gSb, sAsg, sPar, sFor, wVar_z, wVar_s, wC, wChn, wTru, sPar3, wRev, wCallK, permF, List.filterMap_cons, List.filterMap_nil, wBin, wUn, wTst, wNot, wAnd, wOr, wAndV, wOrV, wNotV, wIf, wNil, wCons, wTup, wLst, wLstL, wFz, wCall, wBi, wMt, wMt0, wSl, wSlL, wPart, wNoPart, wYes, wSeq, wRg1, wRg2, wEnum, wZip, wLc, wLcL, wLRg, wFld, sFldS, sFldA, gFld, wMeth, wMake, lvl2_s, onB, e_eqI, e_neI, e_eqB, e_neB, e_eqS, e_neS, e_eqN, e_tyLT, e_ty1, isTys, tyMem, tyN_non, tyN_bl, tyN_int, tyN_str, tyN_tup, tyN_lst, Bool.true_or, Bool.or_true, Bool.or_false, Bool.false_or, Bool.not_true, Bool.not_false, inn_non, inn_bl, inn_int, inn_str, inn_tup, inn_lst, inn_ptr, e_slT, e_slL, e_slN, isT_P, isT_L, isT_T, isT_N, e_sub, e_fdiv, e_mod, e_pow, e_lt, e_le, e_gt, e_ge, e_neg, e_add, e_addS, e_addT, e_addL, e_addPP, e_addPL, e_addLP, e_mul, e_mulL, e_mulT, e_augI, e_ixT, e_ixL, e_ixN, e_ixP, e_lenT, e_lenL, e_lenN, e_lenS, e_lenP, e_abs, e_intI, e_intB, e_max, e_min, e_tupL, e_tupT, e_listL, e_listT, e_listN, e_listLL, e_listLT, e_divmod, e_isNon, e_isntNon, e_isB, e_isntB, e_setIx, e_insert, e_append, e_isL, e_isLL, e_seqP, e_seqL, e_seqT, e_seqN, it_lst, it_fz, Option.bind_some, Option.isSome_some, ix10, ix20, ix21, ix30, ix32, dl1, dl2, dl3, List.eraseIdx_cons_zero, e_pop0, e_popAt, e_rev, e_clear, e_tupP, e_listP, e_neN, e_neIN, e_neNI, e_eqIN, e_eqNI, at0, at1, at2, at3, Cell.lst.injEq, Cell.obj.injEq, Option.some.injEq, exists_eq_left', decide_eq_true_eq, true_and, and_true, cup_same, cup_cup, List.flatten_nil, List.flatten_cons, enOf, endOf, excOf, List.map_cons, List.map_nil, List.length_cons, List.length_nil, List.replicate, Nat.reduceAdd, Nat.reduceSub, List.cons_append, List.nil_append, List.set_cons_zero, List.set_cons_succ, List.getElem?_cons_zero, List.getElem?_cons_succ, List.getElem_cons_zero, List.getElem_cons_succ, reduceCtorEq, if_true, if_false, Bool.false_eq_true, decide_true, decide_false, ne_eq, not_true, not_false_eq_true, Int.reduceEq, Nat.reduceMul, true_imp_iff, Int.reduceToNat, Int.reducePow, Nat.reducePow, Int.reduceLE, Int.reduceLT, Nat.reduceLT, and_self, Nat.reduceLeDiff, Int.reduceNeg, Int.reduceAdd, Int.reduceSub, Int.reduceMul, Int.cast_ofNat_Int]
      all_goals
        refine ⟨w, i, j, _, rfl, hi, hj, hz1, hz2, by rw [hy]; rfl, ?_⟩
        simp only [wD, sRaise, sTry, wIsX, wWhat, wBack, lo_lst, e_mulV, sizeL, sNil, sSeq, sPass, sBrk, sCont, sExpr, sRet, sRetN, sIf, sNever, sSet, sAug, gNm, gTp, gNil', gCons', gSb, sAsg, sPar, sFor, wVar_z, wVar_s, wC, wChn, wTru, sPar3, wRev, wCallK, permF, List.filterMap_cons, List.filterMap_nil, wBin, wUn, wTst, wNot, wAnd, wOr, wAndV, wOrV, wNotV, wIf, wNil, wCons, wTup, wLst, wLstL, wFz, wCall, wBi, wMt, wMt0, wSl, wSlL, wPart, wNoPart, wYes, wSeq, wRg1, wRg2, wEnum, wZip, wLc, wLcL, wLRg, wFld, sFldS, sFldA, gFld, wMeth, wMake, lvl2_s, onB, e_eqI, e_neI, e_eqB, e_neB, e_eqS, e_neS, e_eqN, e_tyLT, e_ty1, isTys, tyMem, tyN_non, tyN_bl, tyN_int, tyN_str, tyN_tup, tyN_lst, Bool.true_or, Bool.or_true, Bool.or_false, Bool.false_or, Bool.not_true, Bool.not_false, inn_non, inn_bl, inn_int, inn_str, inn_tup, inn_lst, inn_ptr, e_slT, e_slL, e_slN, isT_P, isT_L, isT_T, isT_N, e_sub, e_fdiv, e_mod, e_pow, e_lt, e_le, e_gt, e_ge, e_neg, e_add, e_addS, e_addT, e_addL, e_addPP, e_addPL, e_addLP, e_mul, e_mulL, e_mulT, e_augI, e_ixT, e_ixL, e_ixN, e_ixP, e_lenT, e_lenL, e_lenN, e_lenS, e_lenP, e_abs, e_intI, e_intB, e_max, e_min, e_tupL, e_tupT, e_listL, e_listT, e_listN, e_listLL, e_listLT, e_divmod, e_isNon, e_isntNon, e_isB, e_isntB, e_setIx, e_insert, e_append, e_isL, e_isLL, e_seqP, e_seqL, e_seqT, e_seqN, it_lst, it_fz, Option.bind_some, Option.isSome_some, ix10, ix20, ix21, ix30, ix32, dl1, dl2, dl3, List.eraseIdx_cons_zero, e_pop0, e_popAt, e_rev, e_clear, e_tupP, e_listP, e_neN, e_neIN, e_neNI, e_eqIN, e_eqNI, at0, at1, at2, at3, Cell.lst.injEq, Cell.obj.injEq, Option.some.injEq, exists_eq_left', decide_eq_true_eq, true_and, and_true, cup_same, cup_cup, List.flatten_nil, List.flatten_cons, enOf, endOf, excOf, List.map_cons, List.map_nil, List.length_cons, List.length_nil, List.replicate, Nat.reduceAdd, Nat.reduceSub, List.cons_append, List.nil_append, List.set_cons_zero, List.set_cons_succ, List.getElem?_cons_zero, List.getElem?_cons_succ, List.getElem_cons_zero, List.getElem_cons_succ, reduceCtorEq, if_true, if_false, Bool.false_eq_true, decide_true, decide_false, ne_eq, not_true, not_false_eq_true, Int.reduceEq, Nat.reduceMul, true_imp_iff, Int.reduceToNat, Int.reducePow, Nat.reducePow, Int.reduceLE, Int.reduceLT, Nat.reduceLT, and_self, Nat.reduceLeDiff, Int.reduceNeg, Int.reduceAdd, Int.reduceSub, Int.reduceMul, Int.cast_ofNat_Int, at_load hl]
        exact ⟨c, CLe.refl _, q⟩
def cmD (p : Nat × Nat) : D := .tup [.int p.1, .int p.2]
theorem fines_cm (l : List (Nat × Nat)) (h : ∀ p ∈ l, p.1 ≤ 1000 ∧ p.2 ≤ 1000) : fines (l.map cmD) = true ∧ deps (l.map cmD) ≤ 1 := by
  constructor
  · refine fines_all.mpr fun d hd => ?_
    obtain ⟨p, hp, rfl⟩ := List.mem_map.mp hd
    have := h p hp
    have f : ∀ n : Nat, n ≤ 1000 → fine (.int (n : Nat)) = true := fun n hn => fine_int ⟨by omega, by omega⟩
    simp [cmD, fine, fines]
    exact ⟨by simpa [fine] using f p.1 this.1, by simpa [fine] using f p.2 this.2⟩
  · refine deps_le.mpr fun d hd => ?_
    obtain ⟨p, hp, rfl⟩ := List.mem_map.mp hd
    simp [cmD, dep, deps]
theorem deq_nil (l : List D) : deq (.lst l) (.lst []) = l.isEmpty := by cases l <;> rfl
end VL
namespace VL
open PySem PySem.Spec PyProof.Rows L2
def c_l_of (k : Nat) : Ctr := fun ds c Q _ => ∃ (p : Addr) (th : D) (l : List D) (N : Int), ds = [.ptr p, th] ∧ (th = .lst l ∨ th = .tup l) ∧ l ≠ [] ∧ l.length ≤ 1000000 ∧ Bx p N c ∧ N + 32 ≤ 70368744177664 ∧ 6 ≤ k ∧ ∀ x c', x ∈ l → Up p (N + 32) c c' → Q x c'
def w_l_of (k : Nat) : WS := (sRet (wBin oIx (wVar 1) (wCall 2 c_l_take k (wCons (wVar 0) (wCons (wBi oLen (wCons (wVar 1) wNil)) wNil)))))
theorem p_l_of (k : Nat) (ds : List D) (c : Cs) (Q : DK) (X0 : XK0) (hlen0 : ds.length = 2) (h : c_l_of k ds c Q X0) : w_l_of k (endOf Q) (excOf X0) (enOf 2 ds) c := by
  obtain ⟨p, th, l, N, rfl, hth, hne, hl, hb, hN, hk, q⟩ := h
  have hpos := List.length_pos_iff.mpr hne
  rcases hth with rfl | rfl <;> simp only [w_l_of, sRaise, sTry, wIsX, wWhat, wBack, lo_lst, e_mulV, sizeL, sNil, sSeq, sPass, sBrk, sCont, sExpr, sRet, sRetN, sIf, sNever, sSet, sAug, gNm, gTp, gNil', gCons', gSb, sAsg, sPar, sFor, wVar_z, wVar_s, wC, wChn, wTru, sPar3, wRev, wCallK, permF, List.filterMap_cons, List.filterMap_nil, wBin, wUn, wTst, wNot, wAnd, wOr, wAndV, wOrV, wNotV, wIf, wNil, wCons, wTup, wLst, wLstL, wFz, wCall, wBi, wMt, wMt0, wSl, wSlL, wPart, wNoPart, wYes, wSeq, wRg1, wRg2, wEnum, wZip, wLc, wLcL, wLRg, wFld, sFldS, sFldA, gFld, wMeth, wMake, lvl2_s, onB, e_eqI, e_neI, e_eqB, e_neB, e_eqS, e_neS, e_eqN, e_tyLT, e_ty1, isTys, tyMem, tyN_non, tyN_bl, tyN_int, tyN_str, tyN_tup, tyN_lst, Bool.true_or, Bool.or_true, Bool.or_false, Bool.false_or, Bool.not_true, Bool.not_false, inn_non, inn_bl, inn_int, inn_str, inn_tup, inn_lst, inn_ptr, e_slT, e_slL, e_slN, isT_P, isT_L, isT_T, isT_N, e_sub, e_fdiv, e_mod, e_pow, e_lt, e_le, e_gt, e_ge, e_neg, e_add, e_addS, e_addT, e_addL, e_addPP, e_addPL, e_addLP, e_mul, e_mulL, e_mulT, e_augI, e_ixT, e_ixL, e_ixN, e_ixP, e_lenT, e_lenL, e_lenN, e_lenS, e_lenP, e_abs, e_intI, e_intB, e_max, e_min, e_tupL, e_tupT, e_listL, e_listT, e_listN, e_listLL, e_listLT, e_divmod, e_isNon, e_isntNon, e_isB, e_isntB, e_setIx, e_insert, e_append, e_isL, e_isLL, e_seqP, e_seqL, e_seqT, e_seqN, it_lst, it_fz, Option.bind_some, Option.isSome_some, ix10, ix20, ix21, ix30, ix32, dl1, dl2, dl3, List.eraseIdx_cons_zero, e_pop0, e_popAt, e_rev, e_clear, e_tupP, e_listP, e_neN, e_neIN, e_neNI, e_eqIN, e_eqNI, at0, at1, at2, at3, Cell.lst.injEq, Cell.obj.injEq, Option.some.injEq, exists_eq_left', decide_eq_true_eq, true_and, and_true, cup_same, cup_cup, List.flatten_nil, List.flatten_cons, enOf, endOf, excOf, List.map_cons, List.map_nil, List.length_cons, List.length_nil, List.replicate, Nat.reduceAdd, Nat.reduceSub, List.cons_append, List.nil_append, List.set_cons_zero, List.set_cons_succ, List.getElem?_cons_zero, List.getElem?_cons_succ, List.getElem_cons_zero, List.getElem_cons_succ, reduceCtorEq, if_true, if_false, Bool.false_eq_true, decide_true, decide_false, ne_eq, not_true, not_false_eq_true, Int.reduceEq, Nat.reduceMul, true_imp_iff, Int.reduceToNat, Int.reducePow, Nat.reducePow, Int.reduceLE, Int.reduceLT, Nat.reduceLT, and_self, Nat.reduceLeDiff, Int.reduceNeg, Int.reduceAdd, Int.reduceSub, Int.reduceMul, Int.cast_ofNat_Int]
  all_goals
    refine take_use hk (by omega) (by omega) hb (by omega) fun r c2 r0 r1 u => ?_
    simp only [sRaise, sTry, wIsX, wWhat, wBack, lo_lst, e_mulV, sizeL, sNil, sSeq, sPass, sBrk, sCont, sExpr, sRet, sRetN, sIf, sNever, sSet, sAug, gNm, gTp, gNil', gCons', gSb, sAsg, sPar, sFor, wVar_z, wVar_s, wC, wChn, wTru, sPar3, wRev, wCallK, permF, List.filterMap_cons, List.filterMap_nil, wBin, wUn, wTst, wNot, wAnd, wOr, wAndV, wOrV, wNotV, wIf, wNil, wCons, wTup, wLst, wLstL, wFz, wCall, wBi, wMt, wMt0, wSl, wSlL, wPart, wNoPart, wYes, wSeq, wRg1, wRg2, wEnum, wZip, wLc, wLcL, wLRg, wFld, sFldS, sFldA, gFld, wMeth, wMake, lvl2_s, onB, e_eqI, e_neI, e_eqB, e_neB, e_eqS, e_neS, e_eqN, e_tyLT, e_ty1, isTys, tyMem, tyN_non, tyN_bl, tyN_int, tyN_str, tyN_tup, tyN_lst, Bool.true_or, Bool.or_true, Bool.or_false, Bool.false_or, Bool.not_true, Bool.not_false, inn_non, inn_bl, inn_int, inn_str, inn_tup, inn_lst, inn_ptr, e_slT, e_slL, e_slN, isT_P, isT_L, isT_T, isT_N, e_sub, e_fdiv, e_mod, e_pow, e_lt, e_le, e_gt, e_ge, e_neg, e_add, e_addS, e_addT, e_addL, e_addPP, e_addPL, e_addLP, e_mul, e_mulL, e_mulT, e_augI, e_ixT, e_ixL, e_ixN, e_ixP, e_lenT, e_lenL, e_lenN, e_lenS, e_lenP, e_abs, e_intI, e_intB, e_max, e_min, e_tupL, e_tupT, e_listL, e_listT, e_listN, e_listLL, e_listLT, e_divmod, e_isNon, e_isntNon, e_isB, e_isntB, e_setIx, e_insert, e_append, e_isL, e_isLL, e_seqP, e_seqL, e_seqT, e_seqN, it_lst, it_fz, Option.bind_some, Option.isSome_some, ix10, ix20, ix21, ix30, ix32, dl1, dl2, dl3, List.eraseIdx_cons_zero, e_pop0, e_popAt, e_rev, e_clear, e_tupP, e_listP, e_neN, e_neIN, e_neNI, e_eqIN, e_eqNI, at0, at1, at2, at3, Cell.lst.injEq, Cell.obj.injEq, Option.some.injEq, exists_eq_left', decide_eq_true_eq, true_and, and_true, cup_same, cup_cup, List.flatten_nil, List.flatten_cons, enOf, endOf, excOf, List.map_cons, List.map_nil, List.length_cons, List.length_nil, List.replicate, Nat.reduceAdd, Nat.reduceSub, List.cons_append, List.nil_append, List.set_cons_zero, List.set_cons_succ, List.getElem?_cons_zero, List.getElem?_cons_succ, List.getElem_cons_zero, List.getElem_cons_succ, reduceCtorEq, if_true, if_false, Bool.false_eq_true, decide_true, decide_false, ne_eq, not_true, not_false_eq_true, Int.reduceEq, Nat.reduceMul, true_imp_iff, Int.reduceToNat, Int.reducePow, Nat.reducePow, Int.reduceLE, Int.reduceLT, Nat.reduceLT, and_self, Nat.reduceLeDiff, Int.reduceNeg, Int.reduceAdd, Int.reduceSub, Int.reduceMul, Int.cast_ofNat_Int]
    refine ⟨l[r.toNat]'(by omega), ?_, c2, CLe.refl _, q _ _ (List.getElem_mem _) u⟩
    rw [atI_of r0, List.getElem?_eq_getElem (by omega)]
def smallI (i : Int) : Prop := -1000000000 ≤ i ∧ i ≤ 1000000000
def c_l_load (k : Nat) : Ctr := fun ds c Q _ => ∃ (p : Addr) (wide N : Int), ds = [.ptr p, .int wide] ∧ 0 ≤ wide ∧ wide < 3 ∧ Bx p N c ∧ N + 32 ≤ 70368744177664 ∧ 6 ≤ k ∧ ∀ r c', smallI r → Up p (N + 32) c c' → Q (.int r) c'
def w_l_load (k : Nat) : WS := (sSeq (sSet 2 (wBin oIx (wLst (wCons (wC (.int 5)) (wCons (wC (.int 41)) (wCons (wBin oAdd (wBin oMul (wC (.int 2)) (wBin oPow (wC (.int 10)) (wC (.int 9)))) (wC (.int 1))) wNil)))) (wVar 1))) (sRet (wBin oSub (wCall 2 c_l_take k (wCons (wVar 0) (wCons (wVar 2) wNil))) (wBin oFdiv (wVar 2) (wC (.int 2))))))
theorem p_l_load (k : Nat) (ds : List D) (c : Cs) (Q : DK) (X0 : XK0) (hlen0 : ds.length = 2) (h : c_l_load k ds c Q X0) : w_l_load k (endOf Q) (excOf X0) (enOf 3 ds) c := by
  obtain ⟨p, wide, N, rfl, h0, h3, hb, hN, hk, q⟩ := h
  have hw : wide = 0 ∨ wide = 1 ∨ wide = 2 := by omega
  have m1 : MulOk 2 1000000000 := mul64 (by omega) (by omega)
  have lg : (2 : Int).natAbs.log2 < 9000 := by decide
  rcases hw with rfl | rfl | rfl <;> simp only [w_l_load, sRaise, sTry, wIsX, wWhat, wBack, lo_lst, e_mulV, sizeL, sNil, sSeq, sPass, sBrk, sCont, sExpr, sRet, sRetN, sIf, sNever, sSet, sAug, gNm, gTp, gNil', gCons', gSb, sAsg, sPar, sFor, wVar_z, wVar_s, wC, wChn, wTru, sPar3, wRev, wCallK, permF, List.filterMap_cons, List.filterMap_nil, wBin, wUn, wTst, wNot, wAnd, wOr, wAndV, wOrV, wNotV, wIf, wNil, wCons, wTup, wLst, wLstL, wFz, wCall, wBi, wMt, wMt0, wSl, wSlL, wPart, wNoPart, wYes, wSeq, wRg1, wRg2, wEnum, wZip, wLc, wLcL, wLRg, wFld, sFldS, sFldA, gFld, wMeth, wMake, lvl2_s, onB, e_eqI, e_neI, e_eqB, e_neB, e_eqS, e_neS, e_eqN, e_tyLT, e_ty1, isTys, tyMem, tyN_non, tyN_bl, tyN_int, tyN_str, tyN_tup, tyN_lst, Bool.true_or, Bool.or_true, Bool.or_false, Bool.false_or, Bool.not_true, Bool.not_false, inn_non, inn_bl, inn_int, inn_str, inn_tup, inn_lst, inn_ptr, e_slT, e_slL, e_slN, isT_P, isT_L, isT_T, isT_N, e_sub, e_fdiv, e_mod, e_pow, e_lt, e_le, e_gt, e_ge, e_neg, e_add, e_addS, e_addT, e_addL, e_addPP, e_addPL, e_addLP, e_mul, e_mulL, e_mulT, e_augI, e_ixT, e_ixL, e_ixN, e_ixP, e_lenT, e_lenL, e_lenN, e_lenS, e_lenP, e_abs, e_intI, e_intB, e_max, e_min, e_tupL, e_tupT, e_listL, e_listT, e_listN, e_listLL, e_listLT, e_divmod, e_isNon, e_isntNon, e_isB, e_isntB, e_setIx, e_insert, e_append, e_isL, e_isLL, e_seqP, e_seqL, e_seqT, e_seqN, it_lst, it_fz, Option.bind_some, Option.isSome_some, ix10, ix20, ix21, ix30, ix32, dl1, dl2, dl3, List.eraseIdx_cons_zero, e_pop0, e_popAt, e_rev, e_clear, e_tupP, e_listP, e_neN, e_neIN, e_neNI, e_eqIN, e_eqNI, at0, at1, at2, at3, Cell.lst.injEq, Cell.obj.injEq, Option.some.injEq, exists_eq_left', decide_eq_true_eq, true_and, and_true, cup_same, cup_cup, List.flatten_nil, List.flatten_cons, enOf, endOf, excOf, List.map_cons, List.map_nil, List.length_cons, List.length_nil, List.replicate, Nat.reduceAdd, Nat.reduceSub, List.cons_append, List.nil_append, List.set_cons_zero, List.set_cons_succ, List.getElem?_cons_zero, List.getElem?_cons_succ, List.getElem_cons_zero, List.getElem_cons_succ, reduceCtorEq, if_true, if_false, Bool.false_eq_true, decide_true, decide_false, ne_eq, not_true, not_false_eq_true, Int.reduceEq, Nat.reduceMul, true_imp_iff, Int.reduceToNat, Int.reducePow, Nat.reducePow, Int.reduceLE, Int.reduceLT, Nat.reduceLT, and_self, Nat.reduceLeDiff, Int.reduceNeg, Int.reduceAdd, Int.reduceSub, Int.reduceMul, Int.cast_ofNat_Int]
  all_goals
    refine ⟨m1, take_use hk (by omega) (by omega) hb (by omega) fun r c2 r0 r1 u => ?_⟩
    simp only [sRaise, sTry, wIsX, wWhat, wBack, lo_lst, e_mulV, sizeL, sNil, sSeq, sPass, sBrk, sCont, sExpr, sRet, sRetN, sIf, sNever, sSet, sAug, gNm, gTp, gNil', gCons', gSb, sAsg, sPar, sFor, wVar_z, wVar_s, wC, wChn, wTru, sPar3, wRev, wCallK, permF, List.filterMap_cons, List.filterMap_nil, wBin, wUn, wTst, wNot, wAnd, wOr, wAndV, wOrV, wNotV, wIf, wNil, wCons, wTup, wLst, wLstL, wFz, wCall, wBi, wMt, wMt0, wSl, wSlL, wPart, wNoPart, wYes, wSeq, wRg1, wRg2, wEnum, wZip, wLc, wLcL, wLRg, wFld, sFldS, sFldA, gFld, wMeth, wMake, lvl2_s, onB, e_eqI, e_neI, e_eqB, e_neB, e_eqS, e_neS, e_eqN, e_tyLT, e_ty1, isTys, tyMem, tyN_non, tyN_bl, tyN_int, tyN_str, tyN_tup, tyN_lst, Bool.true_or, Bool.or_true, Bool.or_false, Bool.false_or, Bool.not_true, Bool.not_false, inn_non, inn_bl, inn_int, inn_str, inn_tup, inn_lst, inn_ptr, e_slT, e_slL, e_slN, isT_P, isT_L, isT_T, isT_N, e_sub, e_fdiv, e_mod, e_pow, e_lt, e_le, e_gt, e_ge, e_neg, e_add, e_addS, e_addT, e_addL, e_addPP, e_addPL, e_addLP, e_mul, e_mulL, e_mulT, e_augI, e_ixT, e_ixL, e_ixN, e_ixP, e_lenT, e_lenL, e_lenN, e_lenS, e_lenP, e_abs, e_intI, e_intB, e_max, e_min, e_tupL, e_tupT, e_listL, e_listT, e_listN, e_listLL, e_listLT, e_divmod, e_isNon, e_isntNon, e_isB, e_isntB, e_setIx, e_insert, e_append, e_isL, e_isLL, e_seqP, e_seqL, e_seqT, e_seqN, it_lst, it_fz, Option.bind_some, Option.isSome_some, ix10, ix20, ix21, ix30, ix32, dl1, dl2, dl3, List.eraseIdx_cons_zero, e_pop0, e_popAt, e_rev, e_clear, e_tupP, e_listP, e_neN, e_neIN, e_neNI, e_eqIN, e_eqNI, at0, at1, at2, at3, Cell.lst.injEq, Cell.obj.injEq, Option.some.injEq, exists_eq_left', decide_eq_true_eq, true_and, and_true, cup_same, cup_cup, List.flatten_nil, List.flatten_cons, enOf, endOf, excOf, List.map_cons, List.map_nil, List.length_cons, List.length_nil, List.replicate, Nat.reduceAdd, Nat.reduceSub, List.cons_append, List.nil_append, List.set_cons_zero, List.set_cons_succ, List.getElem?_cons_zero, List.getElem?_cons_succ, List.getElem_cons_zero, List.getElem_cons_succ, reduceCtorEq, if_true, if_false, Bool.false_eq_true, decide_true, decide_false, ne_eq, not_true, not_false_eq_true, Int.reduceEq, Nat.reduceMul, true_imp_iff, Int.reduceToNat, Int.reducePow, Nat.reducePow, Int.reduceLE, Int.reduceLT, Nat.reduceLT, and_self, Nat.reduceLeDiff, Int.reduceNeg, Int.reduceAdd, Int.reduceSub, Int.reduceMul, Int.cast_ofNat_Int]
    exact ⟨lg, c2, CLe.refl _, q _ _ (by unfold smallI; omega) u⟩
/-- a granary as the laws draw it -/
def okG (g : Gn) : Prop := (∀ l, g.1 = some l → smallI l) ∧ (∀ h, g.2 = some h → smallI h) ∧ (∀ l h, g.1 = some l → g.2 = some h → l ≤ h) ∧ (g.1.isSome = true ∨ g.2.isSome = true)
def c_l_granary (k : Nat) : Ctr := fun ds c Q _ => ∃ (p : Addr) (wide N : Int), ds = [.ptr p, .int wide] ∧ 0 ≤ wide ∧ wide < 3 ∧ Bx p N c ∧ N + 100 ≤ 70368744177664 ∧ 7 ≤ k ∧ ∀ g c', okG g → Up p (N + 100) c c' → Q (gD g) c'
def w_l_granary (k : Nat) : WS := (sSeq (sPar3 2 3 4 (wCons (wCall 2 c_l_take k (wCons (wVar 0) (wCons (wC (.int 4)) wNil))) (wCons (wCall 2 c_l_load k (wCons (wVar 0) (wCons (wVar 1) wNil))) (wCons (wCall 2 c_l_load k (wCons (wVar 0) (wCons (wVar 1) wNil))) wNil)))) (sSeq (sIf (wTst (wBin oEq (wVar 2) (wC (.int 0)))) (sRet (wTup (wCons (wVar 3) (wCons (wC .non) wNil)))) sNil) (sRet (wIf (wTst (wBin oEq (wVar 2) (wC (.int 1)))) (wTup (wCons (wC .non) (wCons (wVar 4) wNil))) (wTup (wCons (wBi oMin (wCons (wVar 3) (wCons (wVar 4) wNil))) (wCons (wBi oMax (wCons (wVar 3) (wCons (wVar 4) wNil))) wNil)))))))
theorem p_l_granary (k : Nat) (ds : List D) (c : Cs) (Q : DK) (X0 : XK0) (hlen0 : ds.length = 2) (h : c_l_granary k ds c Q X0) : w_l_granary k (endOf Q) (excOf X0) (enOf 5 ds) c := by
  obtain ⟨p, wide, N, rfl, h0, h3, hb, hN, hk, q⟩ := h
  obtain ⟨k, rfl⟩ : ∃ k', k = k' + 1 := ⟨k - 1, by omega⟩
  simp only [w_l_granary, sRaise, sTry, wIsX, wWhat, wBack, lo_lst, e_mulV, sizeL, sNil, sSeq, sPass, sBrk, sCont, sExpr, sRet, sRetN, sIf, sNever, sSet, sAug, gNm, gTp, gNil', gCons', gSb, sAsg, sPar, sFor, wVar_z, wVar_s, wC, wChn, wTru, sPar3, wRev, wCallK, permF, List.filterMap_cons, List.filterMap_nil, wBin, wUn, wTst, wNot, wAnd, wOr, wAndV, wOrV, wNotV, wIf, wNil, wCons, wTup, wLst, wLstL, wFz, wCall, wBi, wMt, wMt0, wSl, wSlL, wPart, wNoPart, wYes, wSeq, wRg1, wRg2, wEnum, wZip, wLc, wLcL, wLRg, wFld, sFldS, sFldA, gFld, wMeth, wMake, lvl2_s, onB, e_eqI, e_neI, e_eqB, e_neB, e_eqS, e_neS, e_eqN, e_tyLT, e_ty1, isTys, tyMem, tyN_non, tyN_bl, tyN_int, tyN_str, tyN_tup, tyN_lst, Bool.true_or, Bool.or_true, Bool.or_false, Bool.false_or, Bool.not_true, Bool.not_false, inn_non, inn_bl, inn_int, inn_str, inn_tup, inn_lst, inn_ptr, e_slT, e_slL, e_slN, isT_P, isT_L, isT_T, isT_N, e_sub, e_fdiv, e_mod, e_pow, e_lt, e_le, e_gt, e_ge, e_neg, e_add, e_addS, e_addT, e_addL, e_addPP, e_addPL, e_addLP, e_mul, e_mulL, e_mulT, e_augI, e_ixT, e_ixL, e_ixN, e_ixP, e_lenT, e_lenL, e_lenN, e_lenS, e_lenP, e_abs, e_intI, e_intB, e_max, e_min, e_tupL, e_tupT, e_listL, e_listT, e_listN, e_listLL, e_listLT, e_divmod, e_isNon, e_isntNon, e_isB, e_isntB, e_setIx, e_insert, e_append, e_isL, e_isLL, e_seqP, e_seqL, e_seqT, e_seqN, it_lst, it_fz, Option.bind_some, Option.isSome_some, ix10, ix20, ix21, ix30, ix32, dl1, dl2, dl3, List.eraseIdx_cons_zero, e_pop0, e_popAt, e_rev, e_clear, e_tupP, e_listP, e_neN, e_neIN, e_neNI, e_eqIN, e_eqNI, at0, at1, at2, at3, Cell.lst.injEq, Cell.obj.injEq, Option.some.injEq, exists_eq_left', decide_eq_true_eq, true_and, and_true, cup_same, cup_cup, List.flatten_nil, List.flatten_cons, enOf, endOf, excOf, List.map_cons, List.map_nil, List.length_cons, List.length_nil, List.replicate, Nat.reduceAdd, Nat.reduceSub, List.cons_append, List.nil_append, List.set_cons_zero, List.set_cons_succ, List.getElem?_cons_zero, List.getElem?_cons_succ, List.getElem_cons_zero, List.getElem_cons_succ, reduceCtorEq, if_true, if_false, Bool.false_eq_true, decide_true, decide_false, ne_eq, not_true, not_false_eq_true, Int.reduceEq, Nat.reduceMul, true_imp_iff, Int.reduceToNat, Int.reducePow, Nat.reducePow, Int.reduceLE, Int.reduceLT, Nat.reduceLT, and_self, Nat.reduceLeDiff, Int.reduceNeg, Int.reduceAdd, Int.reduceSub, Int.reduceMul, Int.cast_ofNat_Int]
  refine take_use (by omega) (by omega) (by omega) hb (by omega) fun r c1 r0 r1 u1 => ?_
  simp only [lvl_s]
  refine ⟨p, wide, N + 32, rfl, h0, h3, u1.1, by omega, by omega, fun a c2 ha u2 => ?_⟩
  refine ⟨p, wide, N + 64, rfl, h0, h3, u2.1.le (by omega), by omega, by omega, fun b c3 hb u3 => ?_⟩
  have u : Up p (N + 100) c c3 := ((u1.trans u2).trans u3).le (by omega)
  simp only [sRaise, sTry, wIsX, wWhat, wBack, lo_lst, e_mulV, sizeL, sNil, sSeq, sPass, sBrk, sCont, sExpr, sRet, sRetN, sIf, sNever, sSet, sAug, gNm, gTp, gNil', gCons', gSb, sAsg, sPar, sFor, wVar_z, wVar_s, wC, wChn, wTru, sPar3, wRev, wCallK, permF, List.filterMap_cons, List.filterMap_nil, wBin, wUn, wTst, wNot, wAnd, wOr, wAndV, wOrV, wNotV, wIf, wNil, wCons, wTup, wLst, wLstL, wFz, wCall, wBi, wMt, wMt0, wSl, wSlL, wPart, wNoPart, wYes, wSeq, wRg1, wRg2, wEnum, wZip, wLc, wLcL, wLRg, wFld, sFldS, sFldA, gFld, wMeth, wMake, lvl2_s, onB, e_eqI, e_neI, e_eqB, e_neB, e_eqS, e_neS, e_eqN, e_tyLT, e_ty1, isTys, tyMem, tyN_non, tyN_bl, tyN_int, tyN_str, tyN_tup, tyN_lst, Bool.true_or, Bool.or_true, Bool.or_false, Bool.false_or, Bool.not_true, Bool.not_false, inn_non, inn_bl, inn_int, inn_str, inn_tup, inn_lst, inn_ptr, e_slT, e_slL, e_slN, isT_P, isT_L, isT_T, isT_N, e_sub, e_fdiv, e_mod, e_pow, e_lt, e_le, e_gt, e_ge, e_neg, e_add, e_addS, e_addT, e_addL, e_addPP, e_addPL, e_addLP, e_mul, e_mulL, e_mulT, e_augI, e_ixT, e_ixL, e_ixN, e_ixP, e_lenT, e_lenL, e_lenN, e_lenS, e_lenP, e_abs, e_intI, e_intB, e_max, e_min, e_tupL, e_tupT, e_listL, e_listT, e_listN, e_listLL, e_listLT, e_divmod, e_isNon, e_isntNon, e_isB, e_isntB, e_setIx, e_insert, e_append, e_isL, e_isLL, e_seqP, e_seqL, e_seqT, e_seqN, it_lst, it_fz, Option.bind_some, Option.isSome_some, ix10, ix20, ix21, ix30, ix32, dl1, dl2, dl3, List.eraseIdx_cons_zero, e_pop0, e_popAt, e_rev, e_clear, e_tupP, e_listP, e_neN, e_neIN, e_neNI, e_eqIN, e_eqNI, at0, at1, at2, at3, Cell.lst.injEq, Cell.obj.injEq, Option.some.injEq, exists_eq_left', decide_eq_true_eq, true_and, and_true, cup_same, cup_cup, List.flatten_nil, List.flatten_cons, enOf, endOf, excOf, List.map_cons, List.map_nil, List.length_cons, List.length_nil, List.replicate, Nat.reduceAdd, Nat.reduceSub, List.cons_append, List.nil_append, List.set_cons_zero, List.set_cons_succ, List.getElem?_cons_zero, List.getElem?_cons_succ, List.getElem_cons_zero, List.getElem_cons_succ, reduceCtorEq, if_true, if_false, Bool.false_eq_true, decide_true, decide_false, ne_eq, not_true, not_false_eq_true, Int.reduceEq, Nat.reduceMul, true_imp_iff, Int.reduceToNat, Int.reducePow, Nat.reducePow, Int.reduceLE, Int.reduceLT, Nat.reduceLT, and_self, Nat.reduceLeDiff, Int.reduceNeg, Int.reduceAdd, Int.reduceSub, Int.reduceMul, Int.cast_ofNat_Int]
  split
  · exact ⟨c3, CLe.refl _, q (some a, none) _ ⟨fun l e => by cases e; exact ha, (fun l e => by cases e), (fun l h e e' => by cases e'), .inl rfl⟩ u⟩
  · split
    · exact ⟨c3, CLe.refl _, q (none, some b) _ ⟨(fun l e => by cases e), fun l e => by cases e; exact hb, (fun l h e e' => by cases e), .inr rfl⟩ u⟩
    · refine ⟨c3, CLe.refl _, q (some (if b < a then b else a), some (if b > a then b else a)) _ ⟨fun l e => ?_, fun l e => ?_, fun l h e e' => ?_, .inl rfl⟩ u⟩
      · cases e; split <;> assumption
      · cases e; split <;> assumption
      · cases e; cases e'; split <;> split <;> omega
def okW (m n : Nat) (w : Wo) : Prop := w.1.length ≤ m ∧ 1 ≤ w.2.length ∧ w.2.length ≤ n ∧ (∀ g ∈ w.1, okG g) ∧ ∀ x ∈ w.2, smallI x
theorem as_map {α : Type} {P : α → Prop} {f : α → D} : ∀ {l : List D}, (∀ y ∈ l, ∃ a, y = f a ∧ P a) → ∃ as : List α, l = as.map f ∧ ∀ a ∈ as, P a
  | [], _ => ⟨[], rfl, by simp⟩
  | y :: l, h => by
    obtain ⟨a, e, ha⟩ := h y (List.mem_cons_self ..)
    obtain ⟨as, e2, has⟩ := as_map (l := l) fun z hz => h z (List.mem_cons_of_mem _ hz)
    exact ⟨a :: as, by rw [e, e2]; rfl, by simp [ha]; exact has⟩
def c_l_world (k : Nat) : Ctr := fun ds c Q _ => ∃ (p : Addr) (m n : Nat) (N : Int), ds = [.ptr p, .int m, .int n] ∧ 1 ≤ n ∧ m ≤ 1000 ∧ n ≤ 1000 ∧ Bx p N c ∧ N + 200000 ≤ 70368744177664 ∧ 8 ≤ k ∧ ∀ w c', okW m n w → Up p (N + 200000) c c' → Q (wD w) c'
def w_l_world (k : Nat) : WS := (sSeq (sSet 3 (wCall 2 c_l_take k (wCons (wVar 0) (wCons (wC (.int 3)) wNil)))) (sSeq (sSet 4 (wLc (wRg1 (wCall 2 c_l_take k (wCons (wVar 0) (wCons (wBin oAdd (wVar 1) (wC (.int 1))) wNil)))) (.nm 5) wYes (wCall 2 c_l_granary k (wCons (wVar 0) (wCons (wVar 3) wNil))) [5])) (sRet (wTup (wCons (wBi oTuple (wCons (wVar 4) wNil)) (wCons (wBi oTuple (wCons (wLc (wRg1 (wBin oAdd (wC (.int 1)) (wCall 2 c_l_take k (wCons (wVar 0) (wCons (wVar 2) wNil))))) (.nm 5) wYes (wCall 2 c_l_load k (wCons (wVar 0) (wCons (wVar 3) wNil))) [5]) wNil)) wNil))))))
theorem p_l_world (k : Nat) (ds : List D) (c : Cs) (Q : DK) (X0 : XK0) (hlen0 : ds.length = 3) (h : c_l_world k ds c Q X0) : w_l_world k (endOf Q) (excOf X0) (enOf 6 ds) c := by
  obtain ⟨p, m, n, N, rfl, hn0, hm, hn, hb, hN, hk, q⟩ := h
  obtain ⟨k, rfl⟩ : ∃ k', k = k' + 1 := ⟨k - 1, by omega⟩
  simp only [w_l_world, sRaise, sTry, wIsX, wWhat, wBack, lo_lst, e_mulV, sizeL, sNil, sSeq, sPass, sBrk, sCont, sExpr, sRet, sRetN, sIf, sNever, sSet, sAug, gNm, gTp, gNil', gCons', gSb, sAsg, sPar, sFor, wVar_z, wVar_s, wC, wChn, wTru, sPar3, wRev, wCallK, permF, List.filterMap_cons, List.filterMap_nil, wBin, wUn, wTst, wNot, wAnd, wOr, wAndV, wOrV, wNotV, wIf, wNil, wCons, wTup, wLst, wLstL, wFz, wCall, wBi, wMt, wMt0, wSl, wSlL, wPart, wNoPart, wYes, wSeq, wRg1, wRg2, wEnum, wZip, wLc, wLcL, wLRg, wFld, sFldS, sFldA, gFld, wMeth, wMake, lvl2_s, onB, e_eqI, e_neI, e_eqB, e_neB, e_eqS, e_neS, e_eqN, e_tyLT, e_ty1, isTys, tyMem, tyN_non, tyN_bl, tyN_int, tyN_str, tyN_tup, tyN_lst, Bool.true_or, Bool.or_true, Bool.or_false, Bool.false_or, Bool.not_true, Bool.not_false, inn_non, inn_bl, inn_int, inn_str, inn_tup, inn_lst, inn_ptr, e_slT, e_slL, e_slN, isT_P, isT_L, isT_T, isT_N, e_sub, e_fdiv, e_mod, e_pow, e_lt, e_le, e_gt, e_ge, e_neg, e_add, e_addS, e_addT, e_addL, e_addPP, e_addPL, e_addLP, e_mul, e_mulL, e_mulT, e_augI, e_ixT, e_ixL, e_ixN, e_ixP, e_lenT, e_lenL, e_lenN, e_lenS, e_lenP, e_abs, e_intI, e_intB, e_max, e_min, e_tupL, e_tupT, e_listL, e_listT, e_listN, e_listLL, e_listLT, e_divmod, e_isNon, e_isntNon, e_isB, e_isntB, e_setIx, e_insert, e_append, e_isL, e_isLL, e_seqP, e_seqL, e_seqT, e_seqN, it_lst, it_fz, Option.bind_some, Option.isSome_some, ix10, ix20, ix21, ix30, ix32, dl1, dl2, dl3, List.eraseIdx_cons_zero, e_pop0, e_popAt, e_rev, e_clear, e_tupP, e_listP, e_neN, e_neIN, e_neNI, e_eqIN, e_eqNI, at0, at1, at2, at3, Cell.lst.injEq, Cell.obj.injEq, Option.some.injEq, exists_eq_left', decide_eq_true_eq, true_and, and_true, cup_same, cup_cup, List.flatten_nil, List.flatten_cons, enOf, endOf, excOf, List.map_cons, List.map_nil, List.length_cons, List.length_nil, List.replicate, Nat.reduceAdd, Nat.reduceSub, List.cons_append, List.nil_append, List.set_cons_zero, List.set_cons_succ, List.getElem?_cons_zero, List.getElem?_cons_succ, List.getElem_cons_zero, List.getElem_cons_succ, reduceCtorEq, if_true, if_false, Bool.false_eq_true, decide_true, decide_false, ne_eq, not_true, not_false_eq_true, Int.reduceEq, Nat.reduceMul, true_imp_iff, Int.reduceToNat, Int.reducePow, Nat.reducePow, Int.reduceLE, Int.reduceLT, Nat.reduceLT, and_self, Nat.reduceLeDiff, Int.reduceNeg, Int.reduceAdd, Int.reduceSub, Int.reduceMul, Int.cast_ofNat_Int]
  refine take_use (by omega) (by omega) (by omega) hb (by omega) fun wide c1 w0 w1 u1 => ?_
  refine take_use (by omega) (by omega) (by omega) u1.1 (by omega) fun r c2 r0 r1 u2 => ?_
  simp only [sRaise, sTry, wIsX, wWhat, wBack, lo_lst, e_mulV, sizeL, sNil, sSeq, sPass, sBrk, sCont, sExpr, sRet, sRetN, sIf, sNever, sSet, sAug, gNm, gTp, gNil', gCons', gSb, sAsg, sPar, sFor, wVar_z, wVar_s, wC, wChn, wTru, sPar3, wRev, wCallK, permF, List.filterMap_cons, List.filterMap_nil, wBin, wUn, wTst, wNot, wAnd, wOr, wAndV, wOrV, wNotV, wIf, wNil, wCons, wTup, wLst, wLstL, wFz, wCall, wBi, wMt, wMt0, wSl, wSlL, wPart, wNoPart, wYes, wSeq, wRg1, wRg2, wEnum, wZip, wLc, wLcL, wLRg, wFld, sFldS, sFldA, gFld, wMeth, wMake, lvl2_s, onB, e_eqI, e_neI, e_eqB, e_neB, e_eqS, e_neS, e_eqN, e_tyLT, e_ty1, isTys, tyMem, tyN_non, tyN_bl, tyN_int, tyN_str, tyN_tup, tyN_lst, Bool.true_or, Bool.or_true, Bool.or_false, Bool.false_or, Bool.not_true, Bool.not_false, inn_non, inn_bl, inn_int, inn_str, inn_tup, inn_lst, inn_ptr, e_slT, e_slL, e_slN, isT_P, isT_L, isT_T, isT_N, e_sub, e_fdiv, e_mod, e_pow, e_lt, e_le, e_gt, e_ge, e_neg, e_add, e_addS, e_addT, e_addL, e_addPP, e_addPL, e_addLP, e_mul, e_mulL, e_mulT, e_augI, e_ixT, e_ixL, e_ixN, e_ixP, e_lenT, e_lenL, e_lenN, e_lenS, e_lenP, e_abs, e_intI, e_intB, e_max, e_min, e_tupL, e_tupT, e_listL, e_listT, e_listN, e_listLL, e_listLT, e_divmod, e_isNon, e_isntNon, e_isB, e_isntB, e_setIx, e_insert, e_append, e_isL, e_isLL, e_seqP, e_seqL, e_seqT, e_seqN, it_lst, it_fz, Option.bind_some, Option.isSome_some, ix10, ix20, ix21, ix30, ix32, dl1, dl2, dl3, List.eraseIdx_cons_zero, e_pop0, e_popAt, e_rev, e_clear, e_tupP, e_listP, e_neN, e_neIN, e_neNI, e_eqIN, e_eqNI, at0, at1, at2, at3, Cell.lst.injEq, Cell.obj.injEq, Option.some.injEq, exists_eq_left', decide_eq_true_eq, true_and, and_true, cup_same, cup_cup, List.flatten_nil, List.flatten_cons, enOf, endOf, excOf, List.map_cons, List.map_nil, List.length_cons, List.length_nil, List.replicate, Nat.reduceAdd, Nat.reduceSub, List.cons_append, List.nil_append, List.set_cons_zero, List.set_cons_succ, List.getElem?_cons_zero, List.getElem?_cons_succ, List.getElem_cons_zero, List.getElem_cons_succ, reduceCtorEq, if_true, if_false, Bool.false_eq_true, decide_true, decide_false, ne_eq, not_true, not_false_eq_true, Int.reduceEq, Nat.reduceMul, true_imp_iff, Int.reduceToNat, Int.reducePow, Nat.reducePow, Int.reduceLE, Int.reduceLT, Nat.reduceLT, and_self, Nat.reduceLeDiff, Int.reduceNeg, Int.reduceAdd, Int.reduceSub, Int.reduceMul, Int.cast_ofNat_Int]
  refine ⟨by omega, by omega, by rw [rgD0_len]; omega, lc_box (C := 100) (N := N + 64) (fun d => ∃ g, d = gD g ∧ okG g) (by omega) (u2.1.le (by omega)) (fun d hd c3 M l1 l2 hu => ⟨trivial, _, rfl, fun Q kk => ?_⟩) fun gs c3 hgl hg u3 => ⟨trivial, ?_⟩⟩
  · rw [rgD0_len] at l2
    simp only [sRaise, sTry, wIsX, wWhat, wBack, lo_lst, e_mulV, sizeL, sNil, sSeq, sPass, sBrk, sCont, sExpr, sRet, sRetN, sIf, sNever, sSet, sAug, gNm, gTp, gNil', gCons', gSb, sAsg, sPar, sFor, wVar_z, wVar_s, wC, wChn, wTru, sPar3, wRev, wCallK, permF, List.filterMap_cons, List.filterMap_nil, wBin, wUn, wTst, wNot, wAnd, wOr, wAndV, wOrV, wNotV, wIf, wNil, wCons, wTup, wLst, wLstL, wFz, wCall, wBi, wMt, wMt0, wSl, wSlL, wPart, wNoPart, wYes, wSeq, wRg1, wRg2, wEnum, wZip, wLc, wLcL, wLRg, wFld, sFldS, sFldA, gFld, wMeth, wMake, lvl2_s, onB, e_eqI, e_neI, e_eqB, e_neB, e_eqS, e_neS, e_eqN, e_tyLT, e_ty1, isTys, tyMem, tyN_non, tyN_bl, tyN_int, tyN_str, tyN_tup, tyN_lst, Bool.true_or, Bool.or_true, Bool.or_false, Bool.false_or, Bool.not_true, Bool.not_false, inn_non, inn_bl, inn_int, inn_str, inn_tup, inn_lst, inn_ptr, e_slT, e_slL, e_slN, isT_P, isT_L, isT_T, isT_N, e_sub, e_fdiv, e_mod, e_pow, e_lt, e_le, e_gt, e_ge, e_neg, e_add, e_addS, e_addT, e_addL, e_addPP, e_addPL, e_addLP, e_mul, e_mulL, e_mulT, e_augI, e_ixT, e_ixL, e_ixN, e_ixP, e_lenT, e_lenL, e_lenN, e_lenS, e_lenP, e_abs, e_intI, e_intB, e_max, e_min, e_tupL, e_tupT, e_listL, e_listT, e_listN, e_listLL, e_listLT, e_divmod, e_isNon, e_isntNon, e_isB, e_isntB, e_setIx, e_insert, e_append, e_isL, e_isLL, e_seqP, e_seqL, e_seqT, e_seqN, it_lst, it_fz, Option.bind_some, Option.isSome_some, ix10, ix20, ix21, ix30, ix32, dl1, dl2, dl3, List.eraseIdx_cons_zero, e_pop0, e_popAt, e_rev, e_clear, e_tupP, e_listP, e_neN, e_neIN, e_neNI, e_eqIN, e_eqNI, at0, at1, at2, at3, Cell.lst.injEq, Cell.obj.injEq, Option.some.injEq, exists_eq_left', decide_eq_true_eq, true_and, and_true, cup_same, cup_cup, List.flatten_nil, List.flatten_cons, enOf, endOf, excOf, List.map_cons, List.map_nil, List.length_cons, List.length_nil, List.replicate, Nat.reduceAdd, Nat.reduceSub, List.cons_append, List.nil_append, List.set_cons_zero, List.set_cons_succ, List.getElem?_cons_zero, List.getElem?_cons_succ, List.getElem_cons_zero, List.getElem_cons_succ, reduceCtorEq, if_true, if_false, Bool.false_eq_true, decide_true, decide_false, ne_eq, not_true, not_false_eq_true, Int.reduceEq, Nat.reduceMul, true_imp_iff, Int.reduceToNat, Int.reducePow, Nat.reducePow, Int.reduceLE, Int.reduceLT, Nat.reduceLT, and_self, Nat.reduceLeDiff, Int.reduceNeg, Int.reduceAdd, Int.reduceSub, Int.reduceMul, Int.cast_ofNat_Int, ewipe, lvl_s]
    exact ⟨p, wide, M, rfl, w0, w1, hu.1, by omega, by omega, fun g c' hg u => kk _ _ ⟨g, rfl, hg⟩ u⟩
  rw [rgD0_len] at hgl u3
  obtain ⟨gs, rfl, hg2⟩ := as_map hg
  refine take_use (by omega) (by omega) (by omega) u3.1 (by omega) fun r' c4 r0' r1' u4 => ?_
  simp only [sRaise, sTry, wIsX, wWhat, wBack, lo_lst, e_mulV, sizeL, sNil, sSeq, sPass, sBrk, sCont, sExpr, sRet, sRetN, sIf, sNever, sSet, sAug, gNm, gTp, gNil', gCons', gSb, sAsg, sPar, sFor, wVar_z, wVar_s, wC, wChn, wTru, sPar3, wRev, wCallK, permF, List.filterMap_cons, List.filterMap_nil, wBin, wUn, wTst, wNot, wAnd, wOr, wAndV, wOrV, wNotV, wIf, wNil, wCons, wTup, wLst, wLstL, wFz, wCall, wBi, wMt, wMt0, wSl, wSlL, wPart, wNoPart, wYes, wSeq, wRg1, wRg2, wEnum, wZip, wLc, wLcL, wLRg, wFld, sFldS, sFldA, gFld, wMeth, wMake, lvl2_s, onB, e_eqI, e_neI, e_eqB, e_neB, e_eqS, e_neS, e_eqN, e_tyLT, e_ty1, isTys, tyMem, tyN_non, tyN_bl, tyN_int, tyN_str, tyN_tup, tyN_lst, Bool.true_or, Bool.or_true, Bool.or_false, Bool.false_or, Bool.not_true, Bool.not_false, inn_non, inn_bl, inn_int, inn_str, inn_tup, inn_lst, inn_ptr, e_slT, e_slL, e_slN, isT_P, isT_L, isT_T, isT_N, e_sub, e_fdiv, e_mod, e_pow, e_lt, e_le, e_gt, e_ge, e_neg, e_add, e_addS, e_addT, e_addL, e_addPP, e_addPL, e_addLP, e_mul, e_mulL, e_mulT, e_augI, e_ixT, e_ixL, e_ixN, e_ixP, e_lenT, e_lenL, e_lenN, e_lenS, e_lenP, e_abs, e_intI, e_intB, e_max, e_min, e_tupL, e_tupT, e_listL, e_listT, e_listN, e_listLL, e_listLT, e_divmod, e_isNon, e_isntNon, e_isB, e_isntB, e_setIx, e_insert, e_append, e_isL, e_isLL, e_seqP, e_seqL, e_seqT, e_seqN, it_lst, it_fz, Option.bind_some, Option.isSome_some, ix10, ix20, ix21, ix30, ix32, dl1, dl2, dl3, List.eraseIdx_cons_zero, e_pop0, e_popAt, e_rev, e_clear, e_tupP, e_listP, e_neN, e_neIN, e_neNI, e_eqIN, e_eqNI, at0, at1, at2, at3, Cell.lst.injEq, Cell.obj.injEq, Option.some.injEq, exists_eq_left', decide_eq_true_eq, true_and, and_true, cup_same, cup_cup, List.flatten_nil, List.flatten_cons, enOf, endOf, excOf, List.map_cons, List.map_nil, List.length_cons, List.length_nil, List.replicate, Nat.reduceAdd, Nat.reduceSub, List.cons_append, List.nil_append, List.set_cons_zero, List.set_cons_succ, List.getElem?_cons_zero, List.getElem?_cons_succ, List.getElem_cons_zero, List.getElem_cons_succ, reduceCtorEq, if_true, if_false, Bool.false_eq_true, decide_true, decide_false, ne_eq, not_true, not_false_eq_true, Int.reduceEq, Nat.reduceMul, true_imp_iff, Int.reduceToNat, Int.reducePow, Nat.reducePow, Int.reduceLE, Int.reduceLT, Nat.reduceLT, and_self, Nat.reduceLeDiff, Int.reduceNeg, Int.reduceAdd, Int.reduceSub, Int.reduceMul, Int.cast_ofNat_Int]
  refine ⟨by omega, by omega, by rw [rgD0_len]; omega, lc_box (C := 32) (N := N + 100200) (fun d => ∃ i, d = .int i ∧ smallI i) (by omega) (u4.1.le (by omega)) (fun d hd c3 M l1 l2 hu => ⟨trivial, _, rfl, fun Q kk => ?_⟩) fun xs c5 hxl hx u5 => ⟨trivial, ?_⟩⟩
  · rw [rgD0_len] at l2
    simp only [sRaise, sTry, wIsX, wWhat, wBack, lo_lst, e_mulV, sizeL, sNil, sSeq, sPass, sBrk, sCont, sExpr, sRet, sRetN, sIf, sNever, sSet, sAug, gNm, gTp, gNil', gCons', gSb, sAsg, sPar, sFor, wVar_z, wVar_s, wC, wChn, wTru, sPar3, wRev, wCallK, permF, List.filterMap_cons, List.filterMap_nil, wBin, wUn, wTst, wNot, wAnd, wOr, wAndV, wOrV, wNotV, wIf, wNil, wCons, wTup, wLst, wLstL, wFz, wCall, wBi, wMt, wMt0, wSl, wSlL, wPart, wNoPart, wYes, wSeq, wRg1, wRg2, wEnum, wZip, wLc, wLcL, wLRg, wFld, sFldS, sFldA, gFld, wMeth, wMake, lvl2_s, onB, e_eqI, e_neI, e_eqB, e_neB, e_eqS, e_neS, e_eqN, e_tyLT, e_ty1, isTys, tyMem, tyN_non, tyN_bl, tyN_int, tyN_str, tyN_tup, tyN_lst, Bool.true_or, Bool.or_true, Bool.or_false, Bool.false_or, Bool.not_true, Bool.not_false, inn_non, inn_bl, inn_int, inn_str, inn_tup, inn_lst, inn_ptr, e_slT, e_slL, e_slN, isT_P, isT_L, isT_T, isT_N, e_sub, e_fdiv, e_mod, e_pow, e_lt, e_le, e_gt, e_ge, e_neg, e_add, e_addS, e_addT, e_addL, e_addPP, e_addPL, e_addLP, e_mul, e_mulL, e_mulT, e_augI, e_ixT, e_ixL, e_ixN, e_ixP, e_lenT, e_lenL, e_lenN, e_lenS, e_lenP, e_abs, e_intI, e_intB, e_max, e_min, e_tupL, e_tupT, e_listL, e_listT, e_listN, e_listLL, e_listLT, e_divmod, e_isNon, e_isntNon, e_isB, e_isntB, e_setIx, e_insert, e_append, e_isL, e_isLL, e_seqP, e_seqL, e_seqT, e_seqN, it_lst, it_fz, Option.bind_some, Option.isSome_some, ix10, ix20, ix21, ix30, ix32, dl1, dl2, dl3, List.eraseIdx_cons_zero, e_pop0, e_popAt, e_rev, e_clear, e_tupP, e_listP, e_neN, e_neIN, e_neNI, e_eqIN, e_eqNI, at0, at1, at2, at3, Cell.lst.injEq, Cell.obj.injEq, Option.some.injEq, exists_eq_left', decide_eq_true_eq, true_and, and_true, cup_same, cup_cup, List.flatten_nil, List.flatten_cons, enOf, endOf, excOf, List.map_cons, List.map_nil, List.length_cons, List.length_nil, List.replicate, Nat.reduceAdd, Nat.reduceSub, List.cons_append, List.nil_append, List.set_cons_zero, List.set_cons_succ, List.getElem?_cons_zero, List.getElem?_cons_succ, List.getElem_cons_zero, List.getElem_cons_succ, reduceCtorEq, if_true, if_false, Bool.false_eq_true, decide_true, decide_false, ne_eq, not_true, not_false_eq_true, Int.reduceEq, Nat.reduceMul, true_imp_iff, Int.reduceToNat, Int.reducePow, Nat.reducePow, Int.reduceLE, Int.reduceLT, Nat.reduceLT, and_self, Nat.reduceLeDiff, Int.reduceNeg, Int.reduceAdd, Int.reduceSub, Int.reduceMul, Int.cast_ofNat_Int, ewipe, lvl_s]
    exact ⟨p, wide, M, rfl, w0, w1, hu.1, by omega, by omega, fun g c' hg u => kk _ _ ⟨g, rfl, hg⟩ u⟩
  rw [rgD0_len] at hxl u5
  obtain ⟨xs, rfl, hx2⟩ := as_map hx
  rw [List.length_map] at hgl hxl
  exact ⟨c5, CLe.refl _, q (gs, xs) _ ⟨by show gs.length ≤ m; omega, by show 1 ≤ xs.length; omega, by show xs.length ≤ n; omega, hg2, hx2⟩ (((((u1.trans u2).trans u3).trans u4).trans u5).le (by omega))⟩
def selG (g : Gn) (b : Bool) : Option Int := if b then g.2 else g.1
end VL
namespace VL
open PySem PySem.Spec PyProof.Rows L2
theorem srt2 {a b : Int} (h : a ≤ b) : isrt [a, b] = [a, b] ∧ isrt [b, a] = [a, b] :=
  ⟨(isrt_unique (.refl _) (by simp [h])).symm, (isrt_unique (List.Perm.swap ..) (by simp [h])).symm⟩
theorem srt3 {a b d : Int} (h : a ≤ b) (h' : b ≤ d) {l : List Int} (hp : List.Perm [a, b, d] l) : isrt l = [a, b, d] := (isrt_unique hp (by simp; omega)).symm
/-- what the law's own coming tells: least, middle, greatest -/
theorem came_low {w : Wo} {i j : Nat} (hj : j < w.1.length) {l x : Int} {u : Option Int} (hg : granAt w j = (some l, u)) (hx : loadAt w i = x) (h : x < l) (hi : i < w.2.length) :
    cameW w i j = ((w.1.set j (some x, u), w.2.set i l), some (j, false), l - x) := by
  have hl : loadAt (w.1.set j (some x, u), w.2.set i l) i = l := by simp [loadAt, hi]
  unfold cameW
  rw [hg, hx]
  have hw : wordOf (some l, u) x = some false := by simp [wordOf, h]
  rw [hw]
  have he : exchW w i j false = (w.1.set j (some x, u), w.2.set i l) := by simp [exchW, swapG, hg, hx]
  simp only [he, hl]
  rw [if_neg (by omega)]
theorem came_high {w : Wo} {i j : Nat} (hj : j < w.1.length) {u x : Int} {l : Option Int} (hg : granAt w j = (l, some u)) (hx : loadAt w i = x) (h : u < x) (hl : ∀ y, l = some y → y ≤ x) (hi : i < w.2.length) :
    cameW w i j = ((w.1.set j (l, some x), w.2.set i u), some (j, true), x - u) := by
  have hl' : loadAt (w.1.set j (l, some x), w.2.set i u) i = u := by simp [loadAt, hi]
  unfold cameW
  rw [hg, hx]
  have hw : wordOf (l, some u) x = some true := by
    unfold wordOf
    rw [if_neg, if_pos (by simpa using h)]
    cases l with
    | none => simp
    | some y => have := hl y rfl; simp; omega
  rw [hw]
  have he : exchW w i j true = (w.1.set j (l, some x), w.2.set i u) := by simp [exchW, swapG, hg, hx]
  simp only [he, hl']
  rw [if_pos (by omega), show -(u - x) = x - u by omega]
theorem came_not {w : Wo} {i j : Nat} {l u : Option Int} {x : Int} (hg : granAt w j = (l, u)) (hx : loadAt w i = x) (hl : ∀ y, l = some y → y ≤ x) (hu : ∀ y, u = some y → x ≤ y) : cameW w i j = (w, none, 0) := by
  unfold cameW
  rw [hg, hx]
  have hw : wordOf (l, u) x = none := by
    unfold wordOf
    rw [if_neg, if_neg]
    · cases u with
      | none => simp
      | some y => have := hu y rfl; simp; omega
    · cases l with
      | none => simp
      | some y => have := hl y rfl; simp; omega
  rw [hw]
theorem set_gran {w : Wo} {j : Nat} (hj : j < w.1.length) : w.1.set j (granAt w j) = w.1 := by simp [granAt, hj]
theorem set_load {w : Wo} {i : Nat} (hi : i < w.2.length) : w.2.set i (loadAt w i) = w.2 := by simp [loadAt, hi]
def w_l_came (k : Nat) : WS := (sSeq (sAsg (wVar 1) (gTp 2 (gCons' (gNm 6) (gCons' (gNm 7) gNil')))) (sSeq (sPar 8 9 (wCons (wBi oListL (wCons (wBin oIx (wVar 0) (wC (.int 0))) wNil)) (wCons (wBi oListL (wCons (wBin oIx (wVar 0) (wC (.int 1))) wNil)) wNil))) (sSeq (sAsg (wBin oIx (wVar 8) (wVar 7)) (gTp 2 (gCons' (gNm 10) (gCons' (gNm 11) gNil')))) (sSeq (sSet 2 (wBi oSortedL (wCons (wLc (wSeq (wTup (wCons (wVar 10) (wCons (wBin oIx (wVar 9) (wVar 6)) (wCons (wVar 11) wNil))))) (.nm 13) (wTst (wBin oIsNot (wVar 13) (wC .non))) (wVar 13) [13]) wNil))) (sSeq (sSet 3 (wIf (wTst (wBin oIsNot (wVar 10) (wC .non))) (wMt oPopAt (wVar 2) (wCons (wC (.int 0)) wNil)) (wC .non))) (sSeq (sSet 4 (wIf (wTst (wBin oIsNot (wVar 11) (wC .non))) (wMt0 oPop0 (wVar 2)) (wC .non))) (sSeq (sAsg (wTup (wCons (wTup (wCons (wVar 3) (wCons (wVar 4) wNil))) (wCons (wBi oAbs (wCons (wBin oSub (wBin oIx (wVar 2) (wC (.int 0))) (wBin oIx (wVar 9) (wVar 6))) wNil)) wNil))) (gTp 2 (gCons' (gSb (wVar 8) (wVar 7)) (gCons' (gNm 12) gNil')))) (sSeq (sSet 5 (wC .non)) (sSeq (sIf (wTst (wBin oGt (wVar 12) (wC (.int 0)))) (sSet 5 (wTup (wCons (wVar 7) (wCons (wIf (wTst (wBin oNe (wVar 3) (wVar 10))) (wC (.str "low")) (wC (.str "high"))) wNil)))) sNil) (sSeq (sAsg (wBin oIx (wVar 2) (wC (.int 0))) (gSb (wVar 9) (wVar 6))) (sRet (wTup (wCons (wTup (wCons (wBi oTuple (wCons (wVar 8) wNil)) (wCons (wBi oTuple (wCons (wVar 9) wNil)) wNil))) (wCons (wVar 5) (wCons (wVar 12) wNil)))))))))))))))
def c_l_came (k : Nat) : Ctr := fun ds c Q _ => ∃ (w : Wo) (i j : Nat), ds = [wD w, cmD (i, j)] ∧ i < w.2.length ∧ j < w.1.length ∧ okG (granAt w j) ∧ ∀ c', CLe c c' → Q (cameD (cameW w i j)) c'
theorem p_l_came (k : Nat) (ds : List D) (c : Cs) (Q : DK) (X0 : XK0) (hlen0 : ds.length = 2) (h : c_l_came k ds c Q X0) : w_l_came k (endOf Q) (excOf X0) (enOf 14 ds) c := by
  obtain ⟨w, i, j, rfl, hi, hj, hg, q⟩ := h
  simp only [w_l_came, cmD, wD, gsD, sRaise, sTry, wIsX, wWhat, wBack, lo_lst, e_mulV, sizeL, sNil, sSeq, sPass, sBrk, sCont, sExpr, sRet, sRetN, sIf, sNever, sSet, sAug, gNm, gTp, gNil', gCons', gSb, sAsg, sPar, sFor, wVar_z, wVar_s, wC, wChn, wTru, sPar3, wRev, wCallK, permF, List.filterMap_cons, List.filterMap_nil, wBin, wUn, wTst, wNot, wAnd, wOr, wAndV, wOrV, wNotV, wIf, wNil, wCons, wTup, wLst, wLstL, wFz, wCall, wBi, wMt, wMt0, wSl, wSlL, wPart, wNoPart, wYes, wSeq, wRg1, wRg2, wEnum, wZip, wLc, wLcL, wLRg, wFld, sFldS, sFldA, gFld, wMeth, wMake, lvl2_s, onB, e_eqI, e_neI, e_eqB, e_neB, e_eqS, e_neS, e_eqN, e_tyLT, e_ty1, isTys, tyMem, tyN_non, tyN_bl, tyN_int, tyN_str, tyN_tup, tyN_lst, Bool.true_or, Bool.or_true, Bool.or_false, Bool.false_or, Bool.not_true, Bool.not_false, inn_non, inn_bl, inn_int, inn_str, inn_tup, inn_lst, inn_ptr, e_slT, e_slL, e_slN, isT_P, isT_L, isT_T, isT_N, e_sub, e_fdiv, e_mod, e_pow, e_lt, e_le, e_gt, e_ge, e_neg, e_add, e_addS, e_addT, e_addL, e_addPP, e_addPL, e_addLP, e_mul, e_mulL, e_mulT, e_augI, e_ixT, e_ixL, e_ixN, e_ixP, e_lenT, e_lenL, e_lenN, e_lenS, e_lenP, e_abs, e_intI, e_intB, e_max, e_min, e_tupL, e_tupT, e_listL, e_listT, e_listN, e_listLL, e_listLT, e_divmod, e_isNon, e_isntNon, e_isB, e_isntB, e_setIx, e_insert, e_append, e_isL, e_isLL, e_seqP, e_seqL, e_seqT, e_seqN, it_lst, it_fz, Option.bind_some, Option.isSome_some, ix10, ix20, ix21, ix30, ix32, dl1, dl2, dl3, List.eraseIdx_cons_zero, e_pop0, e_popAt, e_rev, e_clear, e_tupP, e_listP, e_neN, e_neIN, e_neNI, e_eqIN, e_eqNI, at0, at1, at2, at3, Cell.lst.injEq, Cell.obj.injEq, Option.some.injEq, exists_eq_left', decide_eq_true_eq, true_and, and_true, cup_same, cup_cup, List.flatten_nil, List.flatten_cons, enOf, endOf, excOf, List.map_cons, List.map_nil, List.length_cons, List.length_nil, List.replicate, Nat.reduceAdd, Nat.reduceSub, List.cons_append, List.nil_append, List.set_cons_zero, List.set_cons_succ, List.getElem?_cons_zero, List.getElem?_cons_succ, List.getElem_cons_zero, List.getElem_cons_succ, reduceCtorEq, if_true, if_false, Bool.false_eq_true, decide_true, decide_false, ne_eq, not_true, not_false_eq_true, Int.reduceEq, Nat.reduceMul, true_imp_iff, Int.reduceToNat, Int.reducePow, Nat.reducePow, Int.reduceLE, Int.reduceLT, Nat.reduceLT, and_self, Nat.reduceLeDiff, Int.reduceNeg, Int.reduceAdd, Int.reduceSub, Int.reduceMul, Int.cast_ofNat_Int]
  intro p1 hp1 p2 hp2
  have hne : p2 ≠ p1 := fun e => by rw [e, cup_same] at hp2; cases hp2
  rw [cup_ne hne] at hp2
  have h12 : ∀ (c : Cs) x, cup c p2 x p1 = c p1 := fun _ _ => cup_ne (Ne.symm hne)
  have h21 : ∀ (c : Cs) x, cup c p1 x p2 = c p2 := fun _ _ => cup_ne hne
  have ei : ixN (w.2.map D.int).length (i : Int) = some i := by rw [List.length_map, ixN_of (by omega) (by omega), Int.toNat_natCast]
  have ej : ixN (w.1.map gD).length (j : Int) = some j := by rw [List.length_map, ixN_of (by omega) (by omega), Int.toNat_natCast]
  have done : ∀ {gs : List Gn} {xs : List Int} {pl : Option (Nat × Bool)} {t : Int} {c' : Cs} {A B : List D}, CLe c c' → cameW w i j = ((gs, xs), pl, t) → gs.map gD = A → xs.map .int = B → ∃ c0, CLe c0 c' ∧ Q (.tup [.tup [.tup A, .tup B], placeD pl, .int t]) c0 := fun hc hcw ea eb => by
    have := q _ hc
    rw [hcw] at this
    subst ea eb
    exact ⟨_, CLe.refl _, this⟩
  obtain ⟨hg1, hg2, hg3, hg4⟩ := hg
  cases hgr : granAt w j with | mk l u =>
  cases l with
  | none =>
    cases u with
    | none => rw [hgr] at hg4; simp at hg4
    | some u =>
      simp only [sRaise, sTry, wIsX, wWhat, wBack, lo_lst, e_mulV, sizeL, sNil, sSeq, sPass, sBrk, sCont, sExpr, sRet, sRetN, sIf, sNever, sSet, sAug, gNm, gTp, gNil', gCons', gSb, sAsg, sPar, sFor, wVar_z, wVar_s, wC, wChn, wTru, sPar3, wRev, wCallK, permF, List.filterMap_cons, List.filterMap_nil, wBin, wUn, wTst, wNot, wAnd, wOr, wAndV, wOrV, wNotV, wIf, wNil, wCons, wTup, wLst, wLstL, wFz, wCall, wBi, wMt, wMt0, wSl, wSlL, wPart, wNoPart, wYes, wSeq, wRg1, wRg2, wEnum, wZip, wLc, wLcL, wLRg, wFld, sFldS, sFldA, gFld, wMeth, wMake, lvl2_s, onB, e_eqI, e_neI, e_eqB, e_neB, e_eqS, e_neS, e_eqN, e_tyLT, e_ty1, isTys, tyMem, tyN_non, tyN_bl, tyN_int, tyN_str, tyN_tup, tyN_lst, Bool.true_or, Bool.or_true, Bool.or_false, Bool.false_or, Bool.not_true, Bool.not_false, inn_non, inn_bl, inn_int, inn_str, inn_tup, inn_lst, inn_ptr, e_slT, e_slL, e_slN, isT_P, isT_L, isT_T, isT_N, e_sub, e_fdiv, e_mod, e_pow, e_lt, e_le, e_gt, e_ge, e_neg, e_add, e_addS, e_addT, e_addL, e_addPP, e_addPL, e_addLP, e_mul, e_mulL, e_mulT, e_augI, e_ixT, e_ixL, e_ixN, e_ixP, e_lenT, e_lenL, e_lenN, e_lenS, e_lenP, e_abs, e_intI, e_intB, e_max, e_min, e_tupL, e_tupT, e_listL, e_listT, e_listN, e_listLL, e_listLT, e_divmod, e_isNon, e_isntNon, e_isB, e_isntB, e_setIx, e_insert, e_append, e_isL, e_isLL, e_seqP, e_seqL, e_seqT, e_seqN, it_lst, it_fz, Option.bind_some, Option.isSome_some, ix10, ix20, ix21, ix30, ix32, dl1, dl2, dl3, List.eraseIdx_cons_zero, e_pop0, e_popAt, e_rev, e_clear, e_tupP, e_listP, e_neN, e_neIN, e_neNI, e_eqIN, e_eqNI, at0, at1, at2, at3, Cell.lst.injEq, Cell.obj.injEq, Option.some.injEq, exists_eq_left', decide_eq_true_eq, true_and, and_true, cup_same, cup_cup, List.flatten_nil, List.flatten_cons, enOf, endOf, excOf, List.map_cons, List.map_nil, List.length_cons, List.length_nil, List.replicate, Nat.reduceAdd, Nat.reduceSub, List.cons_append, List.nil_append, List.set_cons_zero, List.set_cons_succ, List.getElem?_cons_zero, List.getElem?_cons_succ, List.getElem_cons_zero, List.getElem_cons_succ, reduceCtorEq, if_true, if_false, Bool.false_eq_true, decide_true, decide_false, ne_eq, not_true, not_false_eq_true, Int.reduceEq, Nat.reduceMul, true_imp_iff, Int.reduceToNat, Int.reducePow, Nat.reducePow, Int.reduceLE, Int.reduceLT, Nat.reduceLT, and_self, Nat.reduceLeDiff, Int.reduceNeg, Int.reduceAdd, Int.reduceSub, Int.reduceMul, Int.cast_ofNat_Int, h12, h21, at_gran hj, hgr, at_load hi, gD, oD, lcW, bindT, ewipe, ei, ej]
      refine e_srtL (ns := [loadAt w i, u]) fun p3 hp3 => ?_
      have n32 : p3 ≠ p2 := fun e => by rw [e, cup_same] at hp3; cases hp3
      have n31 : p3 ≠ p1 := fun e => by rw [e, h12, cup_same] at hp3; cases hp3
      have hp3c : c p3 = none := by rw [cup_ne n32, cup_ne n31] at hp3; exact hp3
      have h13 : ∀ (c : Cs) x, cup c p3 x p1 = c p1 := fun _ _ => cup_ne (Ne.symm n31)
      have h23 : ∀ (c : Cs) x, cup c p3 x p2 = c p2 := fun _ _ => cup_ne (Ne.symm n32)
      have h31 : ∀ (c : Cs) x, cup c p1 x p3 = c p3 := fun _ _ => cup_ne n31
      have h32 : ∀ (c : Cs) x, cup c p2 x p3 = c p3 := fun _ _ => cup_ne n32
      have cle : ∀ {y1 y2 y3 y4 y5 : Cell}, CLe c (cup (cup (cup (cup (cup c p1 y1) p2 y2) p3 y3) p1 y4) p2 y5) := fun a x e => by
        have a1 : a ≠ p1 := fun z => by rw [z, hp1] at e; cases e
        have a2 : a ≠ p2 := fun z => by rw [z, hp2] at e; cases e
        have a3 : a ≠ p3 := fun z => by rw [z, hp3c] at e; cases e
        rw [cup_ne a2, cup_ne a1, cup_ne a3, cup_ne a2, cup_ne a1]
        exact e
      rcases Int.lt_or_le u (loadAt w i) with h | h
      · rw [(srt2 (Int.le_of_lt h)).2]
        simp only [sRaise, sTry, wIsX, wWhat, wBack, lo_lst, e_mulV, sizeL, sNil, sSeq, sPass, sBrk, sCont, sExpr, sRet, sRetN, sIf, sNever, sSet, sAug, gNm, gTp, gNil', gCons', gSb, sAsg, sPar, sFor, wVar_z, wVar_s, wC, wChn, wTru, sPar3, wRev, wCallK, permF, List.filterMap_cons, List.filterMap_nil, wBin, wUn, wTst, wNot, wAnd, wOr, wAndV, wOrV, wNotV, wIf, wNil, wCons, wTup, wLst, wLstL, wFz, wCall, wBi, wMt, wMt0, wSl, wSlL, wPart, wNoPart, wYes, wSeq, wRg1, wRg2, wEnum, wZip, wLc, wLcL, wLRg, wFld, sFldS, sFldA, gFld, wMeth, wMake, lvl2_s, onB, e_eqI, e_neI, e_eqB, e_neB, e_eqS, e_neS, e_eqN, e_tyLT, e_ty1, isTys, tyMem, tyN_non, tyN_bl, tyN_int, tyN_str, tyN_tup, tyN_lst, Bool.true_or, Bool.or_true, Bool.or_false, Bool.false_or, Bool.not_true, Bool.not_false, inn_non, inn_bl, inn_int, inn_str, inn_tup, inn_lst, inn_ptr, e_slT, e_slL, e_slN, isT_P, isT_L, isT_T, isT_N, e_sub, e_fdiv, e_mod, e_pow, e_lt, e_le, e_gt, e_ge, e_neg, e_add, e_addS, e_addT, e_addL, e_addPP, e_addPL, e_addLP, e_mul, e_mulL, e_mulT, e_augI, e_ixT, e_ixL, e_ixN, e_ixP, e_lenT, e_lenL, e_lenN, e_lenS, e_lenP, e_abs, e_intI, e_intB, e_max, e_min, e_tupL, e_tupT, e_listL, e_listT, e_listN, e_listLL, e_listLT, e_divmod, e_isNon, e_isntNon, e_isB, e_isntB, e_setIx, e_insert, e_append, e_isL, e_isLL, e_seqP, e_seqL, e_seqT, e_seqN, it_lst, it_fz, Option.bind_some, Option.isSome_some, ix10, ix20, ix21, ix30, ix32, dl1, dl2, dl3, List.eraseIdx_cons_zero, e_pop0, e_popAt, e_rev, e_clear, e_tupP, e_listP, e_neN, e_neIN, e_neNI, e_eqIN, e_eqNI, at0, at1, at2, at3, Cell.lst.injEq, Cell.obj.injEq, Option.some.injEq, exists_eq_left', decide_eq_true_eq, true_and, and_true, cup_same, cup_cup, List.flatten_nil, List.flatten_cons, enOf, endOf, excOf, List.map_cons, List.map_nil, List.length_cons, List.length_nil, List.replicate, Nat.reduceAdd, Nat.reduceSub, List.cons_append, List.nil_append, List.set_cons_zero, List.set_cons_succ, List.getElem?_cons_zero, List.getElem?_cons_succ, List.getElem_cons_zero, List.getElem_cons_succ, reduceCtorEq, if_true, if_false, Bool.false_eq_true, decide_true, decide_false, ne_eq, not_true, not_false_eq_true, Int.reduceEq, Nat.reduceMul, true_imp_iff, Int.reduceToNat, Int.reducePow, Nat.reducePow, Int.reduceLE, Int.reduceLT, Nat.reduceLT, and_self, Nat.reduceLeDiff, Int.reduceNeg, Int.reduceAdd, Int.reduceSub, Int.reduceMul, Int.cast_ofNat_Int, h12, h21, h13, h23, h31, h32, ei, ej, at_load hi]
        have e1 : (if u - loadAt w i < 0 then -(u - loadAt w i) else u - loadAt w i) = loadAt w i - u := by rw [if_pos (by omega)]; omega
        simp only [e1]
        rw [if_pos (show 0 < loadAt w i - u by omega)]
        exact done cle (came_high hj hgr rfl h (fun y e => by cases e) hi) (List.map_set ..) (List.map_set ..)
      · rw [(srt2 h).1]
        simp only [sRaise, sTry, wIsX, wWhat, wBack, lo_lst, e_mulV, sizeL, sNil, sSeq, sPass, sBrk, sCont, sExpr, sRet, sRetN, sIf, sNever, sSet, sAug, gNm, gTp, gNil', gCons', gSb, sAsg, sPar, sFor, wVar_z, wVar_s, wC, wChn, wTru, sPar3, wRev, wCallK, permF, List.filterMap_cons, List.filterMap_nil, wBin, wUn, wTst, wNot, wAnd, wOr, wAndV, wOrV, wNotV, wIf, wNil, wCons, wTup, wLst, wLstL, wFz, wCall, wBi, wMt, wMt0, wSl, wSlL, wPart, wNoPart, wYes, wSeq, wRg1, wRg2, wEnum, wZip, wLc, wLcL, wLRg, wFld, sFldS, sFldA, gFld, wMeth, wMake, lvl2_s, onB, e_eqI, e_neI, e_eqB, e_neB, e_eqS, e_neS, e_eqN, e_tyLT, e_ty1, isTys, tyMem, tyN_non, tyN_bl, tyN_int, tyN_str, tyN_tup, tyN_lst, Bool.true_or, Bool.or_true, Bool.or_false, Bool.false_or, Bool.not_true, Bool.not_false, inn_non, inn_bl, inn_int, inn_str, inn_tup, inn_lst, inn_ptr, e_slT, e_slL, e_slN, isT_P, isT_L, isT_T, isT_N, e_sub, e_fdiv, e_mod, e_pow, e_lt, e_le, e_gt, e_ge, e_neg, e_add, e_addS, e_addT, e_addL, e_addPP, e_addPL, e_addLP, e_mul, e_mulL, e_mulT, e_augI, e_ixT, e_ixL, e_ixN, e_ixP, e_lenT, e_lenL, e_lenN, e_lenS, e_lenP, e_abs, e_intI, e_intB, e_max, e_min, e_tupL, e_tupT, e_listL, e_listT, e_listN, e_listLL, e_listLT, e_divmod, e_isNon, e_isntNon, e_isB, e_isntB, e_setIx, e_insert, e_append, e_isL, e_isLL, e_seqP, e_seqL, e_seqT, e_seqN, it_lst, it_fz, Option.bind_some, Option.isSome_some, ix10, ix20, ix21, ix30, ix32, dl1, dl2, dl3, List.eraseIdx_cons_zero, e_pop0, e_popAt, e_rev, e_clear, e_tupP, e_listP, e_neN, e_neIN, e_neNI, e_eqIN, e_eqNI, at0, at1, at2, at3, Cell.lst.injEq, Cell.obj.injEq, Option.some.injEq, exists_eq_left', decide_eq_true_eq, true_and, and_true, cup_same, cup_cup, List.flatten_nil, List.flatten_cons, enOf, endOf, excOf, List.map_cons, List.map_nil, List.length_cons, List.length_nil, List.replicate, Nat.reduceAdd, Nat.reduceSub, List.cons_append, List.nil_append, List.set_cons_zero, List.set_cons_succ, List.getElem?_cons_zero, List.getElem?_cons_succ, List.getElem_cons_zero, List.getElem_cons_succ, reduceCtorEq, if_true, if_false, Bool.false_eq_true, decide_true, decide_false, ne_eq, not_true, not_false_eq_true, Int.reduceEq, Nat.reduceMul, true_imp_iff, Int.reduceToNat, Int.reducePow, Nat.reducePow, Int.reduceLE, Int.reduceLT, Nat.reduceLT, and_self, Nat.reduceLeDiff, Int.reduceNeg, Int.reduceAdd, Int.reduceSub, Int.reduceMul, Int.cast_ofNat_Int, h12, h21, h13, h23, h31, h32, ei, ej, at_load hi]
        have e1 : (if loadAt w i - loadAt w i < 0 then -(loadAt w i - loadAt w i) else loadAt w i - loadAt w i) = 0 := by rw [Int.sub_self, if_neg (by omega)]
        simp only [e1]
        rw [if_neg (show ¬ (0 : Int) < 0 by omega)]
        exact done cle (came_not hgr rfl (fun y e => by cases e) (fun y e => by cases e; exact h)) (by (conv => lhs; rw [← set_gran hj, List.map_set, hgr]); rfl) (by conv => lhs; rw [← set_load hi, List.map_set])
  | some l =>
    cases u with
    | none =>
      simp only [sRaise, sTry, wIsX, wWhat, wBack, lo_lst, e_mulV, sizeL, sNil, sSeq, sPass, sBrk, sCont, sExpr, sRet, sRetN, sIf, sNever, sSet, sAug, gNm, gTp, gNil', gCons', gSb, sAsg, sPar, sFor, wVar_z, wVar_s, wC, wChn, wTru, sPar3, wRev, wCallK, permF, List.filterMap_cons, List.filterMap_nil, wBin, wUn, wTst, wNot, wAnd, wOr, wAndV, wOrV, wNotV, wIf, wNil, wCons, wTup, wLst, wLstL, wFz, wCall, wBi, wMt, wMt0, wSl, wSlL, wPart, wNoPart, wYes, wSeq, wRg1, wRg2, wEnum, wZip, wLc, wLcL, wLRg, wFld, sFldS, sFldA, gFld, wMeth, wMake, lvl2_s, onB, e_eqI, e_neI, e_eqB, e_neB, e_eqS, e_neS, e_eqN, e_tyLT, e_ty1, isTys, tyMem, tyN_non, tyN_bl, tyN_int, tyN_str, tyN_tup, tyN_lst, Bool.true_or, Bool.or_true, Bool.or_false, Bool.false_or, Bool.not_true, Bool.not_false, inn_non, inn_bl, inn_int, inn_str, inn_tup, inn_lst, inn_ptr, e_slT, e_slL, e_slN, isT_P, isT_L, isT_T, isT_N, e_sub, e_fdiv, e_mod, e_pow, e_lt, e_le, e_gt, e_ge, e_neg, e_add, e_addS, e_addT, e_addL, e_addPP, e_addPL, e_addLP, e_mul, e_mulL, e_mulT, e_augI, e_ixT, e_ixL, e_ixN, e_ixP, e_lenT, e_lenL, e_lenN, e_lenS, e_lenP, e_abs, e_intI, e_intB, e_max, e_min, e_tupL, e_tupT, e_listL, e_listT, e_listN, e_listLL, e_listLT, e_divmod, e_isNon, e_isntNon, e_isB, e_isntB, e_setIx, e_insert, e_append, e_isL, e_isLL, e_seqP, e_seqL, e_seqT, e_seqN, it_lst, it_fz, Option.bind_some, Option.isSome_some, ix10, ix20, ix21, ix30, ix32, dl1, dl2, dl3, List.eraseIdx_cons_zero, e_pop0, e_popAt, e_rev, e_clear, e_tupP, e_listP, e_neN, e_neIN, e_neNI, e_eqIN, e_eqNI, at0, at1, at2, at3, Cell.lst.injEq, Cell.obj.injEq, Option.some.injEq, exists_eq_left', decide_eq_true_eq, true_and, and_true, cup_same, cup_cup, List.flatten_nil, List.flatten_cons, enOf, endOf, excOf, List.map_cons, List.map_nil, List.length_cons, List.length_nil, List.replicate, Nat.reduceAdd, Nat.reduceSub, List.cons_append, List.nil_append, List.set_cons_zero, List.set_cons_succ, List.getElem?_cons_zero, List.getElem?_cons_succ, List.getElem_cons_zero, List.getElem_cons_succ, reduceCtorEq, if_true, if_false, Bool.false_eq_true, decide_true, decide_false, ne_eq, not_true, not_false_eq_true, Int.reduceEq, Nat.reduceMul, true_imp_iff, Int.reduceToNat, Int.reducePow, Nat.reducePow, Int.reduceLE, Int.reduceLT, Nat.reduceLT, and_self, Nat.reduceLeDiff, Int.reduceNeg, Int.reduceAdd, Int.reduceSub, Int.reduceMul, Int.cast_ofNat_Int, h12, h21, at_gran hj, hgr, at_load hi, gD, oD, lcW, bindT, ewipe, ei, ej]
      refine e_srtL (ns := [l, loadAt w i]) fun p3 hp3 => ?_
      have n32 : p3 ≠ p2 := fun e => by rw [e, cup_same] at hp3; cases hp3
      have n31 : p3 ≠ p1 := fun e => by rw [e, h12, cup_same] at hp3; cases hp3
      have hp3c : c p3 = none := by rw [cup_ne n32, cup_ne n31] at hp3; exact hp3
      have h13 : ∀ (c : Cs) x, cup c p3 x p1 = c p1 := fun _ _ => cup_ne (Ne.symm n31)
      have h23 : ∀ (c : Cs) x, cup c p3 x p2 = c p2 := fun _ _ => cup_ne (Ne.symm n32)
      have h31 : ∀ (c : Cs) x, cup c p1 x p3 = c p3 := fun _ _ => cup_ne n31
      have h32 : ∀ (c : Cs) x, cup c p2 x p3 = c p3 := fun _ _ => cup_ne n32
      have cle : ∀ {y1 y2 y3 y4 y5 : Cell}, CLe c (cup (cup (cup (cup (cup c p1 y1) p2 y2) p3 y3) p1 y4) p2 y5) := fun a x e => by
        have a1 : a ≠ p1 := fun z => by rw [z, hp1] at e; cases e
        have a2 : a ≠ p2 := fun z => by rw [z, hp2] at e; cases e
        have a3 : a ≠ p3 := fun z => by rw [z, hp3c] at e; cases e
        rw [cup_ne a2, cup_ne a1, cup_ne a3, cup_ne a2, cup_ne a1]
        exact e
      rcases Int.lt_or_le (loadAt w i) l with h | h
      · rw [(srt2 (Int.le_of_lt h)).2]
        simp only [sRaise, sTry, wIsX, wWhat, wBack, lo_lst, e_mulV, sizeL, sNil, sSeq, sPass, sBrk, sCont, sExpr, sRet, sRetN, sIf, sNever, sSet, sAug, gNm, gTp, gNil', gCons', gSb, sAsg, sPar, sFor, wVar_z, wVar_s, wC, wChn, wTru, sPar3, wRev, wCallK, permF, List.filterMap_cons, List.filterMap_nil, wBin, wUn, wTst, wNot, wAnd, wOr, wAndV, wOrV, wNotV, wIf, wNil, wCons, wTup, wLst, wLstL, wFz, wCall, wBi, wMt, wMt0, wSl, wSlL, wPart, wNoPart, wYes, wSeq, wRg1, wRg2, wEnum, wZip, wLc, wLcL, wLRg, wFld, sFldS, sFldA, gFld, wMeth, wMake, lvl2_s, onB, e_eqI, e_neI, e_eqB, e_neB, e_eqS, e_neS, e_eqN, e_tyLT, e_ty1, isTys, tyMem, tyN_non, tyN_bl, tyN_int, tyN_str, tyN_tup, tyN_lst, Bool.true_or, Bool.or_true, Bool.or_false, Bool.false_or, Bool.not_true, Bool.not_false, inn_non, inn_bl, inn_int, inn_str, inn_tup, inn_lst, inn_ptr, e_slT, e_slL, e_slN, isT_P, isT_L, isT_T, isT_N, e_sub, e_fdiv, e_mod, e_pow, e_lt, e_le, e_gt, e_ge, e_neg, e_add, e_addS, e_addT, e_addL, e_addPP, e_addPL, e_addLP, e_mul, e_mulL, e_mulT, e_augI, e_ixT, e_ixL, e_ixN, e_ixP, e_lenT, e_lenL, e_lenN, e_lenS, e_lenP, e_abs, e_intI, e_intB, e_max, e_min, e_tupL, e_tupT, e_listL, e_listT, e_listN, e_listLL, e_listLT, e_divmod, e_isNon, e_isntNon, e_isB, e_isntB, e_setIx, e_insert, e_append, e_isL, e_isLL, e_seqP, e_seqL, e_seqT, e_seqN, it_lst, it_fz, Option.bind_some, Option.isSome_some, ix10, ix20, ix21, ix30, ix32, dl1, dl2, dl3, List.eraseIdx_cons_zero, e_pop0, e_popAt, e_rev, e_clear, e_tupP, e_listP, e_neN, e_neIN, e_neNI, e_eqIN, e_eqNI, at0, at1, at2, at3, Cell.lst.injEq, Cell.obj.injEq, Option.some.injEq, exists_eq_left', decide_eq_true_eq, true_and, and_true, cup_same, cup_cup, List.flatten_nil, List.flatten_cons, enOf, endOf, excOf, List.map_cons, List.map_nil, List.length_cons, List.length_nil, List.replicate, Nat.reduceAdd, Nat.reduceSub, List.cons_append, List.nil_append, List.set_cons_zero, List.set_cons_succ, List.getElem?_cons_zero, List.getElem?_cons_succ, List.getElem_cons_zero, List.getElem_cons_succ, reduceCtorEq, if_true, if_false, Bool.false_eq_true, decide_true, decide_false, ne_eq, not_true, not_false_eq_true, Int.reduceEq, Nat.reduceMul, true_imp_iff, Int.reduceToNat, Int.reducePow, Nat.reducePow, Int.reduceLE, Int.reduceLT, Nat.reduceLT, and_self, Nat.reduceLeDiff, Int.reduceNeg, Int.reduceAdd, Int.reduceSub, Int.reduceMul, Int.cast_ofNat_Int, h12, h21, h13, h23, h31, h32, ei, ej, at_load hi]
        have e1 : (if l - loadAt w i < 0 then -(l - loadAt w i) else l - loadAt w i) = l - loadAt w i := if_neg (by omega)
        simp only [e1]
        rw [if_pos (show 0 < l - loadAt w i by omega), if_pos (show ¬ loadAt w i = l by omega)]
        exact done cle (came_low hj hgr rfl h hi) (List.map_set ..) (List.map_set ..)
      · rw [(srt2 h).1]
        simp only [sRaise, sTry, wIsX, wWhat, wBack, lo_lst, e_mulV, sizeL, sNil, sSeq, sPass, sBrk, sCont, sExpr, sRet, sRetN, sIf, sNever, sSet, sAug, gNm, gTp, gNil', gCons', gSb, sAsg, sPar, sFor, wVar_z, wVar_s, wC, wChn, wTru, sPar3, wRev, wCallK, permF, List.filterMap_cons, List.filterMap_nil, wBin, wUn, wTst, wNot, wAnd, wOr, wAndV, wOrV, wNotV, wIf, wNil, wCons, wTup, wLst, wLstL, wFz, wCall, wBi, wMt, wMt0, wSl, wSlL, wPart, wNoPart, wYes, wSeq, wRg1, wRg2, wEnum, wZip, wLc, wLcL, wLRg, wFld, sFldS, sFldA, gFld, wMeth, wMake, lvl2_s, onB, e_eqI, e_neI, e_eqB, e_neB, e_eqS, e_neS, e_eqN, e_tyLT, e_ty1, isTys, tyMem, tyN_non, tyN_bl, tyN_int, tyN_str, tyN_tup, tyN_lst, Bool.true_or, Bool.or_true, Bool.or_false, Bool.false_or, Bool.not_true, Bool.not_false, inn_non, inn_bl, inn_int, inn_str, inn_tup, inn_lst, inn_ptr, e_slT, e_slL, e_slN, isT_P, isT_L, isT_T, isT_N, e_sub, e_fdiv, e_mod, e_pow, e_lt, e_le, e_gt, e_ge, e_neg, e_add, e_addS, e_addT, e_addL, e_addPP, e_addPL, e_addLP, e_mul, e_mulL, e_mulT, e_augI, e_ixT, e_ixL, e_ixN, e_ixP, e_lenT, e_lenL, e_lenN, e_lenS, e_lenP, e_abs, e_intI, e_intB, e_max, e_min, e_tupL, e_tupT, e_listL, e_listT, e_listN, e_listLL, e_listLT, e_divmod, e_isNon, e_isntNon, e_isB, e_isntB, e_setIx, e_insert, e_append, e_isL, e_isLL, e_seqP, e_seqL, e_seqT, e_seqN, it_lst, it_fz, Option.bind_some, Option.isSome_some, ix10, ix20, ix21, ix30, ix32, dl1, dl2, dl3, List.eraseIdx_cons_zero, e_pop0, e_popAt, e_rev, e_clear, e_tupP, e_listP, e_neN, e_neIN, e_neNI, e_eqIN, e_eqNI, at0, at1, at2, at3, Cell.lst.injEq, Cell.obj.injEq, Option.some.injEq, exists_eq_left', decide_eq_true_eq, true_and, and_true, cup_same, cup_cup, List.flatten_nil, List.flatten_cons, enOf, endOf, excOf, List.map_cons, List.map_nil, List.length_cons, List.length_nil, List.replicate, Nat.reduceAdd, Nat.reduceSub, List.cons_append, List.nil_append, List.set_cons_zero, List.set_cons_succ, List.getElem?_cons_zero, List.getElem?_cons_succ, List.getElem_cons_zero, List.getElem_cons_succ, reduceCtorEq, if_true, if_false, Bool.false_eq_true, decide_true, decide_false, ne_eq, not_true, not_false_eq_true, Int.reduceEq, Nat.reduceMul, true_imp_iff, Int.reduceToNat, Int.reducePow, Nat.reducePow, Int.reduceLE, Int.reduceLT, Nat.reduceLT, and_self, Nat.reduceLeDiff, Int.reduceNeg, Int.reduceAdd, Int.reduceSub, Int.reduceMul, Int.cast_ofNat_Int, h12, h21, h13, h23, h31, h32, ei, ej, at_load hi]
        have e1 : (if loadAt w i - loadAt w i < 0 then -(loadAt w i - loadAt w i) else loadAt w i - loadAt w i) = 0 := by rw [Int.sub_self, if_neg (by omega)]
        simp only [e1]
        rw [if_neg (show ¬ (0 : Int) < 0 by omega)]
        exact done cle (came_not hgr rfl (fun y e => by cases e; exact h) (fun y e => by cases e)) (by (conv => lhs; rw [← set_gran hj, List.map_set, hgr]); rfl) (by conv => lhs; rw [← set_load hi, List.map_set])
    | some u =>
      have hlu : l ≤ u := hg3 l u (by rw [hgr]) (by rw [hgr])
      simp only [sRaise, sTry, wIsX, wWhat, wBack, lo_lst, e_mulV, sizeL, sNil, sSeq, sPass, sBrk, sCont, sExpr, sRet, sRetN, sIf, sNever, sSet, sAug, gNm, gTp, gNil', gCons', gSb, sAsg, sPar, sFor, wVar_z, wVar_s, wC, wChn, wTru, sPar3, wRev, wCallK, permF, List.filterMap_cons, List.filterMap_nil, wBin, wUn, wTst, wNot, wAnd, wOr, wAndV, wOrV, wNotV, wIf, wNil, wCons, wTup, wLst, wLstL, wFz, wCall, wBi, wMt, wMt0, wSl, wSlL, wPart, wNoPart, wYes, wSeq, wRg1, wRg2, wEnum, wZip, wLc, wLcL, wLRg, wFld, sFldS, sFldA, gFld, wMeth, wMake, lvl2_s, onB, e_eqI, e_neI, e_eqB, e_neB, e_eqS, e_neS, e_eqN, e_tyLT, e_ty1, isTys, tyMem, tyN_non, tyN_bl, tyN_int, tyN_str, tyN_tup, tyN_lst, Bool.true_or, Bool.or_true, Bool.or_false, Bool.false_or, Bool.not_true, Bool.not_false, inn_non, inn_bl, inn_int, inn_str, inn_tup, inn_lst, inn_ptr, e_slT, e_slL, e_slN, isT_P, isT_L, isT_T, isT_N, e_sub, e_fdiv, e_mod, e_pow, e_lt, e_le, e_gt, e_ge, e_neg, e_add, e_addS, e_addT, e_addL, e_addPP, e_addPL, e_addLP, e_mul, e_mulL, e_mulT, e_augI, e_ixT, e_ixL, e_ixN, e_ixP, e_lenT, e_lenL, e_lenN, e_lenS, e_lenP, e_abs, e_intI, e_intB, e_max, e_min, e_tupL, e_tupT, e_listL, e_listT, e_listN, e_listLL, e_listLT, e_divmod, e_isNon, e_isntNon, e_isB, e_isntB, e_setIx, e_insert, e_append, e_isL, e_isLL, e_seqP, e_seqL, e_seqT, e_seqN, it_lst, it_fz, Option.bind_some, Option.isSome_some, ix10, ix20, ix21, ix30, ix32, dl1, dl2, dl3, List.eraseIdx_cons_zero, e_pop0, e_popAt, e_rev, e_clear, e_tupP, e_listP, e_neN, e_neIN, e_neNI, e_eqIN, e_eqNI, at0, at1, at2, at3, Cell.lst.injEq, Cell.obj.injEq, Option.some.injEq, exists_eq_left', decide_eq_true_eq, true_and, and_true, cup_same, cup_cup, List.flatten_nil, List.flatten_cons, enOf, endOf, excOf, List.map_cons, List.map_nil, List.length_cons, List.length_nil, List.replicate, Nat.reduceAdd, Nat.reduceSub, List.cons_append, List.nil_append, List.set_cons_zero, List.set_cons_succ, List.getElem?_cons_zero, List.getElem?_cons_succ, List.getElem_cons_zero, List.getElem_cons_succ, reduceCtorEq, if_true, if_false, Bool.false_eq_true, decide_true, decide_false, ne_eq, not_true, not_false_eq_true, Int.reduceEq, Nat.reduceMul, true_imp_iff, Int.reduceToNat, Int.reducePow, Nat.reducePow, Int.reduceLE, Int.reduceLT, Nat.reduceLT, and_self, Nat.reduceLeDiff, Int.reduceNeg, Int.reduceAdd, Int.reduceSub, Int.reduceMul, Int.cast_ofNat_Int, h12, h21, at_gran hj, hgr, at_load hi, gD, oD, lcW, bindT, ewipe, ei, ej]
      refine e_srtL (ns := [l, loadAt w i, u]) fun p3 hp3 => ?_
      have n32 : p3 ≠ p2 := fun e => by rw [e, cup_same] at hp3; cases hp3
      have n31 : p3 ≠ p1 := fun e => by rw [e, h12, cup_same] at hp3; cases hp3
      have hp3c : c p3 = none := by rw [cup_ne n32, cup_ne n31] at hp3; exact hp3
      have h13 : ∀ (c : Cs) x, cup c p3 x p1 = c p1 := fun _ _ => cup_ne (Ne.symm n31)
      have h23 : ∀ (c : Cs) x, cup c p3 x p2 = c p2 := fun _ _ => cup_ne (Ne.symm n32)
      have h31 : ∀ (c : Cs) x, cup c p1 x p3 = c p3 := fun _ _ => cup_ne n31
      have h32 : ∀ (c : Cs) x, cup c p2 x p3 = c p3 := fun _ _ => cup_ne n32
      have cle : ∀ {y1 y2 y3 y4 y5 : Cell}, CLe c (cup (cup (cup (cup (cup c p1 y1) p2 y2) p3 y3) p1 y4) p2 y5) := fun a x e => by
        have a1 : a ≠ p1 := fun z => by rw [z, hp1] at e; cases e
        have a2 : a ≠ p2 := fun z => by rw [z, hp2] at e; cases e
        have a3 : a ≠ p3 := fun z => by rw [z, hp3c] at e; cases e
        rw [cup_ne a2, cup_ne a1, cup_ne a3, cup_ne a2, cup_ne a1]
        exact e
      rcases Int.lt_or_le (loadAt w i) l with h | h
      · rw [srt3 (Int.le_of_lt h) hlu (List.Perm.swap ..)]
        simp only [sRaise, sTry, wIsX, wWhat, wBack, lo_lst, e_mulV, sizeL, sNil, sSeq, sPass, sBrk, sCont, sExpr, sRet, sRetN, sIf, sNever, sSet, sAug, gNm, gTp, gNil', gCons', gSb, sAsg, sPar, sFor, wVar_z, wVar_s, wC, wChn, wTru, sPar3, wRev, wCallK, permF, List.filterMap_cons, List.filterMap_nil, wBin, wUn, wTst, wNot, wAnd, wOr, wAndV, wOrV, wNotV, wIf, wNil, wCons, wTup, wLst, wLstL, wFz, wCall, wBi, wMt, wMt0, wSl, wSlL, wPart, wNoPart, wYes, wSeq, wRg1, wRg2, wEnum, wZip, wLc, wLcL, wLRg, wFld, sFldS, sFldA, gFld, wMeth, wMake, lvl2_s, onB, e_eqI, e_neI, e_eqB, e_neB, e_eqS, e_neS, e_eqN, e_tyLT, e_ty1, isTys, tyMem, tyN_non, tyN_bl, tyN_int, tyN_str, tyN_tup, tyN_lst, Bool.true_or, Bool.or_true, Bool.or_false, Bool.false_or, Bool.not_true, Bool.not_false, inn_non, inn_bl, inn_int, inn_str, inn_tup, inn_lst, inn_ptr, e_slT, e_slL, e_slN, isT_P, isT_L, isT_T, isT_N, e_sub, e_fdiv, e_mod, e_pow, e_lt, e_le, e_gt, e_ge, e_neg, e_add, e_addS, e_addT, e_addL, e_addPP, e_addPL, e_addLP, e_mul, e_mulL, e_mulT, e_augI, e_ixT, e_ixL, e_ixN, e_ixP, e_lenT, e_lenL, e_lenN, e_lenS, e_lenP, e_abs, e_intI, e_intB, e_max, e_min, e_tupL, e_tupT, e_listL, e_listT, e_listN, e_listLL, e_listLT, e_divmod, e_isNon, e_isntNon, e_isB, e_isntB, e_setIx, e_insert, e_append, e_isL, e_isLL, e_seqP, e_seqL, e_seqT, e_seqN, it_lst, it_fz, Option.bind_some, Option.isSome_some, ix10, ix20, ix21, ix30, ix32, dl1, dl2, dl3, List.eraseIdx_cons_zero, e_pop0, e_popAt, e_rev, e_clear, e_tupP, e_listP, e_neN, e_neIN, e_neNI, e_eqIN, e_eqNI, at0, at1, at2, at3, Cell.lst.injEq, Cell.obj.injEq, Option.some.injEq, exists_eq_left', decide_eq_true_eq, true_and, and_true, cup_same, cup_cup, List.flatten_nil, List.flatten_cons, enOf, endOf, excOf, List.map_cons, List.map_nil, List.length_cons, List.length_nil, List.replicate, Nat.reduceAdd, Nat.reduceSub, List.cons_append, List.nil_append, List.set_cons_zero, List.set_cons_succ, List.getElem?_cons_zero, List.getElem?_cons_succ, List.getElem_cons_zero, List.getElem_cons_succ, reduceCtorEq, if_true, if_false, Bool.false_eq_true, decide_true, decide_false, ne_eq, not_true, not_false_eq_true, Int.reduceEq, Nat.reduceMul, true_imp_iff, Int.reduceToNat, Int.reducePow, Nat.reducePow, Int.reduceLE, Int.reduceLT, Nat.reduceLT, and_self, Nat.reduceLeDiff, Int.reduceNeg, Int.reduceAdd, Int.reduceSub, Int.reduceMul, Int.cast_ofNat_Int, h12, h21, h13, h23, h31, h32, ei, ej, at_load hi]
        have e1 : (if l - loadAt w i < 0 then -(l - loadAt w i) else l - loadAt w i) = l - loadAt w i := if_neg (by omega)
        simp only [e1]
        rw [if_pos (show 0 < l - loadAt w i by omega), if_pos (show ¬ loadAt w i = l by omega)]
        exact done cle (came_low hj hgr rfl h hi) (List.map_set ..) (List.map_set ..)
      rcases Int.lt_or_le u (loadAt w i) with h' | h'
      · rw [srt3 hlu (Int.le_of_lt h') (List.Perm.cons _ (List.Perm.swap ..))]
        simp only [sRaise, sTry, wIsX, wWhat, wBack, lo_lst, e_mulV, sizeL, sNil, sSeq, sPass, sBrk, sCont, sExpr, sRet, sRetN, sIf, sNever, sSet, sAug, gNm, gTp, gNil', gCons', gSb, sAsg, sPar, sFor, wVar_z, wVar_s, wC, wChn, wTru, sPar3, wRev, wCallK, permF, List.filterMap_cons, List.filterMap_nil, wBin, wUn, wTst, wNot, wAnd, wOr, wAndV, wOrV, wNotV, wIf, wNil, wCons, wTup, wLst, wLstL, wFz, wCall, wBi, wMt, wMt0, wSl, wSlL, wPart, wNoPart, wYes, wSeq, wRg1, wRg2, wEnum, wZip, wLc, wLcL, wLRg, wFld, sFldS, sFldA, gFld, wMeth, wMake, lvl2_s, onB, e_eqI, e_neI, e_eqB, e_neB, e_eqS, e_neS, e_eqN, e_tyLT, e_ty1, isTys, tyMem, tyN_non, tyN_bl, tyN_int, tyN_str, tyN_tup, tyN_lst, Bool.true_or, Bool.or_true, Bool.or_false, Bool.false_or, Bool.not_true, Bool.not_false, inn_non, inn_bl, inn_int, inn_str, inn_tup, inn_lst, inn_ptr, e_slT, e_slL, e_slN, isT_P, isT_L, isT_T, isT_N, e_sub, e_fdiv, e_mod, e_pow, e_lt, e_le, e_gt, e_ge, e_neg, e_add, e_addS, e_addT, e_addL, e_addPP, e_addPL, e_addLP, e_mul, e_mulL, e_mulT, e_augI, e_ixT, e_ixL, e_ixN, e_ixP, e_lenT, e_lenL, e_lenN, e_lenS, e_lenP, e_abs, e_intI, e_intB, e_max, e_min, e_tupL, e_tupT, e_listL, e_listT, e_listN, e_listLL, e_listLT, e_divmod, e_isNon, e_isntNon, e_isB, e_isntB, e_setIx, e_insert, e_append, e_isL, e_isLL, e_seqP, e_seqL, e_seqT, e_seqN, it_lst, it_fz, Option.bind_some, Option.isSome_some, ix10, ix20, ix21, ix30, ix32, dl1, dl2, dl3, List.eraseIdx_cons_zero, e_pop0, e_popAt, e_rev, e_clear, e_tupP, e_listP, e_neN, e_neIN, e_neNI, e_eqIN, e_eqNI, at0, at1, at2, at3, Cell.lst.injEq, Cell.obj.injEq, Option.some.injEq, exists_eq_left', decide_eq_true_eq, true_and, and_true, cup_same, cup_cup, List.flatten_nil, List.flatten_cons, enOf, endOf, excOf, List.map_cons, List.map_nil, List.length_cons, List.length_nil, List.replicate, Nat.reduceAdd, Nat.reduceSub, List.cons_append, List.nil_append, List.set_cons_zero, List.set_cons_succ, List.getElem?_cons_zero, List.getElem?_cons_succ, List.getElem_cons_zero, List.getElem_cons_succ, reduceCtorEq, if_true, if_false, Bool.false_eq_true, decide_true, decide_false, ne_eq, not_true, not_false_eq_true, Int.reduceEq, Nat.reduceMul, true_imp_iff, Int.reduceToNat, Int.reducePow, Nat.reducePow, Int.reduceLE, Int.reduceLT, Nat.reduceLT, and_self, Nat.reduceLeDiff, Int.reduceNeg, Int.reduceAdd, Int.reduceSub, Int.reduceMul, Int.cast_ofNat_Int, h12, h21, h13, h23, h31, h32, ei, ej, at_load hi]
        have e1 : (if u - loadAt w i < 0 then -(u - loadAt w i) else u - loadAt w i) = loadAt w i - u := by rw [if_pos (by omega)]; omega
        simp only [e1]
        rw [if_pos (show 0 < loadAt w i - u by omega)]
        exact done cle (came_high hj hgr rfl h' (fun y e => by cases e; exact h) hi) (List.map_set ..) (List.map_set ..)
      · rw [srt3 h h' (.refl _)]
        simp only [sRaise, sTry, wIsX, wWhat, wBack, lo_lst, e_mulV, sizeL, sNil, sSeq, sPass, sBrk, sCont, sExpr, sRet, sRetN, sIf, sNever, sSet, sAug, gNm, gTp, gNil', gCons', gSb, sAsg, sPar, sFor, wVar_z, wVar_s, wC, wChn, wTru, sPar3, wRev, wCallK, permF, List.filterMap_cons, List.filterMap_nil, wBin, wUn, wTst, wNot, wAnd, wOr, wAndV, wOrV, wNotV, wIf, wNil, wCons, wTup, wLst, wLstL, wFz, wCall, wBi, wMt, wMt0, wSl, wSlL, wPart, wNoPart, wYes, wSeq, wRg1, wRg2, wEnum, wZip, wLc, wLcL, wLRg, wFld, sFldS, sFldA, gFld, wMeth, wMake, lvl2_s, onB, e_eqI, e_neI, e_eqB, e_neB, e_eqS, e_neS, e_eqN, e_tyLT, e_ty1, isTys, tyMem, tyN_non, tyN_bl, tyN_int, tyN_str, tyN_tup, tyN_lst, Bool.true_or, Bool.or_true, Bool.or_false, Bool.false_or, Bool.not_true, Bool.not_false, inn_non, inn_bl, inn_int, inn_str, inn_tup, inn_lst, inn_ptr, e_slT, e_slL, e_slN, isT_P, isT_L, isT_T, isT_N, e_sub, e_fdiv, e_mod, e_pow, e_lt, e_le, e_gt, e_ge, e_neg, e_add, e_addS, e_addT, e_addL, e_addPP, e_addPL, e_addLP, e_mul, e_mulL, e_mulT, e_augI, e_ixT, e_ixL, e_ixN, e_ixP, e_lenT, e_lenL, e_lenN, e_lenS, e_lenP, e_abs, e_intI, e_intB, e_max, e_min, e_tupL, e_tupT, e_listL, e_listT, e_listN, e_listLL, e_listLT, e_divmod, e_isNon, e_isntNon, e_isB, e_isntB, e_setIx, e_insert, e_append, e_isL, e_isLL, e_seqP, e_seqL, e_seqT, e_seqN, it_lst, it_fz, Option.bind_some, Option.isSome_some, ix10, ix20, ix21, ix30, ix32, dl1, dl2, dl3, List.eraseIdx_cons_zero, e_pop0, e_popAt, e_rev, e_clear, e_tupP, e_listP, e_neN, e_neIN, e_neNI, e_eqIN, e_eqNI, at0, at1, at2, at3, Cell.lst.injEq, Cell.obj.injEq, Option.some.injEq, exists_eq_left', decide_eq_true_eq, true_and, and_true, cup_same, cup_cup, List.flatten_nil, List.flatten_cons, enOf, endOf, excOf, List.map_cons, List.map_nil, List.length_cons, List.length_nil, List.replicate, Nat.reduceAdd, Nat.reduceSub, List.cons_append, List.nil_append, List.set_cons_zero, List.set_cons_succ, List.getElem?_cons_zero, List.getElem?_cons_succ, List.getElem_cons_zero, List.getElem_cons_succ, reduceCtorEq, if_true, if_false, Bool.false_eq_true, decide_true, decide_false, ne_eq, not_true, not_false_eq_true, Int.reduceEq, Nat.reduceMul, true_imp_iff, Int.reduceToNat, Int.reducePow, Nat.reducePow, Int.reduceLE, Int.reduceLT, Nat.reduceLT, and_self, Nat.reduceLeDiff, Int.reduceNeg, Int.reduceAdd, Int.reduceSub, Int.reduceMul, Int.cast_ofNat_Int, h12, h21, h13, h23, h31, h32, ei, ej, at_load hi]
        have e1 : (if loadAt w i - loadAt w i < 0 then -(loadAt w i - loadAt w i) else loadAt w i - loadAt w i) = 0 := by rw [Int.sub_self, if_neg (by omega)]
        simp only [e1]
        rw [if_neg (show ¬ (0 : Int) < 0 by omega)]
        exact done cle (came_not hgr rfl (fun y e => by cases e; exact h) (fun y e => by cases e; exact h')) (by (conv => lhs; rw [← set_gran hj, List.map_set, hgr]); rfl) (by conv => lhs; rw [← set_load hi, List.map_set])
def allRow (i m : Nat) : List (Nat × Nat) := (List.range m).map fun j => (i, j)
def allC (w : Wo) (n : Nat) : List (Nat × Nat) := (List.range n).flatMap fun i => allRow i w.1.length
theorem allC_succ (w : Wo) (n : Nat) : allC w (n + 1) = allC w n ++ allRow n w.1.length := by
  unfold allC
  rw [List.range_succ, List.flatMap_append]
  simp
theorem allC_len (w : Wo) : ∀ n, (allC w n).length = n * w.1.length
  | 0 => by simp [allC]
  | n + 1 => by
    rw [allC_succ, List.length_append, allC_len w n, Nat.add_mul]
    simp [allRow]
theorem allC_mem {w : Wo} {n : Nat} {p : Nat × Nat} (h : p ∈ allC w n) : p.1 < n ∧ p.2 < w.1.length := by
  obtain ⟨i, hi, h⟩ := List.mem_flatMap.mp h
  obtain ⟨j, hj, rfl⟩ := List.mem_map.mp h
  exact ⟨List.mem_range.mp hi, List.mem_range.mp hj⟩
theorem rgD0_nat (n : Nat) : rgD 0 (n : Int) = (List.range n).map fun (i : Nat) => D.int (i : Nat) := by
  unfold rgD
  rw [Int.sub_zero, Int.toNat_natCast]
  exact List.map_congr_left fun i _ => by rw [Int.zero_add]
def c_l_all_comings (k : Nat) : Ctr := fun ds c Q _ => ∃ w : Wo, ds = [wD w] ∧ w.1.length ≤ 1000 ∧ w.2.length ≤ 1000 ∧ Q (.lst ((allC w w.2.length).map cmD)) c
def w_l_all_comings (k : Nat) : WS := (sSeq (sSet 1 (wLst wNil)) (sSeq (sFor (wRg1 (wBi oLen (wCons (wBin oIx (wVar 0) (wC (.int 1))) wNil))) (.nm 2) (sSet 1 (wBin oAdd (wVar 1) (wLc (wRg1 (wBi oLen (wCons (wBin oIx (wVar 0) (wC (.int 0))) wNil))) (.nm 3) wYes (wTup (wCons (wVar 2) (wCons (wVar 3) wNil))) [3])))) (sRet (wVar 1))))
theorem p_l_all_comings (k : Nat) (ds : List D) (c : Cs) (Q : DK) (X0 : XK0) (hlen0 : ds.length = 1) (h : c_l_all_comings k ds c Q X0) : w_l_all_comings k (endOf Q) (excOf X0) (enOf 4 ds) c := by
  obtain ⟨w, rfl, hz1, hz2, q⟩ := h
  simp only [w_l_all_comings, wD, gsD, sRaise, sTry, wIsX, wWhat, wBack, lo_lst, e_mulV, sizeL, sNil, sSeq, sPass, sBrk, sCont, sExpr, sRet, sRetN, sIf, sNever, sSet, sAug, gNm, gTp, gNil', gCons', gSb, sAsg, sPar, sFor, wVar_z, wVar_s, wC, wChn, wTru, sPar3, wRev, wCallK, permF, List.filterMap_cons, List.filterMap_nil, wBin, wUn, wTst, wNot, wAnd, wOr, wAndV, wOrV, wNotV, wIf, wNil, wCons, wTup, wLst, wLstL, wFz, wCall, wBi, wMt, wMt0, wSl, wSlL, wPart, wNoPart, wYes, wSeq, wRg1, wRg2, wEnum, wZip, wLc, wLcL, wLRg, wFld, sFldS, sFldA, gFld, wMeth, wMake, lvl2_s, onB, e_eqI, e_neI, e_eqB, e_neB, e_eqS, e_neS, e_eqN, e_tyLT, e_ty1, isTys, tyMem, tyN_non, tyN_bl, tyN_int, tyN_str, tyN_tup, tyN_lst, Bool.true_or, Bool.or_true, Bool.or_false, Bool.false_or, Bool.not_true, Bool.not_false, inn_non, inn_bl, inn_int, inn_str, inn_tup, inn_lst, inn_ptr, e_slT, e_slL, e_slN, isT_P, isT_L, isT_T, isT_N, e_sub, e_fdiv, e_mod, e_pow, e_lt, e_le, e_gt, e_ge, e_neg, e_add, e_addS, e_addT, e_addL, e_addPP, e_addPL, e_addLP, e_mul, e_mulL, e_mulT, e_augI, e_ixT, e_ixL, e_ixN, e_ixP, e_lenT, e_lenL, e_lenN, e_lenS, e_lenP, e_abs, e_intI, e_intB, e_max, e_min, e_tupL, e_tupT, e_listL, e_listT, e_listN, e_listLL, e_listLT, e_divmod, e_isNon, e_isntNon, e_isB, e_isntB, e_setIx, e_insert, e_append, e_isL, e_isLL, e_seqP, e_seqL, e_seqT, e_seqN, it_lst, it_fz, Option.bind_some, Option.isSome_some, ix10, ix20, ix21, ix30, ix32, dl1, dl2, dl3, List.eraseIdx_cons_zero, e_pop0, e_popAt, e_rev, e_clear, e_tupP, e_listP, e_neN, e_neIN, e_neNI, e_eqIN, e_eqNI, at0, at1, at2, at3, Cell.lst.injEq, Cell.obj.injEq, Option.some.injEq, exists_eq_left', decide_eq_true_eq, true_and, and_true, cup_same, cup_cup, List.flatten_nil, List.flatten_cons, enOf, endOf, excOf, List.map_cons, List.map_nil, List.length_cons, List.length_nil, List.replicate, Nat.reduceAdd, Nat.reduceSub, List.cons_append, List.nil_append, List.set_cons_zero, List.set_cons_succ, List.getElem?_cons_zero, List.getElem?_cons_succ, List.getElem_cons_zero, List.getElem_cons_succ, reduceCtorEq, if_true, if_false, Bool.false_eq_true, decide_true, decide_false, ne_eq, not_true, not_false_eq_true, Int.reduceEq, Nat.reduceMul, true_imp_iff, Int.reduceToNat, Int.reducePow, Nat.reducePow, Int.reduceLE, Int.reduceLT, Nat.reduceLT, and_self, Nat.reduceLeDiff, Int.reduceNeg, Int.reduceAdd, Int.reduceSub, Int.reduceMul, Int.cast_ofNat_Int, List.length_map]
  refine ⟨by omega, by omega, ?_⟩
  refine loop_inv (fun i en c' => (∃ o2 o3, en = [some (D.tup [D.tup (w.1.map gD), D.tup (w.2.map D.int)]), some (.lst ((allC w i).map cmD)), o2, o3]) ∧ i ≤ w.2.length ∧ c' = c) ⟨⟨_, _, rfl⟩, by omega, rfl⟩ ?_ ?_
  · rintro i en c' d hd ⟨⟨o2, o3, rfl⟩, hi, rfl⟩
    obtain ⟨rfl, hi1⟩ := rgD0_get hd
    refine ⟨trivial, _, rfl, fun D1 h5 h6 h7 h8 => ?_⟩
    simp only [sRaise, sTry, wIsX, wWhat, wBack, lo_lst, e_mulV, sizeL, sNil, sSeq, sPass, sBrk, sCont, sExpr, sRet, sRetN, sIf, sNever, sSet, sAug, gNm, gTp, gNil', gCons', gSb, sAsg, sPar, sFor, wVar_z, wVar_s, wC, wChn, wTru, sPar3, wRev, wCallK, permF, List.filterMap_cons, List.filterMap_nil, wBin, wUn, wTst, wNot, wAnd, wOr, wAndV, wOrV, wNotV, wIf, wNil, wCons, wTup, wLst, wLstL, wFz, wCall, wBi, wMt, wMt0, wSl, wSlL, wPart, wNoPart, wYes, wSeq, wRg1, wRg2, wEnum, wZip, wLc, wLcL, wLRg, wFld, sFldS, sFldA, gFld, wMeth, wMake, lvl2_s, onB, e_eqI, e_neI, e_eqB, e_neB, e_eqS, e_neS, e_eqN, e_tyLT, e_ty1, isTys, tyMem, tyN_non, tyN_bl, tyN_int, tyN_str, tyN_tup, tyN_lst, Bool.true_or, Bool.or_true, Bool.or_false, Bool.false_or, Bool.not_true, Bool.not_false, inn_non, inn_bl, inn_int, inn_str, inn_tup, inn_lst, inn_ptr, e_slT, e_slL, e_slN, isT_P, isT_L, isT_T, isT_N, e_sub, e_fdiv, e_mod, e_pow, e_lt, e_le, e_gt, e_ge, e_neg, e_add, e_addS, e_addT, e_addL, e_addPP, e_addPL, e_addLP, e_mul, e_mulL, e_mulT, e_augI, e_ixT, e_ixL, e_ixN, e_ixP, e_lenT, e_lenL, e_lenN, e_lenS, e_lenP, e_abs, e_intI, e_intB, e_max, e_min, e_tupL, e_tupT, e_listL, e_listT, e_listN, e_listLL, e_listLT, e_divmod, e_isNon, e_isntNon, e_isB, e_isntB, e_setIx, e_insert, e_append, e_isL, e_isLL, e_seqP, e_seqL, e_seqT, e_seqN, it_lst, it_fz, Option.bind_some, Option.isSome_some, ix10, ix20, ix21, ix30, ix32, dl1, dl2, dl3, List.eraseIdx_cons_zero, e_pop0, e_popAt, e_rev, e_clear, e_tupP, e_listP, e_neN, e_neIN, e_neNI, e_eqIN, e_eqNI, at0, at1, at2, at3, Cell.lst.injEq, Cell.obj.injEq, Option.some.injEq, exists_eq_left', decide_eq_true_eq, true_and, and_true, cup_same, cup_cup, List.flatten_nil, List.flatten_cons, enOf, endOf, excOf, List.map_cons, List.map_nil, List.length_cons, List.length_nil, List.replicate, Nat.reduceAdd, Nat.reduceSub, List.cons_append, List.nil_append, List.set_cons_zero, List.set_cons_succ, List.getElem?_cons_zero, List.getElem?_cons_succ, List.getElem_cons_zero, List.getElem_cons_succ, reduceCtorEq, if_true, if_false, Bool.false_eq_true, decide_true, decide_false, ne_eq, not_true, not_false_eq_true, Int.reduceEq, Nat.reduceMul, true_imp_iff, Int.reduceToNat, Int.reducePow, Nat.reducePow, Int.reduceLE, Int.reduceLT, Nat.reduceLT, and_self, Nat.reduceLeDiff, Int.reduceNeg, Int.reduceAdd, Int.reduceSub, Int.reduceMul, Int.cast_ofNat_Int, List.length_map]
    refine ⟨by omega, by omega, by rw [rgD0_len]; omega, lc_map (fun d => .tup [.int (i : Nat), d]) trivial (fun d hd => ⟨_, rfl, fun Q' q' => by simp only [sRaise, sTry, wIsX, wWhat, wBack, lo_lst, e_mulV, sizeL, sNil, sSeq, sPass, sBrk, sCont, sExpr, sRet, sRetN, sIf, sNever, sSet, sAug, gNm, gTp, gNil', gCons', gSb, sAsg, sPar, sFor, wVar_z, wVar_s, wC, wChn, wTru, sPar3, wRev, wCallK, permF, List.filterMap_cons, List.filterMap_nil, wBin, wUn, wTst, wNot, wAnd, wOr, wAndV, wOrV, wNotV, wIf, wNil, wCons, wTup, wLst, wLstL, wFz, wCall, wBi, wMt, wMt0, wSl, wSlL, wPart, wNoPart, wYes, wSeq, wRg1, wRg2, wEnum, wZip, wLc, wLcL, wLRg, wFld, sFldS, sFldA, gFld, wMeth, wMake, lvl2_s, onB, e_eqI, e_neI, e_eqB, e_neB, e_eqS, e_neS, e_eqN, e_tyLT, e_ty1, isTys, tyMem, tyN_non, tyN_bl, tyN_int, tyN_str, tyN_tup, tyN_lst, Bool.true_or, Bool.or_true, Bool.or_false, Bool.false_or, Bool.not_true, Bool.not_false, inn_non, inn_bl, inn_int, inn_str, inn_tup, inn_lst, inn_ptr, e_slT, e_slL, e_slN, isT_P, isT_L, isT_T, isT_N, e_sub, e_fdiv, e_mod, e_pow, e_lt, e_le, e_gt, e_ge, e_neg, e_add, e_addS, e_addT, e_addL, e_addPP, e_addPL, e_addLP, e_mul, e_mulL, e_mulT, e_augI, e_ixT, e_ixL, e_ixN, e_ixP, e_lenT, e_lenL, e_lenN, e_lenS, e_lenP, e_abs, e_intI, e_intB, e_max, e_min, e_tupL, e_tupT, e_listL, e_listT, e_listN, e_listLL, e_listLT, e_divmod, e_isNon, e_isntNon, e_isB, e_isntB, e_setIx, e_insert, e_append, e_isL, e_isLL, e_seqP, e_seqL, e_seqT, e_seqN, it_lst, it_fz, Option.bind_some, Option.isSome_some, ix10, ix20, ix21, ix30, ix32, dl1, dl2, dl3, List.eraseIdx_cons_zero, e_pop0, e_popAt, e_rev, e_clear, e_tupP, e_listP, e_neN, e_neIN, e_neNI, e_eqIN, e_eqNI, at0, at1, at2, at3, Cell.lst.injEq, Cell.obj.injEq, Option.some.injEq, exists_eq_left', decide_eq_true_eq, true_and, and_true, cup_same, cup_cup, List.flatten_nil, List.flatten_cons, enOf, endOf, excOf, List.map_cons, List.map_nil, List.length_cons, List.length_nil, List.replicate, Nat.reduceAdd, Nat.reduceSub, List.cons_append, List.nil_append, List.set_cons_zero, List.set_cons_succ, List.getElem?_cons_zero, List.getElem?_cons_succ, List.getElem_cons_zero, List.getElem_cons_succ, reduceCtorEq, if_true, if_false, Bool.false_eq_true, decide_true, decide_false, ne_eq, not_true, not_false_eq_true, Int.reduceEq, Nat.reduceMul, true_imp_iff, Int.reduceToNat, Int.reducePow, Nat.reducePow, Int.reduceLE, Int.reduceLT, Nat.reduceLT, and_self, Nat.reduceLeDiff, Int.reduceNeg, Int.reduceAdd, Int.reduceSub, Int.reduceMul, Int.cast_ofNat_Int, ewipe]; exact q'⟩) ?_⟩
    have hl := allC_len w i
    have h3 : i * w.1.length ≤ 1000 * 1000 := Nat.mul_le_mul (by omega) hz1
    have e : (rgD 0 (w.1.length : Int)).map (fun d => D.tup [.int (i : Nat), d]) = (allRow i w.1.length).map cmD := by
      rw [rgD0_nat, List.map_map, allRow, List.map_map]
      rfl
    simp only [sRaise, sTry, wIsX, wWhat, wBack, lo_lst, e_mulV, sizeL, sNil, sSeq, sPass, sBrk, sCont, sExpr, sRet, sRetN, sIf, sNever, sSet, sAug, gNm, gTp, gNil', gCons', gSb, sAsg, sPar, sFor, wVar_z, wVar_s, wC, wChn, wTru, sPar3, wRev, wCallK, permF, List.filterMap_cons, List.filterMap_nil, wBin, wUn, wTst, wNot, wAnd, wOr, wAndV, wOrV, wNotV, wIf, wNil, wCons, wTup, wLst, wLstL, wFz, wCall, wBi, wMt, wMt0, wSl, wSlL, wPart, wNoPart, wYes, wSeq, wRg1, wRg2, wEnum, wZip, wLc, wLcL, wLRg, wFld, sFldS, sFldA, gFld, wMeth, wMake, lvl2_s, onB, e_eqI, e_neI, e_eqB, e_neB, e_eqS, e_neS, e_eqN, e_tyLT, e_ty1, isTys, tyMem, tyN_non, tyN_bl, tyN_int, tyN_str, tyN_tup, tyN_lst, Bool.true_or, Bool.or_true, Bool.or_false, Bool.false_or, Bool.not_true, Bool.not_false, inn_non, inn_bl, inn_int, inn_str, inn_tup, inn_lst, inn_ptr, e_slT, e_slL, e_slN, isT_P, isT_L, isT_T, isT_N, e_sub, e_fdiv, e_mod, e_pow, e_lt, e_le, e_gt, e_ge, e_neg, e_add, e_addS, e_addT, e_addL, e_addPP, e_addPL, e_addLP, e_mul, e_mulL, e_mulT, e_augI, e_ixT, e_ixL, e_ixN, e_ixP, e_lenT, e_lenL, e_lenN, e_lenS, e_lenP, e_abs, e_intI, e_intB, e_max, e_min, e_tupL, e_tupT, e_listL, e_listT, e_listN, e_listLL, e_listLT, e_divmod, e_isNon, e_isntNon, e_isB, e_isntB, e_setIx, e_insert, e_append, e_isL, e_isLL, e_seqP, e_seqL, e_seqT, e_seqN, it_lst, it_fz, Option.bind_some, Option.isSome_some, ix10, ix20, ix21, ix30, ix32, dl1, dl2, dl3, List.eraseIdx_cons_zero, e_pop0, e_popAt, e_rev, e_clear, e_tupP, e_listP, e_neN, e_neIN, e_neNI, e_eqIN, e_eqNI, at0, at1, at2, at3, Cell.lst.injEq, Cell.obj.injEq, Option.some.injEq, exists_eq_left', decide_eq_true_eq, true_and, and_true, cup_same, cup_cup, List.flatten_nil, List.flatten_cons, enOf, endOf, excOf, List.map_cons, List.map_nil, List.length_cons, List.length_nil, List.replicate, Nat.reduceAdd, Nat.reduceSub, List.cons_append, List.nil_append, List.set_cons_zero, List.set_cons_succ, List.getElem?_cons_zero, List.getElem?_cons_succ, List.getElem_cons_zero, List.getElem_cons_succ, reduceCtorEq, if_true, if_false, Bool.false_eq_true, decide_true, decide_false, ne_eq, not_true, not_false_eq_true, Int.reduceEq, Nat.reduceMul, true_imp_iff, Int.reduceToNat, Int.reducePow, Nat.reducePow, Int.reduceLE, Int.reduceLT, Nat.reduceLT, and_self, Nat.reduceLeDiff, Int.reduceNeg, Int.reduceAdd, Int.reduceSub, Int.reduceMul, Int.cast_ofNat_Int, e, List.length_map]
    refine ⟨by rw [hl]; simp [allRow]; omega, h5 _ _ ⟨⟨some (.int (i : Nat)), o3, ?_⟩, by omega, rfl⟩⟩
    rw [allC_succ, List.map_append]
  · rintro en c' ⟨⟨o2, o3, rfl⟩, _, rfl⟩
    refine ⟨trivial, ?_⟩
    simp only [sRaise, sTry, wIsX, wWhat, wBack, lo_lst, e_mulV, sizeL, sNil, sSeq, sPass, sBrk, sCont, sExpr, sRet, sRetN, sIf, sNever, sSet, sAug, gNm, gTp, gNil', gCons', gSb, sAsg, sPar, sFor, wVar_z, wVar_s, wC, wChn, wTru, sPar3, wRev, wCallK, permF, List.filterMap_cons, List.filterMap_nil, wBin, wUn, wTst, wNot, wAnd, wOr, wAndV, wOrV, wNotV, wIf, wNil, wCons, wTup, wLst, wLstL, wFz, wCall, wBi, wMt, wMt0, wSl, wSlL, wPart, wNoPart, wYes, wSeq, wRg1, wRg2, wEnum, wZip, wLc, wLcL, wLRg, wFld, sFldS, sFldA, gFld, wMeth, wMake, lvl2_s, onB, e_eqI, e_neI, e_eqB, e_neB, e_eqS, e_neS, e_eqN, e_tyLT, e_ty1, isTys, tyMem, tyN_non, tyN_bl, tyN_int, tyN_str, tyN_tup, tyN_lst, Bool.true_or, Bool.or_true, Bool.or_false, Bool.false_or, Bool.not_true, Bool.not_false, inn_non, inn_bl, inn_int, inn_str, inn_tup, inn_lst, inn_ptr, e_slT, e_slL, e_slN, isT_P, isT_L, isT_T, isT_N, e_sub, e_fdiv, e_mod, e_pow, e_lt, e_le, e_gt, e_ge, e_neg, e_add, e_addS, e_addT, e_addL, e_addPP, e_addPL, e_addLP, e_mul, e_mulL, e_mulT, e_augI, e_ixT, e_ixL, e_ixN, e_ixP, e_lenT, e_lenL, e_lenN, e_lenS, e_lenP, e_abs, e_intI, e_intB, e_max, e_min, e_tupL, e_tupT, e_listL, e_listT, e_listN, e_listLL, e_listLT, e_divmod, e_isNon, e_isntNon, e_isB, e_isntB, e_setIx, e_insert, e_append, e_isL, e_isLL, e_seqP, e_seqL, e_seqT, e_seqN, it_lst, it_fz, Option.bind_some, Option.isSome_some, ix10, ix20, ix21, ix30, ix32, dl1, dl2, dl3, List.eraseIdx_cons_zero, e_pop0, e_popAt, e_rev, e_clear, e_tupP, e_listP, e_neN, e_neIN, e_neNI, e_eqIN, e_eqNI, at0, at1, at2, at3, Cell.lst.injEq, Cell.obj.injEq, Option.some.injEq, exists_eq_left', decide_eq_true_eq, true_and, and_true, cup_same, cup_cup, List.flatten_nil, List.flatten_cons, enOf, endOf, excOf, List.map_cons, List.map_nil, List.length_cons, List.length_nil, List.replicate, Nat.reduceAdd, Nat.reduceSub, List.cons_append, List.nil_append, List.set_cons_zero, List.set_cons_succ, List.getElem?_cons_zero, List.getElem?_cons_succ, List.getElem_cons_zero, List.getElem_cons_succ, reduceCtorEq, if_true, if_false, Bool.false_eq_true, decide_true, decide_false, ne_eq, not_true, not_false_eq_true, Int.reduceEq, Nat.reduceMul, true_imp_iff, Int.reduceToNat, Int.reducePow, Nat.reducePow, Int.reduceLE, Int.reduceLT, Nat.reduceLT, and_self, Nat.reduceLeDiff, Int.reduceNeg, Int.reduceAdd, Int.reduceSub, Int.reduceMul, Int.cast_ofNat_Int, rgD0_len, Int.toNat_natCast]
    exact ⟨_, CLe.refl _, q⟩
def okWs (w : Wo) : Prop := (∀ g ∈ w.1, okG g) ∧ ∀ x ∈ w.2, smallI x
theorem gran_mem {w : Wo} {j : Nat} (hj : j < w.1.length) : granAt w j ∈ w.1 := by
  rw [granAt, List.getD_eq_getElem?_getD, List.getElem?_eq_getElem hj]
  exact List.getElem_mem _
theorem load_mem {w : Wo} {i : Nat} (hi : i < w.2.length) : loadAt w i ∈ w.2 := by
  rw [loadAt, List.getD_eq_getElem?_getD, List.getElem?_eq_getElem hi]
  exact List.getElem_mem _
theorem came_word (w : Wo) (i j : Nat) : (cameW w i j).2.1 = (wordOf (granAt w j) (loadAt w i)).map fun b => (j, b) := by
  unfold cameW
  cases wordOf (granAt w j) (loadAt w i) <;> rfl
theorem placeD_non (o : Option (Nat × Bool)) : isNon (placeD o) = o.isNone := by
  cases o with
  | none => rfl
  | some p => rfl
end VL
namespace VL
open PySem PySem.Spec PyProof.Rows L2
theorem split_at {α : Type} {l : List α} {j : Nat} {g : α} (h : l[j]? = some g) : l = l.take j ++ g :: l.drop (j + 1) ∧ ∀ x, l.set j x = l.take j ++ x :: l.drop (j + 1) := by
  obtain ⟨hj, rfl⟩ := List.getElem?_eq_some_iff.mp h
  refine ⟨?_, fun x => ?_⟩
  · rw [← List.drop_eq_getElem_cons hj, List.take_append_drop]
  · rw [List.set_eq_take_append_cons_drop, if_pos hj]
theorem gran_some {w : Wo} {j : Nat} (hj : j < w.1.length) : w.1[j]? = some (granAt w j) := by simp [granAt, hj]
theorem load_some {w : Wo} {i : Nat} (hi : i < w.2.length) : w.2[i]? = some (loadAt w i) := by simp [loadAt, hi]
/-- the one list's first becomes the other's -/
structure Swap (A A' : List Int) (a a' : Int) : Prop where
  ex : ∃ R, A.Perm (a :: R) ∧ A'.Perm (a' :: R)
theorem swap_set {l : List Int} {i : Nat} {a a' : Int} (h : l[i]? = some a) : Swap l (l.set i a') a a' := by
  obtain ⟨h1, h2⟩ := split_at h
  refine ⟨l.take i ++ l.drop (i + 1), ?_, ?_⟩
  · conv => lhs; rw [h1]
    exact List.perm_middle
  · rw [h2]
    exact List.perm_middle
theorem lows_set {gs : List Gn} {j : Nat} {l : Int} {u : Option Int} {x : Int} (h : gs[j]? = some (some l, u)) : Swap (lowsOf gs) (lowsOf (gs.set j (some x, u))) l x ∧ highsOf (gs.set j (some x, u)) = highsOf gs := by
  obtain ⟨h1, h2⟩ := split_at h
  refine ⟨⟨lowsOf (gs.take j) ++ lowsOf (gs.drop (j + 1)), ?_, ?_⟩, ?_⟩
  · conv => lhs; rw [h1]
    simp only [lowsOf, List.filterMap_append, List.filterMap_cons]
    exact List.perm_middle
  · rw [h2]
    simp only [lowsOf, List.filterMap_append, List.filterMap_cons]
    exact List.perm_middle
  · rw [h2]
    conv => rhs; rw [h1]
    simp only [highsOf, List.filterMap_append, List.filterMap_cons]
theorem highs_set {gs : List Gn} {j : Nat} {u : Int} {l : Option Int} {x : Int} (h : gs[j]? = some (l, some u)) : Swap (highsOf gs) (highsOf (gs.set j (l, some x))) u x ∧ lowsOf (gs.set j (l, some x)) = lowsOf gs := by
  obtain ⟨h1, h2⟩ := split_at h
  refine ⟨⟨highsOf (gs.take j) ++ highsOf (gs.drop (j + 1)), ?_, ?_⟩, ?_⟩
  · conv => lhs; rw [h1]
    simp only [highsOf, List.filterMap_append, List.filterMap_cons]
    exact List.perm_middle
  · rw [h2]
    simp only [highsOf, List.filterMap_append, List.filterMap_cons]
    exact List.perm_middle
  · rw [h2]
    conv => rhs; rw [h1]
    simp only [lowsOf, List.filterMap_append, List.filterMap_cons]
/-- one exchange, told by lists -/
theorem exch_low {w : Wo} {i j : Nat} (hi : i < w.2.length) (hj : j < w.1.length) (h : wordOf (granAt w j) (loadAt w i) = some false) :
    ∃ l x, x = loadAt w i ∧ (granAt w j).1 = some l ∧ x < l ∧ Swap (lowsOf w.1) (lowsOf (exchW w i j false).1) l x ∧ highsOf (exchW w i j false).1 = highsOf w.1 ∧ Swap w.2 (exchW w i j false).2 x l := by
  obtain ⟨l, hl, hlt⟩ := word_some h
  have hg := gran_some hj
  cases hgr : granAt w j with | mk a u =>
  rw [hgr] at hg hl
  have ha : a = some l := hl
  subst ha
  obtain ⟨h1, h2⟩ := lows_set (x := loadAt w i) hg
  refine ⟨l, _, rfl, rfl, by simpa using hlt, ?_, ?_, ?_⟩
  · simpa [exchW, swapG, hgr] using h1
  · simpa [exchW, swapG, hgr] using h2
  · simpa [exchW, swapG, hgr] using swap_set (load_some hi)
theorem exch_high {w : Wo} {i j : Nat} (hi : i < w.2.length) (hj : j < w.1.length) (h : wordOf (granAt w j) (loadAt w i) = some true) :
    ∃ u x, x = loadAt w i ∧ (granAt w j).2 = some u ∧ u < x ∧ Swap (highsOf w.1) (highsOf (exchW w i j true).1) u x ∧ lowsOf (exchW w i j true).1 = lowsOf w.1 ∧ Swap w.2 (exchW w i j true).2 x u := by
  obtain ⟨u, hl, hlt⟩ := word_some h
  have hg := gran_some hj
  cases hgr : granAt w j with | mk a b =>
  rw [hgr] at hg hl
  have ha : b = some u := hl
  subst ha
  obtain ⟨h1, h2⟩ := highs_set (x := loadAt w i) hg
  refine ⟨u, _, rfl, rfl, by simpa using hlt, ?_, ?_, ?_⟩
  · simpa [exchW, swapG, hgr] using h1
  · simpa [exchW, swapG, hgr] using h2
  · simpa [exchW, swapG, hgr] using swap_set (load_some hi)
def below (l : List Int) (a : Int) : Nat := (l.filter fun x => x < a).length
def allL (w : Wo) : List Int := lowsOf w.1 ++ w.2 ++ highsOf w.1
structure Same (w w' : Wo) : Prop where
  all : (allL w').Perm (allL w)
  gran : w'.1.length = w.1.length
  cart : w'.2.length = w.2.length
  low : (lowsOf w'.1).length = (lowsOf w.1).length
  high : (highsOf w'.1).length = (highsOf w.1).length
theorem Same.refl (w : Wo) : Same w w := ⟨.refl _, rfl, rfl, rfl, rfl⟩
theorem Same.trans {a b c : Wo} (h : Same a b) (g : Same b c) : Same a c := ⟨g.all.trans h.all, g.gran.trans h.gran, g.cart.trans h.cart, g.low.trans h.low, g.high.trans h.high⟩
theorem same_exch {w : Wo} {i j : Nat} {b : Bool} (hi : i < w.2.length) (hj : j < w.1.length) (h : wordOf (granAt w j) (loadAt w i) = some b) : Same w (exchW w i j b) := by
  obtain ⟨e1, e2⟩ := exch_len w i j b
  cases b with
  | false =>
    obtain ⟨l, x, _, _, hlt, ⟨R, r1, r2⟩, hh, ⟨C, c1, c2⟩⟩ := exch_low hi hj h
    refine ⟨?_, e1, e2, by rw [r1.length_eq, r2.length_eq]; rfl, by rw [hh]⟩
    unfold allL
    rw [hh]
    refine List.Perm.append_right _ (((r2.append c2).trans ?_).trans (r1.append c1).symm)
    have h1 : (x :: R ++ l :: C).Perm (x :: l :: (R ++ C)) := by rw [List.cons_append]; exact List.perm_middle.cons _
    have h2 : (l :: R ++ x :: C).Perm (l :: x :: (R ++ C)) := by rw [List.cons_append]; exact List.perm_middle.cons _
    exact (h1.trans (List.Perm.swap ..)).trans h2.symm
  | true =>
    obtain ⟨u, x, _, _, hlt, ⟨R, r1, r2⟩, hh, ⟨C, c1, c2⟩⟩ := exch_high hi hj h
    refine ⟨?_, e1, e2, by rw [hh], by rw [r1.length_eq, r2.length_eq]; rfl⟩
    unfold allL
    rw [hh, List.append_assoc, List.append_assoc]
    refine List.Perm.append_left _ (((c2.append r2).trans ?_).trans (c1.append r1).symm)
    have h1 : (u :: C ++ x :: R).Perm (u :: x :: (C ++ R)) := by rw [List.cons_append]; exact List.perm_middle.cons _
    have h2 : (x :: C ++ u :: R).Perm (x :: u :: (C ++ R)) := by rw [List.cons_append]; exact List.perm_middle.cons _
    exact (h1.trans (List.Perm.swap ..)).trans h2.symm
theorem same_came {w : Wo} {i j : Nat} (hi : i < w.2.length) (hj : j < w.1.length) : Same w (cameW w i j).1 := by
  unfold cameW
  cases h : wordOf (granAt w j) (loadAt w i) with
  | none => exact .refl w
  | some b => exact same_exch hi hj h
theorem okG_exch {w : Wo} {i j : Nat} {b : Bool} (ok : okWs w) (hi : i < w.2.length) (hj : j < w.1.length) (h : wordOf (granAt w j) (loadAt w i) = some b) : okWs (exchW w i j b) := by
  obtain ⟨o1, o2⟩ := ok
  have hx := o2 _ (load_mem hi)
  have hg := o1 _ (gran_mem hj)
  obtain ⟨y, hy, hlt⟩ := word_some h
  have hw := h
  unfold wordOf at hw
  obtain ⟨g1, g2, g3, g4⟩ := hg
  cases hgr : granAt w j with | mk l u =>
  rw [hgr] at hy hw g1 g2 g3 g4
  refine ⟨fun g hm => ?_, fun z hm => ?_⟩
  · have hm : g ∈ w.1.set j (swapG (granAt w j) (loadAt w i) b).1 := hm
    rcases List.mem_or_eq_of_mem_set hm with hm | rfl
    · exact o1 g hm
    · rw [hgr]
      cases b with
      | false =>
        have : l = some y := hy
        subst this
        exact ⟨fun z e => by cases e; exact hx, g2, fun a c e e' => by cases e; have := g3 y c rfl e'; simp at hlt; omega, .inl rfl⟩
      | true =>
        have : u = some y := hy
        subst this
        refine ⟨g1, fun z e => by cases e; exact hx, fun a c e e' => ?_, .inr rfl⟩
        cases e'
        have := g3 a y e rfl
        simp at hlt
        omega
  · have hm : z ∈ w.2.set i ((swapG (granAt w j) (loadAt w i) b).2.getD 0) := hm
    rcases List.mem_or_eq_of_mem_set hm with hm | rfl
    · exact o2 z hm
    · rw [hgr, hy, Option.getD_some]
      cases b with
      | false => exact g1 y hy
      | true => exact g2 y hy
theorem okWs_came {w : Wo} {i j : Nat} (ok : okWs w) (hi : i < w.2.length) (hj : j < w.1.length) : okWs (cameW w i j).1 := by
  unfold cameW
  cases h : wordOf (granAt w j) (loadAt w i) with
  | none => exact ok
  | some b => exact okG_exch ok hi hj h
end VL
namespace VL
open PySem PySem.Spec PyProof.Rows L2
theorem Bx.cle {p : Addr} {N : Int} {c c' : Cs} (h : Bx p N c) (k : CLe c c') : Bx p N c' := by
  obtain ⟨a, b, n, h⟩ := h
  exact ⟨a, b, n, k p _ h.1, h.2⟩
theorem Up.cle {p : Addr} {N : Int} {c c' c'' : Cs} (h : Up p N c c') (k : CLe c' c'') : Up p N c c'' := ⟨h.1.cle k, fun q x z e => k q _ (h.2 q x z e)⟩
/-- a row of exchanges: the world behind, the tolls, how many -/
inductive Led (w : Wo) : Wo → Int → Nat → Prop
  | refl : Led w w 0 0
  | step {w' : Wo} {t : Int} {n i j : Nat} {b : Bool} : Led w w' t n → i < w'.2.length → j < w'.1.length → wordOf (granAt w' j) (loadAt w' i) = some b → Led w (cameW w' i j).1 (t + (cameW w' i j).2.2) (n + 1)
theorem came_some {w : Wo} {i j : Nat} {b : Bool} (h : wordOf (granAt w j) (loadAt w i) = some b) : (cameW w i j).1 = exchW w i j b := by unfold cameW; rw [h]
theorem Led.ok {w w' : Wo} {t : Int} {n : Nat} (h : Led w w' t n) (ok : okWs w) : okWs w' := by
  induction h with
  | refl => exact ok
  | step h hi hj hb ih => exact okWs_came ih hi hj
def c_l_comings (k : Nat) : Ctr := fun ds c Q _ => ∃ (p : Addr) (w : Wo) (m : Nat) (N : Int), ds = [.ptr p, wD w, .int m] ∧ w.1.length ≤ 1000 ∧ w.2.length ≤ 1000 ∧ m ≤ 1000 ∧ 8 ≤ k ∧ Bx p N c ∧ N + 100000 ≤ 70368744177664 ∧
  ∀ (ps : List (Nat × Nat)) c', ps.length ≤ m → (∀ q ∈ ps, q.1 < w.2.length ∧ q.2 < w.1.length) → Up p (N + 100000) c c' → Q (.lst (ps.map cmD)) c'
theorem e_neNil {c : Cs} {l : List D} {Q : DK} (h : fines l = true) (hd : deps l ≤ 60) (q : Q (.bl (!l.isEmpty)) c) : oNe (.lst l) (.lst []) c Q := by
  refine ⟨ok_fine (d := .lst l) (by simpa [fine] using h) (by simp only [dep]; omega), ok_fine (d := .lst []) rfl (by decide), ?_⟩
  show Q (.bl (!deq (.lst l) (.lst []))) c
  rw [deq_nil]
  exact q
def w_l_comings (k : Nat) : WS := (sSeq (sSet 3 (wCall 1 c_l_all_comings k (wCons (wVar 1) wNil))) (sRet (wLc (wRg1 (wIf (wTst (wBin oNe (wVar 3) (wLst wNil))) (wCall 2 c_l_take k (wCons (wVar 0) (wCons (wBin oAdd (wVar 2) (wC (.int 1))) wNil))) (wC (.int 0)))) (.nm 4) wYes (wCall 2 c_l_of k (wCons (wVar 0) (wCons (wVar 3) wNil))) [4])))
theorem p_l_comings (k : Nat) (ds : List D) (c : Cs) (Q : DK) (X0 : XK0) (hlen0 : ds.length = 3) (h : c_l_comings k ds c Q X0) : w_l_comings k (endOf Q) (excOf X0) (enOf 5 ds) c := by
  obtain ⟨p, w, m, N, rfl, hz1, hz2, hm, hk, hb, hN, q⟩ := h
  obtain ⟨k, rfl⟩ : ∃ k', k = k' + 1 := ⟨k - 1, by omega⟩
  simp only [w_l_comings, sRaise, sTry, wIsX, wWhat, wBack, lo_lst, e_mulV, sizeL, sNil, sSeq, sPass, sBrk, sCont, sExpr, sRet, sRetN, sIf, sNever, sSet, sAug, gNm, gTp, gNil', gCons', gSb, sAsg, sPar, sFor, wVar_z, wVar_s, wC, wChn, wTru, sPar3, wRev, wCallK, permF, List.filterMap_cons, List.filterMap_nil, wBin, wUn, wTst, wNot, wAnd, wOr, wAndV, wOrV, wNotV, wIf, wNil, wCons, wTup, wLst, wLstL, wFz, wCall, wBi, wMt, wMt0, wSl, wSlL, wPart, wNoPart, wYes, wSeq, wRg1, wRg2, wEnum, wZip, wLc, wLcL, wLRg, wFld, sFldS, sFldA, gFld, wMeth, wMake, lvl2_s, onB, e_eqI, e_neI, e_eqB, e_neB, e_eqS, e_neS, e_eqN, e_tyLT, e_ty1, isTys, tyMem, tyN_non, tyN_bl, tyN_int, tyN_str, tyN_tup, tyN_lst, Bool.true_or, Bool.or_true, Bool.or_false, Bool.false_or, Bool.not_true, Bool.not_false, inn_non, inn_bl, inn_int, inn_str, inn_tup, inn_lst, inn_ptr, e_slT, e_slL, e_slN, isT_P, isT_L, isT_T, isT_N, e_sub, e_fdiv, e_mod, e_pow, e_lt, e_le, e_gt, e_ge, e_neg, e_add, e_addS, e_addT, e_addL, e_addPP, e_addPL, e_addLP, e_mul, e_mulL, e_mulT, e_augI, e_ixT, e_ixL, e_ixN, e_ixP, e_lenT, e_lenL, e_lenN, e_lenS, e_lenP, e_abs, e_intI, e_intB, e_max, e_min, e_tupL, e_tupT, e_listL, e_listT, e_listN, e_listLL, e_listLT, e_divmod, e_isNon, e_isntNon, e_isB, e_isntB, e_setIx, e_insert, e_append, e_isL, e_isLL, e_seqP, e_seqL, e_seqT, e_seqN, it_lst, it_fz, Option.bind_some, Option.isSome_some, ix10, ix20, ix21, ix30, ix32, dl1, dl2, dl3, List.eraseIdx_cons_zero, e_pop0, e_popAt, e_rev, e_clear, e_tupP, e_listP, e_neN, e_neIN, e_neNI, e_eqIN, e_eqNI, at0, at1, at2, at3, Cell.lst.injEq, Cell.obj.injEq, Option.some.injEq, exists_eq_left', decide_eq_true_eq, true_and, and_true, cup_same, cup_cup, List.flatten_nil, List.flatten_cons, enOf, endOf, excOf, List.map_cons, List.map_nil, List.length_cons, List.length_nil, List.replicate, Nat.reduceAdd, Nat.reduceSub, List.cons_append, List.nil_append, List.set_cons_zero, List.set_cons_succ, List.getElem?_cons_zero, List.getElem?_cons_succ, List.getElem_cons_zero, List.getElem_cons_succ, reduceCtorEq, if_true, if_false, Bool.false_eq_true, decide_true, decide_false, ne_eq, not_true, not_false_eq_true, Int.reduceEq, Nat.reduceMul, true_imp_iff, Int.reduceToNat, Int.reducePow, Nat.reducePow, Int.reduceLE, Int.reduceLT, Nat.reduceLT, and_self, Nat.reduceLeDiff, Int.reduceNeg, Int.reduceAdd, Int.reduceSub, Int.reduceMul, Int.cast_ofNat_Int, lvl_s]
  refine ⟨w, rfl, hz1, hz2, ?_⟩
  simp only [sRaise, sTry, wIsX, wWhat, wBack, lo_lst, e_mulV, sizeL, sNil, sSeq, sPass, sBrk, sCont, sExpr, sRet, sRetN, sIf, sNever, sSet, sAug, gNm, gTp, gNil', gCons', gSb, sAsg, sPar, sFor, wVar_z, wVar_s, wC, wChn, wTru, sPar3, wRev, wCallK, permF, List.filterMap_cons, List.filterMap_nil, wBin, wUn, wTst, wNot, wAnd, wOr, wAndV, wOrV, wNotV, wIf, wNil, wCons, wTup, wLst, wLstL, wFz, wCall, wBi, wMt, wMt0, wSl, wSlL, wPart, wNoPart, wYes, wSeq, wRg1, wRg2, wEnum, wZip, wLc, wLcL, wLRg, wFld, sFldS, sFldA, gFld, wMeth, wMake, lvl2_s, onB, e_eqI, e_neI, e_eqB, e_neB, e_eqS, e_neS, e_eqN, e_tyLT, e_ty1, isTys, tyMem, tyN_non, tyN_bl, tyN_int, tyN_str, tyN_tup, tyN_lst, Bool.true_or, Bool.or_true, Bool.or_false, Bool.false_or, Bool.not_true, Bool.not_false, inn_non, inn_bl, inn_int, inn_str, inn_tup, inn_lst, inn_ptr, e_slT, e_slL, e_slN, isT_P, isT_L, isT_T, isT_N, e_sub, e_fdiv, e_mod, e_pow, e_lt, e_le, e_gt, e_ge, e_neg, e_add, e_addS, e_addT, e_addL, e_addPP, e_addPL, e_addLP, e_mul, e_mulL, e_mulT, e_augI, e_ixT, e_ixL, e_ixN, e_ixP, e_lenT, e_lenL, e_lenN, e_lenS, e_lenP, e_abs, e_intI, e_intB, e_max, e_min, e_tupL, e_tupT, e_listL, e_listT, e_listN, e_listLL, e_listLT, e_divmod, e_isNon, e_isntNon, e_isB, e_isntB, e_setIx, e_insert, e_append, e_isL, e_isLL, e_seqP, e_seqL, e_seqT, e_seqN, it_lst, it_fz, Option.bind_some, Option.isSome_some, ix10, ix20, ix21, ix30, ix32, dl1, dl2, dl3, List.eraseIdx_cons_zero, e_pop0, e_popAt, e_rev, e_clear, e_tupP, e_listP, e_neN, e_neIN, e_neNI, e_eqIN, e_eqNI, at0, at1, at2, at3, Cell.lst.injEq, Cell.obj.injEq, Option.some.injEq, exists_eq_left', decide_eq_true_eq, true_and, and_true, cup_same, cup_cup, List.flatten_nil, List.flatten_cons, enOf, endOf, excOf, List.map_cons, List.map_nil, List.length_cons, List.length_nil, List.replicate, Nat.reduceAdd, Nat.reduceSub, List.cons_append, List.nil_append, List.set_cons_zero, List.set_cons_succ, List.getElem?_cons_zero, List.getElem?_cons_succ, List.getElem_cons_zero, List.getElem_cons_succ, reduceCtorEq, if_true, if_false, Bool.false_eq_true, decide_true, decide_false, ne_eq, not_true, not_false_eq_true, Int.reduceEq, Nat.reduceMul, true_imp_iff, Int.reduceToNat, Int.reducePow, Nat.reducePow, Int.reduceLE, Int.reduceLT, Nat.reduceLT, and_self, Nat.reduceLeDiff, Int.reduceNeg, Int.reduceAdd, Int.reduceSub, Int.reduceMul, Int.cast_ofNat_Int]
  have hf := fines_cm (allC w w.2.length) fun p hp => by
    have := allC_mem hp
    omega
  refine e_neNil hf.1 (by omega) ?_
  simp only [sRaise, sTry, wIsX, wWhat, wBack, lo_lst, e_mulV, sizeL, sNil, sSeq, sPass, sBrk, sCont, sExpr, sRet, sRetN, sIf, sNever, sSet, sAug, gNm, gTp, gNil', gCons', gSb, sAsg, sPar, sFor, wVar_z, wVar_s, wC, wChn, wTru, sPar3, wRev, wCallK, permF, List.filterMap_cons, List.filterMap_nil, wBin, wUn, wTst, wNot, wAnd, wOr, wAndV, wOrV, wNotV, wIf, wNil, wCons, wTup, wLst, wLstL, wFz, wCall, wBi, wMt, wMt0, wSl, wSlL, wPart, wNoPart, wYes, wSeq, wRg1, wRg2, wEnum, wZip, wLc, wLcL, wLRg, wFld, sFldS, sFldA, gFld, wMeth, wMake, lvl2_s, onB, e_eqI, e_neI, e_eqB, e_neB, e_eqS, e_neS, e_eqN, e_tyLT, e_ty1, isTys, tyMem, tyN_non, tyN_bl, tyN_int, tyN_str, tyN_tup, tyN_lst, Bool.true_or, Bool.or_true, Bool.or_false, Bool.false_or, Bool.not_true, Bool.not_false, inn_non, inn_bl, inn_int, inn_str, inn_tup, inn_lst, inn_ptr, e_slT, e_slL, e_slN, isT_P, isT_L, isT_T, isT_N, e_sub, e_fdiv, e_mod, e_pow, e_lt, e_le, e_gt, e_ge, e_neg, e_add, e_addS, e_addT, e_addL, e_addPP, e_addPL, e_addLP, e_mul, e_mulL, e_mulT, e_augI, e_ixT, e_ixL, e_ixN, e_ixP, e_lenT, e_lenL, e_lenN, e_lenS, e_lenP, e_abs, e_intI, e_intB, e_max, e_min, e_tupL, e_tupT, e_listL, e_listT, e_listN, e_listLL, e_listLT, e_divmod, e_isNon, e_isntNon, e_isB, e_isntB, e_setIx, e_insert, e_append, e_isL, e_isLL, e_seqP, e_seqL, e_seqT, e_seqN, it_lst, it_fz, Option.bind_some, Option.isSome_some, ix10, ix20, ix21, ix30, ix32, dl1, dl2, dl3, List.eraseIdx_cons_zero, e_pop0, e_popAt, e_rev, e_clear, e_tupP, e_listP, e_neN, e_neIN, e_neNI, e_eqIN, e_eqNI, at0, at1, at2, at3, Cell.lst.injEq, Cell.obj.injEq, Option.some.injEq, exists_eq_left', decide_eq_true_eq, true_and, and_true, cup_same, cup_cup, List.flatten_nil, List.flatten_cons, enOf, endOf, excOf, List.map_cons, List.map_nil, List.length_cons, List.length_nil, List.replicate, Nat.reduceAdd, Nat.reduceSub, List.cons_append, List.nil_append, List.set_cons_zero, List.set_cons_succ, List.getElem?_cons_zero, List.getElem?_cons_succ, List.getElem_cons_zero, List.getElem_cons_succ, reduceCtorEq, if_true, if_false, Bool.false_eq_true, decide_true, decide_false, ne_eq, not_true, not_false_eq_true, Int.reduceEq, Nat.reduceMul, true_imp_iff, Int.reduceToNat, Int.reducePow, Nat.reducePow, Int.reduceLE, Int.reduceLT, Nat.reduceLT, and_self, Nat.reduceLeDiff, Int.reduceNeg, Int.reduceAdd, Int.reduceSub, Int.reduceMul, Int.cast_ofNat_Int, List.isEmpty_map]
  have body : ∀ (r : Int) (c1 : Cs), 0 ≤ r → r ≤ m → Up p (N + 32) c c1 → (r = 0 ∨ allC w w.2.length ≠ []) → (rgD 0 r).length ≤ 16777216 ∧
      lcW (fun _ => True) (Tg.nm 4) wYes (wCall 2 c_l_of (k + 1) (wCons (wVar 0) (wCons (wVar 3) wNil))) [4] [some (.ptr p), some (wD w), some (.int m), some (.lst ((allC w w.2.length).map cmD)), none] (fun acc c' => ∃ c0, CLe c0 c' ∧ Q (.lst acc) c0) (rgD 0 r) [] c1 := by
    intro r c1 r0 r1 u1 hr
    refine ⟨by rw [rgD0_len]; omega, lc_box (C := 32) (fun d => ∃ q : Nat × Nat, d = cmD q ∧ q.1 < w.2.length ∧ q.2 < w.1.length) (by omega) u1.1 (fun d hd c3 M l1 l2 hu => ⟨trivial, _, rfl, fun Q kk => ?_⟩) fun ps c3 hgl hg u3 => ⟨trivial, ?_⟩⟩
    · rw [rgD0_len] at l2
      simp only [sRaise, sTry, wIsX, wWhat, wBack, lo_lst, e_mulV, sizeL, sNil, sSeq, sPass, sBrk, sCont, sExpr, sRet, sRetN, sIf, sNever, sSet, sAug, gNm, gTp, gNil', gCons', gSb, sAsg, sPar, sFor, wVar_z, wVar_s, wC, wChn, wTru, sPar3, wRev, wCallK, permF, List.filterMap_cons, List.filterMap_nil, wBin, wUn, wTst, wNot, wAnd, wOr, wAndV, wOrV, wNotV, wIf, wNil, wCons, wTup, wLst, wLstL, wFz, wCall, wBi, wMt, wMt0, wSl, wSlL, wPart, wNoPart, wYes, wSeq, wRg1, wRg2, wEnum, wZip, wLc, wLcL, wLRg, wFld, sFldS, sFldA, gFld, wMeth, wMake, lvl2_s, onB, e_eqI, e_neI, e_eqB, e_neB, e_eqS, e_neS, e_eqN, e_tyLT, e_ty1, isTys, tyMem, tyN_non, tyN_bl, tyN_int, tyN_str, tyN_tup, tyN_lst, Bool.true_or, Bool.or_true, Bool.or_false, Bool.false_or, Bool.not_true, Bool.not_false, inn_non, inn_bl, inn_int, inn_str, inn_tup, inn_lst, inn_ptr, e_slT, e_slL, e_slN, isT_P, isT_L, isT_T, isT_N, e_sub, e_fdiv, e_mod, e_pow, e_lt, e_le, e_gt, e_ge, e_neg, e_add, e_addS, e_addT, e_addL, e_addPP, e_addPL, e_addLP, e_mul, e_mulL, e_mulT, e_augI, e_ixT, e_ixL, e_ixN, e_ixP, e_lenT, e_lenL, e_lenN, e_lenS, e_lenP, e_abs, e_intI, e_intB, e_max, e_min, e_tupL, e_tupT, e_listL, e_listT, e_listN, e_listLL, e_listLT, e_divmod, e_isNon, e_isntNon, e_isB, e_isntB, e_setIx, e_insert, e_append, e_isL, e_isLL, e_seqP, e_seqL, e_seqT, e_seqN, it_lst, it_fz, Option.bind_some, Option.isSome_some, ix10, ix20, ix21, ix30, ix32, dl1, dl2, dl3, List.eraseIdx_cons_zero, e_pop0, e_popAt, e_rev, e_clear, e_tupP, e_listP, e_neN, e_neIN, e_neNI, e_eqIN, e_eqNI, at0, at1, at2, at3, Cell.lst.injEq, Cell.obj.injEq, Option.some.injEq, exists_eq_left', decide_eq_true_eq, true_and, and_true, cup_same, cup_cup, List.flatten_nil, List.flatten_cons, enOf, endOf, excOf, List.map_cons, List.map_nil, List.length_cons, List.length_nil, List.replicate, Nat.reduceAdd, Nat.reduceSub, List.cons_append, List.nil_append, List.set_cons_zero, List.set_cons_succ, List.getElem?_cons_zero, List.getElem?_cons_succ, List.getElem_cons_zero, List.getElem_cons_succ, reduceCtorEq, if_true, if_false, Bool.false_eq_true, decide_true, decide_false, ne_eq, not_true, not_false_eq_true, Int.reduceEq, Nat.reduceMul, true_imp_iff, Int.reduceToNat, Int.reducePow, Nat.reducePow, Int.reduceLE, Int.reduceLT, Nat.reduceLT, and_self, Nat.reduceLeDiff, Int.reduceNeg, Int.reduceAdd, Int.reduceSub, Int.reduceMul, Int.cast_ofNat_Int, ewipe, lvl_s]
      have hne : (allC w w.2.length).map cmD ≠ [] := fun e => by
        rcases hr with hr | hr
        · rw [hr] at hd
          simp [rgD] at hd
        · exact hr (List.map_eq_nil_iff.mp e)
      have hl : ((allC w w.2.length).map cmD).length ≤ 1000000 := by
        rw [List.length_map, allC_len]
        exact Nat.mul_le_mul hz2 hz1
      refine ⟨p, _, _, M, rfl, .inl rfl, hne, hl, hu.1, by omega, by omega, fun x c' hx u => kk _ _ ?_ u⟩
      obtain ⟨q, hq, rfl⟩ := List.mem_map.mp hx
      exact ⟨q, rfl, allC_mem hq⟩
    · rw [rgD0_len] at hgl u3
      obtain ⟨ps, rfl, hps⟩ := as_map hg
      rw [List.length_map] at hgl
      exact ⟨c3, CLe.refl _, q ps c3 (by omega) hps ((u1.trans u3).le (by omega))⟩
  split
  · rename_i he
    refine take_us (by omega) (by omega) (by omega) hb (by omega) fun r c1 r0 r1 u1 => ?_
    simp only [sRaise, sTry, wIsX, wWhat, wBack, lo_lst, e_mulV, sizeL, sNil, sSeq, sPass, sBrk, sCont, sExpr, sRet, sRetN, sIf, sNever, sSet, sAug, gNm, gTp, gNil', gCons', gSb, sAsg, sPar, sFor, wVar_z, wVar_s, wC, wChn, wTru, sPar3, wRev, wCallK, permF, List.filterMap_cons, List.filterMap_nil, wBin, wUn, wTst, wNot, wAnd, wOr, wAndV, wOrV, wNotV, wIf, wNil, wCons, wTup, wLst, wLstL, wFz, wCall, wBi, wMt, wMt0, wSl, wSlL, wPart, wNoPart, wYes, wSeq, wRg1, wRg2, wEnum, wZip, wLc, wLcL, wLRg, wFld, sFldS, sFldA, gFld, wMeth, wMake, lvl2_s, onB, e_eqI, e_neI, e_eqB, e_neB, e_eqS, e_neS, e_eqN, e_tyLT, e_ty1, isTys, tyMem, tyN_non, tyN_bl, tyN_int, tyN_str, tyN_tup, tyN_lst, Bool.true_or, Bool.or_true, Bool.or_false, Bool.false_or, Bool.not_true, Bool.not_false, inn_non, inn_bl, inn_int, inn_str, inn_tup, inn_lst, inn_ptr, e_slT, e_slL, e_slN, isT_P, isT_L, isT_T, isT_N, e_sub, e_fdiv, e_mod, e_pow, e_lt, e_le, e_gt, e_ge, e_neg, e_add, e_addS, e_addT, e_addL, e_addPP, e_addPL, e_addLP, e_mul, e_mulL, e_mulT, e_augI, e_ixT, e_ixL, e_ixN, e_ixP, e_lenT, e_lenL, e_lenN, e_lenS, e_lenP, e_abs, e_intI, e_intB, e_max, e_min, e_tupL, e_tupT, e_listL, e_listT, e_listN, e_listLL, e_listLT, e_divmod, e_isNon, e_isntNon, e_isB, e_isntB, e_setIx, e_insert, e_append, e_isL, e_isLL, e_seqP, e_seqL, e_seqT, e_seqN, it_lst, it_fz, Option.bind_some, Option.isSome_some, ix10, ix20, ix21, ix30, ix32, dl1, dl2, dl3, List.eraseIdx_cons_zero, e_pop0, e_popAt, e_rev, e_clear, e_tupP, e_listP, e_neN, e_neIN, e_neNI, e_eqIN, e_eqNI, at0, at1, at2, at3, Cell.lst.injEq, Cell.obj.injEq, Option.some.injEq, exists_eq_left', decide_eq_true_eq, true_and, and_true, cup_same, cup_cup, List.flatten_nil, List.flatten_cons, enOf, endOf, excOf, List.map_cons, List.map_nil, List.length_cons, List.length_nil, List.replicate, Nat.reduceAdd, Nat.reduceSub, List.cons_append, List.nil_append, List.set_cons_zero, List.set_cons_succ, List.getElem?_cons_zero, List.getElem?_cons_succ, List.getElem_cons_zero, List.getElem_cons_succ, reduceCtorEq, if_true, if_false, Bool.false_eq_true, decide_true, decide_false, ne_eq, not_true, not_false_eq_true, Int.reduceEq, Nat.reduceMul, true_imp_iff, Int.reduceToNat, Int.reducePow, Nat.reducePow, Int.reduceLE, Int.reduceLT, Nat.reduceLT, and_self, Nat.reduceLeDiff, Int.reduceNeg, Int.reduceAdd, Int.reduceSub, Int.reduceMul, Int.cast_ofNat_Int]
    refine ⟨by omega, by omega, body r c1 r0 (by omega) u1 (.inr fun e => ?_)⟩
    rw [e] at he
    simp at he
  · exact body 0 c (by omega) (by omega) ((Up.refl hb).le (by omega)) (.inl rfl)
end VL
namespace VL
open PySem PySem.Spec PyProof.Rows L2
theorem wt_int {i : Int} (h : smallI i) : fine (.int i) = true ∧ wt (.int i) ≤ 40 := by
  refine ⟨fine_int ⟨by unfold smallI at h; omega, by unfold smallI at h; omega⟩, ?_⟩
  show i.natAbs.log2 + 2 ≤ 40
  by_cases e : i.natAbs = 0
  · rw [e]; decide
  · have := (Nat.log2_lt (k := 38) e).mpr (by unfold smallI at h; omega)
    omega
theorem oD_fine {o : Option Int} (h : ∀ i, o = some i → smallI i) : fine (oD o) = true ∧ wt (oD o) ≤ 40 := by
  cases o with
  | none => exact ⟨rfl, by decide⟩
  | some i => exact wt_int (h i rfl)
theorem gD_fine {g : Gn} (h : okG g) : fine (gD g) = true ∧ wt (gD g) ≤ 100 := by
  obtain ⟨a1, a2⟩ := oD_fine h.1
  obtain ⟨b1, b2⟩ := oD_fine h.2.1
  refine ⟨by simp [gD, fine, fines, a1, b1], ?_⟩
  simp only [gD, wt, wts]
  omega
theorem ints_fine {l : List Int} (h : ∀ i ∈ l, smallI i) : fines (l.map .int) = true ∧ wts (l.map .int) ≤ l.length * 42 := by
  refine ⟨fines_all.mpr fun d hd => ?_, ?_⟩
  · obtain ⟨i, hi, rfl⟩ := List.mem_map.mp hd
    exact (wt_int (h i hi)).1
  · have := wts_le (l := l.map D.int) (n := 40) fun d hd => by
      obtain ⟨i, hi, rfl⟩ := List.mem_map.mp hd
      exact (wt_int (h i hi)).2
    rwa [List.length_map] at this
theorem gsD_fine {gs : List Gn} (h : ∀ g ∈ gs, okG g) : fine (gsD gs) = true ∧ wt (gsD gs) ≤ gs.length * 102 + 3 := by
  refine ⟨?_, ?_⟩
  · show fines (gs.map gD) = true
    refine fines_all.mpr fun d hd => ?_
    obtain ⟨i, hi, rfl⟩ := List.mem_map.mp hd
    exact (gD_fine (h i hi)).1
  · show wts (gs.map gD) + 3 ≤ _
    have := wts_le (l := gs.map gD) (n := 100) fun d hd => by
      obtain ⟨i, hi, rfl⟩ := List.mem_map.mp hd
      exact (gD_fine (h i hi)).2
    rw [List.length_map] at this
    omega
theorem wD_fine {w : Wo} (h : okWs w) (h1 : w.1.length ≤ 1000) (h2 : w.2.length ≤ 1000) : fine (wD w) = true ∧ wt (wD w) ≤ 200000 := by
  obtain ⟨a1, a2⟩ := gsD_fine h.1
  obtain ⟨b1, b2⟩ := ints_fine h.2
  refine ⟨by simp [wD, fine, fines, a1, b1], ?_⟩
  simp only [wD, wt, wts]
  have : w.1.length * 102 ≤ 102000 := by omega
  have : w.2.length * 42 ≤ 42000 := by omega
  omega
theorem okW.ws {m n : Nat} {w : Wo} (h : okW m n w) : okWs w := ⟨h.2.2.2.1, h.2.2.2.2⟩
theorem lists_use {k : Nat} {x : D} {c : Cs} {Q : DK} {X0 : XK0} (h : pl x = true) (hd : dep x ≤ k) (q : Q (toL x) c) : c_l_lists k [x] c Q X0 := ⟨x, rfl, h, hd, q⟩
def c_lawOf (k : Nat) : Ctr := fun ds c Q _ => ∃ ns : List Int, ds = [.scr ns] ∧ ns.length ≤ 63 ∧ 30 ≤ k ∧ ∀ c', Q (.bl true) c'
def c_rightOf (C : Int) (lv : Nat) (k : Nat) : Ctr := fun ds c Q _ => ∃ (p : Addr) (N : Int), ds = [.ptr p] ∧ lv ≤ k ∧ Bx p N c ∧ N + C ≤ 70368744177664 ∧ ∀ c', Up p (N + C) c c' → Q (.bl true) c'
theorem cells_le {l : List Int} {n : Int} (h : (l.length : Int) ≤ n) : 1 ≤ (if ((l.map D.int).length : Int) > 1 then ((l.map D.int).length : Int) else 1) ∧ ((if ((l.map D.int).length : Int) > 1 then ((l.map D.int).length : Int) else 1) ≤ n ∨ (if ((l.map D.int).length : Int) > 1 then ((l.map D.int).length : Int) else 1) = 1) := by
  rw [List.length_map]
  split <;> omega
end VL
namespace VL
open PySem PySem.Spec PyProof.Rows L2
def goneW : Wo → List (Nat × Nat) → Wo × List (Option (Nat × Bool) × Int)
  | w, [] => (w, [])
  | w, p :: ps => let r := cameW w p.1 p.2; let g := goneW r.1 ps; (g.1, r.2 :: g.2)
theorem goneW_snoc : ∀ (ps : List (Nat × Nat)) (w : Wo) (p : Nat × Nat), goneW w (ps ++ [p]) = ((cameW (goneW w ps).1 p.1 p.2).1, (goneW w ps).2 ++ [(cameW (goneW w ps).1 p.1 p.2).2])
  | [], w, p => rfl
  | q :: ps, w, p => by
    simp only [List.cons_append, goneW, goneW_snoc ps]
def within (w : Wo) (ps : List (Nat × Nat)) : Prop := ∀ q ∈ ps, q.1 < w.2.length ∧ q.2 < w.1.length
theorem gone_same : ∀ {ps : List (Nat × Nat)} {w : Wo}, within w ps → Same w (goneW w ps).1
  | [], w, _ => .refl w
  | p :: ps, w, h => by
    obtain ⟨h1, h2⟩ := h p (List.mem_cons_self ..)
    have s := same_came h1 h2
    refine s.trans (gone_same (ps := ps) fun q hq => ?_)
    rw [s.gran, s.cart]
    exact h q (List.mem_cons_of_mem _ hq)
theorem gone_ok : ∀ {ps : List (Nat × Nat)} {w : Wo}, okWs w → within w ps → okWs (goneW w ps).1
  | [], w, ok, _ => ok
  | p :: ps, w, ok, h => by
    obtain ⟨h1, h2⟩ := h p (List.mem_cons_self ..)
    have s := same_came h1 h2
    refine gone_ok (ps := ps) (okWs_came ok h1 h2) fun q hq => ?_
    rw [s.gran, s.cart]
    exact h q (List.mem_cons_of_mem _ hq)
def toldD (r : Option (Nat × Bool) × Int) : D := .tup [placeD r.1, .int r.2]
/-- th tells the comings ps: pairs or lists of two -/
def CsLike (th : D) (ps : List (Nat × Nat)) : Prop := ∃ l, (th = .lst l ∨ th = .tup l) ∧ l.length = ps.length ∧ ∀ (i : Nat) d q, l[i]? = some d → ps[i]? = some q → d = .tup [.int q.1, .int q.2] ∨ d = .lst [.int q.1, .int q.2]
def w_gone (k : Nat) : WS := (sSeq (sPar 3 4 (wCons (wCall 1 c_as_tuples k (wCons (wVar 0) wNil)) (wCons (wLstL wNil) wNil))) (sSeq (sFor (wSeq (wVar 1)) (.nm 2) (sSeq (sAsg (wCall 2 c_came k (wCons (wVar 3) (wCons (wVar 2) wNil))) (gTp 3 (gCons' (gNm 3) (gCons' (gNm 5) (gCons' (gNm 6) gNil'))))) (sExpr (wMt oAppend (wVar 4) (wCons (wTup (wCons (wVar 5) (wCons (wVar 6) wNil))) wNil))))) (sRet (wTup (wCons (wVar 3) (wCons (wVar 4) wNil))))))
def c_gone (k : Nat) : Ctr := fun ds c Q _ => ∃ (x : D) (w : Wo) (th : D) (ps : List (Nat × Nat)), ds = [x, th] ∧ WLike x w ∧ CsLike th ps ∧ within w ps ∧ 8 ≤ k ∧ w.1.length ≤ 100000 ∧ w.2.length ≤ 100000 ∧ ps.length ≤ 100000 ∧
  ∀ a c', c a = none → CLe c c' → c' a = some (.lst ((goneW w ps).2.map toldD)) → Q (.tup [wD (goneW w ps).1, .ptr a]) c'
theorem p_gone (k : Nat) (ds : List D) (c : Cs) (Q : DK) (X0 : XK0) (hlen0 : ds.length = 2) (h : c_gone k ds c Q X0) : w_gone k (endOf Q) (excOf X0) (enOf 7 ds) c := by
  obtain ⟨x, w, th, ps, rfl, hx, ⟨l, hth, hll, hl⟩, hps, hk, hz1, hz2, hz3, q⟩ := h
  obtain ⟨k, rfl⟩ : ∃ k', k = k' + 1 := ⟨k - 1, by omega⟩
  rcases hth with rfl | rfl
  · simp only [w_gone, sRaise, sTry, wIsX, wWhat, wBack, lo_lst, e_mulV, sizeL, sNil, sSeq, sPass, sBrk, sCont, sExpr, sRet, sRetN, sIf, sNever, sSet, sAug, gNm, gTp, gNil', gCons', gSb, sAsg, sPar, sFor, wVar_z, wVar_s, wC, wChn, wTru, sPar3, wRev, wCallK, permF, List.filterMap_cons, List.filterMap_nil, wBin, wUn, wTst, wNot, wAnd, wOr, wAndV, wOrV, wNotV, wIf, wNil, wCons, wTup, wLst, wLstL, wFz, wCall, wBi, wMt, wMt0, wSl, wSlL, wPart, wNoPart, wYes, wSeq, wRg1, wRg2, wEnum, wZip, wLc, wLcL, wLRg, wFld, sFldS, sFldA, gFld, wMeth, wMake, lvl2_s, onB, e_eqI, e_neI, e_eqB, e_neB, e_eqS, e_neS, e_eqN, e_tyLT, e_ty1, isTys, tyMem, tyN_non, tyN_bl, tyN_int, tyN_str, tyN_tup, tyN_lst, Bool.true_or, Bool.or_true, Bool.or_false, Bool.false_or, Bool.not_true, Bool.not_false, inn_non, inn_bl, inn_int, inn_str, inn_tup, inn_lst, inn_ptr, e_slT, e_slL, e_slN, isT_P, isT_L, isT_T, isT_N, e_sub, e_fdiv, e_mod, e_pow, e_lt, e_le, e_gt, e_ge, e_neg, e_add, e_addS, e_addT, e_addL, e_addPP, e_addPL, e_addLP, e_mul, e_mulL, e_mulT, e_augI, e_ixT, e_ixL, e_ixN, e_ixP, e_lenT, e_lenL, e_lenN, e_lenS, e_lenP, e_abs, e_intI, e_intB, e_max, e_min, e_tupL, e_tupT, e_listL, e_listT, e_listN, e_listLL, e_listLT, e_divmod, e_isNon, e_isntNon, e_isB, e_isntB, e_setIx, e_insert, e_append, e_isL, e_isLL, e_seqP, e_seqL, e_seqT, e_seqN, it_lst, it_fz, Option.bind_some, Option.isSome_some, ix10, ix20, ix21, ix30, ix32, dl1, dl2, dl3, List.eraseIdx_cons_zero, e_pop0, e_popAt, e_rev, e_clear, e_tupP, e_listP, e_neN, e_neIN, e_neNI, e_eqIN, e_eqNI, at0, at1, at2, at3, Cell.lst.injEq, Cell.obj.injEq, Option.some.injEq, exists_eq_left', decide_eq_true_eq, true_and, and_true, cup_same, cup_cup, List.flatten_nil, List.flatten_cons, enOf, endOf, excOf, List.map_cons, List.map_nil, List.length_cons, List.length_nil, List.replicate, Nat.reduceAdd, Nat.reduceSub, List.cons_append, List.nil_append, List.set_cons_zero, List.set_cons_succ, List.getElem?_cons_zero, List.getElem?_cons_succ, List.getElem_cons_zero, List.getElem_cons_succ, reduceCtorEq, if_true, if_false, Bool.false_eq_true, decide_true, decide_false, ne_eq, not_true, not_false_eq_true, Int.reduceEq, Nat.reduceMul, true_imp_iff, Int.reduceToNat, Int.reducePow, Nat.reducePow, Int.reduceLE, Int.reduceLT, Nat.reduceLT, and_self, Nat.reduceLeDiff, Int.reduceNeg, Int.reduceAdd, Int.reduceSub, Int.reduceMul, Int.cast_ofNat_Int]
    refine as_tuples_use (by omega) hx ?_
    intro a ha _
    refine loop_inv (fun i en c' => (∃ o4 o5 o6, en = [some x, some (.lst l), o4, some (wD (goneW w (ps.take i)).1), some (.ptr a), o5, o6]) ∧ i ≤ ps.length ∧ c' = cup c a (.lst ((goneW w (ps.take i)).2.map toldD))) ⟨⟨_, _, _, rfl⟩, by omega, rfl⟩ ?_ ?_
    · rintro i en c' d hd ⟨⟨o4, o5, o6, rfl⟩, hi, rfl⟩
      have hlt := (List.getElem?_eq_some_iff.mp hd).1
      have hq : ps[i]? = some (ps[i]'(by omega)) := List.getElem?_eq_getElem (by omega)
      have hcm := hl i d _ hd hq
      have sm := gone_same (w := w) (ps := ps.take i) fun q hq => hps q (List.mem_of_mem_take hq)
      have hin := hps _ (List.mem_of_getElem? hq)
      have e1 := sm.gran
      have e2 := sm.cart
      have nxt : ps.take (i + 1) = ps.take i ++ [ps[i]'(by omega)] := by rw [List.take_succ, hq]; rfl
      have tl : (goneW w (ps.take i)).2.length = i := by
        have : ∀ (ps : List (Nat × Nat)) (w : Wo), (goneW w ps).2.length = ps.length := fun ps => by
          induction ps with
          | nil => intro w; rfl
          | cons p ps ih => intro w; simp [goneW, ih]
        rw [this, List.length_take]; omega
      refine ⟨trivial, _, rfl, fun D1 h5 h6 h7 h8 => ?_⟩
      simp only [sRaise, sTry, wIsX, wWhat, wBack, lo_lst, e_mulV, sizeL, sNil, sSeq, sPass, sBrk, sCont, sExpr, sRet, sRetN, sIf, sNever, sSet, sAug, gNm, gTp, gNil', gCons', gSb, sAsg, sPar, sFor, wVar_z, wVar_s, wC, wChn, wTru, sPar3, wRev, wCallK, permF, List.filterMap_cons, List.filterMap_nil, wBin, wUn, wTst, wNot, wAnd, wOr, wAndV, wOrV, wNotV, wIf, wNil, wCons, wTup, wLst, wLstL, wFz, wCall, wBi, wMt, wMt0, wSl, wSlL, wPart, wNoPart, wYes, wSeq, wRg1, wRg2, wEnum, wZip, wLc, wLcL, wLRg, wFld, sFldS, sFldA, gFld, wMeth, wMake, lvl2_s, onB, e_eqI, e_neI, e_eqB, e_neB, e_eqS, e_neS, e_eqN, e_tyLT, e_ty1, isTys, tyMem, tyN_non, tyN_bl, tyN_int, tyN_str, tyN_tup, tyN_lst, Bool.true_or, Bool.or_true, Bool.or_false, Bool.false_or, Bool.not_true, Bool.not_false, inn_non, inn_bl, inn_int, inn_str, inn_tup, inn_lst, inn_ptr, e_slT, e_slL, e_slN, isT_P, isT_L, isT_T, isT_N, e_sub, e_fdiv, e_mod, e_pow, e_lt, e_le, e_gt, e_ge, e_neg, e_add, e_addS, e_addT, e_addL, e_addPP, e_addPL, e_addLP, e_mul, e_mulL, e_mulT, e_augI, e_ixT, e_ixL, e_ixN, e_ixP, e_lenT, e_lenL, e_lenN, e_lenS, e_lenP, e_abs, e_intI, e_intB, e_max, e_min, e_tupL, e_tupT, e_listL, e_listT, e_listN, e_listLL, e_listLT, e_divmod, e_isNon, e_isntNon, e_isB, e_isntB, e_setIx, e_insert, e_append, e_isL, e_isLL, e_seqP, e_seqL, e_seqT, e_seqN, it_lst, it_fz, Option.bind_some, Option.isSome_some, ix10, ix20, ix21, ix30, ix32, dl1, dl2, dl3, List.eraseIdx_cons_zero, e_pop0, e_popAt, e_rev, e_clear, e_tupP, e_listP, e_neN, e_neIN, e_neNI, e_eqIN, e_eqNI, at0, at1, at2, at3, Cell.lst.injEq, Cell.obj.injEq, Option.some.injEq, exists_eq_left', decide_eq_true_eq, true_and, and_true, cup_same, cup_cup, List.flatten_nil, List.flatten_cons, enOf, endOf, excOf, List.map_cons, List.map_nil, List.length_cons, List.length_nil, List.replicate, Nat.reduceAdd, Nat.reduceSub, List.cons_append, List.nil_append, List.set_cons_zero, List.set_cons_succ, List.getElem?_cons_zero, List.getElem?_cons_succ, List.getElem_cons_zero, List.getElem_cons_succ, reduceCtorEq, if_true, if_false, Bool.false_eq_true, decide_true, decide_false, ne_eq, not_true, not_false_eq_true, Int.reduceEq, Nat.reduceMul, true_imp_iff, Int.reduceToNat, Int.reducePow, Nat.reducePow, Int.reduceLE, Int.reduceLT, Nat.reduceLT, and_self, Nat.reduceLeDiff, Int.reduceNeg, Int.reduceAdd, Int.reduceSub, Int.reduceMul, Int.cast_ofNat_Int, lvl_s]
      refine ⟨_, (goneW w (ps.take i)).1, (ps[i]'(by omega)).1, (ps[i]'(by omega)).2, d, rfl, .self _, ⟨hcm, by omega, by omega⟩, by omega, by omega, by omega, ?_⟩
      simp only [cameD, sRaise, sTry, wIsX, wWhat, wBack, lo_lst, e_mulV, sizeL, sNil, sSeq, sPass, sBrk, sCont, sExpr, sRet, sRetN, sIf, sNever, sSet, sAug, gNm, gTp, gNil', gCons', gSb, sAsg, sPar, sFor, wVar_z, wVar_s, wC, wChn, wTru, sPar3, wRev, wCallK, permF, List.filterMap_cons, List.filterMap_nil, wBin, wUn, wTst, wNot, wAnd, wOr, wAndV, wOrV, wNotV, wIf, wNil, wCons, wTup, wLst, wLstL, wFz, wCall, wBi, wMt, wMt0, wSl, wSlL, wPart, wNoPart, wYes, wSeq, wRg1, wRg2, wEnum, wZip, wLc, wLcL, wLRg, wFld, sFldS, sFldA, gFld, wMeth, wMake, lvl2_s, onB, e_eqI, e_neI, e_eqB, e_neB, e_eqS, e_neS, e_eqN, e_tyLT, e_ty1, isTys, tyMem, tyN_non, tyN_bl, tyN_int, tyN_str, tyN_tup, tyN_lst, Bool.true_or, Bool.or_true, Bool.or_false, Bool.false_or, Bool.not_true, Bool.not_false, inn_non, inn_bl, inn_int, inn_str, inn_tup, inn_lst, inn_ptr, e_slT, e_slL, e_slN, isT_P, isT_L, isT_T, isT_N, e_sub, e_fdiv, e_mod, e_pow, e_lt, e_le, e_gt, e_ge, e_neg, e_add, e_addS, e_addT, e_addL, e_addPP, e_addPL, e_addLP, e_mul, e_mulL, e_mulT, e_augI, e_ixT, e_ixL, e_ixN, e_ixP, e_lenT, e_lenL, e_lenN, e_lenS, e_lenP, e_abs, e_intI, e_intB, e_max, e_min, e_tupL, e_tupT, e_listL, e_listT, e_listN, e_listLL, e_listLT, e_divmod, e_isNon, e_isntNon, e_isB, e_isntB, e_setIx, e_insert, e_append, e_isL, e_isLL, e_seqP, e_seqL, e_seqT, e_seqN, it_lst, it_fz, Option.bind_some, Option.isSome_some, ix10, ix20, ix21, ix30, ix32, dl1, dl2, dl3, List.eraseIdx_cons_zero, e_pop0, e_popAt, e_rev, e_clear, e_tupP, e_listP, e_neN, e_neIN, e_neNI, e_eqIN, e_eqNI, at0, at1, at2, at3, Cell.lst.injEq, Cell.obj.injEq, Option.some.injEq, exists_eq_left', decide_eq_true_eq, true_and, and_true, cup_same, cup_cup, List.flatten_nil, List.flatten_cons, enOf, endOf, excOf, List.map_cons, List.map_nil, List.length_cons, List.length_nil, List.replicate, Nat.reduceAdd, Nat.reduceSub, List.cons_append, List.nil_append, List.set_cons_zero, List.set_cons_succ, List.getElem?_cons_zero, List.getElem?_cons_succ, List.getElem_cons_zero, List.getElem_cons_succ, reduceCtorEq, if_true, if_false, Bool.false_eq_true, decide_true, decide_false, ne_eq, not_true, not_false_eq_true, Int.reduceEq, Nat.reduceMul, true_imp_iff, Int.reduceToNat, Int.reducePow, Nat.reducePow, Int.reduceLE, Int.reduceLT, Nat.reduceLT, and_self, Nat.reduceLeDiff, Int.reduceNeg, Int.reduceAdd, Int.reduceSub, Int.reduceMul, Int.cast_ofNat_Int, List.length_map]
      refine ⟨by omega, h5 _ _ ⟨⟨some d, some (placeD (cameW (goneW w (ps.take i)).1 (ps[i]'(by omega)).1 (ps[i]'(by omega)).2).2.1), some (.int (cameW (goneW w (ps.take i)).1 (ps[i]'(by omega)).1 (ps[i]'(by omega)).2).2.2), ?_⟩, by omega, ?_⟩⟩
      · rw [nxt, goneW_snoc]
      · rw [nxt, goneW_snoc, List.map_append]
        rfl
    · rintro en c' ⟨⟨o4, o5, o6, rfl⟩, _, rfl⟩
      refine ⟨trivial, ?_⟩
      simp only [sRaise, sTry, wIsX, wWhat, wBack, lo_lst, e_mulV, sizeL, sNil, sSeq, sPass, sBrk, sCont, sExpr, sRet, sRetN, sIf, sNever, sSet, sAug, gNm, gTp, gNil', gCons', gSb, sAsg, sPar, sFor, wVar_z, wVar_s, wC, wChn, wTru, sPar3, wRev, wCallK, permF, List.filterMap_cons, List.filterMap_nil, wBin, wUn, wTst, wNot, wAnd, wOr, wAndV, wOrV, wNotV, wIf, wNil, wCons, wTup, wLst, wLstL, wFz, wCall, wBi, wMt, wMt0, wSl, wSlL, wPart, wNoPart, wYes, wSeq, wRg1, wRg2, wEnum, wZip, wLc, wLcL, wLRg, wFld, sFldS, sFldA, gFld, wMeth, wMake, lvl2_s, onB, e_eqI, e_neI, e_eqB, e_neB, e_eqS, e_neS, e_eqN, e_tyLT, e_ty1, isTys, tyMem, tyN_non, tyN_bl, tyN_int, tyN_str, tyN_tup, tyN_lst, Bool.true_or, Bool.or_true, Bool.or_false, Bool.false_or, Bool.not_true, Bool.not_false, inn_non, inn_bl, inn_int, inn_str, inn_tup, inn_lst, inn_ptr, e_slT, e_slL, e_slN, isT_P, isT_L, isT_T, isT_N, e_sub, e_fdiv, e_mod, e_pow, e_lt, e_le, e_gt, e_ge, e_neg, e_add, e_addS, e_addT, e_addL, e_addPP, e_addPL, e_addLP, e_mul, e_mulL, e_mulT, e_augI, e_ixT, e_ixL, e_ixN, e_ixP, e_lenT, e_lenL, e_lenN, e_lenS, e_lenP, e_abs, e_intI, e_intB, e_max, e_min, e_tupL, e_tupT, e_listL, e_listT, e_listN, e_listLL, e_listLT, e_divmod, e_isNon, e_isntNon, e_isB, e_isntB, e_setIx, e_insert, e_append, e_isL, e_isLL, e_seqP, e_seqL, e_seqT, e_seqN, it_lst, it_fz, Option.bind_some, Option.isSome_some, ix10, ix20, ix21, ix30, ix32, dl1, dl2, dl3, List.eraseIdx_cons_zero, e_pop0, e_popAt, e_rev, e_clear, e_tupP, e_listP, e_neN, e_neIN, e_neNI, e_eqIN, e_eqNI, at0, at1, at2, at3, Cell.lst.injEq, Cell.obj.injEq, Option.some.injEq, exists_eq_left', decide_eq_true_eq, true_and, and_true, cup_same, cup_cup, List.flatten_nil, List.flatten_cons, enOf, endOf, excOf, List.map_cons, List.map_nil, List.length_cons, List.length_nil, List.replicate, Nat.reduceAdd, Nat.reduceSub, List.cons_append, List.nil_append, List.set_cons_zero, List.set_cons_succ, List.getElem?_cons_zero, List.getElem?_cons_succ, List.getElem_cons_zero, List.getElem_cons_succ, reduceCtorEq, if_true, if_false, Bool.false_eq_true, decide_true, decide_false, ne_eq, not_true, not_false_eq_true, Int.reduceEq, Nat.reduceMul, true_imp_iff, Int.reduceToNat, Int.reducePow, Nat.reducePow, Int.reduceLE, Int.reduceLT, Nat.reduceLT, and_self, Nat.reduceLeDiff, Int.reduceNeg, Int.reduceAdd, Int.reduceSub, Int.reduceMul, Int.cast_ofNat_Int]
      rw [hll, List.take_length]
      exact ⟨_, CLe.refl _, q a _ ha (CLe.cup_new ha) cup_same⟩
  · simp only [w_gone, sRaise, sTry, wIsX, wWhat, wBack, lo_lst, e_mulV, sizeL, sNil, sSeq, sPass, sBrk, sCont, sExpr, sRet, sRetN, sIf, sNever, sSet, sAug, gNm, gTp, gNil', gCons', gSb, sAsg, sPar, sFor, wVar_z, wVar_s, wC, wChn, wTru, sPar3, wRev, wCallK, permF, List.filterMap_cons, List.filterMap_nil, wBin, wUn, wTst, wNot, wAnd, wOr, wAndV, wOrV, wNotV, wIf, wNil, wCons, wTup, wLst, wLstL, wFz, wCall, wBi, wMt, wMt0, wSl, wSlL, wPart, wNoPart, wYes, wSeq, wRg1, wRg2, wEnum, wZip, wLc, wLcL, wLRg, wFld, sFldS, sFldA, gFld, wMeth, wMake, lvl2_s, onB, e_eqI, e_neI, e_eqB, e_neB, e_eqS, e_neS, e_eqN, e_tyLT, e_ty1, isTys, tyMem, tyN_non, tyN_bl, tyN_int, tyN_str, tyN_tup, tyN_lst, Bool.true_or, Bool.or_true, Bool.or_false, Bool.false_or, Bool.not_true, Bool.not_false, inn_non, inn_bl, inn_int, inn_str, inn_tup, inn_lst, inn_ptr, e_slT, e_slL, e_slN, isT_P, isT_L, isT_T, isT_N, e_sub, e_fdiv, e_mod, e_pow, e_lt, e_le, e_gt, e_ge, e_neg, e_add, e_addS, e_addT, e_addL, e_addPP, e_addPL, e_addLP, e_mul, e_mulL, e_mulT, e_augI, e_ixT, e_ixL, e_ixN, e_ixP, e_lenT, e_lenL, e_lenN, e_lenS, e_lenP, e_abs, e_intI, e_intB, e_max, e_min, e_tupL, e_tupT, e_listL, e_listT, e_listN, e_listLL, e_listLT, e_divmod, e_isNon, e_isntNon, e_isB, e_isntB, e_setIx, e_insert, e_append, e_isL, e_isLL, e_seqP, e_seqL, e_seqT, e_seqN, it_lst, it_fz, Option.bind_some, Option.isSome_some, ix10, ix20, ix21, ix30, ix32, dl1, dl2, dl3, List.eraseIdx_cons_zero, e_pop0, e_popAt, e_rev, e_clear, e_tupP, e_listP, e_neN, e_neIN, e_neNI, e_eqIN, e_eqNI, at0, at1, at2, at3, Cell.lst.injEq, Cell.obj.injEq, Option.some.injEq, exists_eq_left', decide_eq_true_eq, true_and, and_true, cup_same, cup_cup, List.flatten_nil, List.flatten_cons, enOf, endOf, excOf, List.map_cons, List.map_nil, List.length_cons, List.length_nil, List.replicate, Nat.reduceAdd, Nat.reduceSub, List.cons_append, List.nil_append, List.set_cons_zero, List.set_cons_succ, List.getElem?_cons_zero, List.getElem?_cons_succ, List.getElem_cons_zero, List.getElem_cons_succ, reduceCtorEq, if_true, if_false, Bool.false_eq_true, decide_true, decide_false, ne_eq, not_true, not_false_eq_true, Int.reduceEq, Nat.reduceMul, true_imp_iff, Int.reduceToNat, Int.reducePow, Nat.reducePow, Int.reduceLE, Int.reduceLT, Nat.reduceLT, and_self, Nat.reduceLeDiff, Int.reduceNeg, Int.reduceAdd, Int.reduceSub, Int.reduceMul, Int.cast_ofNat_Int]
    refine as_tuples_use (by omega) hx ?_
    intro a ha _
    refine loop_inv (fun i en c' => (∃ o4 o5 o6, en = [some x, some (.tup l), o4, some (wD (goneW w (ps.take i)).1), some (.ptr a), o5, o6]) ∧ i ≤ ps.length ∧ c' = cup c a (.lst ((goneW w (ps.take i)).2.map toldD))) ⟨⟨_, _, _, rfl⟩, by omega, rfl⟩ ?_ ?_
    · rintro i en c' d hd ⟨⟨o4, o5, o6, rfl⟩, hi, rfl⟩
      have hlt := (List.getElem?_eq_some_iff.mp hd).1
      have hq : ps[i]? = some (ps[i]'(by omega)) := List.getElem?_eq_getElem (by omega)
      have hcm := hl i d _ hd hq
      have sm := gone_same (w := w) (ps := ps.take i) fun q hq => hps q (List.mem_of_mem_take hq)
      have hin := hps _ (List.mem_of_getElem? hq)
      have e1 := sm.gran
      have e2 := sm.cart
      have nxt : ps.take (i + 1) = ps.take i ++ [ps[i]'(by omega)] := by rw [List.take_succ, hq]; rfl
      have tl : (goneW w (ps.take i)).2.length = i := by
        have : ∀ (ps : List (Nat × Nat)) (w : Wo), (goneW w ps).2.length = ps.length := fun ps => by
          induction ps with
          | nil => intro w; rfl
          | cons p ps ih => intro w; simp [goneW, ih]
        rw [this, List.length_take]; omega
      refine ⟨trivial, _, rfl, fun D1 h5 h6 h7 h8 => ?_⟩
      simp only [sRaise, sTry, wIsX, wWhat, wBack, lo_lst, e_mulV, sizeL, sNil, sSeq, sPass, sBrk, sCont, sExpr, sRet, sRetN, sIf, sNever, sSet, sAug, gNm, gTp, gNil', gCons', gSb, sAsg, sPar, sFor, wVar_z, wVar_s, wC, wChn, wTru, sPar3, wRev, wCallK, permF, List.filterMap_cons, List.filterMap_nil, wBin, wUn, wTst, wNot, wAnd, wOr, wAndV, wOrV, wNotV, wIf, wNil, wCons, wTup, wLst, wLstL, wFz, wCall, wBi, wMt, wMt0, wSl, wSlL, wPart, wNoPart, wYes, wSeq, wRg1, wRg2, wEnum, wZip, wLc, wLcL, wLRg, wFld, sFldS, sFldA, gFld, wMeth, wMake, lvl2_s, onB, e_eqI, e_neI, e_eqB, e_neB, e_eqS, e_neS, e_eqN, e_tyLT, e_ty1, isTys, tyMem, tyN_non, tyN_bl, tyN_int, tyN_str, tyN_tup, tyN_lst, Bool.true_or, Bool.or_true, Bool.or_false, Bool.false_or, Bool.not_true, Bool.not_false, inn_non, inn_bl, inn_int, inn_str, inn_tup, inn_lst, inn_ptr, e_slT, e_slL, e_slN, isT_P, isT_L, isT_T, isT_N, e_sub, e_fdiv, e_mod, e_pow, e_lt, e_le, e_gt, e_ge, e_neg, e_add, e_addS, e_addT, e_addL, e_addPP, e_addPL, e_addLP, e_mul, e_mulL, e_mulT, e_augI, e_ixT, e_ixL, e_ixN, e_ixP, e_lenT, e_lenL, e_lenN, e_lenS, e_lenP, e_abs, e_intI, e_intB, e_max, e_min, e_tupL, e_tupT, e_listL, e_listT, e_listN, e_listLL, e_listLT, e_divmod, e_isNon, e_isntNon, e_isB, e_isntB, e_setIx, e_insert, e_append, e_isL, e_isLL, e_seqP, e_seqL, e_seqT, e_seqN, it_lst, it_fz, Option.bind_some, Option.isSome_some, ix10, ix20, ix21, ix30, ix32, dl1, dl2, dl3, List.eraseIdx_cons_zero, e_pop0, e_popAt, e_rev, e_clear, e_tupP, e_listP, e_neN, e_neIN, e_neNI, e_eqIN, e_eqNI, at0, at1, at2, at3, Cell.lst.injEq, Cell.obj.injEq, Option.some.injEq, exists_eq_left', decide_eq_true_eq, true_and, and_true, cup_same, cup_cup, List.flatten_nil, List.flatten_cons, enOf, endOf, excOf, List.map_cons, List.map_nil, List.length_cons, List.length_nil, List.replicate, Nat.reduceAdd, Nat.reduceSub, List.cons_append, List.nil_append, List.set_cons_zero, List.set_cons_succ, List.getElem?_cons_zero, List.getElem?_cons_succ, List.getElem_cons_zero, List.getElem_cons_succ, reduceCtorEq, if_true, if_false, Bool.false_eq_true, decide_true, decide_false, ne_eq, not_true, not_false_eq_true, Int.reduceEq, Nat.reduceMul, true_imp_iff, Int.reduceToNat, Int.reducePow, Nat.reducePow, Int.reduceLE, Int.reduceLT, Nat.reduceLT, and_self, Nat.reduceLeDiff, Int.reduceNeg, Int.reduceAdd, Int.reduceSub, Int.reduceMul, Int.cast_ofNat_Int, lvl_s]
      refine ⟨_, (goneW w (ps.take i)).1, (ps[i]'(by omega)).1, (ps[i]'(by omega)).2, d, rfl, .self _, ⟨hcm, by omega, by omega⟩, by omega, by omega, by omega, ?_⟩
      simp only [cameD, sRaise, sTry, wIsX, wWhat, wBack, lo_lst, e_mulV, sizeL, sNil, sSeq, sPass, sBrk, sCont, sExpr, sRet, sRetN, sIf, sNever, sSet, sAug, gNm, gTp, gNil', gCons', gSb, sAsg, sPar, sFor, wVar_z, wVar_s, wC, wChn, wTru, sPar3, wRev, wCallK, permF, List.filterMap_cons, List.filterMap_nil, wBin, wUn, wTst, wNot, wAnd, wOr, wAndV, wOrV, wNotV, wIf, wNil, wCons, wTup, wLst, wLstL, wFz, wCall, wBi, wMt, wMt0, wSl, wSlL, wPart, wNoPart, wYes, wSeq, wRg1, wRg2, wEnum, wZip, wLc, wLcL, wLRg, wFld, sFldS, sFldA, gFld, wMeth, wMake, lvl2_s, onB, e_eqI, e_neI, e_eqB, e_neB, e_eqS, e_neS, e_eqN, e_tyLT, e_ty1, isTys, tyMem, tyN_non, tyN_bl, tyN_int, tyN_str, tyN_tup, tyN_lst, Bool.true_or, Bool.or_true, Bool.or_false, Bool.false_or, Bool.not_true, Bool.not_false, inn_non, inn_bl, inn_int, inn_str, inn_tup, inn_lst, inn_ptr, e_slT, e_slL, e_slN, isT_P, isT_L, isT_T, isT_N, e_sub, e_fdiv, e_mod, e_pow, e_lt, e_le, e_gt, e_ge, e_neg, e_add, e_addS, e_addT, e_addL, e_addPP, e_addPL, e_addLP, e_mul, e_mulL, e_mulT, e_augI, e_ixT, e_ixL, e_ixN, e_ixP, e_lenT, e_lenL, e_lenN, e_lenS, e_lenP, e_abs, e_intI, e_intB, e_max, e_min, e_tupL, e_tupT, e_listL, e_listT, e_listN, e_listLL, e_listLT, e_divmod, e_isNon, e_isntNon, e_isB, e_isntB, e_setIx, e_insert, e_append, e_isL, e_isLL, e_seqP, e_seqL, e_seqT, e_seqN, it_lst, it_fz, Option.bind_some, Option.isSome_some, ix10, ix20, ix21, ix30, ix32, dl1, dl2, dl3, List.eraseIdx_cons_zero, e_pop0, e_popAt, e_rev, e_clear, e_tupP, e_listP, e_neN, e_neIN, e_neNI, e_eqIN, e_eqNI, at0, at1, at2, at3, Cell.lst.injEq, Cell.obj.injEq, Option.some.injEq, exists_eq_left', decide_eq_true_eq, true_and, and_true, cup_same, cup_cup, List.flatten_nil, List.flatten_cons, enOf, endOf, excOf, List.map_cons, List.map_nil, List.length_cons, List.length_nil, List.replicate, Nat.reduceAdd, Nat.reduceSub, List.cons_append, List.nil_append, List.set_cons_zero, List.set_cons_succ, List.getElem?_cons_zero, List.getElem?_cons_succ, List.getElem_cons_zero, List.getElem_cons_succ, reduceCtorEq, if_true, if_false, Bool.false_eq_true, decide_true, decide_false, ne_eq, not_true, not_false_eq_true, Int.reduceEq, Nat.reduceMul, true_imp_iff, Int.reduceToNat, Int.reducePow, Nat.reducePow, Int.reduceLE, Int.reduceLT, Nat.reduceLT, and_self, Nat.reduceLeDiff, Int.reduceNeg, Int.reduceAdd, Int.reduceSub, Int.reduceMul, Int.cast_ofNat_Int, List.length_map]
      refine ⟨by omega, h5 _ _ ⟨⟨some d, some (placeD (cameW (goneW w (ps.take i)).1 (ps[i]'(by omega)).1 (ps[i]'(by omega)).2).2.1), some (.int (cameW (goneW w (ps.take i)).1 (ps[i]'(by omega)).1 (ps[i]'(by omega)).2).2.2), ?_⟩, by omega, ?_⟩⟩
      · rw [nxt, goneW_snoc]
      · rw [nxt, goneW_snoc, List.map_append]
        rfl
    · rintro en c' ⟨⟨o4, o5, o6, rfl⟩, _, rfl⟩
      refine ⟨trivial, ?_⟩
      simp only [sRaise, sTry, wIsX, wWhat, wBack, lo_lst, e_mulV, sizeL, sNil, sSeq, sPass, sBrk, sCont, sExpr, sRet, sRetN, sIf, sNever, sSet, sAug, gNm, gTp, gNil', gCons', gSb, sAsg, sPar, sFor, wVar_z, wVar_s, wC, wChn, wTru, sPar3, wRev, wCallK, permF, List.filterMap_cons, List.filterMap_nil, wBin, wUn, wTst, wNot, wAnd, wOr, wAndV, wOrV, wNotV, wIf, wNil, wCons, wTup, wLst, wLstL, wFz, wCall, wBi, wMt, wMt0, wSl, wSlL, wPart, wNoPart, wYes, wSeq, wRg1, wRg2, wEnum, wZip, wLc, wLcL, wLRg, wFld, sFldS, sFldA, gFld, wMeth, wMake, lvl2_s, onB, e_eqI, e_neI, e_eqB, e_neB, e_eqS, e_neS, e_eqN, e_tyLT, e_ty1, isTys, tyMem, tyN_non, tyN_bl, tyN_int, tyN_str, tyN_tup, tyN_lst, Bool.true_or, Bool.or_true, Bool.or_false, Bool.false_or, Bool.not_true, Bool.not_false, inn_non, inn_bl, inn_int, inn_str, inn_tup, inn_lst, inn_ptr, e_slT, e_slL, e_slN, isT_P, isT_L, isT_T, isT_N, e_sub, e_fdiv, e_mod, e_pow, e_lt, e_le, e_gt, e_ge, e_neg, e_add, e_addS, e_addT, e_addL, e_addPP, e_addPL, e_addLP, e_mul, e_mulL, e_mulT, e_augI, e_ixT, e_ixL, e_ixN, e_ixP, e_lenT, e_lenL, e_lenN, e_lenS, e_lenP, e_abs, e_intI, e_intB, e_max, e_min, e_tupL, e_tupT, e_listL, e_listT, e_listN, e_listLL, e_listLT, e_divmod, e_isNon, e_isntNon, e_isB, e_isntB, e_setIx, e_insert, e_append, e_isL, e_isLL, e_seqP, e_seqL, e_seqT, e_seqN, it_lst, it_fz, Option.bind_some, Option.isSome_some, ix10, ix20, ix21, ix30, ix32, dl1, dl2, dl3, List.eraseIdx_cons_zero, e_pop0, e_popAt, e_rev, e_clear, e_tupP, e_listP, e_neN, e_neIN, e_neNI, e_eqIN, e_eqNI, at0, at1, at2, at3, Cell.lst.injEq, Cell.obj.injEq, Option.some.injEq, exists_eq_left', decide_eq_true_eq, true_and, and_true, cup_same, cup_cup, List.flatten_nil, List.flatten_cons, enOf, endOf, excOf, List.map_cons, List.map_nil, List.length_cons, List.length_nil, List.replicate, Nat.reduceAdd, Nat.reduceSub, List.cons_append, List.nil_append, List.set_cons_zero, List.set_cons_succ, List.getElem?_cons_zero, List.getElem?_cons_succ, List.getElem_cons_zero, List.getElem_cons_succ, reduceCtorEq, if_true, if_false, Bool.false_eq_true, decide_true, decide_false, ne_eq, not_true, not_false_eq_true, Int.reduceEq, Nat.reduceMul, true_imp_iff, Int.reduceToNat, Int.reducePow, Nat.reducePow, Int.reduceLE, Int.reduceLT, Nat.reduceLT, and_self, Nat.reduceLeDiff, Int.reduceNeg, Int.reduceAdd, Int.reduceSub, Int.reduceMul, Int.cast_ofNat_Int]
      rw [hll, List.take_length]
      exact ⟨_, CLe.refl _, q a _ ha (CLe.cup_new ha) cup_same⟩
end VL
namespace VL
open PySem PySem.Spec PyProof.Rows L2
def ordG (g : Gn) : Prop := ∀ l h, g.1 = some l → g.2 = some h → l ≤ h
theorem okG.ord {g : Gn} (h : okG g) : ordG g := h.2.2.1
end VL
set_option maxHeartbeats 1000000
namespace VL
open PySem PySem.Spec PyProof.Rows L2
/-- three new lists -/
structure Thr (c c' : Cs) (a b d : Addr) (A B C : List Int) : Prop where
  ab : a ≠ b
  ad : a ≠ d
  bd : b ≠ d
  fa : c a = none
  fb : c b = none
  fd : c d = none
  le : CLe c c'
  ha : c' a = some (.lst (A.map .int))
  hb : c' b = some (.lst (B.map .int))
  hd : c' d = some (.lst (C.map .int))
theorem Thr.rd {c c' c2 : Cs} {a b d : Addr} {A B C : List Int} (h : Thr c c' a b d A B C) (k : CLe c' c2) : RdE c2 (.tup [.ptr a, .ptr b, .ptr d]) (.tup [.lst (A.map .int), .lst (B.map .int), .lst (C.map .int)]) :=
  .tup (.cons (.of_ptr (k _ _ h.ha) (pls_ints _)) (.cons (.of_ptr (k _ _ h.hb) (pls_ints _)) (.cons (.of_ptr (k _ _ h.hd) (pls_ints _)) .nil)))
end VL
namespace VL
open PySem PySem.Spec PyProof.Rows L2
def ins (x : Int) : List Int → List Int
  | [] => [x]
  | y :: l => if x ≤ y then x :: y :: l else y :: ins x l
end VL
set_option maxHeartbeats 1000000
namespace VL
open PySem PySem.Spec PyProof.Rows L2
theorem Up.put {p t : Addr} {N : Int} {c c' : Cs} {x : Cell} (h : Up p N c c') (hp : t ≠ p) (ht : c t = none) : Up p N c (cup c' t x) := by
  refine ⟨?_, fun y z hy e => ?_⟩
  · obtain ⟨a, b, n, h1, h2⟩ := h.1
    exact ⟨a, b, n, by rw [cup_ne (Ne.symm hp)]; exact h1, h2⟩
  · have hyt : y ≠ t := fun q => by rw [q, ht] at e; cases e
    rw [cup_ne hyt]
    exact h.2 y z hy e
theorem Up.none {p t : Addr} {N : Int} {c c' : Cs} (h : Up p N c c') (hp : t ≠ p) (ht : c' t = none) : c t = none := by
  cases e : c t with
  | none => rfl
  | some x => rw [h.2 t x hp e] at ht; cases ht
def okCart (w : Wo) (i : Int) : Prop := 0 ≤ i ∧ i < w.2.length
def okGran (w : Wo) (j : Int) : Prop := 0 ≤ j ∧ j < w.1.length
instance decCart (w : Wo) (i : Int) : Decidable (okCart w i) := by unfold okCart; infer_instance
instance decGran (w : Wo) (i : Int) : Decidable (okGran w i) := by unfold okGran; infer_instance
theorem okCart.of {w : Wo} {i : Nat} (h : i < w.2.length) : okCart w i := ⟨by omega, by omega⟩
theorem okGran.of {w : Wo} {i : Nat} (h : i < w.1.length) : okGran w i := ⟨by omega, by omega⟩
end VL
set_option maxHeartbeats 1000000
namespace VL
open PySem PySem.Spec PyProof.Rows L2
def zOk (w : Wo) (z : Int × Int) : Prop := okCart w z.1 ∧ okGran w z.2
instance decZ (w : Wo) (z : Int × Int) : Decidable (zOk w z) := by unfold zOk; infer_instance
end VL
set_option maxHeartbeats 1000000
namespace VL
open PySem PySem.Spec PyProof.Rows L2
theorem deqs_map {α : Type} [DecidableEq α] {f : α → D} (h : ∀ x y, deq (f x) (f y) = decide (x = y)) : ∀ l m : List α, PyData.eqvAll (toPs (l.map f)) (toPs (m.map f)) = decide (l = m)
  | [], [] => rfl
  | [], _ :: _ => rfl
  | _ :: _, [] => rfl
  | x :: l, y :: m => by
    have ih := deqs_map h l m
    show (deq (f x) (f y) && PyData.eqvAll (toPs (l.map f)) (toPs (m.map f))) = _
    rw [h, ih]
    simp [List.cons.injEq]
theorem deq_oD (a b : Option Int) : deq (oD a) (oD b) = decide (a = b) := by
  cases a <;> cases b
  · rfl
  · rfl
  · rfl
  · show deq (.int _) (.int _) = _
    rw [deqI]
    simp
theorem deq_gD (a b : Gn) : deq (gD a) (gD b) = decide (a = b) := by
  obtain ⟨a1, a2⟩ := a
  obtain ⟨b1, b2⟩ := b
  show (deq (oD a1) (oD b1) && (deq (oD a2) (oD b2) && true)) = _
  rw [deq_oD, deq_oD]
  simp [Prod.mk.injEq]
theorem deq_wD (a b : Wo) : deq (wD a) (wD b) = decide (a = b) := by
  obtain ⟨a1, a2⟩ := a
  obtain ⟨b1, b2⟩ := b
  show (PyData.eqvAll (toPs (a1.map gD)) (toPs (b1.map gD)) && (PyData.eqvAll (toPs (a2.map D.int)) (toPs (b2.map D.int)) && true)) = _
  rw [deqs_map deq_gD, deqs_map (f := D.int) (fun x y => deqI)]
  simp [Prod.mk.injEq]
theorem e_eqW {c : Cs} {Q : DK} {a b : Wo} (ha : fine (wD a) = true) (hb : fine (wD b) = true) (q : Q (.bl (decide (a = b))) c) : oEq (wD a) (wD b) c Q := by
  have da := dep_wD a
  have db := dep_wD b
  refine ⟨ok_fine (d := wD a) ha (by omega), ok_fine (d := wD b) hb (by omega), ?_⟩
  show Q (.bl (deq (wD a) (wD b))) c
  rw [deq_wD]
  exact q
def aheadB (g : Gn) (x : Int) : List Bool := (if g.1.any (fun l => l < x) then [false] else []) ++ (if g.2.any (fun h => x < h) then [true] else [])
def aheadW (w : Wo) (i j : Nat) : List Wo := if wordOf (granAt w j) (loadAt w i) = none then w :: (aheadB (granAt w j) (loadAt w i)).map (fun b => exchW w i j b) else []
theorem aheadB_some {g : Gn} {x : Int} {b : Bool} (h : b ∈ aheadB g x) : (swapG g x b).2.isSome = true := by
  obtain ⟨l, u⟩ := g
  unfold aheadB at h
  rcases List.mem_append.mp h with h | h <;> split at h
  · rename_i h1
    rw [List.mem_singleton.mp h]
    cases l <;> simp_all [swapG]
  · exact absurd h List.not_mem_nil
  · rename_i h1
    rw [List.mem_singleton.mp h]
    cases u <;> simp_all [swapG]
  · exact absurd h List.not_mem_nil
theorem exch_gran {w : Wo} {i j : Nat} (hj : j < w.1.length) (b : Bool) : granAt (exchW w i j b) j = (swapG (granAt w j) (loadAt w i) b).1 := by
  show (w.1.set j _).getD j (none, none) = _
  rw [List.getD_eq_getElem?_getD, List.getElem?_set_self hj]
  rfl
theorem exch_load {w : Wo} {i j : Nat} (hi : i < w.2.length) (b : Bool) : loadAt (exchW w i j b) i = (swapG (granAt w j) (loadAt w i) b).2.getD 0 := by
  show (w.2.set i _).getD i 0 = _
  rw [List.getD_eq_getElem?_getD, List.getElem?_set_self hi]
  rfl
/-- exchanged back -/
theorem exch_back {w : Wo} {i j : Nat} {b : Bool} (hi : i < w.2.length) (hj : j < w.1.length) (h : (swapG (granAt w j) (loadAt w i) b).2.isSome = true) : exchW (exchW w i j b) i j b = w := by
  have e1 := exch_gran (i := i) hj b
  have e2 := exch_load (j := j) hi b
  obtain ⟨gs, xs⟩ := w
  unfold exchW at e1 e2 ⊢
  rw [e1, e2]
  have hg : granAt (gs, xs) j = gs[j] := by simp [granAt, show j < gs.length from hj]
  have hx : loadAt (gs, xs) i = xs[i] := by simp [loadAt, show i < xs.length from hi]
  rw [hg, hx] at h ⊢
  generalize hgj : gs[j]'hj = g at *
  obtain ⟨l, u⟩ := g
  cases b
  · cases l with
    | none => cases h
    | some l =>
      simp only [swapG, Bool.false_eq_true, if_false, Option.getD_some, List.set_set]
      rw [← hgj]
      simp
  · cases u with
    | none => cases h
    | some u =>
      simp only [swapG, if_true, Option.getD_some, List.set_set]
      rw [← hgj]
      simp
theorem came_none {w : Wo} {i j : Nat} (h : wordOf (granAt w j) (loadAt w i) = none) : (cameW w i j).1 = w := by unfold cameW; rw [h]
theorem load_ne {a b : Wo} {i : Nat} (h : loadAt a i ≠ loadAt b i) : a ≠ b := fun e => h (by rw [e])
/-- a coming that exchanges leads elsewhere -/
theorem came_ne {w : Wo} {i j : Nat} {b : Bool} (hi : i < w.2.length) (h : wordOf (granAt w j) (loadAt w i) = some b) : (cameW w i j).1 ≠ w := by
  rw [came_some h]
  refine load_ne (i := i) ?_
  rw [exch_load hi]
  obtain ⟨y, hy, hne⟩ := word_some h
  rw [hy]
  cases b <;> simp at hne ⊢ <;> omega
end VL
set_option maxHeartbeats 1000000
namespace VL
open PySem PySem.Spec PyProof.Rows L2
def c_words_ahead (k : Nat) : Ctr := fun ds c Q _ => ∃ (g : Gn) (x : Int), ds = [gD g, .int x] ∧ wordOf g x = none ∧ 1 ≤ k ∧ Q (.lst ((aheadB g x).map fun b => wordD (some b))) c
def w_words_ahead (k : Nat) : WS := (sSeq (sAsg (wVar 0) (gTp 2 (gCons' (gNm 3) (gCons' (gNm 4) gNil')))) (sSeq (sIf (wTst (wBin oIsNot (wCall 2 c_exchanged_word k (wCons (wVar 0) (wCons (wVar 1) wNil))) (wC .non))) (sRet (wLst wNil)) sNil) (sSeq (sSet 2 (wIf (wAnd (wTst (wBin oIsNot (wVar 3) (wC .non))) (wTst (wBin oLt (wVar 3) (wVar 1)))) (wLst (wCons (wC (.str "low")) wNil)) (wLst wNil))) (sRet (wBin oAdd (wVar 2) (wBin oMul (wLst (wCons (wC (.str "high")) wNil)) (wBi oInt (wCons (wAndV (wBin oIsNot (wVar 4) (wC .non)) (wBin oGt (wVar 4) (wVar 1))) wNil))))))))
theorem p_words_ahead (k : Nat) (ds : List D) (c : Cs) (Q : DK) (X0 : XK0) (hlen0 : ds.length = 2) (h : c_words_ahead k ds c Q X0) : w_words_ahead k (endOf Q) (excOf X0) (enOf 5 ds) c := by
  obtain ⟨g, x, rfl, hw, hk, q⟩ := h
  obtain ⟨k, rfl⟩ : ∃ k', k = k' + 1 := ⟨k - 1, by omega⟩
  have ra : ∃ c0, CLe c0 c ∧ Q (.lst ((aheadB g x).map fun b => wordD (some b))) c0 := ⟨c, CLe.refl _, q⟩
  clear q
  obtain ⟨l, u⟩ := g
  simp only [w_words_ahead, gD, sRaise, sTry, wIsX, wWhat, wBack, lo_lst, e_mulV, sizeL, sNil, sSeq, sPass, sBrk, sCont, sExpr, sRet, sRetN, sIf, sNever, sSet, sAug, gNm, gTp, gNil', gCons', gSb, sAsg, sPar, sFor, wVar_z, wVar_s, wC, wChn, wTru, sPar3, wRev, wCallK, permF, List.filterMap_cons, List.filterMap_nil, wBin, wUn, wTst, wNot, wAnd, wOr, wAndV, wOrV, wNotV, wIf, wNil, wCons, wTup, wLst, wLstL, wFz, wCall, wBi, wMt, wMt0, wSl, wSlL, wPart, wNoPart, wYes, wSeq, wRg1, wRg2, wEnum, wZip, wLc, wLcL, wLRg, wFld, sFldS, sFldA, gFld, wMeth, wMake, lvl2_s, onB, e_eqI, e_neI, e_eqB, e_neB, e_eqS, e_neS, e_eqN, e_tyLT, e_ty1, isTys, tyMem, tyN_non, tyN_bl, tyN_int, tyN_str, tyN_tup, tyN_lst, Bool.true_or, Bool.or_true, Bool.or_false, Bool.false_or, Bool.not_true, Bool.not_false, inn_non, inn_bl, inn_int, inn_str, inn_tup, inn_lst, inn_ptr, e_slT, e_slL, e_slN, isT_P, isT_L, isT_T, isT_N, e_sub, e_fdiv, e_mod, e_pow, e_lt, e_le, e_gt, e_ge, e_neg, e_add, e_addS, e_addT, e_addL, e_addPP, e_addPL, e_addLP, e_mul, e_mulL, e_mulT, e_augI, e_ixT, e_ixL, e_ixN, e_ixP, e_lenT, e_lenL, e_lenN, e_lenS, e_lenP, e_abs, e_intI, e_intB, e_max, e_min, e_tupL, e_tupT, e_listL, e_listT, e_listN, e_listLL, e_listLT, e_divmod, e_isNon, e_isntNon, e_isB, e_isntB, e_setIx, e_insert, e_append, e_isL, e_isLL, e_seqP, e_seqL, e_seqT, e_seqN, it_lst, it_fz, Option.bind_some, Option.isSome_some, ix10, ix20, ix21, ix30, ix32, dl1, dl2, dl3, List.eraseIdx_cons_zero, e_pop0, e_popAt, e_rev, e_clear, e_tupP, e_listP, e_neN, e_neIN, e_neNI, e_eqIN, e_eqNI, at0, at1, at2, at3, Cell.lst.injEq, Cell.obj.injEq, Option.some.injEq, exists_eq_left', decide_eq_true_eq, true_and, and_true, cup_same, cup_cup, List.flatten_nil, List.flatten_cons, enOf, endOf, excOf, List.map_cons, List.map_nil, List.length_cons, List.length_nil, List.replicate, Nat.reduceAdd, Nat.reduceSub, List.cons_append, List.nil_append, List.set_cons_zero, List.set_cons_succ, List.getElem?_cons_zero, List.getElem?_cons_succ, List.getElem_cons_zero, List.getElem_cons_succ, reduceCtorEq, if_true, if_false, Bool.false_eq_true, decide_true, decide_false, ne_eq, not_true, not_false_eq_true, Int.reduceEq, Nat.reduceMul, true_imp_iff, Int.reduceToNat, Int.reducePow, Nat.reducePow, Int.reduceLE, Int.reduceLT, Nat.reduceLT, and_self, Nat.reduceLeDiff, Int.reduceNeg, Int.reduceAdd, Int.reduceSub, Int.reduceMul, Int.cast_ofNat_Int, lvl_s]
  refine ⟨(l, u), x, .inl rfl, ?_⟩
  rw [hw]
  simp only [wordD, sRaise, sTry, wIsX, wWhat, wBack, lo_lst, e_mulV, sizeL, sNil, sSeq, sPass, sBrk, sCont, sExpr, sRet, sRetN, sIf, sNever, sSet, sAug, gNm, gTp, gNil', gCons', gSb, sAsg, sPar, sFor, wVar_z, wVar_s, wC, wChn, wTru, sPar3, wRev, wCallK, permF, List.filterMap_cons, List.filterMap_nil, wBin, wUn, wTst, wNot, wAnd, wOr, wAndV, wOrV, wNotV, wIf, wNil, wCons, wTup, wLst, wLstL, wFz, wCall, wBi, wMt, wMt0, wSl, wSlL, wPart, wNoPart, wYes, wSeq, wRg1, wRg2, wEnum, wZip, wLc, wLcL, wLRg, wFld, sFldS, sFldA, gFld, wMeth, wMake, lvl2_s, onB, e_eqI, e_neI, e_eqB, e_neB, e_eqS, e_neS, e_eqN, e_tyLT, e_ty1, isTys, tyMem, tyN_non, tyN_bl, tyN_int, tyN_str, tyN_tup, tyN_lst, Bool.true_or, Bool.or_true, Bool.or_false, Bool.false_or, Bool.not_true, Bool.not_false, inn_non, inn_bl, inn_int, inn_str, inn_tup, inn_lst, inn_ptr, e_slT, e_slL, e_slN, isT_P, isT_L, isT_T, isT_N, e_sub, e_fdiv, e_mod, e_pow, e_lt, e_le, e_gt, e_ge, e_neg, e_add, e_addS, e_addT, e_addL, e_addPP, e_addPL, e_addLP, e_mul, e_mulL, e_mulT, e_augI, e_ixT, e_ixL, e_ixN, e_ixP, e_lenT, e_lenL, e_lenN, e_lenS, e_lenP, e_abs, e_intI, e_intB, e_max, e_min, e_tupL, e_tupT, e_listL, e_listT, e_listN, e_listLL, e_listLT, e_divmod, e_isNon, e_isntNon, e_isB, e_isntB, e_setIx, e_insert, e_append, e_isL, e_isLL, e_seqP, e_seqL, e_seqT, e_seqN, it_lst, it_fz, Option.bind_some, Option.isSome_some, ix10, ix20, ix21, ix30, ix32, dl1, dl2, dl3, List.eraseIdx_cons_zero, e_pop0, e_popAt, e_rev, e_clear, e_tupP, e_listP, e_neN, e_neIN, e_neNI, e_eqIN, e_eqNI, at0, at1, at2, at3, Cell.lst.injEq, Cell.obj.injEq, Option.some.injEq, exists_eq_left', decide_eq_true_eq, true_and, and_true, cup_same, cup_cup, List.flatten_nil, List.flatten_cons, enOf, endOf, excOf, List.map_cons, List.map_nil, List.length_cons, List.length_nil, List.replicate, Nat.reduceAdd, Nat.reduceSub, List.cons_append, List.nil_append, List.set_cons_zero, List.set_cons_succ, List.getElem?_cons_zero, List.getElem?_cons_succ, List.getElem_cons_zero, List.getElem_cons_succ, reduceCtorEq, if_true, if_false, Bool.false_eq_true, decide_true, decide_false, ne_eq, not_true, not_false_eq_true, Int.reduceEq, Nat.reduceMul, true_imp_iff, Int.reduceToNat, Int.reducePow, Nat.reducePow, Int.reduceLE, Int.reduceLT, Nat.reduceLT, and_self, Nat.reduceLeDiff, Int.reduceNeg, Int.reduceAdd, Int.reduceSub, Int.reduceMul, Int.cast_ofNat_Int]
  cases l <;> cases u <;> simp only [oD, sRaise, sTry, wIsX, wWhat, wBack, lo_lst, e_mulV, sizeL, sNil, sSeq, sPass, sBrk, sCont, sExpr, sRet, sRetN, sIf, sNever, sSet, sAug, gNm, gTp, gNil', gCons', gSb, sAsg, sPar, sFor, wVar_z, wVar_s, wC, wChn, wTru, sPar3, wRev, wCallK, permF, List.filterMap_cons, List.filterMap_nil, wBin, wUn, wTst, wNot, wAnd, wOr, wAndV, wOrV, wNotV, wIf, wNil, wCons, wTup, wLst, wLstL, wFz, wCall, wBi, wMt, wMt0, wSl, wSlL, wPart, wNoPart, wYes, wSeq, wRg1, wRg2, wEnum, wZip, wLc, wLcL, wLRg, wFld, sFldS, sFldA, gFld, wMeth, wMake, lvl2_s, onB, e_eqI, e_neI, e_eqB, e_neB, e_eqS, e_neS, e_eqN, e_tyLT, e_ty1, isTys, tyMem, tyN_non, tyN_bl, tyN_int, tyN_str, tyN_tup, tyN_lst, Bool.true_or, Bool.or_true, Bool.or_false, Bool.false_or, Bool.not_true, Bool.not_false, inn_non, inn_bl, inn_int, inn_str, inn_tup, inn_lst, inn_ptr, e_slT, e_slL, e_slN, isT_P, isT_L, isT_T, isT_N, e_sub, e_fdiv, e_mod, e_pow, e_lt, e_le, e_gt, e_ge, e_neg, e_add, e_addS, e_addT, e_addL, e_addPP, e_addPL, e_addLP, e_mul, e_mulL, e_mulT, e_augI, e_ixT, e_ixL, e_ixN, e_ixP, e_lenT, e_lenL, e_lenN, e_lenS, e_lenP, e_abs, e_intI, e_intB, e_max, e_min, e_tupL, e_tupT, e_listL, e_listT, e_listN, e_listLL, e_listLT, e_divmod, e_isNon, e_isntNon, e_isB, e_isntB, e_setIx, e_insert, e_append, e_isL, e_isLL, e_seqP, e_seqL, e_seqT, e_seqN, it_lst, it_fz, Option.bind_some, Option.isSome_some, ix10, ix20, ix21, ix30, ix32, dl1, dl2, dl3, List.eraseIdx_cons_zero, e_pop0, e_popAt, e_rev, e_clear, e_tupP, e_listP, e_neN, e_neIN, e_neNI, e_eqIN, e_eqNI, at0, at1, at2, at3, Cell.lst.injEq, Cell.obj.injEq, Option.some.injEq, exists_eq_left', decide_eq_true_eq, true_and, and_true, cup_same, cup_cup, List.flatten_nil, List.flatten_cons, enOf, endOf, excOf, List.map_cons, List.map_nil, List.length_cons, List.length_nil, List.replicate, Nat.reduceAdd, Nat.reduceSub, List.cons_append, List.nil_append, List.set_cons_zero, List.set_cons_succ, List.getElem?_cons_zero, List.getElem?_cons_succ, List.getElem_cons_zero, List.getElem_cons_succ, reduceCtorEq, if_true, if_false, Bool.false_eq_true, decide_true, decide_false, ne_eq, not_true, not_false_eq_true, Int.reduceEq, Nat.reduceMul, true_imp_iff, Int.reduceToNat, Int.reducePow, Nat.reducePow, Int.reduceLE, Int.reduceLT, Nat.reduceLT, and_self, Nat.reduceLeDiff, Int.reduceNeg, Int.reduceAdd, Int.reduceSub, Int.reduceMul, Int.cast_ofNat_Int]
  · exact ra
  · rename_i u
    by_cases h : x < u
    · simpa [aheadB, h, wordD] using ra
    · simpa [aheadB, h, wordD] using ra
  · rename_i l
    by_cases h : l < x
    · simpa [aheadB, h, wordD] using ra
    · simpa [aheadB, h, wordD] using ra
  · rename_i l u
    by_cases h : x < u <;> by_cases h' : l < x
    all_goals simpa [aheadB, h, h', wordD] using ra
def isGr (g : Gn) : Bool := (g.1.isSome || g.2.isSome) && (match g.1, g.2 with | some l, some u => decide (l ≤ u) | _, _ => true)
def smG (g : Gn) : Prop := (∀ l, g.1 = some l → smallI l) ∧ (∀ u, g.2 = some u → smallI u)
def addB (g : Gn) (x : Int) (b : Bool) : Bool := decide (wordOf g x = none) && decide (b ∈ aheadB g x)
theorem want_pure {g : Gn} {x y : Int} {b : Bool} (ho : ordG g) (hy : selG g b = some y) (hne : y ≠ x) : (wordOf (swapG g x b).1 y = none ∨ wordOf (swapG g x b).1 y = some b) ∧ (isGr (swapG g x b).1 && decide (wordOf (swapG g x b).1 y = some b)) = addB g x b := by
  obtain ⟨l, u⟩ := g
  have h' : y < x ∨ x < y := by omega
  cases b
  · obtain rfl : l = some y := hy
    cases u with
    | none =>
      rcases h' with h | h
      · have h2 : ¬ x < y := by omega
        simp [isGr, wordOf, addB, aheadB, swapG, h, h2]
      · have h2 : ¬ y < x := by omega
        simp [isGr, wordOf, addB, aheadB, swapG, h, h2]
    | some u =>
      have h3 : ¬ u < y := by have := ho y u rfl rfl; omega
      rcases h' with h | h
      · have h2 : ¬ x < y := by omega
        by_cases h4 : u < x
        · have h5 : ¬ x ≤ u := by omega
          simp [isGr, wordOf, addB, aheadB, swapG, h, h2, h3, h4, h5]
        · have h5 : x ≤ u := by omega
          simp [isGr, wordOf, addB, aheadB, swapG, h, h2, h3, h4, h5]
      · have h2 : ¬ y < x := by omega
        simp [isGr, wordOf, addB, aheadB, swapG, h, h2, h3]
  · obtain rfl : u = some y := hy
    cases l with
    | none =>
      rcases h' with h | h
      · have h2 : ¬ x < y := by omega
        simp [isGr, wordOf, addB, aheadB, swapG, h, h2]
      · have h2 : ¬ y < x := by omega
        simp [isGr, wordOf, addB, aheadB, swapG, h, h2]
    | some l =>
      have h3 : ¬ y < l := by have := ho l y rfl rfl; omega
      rcases h' with h | h
      · have h2 : ¬ x < y := by omega
        simp [isGr, wordOf, addB, aheadB, swapG, h, h2, h3]
      · have h2 : ¬ y < x := by omega
        by_cases h4 : x < l
        · have h5 : ¬ l ≤ x := by omega
          simp [isGr, wordOf, addB, aheadB, swapG, h, h2, h3, h4, h5]
        · have h5 : l ≤ x := by omega
          simp [isGr, wordOf, addB, aheadB, swapG, h, h2, h3, h4, h5]
theorem want_came {w : Wo} {i j : Nat} {b : Bool} {y : Int} (hi : i < w.2.length) (hj : j < w.1.length) (ho : ordG (granAt w j)) (hy : selG (granAt w j) b = some y) (hne : y ≠ loadAt w i) :
    (isGr (swapG (granAt w j) (loadAt w i) b).1 && decide ((cameW (exchW w i j b) i j).1 = w)) = addB (granAt w j) (loadAt w i) b := by
  have hs : (swapG (granAt w j) (loadAt w i) b).2 = some y := by cases b <;> exact hy
  have e1 := exch_gran (i := i) hj b
  have e2 := exch_load (j := j) hi b
  rw [hs] at e2
  have back := exch_back hi hj (b := b) (by rw [hs]; rfl)
  have hone : exchW w i j b ≠ w := load_ne (i := i) (by rw [e2]; exact hne)
  obtain ⟨p1, p2⟩ := want_pure ho hy hne
  rw [← p2]
  congr 1
  rw [decide_eq_decide]
  have ew : wordOf (granAt (exchW w i j b) j) (loadAt (exchW w i j b) i) = wordOf (swapG (granAt w j) (loadAt w i) b).1 y := by rw [e1, e2]; rfl
  rcases p1 with p1 | p1
  · rw [came_none (by rw [ew]; exact p1), p1]
    simp [hone]
  · rw [came_some (by rw [ew]; exact p1), back, p1]
    simp
theorem want_all (w : Wo) (i j : Nat) : (if wordOf (granAt w j) (loadAt w i) = none then [w] else []) ++ ([false, true].filter (addB (granAt w j) (loadAt w i))).map (exchW w i j) = aheadW w i j := by
  unfold aheadW
  generalize hg : granAt w j = g
  generalize hx : loadAt w i = x
  by_cases h : wordOf g x = none
  · rw [if_pos h, if_pos h]
    have e : [false, true].filter (addB g x) = aheadB g x := by
      unfold addB aheadB
      rw [h]
      by_cases h1 : g.1.any (fun l => l < x) = true <;> by_cases h2 : g.2.any (fun h => x < h) = true <;> simp [h1, h2]
    rw [e]
    rfl
  · rw [if_neg h, if_neg h]
    have e : [false, true].filter (addB g x) = [] := by
      unfold addB
      simp [h]
    rw [e]
    rfl
theorem smG_swap {g : Gn} {x : Int} (b : Bool) (h : smG g) (hx : smallI x) : smG (swapG g x b).1 := by
  cases b
  · exact ⟨fun l e => by cases e; exact hx, h.2⟩
  · exact ⟨h.1, fun l e => by cases e; exact hx⟩
theorem okG_of {g : Gn} (h : smG g) (hg : isGr g = true) : okG g := by
  obtain ⟨l, u⟩ := g
  refine ⟨h.1, h.2, fun x y e e' => ?_, ?_⟩
  · simp only at e e'
    subst e e'
    simpa [isGr] using hg
  · unfold isGr at hg
    simp only [Bool.and_eq_true, Bool.or_eq_true] at hg
    exact hg.1
theorem okG.sm {g : Gn} (h : okG g) : smG g := ⟨h.1, h.2.1⟩
theorem load_small {w : Wo} {i : Nat} (ok : okWs w) (hi : i < w.2.length) : smallI (loadAt w i) := by
  have : loadAt w i = w.2[i] := by simp [loadAt, hi]
  rw [this]
  exact ok.2 _ (List.getElem_mem hi)
theorem okWs_exch {w : Wo} {i j : Nat} {b : Bool} (ok : okWs w) (hi : i < w.2.length) (hj : j < w.1.length) (hg : isGr (swapG (granAt w j) (loadAt w i) b).1 = true) (hy : (swapG (granAt w j) (loadAt w i) b).2.isSome = true) : okWs (exchW w i j b) := by
  have okg := ok.1 _ (gran_mem hj)
  have hx := load_small ok hi
  refine ⟨fun g hgm => ?_, fun y hym => ?_⟩
  · rcases List.mem_or_eq_of_mem_set hgm with h | rfl
    · exact ok.1 _ h
    · exact okG_of (smG_swap b okg.sm hx) hg
  · rcases List.mem_or_eq_of_mem_set hym with h | rfl
    · exact ok.2 _ h
    · cases hs : (swapG (granAt w j) (loadAt w i) b).2 with
      | none => rw [hs] at hy; cases hy
      | some y =>
        cases b
        · exact okg.1 y hs
        · exact okg.2.1 y hs
theorem aheadB_ne {g : Gn} {x y : Int} {b : Bool} (h : b ∈ aheadB g x) (hy : selG g b = some y) : y ≠ x := by
  unfold aheadB at h
  rcases List.mem_append.mp h with h2 | h2 <;> split at h2
  · rename_i h3
    rw [List.mem_singleton.mp h2] at hy
    have e : g.1 = some y := hy
    rw [e] at h3
    simp at h3
    omega
  · exact absurd h2 List.not_mem_nil
  · rename_i h3
    rw [List.mem_singleton.mp h2] at hy
    have e : g.2 = some y := hy
    rw [e] at h3
    simp at h3
    omega
  · exact absurd h2 List.not_mem_nil
/-- what is ahead leads here -/
theorem ahead_leads {w one : Wo} {i j : Nat} (hi : i < w.2.length) (hj : j < w.1.length) (ho : ordG (granAt w j)) (h : one ∈ aheadW w i j) : (cameW one i j).1 = w ∧ one.1.length = w.1.length ∧ one.2.length = w.2.length := by
  unfold aheadW at h
  split at h
  · rename_i hw
    rcases List.mem_cons.mp h with rfl | h
    · exact ⟨came_none hw, rfl, rfl⟩
    · obtain ⟨b, hb, rfl⟩ := List.mem_map.mp h
      obtain ⟨el1, el2⟩ := exch_len w i j b
      refine ⟨?_, el1, el2⟩
      have hs := aheadB_some hb
      obtain ⟨y, hy⟩ := Option.isSome_iff_exists.mp hs
      have hsel : selG (granAt w j) b = some y := by cases b <;> exact hy
      have := want_came hi hj ho hsel (aheadB_ne hb hsel)
      have e : addB (granAt w j) (loadAt w i) b = true := by unfold addB; simp [hw, hb]
      rw [e, Bool.and_eq_true] at this
      simpa using this.2
  · exact absurd h List.not_mem_nil
end VL
set_option maxHeartbeats 1000000
namespace VL
open PySem PySem.Spec PyProof.Rows L2
/-- two clauses, the second one's list made anew each time -/
theorem lcoP {α β : Type} {chk : Cs → Prop} {t : Tg} {wi1 : WI} {t1 : Tg} {we : WE} {vs vs1 : List Nat} {en : En} {fin : List D → Cs → Prop} (enc : α → D) (g : α → List β) (enc2 : β → D) {c0 : Cs} (hchk : ∀ c', CLe c0 c' → chk c') : ∀ {as : List α} {acc : List D} {c : Cs}, CLe c0 c →
    (∀ a, a ∈ as → ∀ c', CLe c0 c' → ∃ en', bindT t (enc a) (ewipe en vs) = some en' ∧ ∀ Q : IK, (∀ (chk1 : Cs → Prop) c2, CLe c' c2 → (∀ c3, CLe c2 c3 → chk1 c3) → Q ((g a).map enc2) chk1 c2) → wi1 en' c' Q noX) →
    (∀ a, a ∈ as → ∀ en', bindT t (enc a) (ewipe en vs) = some en' → ∀ b, b ∈ g a → ∃ en'', bindT t1 (enc2 b) (ewipe en' vs1) = some en'' ∧ ∀ (c3 : Cs) (Q : DK), Q (enc2 b) c3 → we en'' c3 Q noX) →
    acc.length + (as.flatMap g).length ≤ sizeLine → (∀ c', CLe c c' → fin (acc ++ (as.flatMap g).map enc2) c') → lcO chk t wYes wi1 t1 wYes we vs vs1 en fin (as.map enc) acc c
  | [], acc, c, hc, _, _, _, hf => ⟨hchk c hc, by simpa using hf c (CLe.refl _)⟩
  | a :: r, acc, c, hc, h1, h2, hz, hf => by
    obtain ⟨en', hb, h⟩ := h1 a (List.mem_cons_self ..) c hc
    refine ⟨hchk c hc, ?_⟩
    rw [hb]
    refine h _ fun chk1 c2 hc2 hk1 => ?_
    rw [List.flatMap_cons, List.length_append] at hz
    refine lci_map (fun d => d) (hk1 c2 (CLe.refl _)) (fun d hd => ?_) (by rw [List.length_map]; omega) ?_
    · obtain ⟨b, hbm, rfl⟩ := List.mem_map.mp hd
      obtain ⟨en'', hb2, h'⟩ := h2 a (List.mem_cons_self ..) en' hb b hbm
      exact ⟨en'', hb2, fun Q q => h' _ Q q⟩
    · refine lcoP enc g enc2 hchk (hc.trans hc2) (fun a' ha' => h1 a' (List.mem_cons_of_mem _ ha')) (fun a' ha' => h2 a' (List.mem_cons_of_mem _ ha')) ?_ fun c' hc' => ?_
      · rw [List.length_append, List.length_map, List.length_map]; omega
      · have := hf c' (hc2.trans hc')
        rw [List.flatMap_cons, List.map_append, ← List.append_assoc] at this
        rw [List.map_id']
        exact this
/-- all the worlds ahead of a row -/
def allA (w : Wo) (ps : List (Nat × Nat)) : List Wo := ps.foldr (fun p L => L.flatMap fun b => aheadW b p.1 p.2) [w]
theorem allA_cons (w : Wo) (p : Nat × Nat) (ps : List (Nat × Nat)) : allA w (p :: ps) = (allA w ps).flatMap fun b => aheadW b p.1 p.2 := rfl
theorem ahead_len (w : Wo) (i j : Nat) : (aheadW w i j).length ≤ 3 := by
  unfold aheadW aheadB
  split
  · split <;> split <;> simp
  · simp
theorem flat_len {α β : Type} (g : α → List β) (h : ∀ a, (g a).length ≤ 3) : ∀ l : List α, (l.flatMap g).length ≤ 3 * l.length
  | [] => Nat.le_refl _
  | a :: l => by
    have := flat_len g h l
    have := h a
    rw [List.flatMap_cons, List.length_append, List.length_cons]
    omega
theorem allA_len (w : Wo) : ∀ ps : List (Nat × Nat), (allA w ps).length ≤ 3 ^ ps.length
  | [] => Nat.le_refl _
  | p :: ps => by
    have h := allA_len w ps
    have h2 := flat_len (fun b => aheadW b p.1 p.2) (fun b => ahead_len b _ _) (allA w ps)
    rw [allA_cons, List.length_cons, Nat.pow_succ]
    omega
theorem ahead_ok {w one : Wo} {i j : Nat} (ok : okWs w) (hi : i < w.2.length) (hj : j < w.1.length) (h : one ∈ aheadW w i j) : okWs one := by
  unfold aheadW at h
  split at h
  · rename_i hw
    rcases List.mem_cons.mp h with rfl | h
    · exact ok
    · obtain ⟨b, hb, rfl⟩ := List.mem_map.mp h
      have hs := aheadB_some hb
      obtain ⟨y, hy⟩ := Option.isSome_iff_exists.mp hs
      have hsel : selG (granAt w j) b = some y := by cases b <;> exact hy
      have := want_came hi hj (ok.1 _ (gran_mem hj)).ord hsel (aheadB_ne hb hsel)
      have e : addB (granAt w j) (loadAt w i) b = true := by unfold addB; simp [hw, hb]
      rw [e, Bool.and_eq_true] at this
      exact okWs_exch ok hi hj this.1 hs
  · exact absurd h List.not_mem_nil
/-- each of them leads here -/
theorem allA_leads {w : Wo} (ok : okWs w) : ∀ {ps : List (Nat × Nat)}, within w ps → ∀ b ∈ allA w ps, (goneW b ps).1 = w ∧ b.1.length = w.1.length ∧ b.2.length = w.2.length ∧ okWs b
  | [], _, b, hb => by
    rw [List.mem_singleton.mp hb]
    exact ⟨rfl, rfl, rfl, ok⟩
  | p :: ps, h, b, hb => by
    rw [allA_cons] at hb
    obtain ⟨one, ho, hb⟩ := List.mem_flatMap.mp hb
    obtain ⟨h1, h2, h3, h4⟩ := allA_leads ok (ps := ps) (fun q hq => h q (List.mem_cons_of_mem _ hq)) one ho
    obtain ⟨hp1, hp2⟩ := h p (List.mem_cons_self ..)
    have hi : p.1 < one.2.length := by omega
    have hj : p.2 < one.1.length := by omega
    obtain ⟨l1, l2, l3⟩ := ahead_leads hi hj (h4.1 _ (gran_mem hj)).ord hb
    refine ⟨?_, by omega, by omega, ?_⟩
    · show (goneW (cameW b p.1 p.2).1 ps).1 = w
      rw [l1, h1]
    · exact ahead_ok h4 hi hj hb
theorem ahead_all {w b : Wo} {i j : Nat} (hi : i < b.2.length) (hj : j < b.1.length) (ok : okWs b) (h : (cameW b i j).1 = w) : b ∈ aheadW w i j := by
  cases hw : wordOf (granAt b j) (loadAt b i) with
  | none =>
    rw [came_none hw] at h
    subst h
    unfold aheadW
    rw [if_pos hw]
    exact List.mem_cons_self ..
  | some bb =>
    rw [came_some hw] at h
    obtain ⟨y, hy, hne⟩ := word_some hw
    have e1 := exch_gran (i := i) hj bb
    have e2 := exch_load (j := j) hi bb
    have back := exch_back hi hj (b := bb) (by rw [hy]; rfl)
    rw [hy] at e2
    rw [h] at e1 e2 back
    have ho := (ok.1 _ (gran_mem hj)).ord
    have key : wordOf (granAt w j) (loadAt w i) = none ∧ bb ∈ aheadB (granAt w j) (loadAt w i) := by
      rw [e1, e2]
      generalize granAt b j = g at *
      generalize loadAt b i = x at *
      obtain ⟨l, u⟩ := g
      cases bb
      · obtain rfl : l = some y := hy
        have hx : x < y := by simpa using hne
        have n1 : ¬ y < x := by omega
        cases u with
        | none => simp [wordOf, aheadB, swapG, hx, n1]
        | some u =>
          have n2 : ¬ u < y := by have := ho y u rfl rfl; omega
          simp [wordOf, aheadB, swapG, hx, n1, n2]
      · obtain rfl : u = some y := hy
        have hx : y < x := by simpa using hne
        have n1 : ¬ x < y := by omega
        cases l with
        | none => simp [wordOf, aheadB, swapG, hx, n1]
        | some l =>
          have n2 : ¬ y < l := by have := ho l y rfl rfl; omega
          simp [wordOf, aheadB, swapG, hx, n1, n2]
    unfold aheadW
    rw [if_pos key.1]
    exact List.mem_cons_of_mem _ (List.mem_map.mpr ⟨bb, key.2, back⟩)
theorem allA_all {w : Wo} : ∀ {ps : List (Nat × Nat)} {b : Wo}, okWs b → within b ps → (goneW b ps).1 = w → b ∈ allA w ps
  | [], b, _, _, h => by
    rw [← h]
    exact List.mem_singleton.mpr rfl
  | p :: ps, b, ok, hin, h => by
    obtain ⟨hi, hj⟩ := hin p (List.mem_cons_self ..)
    have s := same_came hi hj
    have ih := allA_all (ps := ps) (b := (cameW b p.1 p.2).1) (okWs_came ok hi hj) (fun q hq => by
      rw [s.gran, s.cart]
      exact hin q (List.mem_cons_of_mem _ hq)) h
    rw [allA_cons]
    exact List.mem_flatMap.mpr ⟨_, ih, ahead_all hi hj ok rfl⟩
end VL
set_option maxHeartbeats 1000000
set_option maxHeartbeats 1000000
namespace VL
open PySem PySem.Spec PyProof.Rows L2
def shG (g : Gn) : Bool × Bool := (g.1.isSome, g.2.isSome)
def SameSh (a b : List Gn) : Prop := a.map shG = b.map shG
theorem SameSh.len {a b : List Gn} (h : SameSh a b) : a.length = b.length := by
  have := congrArg List.length h
  simpa using this
theorem SameSh.refl (a : List Gn) : SameSh a a := rfl
theorem SameSh.symm {a b : List Gn} (h : SameSh a b) : SameSh b a := Eq.symm h
theorem SameSh.trans {a b c : List Gn} (h : SameSh a b) (g : SameSh b c) : SameSh a c := Eq.trans h g
end VL
set_option maxHeartbeats 1000000
set_option maxHeartbeats 1000000
set_option maxHeartbeats 1000000
namespace VL
open PySem PySem.Spec PyProof.Rows L2
def c_ahead83 (k : Nat) : Ctr := fun ds c Q _ => ∃ (x : D) (w : Wo) (i j : Nat) (cm : D), ds = [x, cm] ∧ WLike x w ∧ (cm = .tup [.int i, .int j] ∨ cm = .lst [.int i, .int j]) ∧ 8 ≤ k ∧ w.1.length ≤ 1000 ∧ w.2.length ≤ 1000 ∧ i < w.2.length ∧ j < w.1.length ∧ Q (.lst ((aheadW w i j).map wD)) c
def w_ahead83 (k : Nat) : WS := (sSeq (sSet 2 (wCall 1 c_as_tuples k (wCons (wVar 0) wNil))) (sSeq (sExpr (wCall 2 c_look_coming k (wCons (wVar 2) (wCons (wVar 1) wNil)))) (sSeq (sAsg (wVar 1) (gTp 2 (gCons' (gNm 3) (gCons' (gNm 4) gNil')))) (sSeq (sPar 5 6 (wCons (wBin oIx (wBin oIx (wVar 2) (wC (.int 0))) (wVar 4)) (wCons (wBin oIx (wBin oIx (wVar 2) (wC (.int 1))) (wVar 3)) wNil))) (sSeq (sIf (wTst (wBin oIsNot (wCall 2 c_exchanged_word k (wCons (wVar 5) (wCons (wVar 6) wNil))) (wC .non))) (sRet (wLst wNil)) sNil) (sRet (wBin oAdd (wLst (wCons (wVar 2) wNil)) (wLc (wSeq (wCall 2 c_words_ahead k (wCons (wVar 5) (wCons (wVar 6) wNil)))) (.nm 7) wYes (wCall 4 c_exchanged k (wCons (wVar 2) (wCons (wVar 3) (wCons (wVar 4) (wCons (wVar 7) wNil))))) [7]))))))))
theorem p_ahead83 (k : Nat) (ds : List D) (c : Cs) (Q : DK) (X0 : XK0) (hlen0 : ds.length = 2) (h : c_ahead83 k ds c Q X0) : w_ahead83 k (endOf Q) (excOf X0) (enOf 8 ds) c := by
  obtain ⟨x, w, i, j, cm, rfl, hx, hcm, hk, hz1, hz2, hi, hj, q⟩ := h
  obtain ⟨k, rfl⟩ : ∃ k', k = k' + 8 := ⟨k - 8, by omega⟩
  have rt : ∃ c0, CLe c0 c ∧ Q (.lst ((aheadW w i j).map wD)) c0 := ⟨_, CLe.refl _, q⟩
  refine seq_gen fun D1 r1 _ _ n1 => ?_
  simp only [w_ahead83, sRaise, sTry, wIsX, wWhat, wBack, lo_lst, e_mulV, sizeL, sNil, sSeq, sPass, sBrk, sCont, sExpr, sRet, sRetN, sIf, sNever, sSet, sAug, gNm, gTp, gNil', gCons', gSb, sAsg, sPar, sFor, wVar_z, wVar_s, wC, wChn, wTru, sPar3, wRev, wCallK, permF, List.filterMap_cons, List.filterMap_nil, wBin, wUn, wTst, wNot, wAnd, wOr, wAndV, wOrV, wNotV, wIf, wNil, wCons, wTup, wLst, wLstL, wFz, wCall, wBi, wMt, wMt0, wSl, wSlL, wPart, wNoPart, wYes, wSeq, wRg1, wRg2, wEnum, wZip, wLc, wLcL, wLRg, wFld, sFldS, sFldA, gFld, wMeth, wMake, lvl2_s, onB, e_eqI, e_neI, e_eqB, e_neB, e_eqS, e_neS, e_eqN, e_tyLT, e_ty1, isTys, tyMem, tyN_non, tyN_bl, tyN_int, tyN_str, tyN_tup, tyN_lst, Bool.true_or, Bool.or_true, Bool.or_false, Bool.false_or, Bool.not_true, Bool.not_false, inn_non, inn_bl, inn_int, inn_str, inn_tup, inn_lst, inn_ptr, e_slT, e_slL, e_slN, isT_P, isT_L, isT_T, isT_N, e_sub, e_fdiv, e_mod, e_pow, e_lt, e_le, e_gt, e_ge, e_neg, e_add, e_addS, e_addT, e_addL, e_addPP, e_addPL, e_addLP, e_mul, e_mulL, e_mulT, e_augI, e_ixT, e_ixL, e_ixN, e_ixP, e_lenT, e_lenL, e_lenN, e_lenS, e_lenP, e_abs, e_intI, e_intB, e_max, e_min, e_tupL, e_tupT, e_listL, e_listT, e_listN, e_listLL, e_listLT, e_divmod, e_isNon, e_isntNon, e_isB, e_isntB, e_setIx, e_insert, e_append, e_isL, e_isLL, e_seqP, e_seqL, e_seqT, e_seqN, it_lst, it_fz, Option.bind_some, Option.isSome_some, ix10, ix20, ix21, ix30, ix32, dl1, dl2, dl3, List.eraseIdx_cons_zero, e_pop0, e_popAt, e_rev, e_clear, e_tupP, e_listP, e_neN, e_neIN, e_neNI, e_eqIN, e_eqNI, at0, at1, at2, at3, Cell.lst.injEq, Cell.obj.injEq, Option.some.injEq, exists_eq_left', decide_eq_true_eq, true_and, and_true, cup_same, cup_cup, wSrtIt, List.flatten_nil, List.flatten_cons, enOf, endOf, excOf, List.map_cons, List.map_nil, List.length_cons, List.length_nil, List.replicate, Nat.reduceAdd, Nat.reduceSub, List.cons_append, List.nil_append, List.set_cons_zero, List.set_cons_succ, List.getElem?_cons_zero, List.getElem?_cons_succ, List.getElem_cons_zero, List.getElem_cons_succ, reduceCtorEq, if_true, if_false, Bool.false_eq_true, decide_true, decide_false, ne_eq, not_true, not_false_eq_true, Int.reduceEq, Nat.reduceMul, true_imp_iff, Int.reduceToNat, Int.reducePow, Nat.reducePow, Int.reduceLE, Int.reduceLT, Nat.reduceLT, and_self, Nat.reduceLeDiff, Int.reduceNeg, Int.reduceAdd, Int.reduceSub, Int.reduceMul, Int.cast_ofNat_Int]
  refine as_tuples_use (by omega) hx ?_
  refine n1 _ _ (seq_gen fun D2 r2 _ _ n2 => ?_)
  simp only [sRaise, sTry, wIsX, wWhat, wBack, lo_lst, e_mulV, sizeL, sNil, sSeq, sPass, sBrk, sCont, sExpr, sRet, sRetN, sIf, sNever, sSet, sAug, gNm, gTp, gNil', gCons', gSb, sAsg, sPar, sFor, wVar_z, wVar_s, wC, wChn, wTru, sPar3, wRev, wCallK, permF, List.filterMap_cons, List.filterMap_nil, wBin, wUn, wTst, wNot, wAnd, wOr, wAndV, wOrV, wNotV, wIf, wNil, wCons, wTup, wLst, wLstL, wFz, wCall, wBi, wMt, wMt0, wSl, wSlL, wPart, wNoPart, wYes, wSeq, wRg1, wRg2, wEnum, wZip, wLc, wLcL, wLRg, wFld, sFldS, sFldA, gFld, wMeth, wMake, lvl2_s, onB, e_eqI, e_neI, e_eqB, e_neB, e_eqS, e_neS, e_eqN, e_tyLT, e_ty1, isTys, tyMem, tyN_non, tyN_bl, tyN_int, tyN_str, tyN_tup, tyN_lst, Bool.true_or, Bool.or_true, Bool.or_false, Bool.false_or, Bool.not_true, Bool.not_false, inn_non, inn_bl, inn_int, inn_str, inn_tup, inn_lst, inn_ptr, e_slT, e_slL, e_slN, isT_P, isT_L, isT_T, isT_N, e_sub, e_fdiv, e_mod, e_pow, e_lt, e_le, e_gt, e_ge, e_neg, e_add, e_addS, e_addT, e_addL, e_addPP, e_addPL, e_addLP, e_mul, e_mulL, e_mulT, e_augI, e_ixT, e_ixL, e_ixN, e_ixP, e_lenT, e_lenL, e_lenN, e_lenS, e_lenP, e_abs, e_intI, e_intB, e_max, e_min, e_tupL, e_tupT, e_listL, e_listT, e_listN, e_listLL, e_listLT, e_divmod, e_isNon, e_isntNon, e_isB, e_isntB, e_setIx, e_insert, e_append, e_isL, e_isLL, e_seqP, e_seqL, e_seqT, e_seqN, it_lst, it_fz, Option.bind_some, Option.isSome_some, ix10, ix20, ix21, ix30, ix32, dl1, dl2, dl3, List.eraseIdx_cons_zero, e_pop0, e_popAt, e_rev, e_clear, e_tupP, e_listP, e_neN, e_neIN, e_neNI, e_eqIN, e_eqNI, at0, at1, at2, at3, Cell.lst.injEq, Cell.obj.injEq, Option.some.injEq, exists_eq_left', decide_eq_true_eq, true_and, and_true, cup_same, cup_cup, wSrtIt, List.flatten_nil, List.flatten_cons, enOf, endOf, excOf, List.map_cons, List.map_nil, List.length_cons, List.length_nil, List.replicate, Nat.reduceAdd, Nat.reduceSub, List.cons_append, List.nil_append, List.set_cons_zero, List.set_cons_succ, List.getElem?_cons_zero, List.getElem?_cons_succ, List.getElem_cons_zero, List.getElem_cons_succ, reduceCtorEq, if_true, if_false, Bool.false_eq_true, decide_true, decide_false, ne_eq, not_true, not_false_eq_true, Int.reduceEq, Nat.reduceMul, true_imp_iff, Int.reduceToNat, Int.reducePow, Nat.reducePow, Int.reduceLE, Int.reduceLT, Nat.reduceLT, and_self, Nat.reduceLeDiff, Int.reduceNeg, Int.reduceAdd, Int.reduceSub, Int.reduceMul, Int.cast_ofNat_Int, lvl_s]
  refine ⟨w, i, j, cm, rfl, ⟨hcm, hi, hj⟩, by omega, ?_⟩
  refine n2 _ _ (seq_gen fun D3 r3 _ _ n3 => ?_)
  clear n2
  have fin : ∀ cm0 : D, (cm0 = .tup [.int i, .int j] ∨ cm0 = .lst [.int i, .int j]) → D3.nx [some x, some cm, some (wD w), some (.int (i : Nat)), some (.int (j : Nat)), none, none, none] c := fun _ _ => by
    refine n3 _ _ (seq_gen fun D4 r4 _ _ n4 => ?_)
    clear n3
    have hc1 : oIx (.tup [gsD w.1, .tup (w.2.map .int)]) (.int 0) c fun y c' => oIx y (.int (j : Nat)) c' fun z c2 => z = gD (granAt w j) ∧ c2 = c := ⟨_, rfl, _, at_gran hj, rfl, rfl⟩
    simp only [wD, gsD, sRaise, sTry, wIsX, wWhat, wBack, lo_lst, e_mulV, sizeL, sNil, sSeq, sPass, sBrk, sCont, sExpr, sRet, sRetN, sIf, sNever, sSet, sAug, gNm, gTp, gNil', gCons', gSb, sAsg, sPar, sFor, wVar_z, wVar_s, wC, wChn, wTru, sPar3, wRev, wCallK, permF, List.filterMap_cons, List.filterMap_nil, wBin, wUn, wTst, wNot, wAnd, wOr, wAndV, wOrV, wNotV, wIf, wNil, wCons, wTup, wLst, wLstL, wFz, wCall, wBi, wMt, wMt0, wSl, wSlL, wPart, wNoPart, wYes, wSeq, wRg1, wRg2, wEnum, wZip, wLc, wLcL, wLRg, wFld, sFldS, sFldA, gFld, wMeth, wMake, lvl2_s, onB, e_eqI, e_neI, e_eqB, e_neB, e_eqS, e_neS, e_eqN, e_tyLT, e_ty1, isTys, tyMem, tyN_non, tyN_bl, tyN_int, tyN_str, tyN_tup, tyN_lst, Bool.true_or, Bool.or_true, Bool.or_false, Bool.false_or, Bool.not_true, Bool.not_false, inn_non, inn_bl, inn_int, inn_str, inn_tup, inn_lst, inn_ptr, e_slT, e_slL, e_slN, isT_P, isT_L, isT_T, isT_N, e_sub, e_fdiv, e_mod, e_pow, e_lt, e_le, e_gt, e_ge, e_neg, e_add, e_addS, e_addT, e_addL, e_addPP, e_addPL, e_addLP, e_mul, e_mulL, e_mulT, e_augI, e_ixT, e_ixL, e_ixN, e_ixP, e_lenT, e_lenL, e_lenN, e_lenS, e_lenP, e_abs, e_intI, e_intB, e_max, e_min, e_tupL, e_tupT, e_listL, e_listT, e_listN, e_listLL, e_listLT, e_divmod, e_isNon, e_isntNon, e_isB, e_isntB, e_setIx, e_insert, e_append, e_isL, e_isLL, e_seqP, e_seqL, e_seqT, e_seqN, it_lst, it_fz, Option.bind_some, Option.isSome_some, ix10, ix20, ix21, ix30, ix32, dl1, dl2, dl3, List.eraseIdx_cons_zero, e_pop0, e_popAt, e_rev, e_clear, e_tupP, e_listP, e_neN, e_neIN, e_neNI, e_eqIN, e_eqNI, at0, at1, at2, at3, Cell.lst.injEq, Cell.obj.injEq, Option.some.injEq, exists_eq_left', decide_eq_true_eq, true_and, and_true, cup_same, cup_cup, wSrtIt, List.flatten_nil, List.flatten_cons, enOf, endOf, excOf, List.map_cons, List.map_nil, List.length_cons, List.length_nil, List.replicate, Nat.reduceAdd, Nat.reduceSub, List.cons_append, List.nil_append, List.set_cons_zero, List.set_cons_succ, List.getElem?_cons_zero, List.getElem?_cons_succ, List.getElem_cons_zero, List.getElem_cons_succ, reduceCtorEq, if_true, if_false, Bool.false_eq_true, decide_true, decide_false, ne_eq, not_true, not_false_eq_true, Int.reduceEq, Nat.reduceMul, true_imp_iff, Int.reduceToNat, Int.reducePow, Nat.reducePow, Int.reduceLE, Int.reduceLT, Nat.reduceLT, and_self, Nat.reduceLeDiff, Int.reduceNeg, Int.reduceAdd, Int.reduceSub, Int.reduceMul, Int.cast_ofNat_Int, at_gran hj, at_load hi]
    refine n4 _ _ ?_
    clear n4
    simp only [wD, gsD, sRaise, sTry, wIsX, wWhat, wBack, lo_lst, e_mulV, sizeL, sNil, sSeq, sPass, sBrk, sCont, sExpr, sRet, sRetN, sIf, sNever, sSet, sAug, gNm, gTp, gNil', gCons', gSb, sAsg, sPar, sFor, wVar_z, wVar_s, wC, wChn, wTru, sPar3, wRev, wCallK, permF, List.filterMap_cons, List.filterMap_nil, wBin, wUn, wTst, wNot, wAnd, wOr, wAndV, wOrV, wNotV, wIf, wNil, wCons, wTup, wLst, wLstL, wFz, wCall, wBi, wMt, wMt0, wSl, wSlL, wPart, wNoPart, wYes, wSeq, wRg1, wRg2, wEnum, wZip, wLc, wLcL, wLRg, wFld, sFldS, sFldA, gFld, wMeth, wMake, lvl2_s, onB, e_eqI, e_neI, e_eqB, e_neB, e_eqS, e_neS, e_eqN, e_tyLT, e_ty1, isTys, tyMem, tyN_non, tyN_bl, tyN_int, tyN_str, tyN_tup, tyN_lst, Bool.true_or, Bool.or_true, Bool.or_false, Bool.false_or, Bool.not_true, Bool.not_false, inn_non, inn_bl, inn_int, inn_str, inn_tup, inn_lst, inn_ptr, e_slT, e_slL, e_slN, isT_P, isT_L, isT_T, isT_N, e_sub, e_fdiv, e_mod, e_pow, e_lt, e_le, e_gt, e_ge, e_neg, e_add, e_addS, e_addT, e_addL, e_addPP, e_addPL, e_addLP, e_mul, e_mulL, e_mulT, e_augI, e_ixT, e_ixL, e_ixN, e_ixP, e_lenT, e_lenL, e_lenN, e_lenS, e_lenP, e_abs, e_intI, e_intB, e_max, e_min, e_tupL, e_tupT, e_listL, e_listT, e_listN, e_listLL, e_listLT, e_divmod, e_isNon, e_isntNon, e_isB, e_isntB, e_setIx, e_insert, e_append, e_isL, e_isLL, e_seqP, e_seqL, e_seqT, e_seqN, it_lst, it_fz, Option.bind_some, Option.isSome_some, ix10, ix20, ix21, ix30, ix32, dl1, dl2, dl3, List.eraseIdx_cons_zero, e_pop0, e_popAt, e_rev, e_clear, e_tupP, e_listP, e_neN, e_neIN, e_neNI, e_eqIN, e_eqNI, at0, at1, at2, at3, Cell.lst.injEq, Cell.obj.injEq, Option.some.injEq, exists_eq_left', decide_eq_true_eq, true_and, and_true, cup_same, cup_cup, wSrtIt, List.flatten_nil, List.flatten_cons, enOf, endOf, excOf, List.map_cons, List.map_nil, List.length_cons, List.length_nil, List.replicate, Nat.reduceAdd, Nat.reduceSub, List.cons_append, List.nil_append, List.set_cons_zero, List.set_cons_succ, List.getElem?_cons_zero, List.getElem?_cons_succ, List.getElem_cons_zero, List.getElem_cons_succ, reduceCtorEq, if_true, if_false, Bool.false_eq_true, decide_true, decide_false, ne_eq, not_true, not_false_eq_true, Int.reduceEq, Nat.reduceMul, true_imp_iff, Int.reduceToNat, Int.reducePow, Nat.reducePow, Int.reduceLE, Int.reduceLT, Nat.reduceLT, and_self, Nat.reduceLeDiff, Int.reduceNeg, Int.reduceAdd, Int.reduceSub, Int.reduceMul, Int.cast_ofNat_Int, lvl_s]
    refine ⟨granAt w j, loadAt w i, .inl rfl, ?_⟩
    cases hw : wordOf (granAt w j) (loadAt w i) with
    | some b =>
      unfold aheadW at rt
      rw [if_neg (by rw [hw]; exact fun h => by cases h)] at rt
      cases b <;> simp only [wordD, sRaise, sTry, wIsX, wWhat, wBack, lo_lst, e_mulV, sizeL, sNil, sSeq, sPass, sBrk, sCont, sExpr, sRet, sRetN, sIf, sNever, sSet, sAug, gNm, gTp, gNil', gCons', gSb, sAsg, sPar, sFor, wVar_z, wVar_s, wC, wChn, wTru, sPar3, wRev, wCallK, permF, List.filterMap_cons, List.filterMap_nil, wBin, wUn, wTst, wNot, wAnd, wOr, wAndV, wOrV, wNotV, wIf, wNil, wCons, wTup, wLst, wLstL, wFz, wCall, wBi, wMt, wMt0, wSl, wSlL, wPart, wNoPart, wYes, wSeq, wRg1, wRg2, wEnum, wZip, wLc, wLcL, wLRg, wFld, sFldS, sFldA, gFld, wMeth, wMake, lvl2_s, onB, e_eqI, e_neI, e_eqB, e_neB, e_eqS, e_neS, e_eqN, e_tyLT, e_ty1, isTys, tyMem, tyN_non, tyN_bl, tyN_int, tyN_str, tyN_tup, tyN_lst, Bool.true_or, Bool.or_true, Bool.or_false, Bool.false_or, Bool.not_true, Bool.not_false, inn_non, inn_bl, inn_int, inn_str, inn_tup, inn_lst, inn_ptr, e_slT, e_slL, e_slN, isT_P, isT_L, isT_T, isT_N, e_sub, e_fdiv, e_mod, e_pow, e_lt, e_le, e_gt, e_ge, e_neg, e_add, e_addS, e_addT, e_addL, e_addPP, e_addPL, e_addLP, e_mul, e_mulL, e_mulT, e_augI, e_ixT, e_ixL, e_ixN, e_ixP, e_lenT, e_lenL, e_lenN, e_lenS, e_lenP, e_abs, e_intI, e_intB, e_max, e_min, e_tupL, e_tupT, e_listL, e_listT, e_listN, e_listLL, e_listLT, e_divmod, e_isNon, e_isntNon, e_isB, e_isntB, e_setIx, e_insert, e_append, e_isL, e_isLL, e_seqP, e_seqL, e_seqT, e_seqN, it_lst, it_fz, Option.bind_some, Option.isSome_some, ix10, ix20, ix21, ix30, ix32, dl1, dl2, dl3, List.eraseIdx_cons_zero, e_pop0, e_popAt, e_rev, e_clear, e_tupP, e_listP, e_neN, e_neIN, e_neNI, e_eqIN, e_eqNI, at0, at1, at2, at3, Cell.lst.injEq, Cell.obj.injEq, Option.some.injEq, exists_eq_left', decide_eq_true_eq, true_and, and_true, cup_same, cup_cup, wSrtIt, List.flatten_nil, List.flatten_cons, enOf, endOf, excOf, List.map_cons, List.map_nil, List.length_cons, List.length_nil, List.replicate, Nat.reduceAdd, Nat.reduceSub, List.cons_append, List.nil_append, List.set_cons_zero, List.set_cons_succ, List.getElem?_cons_zero, List.getElem?_cons_succ, List.getElem_cons_zero, List.getElem_cons_succ, reduceCtorEq, if_true, if_false, Bool.false_eq_true, decide_true, decide_false, ne_eq, not_true, not_false_eq_true, Int.reduceEq, Nat.reduceMul, true_imp_iff, Int.reduceToNat, Int.reducePow, Nat.reducePow, Int.reduceLE, Int.reduceLT, Nat.reduceLT, and_self, Nat.reduceLeDiff, Int.reduceNeg, Int.reduceAdd, Int.reduceSub, Int.reduceMul, Int.cast_ofNat_Int]
      all_goals exact rt
    | none =>
      unfold aheadW at rt
      rw [if_pos hw] at rt
      simp only [wordD, sRaise, sTry, wIsX, wWhat, wBack, lo_lst, e_mulV, sizeL, sNil, sSeq, sPass, sBrk, sCont, sExpr, sRet, sRetN, sIf, sNever, sSet, sAug, gNm, gTp, gNil', gCons', gSb, sAsg, sPar, sFor, wVar_z, wVar_s, wC, wChn, wTru, sPar3, wRev, wCallK, permF, List.filterMap_cons, List.filterMap_nil, wBin, wUn, wTst, wNot, wAnd, wOr, wAndV, wOrV, wNotV, wIf, wNil, wCons, wTup, wLst, wLstL, wFz, wCall, wBi, wMt, wMt0, wSl, wSlL, wPart, wNoPart, wYes, wSeq, wRg1, wRg2, wEnum, wZip, wLc, wLcL, wLRg, wFld, sFldS, sFldA, gFld, wMeth, wMake, lvl2_s, onB, e_eqI, e_neI, e_eqB, e_neB, e_eqS, e_neS, e_eqN, e_tyLT, e_ty1, isTys, tyMem, tyN_non, tyN_bl, tyN_int, tyN_str, tyN_tup, tyN_lst, Bool.true_or, Bool.or_true, Bool.or_false, Bool.false_or, Bool.not_true, Bool.not_false, inn_non, inn_bl, inn_int, inn_str, inn_tup, inn_lst, inn_ptr, e_slT, e_slL, e_slN, isT_P, isT_L, isT_T, isT_N, e_sub, e_fdiv, e_mod, e_pow, e_lt, e_le, e_gt, e_ge, e_neg, e_add, e_addS, e_addT, e_addL, e_addPP, e_addPL, e_addLP, e_mul, e_mulL, e_mulT, e_augI, e_ixT, e_ixL, e_ixN, e_ixP, e_lenT, e_lenL, e_lenN, e_lenS, e_lenP, e_abs, e_intI, e_intB, e_max, e_min, e_tupL, e_tupT, e_listL, e_listT, e_listN, e_listLL, e_listLT, e_divmod, e_isNon, e_isntNon, e_isB, e_isntB, e_setIx, e_insert, e_append, e_isL, e_isLL, e_seqP, e_seqL, e_seqT, e_seqN, it_lst, it_fz, Option.bind_some, Option.isSome_some, ix10, ix20, ix21, ix30, ix32, dl1, dl2, dl3, List.eraseIdx_cons_zero, e_pop0, e_popAt, e_rev, e_clear, e_tupP, e_listP, e_neN, e_neIN, e_neNI, e_eqIN, e_eqNI, at0, at1, at2, at3, Cell.lst.injEq, Cell.obj.injEq, Option.some.injEq, exists_eq_left', decide_eq_true_eq, true_and, and_true, cup_same, cup_cup, wSrtIt, List.flatten_nil, List.flatten_cons, enOf, endOf, excOf, List.map_cons, List.map_nil, List.length_cons, List.length_nil, List.replicate, Nat.reduceAdd, Nat.reduceSub, List.cons_append, List.nil_append, List.set_cons_zero, List.set_cons_succ, List.getElem?_cons_zero, List.getElem?_cons_succ, List.getElem_cons_zero, List.getElem_cons_succ, reduceCtorEq, if_true, if_false, Bool.false_eq_true, decide_true, decide_false, ne_eq, not_true, not_false_eq_true, Int.reduceEq, Nat.reduceMul, true_imp_iff, Int.reduceToNat, Int.reducePow, Nat.reducePow, Int.reduceLE, Int.reduceLT, Nat.reduceLT, and_self, Nat.reduceLeDiff, Int.reduceNeg, Int.reduceAdd, Int.reduceSub, Int.reduceMul, Int.cast_ofNat_Int]
      refine ⟨granAt w j, loadAt w i, rfl, hw, by omega, ?_⟩
      have hle : ((aheadB (granAt w j) (loadAt w i)).map fun b => wordD (some b)).length ≤ 2 := by
        rw [List.length_map]
        unfold aheadB
        split <;> split <;> simp
      try simp only [sRaise, sTry, wIsX, wWhat, wBack, lo_lst, e_mulV, sizeL, sNil, sSeq, sPass, sBrk, sCont, sExpr, sRet, sRetN, sIf, sNever, sSet, sAug, gNm, gTp, gNil', gCons', gSb, sAsg, sPar, sFor, wVar_z, wVar_s, wC, wChn, wTru, sPar3, wRev, wCallK, permF, List.filterMap_cons, List.filterMap_nil, wBin, wUn, wTst, wNot, wAnd, wOr, wAndV, wOrV, wNotV, wIf, wNil, wCons, wTup, wLst, wLstL, wFz, wCall, wBi, wMt, wMt0, wSl, wSlL, wPart, wNoPart, wYes, wSeq, wRg1, wRg2, wEnum, wZip, wLc, wLcL, wLRg, wFld, sFldS, sFldA, gFld, wMeth, wMake, lvl2_s, onB, e_eqI, e_neI, e_eqB, e_neB, e_eqS, e_neS, e_eqN, e_tyLT, e_ty1, isTys, tyMem, tyN_non, tyN_bl, tyN_int, tyN_str, tyN_tup, tyN_lst, Bool.true_or, Bool.or_true, Bool.or_false, Bool.false_or, Bool.not_true, Bool.not_false, inn_non, inn_bl, inn_int, inn_str, inn_tup, inn_lst, inn_ptr, e_slT, e_slL, e_slN, isT_P, isT_L, isT_T, isT_N, e_sub, e_fdiv, e_mod, e_pow, e_lt, e_le, e_gt, e_ge, e_neg, e_add, e_addS, e_addT, e_addL, e_addPP, e_addPL, e_addLP, e_mul, e_mulL, e_mulT, e_augI, e_ixT, e_ixL, e_ixN, e_ixP, e_lenT, e_lenL, e_lenN, e_lenS, e_lenP, e_abs, e_intI, e_intB, e_max, e_min, e_tupL, e_tupT, e_listL, e_listT, e_listN, e_listLL, e_listLT, e_divmod, e_isNon, e_isntNon, e_isB, e_isntB, e_setIx, e_insert, e_append, e_isL, e_isLL, e_seqP, e_seqL, e_seqT, e_seqN, it_lst, it_fz, Option.bind_some, Option.isSome_some, ix10, ix20, ix21, ix30, ix32, dl1, dl2, dl3, List.eraseIdx_cons_zero, e_pop0, e_popAt, e_rev, e_clear, e_tupP, e_listP, e_neN, e_neIN, e_neNI, e_eqIN, e_eqNI, at0, at1, at2, at3, Cell.lst.injEq, Cell.obj.injEq, Option.some.injEq, exists_eq_left', decide_eq_true_eq, true_and, and_true, cup_same, cup_cup, wSrtIt, List.flatten_nil, List.flatten_cons, enOf, endOf, excOf, List.map_cons, List.map_nil, List.length_cons, List.length_nil, List.replicate, Nat.reduceAdd, Nat.reduceSub, List.cons_append, List.nil_append, List.set_cons_zero, List.set_cons_succ, List.getElem?_cons_zero, List.getElem?_cons_succ, List.getElem_cons_zero, List.getElem_cons_succ, reduceCtorEq, if_true, if_false, Bool.false_eq_true, decide_true, decide_false, ne_eq, not_true, not_false_eq_true, Int.reduceEq, Nat.reduceMul, true_imp_iff, Int.reduceToNat, Int.reducePow, Nat.reducePow, Int.reduceLE, Int.reduceLT, Nat.reduceLT, and_self, Nat.reduceLeDiff, Int.reduceNeg, Int.reduceAdd, Int.reduceSub, Int.reduceMul, Int.cast_ofNat_Int, lvl_s]
      intro _
      refine ⟨by omega, lcM (fun b => wordD (some b)) (fun b => wD (exchW w i j b)) trivial (fun b hb => ⟨_, rfl, fun Q' q' => ?_⟩) ?_⟩
      · try simp only [ewipe, sRaise, sTry, wIsX, wWhat, wBack, lo_lst, e_mulV, sizeL, sNil, sSeq, sPass, sBrk, sCont, sExpr, sRet, sRetN, sIf, sNever, sSet, sAug, gNm, gTp, gNil', gCons', gSb, sAsg, sPar, sFor, wVar_z, wVar_s, wC, wChn, wTru, sPar3, wRev, wCallK, permF, List.filterMap_cons, List.filterMap_nil, wBin, wUn, wTst, wNot, wAnd, wOr, wAndV, wOrV, wNotV, wIf, wNil, wCons, wTup, wLst, wLstL, wFz, wCall, wBi, wMt, wMt0, wSl, wSlL, wPart, wNoPart, wYes, wSeq, wRg1, wRg2, wEnum, wZip, wLc, wLcL, wLRg, wFld, sFldS, sFldA, gFld, wMeth, wMake, lvl2_s, onB, e_eqI, e_neI, e_eqB, e_neB, e_eqS, e_neS, e_eqN, e_tyLT, e_ty1, isTys, tyMem, tyN_non, tyN_bl, tyN_int, tyN_str, tyN_tup, tyN_lst, Bool.true_or, Bool.or_true, Bool.or_false, Bool.false_or, Bool.not_true, Bool.not_false, inn_non, inn_bl, inn_int, inn_str, inn_tup, inn_lst, inn_ptr, e_slT, e_slL, e_slN, isT_P, isT_L, isT_T, isT_N, e_sub, e_fdiv, e_mod, e_pow, e_lt, e_le, e_gt, e_ge, e_neg, e_add, e_addS, e_addT, e_addL, e_addPP, e_addPL, e_addLP, e_mul, e_mulL, e_mulT, e_augI, e_ixT, e_ixL, e_ixN, e_ixP, e_lenT, e_lenL, e_lenN, e_lenS, e_lenP, e_abs, e_intI, e_intB, e_max, e_min, e_tupL, e_tupT, e_listL, e_listT, e_listN, e_listLL, e_listLT, e_divmod, e_isNon, e_isntNon, e_isB, e_isntB, e_setIx, e_insert, e_append, e_isL, e_isLL, e_seqP, e_seqL, e_seqT, e_seqN, it_lst, it_fz, Option.bind_some, Option.isSome_some, ix10, ix20, ix21, ix30, ix32, dl1, dl2, dl3, List.eraseIdx_cons_zero, e_pop0, e_popAt, e_rev, e_clear, e_tupP, e_listP, e_neN, e_neIN, e_neNI, e_eqIN, e_eqNI, at0, at1, at2, at3, Cell.lst.injEq, Cell.obj.injEq, Option.some.injEq, exists_eq_left', decide_eq_true_eq, true_and, and_true, cup_same, cup_cup, wSrtIt, List.flatten_nil, List.flatten_cons, enOf, endOf, excOf, List.map_cons, List.map_nil, List.length_cons, List.length_nil, List.replicate, Nat.reduceAdd, Nat.reduceSub, List.cons_append, List.nil_append, List.set_cons_zero, List.set_cons_succ, List.getElem?_cons_zero, List.getElem?_cons_succ, List.getElem_cons_zero, List.getElem_cons_succ, reduceCtorEq, if_true, if_false, Bool.false_eq_true, decide_true, decide_false, ne_eq, not_true, not_false_eq_true, Int.reduceEq, Nat.reduceMul, true_imp_iff, Int.reduceToNat, Int.reducePow, Nat.reducePow, Int.reduceLE, Int.reduceLT, Nat.reduceLT, and_self, Nat.reduceLeDiff, Int.reduceNeg, Int.reduceAdd, Int.reduceSub, Int.reduceMul, Int.cast_ofNat_Int, lvl_s]
        exact ⟨w, i, j, b, rfl, hi, hj, by omega, by omega, aheadB_some hb, q'⟩
      · try simp only [sRaise, sTry, wIsX, wWhat, wBack, lo_lst, e_mulV, sizeL, sNil, sSeq, sPass, sBrk, sCont, sExpr, sRet, sRetN, sIf, sNever, sSet, sAug, gNm, gTp, gNil', gCons', gSb, sAsg, sPar, sFor, wVar_z, wVar_s, wC, wChn, wTru, sPar3, wRev, wCallK, permF, List.filterMap_cons, List.filterMap_nil, wBin, wUn, wTst, wNot, wAnd, wOr, wAndV, wOrV, wNotV, wIf, wNil, wCons, wTup, wLst, wLstL, wFz, wCall, wBi, wMt, wMt0, wSl, wSlL, wPart, wNoPart, wYes, wSeq, wRg1, wRg2, wEnum, wZip, wLc, wLcL, wLRg, wFld, sFldS, sFldA, gFld, wMeth, wMake, lvl2_s, onB, e_eqI, e_neI, e_eqB, e_neB, e_eqS, e_neS, e_eqN, e_tyLT, e_ty1, isTys, tyMem, tyN_non, tyN_bl, tyN_int, tyN_str, tyN_tup, tyN_lst, Bool.true_or, Bool.or_true, Bool.or_false, Bool.false_or, Bool.not_true, Bool.not_false, inn_non, inn_bl, inn_int, inn_str, inn_tup, inn_lst, inn_ptr, e_slT, e_slL, e_slN, isT_P, isT_L, isT_T, isT_N, e_sub, e_fdiv, e_mod, e_pow, e_lt, e_le, e_gt, e_ge, e_neg, e_add, e_addS, e_addT, e_addL, e_addPP, e_addPL, e_addLP, e_mul, e_mulL, e_mulT, e_augI, e_ixT, e_ixL, e_ixN, e_ixP, e_lenT, e_lenL, e_lenN, e_lenS, e_lenP, e_abs, e_intI, e_intB, e_max, e_min, e_tupL, e_tupT, e_listL, e_listT, e_listN, e_listLL, e_listLT, e_divmod, e_isNon, e_isntNon, e_isB, e_isntB, e_setIx, e_insert, e_append, e_isL, e_isLL, e_seqP, e_seqL, e_seqT, e_seqN, it_lst, it_fz, Option.bind_some, Option.isSome_some, ix10, ix20, ix21, ix30, ix32, dl1, dl2, dl3, List.eraseIdx_cons_zero, e_pop0, e_popAt, e_rev, e_clear, e_tupP, e_listP, e_neN, e_neIN, e_neNI, e_eqIN, e_eqNI, at0, at1, at2, at3, Cell.lst.injEq, Cell.obj.injEq, Option.some.injEq, exists_eq_left', decide_eq_true_eq, true_and, and_true, cup_same, cup_cup, wSrtIt, List.flatten_nil, List.flatten_cons, enOf, endOf, excOf, List.map_cons, List.map_nil, List.length_cons, List.length_nil, List.replicate, Nat.reduceAdd, Nat.reduceSub, List.cons_append, List.nil_append, List.set_cons_zero, List.set_cons_succ, List.getElem?_cons_zero, List.getElem?_cons_succ, List.getElem_cons_zero, List.getElem_cons_succ, reduceCtorEq, if_true, if_false, Bool.false_eq_true, decide_true, decide_false, ne_eq, not_true, not_false_eq_true, Int.reduceEq, Nat.reduceMul, true_imp_iff, Int.reduceToNat, Int.reducePow, Nat.reducePow, Int.reduceLE, Int.reduceLT, Nat.reduceLT, and_self, Nat.reduceLeDiff, Int.reduceNeg, Int.reduceAdd, Int.reduceSub, Int.reduceMul, Int.cast_ofNat_Int, lvl_s]
        rw [List.length_map] at hle
        refine ⟨by rw [List.length_map]; omega, ?_⟩
        rw [List.map_cons, List.map_map] at rt
        exact rt
  rcases hcm with rfl | rfl
  · try simp only [sRaise, sTry, wIsX, wWhat, wBack, lo_lst, e_mulV, sizeL, sNil, sSeq, sPass, sBrk, sCont, sExpr, sRet, sRetN, sIf, sNever, sSet, sAug, gNm, gTp, gNil', gCons', gSb, sAsg, sPar, sFor, wVar_z, wVar_s, wC, wChn, wTru, sPar3, wRev, wCallK, permF, List.filterMap_cons, List.filterMap_nil, wBin, wUn, wTst, wNot, wAnd, wOr, wAndV, wOrV, wNotV, wIf, wNil, wCons, wTup, wLst, wLstL, wFz, wCall, wBi, wMt, wMt0, wSl, wSlL, wPart, wNoPart, wYes, wSeq, wRg1, wRg2, wEnum, wZip, wLc, wLcL, wLRg, wFld, sFldS, sFldA, gFld, wMeth, wMake, lvl2_s, onB, e_eqI, e_neI, e_eqB, e_neB, e_eqS, e_neS, e_eqN, e_tyLT, e_ty1, isTys, tyMem, tyN_non, tyN_bl, tyN_int, tyN_str, tyN_tup, tyN_lst, Bool.true_or, Bool.or_true, Bool.or_false, Bool.false_or, Bool.not_true, Bool.not_false, inn_non, inn_bl, inn_int, inn_str, inn_tup, inn_lst, inn_ptr, e_slT, e_slL, e_slN, isT_P, isT_L, isT_T, isT_N, e_sub, e_fdiv, e_mod, e_pow, e_lt, e_le, e_gt, e_ge, e_neg, e_add, e_addS, e_addT, e_addL, e_addPP, e_addPL, e_addLP, e_mul, e_mulL, e_mulT, e_augI, e_ixT, e_ixL, e_ixN, e_ixP, e_lenT, e_lenL, e_lenN, e_lenS, e_lenP, e_abs, e_intI, e_intB, e_max, e_min, e_tupL, e_tupT, e_listL, e_listT, e_listN, e_listLL, e_listLT, e_divmod, e_isNon, e_isntNon, e_isB, e_isntB, e_setIx, e_insert, e_append, e_isL, e_isLL, e_seqP, e_seqL, e_seqT, e_seqN, it_lst, it_fz, Option.bind_some, Option.isSome_some, ix10, ix20, ix21, ix30, ix32, dl1, dl2, dl3, List.eraseIdx_cons_zero, e_pop0, e_popAt, e_rev, e_clear, e_tupP, e_listP, e_neN, e_neIN, e_neNI, e_eqIN, e_eqNI, at0, at1, at2, at3, Cell.lst.injEq, Cell.obj.injEq, Option.some.injEq, exists_eq_left', decide_eq_true_eq, true_and, and_true, cup_same, cup_cup, wSrtIt, List.flatten_nil, List.flatten_cons, enOf, endOf, excOf, List.map_cons, List.map_nil, List.length_cons, List.length_nil, List.replicate, Nat.reduceAdd, Nat.reduceSub, List.cons_append, List.nil_append, List.set_cons_zero, List.set_cons_succ, List.getElem?_cons_zero, List.getElem?_cons_succ, List.getElem_cons_zero, List.getElem_cons_succ, reduceCtorEq, if_true, if_false, Bool.false_eq_true, decide_true, decide_false, ne_eq, not_true, not_false_eq_true, Int.reduceEq, Nat.reduceMul, true_imp_iff, Int.reduceToNat, Int.reducePow, Nat.reducePow, Int.reduceLE, Int.reduceLT, Nat.reduceLT, and_self, Nat.reduceLeDiff, Int.reduceNeg, Int.reduceAdd, Int.reduceSub, Int.reduceMul, Int.cast_ofNat_Int, lvl_s]
    exact fin _ (.inl rfl)
  · try simp only [sRaise, sTry, wIsX, wWhat, wBack, lo_lst, e_mulV, sizeL, sNil, sSeq, sPass, sBrk, sCont, sExpr, sRet, sRetN, sIf, sNever, sSet, sAug, gNm, gTp, gNil', gCons', gSb, sAsg, sPar, sFor, wVar_z, wVar_s, wC, wChn, wTru, sPar3, wRev, wCallK, permF, List.filterMap_cons, List.filterMap_nil, wBin, wUn, wTst, wNot, wAnd, wOr, wAndV, wOrV, wNotV, wIf, wNil, wCons, wTup, wLst, wLstL, wFz, wCall, wBi, wMt, wMt0, wSl, wSlL, wPart, wNoPart, wYes, wSeq, wRg1, wRg2, wEnum, wZip, wLc, wLcL, wLRg, wFld, sFldS, sFldA, gFld, wMeth, wMake, lvl2_s, onB, e_eqI, e_neI, e_eqB, e_neB, e_eqS, e_neS, e_eqN, e_tyLT, e_ty1, isTys, tyMem, tyN_non, tyN_bl, tyN_int, tyN_str, tyN_tup, tyN_lst, Bool.true_or, Bool.or_true, Bool.or_false, Bool.false_or, Bool.not_true, Bool.not_false, inn_non, inn_bl, inn_int, inn_str, inn_tup, inn_lst, inn_ptr, e_slT, e_slL, e_slN, isT_P, isT_L, isT_T, isT_N, e_sub, e_fdiv, e_mod, e_pow, e_lt, e_le, e_gt, e_ge, e_neg, e_add, e_addS, e_addT, e_addL, e_addPP, e_addPL, e_addLP, e_mul, e_mulL, e_mulT, e_augI, e_ixT, e_ixL, e_ixN, e_ixP, e_lenT, e_lenL, e_lenN, e_lenS, e_lenP, e_abs, e_intI, e_intB, e_max, e_min, e_tupL, e_tupT, e_listL, e_listT, e_listN, e_listLL, e_listLT, e_divmod, e_isNon, e_isntNon, e_isB, e_isntB, e_setIx, e_insert, e_append, e_isL, e_isLL, e_seqP, e_seqL, e_seqT, e_seqN, it_lst, it_fz, Option.bind_some, Option.isSome_some, ix10, ix20, ix21, ix30, ix32, dl1, dl2, dl3, List.eraseIdx_cons_zero, e_pop0, e_popAt, e_rev, e_clear, e_tupP, e_listP, e_neN, e_neIN, e_neNI, e_eqIN, e_eqNI, at0, at1, at2, at3, Cell.lst.injEq, Cell.obj.injEq, Option.some.injEq, exists_eq_left', decide_eq_true_eq, true_and, and_true, cup_same, cup_cup, wSrtIt, List.flatten_nil, List.flatten_cons, enOf, endOf, excOf, List.map_cons, List.map_nil, List.length_cons, List.length_nil, List.replicate, Nat.reduceAdd, Nat.reduceSub, List.cons_append, List.nil_append, List.set_cons_zero, List.set_cons_succ, List.getElem?_cons_zero, List.getElem?_cons_succ, List.getElem_cons_zero, List.getElem_cons_succ, reduceCtorEq, if_true, if_false, Bool.false_eq_true, decide_true, decide_false, ne_eq, not_true, not_false_eq_true, Int.reduceEq, Nat.reduceMul, true_imp_iff, Int.reduceToNat, Int.reducePow, Nat.reducePow, Int.reduceLE, Int.reduceLT, Nat.reduceLT, and_self, Nat.reduceLeDiff, Int.reduceNeg, Int.reduceAdd, Int.reduceSub, Int.reduceMul, Int.cast_ofNat_Int, lvl_s]
    exact fin _ (.inr rfl)
theorem e_neW {c : Cs} {Q : DK} {a b : Wo} (ha : fine (wD a) = true) (hb : fine (wD b) = true) (q : Q (.bl (decide (a ≠ b))) c) : oNe (wD a) (wD b) c Q := by
  have da := dep_wD a
  have db := dep_wD b
  refine ⟨ok_fine (d := wD a) ha (by omega), ok_fine (d := wD b) hb (by omega), ?_⟩
  show Q (.bl (!deq (wD a) (wD b))) c
  rw [deq_wD, ← decide_not]
  exact q
theorem any_wD (x : Wo) : ∀ A : List Wo, ((A.map wD).any fun z => deq z (wD x)) = decide (x ∈ A)
  | [] => by simp
  | a :: A => by
    rw [List.map_cons, List.any_cons, any_wD x A, deq_wD]
    by_cases h : a = x
    · subst h; simp
    · have h2 : ¬ x = a := fun z => h z.symm
      simp [h, h2]
theorem e_ninW {c : Cs} {Q : DK} {A : List Wo} {x : Wo} (fx : fine (wD x) = true) (fA : ∀ a ∈ A, fine (wD a) = true) (q : Q (.bl (decide (x ∉ A))) c) : oNotIn (wD x) (.lst (A.map wD)) c Q := by
  have dx := dep_wD x
  have dA : deps (A.map wD) ≤ 10 := deps_le.mpr fun d hd => by obtain ⟨a, _, rfl⟩ := List.mem_map.mp hd; have := dep_wD a; omega
  have fa : fines (A.map wD) = true := fines_all.mpr fun d hd => by obtain ⟨a, ha, rfl⟩ := List.mem_map.mp hd; exact fA a ha
  refine ⟨ok_fine (d := wD x) fx (by omega), ok_fine (d := .lst (A.map wD)) (by simpa [fine] using fa) (by simp only [dep]; omega), ?_⟩
  show Q (.bl (!((A.map wD).any fun z => deq z (wD x)))) c
  rw [any_wD, ← decide_not]
  exact q
end VL
set_option maxHeartbeats 1000000
set_option maxHeartbeats 1000000
set_option maxHeartbeats 1000000
set_option maxHeartbeats 1000000
namespace VL
open PySem PySem.Spec PyProof.Rows L2
/-- the world with the cart's load and a place's exchanged -/
def chgW (w : Wo) (i j : Nat) (b : Bool) : Option Wo := if (selG (granAt w j) b).isSome && isGr (swapG (granAt w j) (loadAt w i) b).1 then some (exchW w i j b) else none
def optD : Option Wo → D
  | none => .non
  | some w => wD w
theorem cut_set {α : Type} (f : α → D) {l : List α} {j : Nat} (h : j < l.length) (x : α) : cutL (l.map f) none (some (j : Int)) ++ [f x] ++ cutL (l.map f) (some ((j : Int) + 1)) none = (l.set j x).map f := by
  rw [cutL_map, cutL_map, cutL_to (by omega), cutL_from (by omega)]
  have e1 : ((j : Int)).toNat = j := by omega
  have e2 : ((j : Int) + 1).toNat = j + 1 := by omega
  rw [e1, e2, ← set_cut h, List.map_append, List.map_append]
  rfl
theorem cut_lens {α : Type} (f : α → D) {l : List α} (j : Nat) : (cutL (l.map f) none (some (j : Int))).length ≤ l.length ∧ (cutL (l.map f) (some ((j : Int) + 1)) none).length ≤ l.length := by
  rw [cutL_map, cutL_map, cutL_to (by omega), cutL_from (by omega), List.length_map, List.length_map, List.length_take, List.length_drop]
  omega
theorem nin_oD {c : Cs} {p : Addr} {g : Gn} {Q : DK} (hc : c p = some (.lst [oD g.1, oD g.2])) (h1 : ∀ v, g.1 = some v → smallI v) (h2 : ∀ v, g.2 = some v → smallI v) (q : Q (.bl (g.1.isSome && g.2.isSome)) c) : oNotIn .non (.ptr p) c Q := by
  show (match lstOf c (.ptr p) with | some l => okD (rdv c .non) ∧ okD (.lst l) ∧ Q (.bl (if true = true then !(l.any fun z => deq z (rdv c .non)) else l.any fun z => deq z (rdv c .non))) c | none => False)
  rw [lst_ptr, hc]
  have f1 := (oD_fine h1).1
  have f2 := (oD_fine h2).1
  refine ⟨ok_fine (d := .non) rfl (by decide), ok_fine (d := .lst [oD g.1, oD g.2]) (by simp [fine, fines, f1, f2]) (by simp [dep, deps, dep_oD]), ?_⟩
  have e : ∀ o : Option Int, deq (oD o) .non = !o.isSome := fun o => by
    rw [show (D.non : D) = oD none from rfl, deq_oD]
    cases o <;> rfl
  show Q (.bl (!(([oD g.1, oD g.2]).any fun z => deq z .non))) c
  rw [List.any_cons, List.any_cons, List.any_nil, e, e]
  obtain ⟨a, b⟩ := g
  cases a <;> cases b <;> exact q
def c_l_changed84 (k : Nat) : Ctr := fun ds c Q _ => ∃ (w : Wo) (i j : Nat) (b : Bool), ds = [wD w, cmD (i, j), .int (if b then 1 else 0)] ∧ okWs w ∧ i < w.2.length ∧ j < w.1.length ∧ w.1.length ≤ 1000 ∧ w.2.length ≤ 1000 ∧ ∀ c', CLe c c' → Q (optD (chgW w i j b)) c'
def w_l_changed84 (k : Nat) : WS := (sSeq (sAsg (wVar 1) (gTp 2 (gCons' (gNm 4) (gCons' (gNm 5) gNil')))) (sSeq (sPar 6 7 (wCons (wBi oListL (wCons (wBin oIx (wBin oIx (wVar 0) (wC (.int 0))) (wVar 5)) wNil)) (wCons (wBin oIx (wBin oIx (wVar 0) (wC (.int 1))) (wVar 4)) wNil))) (sSeq (sIf (wTst (wBin oIs (wBin oIx (wVar 6) (wVar 2)) (wC .non))) (sRet (wC .non)) sNil) (sSeq (sAsg (wTup (wCons (wVar 7) (wCons (wBin oIx (wVar 6) (wVar 2)) wNil))) (gTp 2 (gCons' (gSb (wVar 6) (wVar 2)) (gCons' (gNm 7) gNil')))) (sSeq (sIf (wAnd (wTst (wBin oNotIn (wC .non) (wVar 6))) (wTst (wBin oGt (wBin oIx (wVar 6) (wC (.int 0))) (wBin oIx (wVar 6) (wC (.int 1)))))) (sRet (wC .non)) sNil) (sSeq (sSet 3 (wBin oAdd (wBin oAdd (wSl (wBin oIx (wVar 0) (wC (.int 0))) wNoPart (wPart (wVar 5))) (wTup (wCons (wBi oTuple (wCons (wVar 6) wNil)) wNil))) (wSl (wBin oIx (wVar 0) (wC (.int 0))) (wPart (wBin oAdd (wVar 5) (wC (.int 1)))) wNoPart))) (sRet (wTup (wCons (wVar 3) (wCons (wBin oAdd (wBin oAdd (wSl (wBin oIx (wVar 0) (wC (.int 1))) wNoPart (wPart (wVar 4))) (wTup (wCons (wVar 7) wNil))) (wSl (wBin oIx (wVar 0) (wC (.int 1))) (wPart (wBin oAdd (wVar 4) (wC (.int 1)))) wNoPart)) wNil))))))))))
theorem p_l_changed84 (k : Nat) (ds : List D) (c : Cs) (Q : DK) (X0 : XK0) (hlen0 : ds.length = 3) (h : c_l_changed84 k ds c Q X0) : w_l_changed84 k (endOf Q) (excOf X0) (enOf 8 ds) c := by
  obtain ⟨w, i, j, b, rfl, ok, hi, hj, z1, z2, q⟩ := h
  refine seq_gen fun D1 e1 _ _ n1 => ?_
  try simp only [cmD, sRaise, sTry, wIsX, wWhat, wBack, lo_lst, e_mulV, sizeL, sNil, sSeq, sPass, sBrk, sCont, sExpr, sRet, sRetN, sIf, sNever, sSet, sAug, gNm, gTp, gNil', gCons', gSb, sAsg, sPar, sFor, wVar_z, wVar_s, wC, wChn, wTru, sPar3, wRev, wCallK, permF, List.filterMap_cons, List.filterMap_nil, wBin, wUn, wTst, wNot, wAnd, wOr, wAndV, wOrV, wNotV, wIf, wNil, wCons, wTup, wLst, wLstL, wFz, wCall, wBi, wMt, wMt0, wSl, wSlL, wPart, wNoPart, wYes, wSeq, wRg1, wRg2, wEnum, wZip, wLc, wLcL, wLRg, wFld, sFldS, sFldA, gFld, wMeth, wMake, lvl2_s, onB, e_eqI, e_neI, e_eqB, e_neB, e_eqS, e_neS, e_eqN, e_tyLT, e_ty1, isTys, tyMem, tyN_non, tyN_bl, tyN_int, tyN_str, tyN_tup, tyN_lst, Bool.true_or, Bool.or_true, Bool.or_false, Bool.false_or, Bool.not_true, Bool.not_false, inn_non, inn_bl, inn_int, inn_str, inn_tup, inn_lst, inn_ptr, e_slT, e_slL, e_slN, isT_P, isT_L, isT_T, isT_N, e_sub, e_fdiv, e_mod, e_pow, e_lt, e_le, e_gt, e_ge, e_neg, e_add, e_addS, e_addT, e_addL, e_addPP, e_addPL, e_addLP, e_mul, e_mulL, e_mulT, e_augI, e_ixT, e_ixL, e_ixN, e_ixP, e_lenT, e_lenL, e_lenN, e_lenS, e_lenP, e_abs, e_intI, e_intB, e_max, e_min, e_tupL, e_tupT, e_listL, e_listT, e_listN, e_listLL, e_listLT, e_divmod, e_isNon, e_isntNon, e_isB, e_isntB, e_setIx, e_insert, e_append, e_isL, e_isLL, e_seqP, e_seqL, e_seqT, e_seqN, it_lst, it_fz, Option.bind_some, Option.isSome_some, ix10, ix20, ix21, ix30, ix32, dl1, dl2, dl3, List.eraseIdx_cons_zero, e_pop0, e_popAt, e_rev, e_clear, e_tupP, e_listP, e_neN, e_neIN, e_neNI, e_eqIN, e_eqNI, at0, at1, at2, at3, Cell.lst.injEq, Cell.obj.injEq, Option.some.injEq, exists_eq_left', decide_eq_true_eq, true_and, and_true, cup_same, cup_cup, wLenSet, wSrtIt, List.flatten_nil, List.flatten_cons, enOf, endOf, excOf, List.map_cons, List.map_nil, List.length_cons, List.length_nil, List.replicate, Nat.reduceAdd, Nat.reduceSub, List.cons_append, List.nil_append, List.set_cons_zero, List.set_cons_succ, List.getElem?_cons_zero, List.getElem?_cons_succ, List.getElem_cons_zero, List.getElem_cons_succ, reduceCtorEq, if_true, if_false, Bool.false_eq_true, decide_true, decide_false, ne_eq, not_true, not_false_eq_true, Int.reduceEq, Nat.reduceMul, true_imp_iff, Int.reduceToNat, Int.reducePow, Nat.reducePow, Int.reduceLE, Int.reduceLT, Nat.reduceLT, and_self, Nat.reduceLeDiff, Int.reduceNeg, Int.reduceAdd, Int.reduceSub, Int.reduceMul, Int.cast_ofNat_Int, lvl_s]
  refine n1 _ _ (seq_gen fun D2 e2 _ _ n2 => ?_)
  clear n1
  have ew : wD w = .tup [.tup (w.1.map gD), .tup (w.2.map .int)] := rfl
  try simp only [ew, sRaise, sTry, wIsX, wWhat, wBack, lo_lst, e_mulV, sizeL, sNil, sSeq, sPass, sBrk, sCont, sExpr, sRet, sRetN, sIf, sNever, sSet, sAug, gNm, gTp, gNil', gCons', gSb, sAsg, sPar, sFor, wVar_z, wVar_s, wC, wChn, wTru, sPar3, wRev, wCallK, permF, List.filterMap_cons, List.filterMap_nil, wBin, wUn, wTst, wNot, wAnd, wOr, wAndV, wOrV, wNotV, wIf, wNil, wCons, wTup, wLst, wLstL, wFz, wCall, wBi, wMt, wMt0, wSl, wSlL, wPart, wNoPart, wYes, wSeq, wRg1, wRg2, wEnum, wZip, wLc, wLcL, wLRg, wFld, sFldS, sFldA, gFld, wMeth, wMake, lvl2_s, onB, e_eqI, e_neI, e_eqB, e_neB, e_eqS, e_neS, e_eqN, e_tyLT, e_ty1, isTys, tyMem, tyN_non, tyN_bl, tyN_int, tyN_str, tyN_tup, tyN_lst, Bool.true_or, Bool.or_true, Bool.or_false, Bool.false_or, Bool.not_true, Bool.not_false, inn_non, inn_bl, inn_int, inn_str, inn_tup, inn_lst, inn_ptr, e_slT, e_slL, e_slN, isT_P, isT_L, isT_T, isT_N, e_sub, e_fdiv, e_mod, e_pow, e_lt, e_le, e_gt, e_ge, e_neg, e_add, e_addS, e_addT, e_addL, e_addPP, e_addPL, e_addLP, e_mul, e_mulL, e_mulT, e_augI, e_ixT, e_ixL, e_ixN, e_ixP, e_lenT, e_lenL, e_lenN, e_lenS, e_lenP, e_abs, e_intI, e_intB, e_max, e_min, e_tupL, e_tupT, e_listL, e_listT, e_listN, e_listLL, e_listLT, e_divmod, e_isNon, e_isntNon, e_isB, e_isntB, e_setIx, e_insert, e_append, e_isL, e_isLL, e_seqP, e_seqL, e_seqT, e_seqN, it_lst, it_fz, Option.bind_some, Option.isSome_some, ix10, ix20, ix21, ix30, ix32, dl1, dl2, dl3, List.eraseIdx_cons_zero, e_pop0, e_popAt, e_rev, e_clear, e_tupP, e_listP, e_neN, e_neIN, e_neNI, e_eqIN, e_eqNI, at0, at1, at2, at3, Cell.lst.injEq, Cell.obj.injEq, Option.some.injEq, exists_eq_left', decide_eq_true_eq, true_and, and_true, cup_same, cup_cup, wLenSet, wSrtIt, List.flatten_nil, List.flatten_cons, enOf, endOf, excOf, List.map_cons, List.map_nil, List.length_cons, List.length_nil, List.replicate, Nat.reduceAdd, Nat.reduceSub, List.cons_append, List.nil_append, List.set_cons_zero, List.set_cons_succ, List.getElem?_cons_zero, List.getElem?_cons_succ, List.getElem_cons_zero, List.getElem_cons_succ, reduceCtorEq, if_true, if_false, Bool.false_eq_true, decide_true, decide_false, ne_eq, not_true, not_false_eq_true, Int.reduceEq, Nat.reduceMul, true_imp_iff, Int.reduceToNat, Int.reducePow, Nat.reducePow, Int.reduceLE, Int.reduceLT, Nat.reduceLT, and_self, Nat.reduceLeDiff, Int.reduceNeg, Int.reduceAdd, Int.reduceSub, Int.reduceMul, Int.cast_ofNat_Int, lvl_s]
  refine ⟨_, at_gran hj, ?_⟩
  obtain ⟨x, hx⟩ : ∃ x, x = loadAt w i := ⟨_, rfl⟩
  cases hg : granAt w j with
  | mk l u =>
  try simp only [gD, sRaise, sTry, wIsX, wWhat, wBack, lo_lst, e_mulV, sizeL, sNil, sSeq, sPass, sBrk, sCont, sExpr, sRet, sRetN, sIf, sNever, sSet, sAug, gNm, gTp, gNil', gCons', gSb, sAsg, sPar, sFor, wVar_z, wVar_s, wC, wChn, wTru, sPar3, wRev, wCallK, permF, List.filterMap_cons, List.filterMap_nil, wBin, wUn, wTst, wNot, wAnd, wOr, wAndV, wOrV, wNotV, wIf, wNil, wCons, wTup, wLst, wLstL, wFz, wCall, wBi, wMt, wMt0, wSl, wSlL, wPart, wNoPart, wYes, wSeq, wRg1, wRg2, wEnum, wZip, wLc, wLcL, wLRg, wFld, sFldS, sFldA, gFld, wMeth, wMake, lvl2_s, onB, e_eqI, e_neI, e_eqB, e_neB, e_eqS, e_neS, e_eqN, e_tyLT, e_ty1, isTys, tyMem, tyN_non, tyN_bl, tyN_int, tyN_str, tyN_tup, tyN_lst, Bool.true_or, Bool.or_true, Bool.or_false, Bool.false_or, Bool.not_true, Bool.not_false, inn_non, inn_bl, inn_int, inn_str, inn_tup, inn_lst, inn_ptr, e_slT, e_slL, e_slN, isT_P, isT_L, isT_T, isT_N, e_sub, e_fdiv, e_mod, e_pow, e_lt, e_le, e_gt, e_ge, e_neg, e_add, e_addS, e_addT, e_addL, e_addPP, e_addPL, e_addLP, e_mul, e_mulL, e_mulT, e_augI, e_ixT, e_ixL, e_ixN, e_ixP, e_lenT, e_lenL, e_lenN, e_lenS, e_lenP, e_abs, e_intI, e_intB, e_max, e_min, e_tupL, e_tupT, e_listL, e_listT, e_listN, e_listLL, e_listLT, e_divmod, e_isNon, e_isntNon, e_isB, e_isntB, e_setIx, e_insert, e_append, e_isL, e_isLL, e_seqP, e_seqL, e_seqT, e_seqN, it_lst, it_fz, Option.bind_some, Option.isSome_some, ix10, ix20, ix21, ix30, ix32, dl1, dl2, dl3, List.eraseIdx_cons_zero, e_pop0, e_popAt, e_rev, e_clear, e_tupP, e_listP, e_neN, e_neIN, e_neNI, e_eqIN, e_eqNI, at0, at1, at2, at3, Cell.lst.injEq, Cell.obj.injEq, Option.some.injEq, exists_eq_left', decide_eq_true_eq, true_and, and_true, cup_same, cup_cup, wLenSet, wSrtIt, List.flatten_nil, List.flatten_cons, enOf, endOf, excOf, List.map_cons, List.map_nil, List.length_cons, List.length_nil, List.replicate, Nat.reduceAdd, Nat.reduceSub, List.cons_append, List.nil_append, List.set_cons_zero, List.set_cons_succ, List.getElem?_cons_zero, List.getElem?_cons_succ, List.getElem_cons_zero, List.getElem_cons_succ, reduceCtorEq, if_true, if_false, Bool.false_eq_true, decide_true, decide_false, ne_eq, not_true, not_false_eq_true, Int.reduceEq, Nat.reduceMul, true_imp_iff, Int.reduceToNat, Int.reducePow, Nat.reducePow, Int.reduceLE, Int.reduceLT, Nat.reduceLT, and_self, Nat.reduceLeDiff, Int.reduceNeg, Int.reduceAdd, Int.reduceSub, Int.reduceMul, Int.cast_ofNat_Int, lvl_s]
  intro p hp
  refine ⟨_, at_load hi, n2 _ _ (seq_gen fun D3 e3 _ _ n3 => ?_)⟩
  clear n2
  rw [← hx]
  have hcp : cup c p (.lst [oD l, oD u]) p = some (.lst [oD l, oD u]) := cup_same
  have lp : CLe c (cup c p (.lst [oD l, oD u])) := CLe.new hp (CLe.refl c)
  generalize cup c p (.lst [oD l, oD u]) = c1 at hcp lp
  have fin : ∀ d c', CLe c c' → d = optD (chgW w i j b) → (endOf Q).rt d c' := fun d c' lc e => ⟨c', CLe.refl _, by rw [e]; exact q c' lc⟩
  have wr : ∀ (l' : List D), CLe c (cup c1 p (.lst l')) := fun l' z y hz => by
    have : z ≠ p := fun e => by rw [e, hp] at hz; cases hz
    rw [cup_ne this]
    exact lp z y hz
  have key : ∀ y, selG (granAt w j) b = some y → D3.nx [some (.tup [.tup (w.1.map gD), .tup (w.2.map .int)]), some (.tup [.int i, .int j]), some (.int (if b then 1 else 0)), none, some (.int i), some (.int j), some (.ptr p), some (.int x)] c1 := fun y hy => by
    refine n3 _ _ (seq_gen fun D4 e4 _ _ n4 => ?_)
    clear n3
    have hs : (swapG (granAt w j) (loadAt w i) b).2 = some y := by cases b <;> exact hy
    have hex : exchW w i j b = (w.1.set j (swapG (granAt w j) (loadAt w i) b).1, w.2.set i y) := by unfold exchW; rw [hs]; rfl
    have tail : ∀ (g' : Gn), g' = (swapG (granAt w j) (loadAt w i) b).1 → D4.nx [some (.tup [.tup (w.1.map gD), .tup (w.2.map .int)]), some (.tup [.int i, .int j]), some (.int (if b then 1 else 0)), none, some (.int i), some (.int j), some (.ptr p), some (.int y)] (cup c1 p (.lst [oD g'.1, oD g'.2])) := fun g' hg' => by
      have hc2 : cup c1 p (.lst [oD g'.1, oD g'.2]) p = some (.lst [oD g'.1, oD g'.2]) := cup_same
      have lc2 := wr [oD g'.1, oD g'.2]
      generalize cup c1 p (.lst [oD g'.1, oD g'.2]) = c2 at hc2 lc2
      refine n4 _ _ (seq_gen fun D5 e5 _ _ n5 => ?_)
      clear n4
      have good : isGr g' = true → D5.nx [some (.tup [.tup (w.1.map gD), .tup (w.2.map .int)]), some (.tup [.int i, .int j]), some (.int (if b then 1 else 0)), none, some (.int i), some (.int j), some (.ptr p), some (.int y)] c2 := fun hgr => by
        refine n5 _ _ (seq_gen fun D6 e6 _ _ n6 => ?_)
        try simp only [hc2, sRaise, sTry, wIsX, wWhat, wBack, lo_lst, e_mulV, sizeL, sNil, sSeq, sPass, sBrk, sCont, sExpr, sRet, sRetN, sIf, sNever, sSet, sAug, gNm, gTp, gNil', gCons', gSb, sAsg, sPar, sFor, wVar_z, wVar_s, wC, wChn, wTru, sPar3, wRev, wCallK, permF, List.filterMap_cons, List.filterMap_nil, wBin, wUn, wTst, wNot, wAnd, wOr, wAndV, wOrV, wNotV, wIf, wNil, wCons, wTup, wLst, wLstL, wFz, wCall, wBi, wMt, wMt0, wSl, wSlL, wPart, wNoPart, wYes, wSeq, wRg1, wRg2, wEnum, wZip, wLc, wLcL, wLRg, wFld, sFldS, sFldA, gFld, wMeth, wMake, lvl2_s, onB, e_eqI, e_neI, e_eqB, e_neB, e_eqS, e_neS, e_eqN, e_tyLT, e_ty1, isTys, tyMem, tyN_non, tyN_bl, tyN_int, tyN_str, tyN_tup, tyN_lst, Bool.true_or, Bool.or_true, Bool.or_false, Bool.false_or, Bool.not_true, Bool.not_false, inn_non, inn_bl, inn_int, inn_str, inn_tup, inn_lst, inn_ptr, e_slT, e_slL, e_slN, isT_P, isT_L, isT_T, isT_N, e_sub, e_fdiv, e_mod, e_pow, e_lt, e_le, e_gt, e_ge, e_neg, e_add, e_addS, e_addT, e_addL, e_addPP, e_addPL, e_addLP, e_mul, e_mulL, e_mulT, e_augI, e_ixT, e_ixL, e_ixN, e_ixP, e_lenT, e_lenL, e_lenN, e_lenS, e_lenP, e_abs, e_intI, e_intB, e_max, e_min, e_tupL, e_tupT, e_listL, e_listT, e_listN, e_listLL, e_listLT, e_divmod, e_isNon, e_isntNon, e_isB, e_isntB, e_setIx, e_insert, e_append, e_isL, e_isLL, e_seqP, e_seqL, e_seqT, e_seqN, it_lst, it_fz, Option.bind_some, Option.isSome_some, ix10, ix20, ix21, ix30, ix32, dl1, dl2, dl3, List.eraseIdx_cons_zero, e_pop0, e_popAt, e_rev, e_clear, e_tupP, e_listP, e_neN, e_neIN, e_neNI, e_eqIN, e_eqNI, at0, at1, at2, at3, Cell.lst.injEq, Cell.obj.injEq, Option.some.injEq, exists_eq_left', decide_eq_true_eq, true_and, and_true, cup_same, cup_cup, wLenSet, wSrtIt, List.flatten_nil, List.flatten_cons, enOf, endOf, excOf, List.map_cons, List.map_nil, List.length_cons, List.length_nil, List.replicate, Nat.reduceAdd, Nat.reduceSub, List.cons_append, List.nil_append, List.set_cons_zero, List.set_cons_succ, List.getElem?_cons_zero, List.getElem?_cons_succ, List.getElem_cons_zero, List.getElem_cons_succ, reduceCtorEq, if_true, if_false, Bool.false_eq_true, decide_true, decide_false, ne_eq, not_true, not_false_eq_true, Int.reduceEq, Nat.reduceMul, true_imp_iff, Int.reduceToNat, Int.reducePow, Nat.reducePow, Int.reduceLE, Int.reduceLT, Nat.reduceLT, and_self, Nat.reduceLeDiff, Int.reduceNeg, Int.reduceAdd, Int.reduceSub, Int.reduceMul, Int.cast_ofNat_Int, lvl_s]
        have eg : D.tup [oD g'.1, oD g'.2] = gD g' := rfl
        rw [eg, cut_set gD hj g']
        have hl := cut_lens gD (l := w.1) j
        refine ⟨by omega, by rw [List.length_append, List.length_singleton]; omega, n6 _ _ ?_⟩
        clear n6
        try simp only [sRaise, sTry, wIsX, wWhat, wBack, lo_lst, e_mulV, sizeL, sNil, sSeq, sPass, sBrk, sCont, sExpr, sRet, sRetN, sIf, sNever, sSet, sAug, gNm, gTp, gNil', gCons', gSb, sAsg, sPar, sFor, wVar_z, wVar_s, wC, wChn, wTru, sPar3, wRev, wCallK, permF, List.filterMap_cons, List.filterMap_nil, wBin, wUn, wTst, wNot, wAnd, wOr, wAndV, wOrV, wNotV, wIf, wNil, wCons, wTup, wLst, wLstL, wFz, wCall, wBi, wMt, wMt0, wSl, wSlL, wPart, wNoPart, wYes, wSeq, wRg1, wRg2, wEnum, wZip, wLc, wLcL, wLRg, wFld, sFldS, sFldA, gFld, wMeth, wMake, lvl2_s, onB, e_eqI, e_neI, e_eqB, e_neB, e_eqS, e_neS, e_eqN, e_tyLT, e_ty1, isTys, tyMem, tyN_non, tyN_bl, tyN_int, tyN_str, tyN_tup, tyN_lst, Bool.true_or, Bool.or_true, Bool.or_false, Bool.false_or, Bool.not_true, Bool.not_false, inn_non, inn_bl, inn_int, inn_str, inn_tup, inn_lst, inn_ptr, e_slT, e_slL, e_slN, isT_P, isT_L, isT_T, isT_N, e_sub, e_fdiv, e_mod, e_pow, e_lt, e_le, e_gt, e_ge, e_neg, e_add, e_addS, e_addT, e_addL, e_addPP, e_addPL, e_addLP, e_mul, e_mulL, e_mulT, e_augI, e_ixT, e_ixL, e_ixN, e_ixP, e_lenT, e_lenL, e_lenN, e_lenS, e_lenP, e_abs, e_intI, e_intB, e_max, e_min, e_tupL, e_tupT, e_listL, e_listT, e_listN, e_listLL, e_listLT, e_divmod, e_isNon, e_isntNon, e_isB, e_isntB, e_setIx, e_insert, e_append, e_isL, e_isLL, e_seqP, e_seqL, e_seqT, e_seqN, it_lst, it_fz, Option.bind_some, Option.isSome_some, ix10, ix20, ix21, ix30, ix32, dl1, dl2, dl3, List.eraseIdx_cons_zero, e_pop0, e_popAt, e_rev, e_clear, e_tupP, e_listP, e_neN, e_neIN, e_neNI, e_eqIN, e_eqNI, at0, at1, at2, at3, Cell.lst.injEq, Cell.obj.injEq, Option.some.injEq, exists_eq_left', decide_eq_true_eq, true_and, and_true, cup_same, cup_cup, wLenSet, wSrtIt, List.flatten_nil, List.flatten_cons, enOf, endOf, excOf, List.map_cons, List.map_nil, List.length_cons, List.length_nil, List.replicate, Nat.reduceAdd, Nat.reduceSub, List.cons_append, List.nil_append, List.set_cons_zero, List.set_cons_succ, List.getElem?_cons_zero, List.getElem?_cons_succ, List.getElem_cons_zero, List.getElem_cons_succ, reduceCtorEq, if_true, if_false, Bool.false_eq_true, decide_true, decide_false, ne_eq, not_true, not_false_eq_true, Int.reduceEq, Nat.reduceMul, true_imp_iff, Int.reduceToNat, Int.reducePow, Nat.reducePow, Int.reduceLE, Int.reduceLT, Nat.reduceLT, and_self, Nat.reduceLeDiff, Int.reduceNeg, Int.reduceAdd, Int.reduceSub, Int.reduceMul, Int.cast_ofNat_Int, lvl_s]
        have ey : [D.int y] = [D.int y] := rfl
        rw [cut_set D.int hi y]
        have hl2 := cut_lens D.int (l := w.2) i
        refine ⟨by omega, by rw [List.length_append, List.length_singleton]; omega, ?_⟩
        refine fin _ _ lc2 ?_
        have : chgW w i j b = some (exchW w i j b) := by
          unfold chgW
          rw [hy, ← hg', hgr]
          rfl
        rw [this, hex, ← hg']
        rfl
      have sx := load_small ok hi
      have okg := ok.1 _ (gran_mem hj)
      have sg : smG g' := by rw [hg']; exact smG_swap b okg.sm sx
      have hsome : g'.1.isSome = true ∨ g'.2.isSome = true := by rw [hg']; cases b <;> simp [swapG]
      simp only [sRaise, sTry, wIsX, wWhat, wBack, lo_lst, e_mulV, sizeL, sNil, sSeq, sPass, sBrk, sCont, sExpr, sRet, sRetN, sIf, sNever, sSet, sAug, gNm, gTp, gNil', gCons', gSb, sAsg, sPar, sFor, wVar_z, wVar_s, wC, wChn, wTru, sPar3, wRev, wCallK, permF, List.filterMap_cons, List.filterMap_nil, wBin, wUn, wTst, wNot, wAnd, wOr, wAndV, wOrV, wNotV, wIf, wNil, wCons, wTup, wLst, wLstL, wFz, wCall, wBi, wMt, wMt0, wSl, wSlL, wPart, wNoPart, wYes, wSeq, wRg1, wRg2, wEnum, wZip, wLc, wLcL, wLRg, wFld, sFldS, sFldA, gFld, wMeth, wMake, lvl2_s, onB, e_eqI, e_neI, e_eqB, e_neB, e_eqS, e_neS, e_eqN, e_tyLT, e_ty1, isTys, tyMem, tyN_non, tyN_bl, tyN_int, tyN_str, tyN_tup, tyN_lst, Bool.true_or, Bool.or_true, Bool.or_false, Bool.false_or, Bool.not_true, Bool.not_false, inn_non, inn_bl, inn_int, inn_str, inn_tup, inn_lst, inn_ptr, e_slT, e_slL, e_slN, isT_P, isT_L, isT_T, isT_N, e_sub, e_fdiv, e_mod, e_pow, e_lt, e_le, e_gt, e_ge, e_neg, e_add, e_addS, e_addT, e_addL, e_addPP, e_addPL, e_addLP, e_mul, e_mulL, e_mulT, e_augI, e_ixT, e_ixL, e_ixN, e_ixP, e_lenT, e_lenL, e_lenN, e_lenS, e_lenP, e_abs, e_intI, e_intB, e_max, e_min, e_tupL, e_tupT, e_listL, e_listT, e_listN, e_listLL, e_listLT, e_divmod, e_isNon, e_isntNon, e_isB, e_isntB, e_setIx, e_insert, e_append, e_isL, e_isLL, e_seqP, e_seqL, e_seqT, e_seqN, it_lst, it_fz, Option.bind_some, Option.isSome_some, ix10, ix20, ix21, ix30, ix32, dl1, dl2, dl3, List.eraseIdx_cons_zero, e_pop0, e_popAt, e_rev, e_clear, e_tupP, e_listP, e_neN, e_neIN, e_neNI, e_eqIN, e_eqNI, at0, at1, at2, at3, Cell.lst.injEq, Cell.obj.injEq, Option.some.injEq, exists_eq_left', decide_eq_true_eq, true_and, and_true, cup_same, cup_cup, wLenSet, wSrtIt, List.flatten_nil, List.flatten_cons, enOf, endOf, excOf, List.map_cons, List.map_nil, List.length_cons, List.length_nil, List.replicate, Nat.reduceAdd, Nat.reduceSub, List.cons_append, List.nil_append, List.set_cons_zero, List.set_cons_succ, List.getElem?_cons_zero, List.getElem?_cons_succ, List.getElem_cons_zero, List.getElem_cons_succ, reduceCtorEq, if_true, if_false, Bool.false_eq_true, decide_true, decide_false, ne_eq, not_true, not_false_eq_true, Int.reduceEq, Nat.reduceMul, true_imp_iff, Int.reduceToNat, Int.reducePow, Nat.reducePow, Int.reduceLE, Int.reduceLT, Nat.reduceLT, and_self, Nat.reduceLeDiff, Int.reduceNeg, Int.reduceAdd, Int.reduceSub, Int.reduceMul, Int.cast_ofNat_Int, hc2, lvl_s]
      refine nin_oD hc2 sg.1 sg.2 ?_
      have bad : isGr g' = false → D5.rt .non c2 := fun hgr => by
        rw [e5]
        show (endOf Q).rt .non c2
        refine fin _ _ lc2 ?_
        have : chgW w i j b = none := by
          unfold chgW
          rw [← hg', hgr, Bool.and_false]
          rfl
        rw [this]
        rfl
      obtain ⟨a', b'⟩ := g'
      cases a' with
      | none => exact good (by cases b' <;> simp_all [isGr])
      | some a' =>
        cases b' with
        | none => exact good rfl
        | some b' =>
          try simp only [hc2, oD, sRaise, sTry, wIsX, wWhat, wBack, lo_lst, e_mulV, sizeL, sNil, sSeq, sPass, sBrk, sCont, sExpr, sRet, sRetN, sIf, sNever, sSet, sAug, gNm, gTp, gNil', gCons', gSb, sAsg, sPar, sFor, wVar_z, wVar_s, wC, wChn, wTru, sPar3, wRev, wCallK, permF, List.filterMap_cons, List.filterMap_nil, wBin, wUn, wTst, wNot, wAnd, wOr, wAndV, wOrV, wNotV, wIf, wNil, wCons, wTup, wLst, wLstL, wFz, wCall, wBi, wMt, wMt0, wSl, wSlL, wPart, wNoPart, wYes, wSeq, wRg1, wRg2, wEnum, wZip, wLc, wLcL, wLRg, wFld, sFldS, sFldA, gFld, wMeth, wMake, lvl2_s, onB, e_eqI, e_neI, e_eqB, e_neB, e_eqS, e_neS, e_eqN, e_tyLT, e_ty1, isTys, tyMem, tyN_non, tyN_bl, tyN_int, tyN_str, tyN_tup, tyN_lst, Bool.true_or, Bool.or_true, Bool.or_false, Bool.false_or, Bool.not_true, Bool.not_false, inn_non, inn_bl, inn_int, inn_str, inn_tup, inn_lst, inn_ptr, e_slT, e_slL, e_slN, isT_P, isT_L, isT_T, isT_N, e_sub, e_fdiv, e_mod, e_pow, e_lt, e_le, e_gt, e_ge, e_neg, e_add, e_addS, e_addT, e_addL, e_addPP, e_addPL, e_addLP, e_mul, e_mulL, e_mulT, e_augI, e_ixT, e_ixL, e_ixN, e_ixP, e_lenT, e_lenL, e_lenN, e_lenS, e_lenP, e_abs, e_intI, e_intB, e_max, e_min, e_tupL, e_tupT, e_listL, e_listT, e_listN, e_listLL, e_listLT, e_divmod, e_isNon, e_isntNon, e_isB, e_isntB, e_setIx, e_insert, e_append, e_isL, e_isLL, e_seqP, e_seqL, e_seqT, e_seqN, it_lst, it_fz, Option.bind_some, Option.isSome_some, ix10, ix20, ix21, ix30, ix32, dl1, dl2, dl3, List.eraseIdx_cons_zero, e_pop0, e_popAt, e_rev, e_clear, e_tupP, e_listP, e_neN, e_neIN, e_neNI, e_eqIN, e_eqNI, at0, at1, at2, at3, Cell.lst.injEq, Cell.obj.injEq, Option.some.injEq, exists_eq_left', decide_eq_true_eq, true_and, and_true, cup_same, cup_cup, wLenSet, wSrtIt, List.flatten_nil, List.flatten_cons, enOf, endOf, excOf, List.map_cons, List.map_nil, List.length_cons, List.length_nil, List.replicate, Nat.reduceAdd, Nat.reduceSub, List.cons_append, List.nil_append, List.set_cons_zero, List.set_cons_succ, List.getElem?_cons_zero, List.getElem?_cons_succ, List.getElem_cons_zero, List.getElem_cons_succ, reduceCtorEq, if_true, if_false, Bool.false_eq_true, decide_true, decide_false, ne_eq, not_true, not_false_eq_true, Int.reduceEq, Nat.reduceMul, true_imp_iff, Int.reduceToNat, Int.reducePow, Nat.reducePow, Int.reduceLE, Int.reduceLT, Nat.reduceLT, and_self, Nat.reduceLeDiff, Int.reduceNeg, Int.reduceAdd, Int.reduceSub, Int.reduceMul, Int.cast_ofNat_Int, lvl_s]
          simp only [Bool.and_self, if_true]
          by_cases h : b' < a'
          · rw [if_pos h]; exact bad (by simp [isGr]; omega)
          · rw [if_neg h]; exact good (by simp [isGr]; omega)
    cases b
    · simp only [hg] at hy
      obtain rfl : l = some y := hy
      try simp only [hcp, oD, sRaise, sTry, wIsX, wWhat, wBack, lo_lst, e_mulV, sizeL, sNil, sSeq, sPass, sBrk, sCont, sExpr, sRet, sRetN, sIf, sNever, sSet, sAug, gNm, gTp, gNil', gCons', gSb, sAsg, sPar, sFor, wVar_z, wVar_s, wC, wChn, wTru, sPar3, wRev, wCallK, permF, List.filterMap_cons, List.filterMap_nil, wBin, wUn, wTst, wNot, wAnd, wOr, wAndV, wOrV, wNotV, wIf, wNil, wCons, wTup, wLst, wLstL, wFz, wCall, wBi, wMt, wMt0, wSl, wSlL, wPart, wNoPart, wYes, wSeq, wRg1, wRg2, wEnum, wZip, wLc, wLcL, wLRg, wFld, sFldS, sFldA, gFld, wMeth, wMake, lvl2_s, onB, e_eqI, e_neI, e_eqB, e_neB, e_eqS, e_neS, e_eqN, e_tyLT, e_ty1, isTys, tyMem, tyN_non, tyN_bl, tyN_int, tyN_str, tyN_tup, tyN_lst, Bool.true_or, Bool.or_true, Bool.or_false, Bool.false_or, Bool.not_true, Bool.not_false, inn_non, inn_bl, inn_int, inn_str, inn_tup, inn_lst, inn_ptr, e_slT, e_slL, e_slN, isT_P, isT_L, isT_T, isT_N, e_sub, e_fdiv, e_mod, e_pow, e_lt, e_le, e_gt, e_ge, e_neg, e_add, e_addS, e_addT, e_addL, e_addPP, e_addPL, e_addLP, e_mul, e_mulL, e_mulT, e_augI, e_ixT, e_ixL, e_ixN, e_ixP, e_lenT, e_lenL, e_lenN, e_lenS, e_lenP, e_abs, e_intI, e_intB, e_max, e_min, e_tupL, e_tupT, e_listL, e_listT, e_listN, e_listLL, e_listLT, e_divmod, e_isNon, e_isntNon, e_isB, e_isntB, e_setIx, e_insert, e_append, e_isL, e_isLL, e_seqP, e_seqL, e_seqT, e_seqN, it_lst, it_fz, Option.bind_some, Option.isSome_some, ix10, ix20, ix21, ix30, ix32, dl1, dl2, dl3, List.eraseIdx_cons_zero, e_pop0, e_popAt, e_rev, e_clear, e_tupP, e_listP, e_neN, e_neIN, e_neNI, e_eqIN, e_eqNI, at0, at1, at2, at3, Cell.lst.injEq, Cell.obj.injEq, Option.some.injEq, exists_eq_left', decide_eq_true_eq, true_and, and_true, cup_same, cup_cup, wLenSet, wSrtIt, List.flatten_nil, List.flatten_cons, enOf, endOf, excOf, List.map_cons, List.map_nil, List.length_cons, List.length_nil, List.replicate, Nat.reduceAdd, Nat.reduceSub, List.cons_append, List.nil_append, List.set_cons_zero, List.set_cons_succ, List.getElem?_cons_zero, List.getElem?_cons_succ, List.getElem_cons_zero, List.getElem_cons_succ, reduceCtorEq, if_true, if_false, Bool.false_eq_true, decide_true, decide_false, ne_eq, not_true, not_false_eq_true, Int.reduceEq, Nat.reduceMul, true_imp_iff, Int.reduceToNat, Int.reducePow, Nat.reducePow, Int.reduceLE, Int.reduceLT, Nat.reduceLT, and_self, Nat.reduceLeDiff, Int.reduceNeg, Int.reduceAdd, Int.reduceSub, Int.reduceMul, Int.cast_ofNat_Int, lvl_s]
      have := tail (some x, u) (by rw [hg, ← hx]; rfl)
      simp only [oD] at this
      exact this
    · simp only [hg] at hy
      obtain rfl : u = some y := hy
      try simp only [hcp, oD, sRaise, sTry, wIsX, wWhat, wBack, lo_lst, e_mulV, sizeL, sNil, sSeq, sPass, sBrk, sCont, sExpr, sRet, sRetN, sIf, sNever, sSet, sAug, gNm, gTp, gNil', gCons', gSb, sAsg, sPar, sFor, wVar_z, wVar_s, wC, wChn, wTru, sPar3, wRev, wCallK, permF, List.filterMap_cons, List.filterMap_nil, wBin, wUn, wTst, wNot, wAnd, wOr, wAndV, wOrV, wNotV, wIf, wNil, wCons, wTup, wLst, wLstL, wFz, wCall, wBi, wMt, wMt0, wSl, wSlL, wPart, wNoPart, wYes, wSeq, wRg1, wRg2, wEnum, wZip, wLc, wLcL, wLRg, wFld, sFldS, sFldA, gFld, wMeth, wMake, lvl2_s, onB, e_eqI, e_neI, e_eqB, e_neB, e_eqS, e_neS, e_eqN, e_tyLT, e_ty1, isTys, tyMem, tyN_non, tyN_bl, tyN_int, tyN_str, tyN_tup, tyN_lst, Bool.true_or, Bool.or_true, Bool.or_false, Bool.false_or, Bool.not_true, Bool.not_false, inn_non, inn_bl, inn_int, inn_str, inn_tup, inn_lst, inn_ptr, e_slT, e_slL, e_slN, isT_P, isT_L, isT_T, isT_N, e_sub, e_fdiv, e_mod, e_pow, e_lt, e_le, e_gt, e_ge, e_neg, e_add, e_addS, e_addT, e_addL, e_addPP, e_addPL, e_addLP, e_mul, e_mulL, e_mulT, e_augI, e_ixT, e_ixL, e_ixN, e_ixP, e_lenT, e_lenL, e_lenN, e_lenS, e_lenP, e_abs, e_intI, e_intB, e_max, e_min, e_tupL, e_tupT, e_listL, e_listT, e_listN, e_listLL, e_listLT, e_divmod, e_isNon, e_isntNon, e_isB, e_isntB, e_setIx, e_insert, e_append, e_isL, e_isLL, e_seqP, e_seqL, e_seqT, e_seqN, it_lst, it_fz, Option.bind_some, Option.isSome_some, ix10, ix20, ix21, ix30, ix32, dl1, dl2, dl3, List.eraseIdx_cons_zero, e_pop0, e_popAt, e_rev, e_clear, e_tupP, e_listP, e_neN, e_neIN, e_neNI, e_eqIN, e_eqNI, at0, at1, at2, at3, Cell.lst.injEq, Cell.obj.injEq, Option.some.injEq, exists_eq_left', decide_eq_true_eq, true_and, and_true, cup_same, cup_cup, wLenSet, wSrtIt, List.flatten_nil, List.flatten_cons, enOf, endOf, excOf, List.map_cons, List.map_nil, List.length_cons, List.length_nil, List.replicate, Nat.reduceAdd, Nat.reduceSub, List.cons_append, List.nil_append, List.set_cons_zero, List.set_cons_succ, List.getElem?_cons_zero, List.getElem?_cons_succ, List.getElem_cons_zero, List.getElem_cons_succ, reduceCtorEq, if_true, if_false, Bool.false_eq_true, decide_true, decide_false, ne_eq, not_true, not_false_eq_true, Int.reduceEq, Nat.reduceMul, true_imp_iff, Int.reduceToNat, Int.reducePow, Nat.reducePow, Int.reduceLE, Int.reduceLT, Nat.reduceLT, and_self, Nat.reduceLeDiff, Int.reduceNeg, Int.reduceAdd, Int.reduceSub, Int.reduceMul, Int.cast_ofNat_Int, lvl_s]
      have := tail (l, some x) (by rw [hg, ← hx]; rfl)
      simp only [oD] at this
      exact this
  cases b
  · try simp only [hcp, sRaise, sTry, wIsX, wWhat, wBack, lo_lst, e_mulV, sizeL, sNil, sSeq, sPass, sBrk, sCont, sExpr, sRet, sRetN, sIf, sNever, sSet, sAug, gNm, gTp, gNil', gCons', gSb, sAsg, sPar, sFor, wVar_z, wVar_s, wC, wChn, wTru, sPar3, wRev, wCallK, permF, List.filterMap_cons, List.filterMap_nil, wBin, wUn, wTst, wNot, wAnd, wOr, wAndV, wOrV, wNotV, wIf, wNil, wCons, wTup, wLst, wLstL, wFz, wCall, wBi, wMt, wMt0, wSl, wSlL, wPart, wNoPart, wYes, wSeq, wRg1, wRg2, wEnum, wZip, wLc, wLcL, wLRg, wFld, sFldS, sFldA, gFld, wMeth, wMake, lvl2_s, onB, e_eqI, e_neI, e_eqB, e_neB, e_eqS, e_neS, e_eqN, e_tyLT, e_ty1, isTys, tyMem, tyN_non, tyN_bl, tyN_int, tyN_str, tyN_tup, tyN_lst, Bool.true_or, Bool.or_true, Bool.or_false, Bool.false_or, Bool.not_true, Bool.not_false, inn_non, inn_bl, inn_int, inn_str, inn_tup, inn_lst, inn_ptr, e_slT, e_slL, e_slN, isT_P, isT_L, isT_T, isT_N, e_sub, e_fdiv, e_mod, e_pow, e_lt, e_le, e_gt, e_ge, e_neg, e_add, e_addS, e_addT, e_addL, e_addPP, e_addPL, e_addLP, e_mul, e_mulL, e_mulT, e_augI, e_ixT, e_ixL, e_ixN, e_ixP, e_lenT, e_lenL, e_lenN, e_lenS, e_lenP, e_abs, e_intI, e_intB, e_max, e_min, e_tupL, e_tupT, e_listL, e_listT, e_listN, e_listLL, e_listLT, e_divmod, e_isNon, e_isntNon, e_isB, e_isntB, e_setIx, e_insert, e_append, e_isL, e_isLL, e_seqP, e_seqL, e_seqT, e_seqN, it_lst, it_fz, Option.bind_some, Option.isSome_some, ix10, ix20, ix21, ix30, ix32, dl1, dl2, dl3, List.eraseIdx_cons_zero, e_pop0, e_popAt, e_rev, e_clear, e_tupP, e_listP, e_neN, e_neIN, e_neNI, e_eqIN, e_eqNI, at0, at1, at2, at3, Cell.lst.injEq, Cell.obj.injEq, Option.some.injEq, exists_eq_left', decide_eq_true_eq, true_and, and_true, cup_same, cup_cup, wLenSet, wSrtIt, List.flatten_nil, List.flatten_cons, enOf, endOf, excOf, List.map_cons, List.map_nil, List.length_cons, List.length_nil, List.replicate, Nat.reduceAdd, Nat.reduceSub, List.cons_append, List.nil_append, List.set_cons_zero, List.set_cons_succ, List.getElem?_cons_zero, List.getElem?_cons_succ, List.getElem_cons_zero, List.getElem_cons_succ, reduceCtorEq, if_true, if_false, Bool.false_eq_true, decide_true, decide_false, ne_eq, not_true, not_false_eq_true, Int.reduceEq, Nat.reduceMul, true_imp_iff, Int.reduceToNat, Int.reducePow, Nat.reducePow, Int.reduceLE, Int.reduceLT, Nat.reduceLT, and_self, Nat.reduceLeDiff, Int.reduceNeg, Int.reduceAdd, Int.reduceSub, Int.reduceMul, Int.cast_ofNat_Int, lvl_s]
    cases l with
    | none =>
      simp only [oD, isNon, if_true]
      rw [e3]
      exact fin _ _ lp (by unfold chgW; rw [hg]; rfl)
    | some y =>
      try simp only [oD, sRaise, sTry, wIsX, wWhat, wBack, lo_lst, e_mulV, sizeL, sNil, sSeq, sPass, sBrk, sCont, sExpr, sRet, sRetN, sIf, sNever, sSet, sAug, gNm, gTp, gNil', gCons', gSb, sAsg, sPar, sFor, wVar_z, wVar_s, wC, wChn, wTru, sPar3, wRev, wCallK, permF, List.filterMap_cons, List.filterMap_nil, wBin, wUn, wTst, wNot, wAnd, wOr, wAndV, wOrV, wNotV, wIf, wNil, wCons, wTup, wLst, wLstL, wFz, wCall, wBi, wMt, wMt0, wSl, wSlL, wPart, wNoPart, wYes, wSeq, wRg1, wRg2, wEnum, wZip, wLc, wLcL, wLRg, wFld, sFldS, sFldA, gFld, wMeth, wMake, lvl2_s, onB, e_eqI, e_neI, e_eqB, e_neB, e_eqS, e_neS, e_eqN, e_tyLT, e_ty1, isTys, tyMem, tyN_non, tyN_bl, tyN_int, tyN_str, tyN_tup, tyN_lst, Bool.true_or, Bool.or_true, Bool.or_false, Bool.false_or, Bool.not_true, Bool.not_false, inn_non, inn_bl, inn_int, inn_str, inn_tup, inn_lst, inn_ptr, e_slT, e_slL, e_slN, isT_P, isT_L, isT_T, isT_N, e_sub, e_fdiv, e_mod, e_pow, e_lt, e_le, e_gt, e_ge, e_neg, e_add, e_addS, e_addT, e_addL, e_addPP, e_addPL, e_addLP, e_mul, e_mulL, e_mulT, e_augI, e_ixT, e_ixL, e_ixN, e_ixP, e_lenT, e_lenL, e_lenN, e_lenS, e_lenP, e_abs, e_intI, e_intB, e_max, e_min, e_tupL, e_tupT, e_listL, e_listT, e_listN, e_listLL, e_listLT, e_divmod, e_isNon, e_isntNon, e_isB, e_isntB, e_setIx, e_insert, e_append, e_isL, e_isLL, e_seqP, e_seqL, e_seqT, e_seqN, it_lst, it_fz, Option.bind_some, Option.isSome_some, ix10, ix20, ix21, ix30, ix32, dl1, dl2, dl3, List.eraseIdx_cons_zero, e_pop0, e_popAt, e_rev, e_clear, e_tupP, e_listP, e_neN, e_neIN, e_neNI, e_eqIN, e_eqNI, at0, at1, at2, at3, Cell.lst.injEq, Cell.obj.injEq, Option.some.injEq, exists_eq_left', decide_eq_true_eq, true_and, and_true, cup_same, cup_cup, wLenSet, wSrtIt, List.flatten_nil, List.flatten_cons, enOf, endOf, excOf, List.map_cons, List.map_nil, List.length_cons, List.length_nil, List.replicate, Nat.reduceAdd, Nat.reduceSub, List.cons_append, List.nil_append, List.set_cons_zero, List.set_cons_succ, List.getElem?_cons_zero, List.getElem?_cons_succ, List.getElem_cons_zero, List.getElem_cons_succ, reduceCtorEq, if_true, if_false, Bool.false_eq_true, decide_true, decide_false, ne_eq, not_true, not_false_eq_true, Int.reduceEq, Nat.reduceMul, true_imp_iff, Int.reduceToNat, Int.reducePow, Nat.reducePow, Int.reduceLE, Int.reduceLT, Nat.reduceLT, and_self, Nat.reduceLeDiff, Int.reduceNeg, Int.reduceAdd, Int.reduceSub, Int.reduceMul, Int.cast_ofNat_Int, lvl_s]
      exact key y (by rw [hg]; rfl)
  · try simp only [hcp, sRaise, sTry, wIsX, wWhat, wBack, lo_lst, e_mulV, sizeL, sNil, sSeq, sPass, sBrk, sCont, sExpr, sRet, sRetN, sIf, sNever, sSet, sAug, gNm, gTp, gNil', gCons', gSb, sAsg, sPar, sFor, wVar_z, wVar_s, wC, wChn, wTru, sPar3, wRev, wCallK, permF, List.filterMap_cons, List.filterMap_nil, wBin, wUn, wTst, wNot, wAnd, wOr, wAndV, wOrV, wNotV, wIf, wNil, wCons, wTup, wLst, wLstL, wFz, wCall, wBi, wMt, wMt0, wSl, wSlL, wPart, wNoPart, wYes, wSeq, wRg1, wRg2, wEnum, wZip, wLc, wLcL, wLRg, wFld, sFldS, sFldA, gFld, wMeth, wMake, lvl2_s, onB, e_eqI, e_neI, e_eqB, e_neB, e_eqS, e_neS, e_eqN, e_tyLT, e_ty1, isTys, tyMem, tyN_non, tyN_bl, tyN_int, tyN_str, tyN_tup, tyN_lst, Bool.true_or, Bool.or_true, Bool.or_false, Bool.false_or, Bool.not_true, Bool.not_false, inn_non, inn_bl, inn_int, inn_str, inn_tup, inn_lst, inn_ptr, e_slT, e_slL, e_slN, isT_P, isT_L, isT_T, isT_N, e_sub, e_fdiv, e_mod, e_pow, e_lt, e_le, e_gt, e_ge, e_neg, e_add, e_addS, e_addT, e_addL, e_addPP, e_addPL, e_addLP, e_mul, e_mulL, e_mulT, e_augI, e_ixT, e_ixL, e_ixN, e_ixP, e_lenT, e_lenL, e_lenN, e_lenS, e_lenP, e_abs, e_intI, e_intB, e_max, e_min, e_tupL, e_tupT, e_listL, e_listT, e_listN, e_listLL, e_listLT, e_divmod, e_isNon, e_isntNon, e_isB, e_isntB, e_setIx, e_insert, e_append, e_isL, e_isLL, e_seqP, e_seqL, e_seqT, e_seqN, it_lst, it_fz, Option.bind_some, Option.isSome_some, ix10, ix20, ix21, ix30, ix32, dl1, dl2, dl3, List.eraseIdx_cons_zero, e_pop0, e_popAt, e_rev, e_clear, e_tupP, e_listP, e_neN, e_neIN, e_neNI, e_eqIN, e_eqNI, at0, at1, at2, at3, Cell.lst.injEq, Cell.obj.injEq, Option.some.injEq, exists_eq_left', decide_eq_true_eq, true_and, and_true, cup_same, cup_cup, wLenSet, wSrtIt, List.flatten_nil, List.flatten_cons, enOf, endOf, excOf, List.map_cons, List.map_nil, List.length_cons, List.length_nil, List.replicate, Nat.reduceAdd, Nat.reduceSub, List.cons_append, List.nil_append, List.set_cons_zero, List.set_cons_succ, List.getElem?_cons_zero, List.getElem?_cons_succ, List.getElem_cons_zero, List.getElem_cons_succ, reduceCtorEq, if_true, if_false, Bool.false_eq_true, decide_true, decide_false, ne_eq, not_true, not_false_eq_true, Int.reduceEq, Nat.reduceMul, true_imp_iff, Int.reduceToNat, Int.reducePow, Nat.reducePow, Int.reduceLE, Int.reduceLT, Nat.reduceLT, and_self, Nat.reduceLeDiff, Int.reduceNeg, Int.reduceAdd, Int.reduceSub, Int.reduceMul, Int.cast_ofNat_Int, lvl_s]
    cases u with
    | none =>
      simp only [oD, isNon, if_true]
      rw [e3]
      exact fin _ _ lp (by unfold chgW; rw [hg]; rfl)
    | some y =>
      try simp only [oD, sRaise, sTry, wIsX, wWhat, wBack, lo_lst, e_mulV, sizeL, sNil, sSeq, sPass, sBrk, sCont, sExpr, sRet, sRetN, sIf, sNever, sSet, sAug, gNm, gTp, gNil', gCons', gSb, sAsg, sPar, sFor, wVar_z, wVar_s, wC, wChn, wTru, sPar3, wRev, wCallK, permF, List.filterMap_cons, List.filterMap_nil, wBin, wUn, wTst, wNot, wAnd, wOr, wAndV, wOrV, wNotV, wIf, wNil, wCons, wTup, wLst, wLstL, wFz, wCall, wBi, wMt, wMt0, wSl, wSlL, wPart, wNoPart, wYes, wSeq, wRg1, wRg2, wEnum, wZip, wLc, wLcL, wLRg, wFld, sFldS, sFldA, gFld, wMeth, wMake, lvl2_s, onB, e_eqI, e_neI, e_eqB, e_neB, e_eqS, e_neS, e_eqN, e_tyLT, e_ty1, isTys, tyMem, tyN_non, tyN_bl, tyN_int, tyN_str, tyN_tup, tyN_lst, Bool.true_or, Bool.or_true, Bool.or_false, Bool.false_or, Bool.not_true, Bool.not_false, inn_non, inn_bl, inn_int, inn_str, inn_tup, inn_lst, inn_ptr, e_slT, e_slL, e_slN, isT_P, isT_L, isT_T, isT_N, e_sub, e_fdiv, e_mod, e_pow, e_lt, e_le, e_gt, e_ge, e_neg, e_add, e_addS, e_addT, e_addL, e_addPP, e_addPL, e_addLP, e_mul, e_mulL, e_mulT, e_augI, e_ixT, e_ixL, e_ixN, e_ixP, e_lenT, e_lenL, e_lenN, e_lenS, e_lenP, e_abs, e_intI, e_intB, e_max, e_min, e_tupL, e_tupT, e_listL, e_listT, e_listN, e_listLL, e_listLT, e_divmod, e_isNon, e_isntNon, e_isB, e_isntB, e_setIx, e_insert, e_append, e_isL, e_isLL, e_seqP, e_seqL, e_seqT, e_seqN, it_lst, it_fz, Option.bind_some, Option.isSome_some, ix10, ix20, ix21, ix30, ix32, dl1, dl2, dl3, List.eraseIdx_cons_zero, e_pop0, e_popAt, e_rev, e_clear, e_tupP, e_listP, e_neN, e_neIN, e_neNI, e_eqIN, e_eqNI, at0, at1, at2, at3, Cell.lst.injEq, Cell.obj.injEq, Option.some.injEq, exists_eq_left', decide_eq_true_eq, true_and, and_true, cup_same, cup_cup, wLenSet, wSrtIt, List.flatten_nil, List.flatten_cons, enOf, endOf, excOf, List.map_cons, List.map_nil, List.length_cons, List.length_nil, List.replicate, Nat.reduceAdd, Nat.reduceSub, List.cons_append, List.nil_append, List.set_cons_zero, List.set_cons_succ, List.getElem?_cons_zero, List.getElem?_cons_succ, List.getElem_cons_zero, List.getElem_cons_succ, reduceCtorEq, if_true, if_false, Bool.false_eq_true, decide_true, decide_false, ne_eq, not_true, not_false_eq_true, Int.reduceEq, Nat.reduceMul, true_imp_iff, Int.reduceToNat, Int.reducePow, Nat.reducePow, Int.reduceLE, Int.reduceLT, Nat.reduceLT, and_self, Nat.reduceLeDiff, Int.reduceNeg, Int.reduceAdd, Int.reduceSub, Int.reduceMul, Int.cast_ofNat_Int, lvl_s]
      exact key y (by rw [hg]; rfl)
end VL
set_option maxHeartbeats 1000000
namespace VL
open PySem PySem.Spec PyProof.Rows L2
theorem e_ninWp {c : Cs} {Q : DK} {A : List Wo} {x : Wo} {p : Addr} (hc : c p = some (.lst (A.map wD))) (fx : fine (wD x) = true) (fA : ∀ a ∈ A, fine (wD a) = true) (q : Q (.bl (decide (x ∉ A))) c) : oNotIn (wD x) (.ptr p) c Q := by
  have h : oNotIn (wD x) (.lst (A.map wD)) c Q := e_ninW fx fA q
  show (match lstOf c (.ptr p) with | some l => okD (rdv c (wD x)) ∧ okD (.lst l) ∧ Q (.bl (if true = true then !(l.any fun z => deq z (rdv c (wD x))) else l.any fun z => deq z (rdv c (wD x)))) c | none => False)
  rw [lst_ptr, hc]
  exact h
/-- what is kept of those tried -/
def bkW (w : Wo) (i j : Nat) (fs : List Wo) : Option Wo → List Wo
  | none => fs
  | some v => if v ∉ fs ∧ (cameW v i j).1 = w then fs ++ [v] else fs
theorem bk_some (w : Wo) (i j : Nat) (fs : List Wo) (v : Wo) : bkW w i j fs (some v) = if v ∉ fs ∧ (cameW v i j).1 = w then fs ++ [v] else fs := rfl
theorem chg_some {w v : Wo} {i j : Nat} {b : Bool} (h : chgW w i j b = some v) : v = exchW w i j b ∧ (∃ y, selG (granAt w j) b = some y) ∧ isGr (swapG (granAt w j) (loadAt w i) b).1 = true := by
  unfold chgW at h
  split at h
  · rename_i hc
    rw [Bool.and_eq_true] at hc
    cases h
    exact ⟨rfl, Option.isSome_iff_exists.mp hc.1, hc.2⟩
  · cases h
theorem chg_ok {w v : Wo} {i j : Nat} {b : Bool} (ok : okWs w) (hi : i < w.2.length) (hj : j < w.1.length) (h : chgW w i j b = some v) : okWs v ∧ v.1.length = w.1.length ∧ v.2.length = w.2.length := by
  obtain ⟨rfl, ⟨y, hy⟩, hg⟩ := chg_some h
  obtain ⟨e1, e2⟩ := exch_len w i j b
  exact ⟨okWs_exch ok hi hj hg (by cases b <;> simp [swapG] <;> (have : _ = some y := hy; simp [selG] at this; rw [this]; rfl)), e1, e2⟩
theorem bk_chg {w : Wo} {i j : Nat} {b : Bool} (ok : okWs w) (hi : i < w.2.length) (hj : j < w.1.length) {fs : List Wo} (hw : (cameW w i j).1 = w → w ∈ fs) (hf : ∀ v, chgW w i j b = some v → v ≠ w → v ∉ fs) :
    bkW w i j fs (chgW w i j b) = fs ++ if addB (granAt w j) (loadAt w i) b = true then [exchW w i j b] else [] := by
  have ho := (ok.1 _ (gran_mem hj)).ord
  cases hs : selG (granAt w j) b with
  | none =>
    have e1 : chgW w i j b = none := by unfold chgW; rw [hs]; rfl
    have e2 : addB (granAt w j) (loadAt w i) b = false := by
      unfold addB
      have : b ∉ aheadB (granAt w j) (loadAt w i) := fun z => by
        have := aheadB_some z
        rw [show (swapG (granAt w j) (loadAt w i) b).2 = selG (granAt w j) b by cases b <;> rfl, hs] at this
        cases this
      simp [this]
    rw [e1, e2]
    simp [bkW]
  | some y =>
    have hsw : (swapG (granAt w j) (loadAt w i) b).2 = some y := by cases b <;> exact hs
    have e2 := exch_load (j := j) hi b
    rw [hsw] at e2
    by_cases hne : y = loadAt w i
    · -- nothing is otherwise
      have hex : exchW w i j b = w := by
        unfold exchW
        rw [hsw]
        have e4 : (swapG (granAt w j) (loadAt w i) b).1 = granAt w j := by
          cases hg : granAt w j with
          | mk l u =>
            rw [hg] at hs
            cases b
            · obtain rfl : l = some y := hs
              rw [← hne]; rfl
            · obtain rfl : u = some y := hs
              rw [← hne]; rfl
        rw [e4, set_gran hj, show (some y).getD 0 = y from rfl, hne, set_load hi]
      have e3 : addB (granAt w j) (loadAt w i) b = false := by
        unfold addB
        have : b ∉ aheadB (granAt w j) (loadAt w i) := fun z => aheadB_ne z hs hne
        simp [this]
      rw [e3]
      have e5 : bkW w i j fs (some w) = fs := by
        rw [bk_some, if_neg]
        rintro ⟨h1, h2⟩
        exact h1 (hw h2)
      unfold chgW
      rw [hex]
      split
      · rw [e5]; simp
      · simp [bkW]
    · have hone : exchW w i j b ≠ w := load_ne (i := i) (by rw [e2]; exact hne)
      have wc := want_came hi hj ho hs hne
      rw [← wc]
      cases hgr : isGr (swapG (granAt w j) (loadAt w i) b).1 with
      | false =>
        have e1 : chgW w i j b = none := by unfold chgW; rw [hgr, Bool.and_false]; rfl
        rw [e1]
        simp [bkW]
      | true =>
        have e1 : chgW w i j b = some (exchW w i j b) := by unfold chgW; rw [hs, hgr]; rfl
        have hnf := hf _ e1 hone
        rw [e1, bk_some]
        by_cases hc : (cameW (exchW w i j b) i j).1 = w
        · rw [if_pos ⟨hnf, hc⟩]
          simp [hc]
        · rw [if_neg fun z => hc z.2]
          simp [hc]
theorem bk_all {w : Wo} {i j : Nat} (ok : okWs w) (hi : i < w.2.length) (hj : j < w.1.length) : [some w, chgW w i j false, chgW w i j true].foldl (bkW w i j) [] = aheadW w i j := by
  have e0 : bkW w i j [] (some w) = if wordOf (granAt w j) (loadAt w i) = none then [w] else [] := by
    rw [bk_some]
    by_cases h : wordOf (granAt w j) (loadAt w i) = none
    · rw [if_pos ⟨List.not_mem_nil, came_none h⟩, if_pos h]; rfl
    · rw [if_neg h, if_neg]
      rintro ⟨_, h2⟩
      obtain ⟨b, hb⟩ := Option.ne_none_iff_exists'.mp h
      exact came_ne hi hb h2
  have hw0 : (cameW w i j).1 = w → w ∈ bkW w i j [] (some w) := fun h => by
    rw [bk_some, if_pos ⟨List.not_mem_nil, h⟩]
    simp
  have hm0 : ∀ v, v ∈ bkW w i j [] (some w) → v = w := fun v hv => by
    rw [e0] at hv
    split at hv
    · exact List.mem_singleton.mp hv
    · cases hv
  simp only [List.foldl_cons, List.foldl_nil]
  have e1 := bk_chg (b := false) ok hi hj hw0 fun v hv hne hm => hne (hm0 v hm)
  have e2 := bk_chg (b := true) (fs := bkW w i j (bkW w i j [] (some w)) (chgW w i j false)) ok hi hj (fun h => by
    rw [e1]
    exact List.mem_append_left _ (hw0 h)) fun v hv hne hm => by
    rw [e1] at hm
    rcases List.mem_append.mp hm with hm | hm
    · exact hne (hm0 v hm)
    · split at hm
      · rename_i had
        rw [List.mem_singleton] at hm
        obtain ⟨ev, ⟨y, hy⟩, _⟩ := chg_some hv
        -- the two exchanged ones are unlike
        have hf : false ∈ aheadB (granAt w j) (loadAt w i) := by unfold addB at had; simp at had; exact had.2
        obtain ⟨z, hz⟩ := Option.isSome_iff_exists.mp (aheadB_some hf)
        have hz1 : (granAt w j).1 = some z := hz
        have hy1 : (granAt w j).2 = some y := hy
        have hzx : z ≠ loadAt w i := aheadB_ne hf hz1
        have g1 := exch_gran (i := i) hj true
        have g2 := exch_gran (i := i) hj false
        rw [← ev, hm, g2] at g1
        have : (swapG (granAt w j) (loadAt w i) false).1.1 = (swapG (granAt w j) (loadAt w i) true).1.1 := by rw [g1]
        have h3 : some (loadAt w i) = (granAt w j).1 := this
        rw [hz1] at h3
        exact hzx (Option.some.inj h3).symm
      · cases hm
  rw [e2, e1, e0, ← want_all w i j]
  cases h1 : addB (granAt w j) (loadAt w i) false <;> cases h2 : addB (granAt w j) (loadAt w i) true <;> simp [h1, h2]
def c_l_back84 (k : Nat) : Ctr := fun ds c Q _ => ∃ (w : Wo) (i j : Nat), ds = [wD w, cmD (i, j)] ∧ okWs w ∧ i < w.2.length ∧ j < w.1.length ∧ w.1.length ≤ 1000 ∧ w.2.length ≤ 1000 ∧ 3 ≤ k ∧ ∀ c', CLe c c' → Q (.lst ((aheadW w i j).map wD)) c'
def w_l_back84 (k : Nat) : WS := (sSeq (sSet 2 (wBin oAdd (wLst (wCons (wVar 0) wNil)) (wLc (wSeq (wTup (wCons (wC (.int 0)) (wCons (wC (.int 1)) wNil)))) (.nm 5) wYes (wCall 3 c_l_changed84 k (wCons (wVar 0) (wCons (wVar 1) (wCons (wVar 5) wNil)))) [5]))) (sSeq (sSet 3 (wLstL wNil)) (sSeq (sFor (wSeq (wVar 2)) (.nm 4) (sIf (wAnd (wTst (wBin oIsNot (wVar 4) (wC .non))) (wAnd (wTst (wBin oNotIn (wVar 4) (wVar 3))) (wTst (wBin oEq (wBin oIx (wCall 2 c_l_came k (wCons (wVar 4) (wCons (wVar 1) wNil))) (wC (.int 0))) (wVar 0))))) (sExpr (wMt oAppend (wVar 3) (wCons (wVar 4) wNil))) sNil)) (sRet (wFz (wVar 3))))))
theorem p_l_back84 (k : Nat) (ds : List D) (c : Cs) (Q : DK) (X0 : XK0) (hlen0 : ds.length = 2) (h : c_l_back84 k ds c Q X0) : w_l_back84 k (endOf Q) (excOf X0) (enOf 6 ds) c := by
  obtain ⟨w, i, j, rfl, ok, hi, hj, z1, z2, hk, q⟩ := h
  obtain ⟨k, rfl⟩ : ∃ k', k = k' + 3 := ⟨k - 3, by omega⟩
  refine seq_gen fun D1 e1 _ _ n1 => ?_
  try simp only [sRaise, sTry, wIsX, wWhat, wBack, lo_lst, e_mulV, sizeL, sNil, sSeq, sPass, sBrk, sCont, sExpr, sRet, sRetN, sIf, sNever, sSet, sAug, gNm, gTp, gNil', gCons', gSb, sAsg, sPar, sFor, wVar_z, wVar_s, wC, wChn, wTru, sPar3, wRev, wCallK, permF, List.filterMap_cons, List.filterMap_nil, wBin, wUn, wTst, wNot, wAnd, wOr, wAndV, wOrV, wNotV, wIf, wNil, wCons, wTup, wLst, wLstL, wFz, wCall, wBi, wMt, wMt0, wSl, wSlL, wPart, wNoPart, wYes, wSeq, wRg1, wRg2, wEnum, wZip, wLc, wLcL, wLRg, wFld, sFldS, sFldA, gFld, wMeth, wMake, lvl2_s, onB, e_eqI, e_neI, e_eqB, e_neB, e_eqS, e_neS, e_eqN, e_tyLT, e_ty1, isTys, tyMem, tyN_non, tyN_bl, tyN_int, tyN_str, tyN_tup, tyN_lst, Bool.true_or, Bool.or_true, Bool.or_false, Bool.false_or, Bool.not_true, Bool.not_false, inn_non, inn_bl, inn_int, inn_str, inn_tup, inn_lst, inn_ptr, e_slT, e_slL, e_slN, isT_P, isT_L, isT_T, isT_N, e_sub, e_fdiv, e_mod, e_pow, e_lt, e_le, e_gt, e_ge, e_neg, e_add, e_addS, e_addT, e_addL, e_addPP, e_addPL, e_addLP, e_mul, e_mulL, e_mulT, e_augI, e_ixT, e_ixL, e_ixN, e_ixP, e_lenT, e_lenL, e_lenN, e_lenS, e_lenP, e_abs, e_intI, e_intB, e_max, e_min, e_tupL, e_tupT, e_listL, e_listT, e_listN, e_listLL, e_listLT, e_divmod, e_isNon, e_isntNon, e_isB, e_isntB, e_setIx, e_insert, e_append, e_isL, e_isLL, e_seqP, e_seqL, e_seqT, e_seqN, it_lst, it_fz, Option.bind_some, Option.isSome_some, ix10, ix20, ix21, ix30, ix32, dl1, dl2, dl3, List.eraseIdx_cons_zero, e_pop0, e_popAt, e_rev, e_clear, e_tupP, e_listP, e_neN, e_neIN, e_neNI, e_eqIN, e_eqNI, at0, at1, at2, at3, Cell.lst.injEq, Cell.obj.injEq, Option.some.injEq, exists_eq_left', decide_eq_true_eq, true_and, and_true, cup_same, cup_cup, wLenSet, wSrtIt, List.flatten_nil, List.flatten_cons, enOf, endOf, excOf, List.map_cons, List.map_nil, List.length_cons, List.length_nil, List.replicate, Nat.reduceAdd, Nat.reduceSub, List.cons_append, List.nil_append, List.set_cons_zero, List.set_cons_succ, List.getElem?_cons_zero, List.getElem?_cons_succ, List.getElem_cons_zero, List.getElem_cons_succ, reduceCtorEq, if_true, if_false, Bool.false_eq_true, decide_true, decide_false, ne_eq, not_true, not_false_eq_true, Int.reduceEq, Nat.reduceMul, true_imp_iff, Int.reduceToNat, Int.reducePow, Nat.reducePow, Int.reduceLE, Int.reduceLT, Nat.reduceLT, and_self, Nat.reduceLeDiff, Int.reduceNeg, Int.reduceAdd, Int.reduceSub, Int.reduceMul, Int.cast_ofNat_Int, lvl_s]
  have eL : [D.int 0, D.int 1] = ([false, true] : List Bool).map (fun b => D.int (if b then 1 else 0)) := rfl
  rw [eL]
  have fW := (wD_fine ok z1 z2).1
  refine lcP (fun b : Bool => D.int (if b then 1 else 0)) (fun pre acc c7 => acc = pre.map (fun b => optD (chgW w i j b)) ∧ CLe c c7) ⟨rfl, CLe.refl _⟩ ?_ ?_
  · rintro pre b post acc c2 hs ⟨rfl, lc⟩
    refine ⟨trivial, _, rfl, fun Nx kk => ?_⟩
    try simp only [ewipe, sRaise, sTry, wIsX, wWhat, wBack, lo_lst, e_mulV, sizeL, sNil, sSeq, sPass, sBrk, sCont, sExpr, sRet, sRetN, sIf, sNever, sSet, sAug, gNm, gTp, gNil', gCons', gSb, sAsg, sPar, sFor, wVar_z, wVar_s, wC, wChn, wTru, sPar3, wRev, wCallK, permF, List.filterMap_cons, List.filterMap_nil, wBin, wUn, wTst, wNot, wAnd, wOr, wAndV, wOrV, wNotV, wIf, wNil, wCons, wTup, wLst, wLstL, wFz, wCall, wBi, wMt, wMt0, wSl, wSlL, wPart, wNoPart, wYes, wSeq, wRg1, wRg2, wEnum, wZip, wLc, wLcL, wLRg, wFld, sFldS, sFldA, gFld, wMeth, wMake, lvl2_s, onB, e_eqI, e_neI, e_eqB, e_neB, e_eqS, e_neS, e_eqN, e_tyLT, e_ty1, isTys, tyMem, tyN_non, tyN_bl, tyN_int, tyN_str, tyN_tup, tyN_lst, Bool.true_or, Bool.or_true, Bool.or_false, Bool.false_or, Bool.not_true, Bool.not_false, inn_non, inn_bl, inn_int, inn_str, inn_tup, inn_lst, inn_ptr, e_slT, e_slL, e_slN, isT_P, isT_L, isT_T, isT_N, e_sub, e_fdiv, e_mod, e_pow, e_lt, e_le, e_gt, e_ge, e_neg, e_add, e_addS, e_addT, e_addL, e_addPP, e_addPL, e_addLP, e_mul, e_mulL, e_mulT, e_augI, e_ixT, e_ixL, e_ixN, e_ixP, e_lenT, e_lenL, e_lenN, e_lenS, e_lenP, e_abs, e_intI, e_intB, e_max, e_min, e_tupL, e_tupT, e_listL, e_listT, e_listN, e_listLL, e_listLT, e_divmod, e_isNon, e_isntNon, e_isB, e_isntB, e_setIx, e_insert, e_append, e_isL, e_isLL, e_seqP, e_seqL, e_seqT, e_seqN, it_lst, it_fz, Option.bind_some, Option.isSome_some, ix10, ix20, ix21, ix30, ix32, dl1, dl2, dl3, List.eraseIdx_cons_zero, e_pop0, e_popAt, e_rev, e_clear, e_tupP, e_listP, e_neN, e_neIN, e_neNI, e_eqIN, e_eqNI, at0, at1, at2, at3, Cell.lst.injEq, Cell.obj.injEq, Option.some.injEq, exists_eq_left', decide_eq_true_eq, true_and, and_true, cup_same, cup_cup, wLenSet, wSrtIt, List.flatten_nil, List.flatten_cons, enOf, endOf, excOf, List.map_cons, List.map_nil, List.length_cons, List.length_nil, List.replicate, Nat.reduceAdd, Nat.reduceSub, List.cons_append, List.nil_append, List.set_cons_zero, List.set_cons_succ, List.getElem?_cons_zero, List.getElem?_cons_succ, List.getElem_cons_zero, List.getElem_cons_succ, reduceCtorEq, if_true, if_false, Bool.false_eq_true, decide_true, decide_false, ne_eq, not_true, not_false_eq_true, Int.reduceEq, Nat.reduceMul, true_imp_iff, Int.reduceToNat, Int.reducePow, Nat.reducePow, Int.reduceLE, Int.reduceLT, Nat.reduceLT, and_self, Nat.reduceLeDiff, Int.reduceNeg, Int.reduceAdd, Int.reduceSub, Int.reduceMul, Int.cast_ofNat_Int, lvl_s]
    exact ⟨w, i, j, b, rfl, ok, hi, hj, z1, z2, fun c3 l3 => kk _ _ ⟨by simp, lc.trans l3⟩⟩
  · rintro acc c2 ⟨rfl, lc⟩
    refine ⟨trivial, by simp, n1 _ _ (seq_gen fun D2 e2 _ _ n2 => ?_)⟩
    clear n1
    try simp only [sRaise, sTry, wIsX, wWhat, wBack, lo_lst, e_mulV, sizeL, sNil, sSeq, sPass, sBrk, sCont, sExpr, sRet, sRetN, sIf, sNever, sSet, sAug, gNm, gTp, gNil', gCons', gSb, sAsg, sPar, sFor, wVar_z, wVar_s, wC, wChn, wTru, sPar3, wRev, wCallK, permF, List.filterMap_cons, List.filterMap_nil, wBin, wUn, wTst, wNot, wAnd, wOr, wAndV, wOrV, wNotV, wIf, wNil, wCons, wTup, wLst, wLstL, wFz, wCall, wBi, wMt, wMt0, wSl, wSlL, wPart, wNoPart, wYes, wSeq, wRg1, wRg2, wEnum, wZip, wLc, wLcL, wLRg, wFld, sFldS, sFldA, gFld, wMeth, wMake, lvl2_s, onB, e_eqI, e_neI, e_eqB, e_neB, e_eqS, e_neS, e_eqN, e_tyLT, e_ty1, isTys, tyMem, tyN_non, tyN_bl, tyN_int, tyN_str, tyN_tup, tyN_lst, Bool.true_or, Bool.or_true, Bool.or_false, Bool.false_or, Bool.not_true, Bool.not_false, inn_non, inn_bl, inn_int, inn_str, inn_tup, inn_lst, inn_ptr, e_slT, e_slL, e_slN, isT_P, isT_L, isT_T, isT_N, e_sub, e_fdiv, e_mod, e_pow, e_lt, e_le, e_gt, e_ge, e_neg, e_add, e_addS, e_addT, e_addL, e_addPP, e_addPL, e_addLP, e_mul, e_mulL, e_mulT, e_augI, e_ixT, e_ixL, e_ixN, e_ixP, e_lenT, e_lenL, e_lenN, e_lenS, e_lenP, e_abs, e_intI, e_intB, e_max, e_min, e_tupL, e_tupT, e_listL, e_listT, e_listN, e_listLL, e_listLT, e_divmod, e_isNon, e_isntNon, e_isB, e_isntB, e_setIx, e_insert, e_append, e_isL, e_isLL, e_seqP, e_seqL, e_seqT, e_seqN, it_lst, it_fz, Option.bind_some, Option.isSome_some, ix10, ix20, ix21, ix30, ix32, dl1, dl2, dl3, List.eraseIdx_cons_zero, e_pop0, e_popAt, e_rev, e_clear, e_tupP, e_listP, e_neN, e_neIN, e_neNI, e_eqIN, e_eqNI, at0, at1, at2, at3, Cell.lst.injEq, Cell.obj.injEq, Option.some.injEq, exists_eq_left', decide_eq_true_eq, true_and, and_true, cup_same, cup_cup, wLenSet, wSrtIt, List.flatten_nil, List.flatten_cons, enOf, endOf, excOf, List.map_cons, List.map_nil, List.length_cons, List.length_nil, List.replicate, Nat.reduceAdd, Nat.reduceSub, List.cons_append, List.nil_append, List.set_cons_zero, List.set_cons_succ, List.getElem?_cons_zero, List.getElem?_cons_succ, List.getElem_cons_zero, List.getElem_cons_succ, reduceCtorEq, if_true, if_false, Bool.false_eq_true, decide_true, decide_false, ne_eq, not_true, not_false_eq_true, Int.reduceEq, Nat.reduceMul, true_imp_iff, Int.reduceToNat, Int.reducePow, Nat.reducePow, Int.reduceLE, Int.reduceLT, Nat.reduceLT, and_self, Nat.reduceLeDiff, Int.reduceNeg, Int.reduceAdd, Int.reduceSub, Int.reduceMul, Int.cast_ofNat_Int, lvl_s]
    intro p hp
    have hcp : cup c2 p (.lst []) p = some (.lst (([] : List Wo).map wD)) := cup_same
    have hpc : c p = none := by
      cases e : c p with
      | none => rfl
      | some x => rw [lc _ _ e] at hp; cases hp
    have lp : CLe c (cup c2 p (.lst [])) := CLe.new hpc lc
    generalize cup c2 p (.lst []) = c3 at lp hcp
    refine n2 _ _ (seq_gen fun D3 e3 _ _ n3 => ?_)
    clear n2
    have eS : D.lst [wD w, optD (chgW w i j false), optD (chgW w i j true)] = .lst (([some w, chgW w i j false, chgW w i j true] : List (Option Wo)).map optD) := rfl
    rw [eS]
    have okv : ∀ o ∈ [some w, chgW w i j false, chgW w i j true], ∀ v, o = some v → okWs v ∧ v.1.length = w.1.length ∧ v.2.length = w.2.length := fun o ho v hv => by
      simp only [List.mem_cons, List.not_mem_nil, or_false] at ho
      rcases ho with rfl | rfl | rfl
      · cases hv; exact ⟨ok, rfl, rfl⟩
      · exact chg_ok ok hi hj hv
      · exact chg_ok ok hi hj hv
    have hb := bk_all ok hi hj
    obtain ⟨os, hos⟩ : ∃ os, os = [some w, chgW w i j false, chgW w i j true] := ⟨_, rfl⟩
    have hol : os.length = 3 := by rw [hos]; rfl
    rw [← hos] at okv hb ⊢
    try simp only [sRaise, sTry, wIsX, wWhat, wBack, lo_lst, e_mulV, sizeL, sNil, sSeq, sPass, sBrk, sCont, sExpr, sRet, sRetN, sIf, sNever, sSet, sAug, gNm, gTp, gNil', gCons', gSb, sAsg, sPar, sFor, wVar_z, wVar_s, wC, wChn, wTru, sPar3, wRev, wCallK, permF, List.filterMap_cons, List.filterMap_nil, wBin, wUn, wTst, wNot, wAnd, wOr, wAndV, wOrV, wNotV, wIf, wNil, wCons, wTup, wLst, wLstL, wFz, wCall, wBi, wMt, wMt0, wSl, wSlL, wPart, wNoPart, wYes, wSeq, wRg1, wRg2, wEnum, wZip, wLc, wLcL, wLRg, wFld, sFldS, sFldA, gFld, wMeth, wMake, lvl2_s, onB, e_eqI, e_neI, e_eqB, e_neB, e_eqS, e_neS, e_eqN, e_tyLT, e_ty1, isTys, tyMem, tyN_non, tyN_bl, tyN_int, tyN_str, tyN_tup, tyN_lst, Bool.true_or, Bool.or_true, Bool.or_false, Bool.false_or, Bool.not_true, Bool.not_false, inn_non, inn_bl, inn_int, inn_str, inn_tup, inn_lst, inn_ptr, e_slT, e_slL, e_slN, isT_P, isT_L, isT_T, isT_N, e_sub, e_fdiv, e_mod, e_pow, e_lt, e_le, e_gt, e_ge, e_neg, e_add, e_addS, e_addT, e_addL, e_addPP, e_addPL, e_addLP, e_mul, e_mulL, e_mulT, e_augI, e_ixT, e_ixL, e_ixN, e_ixP, e_lenT, e_lenL, e_lenN, e_lenS, e_lenP, e_abs, e_intI, e_intB, e_max, e_min, e_tupL, e_tupT, e_listL, e_listT, e_listN, e_listLL, e_listLT, e_divmod, e_isNon, e_isntNon, e_isB, e_isntB, e_setIx, e_insert, e_append, e_isL, e_isLL, e_seqP, e_seqL, e_seqT, e_seqN, it_lst, it_fz, Option.bind_some, Option.isSome_some, ix10, ix20, ix21, ix30, ix32, dl1, dl2, dl3, List.eraseIdx_cons_zero, e_pop0, e_popAt, e_rev, e_clear, e_tupP, e_listP, e_neN, e_neIN, e_neNI, e_eqIN, e_eqNI, at0, at1, at2, at3, Cell.lst.injEq, Cell.obj.injEq, Option.some.injEq, exists_eq_left', decide_eq_true_eq, true_and, and_true, cup_same, cup_cup, wLenSet, wSrtIt, List.flatten_nil, List.flatten_cons, enOf, endOf, excOf, List.map_cons, List.map_nil, List.length_cons, List.length_nil, List.replicate, Nat.reduceAdd, Nat.reduceSub, List.cons_append, List.nil_append, List.set_cons_zero, List.set_cons_succ, List.getElem?_cons_zero, List.getElem?_cons_succ, List.getElem_cons_zero, List.getElem_cons_succ, reduceCtorEq, if_true, if_false, Bool.false_eq_true, decide_true, decide_false, ne_eq, not_true, not_false_eq_true, Int.reduceEq, Nat.reduceMul, true_imp_iff, Int.reduceToNat, Int.reducePow, Nat.reducePow, Int.reduceLE, Int.reduceLT, Nat.reduceLT, and_self, Nat.reduceLeDiff, Int.reduceNeg, Int.reduceAdd, Int.reduceSub, Int.reduceMul, Int.cast_ofNat_Int, lvl_s]
    intro _
    refine loopP optD (fun pre en c' => (∃ o4, en = [some (wD w), some (cmD (i, j)), some (.lst (os.map optD)), some (.ptr p), o4, none]) ∧ (∃ fs : List Wo, fs = pre.foldl (bkW w i j) [] ∧ fs.length ≤ pre.length ∧ (∀ v ∈ fs, fine (wD v) = true) ∧ c' p = some (.lst (fs.map wD))) ∧ CLe c c') ⟨⟨_, rfl⟩, ⟨[], rfl, Nat.le_refl _, by simp, hcp⟩, lp⟩ ?_ ?_
    · rintro pre o post en c4 hs ⟨⟨o4, rfl⟩, ⟨fs, hfs, hfl, hff, hc4⟩, l4⟩
      refine ⟨trivial, _, rfl, fun D4 st => ?_⟩
      have hpl : pre.length ≤ 3 := by
        have := congrArg List.length hs
        rw [List.length_append] at this
        omega
      have same : bkW w i j fs o = fs → D4.nx [some (wD w), some (cmD (i, j)), some (.lst (os.map optD)), some (.ptr p), some (optD o), none] c4 := fun e => by
        refine st.1 _ _ ⟨⟨_, rfl⟩, ⟨fs, by rw [List.foldl_append, ← hfs]; exact e.symm, by rw [List.length_append]; omega, hff, hc4⟩, l4⟩
      cases o with
      | none =>
        try simp only [optD, sRaise, sTry, wIsX, wWhat, wBack, lo_lst, e_mulV, sizeL, sNil, sSeq, sPass, sBrk, sCont, sExpr, sRet, sRetN, sIf, sNever, sSet, sAug, gNm, gTp, gNil', gCons', gSb, sAsg, sPar, sFor, wVar_z, wVar_s, wC, wChn, wTru, sPar3, wRev, wCallK, permF, List.filterMap_cons, List.filterMap_nil, wBin, wUn, wTst, wNot, wAnd, wOr, wAndV, wOrV, wNotV, wIf, wNil, wCons, wTup, wLst, wLstL, wFz, wCall, wBi, wMt, wMt0, wSl, wSlL, wPart, wNoPart, wYes, wSeq, wRg1, wRg2, wEnum, wZip, wLc, wLcL, wLRg, wFld, sFldS, sFldA, gFld, wMeth, wMake, lvl2_s, onB, e_eqI, e_neI, e_eqB, e_neB, e_eqS, e_neS, e_eqN, e_tyLT, e_ty1, isTys, tyMem, tyN_non, tyN_bl, tyN_int, tyN_str, tyN_tup, tyN_lst, Bool.true_or, Bool.or_true, Bool.or_false, Bool.false_or, Bool.not_true, Bool.not_false, inn_non, inn_bl, inn_int, inn_str, inn_tup, inn_lst, inn_ptr, e_slT, e_slL, e_slN, isT_P, isT_L, isT_T, isT_N, e_sub, e_fdiv, e_mod, e_pow, e_lt, e_le, e_gt, e_ge, e_neg, e_add, e_addS, e_addT, e_addL, e_addPP, e_addPL, e_addLP, e_mul, e_mulL, e_mulT, e_augI, e_ixT, e_ixL, e_ixN, e_ixP, e_lenT, e_lenL, e_lenN, e_lenS, e_lenP, e_abs, e_intI, e_intB, e_max, e_min, e_tupL, e_tupT, e_listL, e_listT, e_listN, e_listLL, e_listLT, e_divmod, e_isNon, e_isntNon, e_isB, e_isntB, e_setIx, e_insert, e_append, e_isL, e_isLL, e_seqP, e_seqL, e_seqT, e_seqN, it_lst, it_fz, Option.bind_some, Option.isSome_some, ix10, ix20, ix21, ix30, ix32, dl1, dl2, dl3, List.eraseIdx_cons_zero, e_pop0, e_popAt, e_rev, e_clear, e_tupP, e_listP, e_neN, e_neIN, e_neNI, e_eqIN, e_eqNI, at0, at1, at2, at3, Cell.lst.injEq, Cell.obj.injEq, Option.some.injEq, exists_eq_left', decide_eq_true_eq, true_and, and_true, cup_same, cup_cup, wLenSet, wSrtIt, List.flatten_nil, List.flatten_cons, enOf, endOf, excOf, List.map_cons, List.map_nil, List.length_cons, List.length_nil, List.replicate, Nat.reduceAdd, Nat.reduceSub, List.cons_append, List.nil_append, List.set_cons_zero, List.set_cons_succ, List.getElem?_cons_zero, List.getElem?_cons_succ, List.getElem_cons_zero, List.getElem_cons_succ, reduceCtorEq, if_true, if_false, Bool.false_eq_true, decide_true, decide_false, ne_eq, not_true, not_false_eq_true, Int.reduceEq, Nat.reduceMul, true_imp_iff, Int.reduceToNat, Int.reducePow, Nat.reducePow, Int.reduceLE, Int.reduceLT, Nat.reduceLT, and_self, Nat.reduceLeDiff, Int.reduceNeg, Int.reduceAdd, Int.reduceSub, Int.reduceMul, Int.cast_ofNat_Int, lvl_s]
        exact same rfl
      | some v =>
        obtain ⟨okv1, v1, v2⟩ := okv (some v) (by rw [hs]; simp) v rfl
        have fv := (wD_fine okv1 (by omega) (by omega)).1
        have hn : isNon (wD v) = false := rfl
        simp only [optD, sRaise, sTry, wIsX, wWhat, wBack, lo_lst, e_mulV, sizeL, sNil, sSeq, sPass, sBrk, sCont, sExpr, sRet, sRetN, sIf, sNever, sSet, sAug, gNm, gTp, gNil', gCons', gSb, sAsg, sPar, sFor, wVar_z, wVar_s, wC, wChn, wTru, sPar3, wRev, wCallK, permF, List.filterMap_cons, List.filterMap_nil, wBin, wUn, wTst, wNot, wAnd, wOr, wAndV, wOrV, wNotV, wIf, wNil, wCons, wTup, wLst, wLstL, wFz, wCall, wBi, wMt, wMt0, wSl, wSlL, wPart, wNoPart, wYes, wSeq, wRg1, wRg2, wEnum, wZip, wLc, wLcL, wLRg, wFld, sFldS, sFldA, gFld, wMeth, wMake, lvl2_s, onB, e_eqI, e_neI, e_eqB, e_neB, e_eqS, e_neS, e_eqN, e_tyLT, e_ty1, isTys, tyMem, tyN_non, tyN_bl, tyN_int, tyN_str, tyN_tup, tyN_lst, Bool.true_or, Bool.or_true, Bool.or_false, Bool.false_or, Bool.not_true, Bool.not_false, inn_non, inn_bl, inn_int, inn_str, inn_tup, inn_lst, inn_ptr, e_slT, e_slL, e_slN, isT_P, isT_L, isT_T, isT_N, e_sub, e_fdiv, e_mod, e_pow, e_lt, e_le, e_gt, e_ge, e_neg, e_add, e_addS, e_addT, e_addL, e_addPP, e_addPL, e_addLP, e_mul, e_mulL, e_mulT, e_augI, e_ixT, e_ixL, e_ixN, e_ixP, e_lenT, e_lenL, e_lenN, e_lenS, e_lenP, e_abs, e_intI, e_intB, e_max, e_min, e_tupL, e_tupT, e_listL, e_listT, e_listN, e_listLL, e_listLT, e_divmod, e_isNon, e_isntNon, e_isB, e_isntB, e_setIx, e_insert, e_append, e_isL, e_isLL, e_seqP, e_seqL, e_seqT, e_seqN, it_lst, it_fz, Option.bind_some, Option.isSome_some, ix10, ix20, ix21, ix30, ix32, dl1, dl2, dl3, List.eraseIdx_cons_zero, e_pop0, e_popAt, e_rev, e_clear, e_tupP, e_listP, e_neN, e_neIN, e_neNI, e_eqIN, e_eqNI, at0, at1, at2, at3, Cell.lst.injEq, Cell.obj.injEq, Option.some.injEq, exists_eq_left', decide_eq_true_eq, true_and, and_true, cup_same, cup_cup, wLenSet, wSrtIt, List.flatten_nil, List.flatten_cons, enOf, endOf, excOf, List.map_cons, List.map_nil, List.length_cons, List.length_nil, List.replicate, Nat.reduceAdd, Nat.reduceSub, List.cons_append, List.nil_append, List.set_cons_zero, List.set_cons_succ, List.getElem?_cons_zero, List.getElem?_cons_succ, List.getElem_cons_zero, List.getElem_cons_succ, reduceCtorEq, if_true, if_false, Bool.false_eq_true, decide_true, decide_false, ne_eq, not_true, not_false_eq_true, Int.reduceEq, Nat.reduceMul, true_imp_iff, Int.reduceToNat, Int.reducePow, Nat.reducePow, Int.reduceLE, Int.reduceLT, Nat.reduceLT, and_self, Nat.reduceLeDiff, Int.reduceNeg, Int.reduceAdd, Int.reduceSub, Int.reduceMul, Int.cast_ofNat_Int, hn, lvl_s]
        refine e_ninWp hc4 fv hff ?_
        by_cases hin : v ∈ fs
        · simp only [onB, hin, not_true, decide_false, Bool.false_eq_true, if_false]
          exact same (by rw [bk_some, if_neg fun z => z.1 hin])
        · simp only [onB, hin, not_false_eq_true, decide_true, if_true]
          refine ⟨v, i, j, rfl, by omega, by omega, okv1.1 _ (gran_mem (by omega)), fun c5 l5 => ?_⟩
          have sm := same_came (w := v) (i := i) (j := j) (by omega) (by omega)
          have fc : fine (wD (cameW v i j).1) = true := (wD_fine (okWs_came okv1 (by omega) (by omega)) (by rw [sm.gran]; omega) (by rw [sm.cart]; omega)).1
          have hc5 := l5 _ _ hc4
          try simp only [cameD, sRaise, sTry, wIsX, wWhat, wBack, lo_lst, e_mulV, sizeL, sNil, sSeq, sPass, sBrk, sCont, sExpr, sRet, sRetN, sIf, sNever, sSet, sAug, gNm, gTp, gNil', gCons', gSb, sAsg, sPar, sFor, wVar_z, wVar_s, wC, wChn, wTru, sPar3, wRev, wCallK, permF, List.filterMap_cons, List.filterMap_nil, wBin, wUn, wTst, wNot, wAnd, wOr, wAndV, wOrV, wNotV, wIf, wNil, wCons, wTup, wLst, wLstL, wFz, wCall, wBi, wMt, wMt0, wSl, wSlL, wPart, wNoPart, wYes, wSeq, wRg1, wRg2, wEnum, wZip, wLc, wLcL, wLRg, wFld, sFldS, sFldA, gFld, wMeth, wMake, lvl2_s, onB, e_eqI, e_neI, e_eqB, e_neB, e_eqS, e_neS, e_eqN, e_tyLT, e_ty1, isTys, tyMem, tyN_non, tyN_bl, tyN_int, tyN_str, tyN_tup, tyN_lst, Bool.true_or, Bool.or_true, Bool.or_false, Bool.false_or, Bool.not_true, Bool.not_false, inn_non, inn_bl, inn_int, inn_str, inn_tup, inn_lst, inn_ptr, e_slT, e_slL, e_slN, isT_P, isT_L, isT_T, isT_N, e_sub, e_fdiv, e_mod, e_pow, e_lt, e_le, e_gt, e_ge, e_neg, e_add, e_addS, e_addT, e_addL, e_addPP, e_addPL, e_addLP, e_mul, e_mulL, e_mulT, e_augI, e_ixT, e_ixL, e_ixN, e_ixP, e_lenT, e_lenL, e_lenN, e_lenS, e_lenP, e_abs, e_intI, e_intB, e_max, e_min, e_tupL, e_tupT, e_listL, e_listT, e_listN, e_listLL, e_listLT, e_divmod, e_isNon, e_isntNon, e_isB, e_isntB, e_setIx, e_insert, e_append, e_isL, e_isLL, e_seqP, e_seqL, e_seqT, e_seqN, it_lst, it_fz, Option.bind_some, Option.isSome_some, ix10, ix20, ix21, ix30, ix32, dl1, dl2, dl3, List.eraseIdx_cons_zero, e_pop0, e_popAt, e_rev, e_clear, e_tupP, e_listP, e_neN, e_neIN, e_neNI, e_eqIN, e_eqNI, at0, at1, at2, at3, Cell.lst.injEq, Cell.obj.injEq, Option.some.injEq, exists_eq_left', decide_eq_true_eq, true_and, and_true, cup_same, cup_cup, wLenSet, wSrtIt, List.flatten_nil, List.flatten_cons, enOf, endOf, excOf, List.map_cons, List.map_nil, List.length_cons, List.length_nil, List.replicate, Nat.reduceAdd, Nat.reduceSub, List.cons_append, List.nil_append, List.set_cons_zero, List.set_cons_succ, List.getElem?_cons_zero, List.getElem?_cons_succ, List.getElem_cons_zero, List.getElem_cons_succ, reduceCtorEq, if_true, if_false, Bool.false_eq_true, decide_true, decide_false, ne_eq, not_true, not_false_eq_true, Int.reduceEq, Nat.reduceMul, true_imp_iff, Int.reduceToNat, Int.reducePow, Nat.reducePow, Int.reduceLE, Int.reduceLT, Nat.reduceLT, and_self, Nat.reduceLeDiff, Int.reduceNeg, Int.reduceAdd, Int.reduceSub, Int.reduceMul, Int.cast_ofNat_Int, lvl_s]
          refine e_eqW fc fW ?_
          by_cases hcm : (cameW v i j).1 = w
          · simp only [onB, hcm, decide_true, if_true]
            refine ⟨by rw [hc5]; rfl, _, hc5, by rw [List.length_map]; omega, ?_⟩
            refine st.1 _ _ ⟨⟨_, rfl⟩, ⟨fs ++ [v], by rw [List.foldl_append, ← hfs]; exact (by rw [List.foldl_cons, List.foldl_nil, bk_some, if_pos ⟨hin, hcm⟩]), by rw [List.length_append, List.length_append]; simp; omega, fun z hz => ?_, by rw [cup_same, List.map_append]; rfl⟩, CLe.new hpc (l4.trans l5)⟩
            rcases List.mem_append.mp hz with hz | hz
            · exact hff z hz
            · rw [List.mem_singleton.mp hz]; exact fv
          · simp only [onB, hcm, decide_false, Bool.false_eq_true, if_false]
            exact st.1 _ _ ⟨⟨_, rfl⟩, ⟨fs, by rw [List.foldl_append, ← hfs]; exact (by rw [List.foldl_cons, List.foldl_nil, bk_some, if_neg fun z => hcm z.2]), by rw [List.length_append]; omega, hff, hc5⟩, l4.trans l5⟩
    · rintro en c4 ⟨⟨o4, rfl⟩, ⟨fs, hfs, hfl, hff, hc4⟩, l4⟩
      refine ⟨trivial, n3 _ _ ?_⟩
      try simp only [hc4, sRaise, sTry, wIsX, wWhat, wBack, lo_lst, e_mulV, sizeL, sNil, sSeq, sPass, sBrk, sCont, sExpr, sRet, sRetN, sIf, sNever, sSet, sAug, gNm, gTp, gNil', gCons', gSb, sAsg, sPar, sFor, wVar_z, wVar_s, wC, wChn, wTru, sPar3, wRev, wCallK, permF, List.filterMap_cons, List.filterMap_nil, wBin, wUn, wTst, wNot, wAnd, wOr, wAndV, wOrV, wNotV, wIf, wNil, wCons, wTup, wLst, wLstL, wFz, wCall, wBi, wMt, wMt0, wSl, wSlL, wPart, wNoPart, wYes, wSeq, wRg1, wRg2, wEnum, wZip, wLc, wLcL, wLRg, wFld, sFldS, sFldA, gFld, wMeth, wMake, lvl2_s, onB, e_eqI, e_neI, e_eqB, e_neB, e_eqS, e_neS, e_eqN, e_tyLT, e_ty1, isTys, tyMem, tyN_non, tyN_bl, tyN_int, tyN_str, tyN_tup, tyN_lst, Bool.true_or, Bool.or_true, Bool.or_false, Bool.false_or, Bool.not_true, Bool.not_false, inn_non, inn_bl, inn_int, inn_str, inn_tup, inn_lst, inn_ptr, e_slT, e_slL, e_slN, isT_P, isT_L, isT_T, isT_N, e_sub, e_fdiv, e_mod, e_pow, e_lt, e_le, e_gt, e_ge, e_neg, e_add, e_addS, e_addT, e_addL, e_addPP, e_addPL, e_addLP, e_mul, e_mulL, e_mulT, e_augI, e_ixT, e_ixL, e_ixN, e_ixP, e_lenT, e_lenL, e_lenN, e_lenS, e_lenP, e_abs, e_intI, e_intB, e_max, e_min, e_tupL, e_tupT, e_listL, e_listT, e_listN, e_listLL, e_listLT, e_divmod, e_isNon, e_isntNon, e_isB, e_isntB, e_setIx, e_insert, e_append, e_isL, e_isLL, e_seqP, e_seqL, e_seqT, e_seqN, it_lst, it_fz, Option.bind_some, Option.isSome_some, ix10, ix20, ix21, ix30, ix32, dl1, dl2, dl3, List.eraseIdx_cons_zero, e_pop0, e_popAt, e_rev, e_clear, e_tupP, e_listP, e_neN, e_neIN, e_neNI, e_eqIN, e_eqNI, at0, at1, at2, at3, Cell.lst.injEq, Cell.obj.injEq, Option.some.injEq, exists_eq_left', decide_eq_true_eq, true_and, and_true, cup_same, cup_cup, wLenSet, wSrtIt, List.flatten_nil, List.flatten_cons, enOf, endOf, excOf, List.map_cons, List.map_nil, List.length_cons, List.length_nil, List.replicate, Nat.reduceAdd, Nat.reduceSub, List.cons_append, List.nil_append, List.set_cons_zero, List.set_cons_succ, List.getElem?_cons_zero, List.getElem?_cons_succ, List.getElem_cons_zero, List.getElem_cons_succ, reduceCtorEq, if_true, if_false, Bool.false_eq_true, decide_true, decide_false, ne_eq, not_true, not_false_eq_true, Int.reduceEq, Nat.reduceMul, true_imp_iff, Int.reduceToNat, Int.reducePow, Nat.reducePow, Int.reduceLE, Int.reduceLT, Nat.reduceLT, and_self, Nat.reduceLeDiff, Int.reduceNeg, Int.reduceAdd, Int.reduceSub, Int.reduceMul, Int.cast_ofNat_Int, lvl_s]
      rw [hfs, hb]
      exact ⟨c, CLe.new hpc l4, q c (CLe.refl c)⟩
end VL
set_option maxHeartbeats 1000000
namespace VL
open PySem PySem.Spec PyProof.Rows L2
def c_all_ahead84 (k : Nat) : Ctr := fun ds c Q _ => ∃ (x : D) (w : Wo) (ps : List (Nat × Nat)) (enc : Nat × Nat → D), ds = [x, .lst (ps.map enc)] ∧ WLike x w ∧ (∀ p : Nat × Nat, enc p = .tup [.int p.1, .int p.2] ∨ enc p = .lst [.int p.1, .int p.2]) ∧ okWs w ∧ within w ps ∧ 10 ≤ k ∧ w.1.length ≤ 1000 ∧ w.2.length ≤ 1000 ∧ ps.length ≤ 8 ∧ Q (.lst ((allA w ps).map wD)) c
def w_all_ahead84 (k : Nat) : WS := (sSeq (sSet 2 (wCall 1 c_as_tuples k (wCons (wVar 0) wNil))) (sSeq (sFor (wSeq (wVar 1)) (.nm 3) (sExpr (wCall 2 c_look_coming k (wCons (wVar 2) (wCons (wVar 3) wNil))))) (sSeq (sSet 4 (wLst (wCons (wVar 2) wNil))) (sSeq (sFor (wRev (wVar 1)) (.nm 3) (sSet 4 (wLc2 (wSeq (wVar 4)) (.nm 5) wYes (wSeq (wCall 2 c_ahead83 k (wCons (wVar 5) (wCons (wVar 3) wNil)))) (.nm 6) wYes (wVar 6) [5, 6] [6]))) (sRet (wVar 4))))))
theorem p_all_ahead84 (k : Nat) (ds : List D) (c : Cs) (Q : DK) (X0 : XK0) (hlen0 : ds.length = 2) (h : c_all_ahead84 k ds c Q X0) : w_all_ahead84 k (endOf Q) (excOf X0) (enOf 7 ds) c := by
  obtain ⟨x, w, ps, enc, rfl, hx, henc, ok, hin, hk, hz1, hz2, hz3, q⟩ := h
  obtain ⟨k, rfl⟩ : ∃ k', k = k' + 10 := ⟨k - 10, by omega⟩
  refine seq_gen fun D1 e1 _ _ n1 => ?_
  simp only [w_all_ahead84, sRaise, sTry, wIsX, wWhat, wBack, lo_lst, e_mulV, sizeL, sNil, sSeq, sPass, sBrk, sCont, sExpr, sRet, sRetN, sIf, sNever, sSet, sAug, gNm, gTp, gNil', gCons', gSb, sAsg, sPar, sFor, wVar_z, wVar_s, wC, wChn, wTru, sPar3, wRev, wCallK, permF, List.filterMap_cons, List.filterMap_nil, wBin, wUn, wTst, wNot, wAnd, wOr, wAndV, wOrV, wNotV, wIf, wNil, wCons, wTup, wLst, wLstL, wFz, wCall, wBi, wMt, wMt0, wSl, wSlL, wPart, wNoPart, wYes, wSeq, wRg1, wRg2, wEnum, wZip, wLc, wLcL, wLRg, wFld, sFldS, sFldA, gFld, wMeth, wMake, lvl2_s, onB, e_eqI, e_neI, e_eqB, e_neB, e_eqS, e_neS, e_eqN, e_tyLT, e_ty1, isTys, tyMem, tyN_non, tyN_bl, tyN_int, tyN_str, tyN_tup, tyN_lst, Bool.true_or, Bool.or_true, Bool.or_false, Bool.false_or, Bool.not_true, Bool.not_false, inn_non, inn_bl, inn_int, inn_str, inn_tup, inn_lst, inn_ptr, e_slT, e_slL, e_slN, isT_P, isT_L, isT_T, isT_N, e_sub, e_fdiv, e_mod, e_pow, e_lt, e_le, e_gt, e_ge, e_neg, e_add, e_addS, e_addT, e_addL, e_addPP, e_addPL, e_addLP, e_mul, e_mulL, e_mulT, e_augI, e_ixT, e_ixL, e_ixN, e_ixP, e_lenT, e_lenL, e_lenN, e_lenS, e_lenP, e_abs, e_intI, e_intB, e_max, e_min, e_tupL, e_tupT, e_listL, e_listT, e_listN, e_listLL, e_listLT, e_divmod, e_isNon, e_isntNon, e_isB, e_isntB, e_setIx, e_insert, e_append, e_isL, e_isLL, e_seqP, e_seqL, e_seqT, e_seqN, it_lst, it_fz, Option.bind_some, Option.isSome_some, ix10, ix20, ix21, ix30, ix32, dl1, dl2, dl3, List.eraseIdx_cons_zero, e_pop0, e_popAt, e_rev, e_clear, e_tupP, e_listP, e_neN, e_neIN, e_neNI, e_eqIN, e_eqNI, at0, at1, at2, at3, Cell.lst.injEq, Cell.obj.injEq, Option.some.injEq, exists_eq_left', decide_eq_true_eq, true_and, and_true, cup_same, cup_cup, wLenSet, wSrtIt, List.flatten_nil, List.flatten_cons, enOf, endOf, excOf, List.map_cons, List.map_nil, List.length_cons, List.length_nil, List.replicate, Nat.reduceAdd, Nat.reduceSub, List.cons_append, List.nil_append, List.set_cons_zero, List.set_cons_succ, List.getElem?_cons_zero, List.getElem?_cons_succ, List.getElem_cons_zero, List.getElem_cons_succ, reduceCtorEq, if_true, if_false, Bool.false_eq_true, decide_true, decide_false, ne_eq, not_true, not_false_eq_true, Int.reduceEq, Nat.reduceMul, true_imp_iff, Int.reduceToNat, Int.reducePow, Nat.reducePow, Int.reduceLE, Int.reduceLT, Nat.reduceLT, and_self, Nat.reduceLeDiff, Int.reduceNeg, Int.reduceAdd, Int.reduceSub, Int.reduceMul, Int.cast_ofNat_Int]
  refine as_tuples_use (by omega) hx ?_
  refine n1 _ _ (seq_gen fun D2 e2 _ _ n2 => ?_)
  clear n1
  try simp only [sRaise, sTry, wIsX, wWhat, wBack, lo_lst, e_mulV, sizeL, sNil, sSeq, sPass, sBrk, sCont, sExpr, sRet, sRetN, sIf, sNever, sSet, sAug, gNm, gTp, gNil', gCons', gSb, sAsg, sPar, sFor, wVar_z, wVar_s, wC, wChn, wTru, sPar3, wRev, wCallK, permF, List.filterMap_cons, List.filterMap_nil, wBin, wUn, wTst, wNot, wAnd, wOr, wAndV, wOrV, wNotV, wIf, wNil, wCons, wTup, wLst, wLstL, wFz, wCall, wBi, wMt, wMt0, wSl, wSlL, wPart, wNoPart, wYes, wSeq, wRg1, wRg2, wEnum, wZip, wLc, wLcL, wLRg, wFld, sFldS, sFldA, gFld, wMeth, wMake, lvl2_s, onB, e_eqI, e_neI, e_eqB, e_neB, e_eqS, e_neS, e_eqN, e_tyLT, e_ty1, isTys, tyMem, tyN_non, tyN_bl, tyN_int, tyN_str, tyN_tup, tyN_lst, Bool.true_or, Bool.or_true, Bool.or_false, Bool.false_or, Bool.not_true, Bool.not_false, inn_non, inn_bl, inn_int, inn_str, inn_tup, inn_lst, inn_ptr, e_slT, e_slL, e_slN, isT_P, isT_L, isT_T, isT_N, e_sub, e_fdiv, e_mod, e_pow, e_lt, e_le, e_gt, e_ge, e_neg, e_add, e_addS, e_addT, e_addL, e_addPP, e_addPL, e_addLP, e_mul, e_mulL, e_mulT, e_augI, e_ixT, e_ixL, e_ixN, e_ixP, e_lenT, e_lenL, e_lenN, e_lenS, e_lenP, e_abs, e_intI, e_intB, e_max, e_min, e_tupL, e_tupT, e_listL, e_listT, e_listN, e_listLL, e_listLT, e_divmod, e_isNon, e_isntNon, e_isB, e_isntB, e_setIx, e_insert, e_append, e_isL, e_isLL, e_seqP, e_seqL, e_seqT, e_seqN, it_lst, it_fz, Option.bind_some, Option.isSome_some, ix10, ix20, ix21, ix30, ix32, dl1, dl2, dl3, List.eraseIdx_cons_zero, e_pop0, e_popAt, e_rev, e_clear, e_tupP, e_listP, e_neN, e_neIN, e_neNI, e_eqIN, e_eqNI, at0, at1, at2, at3, Cell.lst.injEq, Cell.obj.injEq, Option.some.injEq, exists_eq_left', decide_eq_true_eq, true_and, and_true, cup_same, cup_cup, wLenSet, wSrtIt, List.flatten_nil, List.flatten_cons, enOf, endOf, excOf, List.map_cons, List.map_nil, List.length_cons, List.length_nil, List.replicate, Nat.reduceAdd, Nat.reduceSub, List.cons_append, List.nil_append, List.set_cons_zero, List.set_cons_succ, List.getElem?_cons_zero, List.getElem?_cons_succ, List.getElem_cons_zero, List.getElem_cons_succ, reduceCtorEq, if_true, if_false, Bool.false_eq_true, decide_true, decide_false, ne_eq, not_true, not_false_eq_true, Int.reduceEq, Nat.reduceMul, true_imp_iff, Int.reduceToNat, Int.reducePow, Nat.reducePow, Int.reduceLE, Int.reduceLT, Nat.reduceLT, and_self, Nat.reduceLeDiff, Int.reduceNeg, Int.reduceAdd, Int.reduceSub, Int.reduceMul, Int.cast_ofNat_Int, lvl_s]
  intro _
  refine loopP enc (fun pre en c' => (∃ o3, en = [some x, some (.lst (ps.map enc)), some (wD w), o3, none, none, none]) ∧ c' = c) ⟨⟨_, rfl⟩, rfl⟩ ?_ ?_
  · rintro pre a post en c' hs ⟨⟨o3, rfl⟩, rfl⟩
    refine ⟨trivial, _, rfl, fun D3 st => ?_⟩
    obtain ⟨hi, hj⟩ := hin a (by rw [hs]; simp)
    try simp only [sRaise, sTry, wIsX, wWhat, wBack, lo_lst, e_mulV, sizeL, sNil, sSeq, sPass, sBrk, sCont, sExpr, sRet, sRetN, sIf, sNever, sSet, sAug, gNm, gTp, gNil', gCons', gSb, sAsg, sPar, sFor, wVar_z, wVar_s, wC, wChn, wTru, sPar3, wRev, wCallK, permF, List.filterMap_cons, List.filterMap_nil, wBin, wUn, wTst, wNot, wAnd, wOr, wAndV, wOrV, wNotV, wIf, wNil, wCons, wTup, wLst, wLstL, wFz, wCall, wBi, wMt, wMt0, wSl, wSlL, wPart, wNoPart, wYes, wSeq, wRg1, wRg2, wEnum, wZip, wLc, wLcL, wLRg, wFld, sFldS, sFldA, gFld, wMeth, wMake, lvl2_s, onB, e_eqI, e_neI, e_eqB, e_neB, e_eqS, e_neS, e_eqN, e_tyLT, e_ty1, isTys, tyMem, tyN_non, tyN_bl, tyN_int, tyN_str, tyN_tup, tyN_lst, Bool.true_or, Bool.or_true, Bool.or_false, Bool.false_or, Bool.not_true, Bool.not_false, inn_non, inn_bl, inn_int, inn_str, inn_tup, inn_lst, inn_ptr, e_slT, e_slL, e_slN, isT_P, isT_L, isT_T, isT_N, e_sub, e_fdiv, e_mod, e_pow, e_lt, e_le, e_gt, e_ge, e_neg, e_add, e_addS, e_addT, e_addL, e_addPP, e_addPL, e_addLP, e_mul, e_mulL, e_mulT, e_augI, e_ixT, e_ixL, e_ixN, e_ixP, e_lenT, e_lenL, e_lenN, e_lenS, e_lenP, e_abs, e_intI, e_intB, e_max, e_min, e_tupL, e_tupT, e_listL, e_listT, e_listN, e_listLL, e_listLT, e_divmod, e_isNon, e_isntNon, e_isB, e_isntB, e_setIx, e_insert, e_append, e_isL, e_isLL, e_seqP, e_seqL, e_seqT, e_seqN, it_lst, it_fz, Option.bind_some, Option.isSome_some, ix10, ix20, ix21, ix30, ix32, dl1, dl2, dl3, List.eraseIdx_cons_zero, e_pop0, e_popAt, e_rev, e_clear, e_tupP, e_listP, e_neN, e_neIN, e_neNI, e_eqIN, e_eqNI, at0, at1, at2, at3, Cell.lst.injEq, Cell.obj.injEq, Option.some.injEq, exists_eq_left', decide_eq_true_eq, true_and, and_true, cup_same, cup_cup, wLenSet, wSrtIt, List.flatten_nil, List.flatten_cons, enOf, endOf, excOf, List.map_cons, List.map_nil, List.length_cons, List.length_nil, List.replicate, Nat.reduceAdd, Nat.reduceSub, List.cons_append, List.nil_append, List.set_cons_zero, List.set_cons_succ, List.getElem?_cons_zero, List.getElem?_cons_succ, List.getElem_cons_zero, List.getElem_cons_succ, reduceCtorEq, if_true, if_false, Bool.false_eq_true, decide_true, decide_false, ne_eq, not_true, not_false_eq_true, Int.reduceEq, Nat.reduceMul, true_imp_iff, Int.reduceToNat, Int.reducePow, Nat.reducePow, Int.reduceLE, Int.reduceLT, Nat.reduceLT, and_self, Nat.reduceLeDiff, Int.reduceNeg, Int.reduceAdd, Int.reduceSub, Int.reduceMul, Int.cast_ofNat_Int, lvl_s]
    exact ⟨w, a.1, a.2, enc a, rfl, ⟨henc a, hi, hj⟩, by omega, st.1 _ _ ⟨⟨_, rfl⟩, rfl⟩⟩
  rintro en c' ⟨⟨o3, rfl⟩, rfl⟩
  refine ⟨trivial, n2 _ _ (seq_gen fun D3 e3 _ _ n3 => ?_)⟩
  clear n2
  try simp only [sRaise, sTry, wIsX, wWhat, wBack, lo_lst, e_mulV, sizeL, sNil, sSeq, sPass, sBrk, sCont, sExpr, sRet, sRetN, sIf, sNever, sSet, sAug, gNm, gTp, gNil', gCons', gSb, sAsg, sPar, sFor, wVar_z, wVar_s, wC, wChn, wTru, sPar3, wRev, wCallK, permF, List.filterMap_cons, List.filterMap_nil, wBin, wUn, wTst, wNot, wAnd, wOr, wAndV, wOrV, wNotV, wIf, wNil, wCons, wTup, wLst, wLstL, wFz, wCall, wBi, wMt, wMt0, wSl, wSlL, wPart, wNoPart, wYes, wSeq, wRg1, wRg2, wEnum, wZip, wLc, wLcL, wLRg, wFld, sFldS, sFldA, gFld, wMeth, wMake, lvl2_s, onB, e_eqI, e_neI, e_eqB, e_neB, e_eqS, e_neS, e_eqN, e_tyLT, e_ty1, isTys, tyMem, tyN_non, tyN_bl, tyN_int, tyN_str, tyN_tup, tyN_lst, Bool.true_or, Bool.or_true, Bool.or_false, Bool.false_or, Bool.not_true, Bool.not_false, inn_non, inn_bl, inn_int, inn_str, inn_tup, inn_lst, inn_ptr, e_slT, e_slL, e_slN, isT_P, isT_L, isT_T, isT_N, e_sub, e_fdiv, e_mod, e_pow, e_lt, e_le, e_gt, e_ge, e_neg, e_add, e_addS, e_addT, e_addL, e_addPP, e_addPL, e_addLP, e_mul, e_mulL, e_mulT, e_augI, e_ixT, e_ixL, e_ixN, e_ixP, e_lenT, e_lenL, e_lenN, e_lenS, e_lenP, e_abs, e_intI, e_intB, e_max, e_min, e_tupL, e_tupT, e_listL, e_listT, e_listN, e_listLL, e_listLT, e_divmod, e_isNon, e_isntNon, e_isB, e_isntB, e_setIx, e_insert, e_append, e_isL, e_isLL, e_seqP, e_seqL, e_seqT, e_seqN, it_lst, it_fz, Option.bind_some, Option.isSome_some, ix10, ix20, ix21, ix30, ix32, dl1, dl2, dl3, List.eraseIdx_cons_zero, e_pop0, e_popAt, e_rev, e_clear, e_tupP, e_listP, e_neN, e_neIN, e_neNI, e_eqIN, e_eqNI, at0, at1, at2, at3, Cell.lst.injEq, Cell.obj.injEq, Option.some.injEq, exists_eq_left', decide_eq_true_eq, true_and, and_true, cup_same, cup_cup, wLenSet, wSrtIt, List.flatten_nil, List.flatten_cons, enOf, endOf, excOf, List.map_cons, List.map_nil, List.length_cons, List.length_nil, List.replicate, Nat.reduceAdd, Nat.reduceSub, List.cons_append, List.nil_append, List.set_cons_zero, List.set_cons_succ, List.getElem?_cons_zero, List.getElem?_cons_succ, List.getElem_cons_zero, List.getElem_cons_succ, reduceCtorEq, if_true, if_false, Bool.false_eq_true, decide_true, decide_false, ne_eq, not_true, not_false_eq_true, Int.reduceEq, Nat.reduceMul, true_imp_iff, Int.reduceToNat, Int.reducePow, Nat.reducePow, Int.reduceLE, Int.reduceLT, Nat.reduceLT, and_self, Nat.reduceLeDiff, Int.reduceNeg, Int.reduceAdd, Int.reduceSub, Int.reduceMul, Int.cast_ofNat_Int, lvl_s]
  refine n3 _ _ (seq_gen fun D4 e4 _ _ n4 => ?_)
  clear n3
  try simp only [sRaise, sTry, wIsX, wWhat, wBack, lo_lst, e_mulV, sizeL, sNil, sSeq, sPass, sBrk, sCont, sExpr, sRet, sRetN, sIf, sNever, sSet, sAug, gNm, gTp, gNil', gCons', gSb, sAsg, sPar, sFor, wVar_z, wVar_s, wC, wChn, wTru, sPar3, wRev, wCallK, permF, List.filterMap_cons, List.filterMap_nil, wBin, wUn, wTst, wNot, wAnd, wOr, wAndV, wOrV, wNotV, wIf, wNil, wCons, wTup, wLst, wLstL, wFz, wCall, wBi, wMt, wMt0, wSl, wSlL, wPart, wNoPart, wYes, wSeq, wRg1, wRg2, wEnum, wZip, wLc, wLcL, wLRg, wFld, sFldS, sFldA, gFld, wMeth, wMake, lvl2_s, onB, e_eqI, e_neI, e_eqB, e_neB, e_eqS, e_neS, e_eqN, e_tyLT, e_ty1, isTys, tyMem, tyN_non, tyN_bl, tyN_int, tyN_str, tyN_tup, tyN_lst, Bool.true_or, Bool.or_true, Bool.or_false, Bool.false_or, Bool.not_true, Bool.not_false, inn_non, inn_bl, inn_int, inn_str, inn_tup, inn_lst, inn_ptr, e_slT, e_slL, e_slN, isT_P, isT_L, isT_T, isT_N, e_sub, e_fdiv, e_mod, e_pow, e_lt, e_le, e_gt, e_ge, e_neg, e_add, e_addS, e_addT, e_addL, e_addPP, e_addPL, e_addLP, e_mul, e_mulL, e_mulT, e_augI, e_ixT, e_ixL, e_ixN, e_ixP, e_lenT, e_lenL, e_lenN, e_lenS, e_lenP, e_abs, e_intI, e_intB, e_max, e_min, e_tupL, e_tupT, e_listL, e_listT, e_listN, e_listLL, e_listLT, e_divmod, e_isNon, e_isntNon, e_isB, e_isntB, e_setIx, e_insert, e_append, e_isL, e_isLL, e_seqP, e_seqL, e_seqT, e_seqN, it_lst, it_fz, Option.bind_some, Option.isSome_some, ix10, ix20, ix21, ix30, ix32, dl1, dl2, dl3, List.eraseIdx_cons_zero, e_pop0, e_popAt, e_rev, e_clear, e_tupP, e_listP, e_neN, e_neIN, e_neNI, e_eqIN, e_eqNI, at0, at1, at2, at3, Cell.lst.injEq, Cell.obj.injEq, Option.some.injEq, exists_eq_left', decide_eq_true_eq, true_and, and_true, cup_same, cup_cup, wLenSet, wSrtIt, List.flatten_nil, List.flatten_cons, enOf, endOf, excOf, List.map_cons, List.map_nil, List.length_cons, List.length_nil, List.replicate, Nat.reduceAdd, Nat.reduceSub, List.cons_append, List.nil_append, List.set_cons_zero, List.set_cons_succ, List.getElem?_cons_zero, List.getElem?_cons_succ, List.getElem_cons_zero, List.getElem_cons_succ, reduceCtorEq, if_true, if_false, Bool.false_eq_true, decide_true, decide_false, ne_eq, not_true, not_false_eq_true, Int.reduceEq, Nat.reduceMul, true_imp_iff, Int.reduceToNat, Int.reducePow, Nat.reducePow, Int.reduceLE, Int.reduceLT, Nat.reduceLT, and_self, Nat.reduceLeDiff, Int.reduceNeg, Int.reduceAdd, Int.reduceSub, Int.reduceMul, Int.cast_ofNat_Int, lvl_s]
  intro _
  rw [← List.map_reverse]
  refine loopP enc (fun pre en c2 => (∃ o3 o5 o6, en = [some x, some (.lst (ps.map enc)), some (wD w), o3, some (.lst ((allA w pre.reverse).map wD)), o5, o6]) ∧ CLe c' c2) ⟨⟨_, _, _, rfl⟩, CLe.refl _⟩ ?_ ?_
  · rintro pre p post en c2 hs ⟨⟨o3, o5, o6, rfl⟩, hc2⟩
    refine ⟨trivial, _, rfl, fun D5 st => ?_⟩
    have hmem : ∀ q ∈ pre ++ p :: post, q ∈ ps := fun q hq => by rw [← hs] at hq; exact List.mem_reverse.mp hq
    obtain ⟨rest, hrest⟩ : ∃ rest, rest = pre.reverse := ⟨_, rfl⟩
    rw [← hrest]
    have hinr : within w rest := fun q hq => hin q (hmem q (by rw [hrest] at hq; exact List.mem_append_left _ (List.mem_reverse.mp hq)))
    have hpin := hin p (hmem p (by simp))
    have hrl : rest.length ≤ 8 := by
      have := congrArg List.length hs
      rw [List.length_reverse, List.length_append] at this
      rw [hrest, List.length_reverse]
      omega
    try simp only [wLc2, sRaise, sTry, wIsX, wWhat, wBack, lo_lst, e_mulV, sizeL, sNil, sSeq, sPass, sBrk, sCont, sExpr, sRet, sRetN, sIf, sNever, sSet, sAug, gNm, gTp, gNil', gCons', gSb, sAsg, sPar, sFor, wVar_z, wVar_s, wC, wChn, wTru, sPar3, wRev, wCallK, permF, List.filterMap_cons, List.filterMap_nil, wBin, wUn, wTst, wNot, wAnd, wOr, wAndV, wOrV, wNotV, wIf, wNil, wCons, wTup, wLst, wLstL, wFz, wCall, wBi, wMt, wMt0, wSl, wSlL, wPart, wNoPart, wYes, wSeq, wRg1, wRg2, wEnum, wZip, wLc, wLcL, wLRg, wFld, sFldS, sFldA, gFld, wMeth, wMake, lvl2_s, onB, e_eqI, e_neI, e_eqB, e_neB, e_eqS, e_neS, e_eqN, e_tyLT, e_ty1, isTys, tyMem, tyN_non, tyN_bl, tyN_int, tyN_str, tyN_tup, tyN_lst, Bool.true_or, Bool.or_true, Bool.or_false, Bool.false_or, Bool.not_true, Bool.not_false, inn_non, inn_bl, inn_int, inn_str, inn_tup, inn_lst, inn_ptr, e_slT, e_slL, e_slN, isT_P, isT_L, isT_T, isT_N, e_sub, e_fdiv, e_mod, e_pow, e_lt, e_le, e_gt, e_ge, e_neg, e_add, e_addS, e_addT, e_addL, e_addPP, e_addPL, e_addLP, e_mul, e_mulL, e_mulT, e_augI, e_ixT, e_ixL, e_ixN, e_ixP, e_lenT, e_lenL, e_lenN, e_lenS, e_lenP, e_abs, e_intI, e_intB, e_max, e_min, e_tupL, e_tupT, e_listL, e_listT, e_listN, e_listLL, e_listLT, e_divmod, e_isNon, e_isntNon, e_isB, e_isntB, e_setIx, e_insert, e_append, e_isL, e_isLL, e_seqP, e_seqL, e_seqT, e_seqN, it_lst, it_fz, Option.bind_some, Option.isSome_some, ix10, ix20, ix21, ix30, ix32, dl1, dl2, dl3, List.eraseIdx_cons_zero, e_pop0, e_popAt, e_rev, e_clear, e_tupP, e_listP, e_neN, e_neIN, e_neNI, e_eqIN, e_eqNI, at0, at1, at2, at3, Cell.lst.injEq, Cell.obj.injEq, Option.some.injEq, exists_eq_left', decide_eq_true_eq, true_and, and_true, cup_same, cup_cup, wLenSet, wSrtIt, List.flatten_nil, List.flatten_cons, enOf, endOf, excOf, List.map_cons, List.map_nil, List.length_cons, List.length_nil, List.replicate, Nat.reduceAdd, Nat.reduceSub, List.cons_append, List.nil_append, List.set_cons_zero, List.set_cons_succ, List.getElem?_cons_zero, List.getElem?_cons_succ, List.getElem_cons_zero, List.getElem_cons_succ, reduceCtorEq, if_true, if_false, Bool.false_eq_true, decide_true, decide_false, ne_eq, not_true, not_false_eq_true, Int.reduceEq, Nat.reduceMul, true_imp_iff, Int.reduceToNat, Int.reducePow, Nat.reducePow, Int.reduceLE, Int.reduceLT, Nat.reduceLT, and_self, Nat.reduceLeDiff, Int.reduceNeg, Int.reduceAdd, Int.reduceSub, Int.reduceMul, Int.cast_ofNat_Int, lvl_s]
    have hbig : (allA w rest).length ≤ 6561 := Nat.le_trans (allA_len w rest) (Nat.pow_le_pow_right (by decide) hrl)
    have hfl := flat_len (fun b => aheadW b p.1 p.2) (fun b => ahead_len b _ _) (allA w rest)
    intro _
    refine lcoP wD (fun b => aheadW b p.1 p.2) wD (c0 := c2) (fun _ _ => trivial) (CLe.refl _) (fun a ha c3 hc3 => ⟨_, rfl, fun Q' hQ => ?_⟩) (fun a ha en' hen b hb => ?_) (by simp only [List.length_nil]; unfold sizeLine; omega) fun c3 hc3 => ?_
    · obtain ⟨_, a1, a2, _⟩ := allA_leads ok hinr a ha
      try simp only [ewipe, sRaise, sTry, wIsX, wWhat, wBack, lo_lst, e_mulV, sizeL, sNil, sSeq, sPass, sBrk, sCont, sExpr, sRet, sRetN, sIf, sNever, sSet, sAug, gNm, gTp, gNil', gCons', gSb, sAsg, sPar, sFor, wVar_z, wVar_s, wC, wChn, wTru, sPar3, wRev, wCallK, permF, List.filterMap_cons, List.filterMap_nil, wBin, wUn, wTst, wNot, wAnd, wOr, wAndV, wOrV, wNotV, wIf, wNil, wCons, wTup, wLst, wLstL, wFz, wCall, wBi, wMt, wMt0, wSl, wSlL, wPart, wNoPart, wYes, wSeq, wRg1, wRg2, wEnum, wZip, wLc, wLcL, wLRg, wFld, sFldS, sFldA, gFld, wMeth, wMake, lvl2_s, onB, e_eqI, e_neI, e_eqB, e_neB, e_eqS, e_neS, e_eqN, e_tyLT, e_ty1, isTys, tyMem, tyN_non, tyN_bl, tyN_int, tyN_str, tyN_tup, tyN_lst, Bool.true_or, Bool.or_true, Bool.or_false, Bool.false_or, Bool.not_true, Bool.not_false, inn_non, inn_bl, inn_int, inn_str, inn_tup, inn_lst, inn_ptr, e_slT, e_slL, e_slN, isT_P, isT_L, isT_T, isT_N, e_sub, e_fdiv, e_mod, e_pow, e_lt, e_le, e_gt, e_ge, e_neg, e_add, e_addS, e_addT, e_addL, e_addPP, e_addPL, e_addLP, e_mul, e_mulL, e_mulT, e_augI, e_ixT, e_ixL, e_ixN, e_ixP, e_lenT, e_lenL, e_lenN, e_lenS, e_lenP, e_abs, e_intI, e_intB, e_max, e_min, e_tupL, e_tupT, e_listL, e_listT, e_listN, e_listLL, e_listLT, e_divmod, e_isNon, e_isntNon, e_isB, e_isntB, e_setIx, e_insert, e_append, e_isL, e_isLL, e_seqP, e_seqL, e_seqT, e_seqN, it_lst, it_fz, Option.bind_some, Option.isSome_some, ix10, ix20, ix21, ix30, ix32, dl1, dl2, dl3, List.eraseIdx_cons_zero, e_pop0, e_popAt, e_rev, e_clear, e_tupP, e_listP, e_neN, e_neIN, e_neNI, e_eqIN, e_eqNI, at0, at1, at2, at3, Cell.lst.injEq, Cell.obj.injEq, Option.some.injEq, exists_eq_left', decide_eq_true_eq, true_and, and_true, cup_same, cup_cup, wLenSet, wSrtIt, List.flatten_nil, List.flatten_cons, enOf, endOf, excOf, List.map_cons, List.map_nil, List.length_cons, List.length_nil, List.replicate, Nat.reduceAdd, Nat.reduceSub, List.cons_append, List.nil_append, List.set_cons_zero, List.set_cons_succ, List.getElem?_cons_zero, List.getElem?_cons_succ, List.getElem_cons_zero, List.getElem_cons_succ, reduceCtorEq, if_true, if_false, Bool.false_eq_true, decide_true, decide_false, ne_eq, not_true, not_false_eq_true, Int.reduceEq, Nat.reduceMul, true_imp_iff, Int.reduceToNat, Int.reducePow, Nat.reducePow, Int.reduceLE, Int.reduceLT, Nat.reduceLT, and_self, Nat.reduceLeDiff, Int.reduceNeg, Int.reduceAdd, Int.reduceSub, Int.reduceMul, Int.cast_ofNat_Int, lvl_s]
      refine ⟨_, a, p.1, p.2, enc p, rfl, .self _, henc p, by omega, by omega, by omega, by omega, by omega, ?_⟩
      try simp only [sRaise, sTry, wIsX, wWhat, wBack, lo_lst, e_mulV, sizeL, sNil, sSeq, sPass, sBrk, sCont, sExpr, sRet, sRetN, sIf, sNever, sSet, sAug, gNm, gTp, gNil', gCons', gSb, sAsg, sPar, sFor, wVar_z, wVar_s, wC, wChn, wTru, sPar3, wRev, wCallK, permF, List.filterMap_cons, List.filterMap_nil, wBin, wUn, wTst, wNot, wAnd, wOr, wAndV, wOrV, wNotV, wIf, wNil, wCons, wTup, wLst, wLstL, wFz, wCall, wBi, wMt, wMt0, wSl, wSlL, wPart, wNoPart, wYes, wSeq, wRg1, wRg2, wEnum, wZip, wLc, wLcL, wLRg, wFld, sFldS, sFldA, gFld, wMeth, wMake, lvl2_s, onB, e_eqI, e_neI, e_eqB, e_neB, e_eqS, e_neS, e_eqN, e_tyLT, e_ty1, isTys, tyMem, tyN_non, tyN_bl, tyN_int, tyN_str, tyN_tup, tyN_lst, Bool.true_or, Bool.or_true, Bool.or_false, Bool.false_or, Bool.not_true, Bool.not_false, inn_non, inn_bl, inn_int, inn_str, inn_tup, inn_lst, inn_ptr, e_slT, e_slL, e_slN, isT_P, isT_L, isT_T, isT_N, e_sub, e_fdiv, e_mod, e_pow, e_lt, e_le, e_gt, e_ge, e_neg, e_add, e_addS, e_addT, e_addL, e_addPP, e_addPL, e_addLP, e_mul, e_mulL, e_mulT, e_augI, e_ixT, e_ixL, e_ixN, e_ixP, e_lenT, e_lenL, e_lenN, e_lenS, e_lenP, e_abs, e_intI, e_intB, e_max, e_min, e_tupL, e_tupT, e_listL, e_listT, e_listN, e_listLL, e_listLT, e_divmod, e_isNon, e_isntNon, e_isB, e_isntB, e_setIx, e_insert, e_append, e_isL, e_isLL, e_seqP, e_seqL, e_seqT, e_seqN, it_lst, it_fz, Option.bind_some, Option.isSome_some, ix10, ix20, ix21, ix30, ix32, dl1, dl2, dl3, List.eraseIdx_cons_zero, e_pop0, e_popAt, e_rev, e_clear, e_tupP, e_listP, e_neN, e_neIN, e_neNI, e_eqIN, e_eqNI, at0, at1, at2, at3, Cell.lst.injEq, Cell.obj.injEq, Option.some.injEq, exists_eq_left', decide_eq_true_eq, true_and, and_true, cup_same, cup_cup, wLenSet, wSrtIt, List.flatten_nil, List.flatten_cons, enOf, endOf, excOf, List.map_cons, List.map_nil, List.length_cons, List.length_nil, List.replicate, Nat.reduceAdd, Nat.reduceSub, List.cons_append, List.nil_append, List.set_cons_zero, List.set_cons_succ, List.getElem?_cons_zero, List.getElem?_cons_succ, List.getElem_cons_zero, List.getElem_cons_succ, reduceCtorEq, if_true, if_false, Bool.false_eq_true, decide_true, decide_false, ne_eq, not_true, not_false_eq_true, Int.reduceEq, Nat.reduceMul, true_imp_iff, Int.reduceToNat, Int.reducePow, Nat.reducePow, Int.reduceLE, Int.reduceLT, Nat.reduceLT, and_self, Nat.reduceLeDiff, Int.reduceNeg, Int.reduceAdd, Int.reduceSub, Int.reduceMul, Int.cast_ofNat_Int, lvl_s]
      intro _
      exact hQ _ c3 (CLe.refl _) fun c5 hc5 => trivial
    · cases hen
      refine ⟨_, rfl, fun c3 Q' q' => ?_⟩
      try simp only [ewipe, sRaise, sTry, wIsX, wWhat, wBack, lo_lst, e_mulV, sizeL, sNil, sSeq, sPass, sBrk, sCont, sExpr, sRet, sRetN, sIf, sNever, sSet, sAug, gNm, gTp, gNil', gCons', gSb, sAsg, sPar, sFor, wVar_z, wVar_s, wC, wChn, wTru, sPar3, wRev, wCallK, permF, List.filterMap_cons, List.filterMap_nil, wBin, wUn, wTst, wNot, wAnd, wOr, wAndV, wOrV, wNotV, wIf, wNil, wCons, wTup, wLst, wLstL, wFz, wCall, wBi, wMt, wMt0, wSl, wSlL, wPart, wNoPart, wYes, wSeq, wRg1, wRg2, wEnum, wZip, wLc, wLcL, wLRg, wFld, sFldS, sFldA, gFld, wMeth, wMake, lvl2_s, onB, e_eqI, e_neI, e_eqB, e_neB, e_eqS, e_neS, e_eqN, e_tyLT, e_ty1, isTys, tyMem, tyN_non, tyN_bl, tyN_int, tyN_str, tyN_tup, tyN_lst, Bool.true_or, Bool.or_true, Bool.or_false, Bool.false_or, Bool.not_true, Bool.not_false, inn_non, inn_bl, inn_int, inn_str, inn_tup, inn_lst, inn_ptr, e_slT, e_slL, e_slN, isT_P, isT_L, isT_T, isT_N, e_sub, e_fdiv, e_mod, e_pow, e_lt, e_le, e_gt, e_ge, e_neg, e_add, e_addS, e_addT, e_addL, e_addPP, e_addPL, e_addLP, e_mul, e_mulL, e_mulT, e_augI, e_ixT, e_ixL, e_ixN, e_ixP, e_lenT, e_lenL, e_lenN, e_lenS, e_lenP, e_abs, e_intI, e_intB, e_max, e_min, e_tupL, e_tupT, e_listL, e_listT, e_listN, e_listLL, e_listLT, e_divmod, e_isNon, e_isntNon, e_isB, e_isntB, e_setIx, e_insert, e_append, e_isL, e_isLL, e_seqP, e_seqL, e_seqT, e_seqN, it_lst, it_fz, Option.bind_some, Option.isSome_some, ix10, ix20, ix21, ix30, ix32, dl1, dl2, dl3, List.eraseIdx_cons_zero, e_pop0, e_popAt, e_rev, e_clear, e_tupP, e_listP, e_neN, e_neIN, e_neNI, e_eqIN, e_eqNI, at0, at1, at2, at3, Cell.lst.injEq, Cell.obj.injEq, Option.some.injEq, exists_eq_left', decide_eq_true_eq, true_and, and_true, cup_same, cup_cup, wLenSet, wSrtIt, List.flatten_nil, List.flatten_cons, enOf, endOf, excOf, List.map_cons, List.map_nil, List.length_cons, List.length_nil, List.replicate, Nat.reduceAdd, Nat.reduceSub, List.cons_append, List.nil_append, List.set_cons_zero, List.set_cons_succ, List.getElem?_cons_zero, List.getElem?_cons_succ, List.getElem_cons_zero, List.getElem_cons_succ, reduceCtorEq, if_true, if_false, Bool.false_eq_true, decide_true, decide_false, ne_eq, not_true, not_false_eq_true, Int.reduceEq, Nat.reduceMul, true_imp_iff, Int.reduceToNat, Int.reducePow, Nat.reducePow, Int.reduceLE, Int.reduceLT, Nat.reduceLT, and_self, Nat.reduceLeDiff, Int.reduceNeg, Int.reduceAdd, Int.reduceSub, Int.reduceMul, Int.cast_ofNat_Int, lvl_s]
      exact q'
    · refine st.1 _ _ ⟨?_, hc2.trans hc3⟩
      rw [List.reverse_append, List.reverse_singleton, List.singleton_append, ← hrest, allA_cons]
      exact ⟨_, _, _, rfl⟩
  · rintro en c2 ⟨⟨o3, o5, o6, rfl⟩, hc2⟩
    refine ⟨trivial, n4 _ _ ?_⟩
    try simp only [sRaise, sTry, wIsX, wWhat, wBack, lo_lst, e_mulV, sizeL, sNil, sSeq, sPass, sBrk, sCont, sExpr, sRet, sRetN, sIf, sNever, sSet, sAug, gNm, gTp, gNil', gCons', gSb, sAsg, sPar, sFor, wVar_z, wVar_s, wC, wChn, wTru, sPar3, wRev, wCallK, permF, List.filterMap_cons, List.filterMap_nil, wBin, wUn, wTst, wNot, wAnd, wOr, wAndV, wOrV, wNotV, wIf, wNil, wCons, wTup, wLst, wLstL, wFz, wCall, wBi, wMt, wMt0, wSl, wSlL, wPart, wNoPart, wYes, wSeq, wRg1, wRg2, wEnum, wZip, wLc, wLcL, wLRg, wFld, sFldS, sFldA, gFld, wMeth, wMake, lvl2_s, onB, e_eqI, e_neI, e_eqB, e_neB, e_eqS, e_neS, e_eqN, e_tyLT, e_ty1, isTys, tyMem, tyN_non, tyN_bl, tyN_int, tyN_str, tyN_tup, tyN_lst, Bool.true_or, Bool.or_true, Bool.or_false, Bool.false_or, Bool.not_true, Bool.not_false, inn_non, inn_bl, inn_int, inn_str, inn_tup, inn_lst, inn_ptr, e_slT, e_slL, e_slN, isT_P, isT_L, isT_T, isT_N, e_sub, e_fdiv, e_mod, e_pow, e_lt, e_le, e_gt, e_ge, e_neg, e_add, e_addS, e_addT, e_addL, e_addPP, e_addPL, e_addLP, e_mul, e_mulL, e_mulT, e_augI, e_ixT, e_ixL, e_ixN, e_ixP, e_lenT, e_lenL, e_lenN, e_lenS, e_lenP, e_abs, e_intI, e_intB, e_max, e_min, e_tupL, e_tupT, e_listL, e_listT, e_listN, e_listLL, e_listLT, e_divmod, e_isNon, e_isntNon, e_isB, e_isntB, e_setIx, e_insert, e_append, e_isL, e_isLL, e_seqP, e_seqL, e_seqT, e_seqN, it_lst, it_fz, Option.bind_some, Option.isSome_some, ix10, ix20, ix21, ix30, ix32, dl1, dl2, dl3, List.eraseIdx_cons_zero, e_pop0, e_popAt, e_rev, e_clear, e_tupP, e_listP, e_neN, e_neIN, e_neNI, e_eqIN, e_eqNI, at0, at1, at2, at3, Cell.lst.injEq, Cell.obj.injEq, Option.some.injEq, exists_eq_left', decide_eq_true_eq, true_and, and_true, cup_same, cup_cup, wLenSet, wSrtIt, List.flatten_nil, List.flatten_cons, enOf, endOf, excOf, List.map_cons, List.map_nil, List.length_cons, List.length_nil, List.replicate, Nat.reduceAdd, Nat.reduceSub, List.cons_append, List.nil_append, List.set_cons_zero, List.set_cons_succ, List.getElem?_cons_zero, List.getElem?_cons_succ, List.getElem_cons_zero, List.getElem_cons_succ, reduceCtorEq, if_true, if_false, Bool.false_eq_true, decide_true, decide_false, ne_eq, not_true, not_false_eq_true, Int.reduceEq, Nat.reduceMul, true_imp_iff, Int.reduceToNat, Int.reducePow, Nat.reducePow, Int.reduceLE, Int.reduceLT, Nat.reduceLT, and_self, Nat.reduceLeDiff, Int.reduceNeg, Int.reduceAdd, Int.reduceSub, Int.reduceMul, Int.cast_ofNat_Int, lvl_s]
    rw [List.reverse_reverse]
    exact ⟨c', hc2, q⟩
end VL
set_option maxHeartbeats 1000000
namespace VL
open PySem PySem.Spec PyProof.Rows L2
def keyO : Option Int → NestedKey
  | none => .none
  | some i => .num i
def keyG (g : Gn) : NestedKey := .tup [keyO g.1, keyO g.2]
def keyW (w : Wo) : NestedKey := .tup [.tup (w.1.map keyG), .tup (w.2.map .num)]
theorem nk_oD (o : Option Int) : nkD (oD o) = some (keyO o) := by cases o <;> rfl
theorem nk_gD (g : Gn) : nkD (gD g) = some (keyG g) := by
  unfold gD keyG
  simp [nkD, nkDs, nk_oD]
theorem nks_map {α : Type} {f : α → D} {g : α → NestedKey} (h : ∀ a, nkD (f a) = some (g a)) : ∀ l : List α, nkDs (l.map f) = some (l.map g)
  | [] => rfl
  | a :: l => by
    rw [List.map_cons, List.map_cons, nkDs, h a, nks_map h l]
theorem nk_wD (w : Wo) : nkD (wD w) = some (keyW w) := by
  unfold wD gsD keyW
  simp [nkD, nkDs, nks_map nk_gD, nks_map (f := D.int) (g := NestedKey.num) fun i => rfl]
theorem keyO_inj {a b : Option Int} (h : keyO a = keyO b) : a = b := by
  cases a <;> cases b <;> simp [keyO] at h ⊢
  exact h
theorem keyG_inj {a b : Gn} (h : keyG a = keyG b) : a = b := by
  unfold keyG at h
  simp only [NestedKey.tup.injEq, List.cons.injEq, and_true] at h
  exact Prod.ext (keyO_inj h.1) (keyO_inj h.2)
theorem keyW_inj {a b : Wo} (h : keyW a = keyW b) : a = b := by
  unfold keyW at h
  simp only [NestedKey.tup.injEq, List.cons.injEq, and_true] at h
  exact Prod.ext ((List.map_inj_right fun x y e => keyG_inj e).mp h.1) ((List.map_inj_right fun x y e => by injection e).mp h.2)
theorem depth_all {l : List NestedKey} {n : Nat} (h : ∀ k ∈ l, k.depth ≤ n) : NestedKey.depthAll l ≤ n := by
  induction l with
  | nil => exact Nat.zero_le _
  | cons k l ih =>
    rw [NestedKey.depthAll]
    exact Nat.max_le.mpr ⟨h k (List.mem_cons_self ..), ih fun x hx => h x (List.mem_cons_of_mem _ hx)⟩
theorem keyW_depth (w : Wo) : (keyW w).depth ≤ 8 := by
  have d0 : ∀ o, (keyO o).depth = 0 := fun o => by cases o <;> simp [keyO, NestedKey.depth]
  have d1 : ∀ g, (keyG g).depth ≤ 1 := fun g => by simp [keyG, NestedKey.depth, NestedKey.depthAll, d0]
  have d2 : NestedKey.depthAll (w.1.map keyG) ≤ 1 := depth_all fun k hk => by obtain ⟨g, _, rfl⟩ := List.mem_map.mp hk; exact d1 g
  have d3 : NestedKey.depthAll (w.2.map NestedKey.num) ≤ 1 := depth_all fun k hk => by obtain ⟨g, _, rfl⟩ := List.mem_map.mp hk; simp [NestedKey.depth]
  have : (keyW w).depth = max (NestedKey.depthAll (w.1.map keyG) + 1) (max (NestedKey.depthAll (w.2.map NestedKey.num) + 1) 0) + 1 := by
    simp [keyW, NestedKey.depth, NestedKey.depthAll]
  omega
theorem keysW {A : List Wo} (nd : A.Nodup) : (A.map wD).map nkD = (A.map keyW).map some ∧ (∀ d ∈ A.map wD, isTup d = true) ∧ (∀ k ∈ A.map keyW, k.depth ≤ 8) ∧ (A.map keyW).Nodup := by
  refine ⟨?_, fun d hd => ?_, fun k hk => ?_, ?_⟩
  · rw [List.map_map, List.map_map]
    exact List.map_congr_left fun a _ => nk_wD a
  · obtain ⟨a, _, rfl⟩ := List.mem_map.mp hd; rfl
  · obtain ⟨a, _, rfl⟩ := List.mem_map.mp hk; exact keyW_depth a
  · exact List.Pairwise.map _ (fun a b (h : a ≠ b) e => h (keyW_inj e)) nd
theorem ahead_nodup {w : Wo} {i j : Nat} (hi : i < w.2.length) (hj : j < w.1.length) : (aheadW w i j).Nodup := by
  unfold aheadW
  split
  · have ne : ∀ b ∈ aheadB (granAt w j) (loadAt w i), exchW w i j b ≠ w := fun b hb => by
      have hs := aheadB_some hb
      obtain ⟨y, hy⟩ := Option.isSome_iff_exists.mp hs
      have hsel : selG (granAt w j) b = some y := by cases b <;> exact hy
      exact load_ne (i := i) (by rw [exch_load hi, hy]; exact aheadB_ne hb hsel)
    have two : false ∈ aheadB (granAt w j) (loadAt w i) → exchW w i j false ≠ exchW w i j true := fun hf e => by
      obtain ⟨z, hz⟩ := Option.isSome_iff_exists.mp (aheadB_some hf)
      have hz1 : (granAt w j).1 = some z := hz
      have g1 := exch_gran (i := i) hj true
      rw [← e, exch_gran hj] at g1
      have h3 : some (loadAt w i) = (granAt w j).1 := congrArg Prod.fst g1
      rw [hz1] at h3
      exact aheadB_ne hf hz1 (Option.some.inj h3).symm
    have sub : aheadB (granAt w j) (loadAt w i) = [] ∨ aheadB (granAt w j) (loadAt w i) = [false] ∨ aheadB (granAt w j) (loadAt w i) = [true] ∨ aheadB (granAt w j) (loadAt w i) = [false, true] := by
      unfold aheadB
      split <;> split <;> simp
    rcases sub with e | e | e | e <;> rw [e] at ne two ⊢
    · simp
    · simpa using (ne false (by simp)).symm
    · simpa using (ne true (by simp)).symm
    · have n1 := (ne false (by simp)).symm
      have n2 := (ne true (by simp)).symm
      have n3 := two (by simp)
      simp [n1, n2, n3]
  · exact List.nodup_nil
theorem flat_nodup {α β : Type} {g : α → List β} {f : β → α} : ∀ {l : List α}, l.Nodup → (∀ a ∈ l, (g a).Nodup ∧ ∀ b ∈ g a, f b = a) → (l.flatMap g).Nodup
  | [], _, _ => List.nodup_nil
  | a :: l, h, hg => by
    rw [List.flatMap_cons, List.nodup_append]
    obtain ⟨h1, h2⟩ := List.nodup_cons.mp h
    refine ⟨(hg a (List.mem_cons_self ..)).1, flat_nodup h2 fun x hx => hg x (List.mem_cons_of_mem _ hx), fun x hx y hy e => ?_⟩
    subst e
    obtain ⟨z, hz, hxz⟩ := List.mem_flatMap.mp hy
    have e1 := (hg a (List.mem_cons_self ..)).2 x hx
    have e2 := (hg z (List.mem_cons_of_mem _ hz)).2 x hxz
    rw [e1] at e2
    exact h1 (e2 ▸ hz)
theorem allA_nodup {w : Wo} (ok : okWs w) : ∀ {ps : List (Nat × Nat)}, within w ps → (allA w ps).Nodup
  | [], _ => by show ([w] : List Wo).Nodup; simp
  | p :: ps, h => by
    have hps : within w ps := fun q hq => h q (List.mem_cons_of_mem _ hq)
    obtain ⟨hp1, hp2⟩ := h p (List.mem_cons_self ..)
    rw [allA_cons]
    refine flat_nodup (f := fun b => (cameW b p.1 p.2).1) (allA_nodup ok hps) fun a ha => ?_
    obtain ⟨_, l1, l2, oka⟩ := allA_leads ok hps a ha
    exact ⟨ahead_nodup (by omega) (by omega), fun b hb => (ahead_leads (by omega) (by omega) (oka.1 _ (gran_mem (by omega))).ord hb).1⟩
theorem allA_app (w : Wo) : ∀ (a b : List (Nat × Nat)), allA w (a ++ b) = (allA w b).flatMap fun m => allA m a
  | [], b => by
    show allA w b = (allA w b).flatMap fun m => [m]
    induction allA w b with
    | nil => rfl
    | cons x l ih => rw [List.flatMap_cons, ← ih]; rfl
  | p :: a, b => by
    rw [List.cons_append, allA_cons, allA_app w a b, List.flatMap_assoc]
    rfl
end VL
set_option maxHeartbeats 1000000
namespace VL
open PySem PySem.Spec PyProof.Rows L2
theorem cs_cm84 (r : List (Nat × Nat)) : CsLike (.lst (r.map cmD)) r := ⟨_, .inl rfl, by simp, fun i d q h1 h2 => by
  rw [List.getElem?_map, h2] at h1
  cases h1
  exact .inl rfl⟩
def c_k84_right := c_rightOf 600000 25
def w_k84_right (k : Nat) : WS := (sSeq (sSet 1 (wCall 3 c_l_world k (wCons (wVar 0) (wCons (wC (.int 6)) (wCons (wC (.int 3)) wNil))))) (sSeq (sSet 2 (wCall 3 c_l_comings k (wCons (wVar 0) (wCons (wVar 1) (wCons (wC (.int 6)) wNil))))) (sSeq (sSet 3 (wIf (wTst (wBin oEq (wCall 2 c_l_take k (wCons (wVar 0) (wCons (wC (.int 4)) wNil))) (wC (.int 0)))) (wVar 1) (wBin oIx (wCall 2 c_gone k (wCons (wVar 1) (wCons (wVar 2) wNil))) (wC (.int 0))))) (sSeq (sSet 4 (wLst (wCons (wVar 3) wNil))) (sSeq (sFor (wSeq (wBack (wVar 2))) (.nm 5) (sSeq (sSet 10 (wLst wNil)) (sSeq (sFor (wSeq (wVar 4)) (.nm 11) (sSet 10 (wBin oAdd (wVar 10) (wCall 2 c_l_back84 k (wCons (wVar 11) (wCons (wVar 5) wNil)))))) (sSet 4 (wVar 10))))) (sSeq (sSet 6 (wLst (wCons (wCall 2 c_all_ahead84 k (wCons (wVar 3) (wCons (wVar 2) wNil))) (wCons (wCall 2 c_all_ahead84 k (wCons (wCall 1 c_l_lists k (wCons (wVar 3) wNil)) (wCons (wCall 1 c_l_lists k (wCons (wVar 2) wNil)) wNil))) wNil)))) (sSeq (sIf (wOr (wNot (wTst (wCall 2 c_l_same k (wCons (wVar 6) (wCons (wLst (wCons (wVar 4) (wCons (wVar 4) wNil))) wNil))))) (wTst (wBin oNe (wLenSet (wVar 4)) (wBi oLen (wCons (wVar 4) wNil))))) (sRet (wC (.bl false))) sNil) (sSeq (sIf (wNot (wTst (wBi oAll (wCons (wLc (wSeq (wVar 4)) (.nm 13) wYes (wCall 2 c_l_same k (wCons (wBin oIx (wCall 2 c_gone k (wCons (wVar 13) (wCons (wVar 2) wNil))) (wC (.int 0))) (wCons (wVar 3) wNil))) [13]) wNil)))) (sRet (wC (.bl false))) sNil) (sSeq (sIf (wAnd (wTst (wBin oEq (wBin oIx (wCall 2 c_gone k (wCons (wVar 1) (wCons (wVar 2) wNil))) (wC (.int 0))) (wVar 3))) (wTst (wBin oNotIn (wVar 1) (wVar 4)))) (sRet (wC (.bl false))) sNil) (sSeq (sSet 7 (wCall 2 c_l_take k (wCons (wVar 0) (wCons (wBin oAdd (wBi oLen (wCons (wVar 2) wNil)) (wC (.int 1))) wNil)))) (sSeq (sSet 8 (wLst wNil)) (sSeq (sFor (wSeq (wCall 2 c_all_ahead84 k (wCons (wVar 3) (wCons (wSl (wVar 2) (wPart (wVar 7)) wNoPart) wNil)))) (.nm 9) (sSet 8 (wBin oAdd (wVar 8) (wCall 2 c_all_ahead84 k (wCons (wVar 9) (wCons (wSl (wVar 2) wNoPart (wPart (wVar 7))) wNil)))))) (sSeq (sIf (wNot (wTst (wCall 2 c_l_same k (wCons (wVar 8) (wCons (wVar 4) wNil))))) (sRet (wC (.bl false))) sNil) (sSeq (sFor (wSeq (wVar 2)) (.nm 5) (sSeq (sSet 12 (wBin oIs (wBin oIx (wCall 2 c_l_came k (wCons (wVar 3) (wCons (wVar 5) wNil))) (wC (.int 1))) (wC .non))) (sIf (wOr (wTst (wBin oNe (wBin oNe (wCall 2 c_ahead83 k (wCons (wVar 3) (wCons (wVar 5) wNil))) (wLst wNil)) (wVar 12))) (wAnd (wTru (wVar 12)) (wTst (wBin oNe (wBin oIx (wCall 2 c_ahead83 k (wCons (wVar 3) (wCons (wVar 5) wNil))) (wC (.int 0))) (wVar 3))))) (sRet (wC (.bl false))) sNil))) (sRet (wC (.bl true)))))))))))))))))
theorem p_k84_right (k : Nat) (ds : List D) (c : Cs) (Q : DK) (X0 : XK0) (hlen0 : ds.length = 1) (h : c_k84_right k ds c Q X0) : w_k84_right k (endOf Q) (excOf X0) (enOf 14 ds) c := by
  obtain ⟨p, N, rfl, hk, hb, hN, q⟩ := h
  obtain ⟨k, rfl⟩ : ∃ k', k = k' + 25 := ⟨k - 25, by omega⟩
  refine seq_gen fun D1 r1 _ _ n1 => ?_
  try simp only [w_k84_right, sRaise, sTry, wIsX, wWhat, wBack, lo_lst, e_mulV, sizeL, sNil, sSeq, sPass, sBrk, sCont, sExpr, sRet, sRetN, sIf, sNever, sSet, sAug, gNm, gTp, gNil', gCons', gSb, sAsg, sPar, sFor, wVar_z, wVar_s, wC, wChn, wTru, sPar3, wRev, wCallK, permF, List.filterMap_cons, List.filterMap_nil, wBin, wUn, wTst, wNot, wAnd, wOr, wAndV, wOrV, wNotV, wIf, wNil, wCons, wTup, wLst, wLstL, wFz, wCall, wBi, wMt, wMt0, wSl, wSlL, wPart, wNoPart, wYes, wSeq, wRg1, wRg2, wEnum, wZip, wLc, wLcL, wLRg, wFld, sFldS, sFldA, gFld, wMeth, wMake, lvl2_s, onB, e_eqI, e_neI, e_eqB, e_neB, e_eqS, e_neS, e_eqN, e_tyLT, e_ty1, isTys, tyMem, tyN_non, tyN_bl, tyN_int, tyN_str, tyN_tup, tyN_lst, Bool.true_or, Bool.or_true, Bool.or_false, Bool.false_or, Bool.not_true, Bool.not_false, inn_non, inn_bl, inn_int, inn_str, inn_tup, inn_lst, inn_ptr, e_slT, e_slL, e_slN, isT_P, isT_L, isT_T, isT_N, e_sub, e_fdiv, e_mod, e_pow, e_lt, e_le, e_gt, e_ge, e_neg, e_add, e_addS, e_addT, e_addL, e_addPP, e_addPL, e_addLP, e_mul, e_mulL, e_mulT, e_augI, e_ixT, e_ixL, e_ixN, e_ixP, e_lenT, e_lenL, e_lenN, e_lenS, e_lenP, e_abs, e_intI, e_intB, e_max, e_min, e_tupL, e_tupT, e_listL, e_listT, e_listN, e_listLL, e_listLT, e_divmod, e_isNon, e_isntNon, e_isB, e_isntB, e_setIx, e_insert, e_append, e_isL, e_isLL, e_seqP, e_seqL, e_seqT, e_seqN, it_lst, it_fz, Option.bind_some, Option.isSome_some, ix10, ix20, ix21, ix30, ix32, dl1, dl2, dl3, List.eraseIdx_cons_zero, e_pop0, e_popAt, e_rev, e_clear, e_tupP, e_listP, e_neN, e_neIN, e_neNI, e_eqIN, e_eqNI, at0, at1, at2, at3, Cell.lst.injEq, Cell.obj.injEq, Option.some.injEq, exists_eq_left', decide_eq_true_eq, true_and, and_true, cup_same, cup_cup, wLenSet, wSrtIt, List.flatten_nil, List.flatten_cons, enOf, endOf, excOf, List.map_cons, List.map_nil, List.length_cons, List.length_nil, List.replicate, Nat.reduceAdd, Nat.reduceSub, List.cons_append, List.nil_append, List.set_cons_zero, List.set_cons_succ, List.getElem?_cons_zero, List.getElem?_cons_succ, List.getElem_cons_zero, List.getElem_cons_succ, reduceCtorEq, if_true, if_false, Bool.false_eq_true, decide_true, decide_false, ne_eq, not_true, not_false_eq_true, Int.reduceEq, Nat.reduceMul, true_imp_iff, Int.reduceToNat, Int.reducePow, Nat.reducePow, Int.reduceLE, Int.reduceLT, Nat.reduceLT, and_self, Nat.reduceLeDiff, Int.reduceNeg, Int.reduceAdd, Int.reduceSub, Int.reduceMul, Int.cast_ofNat_Int, lvl_s]
  refine ⟨p, 6, 3, N, rfl, by omega, by omega, by omega, hb, by omega, by omega, fun w0 c1 okw u1 => n1 _ _ (seq_gen fun D2 r2 _ _ n2 => ?_)⟩
  clear n1
  have ok0 := okw.ws
  obtain ⟨z1, z2, z3, _⟩ := okw
  try simp only [sRaise, sTry, wIsX, wWhat, wBack, lo_lst, e_mulV, sizeL, sNil, sSeq, sPass, sBrk, sCont, sExpr, sRet, sRetN, sIf, sNever, sSet, sAug, gNm, gTp, gNil', gCons', gSb, sAsg, sPar, sFor, wVar_z, wVar_s, wC, wChn, wTru, sPar3, wRev, wCallK, permF, List.filterMap_cons, List.filterMap_nil, wBin, wUn, wTst, wNot, wAnd, wOr, wAndV, wOrV, wNotV, wIf, wNil, wCons, wTup, wLst, wLstL, wFz, wCall, wBi, wMt, wMt0, wSl, wSlL, wPart, wNoPart, wYes, wSeq, wRg1, wRg2, wEnum, wZip, wLc, wLcL, wLRg, wFld, sFldS, sFldA, gFld, wMeth, wMake, lvl2_s, onB, e_eqI, e_neI, e_eqB, e_neB, e_eqS, e_neS, e_eqN, e_tyLT, e_ty1, isTys, tyMem, tyN_non, tyN_bl, tyN_int, tyN_str, tyN_tup, tyN_lst, Bool.true_or, Bool.or_true, Bool.or_false, Bool.false_or, Bool.not_true, Bool.not_false, inn_non, inn_bl, inn_int, inn_str, inn_tup, inn_lst, inn_ptr, e_slT, e_slL, e_slN, isT_P, isT_L, isT_T, isT_N, e_sub, e_fdiv, e_mod, e_pow, e_lt, e_le, e_gt, e_ge, e_neg, e_add, e_addS, e_addT, e_addL, e_addPP, e_addPL, e_addLP, e_mul, e_mulL, e_mulT, e_augI, e_ixT, e_ixL, e_ixN, e_ixP, e_lenT, e_lenL, e_lenN, e_lenS, e_lenP, e_abs, e_intI, e_intB, e_max, e_min, e_tupL, e_tupT, e_listL, e_listT, e_listN, e_listLL, e_listLT, e_divmod, e_isNon, e_isntNon, e_isB, e_isntB, e_setIx, e_insert, e_append, e_isL, e_isLL, e_seqP, e_seqL, e_seqT, e_seqN, it_lst, it_fz, Option.bind_some, Option.isSome_some, ix10, ix20, ix21, ix30, ix32, dl1, dl2, dl3, List.eraseIdx_cons_zero, e_pop0, e_popAt, e_rev, e_clear, e_tupP, e_listP, e_neN, e_neIN, e_neNI, e_eqIN, e_eqNI, at0, at1, at2, at3, Cell.lst.injEq, Cell.obj.injEq, Option.some.injEq, exists_eq_left', decide_eq_true_eq, true_and, and_true, cup_same, cup_cup, wLenSet, wSrtIt, List.flatten_nil, List.flatten_cons, enOf, endOf, excOf, List.map_cons, List.map_nil, List.length_cons, List.length_nil, List.replicate, Nat.reduceAdd, Nat.reduceSub, List.cons_append, List.nil_append, List.set_cons_zero, List.set_cons_succ, List.getElem?_cons_zero, List.getElem?_cons_succ, List.getElem_cons_zero, List.getElem_cons_succ, reduceCtorEq, if_true, if_false, Bool.false_eq_true, decide_true, decide_false, ne_eq, not_true, not_false_eq_true, Int.reduceEq, Nat.reduceMul, true_imp_iff, Int.reduceToNat, Int.reducePow, Nat.reducePow, Int.reduceLE, Int.reduceLT, Nat.reduceLT, and_self, Nat.reduceLeDiff, Int.reduceNeg, Int.reduceAdd, Int.reduceSub, Int.reduceMul, Int.cast_ofNat_Int, lvl_s]
  refine ⟨p, w0, 6, _, rfl, by omega, by omega, by omega, by omega, u1.1, by omega, fun ps c2 hpl hin0 u2 => n2 _ _ (seq_gen fun D3 r3 _ _ n3 => ?_)⟩
  clear n2
  have u12 := u1.trans u2
  have hin0' : within w0 ps := hin0
  -- the world
  have go : ∀ (w : Wo) (c3 : Cs), okWs w → w.1.length = w0.1.length → w.2.length = w0.2.length → Up p (N + 400000) c c3 → D3.nx [some (.ptr p), some (wD w0), some (.lst (ps.map cmD)), some (wD w), none, none, none, none, none, none, none, none, none, none] c3 := fun w c3 ok g1 g2 u3 => by
    refine n3 _ _ (seq_gen fun D4 r4 _ _ n4 => ?_)
    clear n3
    have hin : within w ps := fun q hq => by obtain ⟨h1, h2⟩ := hin0' q hq; exact ⟨by omega, by omega⟩
    try simp only [sRaise, sTry, wIsX, wWhat, wBack, lo_lst, e_mulV, sizeL, sNil, sSeq, sPass, sBrk, sCont, sExpr, sRet, sRetN, sIf, sNever, sSet, sAug, gNm, gTp, gNil', gCons', gSb, sAsg, sPar, sFor, wVar_z, wVar_s, wC, wChn, wTru, sPar3, wRev, wCallK, permF, List.filterMap_cons, List.filterMap_nil, wBin, wUn, wTst, wNot, wAnd, wOr, wAndV, wOrV, wNotV, wIf, wNil, wCons, wTup, wLst, wLstL, wFz, wCall, wBi, wMt, wMt0, wSl, wSlL, wPart, wNoPart, wYes, wSeq, wRg1, wRg2, wEnum, wZip, wLc, wLcL, wLRg, wFld, sFldS, sFldA, gFld, wMeth, wMake, lvl2_s, onB, e_eqI, e_neI, e_eqB, e_neB, e_eqS, e_neS, e_eqN, e_tyLT, e_ty1, isTys, tyMem, tyN_non, tyN_bl, tyN_int, tyN_str, tyN_tup, tyN_lst, Bool.true_or, Bool.or_true, Bool.or_false, Bool.false_or, Bool.not_true, Bool.not_false, inn_non, inn_bl, inn_int, inn_str, inn_tup, inn_lst, inn_ptr, e_slT, e_slL, e_slN, isT_P, isT_L, isT_T, isT_N, e_sub, e_fdiv, e_mod, e_pow, e_lt, e_le, e_gt, e_ge, e_neg, e_add, e_addS, e_addT, e_addL, e_addPP, e_addPL, e_addLP, e_mul, e_mulL, e_mulT, e_augI, e_ixT, e_ixL, e_ixN, e_ixP, e_lenT, e_lenL, e_lenN, e_lenS, e_lenP, e_abs, e_intI, e_intB, e_max, e_min, e_tupL, e_tupT, e_listL, e_listT, e_listN, e_listLL, e_listLT, e_divmod, e_isNon, e_isntNon, e_isB, e_isntB, e_setIx, e_insert, e_append, e_isL, e_isLL, e_seqP, e_seqL, e_seqT, e_seqN, it_lst, it_fz, Option.bind_some, Option.isSome_some, ix10, ix20, ix21, ix30, ix32, dl1, dl2, dl3, List.eraseIdx_cons_zero, e_pop0, e_popAt, e_rev, e_clear, e_tupP, e_listP, e_neN, e_neIN, e_neNI, e_eqIN, e_eqNI, at0, at1, at2, at3, Cell.lst.injEq, Cell.obj.injEq, Option.some.injEq, exists_eq_left', decide_eq_true_eq, true_and, and_true, cup_same, cup_cup, wLenSet, wSrtIt, List.flatten_nil, List.flatten_cons, enOf, endOf, excOf, List.map_cons, List.map_nil, List.length_cons, List.length_nil, List.replicate, Nat.reduceAdd, Nat.reduceSub, List.cons_append, List.nil_append, List.set_cons_zero, List.set_cons_succ, List.getElem?_cons_zero, List.getElem?_cons_succ, List.getElem_cons_zero, List.getElem_cons_succ, reduceCtorEq, if_true, if_false, Bool.false_eq_true, decide_true, decide_false, ne_eq, not_true, not_false_eq_true, Int.reduceEq, Nat.reduceMul, true_imp_iff, Int.reduceToNat, Int.reducePow, Nat.reducePow, Int.reduceLE, Int.reduceLT, Nat.reduceLT, and_self, Nat.reduceLeDiff, Int.reduceNeg, Int.reduceAdd, Int.reduceSub, Int.reduceMul, Int.cast_ofNat_Int, lvl_s]
    refine n4 _ _ (seq_gen fun D5 r5 _ _ n5 => ?_)
    clear n4
    simp only [sRaise, sTry, wIsX, wWhat, wBack, lo_lst, e_mulV, sizeL, sNil, sSeq, sPass, sBrk, sCont, sExpr, sRet, sRetN, sIf, sNever, sSet, sAug, gNm, gTp, gNil', gCons', gSb, sAsg, sPar, sFor, wVar_z, wVar_s, wC, wChn, wTru, sPar3, wRev, wCallK, permF, List.filterMap_cons, List.filterMap_nil, wBin, wUn, wTst, wNot, wAnd, wOr, wAndV, wOrV, wNotV, wIf, wNil, wCons, wTup, wLst, wLstL, wFz, wCall, wBi, wMt, wMt0, wSl, wSlL, wPart, wNoPart, wYes, wSeq, wRg1, wRg2, wEnum, wZip, wLc, wLcL, wLRg, wFld, sFldS, sFldA, gFld, wMeth, wMake, lvl2_s, onB, e_eqI, e_neI, e_eqB, e_neB, e_eqS, e_neS, e_eqN, e_tyLT, e_ty1, isTys, tyMem, tyN_non, tyN_bl, tyN_int, tyN_str, tyN_tup, tyN_lst, Bool.true_or, Bool.or_true, Bool.or_false, Bool.false_or, Bool.not_true, Bool.not_false, inn_non, inn_bl, inn_int, inn_str, inn_tup, inn_lst, inn_ptr, e_slT, e_slL, e_slN, isT_P, isT_L, isT_T, isT_N, e_sub, e_fdiv, e_mod, e_pow, e_lt, e_le, e_gt, e_ge, e_neg, e_add, e_addS, e_addT, e_addL, e_addPP, e_addPL, e_addLP, e_mul, e_mulL, e_mulT, e_augI, e_ixT, e_ixL, e_ixN, e_ixP, e_lenT, e_lenL, e_lenN, e_lenS, e_lenP, e_abs, e_intI, e_intB, e_max, e_min, e_tupL, e_tupT, e_listL, e_listT, e_listN, e_listLL, e_listLT, e_divmod, e_isNon, e_isntNon, e_isB, e_isntB, e_setIx, e_insert, e_append, e_isL, e_isLL, e_seqP, e_seqL, e_seqT, e_seqN, it_lst, it_fz, Option.bind_some, Option.isSome_some, ix10, ix20, ix21, ix30, ix32, dl1, dl2, dl3, List.eraseIdx_cons_zero, e_pop0, e_popAt, e_rev, e_clear, e_tupP, e_listP, e_neN, e_neIN, e_neNI, e_eqIN, e_eqNI, at0, at1, at2, at3, Cell.lst.injEq, Cell.obj.injEq, Option.some.injEq, exists_eq_left', decide_eq_true_eq, true_and, and_true, cup_same, cup_cup, wLenSet, wSrtIt, List.flatten_nil, List.flatten_cons, enOf, endOf, excOf, List.map_cons, List.map_nil, List.length_cons, List.length_nil, List.replicate, Nat.reduceAdd, Nat.reduceSub, List.cons_append, List.nil_append, List.set_cons_zero, List.set_cons_succ, List.getElem?_cons_zero, List.getElem?_cons_succ, List.getElem_cons_zero, List.getElem_cons_succ, reduceCtorEq, if_true, if_false, Bool.false_eq_true, decide_true, decide_false, ne_eq, not_true, not_false_eq_true, Int.reduceEq, Nat.reduceMul, true_imp_iff, Int.reduceToNat, Int.reducePow, Nat.reducePow, Int.reduceLE, Int.reduceLT, Nat.reduceLT, and_self, Nat.reduceLeDiff, Int.reduceNeg, Int.reduceAdd, Int.reduceSub, Int.reduceMul, Int.cast_ofNat_Int, lvl_s, wBack]
    intro _
    rw [← List.map_reverse]
    have y1 : w.1.length ≤ 6 := by omega
    have y2 : w.2.length ≤ 3 := by omega
    have fW := (wD_fine ok (by omega) (by omega)).1
    refine loopP cmD (fun pre en c' => (∃ o5 o10 o11, en = [some (.ptr p), some (wD w0), some (.lst (ps.map cmD)), some (wD w), some (.lst ((allA w pre.reverse).map wD)), o5, none, none, none, none, o10, o11, none, none]) ∧ Up p (N + 400000) c c') ⟨⟨_, _, _, rfl⟩, u3⟩ ?_ ?_
    · rintro pre m post en c4 hs ⟨⟨o5, o10, o11, rfl⟩, u4⟩
      refine ⟨trivial, _, rfl, fun D6 st => ?_⟩
      have hmem : ∀ q ∈ pre ++ m :: post, q ∈ ps := fun q hq => by rw [← hs] at hq; exact List.mem_reverse.mp hq
      obtain ⟨rest, hrest⟩ : ∃ rest, rest = pre.reverse := ⟨_, rfl⟩
      rw [← hrest]
      have hinr : within w rest := fun q hq => hin q (hmem q (by rw [hrest] at hq; exact List.mem_append_left _ (List.mem_reverse.mp hq)))
      have hm := hin m (hmem m (by simp))
      have hrl : rest.length ≤ 6 := by
        have := congrArg List.length hs
        rw [List.length_reverse, List.length_append] at this
        rw [hrest, List.length_reverse]
        omega
      refine seq_gen fun D7 r7 _ _ n7 => ?_
      try simp only [sRaise, sTry, wIsX, wWhat, wBack, lo_lst, e_mulV, sizeL, sNil, sSeq, sPass, sBrk, sCont, sExpr, sRet, sRetN, sIf, sNever, sSet, sAug, gNm, gTp, gNil', gCons', gSb, sAsg, sPar, sFor, wVar_z, wVar_s, wC, wChn, wTru, sPar3, wRev, wCallK, permF, List.filterMap_cons, List.filterMap_nil, wBin, wUn, wTst, wNot, wAnd, wOr, wAndV, wOrV, wNotV, wIf, wNil, wCons, wTup, wLst, wLstL, wFz, wCall, wBi, wMt, wMt0, wSl, wSlL, wPart, wNoPart, wYes, wSeq, wRg1, wRg2, wEnum, wZip, wLc, wLcL, wLRg, wFld, sFldS, sFldA, gFld, wMeth, wMake, lvl2_s, onB, e_eqI, e_neI, e_eqB, e_neB, e_eqS, e_neS, e_eqN, e_tyLT, e_ty1, isTys, tyMem, tyN_non, tyN_bl, tyN_int, tyN_str, tyN_tup, tyN_lst, Bool.true_or, Bool.or_true, Bool.or_false, Bool.false_or, Bool.not_true, Bool.not_false, inn_non, inn_bl, inn_int, inn_str, inn_tup, inn_lst, inn_ptr, e_slT, e_slL, e_slN, isT_P, isT_L, isT_T, isT_N, e_sub, e_fdiv, e_mod, e_pow, e_lt, e_le, e_gt, e_ge, e_neg, e_add, e_addS, e_addT, e_addL, e_addPP, e_addPL, e_addLP, e_mul, e_mulL, e_mulT, e_augI, e_ixT, e_ixL, e_ixN, e_ixP, e_lenT, e_lenL, e_lenN, e_lenS, e_lenP, e_abs, e_intI, e_intB, e_max, e_min, e_tupL, e_tupT, e_listL, e_listT, e_listN, e_listLL, e_listLT, e_divmod, e_isNon, e_isntNon, e_isB, e_isntB, e_setIx, e_insert, e_append, e_isL, e_isLL, e_seqP, e_seqL, e_seqT, e_seqN, it_lst, it_fz, Option.bind_some, Option.isSome_some, ix10, ix20, ix21, ix30, ix32, dl1, dl2, dl3, List.eraseIdx_cons_zero, e_pop0, e_popAt, e_rev, e_clear, e_tupP, e_listP, e_neN, e_neIN, e_neNI, e_eqIN, e_eqNI, at0, at1, at2, at3, Cell.lst.injEq, Cell.obj.injEq, Option.some.injEq, exists_eq_left', decide_eq_true_eq, true_and, and_true, cup_same, cup_cup, wLenSet, wSrtIt, List.flatten_nil, List.flatten_cons, enOf, endOf, excOf, List.map_cons, List.map_nil, List.length_cons, List.length_nil, List.replicate, Nat.reduceAdd, Nat.reduceSub, List.cons_append, List.nil_append, List.set_cons_zero, List.set_cons_succ, List.getElem?_cons_zero, List.getElem?_cons_succ, List.getElem_cons_zero, List.getElem_cons_succ, reduceCtorEq, if_true, if_false, Bool.false_eq_true, decide_true, decide_false, ne_eq, not_true, not_false_eq_true, Int.reduceEq, Nat.reduceMul, true_imp_iff, Int.reduceToNat, Int.reducePow, Nat.reducePow, Int.reduceLE, Int.reduceLT, Nat.reduceLT, and_self, Nat.reduceLeDiff, Int.reduceNeg, Int.reduceAdd, Int.reduceSub, Int.reduceMul, Int.cast_ofNat_Int, lvl_s]
      refine n7 _ _ (seq_gen fun D8 r8 _ _ n8 => ?_)
      clear n7
      try simp only [sRaise, sTry, wIsX, wWhat, wBack, lo_lst, e_mulV, sizeL, sNil, sSeq, sPass, sBrk, sCont, sExpr, sRet, sRetN, sIf, sNever, sSet, sAug, gNm, gTp, gNil', gCons', gSb, sAsg, sPar, sFor, wVar_z, wVar_s, wC, wChn, wTru, sPar3, wRev, wCallK, permF, List.filterMap_cons, List.filterMap_nil, wBin, wUn, wTst, wNot, wAnd, wOr, wAndV, wOrV, wNotV, wIf, wNil, wCons, wTup, wLst, wLstL, wFz, wCall, wBi, wMt, wMt0, wSl, wSlL, wPart, wNoPart, wYes, wSeq, wRg1, wRg2, wEnum, wZip, wLc, wLcL, wLRg, wFld, sFldS, sFldA, gFld, wMeth, wMake, lvl2_s, onB, e_eqI, e_neI, e_eqB, e_neB, e_eqS, e_neS, e_eqN, e_tyLT, e_ty1, isTys, tyMem, tyN_non, tyN_bl, tyN_int, tyN_str, tyN_tup, tyN_lst, Bool.true_or, Bool.or_true, Bool.or_false, Bool.false_or, Bool.not_true, Bool.not_false, inn_non, inn_bl, inn_int, inn_str, inn_tup, inn_lst, inn_ptr, e_slT, e_slL, e_slN, isT_P, isT_L, isT_T, isT_N, e_sub, e_fdiv, e_mod, e_pow, e_lt, e_le, e_gt, e_ge, e_neg, e_add, e_addS, e_addT, e_addL, e_addPP, e_addPL, e_addLP, e_mul, e_mulL, e_mulT, e_augI, e_ixT, e_ixL, e_ixN, e_ixP, e_lenT, e_lenL, e_lenN, e_lenS, e_lenP, e_abs, e_intI, e_intB, e_max, e_min, e_tupL, e_tupT, e_listL, e_listT, e_listN, e_listLL, e_listLT, e_divmod, e_isNon, e_isntNon, e_isB, e_isntB, e_setIx, e_insert, e_append, e_isL, e_isLL, e_seqP, e_seqL, e_seqT, e_seqN, it_lst, it_fz, Option.bind_some, Option.isSome_some, ix10, ix20, ix21, ix30, ix32, dl1, dl2, dl3, List.eraseIdx_cons_zero, e_pop0, e_popAt, e_rev, e_clear, e_tupP, e_listP, e_neN, e_neIN, e_neNI, e_eqIN, e_eqNI, at0, at1, at2, at3, Cell.lst.injEq, Cell.obj.injEq, Option.some.injEq, exists_eq_left', decide_eq_true_eq, true_and, and_true, cup_same, cup_cup, wLenSet, wSrtIt, List.flatten_nil, List.flatten_cons, enOf, endOf, excOf, List.map_cons, List.map_nil, List.length_cons, List.length_nil, List.replicate, Nat.reduceAdd, Nat.reduceSub, List.cons_append, List.nil_append, List.set_cons_zero, List.set_cons_succ, List.getElem?_cons_zero, List.getElem?_cons_succ, List.getElem_cons_zero, List.getElem_cons_succ, reduceCtorEq, if_true, if_false, Bool.false_eq_true, decide_true, decide_false, ne_eq, not_true, not_false_eq_true, Int.reduceEq, Nat.reduceMul, true_imp_iff, Int.reduceToNat, Int.reducePow, Nat.reducePow, Int.reduceLE, Int.reduceLT, Nat.reduceLT, and_self, Nat.reduceLeDiff, Int.reduceNeg, Int.reduceAdd, Int.reduceSub, Int.reduceMul, Int.cast_ofNat_Int, lvl_s]
      intro _
      have hbig : (allA w rest).length ≤ 729 := Nat.le_trans (allA_len w rest) (Nat.pow_le_pow_right (by decide) hrl)
      refine loopP wD (fun pre2 en c' => (∃ o11, en = [some (.ptr p), some (wD w0), some (.lst (ps.map cmD)), some (wD w), some (.lst ((allA w rest).map wD)), some (cmD m), none, none, none, none, some (.lst ((pre2.flatMap fun b => aheadW b m.1 m.2).map wD)), o11, none, none]) ∧ Up p (N + 400000) c c') ⟨⟨_, rfl⟩, u4⟩ ?_ ?_
      · rintro pre2 b post2 en c5 hs2 ⟨⟨o11, rfl⟩, u5⟩
        refine ⟨trivial, _, rfl, fun D9 st2 => ?_⟩
        obtain ⟨_, a1, a2, okb⟩ := allA_leads ok hinr b (by rw [hs2]; simp)
        try simp only [sRaise, sTry, wIsX, wWhat, wBack, lo_lst, e_mulV, sizeL, sNil, sSeq, sPass, sBrk, sCont, sExpr, sRet, sRetN, sIf, sNever, sSet, sAug, gNm, gTp, gNil', gCons', gSb, sAsg, sPar, sFor, wVar_z, wVar_s, wC, wChn, wTru, sPar3, wRev, wCallK, permF, List.filterMap_cons, List.filterMap_nil, wBin, wUn, wTst, wNot, wAnd, wOr, wAndV, wOrV, wNotV, wIf, wNil, wCons, wTup, wLst, wLstL, wFz, wCall, wBi, wMt, wMt0, wSl, wSlL, wPart, wNoPart, wYes, wSeq, wRg1, wRg2, wEnum, wZip, wLc, wLcL, wLRg, wFld, sFldS, sFldA, gFld, wMeth, wMake, lvl2_s, onB, e_eqI, e_neI, e_eqB, e_neB, e_eqS, e_neS, e_eqN, e_tyLT, e_ty1, isTys, tyMem, tyN_non, tyN_bl, tyN_int, tyN_str, tyN_tup, tyN_lst, Bool.true_or, Bool.or_true, Bool.or_false, Bool.false_or, Bool.not_true, Bool.not_false, inn_non, inn_bl, inn_int, inn_str, inn_tup, inn_lst, inn_ptr, e_slT, e_slL, e_slN, isT_P, isT_L, isT_T, isT_N, e_sub, e_fdiv, e_mod, e_pow, e_lt, e_le, e_gt, e_ge, e_neg, e_add, e_addS, e_addT, e_addL, e_addPP, e_addPL, e_addLP, e_mul, e_mulL, e_mulT, e_augI, e_ixT, e_ixL, e_ixN, e_ixP, e_lenT, e_lenL, e_lenN, e_lenS, e_lenP, e_abs, e_intI, e_intB, e_max, e_min, e_tupL, e_tupT, e_listL, e_listT, e_listN, e_listLL, e_listLT, e_divmod, e_isNon, e_isntNon, e_isB, e_isntB, e_setIx, e_insert, e_append, e_isL, e_isLL, e_seqP, e_seqL, e_seqT, e_seqN, it_lst, it_fz, Option.bind_some, Option.isSome_some, ix10, ix20, ix21, ix30, ix32, dl1, dl2, dl3, List.eraseIdx_cons_zero, e_pop0, e_popAt, e_rev, e_clear, e_tupP, e_listP, e_neN, e_neIN, e_neNI, e_eqIN, e_eqNI, at0, at1, at2, at3, Cell.lst.injEq, Cell.obj.injEq, Option.some.injEq, exists_eq_left', decide_eq_true_eq, true_and, and_true, cup_same, cup_cup, wLenSet, wSrtIt, List.flatten_nil, List.flatten_cons, enOf, endOf, excOf, List.map_cons, List.map_nil, List.length_cons, List.length_nil, List.replicate, Nat.reduceAdd, Nat.reduceSub, List.cons_append, List.nil_append, List.set_cons_zero, List.set_cons_succ, List.getElem?_cons_zero, List.getElem?_cons_succ, List.getElem_cons_zero, List.getElem_cons_succ, reduceCtorEq, if_true, if_false, Bool.false_eq_true, decide_true, decide_false, ne_eq, not_true, not_false_eq_true, Int.reduceEq, Nat.reduceMul, true_imp_iff, Int.reduceToNat, Int.reducePow, Nat.reducePow, Int.reduceLE, Int.reduceLT, Nat.reduceLT, and_self, Nat.reduceLeDiff, Int.reduceNeg, Int.reduceAdd, Int.reduceSub, Int.reduceMul, Int.cast_ofNat_Int, lvl_s]
        refine ⟨b, m.1, m.2, rfl, okb, by omega, by omega, by omega, by omega, by omega, fun c6 l6 => ?_⟩
        have hpl2 : pre2.length ≤ 729 := by
          have := congrArg List.length hs2
          rw [List.length_append] at this
          omega
        have f1 := flat_len (fun b => aheadW b m.1 m.2) (fun b => ahead_len b _ _) pre2
        have f2 := ahead_len b m.1 m.2
        try simp only [sRaise, sTry, wIsX, wWhat, wBack, lo_lst, e_mulV, sizeL, sNil, sSeq, sPass, sBrk, sCont, sExpr, sRet, sRetN, sIf, sNever, sSet, sAug, gNm, gTp, gNil', gCons', gSb, sAsg, sPar, sFor, wVar_z, wVar_s, wC, wChn, wTru, sPar3, wRev, wCallK, permF, List.filterMap_cons, List.filterMap_nil, wBin, wUn, wTst, wNot, wAnd, wOr, wAndV, wOrV, wNotV, wIf, wNil, wCons, wTup, wLst, wLstL, wFz, wCall, wBi, wMt, wMt0, wSl, wSlL, wPart, wNoPart, wYes, wSeq, wRg1, wRg2, wEnum, wZip, wLc, wLcL, wLRg, wFld, sFldS, sFldA, gFld, wMeth, wMake, lvl2_s, onB, e_eqI, e_neI, e_eqB, e_neB, e_eqS, e_neS, e_eqN, e_tyLT, e_ty1, isTys, tyMem, tyN_non, tyN_bl, tyN_int, tyN_str, tyN_tup, tyN_lst, Bool.true_or, Bool.or_true, Bool.or_false, Bool.false_or, Bool.not_true, Bool.not_false, inn_non, inn_bl, inn_int, inn_str, inn_tup, inn_lst, inn_ptr, e_slT, e_slL, e_slN, isT_P, isT_L, isT_T, isT_N, e_sub, e_fdiv, e_mod, e_pow, e_lt, e_le, e_gt, e_ge, e_neg, e_add, e_addS, e_addT, e_addL, e_addPP, e_addPL, e_addLP, e_mul, e_mulL, e_mulT, e_augI, e_ixT, e_ixL, e_ixN, e_ixP, e_lenT, e_lenL, e_lenN, e_lenS, e_lenP, e_abs, e_intI, e_intB, e_max, e_min, e_tupL, e_tupT, e_listL, e_listT, e_listN, e_listLL, e_listLT, e_divmod, e_isNon, e_isntNon, e_isB, e_isntB, e_setIx, e_insert, e_append, e_isL, e_isLL, e_seqP, e_seqL, e_seqT, e_seqN, it_lst, it_fz, Option.bind_some, Option.isSome_some, ix10, ix20, ix21, ix30, ix32, dl1, dl2, dl3, List.eraseIdx_cons_zero, e_pop0, e_popAt, e_rev, e_clear, e_tupP, e_listP, e_neN, e_neIN, e_neNI, e_eqIN, e_eqNI, at0, at1, at2, at3, Cell.lst.injEq, Cell.obj.injEq, Option.some.injEq, exists_eq_left', decide_eq_true_eq, true_and, and_true, cup_same, cup_cup, wLenSet, wSrtIt, List.flatten_nil, List.flatten_cons, enOf, endOf, excOf, List.map_cons, List.map_nil, List.length_cons, List.length_nil, List.replicate, Nat.reduceAdd, Nat.reduceSub, List.cons_append, List.nil_append, List.set_cons_zero, List.set_cons_succ, List.getElem?_cons_zero, List.getElem?_cons_succ, List.getElem_cons_zero, List.getElem_cons_succ, reduceCtorEq, if_true, if_false, Bool.false_eq_true, decide_true, decide_false, ne_eq, not_true, not_false_eq_true, Int.reduceEq, Nat.reduceMul, true_imp_iff, Int.reduceToNat, Int.reducePow, Nat.reducePow, Int.reduceLE, Int.reduceLT, Nat.reduceLT, and_self, Nat.reduceLeDiff, Int.reduceNeg, Int.reduceAdd, Int.reduceSub, Int.reduceMul, Int.cast_ofNat_Int, lvl_s]
        refine ⟨by rw [List.length_map, List.length_map]; omega, ?_⟩
        have e : ((pre2 ++ [b]).flatMap fun b => aheadW b m.1 m.2).map wD = (pre2.flatMap fun b => aheadW b m.1 m.2).map wD ++ (aheadW b m.1 m.2).map wD := by
          rw [List.flatMap_append, List.map_append, List.flatMap_cons, List.flatMap_nil, List.append_nil]
        rw [← e]
        exact st2.1 _ _ ⟨⟨_, rfl⟩, u5.cle l6⟩
      · rintro en c5 ⟨⟨o11, rfl⟩, u5⟩
        refine ⟨trivial, n8 _ _ ?_⟩
        clear n8
        try simp only [sRaise, sTry, wIsX, wWhat, wBack, lo_lst, e_mulV, sizeL, sNil, sSeq, sPass, sBrk, sCont, sExpr, sRet, sRetN, sIf, sNever, sSet, sAug, gNm, gTp, gNil', gCons', gSb, sAsg, sPar, sFor, wVar_z, wVar_s, wC, wChn, wTru, sPar3, wRev, wCallK, permF, List.filterMap_cons, List.filterMap_nil, wBin, wUn, wTst, wNot, wAnd, wOr, wAndV, wOrV, wNotV, wIf, wNil, wCons, wTup, wLst, wLstL, wFz, wCall, wBi, wMt, wMt0, wSl, wSlL, wPart, wNoPart, wYes, wSeq, wRg1, wRg2, wEnum, wZip, wLc, wLcL, wLRg, wFld, sFldS, sFldA, gFld, wMeth, wMake, lvl2_s, onB, e_eqI, e_neI, e_eqB, e_neB, e_eqS, e_neS, e_eqN, e_tyLT, e_ty1, isTys, tyMem, tyN_non, tyN_bl, tyN_int, tyN_str, tyN_tup, tyN_lst, Bool.true_or, Bool.or_true, Bool.or_false, Bool.false_or, Bool.not_true, Bool.not_false, inn_non, inn_bl, inn_int, inn_str, inn_tup, inn_lst, inn_ptr, e_slT, e_slL, e_slN, isT_P, isT_L, isT_T, isT_N, e_sub, e_fdiv, e_mod, e_pow, e_lt, e_le, e_gt, e_ge, e_neg, e_add, e_addS, e_addT, e_addL, e_addPP, e_addPL, e_addLP, e_mul, e_mulL, e_mulT, e_augI, e_ixT, e_ixL, e_ixN, e_ixP, e_lenT, e_lenL, e_lenN, e_lenS, e_lenP, e_abs, e_intI, e_intB, e_max, e_min, e_tupL, e_tupT, e_listL, e_listT, e_listN, e_listLL, e_listLT, e_divmod, e_isNon, e_isntNon, e_isB, e_isntB, e_setIx, e_insert, e_append, e_isL, e_isLL, e_seqP, e_seqL, e_seqT, e_seqN, it_lst, it_fz, Option.bind_some, Option.isSome_some, ix10, ix20, ix21, ix30, ix32, dl1, dl2, dl3, List.eraseIdx_cons_zero, e_pop0, e_popAt, e_rev, e_clear, e_tupP, e_listP, e_neN, e_neIN, e_neNI, e_eqIN, e_eqNI, at0, at1, at2, at3, Cell.lst.injEq, Cell.obj.injEq, Option.some.injEq, exists_eq_left', decide_eq_true_eq, true_and, and_true, cup_same, cup_cup, wLenSet, wSrtIt, List.flatten_nil, List.flatten_cons, enOf, endOf, excOf, List.map_cons, List.map_nil, List.length_cons, List.length_nil, List.replicate, Nat.reduceAdd, Nat.reduceSub, List.cons_append, List.nil_append, List.set_cons_zero, List.set_cons_succ, List.getElem?_cons_zero, List.getElem?_cons_succ, List.getElem_cons_zero, List.getElem_cons_succ, reduceCtorEq, if_true, if_false, Bool.false_eq_true, decide_true, decide_false, ne_eq, not_true, not_false_eq_true, Int.reduceEq, Nat.reduceMul, true_imp_iff, Int.reduceToNat, Int.reducePow, Nat.reducePow, Int.reduceLE, Int.reduceLT, Nat.reduceLT, and_self, Nat.reduceLeDiff, Int.reduceNeg, Int.reduceAdd, Int.reduceSub, Int.reduceMul, Int.cast_ofNat_Int, lvl_s]
        refine st.1 _ _ ⟨?_, u5⟩
        rw [List.reverse_append, List.reverse_singleton, List.singleton_append, ← hrest, allA_cons]
        exact ⟨_, _, _, rfl⟩
    rintro en c4 ⟨⟨o5, o10, o11, rfl⟩, u4⟩
    refine ⟨trivial, n5 _ _ (seq_gen fun D6 r6 _ _ n6 => ?_)⟩
    clear n5
    rw [List.reverse_reverse]
    obtain ⟨A, hA⟩ : ∃ A, A = allA w ps := ⟨_, rfl⟩
    have hAl : A.length ≤ 729 := by rw [hA]; exact Nat.le_trans (allA_len w ps) (Nat.pow_le_pow_right (by decide) hpl)
    have hAn : A.Nodup := by rw [hA]; exact allA_nodup ok hin
    have hAx : ∀ b ∈ A, (goneW b ps).1 = w ∧ b.1.length = w.1.length ∧ b.2.length = w.2.length ∧ okWs b := fun b hb => allA_leads ok hin b (by rw [← hA]; exact hb)
    have plA : pl (.lst (A.map wD)) = true := by
      show pls (A.map wD) = true
      exact pls_all.mpr fun d hd => by obtain ⟨x, _, rfl⟩ := List.mem_map.mp hd; exact pl_wD x
    have dpA : deps (A.map wD) ≤ 4 := deps_le.mpr fun d hd => by obtain ⟨x, _, rfl⟩ := List.mem_map.mp hd; have := dep_wD x; omega
    rw [← hA]
    try simp only [sRaise, sTry, wIsX, wWhat, wBack, lo_lst, e_mulV, sizeL, sNil, sSeq, sPass, sBrk, sCont, sExpr, sRet, sRetN, sIf, sNever, sSet, sAug, gNm, gTp, gNil', gCons', gSb, sAsg, sPar, sFor, wVar_z, wVar_s, wC, wChn, wTru, sPar3, wRev, wCallK, permF, List.filterMap_cons, List.filterMap_nil, wBin, wUn, wTst, wNot, wAnd, wOr, wAndV, wOrV, wNotV, wIf, wNil, wCons, wTup, wLst, wLstL, wFz, wCall, wBi, wMt, wMt0, wSl, wSlL, wPart, wNoPart, wYes, wSeq, wRg1, wRg2, wEnum, wZip, wLc, wLcL, wLRg, wFld, sFldS, sFldA, gFld, wMeth, wMake, lvl2_s, onB, e_eqI, e_neI, e_eqB, e_neB, e_eqS, e_neS, e_eqN, e_tyLT, e_ty1, isTys, tyMem, tyN_non, tyN_bl, tyN_int, tyN_str, tyN_tup, tyN_lst, Bool.true_or, Bool.or_true, Bool.or_false, Bool.false_or, Bool.not_true, Bool.not_false, inn_non, inn_bl, inn_int, inn_str, inn_tup, inn_lst, inn_ptr, e_slT, e_slL, e_slN, isT_P, isT_L, isT_T, isT_N, e_sub, e_fdiv, e_mod, e_pow, e_lt, e_le, e_gt, e_ge, e_neg, e_add, e_addS, e_addT, e_addL, e_addPP, e_addPL, e_addLP, e_mul, e_mulL, e_mulT, e_augI, e_ixT, e_ixL, e_ixN, e_ixP, e_lenT, e_lenL, e_lenN, e_lenS, e_lenP, e_abs, e_intI, e_intB, e_max, e_min, e_tupL, e_tupT, e_listL, e_listT, e_listN, e_listLL, e_listLT, e_divmod, e_isNon, e_isntNon, e_isB, e_isntB, e_setIx, e_insert, e_append, e_isL, e_isLL, e_seqP, e_seqL, e_seqT, e_seqN, it_lst, it_fz, Option.bind_some, Option.isSome_some, ix10, ix20, ix21, ix30, ix32, dl1, dl2, dl3, List.eraseIdx_cons_zero, e_pop0, e_popAt, e_rev, e_clear, e_tupP, e_listP, e_neN, e_neIN, e_neNI, e_eqIN, e_eqNI, at0, at1, at2, at3, Cell.lst.injEq, Cell.obj.injEq, Option.some.injEq, exists_eq_left', decide_eq_true_eq, true_and, and_true, cup_same, cup_cup, wLenSet, wSrtIt, List.flatten_nil, List.flatten_cons, enOf, endOf, excOf, List.map_cons, List.map_nil, List.length_cons, List.length_nil, List.replicate, Nat.reduceAdd, Nat.reduceSub, List.cons_append, List.nil_append, List.set_cons_zero, List.set_cons_succ, List.getElem?_cons_zero, List.getElem?_cons_succ, List.getElem_cons_zero, List.getElem_cons_succ, reduceCtorEq, if_true, if_false, Bool.false_eq_true, decide_true, decide_false, ne_eq, not_true, not_false_eq_true, Int.reduceEq, Nat.reduceMul, true_imp_iff, Int.reduceToNat, Int.reducePow, Nat.reducePow, Int.reduceLE, Int.reduceLT, Nat.reduceLT, and_self, Nat.reduceLeDiff, Int.reduceNeg, Int.reduceAdd, Int.reduceSub, Int.reduceMul, Int.cast_ofNat_Int, lvl_s]
    refine ⟨wD w, w, ps, cmD, rfl, .self w, fun p => .inl rfl, ok, hin, by omega, by omega, by omega, by omega, ?_⟩
    refine lists_use (pl_wD w) (by have := dep_wD w; omega) ?_
    have plC : pl (.lst (ps.map cmD)) = true := by
      show pls (ps.map cmD) = true
      exact pls_all.mpr fun d hd => by obtain ⟨x, _, rfl⟩ := List.mem_map.mp hd; rfl
    have dpC : dep (.lst (ps.map cmD)) ≤ 3 := by
      have : deps (ps.map cmD) ≤ 1 := deps_le.mpr fun d hd => by obtain ⟨x, _, rfl⟩ := List.mem_map.mp hd; simp [cmD, dep, deps]
      show deps _ + 1 ≤ 3
      omega
    refine lists_use plC (by omega) ?_
    have eC : toL (.lst (ps.map cmD)) = .lst (ps.map fun p => toL (cmD p)) := by
      show D.lst (toLs (ps.map cmD)) = _
      rw [toLs_map, List.map_map]
      rfl
    rw [eC]
    refine ⟨_, w, ps, _, rfl, .lists w, fun p => .inr rfl, ok, hin, by omega, by omega, by omega, by omega, ?_⟩
    rw [← hA]
    refine n6 _ _ (seq_gen fun D7 r7 _ _ n7 => ?_)
    clear n6
    simp only [sRaise, sTry, wIsX, wWhat, wBack, lo_lst, e_mulV, sizeL, sNil, sSeq, sPass, sBrk, sCont, sExpr, sRet, sRetN, sIf, sNever, sSet, sAug, gNm, gTp, gNil', gCons', gSb, sAsg, sPar, sFor, wVar_z, wVar_s, wC, wChn, wTru, sPar3, wRev, wCallK, permF, List.filterMap_cons, List.filterMap_nil, wBin, wUn, wTst, wNot, wAnd, wOr, wAndV, wOrV, wNotV, wIf, wNil, wCons, wTup, wLst, wLstL, wFz, wCall, wBi, wMt, wMt0, wSl, wSlL, wPart, wNoPart, wYes, wSeq, wRg1, wRg2, wEnum, wZip, wLc, wLcL, wLRg, wFld, sFldS, sFldA, gFld, wMeth, wMake, lvl2_s, onB, e_eqI, e_neI, e_eqB, e_neB, e_eqS, e_neS, e_eqN, e_tyLT, e_ty1, isTys, tyMem, tyN_non, tyN_bl, tyN_int, tyN_str, tyN_tup, tyN_lst, Bool.true_or, Bool.or_true, Bool.or_false, Bool.false_or, Bool.not_true, Bool.not_false, inn_non, inn_bl, inn_int, inn_str, inn_tup, inn_lst, inn_ptr, e_slT, e_slL, e_slN, isT_P, isT_L, isT_T, isT_N, e_sub, e_fdiv, e_mod, e_pow, e_lt, e_le, e_gt, e_ge, e_neg, e_add, e_addS, e_addT, e_addL, e_addPP, e_addPL, e_addLP, e_mul, e_mulL, e_mulT, e_augI, e_ixT, e_ixL, e_ixN, e_ixP, e_lenT, e_lenL, e_lenN, e_lenS, e_lenP, e_abs, e_intI, e_intB, e_max, e_min, e_tupL, e_tupT, e_listL, e_listT, e_listN, e_listLL, e_listLT, e_divmod, e_isNon, e_isntNon, e_isB, e_isntB, e_setIx, e_insert, e_append, e_isL, e_isLL, e_seqP, e_seqL, e_seqT, e_seqN, it_lst, it_fz, Option.bind_some, Option.isSome_some, ix10, ix20, ix21, ix30, ix32, dl1, dl2, dl3, List.eraseIdx_cons_zero, e_pop0, e_popAt, e_rev, e_clear, e_tupP, e_listP, e_neN, e_neIN, e_neNI, e_eqIN, e_eqNI, at0, at1, at2, at3, Cell.lst.injEq, Cell.obj.injEq, Option.some.injEq, exists_eq_left', decide_eq_true_eq, true_and, and_true, cup_same, cup_cup, wLenSet, wSrtIt, List.flatten_nil, List.flatten_cons, enOf, endOf, excOf, List.map_cons, List.map_nil, List.length_cons, List.length_nil, List.replicate, Nat.reduceAdd, Nat.reduceSub, List.cons_append, List.nil_append, List.set_cons_zero, List.set_cons_succ, List.getElem?_cons_zero, List.getElem?_cons_succ, List.getElem_cons_zero, List.getElem_cons_succ, reduceCtorEq, if_true, if_false, Bool.false_eq_true, decide_true, decide_false, ne_eq, not_true, not_false_eq_true, Int.reduceEq, Nat.reduceMul, true_imp_iff, Int.reduceToNat, Int.reducePow, Nat.reducePow, Int.reduceLE, Int.reduceLT, Nat.reduceLT, and_self, Nat.reduceLeDiff, Int.reduceNeg, Int.reduceAdd, Int.reduceSub, Int.reduceMul, Int.cast_ofNat_Int, lvl_s, wLenSet]
    refine same_of (x := .lst [.lst (A.map wD), .lst (A.map wD)]) (by simp only [pl, pls] at plA ⊢; simp [plA]) (by simp only [dep, deps]; omega) ?_
    try simp only [sRaise, sTry, wIsX, wWhat, wBack, lo_lst, e_mulV, sizeL, sNil, sSeq, sPass, sBrk, sCont, sExpr, sRet, sRetN, sIf, sNever, sSet, sAug, gNm, gTp, gNil', gCons', gSb, sAsg, sPar, sFor, wVar_z, wVar_s, wC, wChn, wTru, sPar3, wRev, wCallK, permF, List.filterMap_cons, List.filterMap_nil, wBin, wUn, wTst, wNot, wAnd, wOr, wAndV, wOrV, wNotV, wIf, wNil, wCons, wTup, wLst, wLstL, wFz, wCall, wBi, wMt, wMt0, wSl, wSlL, wPart, wNoPart, wYes, wSeq, wRg1, wRg2, wEnum, wZip, wLc, wLcL, wLRg, wFld, sFldS, sFldA, gFld, wMeth, wMake, lvl2_s, onB, e_eqI, e_neI, e_eqB, e_neB, e_eqS, e_neS, e_eqN, e_tyLT, e_ty1, isTys, tyMem, tyN_non, tyN_bl, tyN_int, tyN_str, tyN_tup, tyN_lst, Bool.true_or, Bool.or_true, Bool.or_false, Bool.false_or, Bool.not_true, Bool.not_false, inn_non, inn_bl, inn_int, inn_str, inn_tup, inn_lst, inn_ptr, e_slT, e_slL, e_slN, isT_P, isT_L, isT_T, isT_N, e_sub, e_fdiv, e_mod, e_pow, e_lt, e_le, e_gt, e_ge, e_neg, e_add, e_addS, e_addT, e_addL, e_addPP, e_addPL, e_addLP, e_mul, e_mulL, e_mulT, e_augI, e_ixT, e_ixL, e_ixN, e_ixP, e_lenT, e_lenL, e_lenN, e_lenS, e_lenP, e_abs, e_intI, e_intB, e_max, e_min, e_tupL, e_tupT, e_listL, e_listT, e_listN, e_listLL, e_listLT, e_divmod, e_isNon, e_isntNon, e_isB, e_isntB, e_setIx, e_insert, e_append, e_isL, e_isLL, e_seqP, e_seqL, e_seqT, e_seqN, it_lst, it_fz, Option.bind_some, Option.isSome_some, ix10, ix20, ix21, ix30, ix32, dl1, dl2, dl3, List.eraseIdx_cons_zero, e_pop0, e_popAt, e_rev, e_clear, e_tupP, e_listP, e_neN, e_neIN, e_neNI, e_eqIN, e_eqNI, at0, at1, at2, at3, Cell.lst.injEq, Cell.obj.injEq, Option.some.injEq, exists_eq_left', decide_eq_true_eq, true_and, and_true, cup_same, cup_cup, wLenSet, wSrtIt, List.flatten_nil, List.flatten_cons, enOf, endOf, excOf, List.map_cons, List.map_nil, List.length_cons, List.length_nil, List.replicate, Nat.reduceAdd, Nat.reduceSub, List.cons_append, List.nil_append, List.set_cons_zero, List.set_cons_succ, List.getElem?_cons_zero, List.getElem?_cons_succ, List.getElem_cons_zero, List.getElem_cons_succ, reduceCtorEq, if_true, if_false, Bool.false_eq_true, decide_true, decide_false, ne_eq, not_true, not_false_eq_true, Int.reduceEq, Nat.reduceMul, true_imp_iff, Int.reduceToNat, Int.reducePow, Nat.reducePow, Int.reduceLE, Int.reduceLT, Nat.reduceLT, and_self, Nat.reduceLeDiff, Int.reduceNeg, Int.reduceAdd, Int.reduceSub, Int.reduceMul, Int.cast_ofNat_Int, lvl_s]
    obtain ⟨k1, k2, k3, k4⟩ := keysW hAn
    refine ⟨_, A.map keyW, rfl, k1, k2, k3, k4, by rw [List.length_map]; omega, ?_⟩
    rw [if_neg (by simp)]
    try simp only [sRaise, sTry, wIsX, wWhat, wBack, lo_lst, e_mulV, sizeL, sNil, sSeq, sPass, sBrk, sCont, sExpr, sRet, sRetN, sIf, sNever, sSet, sAug, gNm, gTp, gNil', gCons', gSb, sAsg, sPar, sFor, wVar_z, wVar_s, wC, wChn, wTru, sPar3, wRev, wCallK, permF, List.filterMap_cons, List.filterMap_nil, wBin, wUn, wTst, wNot, wAnd, wOr, wAndV, wOrV, wNotV, wIf, wNil, wCons, wTup, wLst, wLstL, wFz, wCall, wBi, wMt, wMt0, wSl, wSlL, wPart, wNoPart, wYes, wSeq, wRg1, wRg2, wEnum, wZip, wLc, wLcL, wLRg, wFld, sFldS, sFldA, gFld, wMeth, wMake, lvl2_s, onB, e_eqI, e_neI, e_eqB, e_neB, e_eqS, e_neS, e_eqN, e_tyLT, e_ty1, isTys, tyMem, tyN_non, tyN_bl, tyN_int, tyN_str, tyN_tup, tyN_lst, Bool.true_or, Bool.or_true, Bool.or_false, Bool.false_or, Bool.not_true, Bool.not_false, inn_non, inn_bl, inn_int, inn_str, inn_tup, inn_lst, inn_ptr, e_slT, e_slL, e_slN, isT_P, isT_L, isT_T, isT_N, e_sub, e_fdiv, e_mod, e_pow, e_lt, e_le, e_gt, e_ge, e_neg, e_add, e_addS, e_addT, e_addL, e_addPP, e_addPL, e_addLP, e_mul, e_mulL, e_mulT, e_augI, e_ixT, e_ixL, e_ixN, e_ixP, e_lenT, e_lenL, e_lenN, e_lenS, e_lenP, e_abs, e_intI, e_intB, e_max, e_min, e_tupL, e_tupT, e_listL, e_listT, e_listN, e_listLL, e_listLT, e_divmod, e_isNon, e_isntNon, e_isB, e_isntB, e_setIx, e_insert, e_append, e_isL, e_isLL, e_seqP, e_seqL, e_seqT, e_seqN, it_lst, it_fz, Option.bind_some, Option.isSome_some, ix10, ix20, ix21, ix30, ix32, dl1, dl2, dl3, List.eraseIdx_cons_zero, e_pop0, e_popAt, e_rev, e_clear, e_tupP, e_listP, e_neN, e_neIN, e_neNI, e_eqIN, e_eqNI, at0, at1, at2, at3, Cell.lst.injEq, Cell.obj.injEq, Option.some.injEq, exists_eq_left', decide_eq_true_eq, true_and, and_true, cup_same, cup_cup, wLenSet, wSrtIt, List.flatten_nil, List.flatten_cons, enOf, endOf, excOf, List.map_cons, List.map_nil, List.length_cons, List.length_nil, List.replicate, Nat.reduceAdd, Nat.reduceSub, List.cons_append, List.nil_append, List.set_cons_zero, List.set_cons_succ, List.getElem?_cons_zero, List.getElem?_cons_succ, List.getElem_cons_zero, List.getElem_cons_succ, reduceCtorEq, if_true, if_false, Bool.false_eq_true, decide_true, decide_false, ne_eq, not_true, not_false_eq_true, Int.reduceEq, Nat.reduceMul, true_imp_iff, Int.reduceToNat, Int.reducePow, Nat.reducePow, Int.reduceLE, Int.reduceLT, Nat.reduceLT, and_self, Nat.reduceLeDiff, Int.reduceNeg, Int.reduceAdd, Int.reduceSub, Int.reduceMul, Int.cast_ofNat_Int, lvl_s]
    refine n7 _ _ (seq_gen fun D8 r8 _ _ n8 => ?_)
    clear n7
    try simp only [sRaise, sTry, wIsX, wWhat, wBack, lo_lst, e_mulV, sizeL, sNil, sSeq, sPass, sBrk, sCont, sExpr, sRet, sRetN, sIf, sNever, sSet, sAug, gNm, gTp, gNil', gCons', gSb, sAsg, sPar, sFor, wVar_z, wVar_s, wC, wChn, wTru, sPar3, wRev, wCallK, permF, List.filterMap_cons, List.filterMap_nil, wBin, wUn, wTst, wNot, wAnd, wOr, wAndV, wOrV, wNotV, wIf, wNil, wCons, wTup, wLst, wLstL, wFz, wCall, wBi, wMt, wMt0, wSl, wSlL, wPart, wNoPart, wYes, wSeq, wRg1, wRg2, wEnum, wZip, wLc, wLcL, wLRg, wFld, sFldS, sFldA, gFld, wMeth, wMake, lvl2_s, onB, e_eqI, e_neI, e_eqB, e_neB, e_eqS, e_neS, e_eqN, e_tyLT, e_ty1, isTys, tyMem, tyN_non, tyN_bl, tyN_int, tyN_str, tyN_tup, tyN_lst, Bool.true_or, Bool.or_true, Bool.or_false, Bool.false_or, Bool.not_true, Bool.not_false, inn_non, inn_bl, inn_int, inn_str, inn_tup, inn_lst, inn_ptr, e_slT, e_slL, e_slN, isT_P, isT_L, isT_T, isT_N, e_sub, e_fdiv, e_mod, e_pow, e_lt, e_le, e_gt, e_ge, e_neg, e_add, e_addS, e_addT, e_addL, e_addPP, e_addPL, e_addLP, e_mul, e_mulL, e_mulT, e_augI, e_ixT, e_ixL, e_ixN, e_ixP, e_lenT, e_lenL, e_lenN, e_lenS, e_lenP, e_abs, e_intI, e_intB, e_max, e_min, e_tupL, e_tupT, e_listL, e_listT, e_listN, e_listLL, e_listLT, e_divmod, e_isNon, e_isntNon, e_isB, e_isntB, e_setIx, e_insert, e_append, e_isL, e_isLL, e_seqP, e_seqL, e_seqT, e_seqN, it_lst, it_fz, Option.bind_some, Option.isSome_some, ix10, ix20, ix21, ix30, ix32, dl1, dl2, dl3, List.eraseIdx_cons_zero, e_pop0, e_popAt, e_rev, e_clear, e_tupP, e_listP, e_neN, e_neIN, e_neNI, e_eqIN, e_eqNI, at0, at1, at2, at3, Cell.lst.injEq, Cell.obj.injEq, Option.some.injEq, exists_eq_left', decide_eq_true_eq, true_and, and_true, cup_same, cup_cup, wLenSet, wSrtIt, List.flatten_nil, List.flatten_cons, enOf, endOf, excOf, List.map_cons, List.map_nil, List.length_cons, List.length_nil, List.replicate, Nat.reduceAdd, Nat.reduceSub, List.cons_append, List.nil_append, List.set_cons_zero, List.set_cons_succ, List.getElem?_cons_zero, List.getElem?_cons_succ, List.getElem_cons_zero, List.getElem_cons_succ, reduceCtorEq, if_true, if_false, Bool.false_eq_true, decide_true, decide_false, ne_eq, not_true, not_false_eq_true, Int.reduceEq, Nat.reduceMul, true_imp_iff, Int.reduceToNat, Int.reducePow, Nat.reducePow, Int.reduceLE, Int.reduceLT, Nat.reduceLT, and_self, Nat.reduceLeDiff, Int.reduceNeg, Int.reduceAdd, Int.reduceSub, Int.reduceMul, Int.cast_ofNat_Int, lvl_s]
    refine fun hz => ⟨hz, lcP wD (fun pre acc c7 => (∀ y ∈ acc, y = D.bl true) ∧ CLe c4 c7) ⟨by simp, CLe.refl _⟩ ?_ ?_⟩
    · rintro pre b post acc c5 hs ⟨hacc, l5⟩
      obtain ⟨a0, a1, a2, okb⟩ := hAx b (by rw [hs]; simp)
      refine ⟨trivial, _, rfl, fun Nx kk => ?_⟩
      try simp only [ewipe, sRaise, sTry, wIsX, wWhat, wBack, lo_lst, e_mulV, sizeL, sNil, sSeq, sPass, sBrk, sCont, sExpr, sRet, sRetN, sIf, sNever, sSet, sAug, gNm, gTp, gNil', gCons', gSb, sAsg, sPar, sFor, wVar_z, wVar_s, wC, wChn, wTru, sPar3, wRev, wCallK, permF, List.filterMap_cons, List.filterMap_nil, wBin, wUn, wTst, wNot, wAnd, wOr, wAndV, wOrV, wNotV, wIf, wNil, wCons, wTup, wLst, wLstL, wFz, wCall, wBi, wMt, wMt0, wSl, wSlL, wPart, wNoPart, wYes, wSeq, wRg1, wRg2, wEnum, wZip, wLc, wLcL, wLRg, wFld, sFldS, sFldA, gFld, wMeth, wMake, lvl2_s, onB, e_eqI, e_neI, e_eqB, e_neB, e_eqS, e_neS, e_eqN, e_tyLT, e_ty1, isTys, tyMem, tyN_non, tyN_bl, tyN_int, tyN_str, tyN_tup, tyN_lst, Bool.true_or, Bool.or_true, Bool.or_false, Bool.false_or, Bool.not_true, Bool.not_false, inn_non, inn_bl, inn_int, inn_str, inn_tup, inn_lst, inn_ptr, e_slT, e_slL, e_slN, isT_P, isT_L, isT_T, isT_N, e_sub, e_fdiv, e_mod, e_pow, e_lt, e_le, e_gt, e_ge, e_neg, e_add, e_addS, e_addT, e_addL, e_addPP, e_addPL, e_addLP, e_mul, e_mulL, e_mulT, e_augI, e_ixT, e_ixL, e_ixN, e_ixP, e_lenT, e_lenL, e_lenN, e_lenS, e_lenP, e_abs, e_intI, e_intB, e_max, e_min, e_tupL, e_tupT, e_listL, e_listT, e_listN, e_listLL, e_listLT, e_divmod, e_isNon, e_isntNon, e_isB, e_isntB, e_setIx, e_insert, e_append, e_isL, e_isLL, e_seqP, e_seqL, e_seqT, e_seqN, it_lst, it_fz, Option.bind_some, Option.isSome_some, ix10, ix20, ix21, ix30, ix32, dl1, dl2, dl3, List.eraseIdx_cons_zero, e_pop0, e_popAt, e_rev, e_clear, e_tupP, e_listP, e_neN, e_neIN, e_neNI, e_eqIN, e_eqNI, at0, at1, at2, at3, Cell.lst.injEq, Cell.obj.injEq, Option.some.injEq, exists_eq_left', decide_eq_true_eq, true_and, and_true, cup_same, cup_cup, wLenSet, wSrtIt, List.flatten_nil, List.flatten_cons, enOf, endOf, excOf, List.map_cons, List.map_nil, List.length_cons, List.length_nil, List.replicate, Nat.reduceAdd, Nat.reduceSub, List.cons_append, List.nil_append, List.set_cons_zero, List.set_cons_succ, List.getElem?_cons_zero, List.getElem?_cons_succ, List.getElem_cons_zero, List.getElem_cons_succ, reduceCtorEq, if_true, if_false, Bool.false_eq_true, decide_true, decide_false, ne_eq, not_true, not_false_eq_true, Int.reduceEq, Nat.reduceMul, true_imp_iff, Int.reduceToNat, Int.reducePow, Nat.reducePow, Int.reduceLE, Int.reduceLT, Nat.reduceLT, and_self, Nat.reduceLeDiff, Int.reduceNeg, Int.reduceAdd, Int.reduceSub, Int.reduceMul, Int.cast_ofNat_Int, lvl_s]
      refine ⟨_, b, _, ps, rfl, .self b, cs_cm84 ps, fun q hq => by obtain ⟨h1, h2⟩ := hin q hq; exact ⟨by omega, by omega⟩, by omega, by omega, by omega, by omega, fun a c6 ha l6 hc6 => ?_⟩
      try simp only [sRaise, sTry, wIsX, wWhat, wBack, lo_lst, e_mulV, sizeL, sNil, sSeq, sPass, sBrk, sCont, sExpr, sRet, sRetN, sIf, sNever, sSet, sAug, gNm, gTp, gNil', gCons', gSb, sAsg, sPar, sFor, wVar_z, wVar_s, wC, wChn, wTru, sPar3, wRev, wCallK, permF, List.filterMap_cons, List.filterMap_nil, wBin, wUn, wTst, wNot, wAnd, wOr, wAndV, wOrV, wNotV, wIf, wNil, wCons, wTup, wLst, wLstL, wFz, wCall, wBi, wMt, wMt0, wSl, wSlL, wPart, wNoPart, wYes, wSeq, wRg1, wRg2, wEnum, wZip, wLc, wLcL, wLRg, wFld, sFldS, sFldA, gFld, wMeth, wMake, lvl2_s, onB, e_eqI, e_neI, e_eqB, e_neB, e_eqS, e_neS, e_eqN, e_tyLT, e_ty1, isTys, tyMem, tyN_non, tyN_bl, tyN_int, tyN_str, tyN_tup, tyN_lst, Bool.true_or, Bool.or_true, Bool.or_false, Bool.false_or, Bool.not_true, Bool.not_false, inn_non, inn_bl, inn_int, inn_str, inn_tup, inn_lst, inn_ptr, e_slT, e_slL, e_slN, isT_P, isT_L, isT_T, isT_N, e_sub, e_fdiv, e_mod, e_pow, e_lt, e_le, e_gt, e_ge, e_neg, e_add, e_addS, e_addT, e_addL, e_addPP, e_addPL, e_addLP, e_mul, e_mulL, e_mulT, e_augI, e_ixT, e_ixL, e_ixN, e_ixP, e_lenT, e_lenL, e_lenN, e_lenS, e_lenP, e_abs, e_intI, e_intB, e_max, e_min, e_tupL, e_tupT, e_listL, e_listT, e_listN, e_listLL, e_listLT, e_divmod, e_isNon, e_isntNon, e_isB, e_isntB, e_setIx, e_insert, e_append, e_isL, e_isLL, e_seqP, e_seqL, e_seqT, e_seqN, it_lst, it_fz, Option.bind_some, Option.isSome_some, ix10, ix20, ix21, ix30, ix32, dl1, dl2, dl3, List.eraseIdx_cons_zero, e_pop0, e_popAt, e_rev, e_clear, e_tupP, e_listP, e_neN, e_neIN, e_neNI, e_eqIN, e_eqNI, at0, at1, at2, at3, Cell.lst.injEq, Cell.obj.injEq, Option.some.injEq, exists_eq_left', decide_eq_true_eq, true_and, and_true, cup_same, cup_cup, wLenSet, wSrtIt, List.flatten_nil, List.flatten_cons, enOf, endOf, excOf, List.map_cons, List.map_nil, List.length_cons, List.length_nil, List.replicate, Nat.reduceAdd, Nat.reduceSub, List.cons_append, List.nil_append, List.set_cons_zero, List.set_cons_succ, List.getElem?_cons_zero, List.getElem?_cons_succ, List.getElem_cons_zero, List.getElem_cons_succ, reduceCtorEq, if_true, if_false, Bool.false_eq_true, decide_true, decide_false, ne_eq, not_true, not_false_eq_true, Int.reduceEq, Nat.reduceMul, true_imp_iff, Int.reduceToNat, Int.reducePow, Nat.reducePow, Int.reduceLE, Int.reduceLT, Nat.reduceLT, and_self, Nat.reduceLeDiff, Int.reduceNeg, Int.reduceAdd, Int.reduceSub, Int.reduceMul, Int.cast_ofNat_Int, lvl_s]
      rw [a0]
      refine same_of (pl_wD w) (by have := dep_wD w; omega) ?_
      exact kk _ _ ⟨fun y hy => (List.mem_append.mp hy).elim (hacc y) fun h => by rw [List.mem_singleton.mp h], l5.trans l6⟩
    rintro acc c5 ⟨hacc, l5⟩
    refine ⟨trivial, e_allT hacc ?_⟩
    try simp only [sRaise, sTry, wIsX, wWhat, wBack, lo_lst, e_mulV, sizeL, sNil, sSeq, sPass, sBrk, sCont, sExpr, sRet, sRetN, sIf, sNever, sSet, sAug, gNm, gTp, gNil', gCons', gSb, sAsg, sPar, sFor, wVar_z, wVar_s, wC, wChn, wTru, sPar3, wRev, wCallK, permF, List.filterMap_cons, List.filterMap_nil, wBin, wUn, wTst, wNot, wAnd, wOr, wAndV, wOrV, wNotV, wIf, wNil, wCons, wTup, wLst, wLstL, wFz, wCall, wBi, wMt, wMt0, wSl, wSlL, wPart, wNoPart, wYes, wSeq, wRg1, wRg2, wEnum, wZip, wLc, wLcL, wLRg, wFld, sFldS, sFldA, gFld, wMeth, wMake, lvl2_s, onB, e_eqI, e_neI, e_eqB, e_neB, e_eqS, e_neS, e_eqN, e_tyLT, e_ty1, isTys, tyMem, tyN_non, tyN_bl, tyN_int, tyN_str, tyN_tup, tyN_lst, Bool.true_or, Bool.or_true, Bool.or_false, Bool.false_or, Bool.not_true, Bool.not_false, inn_non, inn_bl, inn_int, inn_str, inn_tup, inn_lst, inn_ptr, e_slT, e_slL, e_slN, isT_P, isT_L, isT_T, isT_N, e_sub, e_fdiv, e_mod, e_pow, e_lt, e_le, e_gt, e_ge, e_neg, e_add, e_addS, e_addT, e_addL, e_addPP, e_addPL, e_addLP, e_mul, e_mulL, e_mulT, e_augI, e_ixT, e_ixL, e_ixN, e_ixP, e_lenT, e_lenL, e_lenN, e_lenS, e_lenP, e_abs, e_intI, e_intB, e_max, e_min, e_tupL, e_tupT, e_listL, e_listT, e_listN, e_listLL, e_listLT, e_divmod, e_isNon, e_isntNon, e_isB, e_isntB, e_setIx, e_insert, e_append, e_isL, e_isLL, e_seqP, e_seqL, e_seqT, e_seqN, it_lst, it_fz, Option.bind_some, Option.isSome_some, ix10, ix20, ix21, ix30, ix32, dl1, dl2, dl3, List.eraseIdx_cons_zero, e_pop0, e_popAt, e_rev, e_clear, e_tupP, e_listP, e_neN, e_neIN, e_neNI, e_eqIN, e_eqNI, at0, at1, at2, at3, Cell.lst.injEq, Cell.obj.injEq, Option.some.injEq, exists_eq_left', decide_eq_true_eq, true_and, and_true, cup_same, cup_cup, wLenSet, wSrtIt, List.flatten_nil, List.flatten_cons, enOf, endOf, excOf, List.map_cons, List.map_nil, List.length_cons, List.length_nil, List.replicate, Nat.reduceAdd, Nat.reduceSub, List.cons_append, List.nil_append, List.set_cons_zero, List.set_cons_succ, List.getElem?_cons_zero, List.getElem?_cons_succ, List.getElem_cons_zero, List.getElem_cons_succ, reduceCtorEq, if_true, if_false, Bool.false_eq_true, decide_true, decide_false, ne_eq, not_true, not_false_eq_true, Int.reduceEq, Nat.reduceMul, true_imp_iff, Int.reduceToNat, Int.reducePow, Nat.reducePow, Int.reduceLE, Int.reduceLT, Nat.reduceLT, and_self, Nat.reduceLeDiff, Int.reduceNeg, Int.reduceAdd, Int.reduceSub, Int.reduceMul, Int.cast_ofNat_Int, lvl_s]
    refine n8 _ _ (seq_gen fun D9 r9 _ _ n9 => ?_)
    clear n8
    have u5 := u4.cle l5
    try simp only [sRaise, sTry, wIsX, wWhat, wBack, lo_lst, e_mulV, sizeL, sNil, sSeq, sPass, sBrk, sCont, sExpr, sRet, sRetN, sIf, sNever, sSet, sAug, gNm, gTp, gNil', gCons', gSb, sAsg, sPar, sFor, wVar_z, wVar_s, wC, wChn, wTru, sPar3, wRev, wCallK, permF, List.filterMap_cons, List.filterMap_nil, wBin, wUn, wTst, wNot, wAnd, wOr, wAndV, wOrV, wNotV, wIf, wNil, wCons, wTup, wLst, wLstL, wFz, wCall, wBi, wMt, wMt0, wSl, wSlL, wPart, wNoPart, wYes, wSeq, wRg1, wRg2, wEnum, wZip, wLc, wLcL, wLRg, wFld, sFldS, sFldA, gFld, wMeth, wMake, lvl2_s, onB, e_eqI, e_neI, e_eqB, e_neB, e_eqS, e_neS, e_eqN, e_tyLT, e_ty1, isTys, tyMem, tyN_non, tyN_bl, tyN_int, tyN_str, tyN_tup, tyN_lst, Bool.true_or, Bool.or_true, Bool.or_false, Bool.false_or, Bool.not_true, Bool.not_false, inn_non, inn_bl, inn_int, inn_str, inn_tup, inn_lst, inn_ptr, e_slT, e_slL, e_slN, isT_P, isT_L, isT_T, isT_N, e_sub, e_fdiv, e_mod, e_pow, e_lt, e_le, e_gt, e_ge, e_neg, e_add, e_addS, e_addT, e_addL, e_addPP, e_addPL, e_addLP, e_mul, e_mulL, e_mulT, e_augI, e_ixT, e_ixL, e_ixN, e_ixP, e_lenT, e_lenL, e_lenN, e_lenS, e_lenP, e_abs, e_intI, e_intB, e_max, e_min, e_tupL, e_tupT, e_listL, e_listT, e_listN, e_listLL, e_listLT, e_divmod, e_isNon, e_isntNon, e_isB, e_isntB, e_setIx, e_insert, e_append, e_isL, e_isLL, e_seqP, e_seqL, e_seqT, e_seqN, it_lst, it_fz, Option.bind_some, Option.isSome_some, ix10, ix20, ix21, ix30, ix32, dl1, dl2, dl3, List.eraseIdx_cons_zero, e_pop0, e_popAt, e_rev, e_clear, e_tupP, e_listP, e_neN, e_neIN, e_neNI, e_eqIN, e_eqNI, at0, at1, at2, at3, Cell.lst.injEq, Cell.obj.injEq, Option.some.injEq, exists_eq_left', decide_eq_true_eq, true_and, and_true, cup_same, cup_cup, wLenSet, wSrtIt, List.flatten_nil, List.flatten_cons, enOf, endOf, excOf, List.map_cons, List.map_nil, List.length_cons, List.length_nil, List.replicate, Nat.reduceAdd, Nat.reduceSub, List.cons_append, List.nil_append, List.set_cons_zero, List.set_cons_succ, List.getElem?_cons_zero, List.getElem?_cons_succ, List.getElem_cons_zero, List.getElem_cons_succ, reduceCtorEq, if_true, if_false, Bool.false_eq_true, decide_true, decide_false, ne_eq, not_true, not_false_eq_true, Int.reduceEq, Nat.reduceMul, true_imp_iff, Int.reduceToNat, Int.reducePow, Nat.reducePow, Int.reduceLE, Int.reduceLT, Nat.reduceLT, and_self, Nat.reduceLeDiff, Int.reduceNeg, Int.reduceAdd, Int.reduceSub, Int.reduceMul, Int.cast_ofNat_Int, lvl_s]
    refine ⟨_, w0, _, ps, rfl, .self w0, cs_cm84 ps, hin0', by omega, by omega, by omega, by omega, fun a c6 ha l6 hc6 => ?_⟩
    have u6 := u5.cle l6
    have fG := (wD_fine (gone_ok ok0 hin0') (by rw [(gone_same hin0').gran]; omega) (by rw [(gone_same hin0').cart]; omega)).1
    have fW0 := (wD_fine ok0 (by omega) (by omega)).1
    have fA : ∀ a ∈ A, fine (wD a) = true := fun a ha => by obtain ⟨_, a1, a2, oka⟩ := hAx a ha; exact (wD_fine oka (by omega) (by omega)).1
    have next : D9.nx [some (.ptr p), some (wD w0), some (.lst (ps.map cmD)), some (wD w), some (.lst (A.map wD)), o5, some (.lst [.lst (A.map wD), .lst (A.map wD)]), none, none, none, o10, o11, none, none] c6 := by
      refine n9 _ _ (seq_gen fun D10 r10 _ _ n10 => ?_)
      clear n9
      try simp only [sRaise, sTry, wIsX, wWhat, wBack, lo_lst, e_mulV, sizeL, sNil, sSeq, sPass, sBrk, sCont, sExpr, sRet, sRetN, sIf, sNever, sSet, sAug, gNm, gTp, gNil', gCons', gSb, sAsg, sPar, sFor, wVar_z, wVar_s, wC, wChn, wTru, sPar3, wRev, wCallK, permF, List.filterMap_cons, List.filterMap_nil, wBin, wUn, wTst, wNot, wAnd, wOr, wAndV, wOrV, wNotV, wIf, wNil, wCons, wTup, wLst, wLstL, wFz, wCall, wBi, wMt, wMt0, wSl, wSlL, wPart, wNoPart, wYes, wSeq, wRg1, wRg2, wEnum, wZip, wLc, wLcL, wLRg, wFld, sFldS, sFldA, gFld, wMeth, wMake, lvl2_s, onB, e_eqI, e_neI, e_eqB, e_neB, e_eqS, e_neS, e_eqN, e_tyLT, e_ty1, isTys, tyMem, tyN_non, tyN_bl, tyN_int, tyN_str, tyN_tup, tyN_lst, Bool.true_or, Bool.or_true, Bool.or_false, Bool.false_or, Bool.not_true, Bool.not_false, inn_non, inn_bl, inn_int, inn_str, inn_tup, inn_lst, inn_ptr, e_slT, e_slL, e_slN, isT_P, isT_L, isT_T, isT_N, e_sub, e_fdiv, e_mod, e_pow, e_lt, e_le, e_gt, e_ge, e_neg, e_add, e_addS, e_addT, e_addL, e_addPP, e_addPL, e_addLP, e_mul, e_mulL, e_mulT, e_augI, e_ixT, e_ixL, e_ixN, e_ixP, e_lenT, e_lenL, e_lenN, e_lenS, e_lenP, e_abs, e_intI, e_intB, e_max, e_min, e_tupL, e_tupT, e_listL, e_listT, e_listN, e_listLL, e_listLT, e_divmod, e_isNon, e_isntNon, e_isB, e_isntB, e_setIx, e_insert, e_append, e_isL, e_isLL, e_seqP, e_seqL, e_seqT, e_seqN, it_lst, it_fz, Option.bind_some, Option.isSome_some, ix10, ix20, ix21, ix30, ix32, dl1, dl2, dl3, List.eraseIdx_cons_zero, e_pop0, e_popAt, e_rev, e_clear, e_tupP, e_listP, e_neN, e_neIN, e_neNI, e_eqIN, e_eqNI, at0, at1, at2, at3, Cell.lst.injEq, Cell.obj.injEq, Option.some.injEq, exists_eq_left', decide_eq_true_eq, true_and, and_true, cup_same, cup_cup, wLenSet, wSrtIt, List.flatten_nil, List.flatten_cons, enOf, endOf, excOf, List.map_cons, List.map_nil, List.length_cons, List.length_nil, List.replicate, Nat.reduceAdd, Nat.reduceSub, List.cons_append, List.nil_append, List.set_cons_zero, List.set_cons_succ, List.getElem?_cons_zero, List.getElem?_cons_succ, List.getElem_cons_zero, List.getElem_cons_succ, reduceCtorEq, if_true, if_false, Bool.false_eq_true, decide_true, decide_false, ne_eq, not_true, not_false_eq_true, Int.reduceEq, Nat.reduceMul, true_imp_iff, Int.reduceToNat, Int.reducePow, Nat.reducePow, Int.reduceLE, Int.reduceLT, Nat.reduceLT, and_self, Nat.reduceLeDiff, Int.reduceNeg, Int.reduceAdd, Int.reduceSub, Int.reduceMul, Int.cast_ofNat_Int, lvl_s]
      simp only [List.length_map]
      refine take_us (by omega) (by omega) (by omega) u6.1 (by omega) fun ct c7 ct0 ct1 u7 => ?_
      have u67 := u6.trans u7
      obtain ⟨C, rfl⟩ : ∃ C : Nat, ct = (C : Int) := ⟨ct.toNat, by omega⟩
      refine n10 _ _ (seq_gen fun D11 r11 _ _ n11 => ?_)
      clear n10
      try simp only [sRaise, sTry, wIsX, wWhat, wBack, lo_lst, e_mulV, sizeL, sNil, sSeq, sPass, sBrk, sCont, sExpr, sRet, sRetN, sIf, sNever, sSet, sAug, gNm, gTp, gNil', gCons', gSb, sAsg, sPar, sFor, wVar_z, wVar_s, wC, wChn, wTru, sPar3, wRev, wCallK, permF, List.filterMap_cons, List.filterMap_nil, wBin, wUn, wTst, wNot, wAnd, wOr, wAndV, wOrV, wNotV, wIf, wNil, wCons, wTup, wLst, wLstL, wFz, wCall, wBi, wMt, wMt0, wSl, wSlL, wPart, wNoPart, wYes, wSeq, wRg1, wRg2, wEnum, wZip, wLc, wLcL, wLRg, wFld, sFldS, sFldA, gFld, wMeth, wMake, lvl2_s, onB, e_eqI, e_neI, e_eqB, e_neB, e_eqS, e_neS, e_eqN, e_tyLT, e_ty1, isTys, tyMem, tyN_non, tyN_bl, tyN_int, tyN_str, tyN_tup, tyN_lst, Bool.true_or, Bool.or_true, Bool.or_false, Bool.false_or, Bool.not_true, Bool.not_false, inn_non, inn_bl, inn_int, inn_str, inn_tup, inn_lst, inn_ptr, e_slT, e_slL, e_slN, isT_P, isT_L, isT_T, isT_N, e_sub, e_fdiv, e_mod, e_pow, e_lt, e_le, e_gt, e_ge, e_neg, e_add, e_addS, e_addT, e_addL, e_addPP, e_addPL, e_addLP, e_mul, e_mulL, e_mulT, e_augI, e_ixT, e_ixL, e_ixN, e_ixP, e_lenT, e_lenL, e_lenN, e_lenS, e_lenP, e_abs, e_intI, e_intB, e_max, e_min, e_tupL, e_tupT, e_listL, e_listT, e_listN, e_listLL, e_listLT, e_divmod, e_isNon, e_isntNon, e_isB, e_isntB, e_setIx, e_insert, e_append, e_isL, e_isLL, e_seqP, e_seqL, e_seqT, e_seqN, it_lst, it_fz, Option.bind_some, Option.isSome_some, ix10, ix20, ix21, ix30, ix32, dl1, dl2, dl3, List.eraseIdx_cons_zero, e_pop0, e_popAt, e_rev, e_clear, e_tupP, e_listP, e_neN, e_neIN, e_neNI, e_eqIN, e_eqNI, at0, at1, at2, at3, Cell.lst.injEq, Cell.obj.injEq, Option.some.injEq, exists_eq_left', decide_eq_true_eq, true_and, and_true, cup_same, cup_cup, wLenSet, wSrtIt, List.flatten_nil, List.flatten_cons, enOf, endOf, excOf, List.map_cons, List.map_nil, List.length_cons, List.length_nil, List.replicate, Nat.reduceAdd, Nat.reduceSub, List.cons_append, List.nil_append, List.set_cons_zero, List.set_cons_succ, List.getElem?_cons_zero, List.getElem?_cons_succ, List.getElem_cons_zero, List.getElem_cons_succ, reduceCtorEq, if_true, if_false, Bool.false_eq_true, decide_true, decide_false, ne_eq, not_true, not_false_eq_true, Int.reduceEq, Nat.reduceMul, true_imp_iff, Int.reduceToNat, Int.reducePow, Nat.reducePow, Int.reduceLE, Int.reduceLT, Nat.reduceLT, and_self, Nat.reduceLeDiff, Int.reduceNeg, Int.reduceAdd, Int.reduceSub, Int.reduceMul, Int.cast_ofNat_Int, lvl_s]
      refine n11 _ _ (seq_gen fun D12 r12 _ _ n12 => ?_)
      clear n11
      try simp only [sRaise, sTry, wIsX, wWhat, wBack, lo_lst, e_mulV, sizeL, sNil, sSeq, sPass, sBrk, sCont, sExpr, sRet, sRetN, sIf, sNever, sSet, sAug, gNm, gTp, gNil', gCons', gSb, sAsg, sPar, sFor, wVar_z, wVar_s, wC, wChn, wTru, sPar3, wRev, wCallK, permF, List.filterMap_cons, List.filterMap_nil, wBin, wUn, wTst, wNot, wAnd, wOr, wAndV, wOrV, wNotV, wIf, wNil, wCons, wTup, wLst, wLstL, wFz, wCall, wBi, wMt, wMt0, wSl, wSlL, wPart, wNoPart, wYes, wSeq, wRg1, wRg2, wEnum, wZip, wLc, wLcL, wLRg, wFld, sFldS, sFldA, gFld, wMeth, wMake, lvl2_s, onB, e_eqI, e_neI, e_eqB, e_neB, e_eqS, e_neS, e_eqN, e_tyLT, e_ty1, isTys, tyMem, tyN_non, tyN_bl, tyN_int, tyN_str, tyN_tup, tyN_lst, Bool.true_or, Bool.or_true, Bool.or_false, Bool.false_or, Bool.not_true, Bool.not_false, inn_non, inn_bl, inn_int, inn_str, inn_tup, inn_lst, inn_ptr, e_slT, e_slL, e_slN, isT_P, isT_L, isT_T, isT_N, e_sub, e_fdiv, e_mod, e_pow, e_lt, e_le, e_gt, e_ge, e_neg, e_add, e_addS, e_addT, e_addL, e_addPP, e_addPL, e_addLP, e_mul, e_mulL, e_mulT, e_augI, e_ixT, e_ixL, e_ixN, e_ixP, e_lenT, e_lenL, e_lenN, e_lenS, e_lenP, e_abs, e_intI, e_intB, e_max, e_min, e_tupL, e_tupT, e_listL, e_listT, e_listN, e_listLL, e_listLT, e_divmod, e_isNon, e_isntNon, e_isB, e_isntB, e_setIx, e_insert, e_append, e_isL, e_isLL, e_seqP, e_seqL, e_seqT, e_seqN, it_lst, it_fz, Option.bind_some, Option.isSome_some, ix10, ix20, ix21, ix30, ix32, dl1, dl2, dl3, List.eraseIdx_cons_zero, e_pop0, e_popAt, e_rev, e_clear, e_tupP, e_listP, e_neN, e_neIN, e_neNI, e_eqIN, e_eqNI, at0, at1, at2, at3, Cell.lst.injEq, Cell.obj.injEq, Option.some.injEq, exists_eq_left', decide_eq_true_eq, true_and, and_true, cup_same, cup_cup, wLenSet, wSrtIt, List.flatten_nil, List.flatten_cons, enOf, endOf, excOf, List.map_cons, List.map_nil, List.length_cons, List.length_nil, List.replicate, Nat.reduceAdd, Nat.reduceSub, List.cons_append, List.nil_append, List.set_cons_zero, List.set_cons_succ, List.getElem?_cons_zero, List.getElem?_cons_succ, List.getElem_cons_zero, List.getElem_cons_succ, reduceCtorEq, if_true, if_false, Bool.false_eq_true, decide_true, decide_false, ne_eq, not_true, not_false_eq_true, Int.reduceEq, Nat.reduceMul, true_imp_iff, Int.reduceToNat, Int.reducePow, Nat.reducePow, Int.reduceLE, Int.reduceLT, Nat.reduceLT, and_self, Nat.reduceLeDiff, Int.reduceNeg, Int.reduceAdd, Int.reduceSub, Int.reduceMul, Int.cast_ofNat_Int, lvl_s]
      rw [cutL_map, cutL_from (by omega), Int.toNat_natCast]
      have hinD : within w (ps.drop C) := fun q hq => hin q (List.mem_of_mem_drop hq)
      have hdl : (ps.drop C).length ≤ 6 := by rw [List.length_drop]; omega
      have htl : (ps.take C).length ≤ 6 := by rw [List.length_take]; omega
      refine ⟨wD w, w, ps.drop C, cmD, rfl, .self w, fun p => .inl rfl, ok, hinD, by omega, by omega, by omega, by omega, ?_⟩
      try simp only [sRaise, sTry, wIsX, wWhat, wBack, lo_lst, e_mulV, sizeL, sNil, sSeq, sPass, sBrk, sCont, sExpr, sRet, sRetN, sIf, sNever, sSet, sAug, gNm, gTp, gNil', gCons', gSb, sAsg, sPar, sFor, wVar_z, wVar_s, wC, wChn, wTru, sPar3, wRev, wCallK, permF, List.filterMap_cons, List.filterMap_nil, wBin, wUn, wTst, wNot, wAnd, wOr, wAndV, wOrV, wNotV, wIf, wNil, wCons, wTup, wLst, wLstL, wFz, wCall, wBi, wMt, wMt0, wSl, wSlL, wPart, wNoPart, wYes, wSeq, wRg1, wRg2, wEnum, wZip, wLc, wLcL, wLRg, wFld, sFldS, sFldA, gFld, wMeth, wMake, lvl2_s, onB, e_eqI, e_neI, e_eqB, e_neB, e_eqS, e_neS, e_eqN, e_tyLT, e_ty1, isTys, tyMem, tyN_non, tyN_bl, tyN_int, tyN_str, tyN_tup, tyN_lst, Bool.true_or, Bool.or_true, Bool.or_false, Bool.false_or, Bool.not_true, Bool.not_false, inn_non, inn_bl, inn_int, inn_str, inn_tup, inn_lst, inn_ptr, e_slT, e_slL, e_slN, isT_P, isT_L, isT_T, isT_N, e_sub, e_fdiv, e_mod, e_pow, e_lt, e_le, e_gt, e_ge, e_neg, e_add, e_addS, e_addT, e_addL, e_addPP, e_addPL, e_addLP, e_mul, e_mulL, e_mulT, e_augI, e_ixT, e_ixL, e_ixN, e_ixP, e_lenT, e_lenL, e_lenN, e_lenS, e_lenP, e_abs, e_intI, e_intB, e_max, e_min, e_tupL, e_tupT, e_listL, e_listT, e_listN, e_listLL, e_listLT, e_divmod, e_isNon, e_isntNon, e_isB, e_isntB, e_setIx, e_insert, e_append, e_isL, e_isLL, e_seqP, e_seqL, e_seqT, e_seqN, it_lst, it_fz, Option.bind_some, Option.isSome_some, ix10, ix20, ix21, ix30, ix32, dl1, dl2, dl3, List.eraseIdx_cons_zero, e_pop0, e_popAt, e_rev, e_clear, e_tupP, e_listP, e_neN, e_neIN, e_neNI, e_eqIN, e_eqNI, at0, at1, at2, at3, Cell.lst.injEq, Cell.obj.injEq, Option.some.injEq, exists_eq_left', decide_eq_true_eq, true_and, and_true, cup_same, cup_cup, wLenSet, wSrtIt, List.flatten_nil, List.flatten_cons, enOf, endOf, excOf, List.map_cons, List.map_nil, List.length_cons, List.length_nil, List.replicate, Nat.reduceAdd, Nat.reduceSub, List.cons_append, List.nil_append, List.set_cons_zero, List.set_cons_succ, List.getElem?_cons_zero, List.getElem?_cons_succ, List.getElem_cons_zero, List.getElem_cons_succ, reduceCtorEq, if_true, if_false, Bool.false_eq_true, decide_true, decide_false, ne_eq, not_true, not_false_eq_true, Int.reduceEq, Nat.reduceMul, true_imp_iff, Int.reduceToNat, Int.reducePow, Nat.reducePow, Int.reduceLE, Int.reduceLT, Nat.reduceLT, and_self, Nat.reduceLeDiff, Int.reduceNeg, Int.reduceAdd, Int.reduceSub, Int.reduceMul, Int.cast_ofNat_Int, lvl_s]
      intro _
      have hBl : (allA w (ps.drop C)).length ≤ 729 := Nat.le_trans (allA_len w _) (Nat.pow_le_pow_right (by decide) hdl)
      have hcut : A = (allA w (ps.drop C)).flatMap fun m => allA m (ps.take C) := by
        rw [hA]
        conv => lhs; rw [← List.take_append_drop C ps]
        rw [allA_app]
      refine loopP wD (fun pre en c' => (∃ o9, en = [some (.ptr p), some (wD w0), some (.lst (ps.map cmD)), some (wD w), some (.lst (A.map wD)), o5, some (.lst [.lst (A.map wD), .lst (A.map wD)]), some (.int C), some (.lst ((pre.flatMap fun m => allA m (ps.take C)).map wD)), o9, o10, o11, none, none]) ∧ c' = c7) ⟨⟨_, rfl⟩, rfl⟩ ?_ ?_
      · rintro pre m post en c' hs ⟨⟨o9, rfl⟩, rfl⟩
        refine ⟨trivial, _, rfl, fun D13 st => ?_⟩
        obtain ⟨_, a1, a2, okm⟩ := allA_leads ok hinD m (by rw [hs]; simp)
        have hsplit : A = (pre.flatMap fun m => allA m (ps.take C)) ++ (allA m (ps.take C) ++ post.flatMap fun m => allA m (ps.take C)) := by
          rw [hcut, hs, List.flatMap_append, List.flatMap_cons]
        have hlens := congrArg List.length hsplit
        rw [List.length_append, List.length_append] at hlens
        try simp only [sRaise, sTry, wIsX, wWhat, wBack, lo_lst, e_mulV, sizeL, sNil, sSeq, sPass, sBrk, sCont, sExpr, sRet, sRetN, sIf, sNever, sSet, sAug, gNm, gTp, gNil', gCons', gSb, sAsg, sPar, sFor, wVar_z, wVar_s, wC, wChn, wTru, sPar3, wRev, wCallK, permF, List.filterMap_cons, List.filterMap_nil, wBin, wUn, wTst, wNot, wAnd, wOr, wAndV, wOrV, wNotV, wIf, wNil, wCons, wTup, wLst, wLstL, wFz, wCall, wBi, wMt, wMt0, wSl, wSlL, wPart, wNoPart, wYes, wSeq, wRg1, wRg2, wEnum, wZip, wLc, wLcL, wLRg, wFld, sFldS, sFldA, gFld, wMeth, wMake, lvl2_s, onB, e_eqI, e_neI, e_eqB, e_neB, e_eqS, e_neS, e_eqN, e_tyLT, e_ty1, isTys, tyMem, tyN_non, tyN_bl, tyN_int, tyN_str, tyN_tup, tyN_lst, Bool.true_or, Bool.or_true, Bool.or_false, Bool.false_or, Bool.not_true, Bool.not_false, inn_non, inn_bl, inn_int, inn_str, inn_tup, inn_lst, inn_ptr, e_slT, e_slL, e_slN, isT_P, isT_L, isT_T, isT_N, e_sub, e_fdiv, e_mod, e_pow, e_lt, e_le, e_gt, e_ge, e_neg, e_add, e_addS, e_addT, e_addL, e_addPP, e_addPL, e_addLP, e_mul, e_mulL, e_mulT, e_augI, e_ixT, e_ixL, e_ixN, e_ixP, e_lenT, e_lenL, e_lenN, e_lenS, e_lenP, e_abs, e_intI, e_intB, e_max, e_min, e_tupL, e_tupT, e_listL, e_listT, e_listN, e_listLL, e_listLT, e_divmod, e_isNon, e_isntNon, e_isB, e_isntB, e_setIx, e_insert, e_append, e_isL, e_isLL, e_seqP, e_seqL, e_seqT, e_seqN, it_lst, it_fz, Option.bind_some, Option.isSome_some, ix10, ix20, ix21, ix30, ix32, dl1, dl2, dl3, List.eraseIdx_cons_zero, e_pop0, e_popAt, e_rev, e_clear, e_tupP, e_listP, e_neN, e_neIN, e_neNI, e_eqIN, e_eqNI, at0, at1, at2, at3, Cell.lst.injEq, Cell.obj.injEq, Option.some.injEq, exists_eq_left', decide_eq_true_eq, true_and, and_true, cup_same, cup_cup, wLenSet, wSrtIt, List.flatten_nil, List.flatten_cons, enOf, endOf, excOf, List.map_cons, List.map_nil, List.length_cons, List.length_nil, List.replicate, Nat.reduceAdd, Nat.reduceSub, List.cons_append, List.nil_append, List.set_cons_zero, List.set_cons_succ, List.getElem?_cons_zero, List.getElem?_cons_succ, List.getElem_cons_zero, List.getElem_cons_succ, reduceCtorEq, if_true, if_false, Bool.false_eq_true, decide_true, decide_false, ne_eq, not_true, not_false_eq_true, Int.reduceEq, Nat.reduceMul, true_imp_iff, Int.reduceToNat, Int.reducePow, Nat.reducePow, Int.reduceLE, Int.reduceLT, Nat.reduceLT, and_self, Nat.reduceLeDiff, Int.reduceNeg, Int.reduceAdd, Int.reduceSub, Int.reduceMul, Int.cast_ofNat_Int, lvl_s]
        rw [cutL_map, cutL_to (by omega), Int.toNat_natCast]
        refine ⟨wD m, m, ps.take C, cmD, rfl, .self m, fun p => .inl rfl, okm, fun q hq => by obtain ⟨h1, h2⟩ := hin q (List.mem_of_mem_take hq); exact ⟨by omega, by omega⟩, by omega, by omega, by omega, by omega, ?_⟩
        try simp only [sRaise, sTry, wIsX, wWhat, wBack, lo_lst, e_mulV, sizeL, sNil, sSeq, sPass, sBrk, sCont, sExpr, sRet, sRetN, sIf, sNever, sSet, sAug, gNm, gTp, gNil', gCons', gSb, sAsg, sPar, sFor, wVar_z, wVar_s, wC, wChn, wTru, sPar3, wRev, wCallK, permF, List.filterMap_cons, List.filterMap_nil, wBin, wUn, wTst, wNot, wAnd, wOr, wAndV, wOrV, wNotV, wIf, wNil, wCons, wTup, wLst, wLstL, wFz, wCall, wBi, wMt, wMt0, wSl, wSlL, wPart, wNoPart, wYes, wSeq, wRg1, wRg2, wEnum, wZip, wLc, wLcL, wLRg, wFld, sFldS, sFldA, gFld, wMeth, wMake, lvl2_s, onB, e_eqI, e_neI, e_eqB, e_neB, e_eqS, e_neS, e_eqN, e_tyLT, e_ty1, isTys, tyMem, tyN_non, tyN_bl, tyN_int, tyN_str, tyN_tup, tyN_lst, Bool.true_or, Bool.or_true, Bool.or_false, Bool.false_or, Bool.not_true, Bool.not_false, inn_non, inn_bl, inn_int, inn_str, inn_tup, inn_lst, inn_ptr, e_slT, e_slL, e_slN, isT_P, isT_L, isT_T, isT_N, e_sub, e_fdiv, e_mod, e_pow, e_lt, e_le, e_gt, e_ge, e_neg, e_add, e_addS, e_addT, e_addL, e_addPP, e_addPL, e_addLP, e_mul, e_mulL, e_mulT, e_augI, e_ixT, e_ixL, e_ixN, e_ixP, e_lenT, e_lenL, e_lenN, e_lenS, e_lenP, e_abs, e_intI, e_intB, e_max, e_min, e_tupL, e_tupT, e_listL, e_listT, e_listN, e_listLL, e_listLT, e_divmod, e_isNon, e_isntNon, e_isB, e_isntB, e_setIx, e_insert, e_append, e_isL, e_isLL, e_seqP, e_seqL, e_seqT, e_seqN, it_lst, it_fz, Option.bind_some, Option.isSome_some, ix10, ix20, ix21, ix30, ix32, dl1, dl2, dl3, List.eraseIdx_cons_zero, e_pop0, e_popAt, e_rev, e_clear, e_tupP, e_listP, e_neN, e_neIN, e_neNI, e_eqIN, e_eqNI, at0, at1, at2, at3, Cell.lst.injEq, Cell.obj.injEq, Option.some.injEq, exists_eq_left', decide_eq_true_eq, true_and, and_true, cup_same, cup_cup, wLenSet, wSrtIt, List.flatten_nil, List.flatten_cons, enOf, endOf, excOf, List.map_cons, List.map_nil, List.length_cons, List.length_nil, List.replicate, Nat.reduceAdd, Nat.reduceSub, List.cons_append, List.nil_append, List.set_cons_zero, List.set_cons_succ, List.getElem?_cons_zero, List.getElem?_cons_succ, List.getElem_cons_zero, List.getElem_cons_succ, reduceCtorEq, if_true, if_false, Bool.false_eq_true, decide_true, decide_false, ne_eq, not_true, not_false_eq_true, Int.reduceEq, Nat.reduceMul, true_imp_iff, Int.reduceToNat, Int.reducePow, Nat.reducePow, Int.reduceLE, Int.reduceLT, Nat.reduceLT, and_self, Nat.reduceLeDiff, Int.reduceNeg, Int.reduceAdd, Int.reduceSub, Int.reduceMul, Int.cast_ofNat_Int, lvl_s]
        refine ⟨by rw [List.length_map, List.length_map]; omega, ?_⟩
        have e : ((pre ++ [m]).flatMap fun m => allA m (ps.take C)).map wD = (pre.flatMap fun m => allA m (ps.take C)).map wD ++ (allA m (ps.take C)).map wD := by
          rw [List.flatMap_append, List.map_append, List.flatMap_cons, List.flatMap_nil, List.append_nil]
        rw [← e]
        exact st.1 _ _ ⟨⟨_, rfl⟩, rfl⟩
      rintro en c' ⟨⟨o9, rfl⟩, rfl⟩
      rw [← hcut]
      refine ⟨trivial, n12 _ _ (seq_gen fun D13 r13 _ _ n13 => ?_)⟩
      clear n12
      try simp only [sRaise, sTry, wIsX, wWhat, wBack, lo_lst, e_mulV, sizeL, sNil, sSeq, sPass, sBrk, sCont, sExpr, sRet, sRetN, sIf, sNever, sSet, sAug, gNm, gTp, gNil', gCons', gSb, sAsg, sPar, sFor, wVar_z, wVar_s, wC, wChn, wTru, sPar3, wRev, wCallK, permF, List.filterMap_cons, List.filterMap_nil, wBin, wUn, wTst, wNot, wAnd, wOr, wAndV, wOrV, wNotV, wIf, wNil, wCons, wTup, wLst, wLstL, wFz, wCall, wBi, wMt, wMt0, wSl, wSlL, wPart, wNoPart, wYes, wSeq, wRg1, wRg2, wEnum, wZip, wLc, wLcL, wLRg, wFld, sFldS, sFldA, gFld, wMeth, wMake, lvl2_s, onB, e_eqI, e_neI, e_eqB, e_neB, e_eqS, e_neS, e_eqN, e_tyLT, e_ty1, isTys, tyMem, tyN_non, tyN_bl, tyN_int, tyN_str, tyN_tup, tyN_lst, Bool.true_or, Bool.or_true, Bool.or_false, Bool.false_or, Bool.not_true, Bool.not_false, inn_non, inn_bl, inn_int, inn_str, inn_tup, inn_lst, inn_ptr, e_slT, e_slL, e_slN, isT_P, isT_L, isT_T, isT_N, e_sub, e_fdiv, e_mod, e_pow, e_lt, e_le, e_gt, e_ge, e_neg, e_add, e_addS, e_addT, e_addL, e_addPP, e_addPL, e_addLP, e_mul, e_mulL, e_mulT, e_augI, e_ixT, e_ixL, e_ixN, e_ixP, e_lenT, e_lenL, e_lenN, e_lenS, e_lenP, e_abs, e_intI, e_intB, e_max, e_min, e_tupL, e_tupT, e_listL, e_listT, e_listN, e_listLL, e_listLT, e_divmod, e_isNon, e_isntNon, e_isB, e_isntB, e_setIx, e_insert, e_append, e_isL, e_isLL, e_seqP, e_seqL, e_seqT, e_seqN, it_lst, it_fz, Option.bind_some, Option.isSome_some, ix10, ix20, ix21, ix30, ix32, dl1, dl2, dl3, List.eraseIdx_cons_zero, e_pop0, e_popAt, e_rev, e_clear, e_tupP, e_listP, e_neN, e_neIN, e_neNI, e_eqIN, e_eqNI, at0, at1, at2, at3, Cell.lst.injEq, Cell.obj.injEq, Option.some.injEq, exists_eq_left', decide_eq_true_eq, true_and, and_true, cup_same, cup_cup, wLenSet, wSrtIt, List.flatten_nil, List.flatten_cons, enOf, endOf, excOf, List.map_cons, List.map_nil, List.length_cons, List.length_nil, List.replicate, Nat.reduceAdd, Nat.reduceSub, List.cons_append, List.nil_append, List.set_cons_zero, List.set_cons_succ, List.getElem?_cons_zero, List.getElem?_cons_succ, List.getElem_cons_zero, List.getElem_cons_succ, reduceCtorEq, if_true, if_false, Bool.false_eq_true, decide_true, decide_false, ne_eq, not_true, not_false_eq_true, Int.reduceEq, Nat.reduceMul, true_imp_iff, Int.reduceToNat, Int.reducePow, Nat.reducePow, Int.reduceLE, Int.reduceLT, Nat.reduceLT, and_self, Nat.reduceLeDiff, Int.reduceNeg, Int.reduceAdd, Int.reduceSub, Int.reduceMul, Int.cast_ofNat_Int, lvl_s]
      refine same_of plA (by show deps _ + 1 ≤ _; omega) ?_
      try simp only [sRaise, sTry, wIsX, wWhat, wBack, lo_lst, e_mulV, sizeL, sNil, sSeq, sPass, sBrk, sCont, sExpr, sRet, sRetN, sIf, sNever, sSet, sAug, gNm, gTp, gNil', gCons', gSb, sAsg, sPar, sFor, wVar_z, wVar_s, wC, wChn, wTru, sPar3, wRev, wCallK, permF, List.filterMap_cons, List.filterMap_nil, wBin, wUn, wTst, wNot, wAnd, wOr, wAndV, wOrV, wNotV, wIf, wNil, wCons, wTup, wLst, wLstL, wFz, wCall, wBi, wMt, wMt0, wSl, wSlL, wPart, wNoPart, wYes, wSeq, wRg1, wRg2, wEnum, wZip, wLc, wLcL, wLRg, wFld, sFldS, sFldA, gFld, wMeth, wMake, lvl2_s, onB, e_eqI, e_neI, e_eqB, e_neB, e_eqS, e_neS, e_eqN, e_tyLT, e_ty1, isTys, tyMem, tyN_non, tyN_bl, tyN_int, tyN_str, tyN_tup, tyN_lst, Bool.true_or, Bool.or_true, Bool.or_false, Bool.false_or, Bool.not_true, Bool.not_false, inn_non, inn_bl, inn_int, inn_str, inn_tup, inn_lst, inn_ptr, e_slT, e_slL, e_slN, isT_P, isT_L, isT_T, isT_N, e_sub, e_fdiv, e_mod, e_pow, e_lt, e_le, e_gt, e_ge, e_neg, e_add, e_addS, e_addT, e_addL, e_addPP, e_addPL, e_addLP, e_mul, e_mulL, e_mulT, e_augI, e_ixT, e_ixL, e_ixN, e_ixP, e_lenT, e_lenL, e_lenN, e_lenS, e_lenP, e_abs, e_intI, e_intB, e_max, e_min, e_tupL, e_tupT, e_listL, e_listT, e_listN, e_listLL, e_listLT, e_divmod, e_isNon, e_isntNon, e_isB, e_isntB, e_setIx, e_insert, e_append, e_isL, e_isLL, e_seqP, e_seqL, e_seqT, e_seqN, it_lst, it_fz, Option.bind_some, Option.isSome_some, ix10, ix20, ix21, ix30, ix32, dl1, dl2, dl3, List.eraseIdx_cons_zero, e_pop0, e_popAt, e_rev, e_clear, e_tupP, e_listP, e_neN, e_neIN, e_neNI, e_eqIN, e_eqNI, at0, at1, at2, at3, Cell.lst.injEq, Cell.obj.injEq, Option.some.injEq, exists_eq_left', decide_eq_true_eq, true_and, and_true, cup_same, cup_cup, wLenSet, wSrtIt, List.flatten_nil, List.flatten_cons, enOf, endOf, excOf, List.map_cons, List.map_nil, List.length_cons, List.length_nil, List.replicate, Nat.reduceAdd, Nat.reduceSub, List.cons_append, List.nil_append, List.set_cons_zero, List.set_cons_succ, List.getElem?_cons_zero, List.getElem?_cons_succ, List.getElem_cons_zero, List.getElem_cons_succ, reduceCtorEq, if_true, if_false, Bool.false_eq_true, decide_true, decide_false, ne_eq, not_true, not_false_eq_true, Int.reduceEq, Nat.reduceMul, true_imp_iff, Int.reduceToNat, Int.reducePow, Nat.reducePow, Int.reduceLE, Int.reduceLT, Nat.reduceLT, and_self, Nat.reduceLeDiff, Int.reduceNeg, Int.reduceAdd, Int.reduceSub, Int.reduceMul, Int.cast_ofNat_Int, lvl_s]
      refine n13 _ _ (seq_gen fun D14 r14 _ _ n14 => ?_)
      clear n13
      try simp only [sRaise, sTry, wIsX, wWhat, wBack, lo_lst, e_mulV, sizeL, sNil, sSeq, sPass, sBrk, sCont, sExpr, sRet, sRetN, sIf, sNever, sSet, sAug, gNm, gTp, gNil', gCons', gSb, sAsg, sPar, sFor, wVar_z, wVar_s, wC, wChn, wTru, sPar3, wRev, wCallK, permF, List.filterMap_cons, List.filterMap_nil, wBin, wUn, wTst, wNot, wAnd, wOr, wAndV, wOrV, wNotV, wIf, wNil, wCons, wTup, wLst, wLstL, wFz, wCall, wBi, wMt, wMt0, wSl, wSlL, wPart, wNoPart, wYes, wSeq, wRg1, wRg2, wEnum, wZip, wLc, wLcL, wLRg, wFld, sFldS, sFldA, gFld, wMeth, wMake, lvl2_s, onB, e_eqI, e_neI, e_eqB, e_neB, e_eqS, e_neS, e_eqN, e_tyLT, e_ty1, isTys, tyMem, tyN_non, tyN_bl, tyN_int, tyN_str, tyN_tup, tyN_lst, Bool.true_or, Bool.or_true, Bool.or_false, Bool.false_or, Bool.not_true, Bool.not_false, inn_non, inn_bl, inn_int, inn_str, inn_tup, inn_lst, inn_ptr, e_slT, e_slL, e_slN, isT_P, isT_L, isT_T, isT_N, e_sub, e_fdiv, e_mod, e_pow, e_lt, e_le, e_gt, e_ge, e_neg, e_add, e_addS, e_addT, e_addL, e_addPP, e_addPL, e_addLP, e_mul, e_mulL, e_mulT, e_augI, e_ixT, e_ixL, e_ixN, e_ixP, e_lenT, e_lenL, e_lenN, e_lenS, e_lenP, e_abs, e_intI, e_intB, e_max, e_min, e_tupL, e_tupT, e_listL, e_listT, e_listN, e_listLL, e_listLT, e_divmod, e_isNon, e_isntNon, e_isB, e_isntB, e_setIx, e_insert, e_append, e_isL, e_isLL, e_seqP, e_seqL, e_seqT, e_seqN, it_lst, it_fz, Option.bind_some, Option.isSome_some, ix10, ix20, ix21, ix30, ix32, dl1, dl2, dl3, List.eraseIdx_cons_zero, e_pop0, e_popAt, e_rev, e_clear, e_tupP, e_listP, e_neN, e_neIN, e_neNI, e_eqIN, e_eqNI, at0, at1, at2, at3, Cell.lst.injEq, Cell.obj.injEq, Option.some.injEq, exists_eq_left', decide_eq_true_eq, true_and, and_true, cup_same, cup_cup, wLenSet, wSrtIt, List.flatten_nil, List.flatten_cons, enOf, endOf, excOf, List.map_cons, List.map_nil, List.length_cons, List.length_nil, List.replicate, Nat.reduceAdd, Nat.reduceSub, List.cons_append, List.nil_append, List.set_cons_zero, List.set_cons_succ, List.getElem?_cons_zero, List.getElem?_cons_succ, List.getElem_cons_zero, List.getElem_cons_succ, reduceCtorEq, if_true, if_false, Bool.false_eq_true, decide_true, decide_false, ne_eq, not_true, not_false_eq_true, Int.reduceEq, Nat.reduceMul, true_imp_iff, Int.reduceToNat, Int.reducePow, Nat.reducePow, Int.reduceLE, Int.reduceLT, Nat.reduceLT, and_self, Nat.reduceLeDiff, Int.reduceNeg, Int.reduceAdd, Int.reduceSub, Int.reduceMul, Int.cast_ofNat_Int, lvl_s]
      intro _
      refine loopP cmD (fun pre en c2 => (∃ o5 o12, en = [some (.ptr p), some (wD w0), some (.lst (ps.map cmD)), some (wD w), some (.lst (A.map wD)), o5, some (.lst [.lst (A.map wD), .lst (A.map wD)]), some (.int C), some (.lst (A.map wD)), o9, o10, o11, o12, none]) ∧ CLe c' c2) ⟨⟨_, _, rfl⟩, CLe.refl _⟩ ?_ ?_
      · rintro pre m post en c8 hs ⟨⟨o5, o12, rfl⟩, l8⟩
        refine ⟨trivial, _, rfl, fun D15 st => ?_⟩
        obtain ⟨hm1, hm2⟩ := hin m (by rw [hs]; simp)
        refine seq_gen fun D16 r16 _ _ n16 => ?_
        try simp only [sRaise, sTry, wIsX, wWhat, wBack, lo_lst, e_mulV, sizeL, sNil, sSeq, sPass, sBrk, sCont, sExpr, sRet, sRetN, sIf, sNever, sSet, sAug, gNm, gTp, gNil', gCons', gSb, sAsg, sPar, sFor, wVar_z, wVar_s, wC, wChn, wTru, sPar3, wRev, wCallK, permF, List.filterMap_cons, List.filterMap_nil, wBin, wUn, wTst, wNot, wAnd, wOr, wAndV, wOrV, wNotV, wIf, wNil, wCons, wTup, wLst, wLstL, wFz, wCall, wBi, wMt, wMt0, wSl, wSlL, wPart, wNoPart, wYes, wSeq, wRg1, wRg2, wEnum, wZip, wLc, wLcL, wLRg, wFld, sFldS, sFldA, gFld, wMeth, wMake, lvl2_s, onB, e_eqI, e_neI, e_eqB, e_neB, e_eqS, e_neS, e_eqN, e_tyLT, e_ty1, isTys, tyMem, tyN_non, tyN_bl, tyN_int, tyN_str, tyN_tup, tyN_lst, Bool.true_or, Bool.or_true, Bool.or_false, Bool.false_or, Bool.not_true, Bool.not_false, inn_non, inn_bl, inn_int, inn_str, inn_tup, inn_lst, inn_ptr, e_slT, e_slL, e_slN, isT_P, isT_L, isT_T, isT_N, e_sub, e_fdiv, e_mod, e_pow, e_lt, e_le, e_gt, e_ge, e_neg, e_add, e_addS, e_addT, e_addL, e_addPP, e_addPL, e_addLP, e_mul, e_mulL, e_mulT, e_augI, e_ixT, e_ixL, e_ixN, e_ixP, e_lenT, e_lenL, e_lenN, e_lenS, e_lenP, e_abs, e_intI, e_intB, e_max, e_min, e_tupL, e_tupT, e_listL, e_listT, e_listN, e_listLL, e_listLT, e_divmod, e_isNon, e_isntNon, e_isB, e_isntB, e_setIx, e_insert, e_append, e_isL, e_isLL, e_seqP, e_seqL, e_seqT, e_seqN, it_lst, it_fz, Option.bind_some, Option.isSome_some, ix10, ix20, ix21, ix30, ix32, dl1, dl2, dl3, List.eraseIdx_cons_zero, e_pop0, e_popAt, e_rev, e_clear, e_tupP, e_listP, e_neN, e_neIN, e_neNI, e_eqIN, e_eqNI, at0, at1, at2, at3, Cell.lst.injEq, Cell.obj.injEq, Option.some.injEq, exists_eq_left', decide_eq_true_eq, true_and, and_true, cup_same, cup_cup, wLenSet, wSrtIt, List.flatten_nil, List.flatten_cons, enOf, endOf, excOf, List.map_cons, List.map_nil, List.length_cons, List.length_nil, List.replicate, Nat.reduceAdd, Nat.reduceSub, List.cons_append, List.nil_append, List.set_cons_zero, List.set_cons_succ, List.getElem?_cons_zero, List.getElem?_cons_succ, List.getElem_cons_zero, List.getElem_cons_succ, reduceCtorEq, if_true, if_false, Bool.false_eq_true, decide_true, decide_false, ne_eq, not_true, not_false_eq_true, Int.reduceEq, Nat.reduceMul, true_imp_iff, Int.reduceToNat, Int.reducePow, Nat.reducePow, Int.reduceLE, Int.reduceLT, Nat.reduceLT, and_self, Nat.reduceLeDiff, Int.reduceNeg, Int.reduceAdd, Int.reduceSub, Int.reduceMul, Int.cast_ofNat_Int, lvl_s]
        refine ⟨w, m.1, m.2, rfl, hm1, hm2, ok.1 _ (gran_mem hm2), fun c9 l9 => ?_⟩
        try simp only [cameD, sRaise, sTry, wIsX, wWhat, wBack, lo_lst, e_mulV, sizeL, sNil, sSeq, sPass, sBrk, sCont, sExpr, sRet, sRetN, sIf, sNever, sSet, sAug, gNm, gTp, gNil', gCons', gSb, sAsg, sPar, sFor, wVar_z, wVar_s, wC, wChn, wTru, sPar3, wRev, wCallK, permF, List.filterMap_cons, List.filterMap_nil, wBin, wUn, wTst, wNot, wAnd, wOr, wAndV, wOrV, wNotV, wIf, wNil, wCons, wTup, wLst, wLstL, wFz, wCall, wBi, wMt, wMt0, wSl, wSlL, wPart, wNoPart, wYes, wSeq, wRg1, wRg2, wEnum, wZip, wLc, wLcL, wLRg, wFld, sFldS, sFldA, gFld, wMeth, wMake, lvl2_s, onB, e_eqI, e_neI, e_eqB, e_neB, e_eqS, e_neS, e_eqN, e_tyLT, e_ty1, isTys, tyMem, tyN_non, tyN_bl, tyN_int, tyN_str, tyN_tup, tyN_lst, Bool.true_or, Bool.or_true, Bool.or_false, Bool.false_or, Bool.not_true, Bool.not_false, inn_non, inn_bl, inn_int, inn_str, inn_tup, inn_lst, inn_ptr, e_slT, e_slL, e_slN, isT_P, isT_L, isT_T, isT_N, e_sub, e_fdiv, e_mod, e_pow, e_lt, e_le, e_gt, e_ge, e_neg, e_add, e_addS, e_addT, e_addL, e_addPP, e_addPL, e_addLP, e_mul, e_mulL, e_mulT, e_augI, e_ixT, e_ixL, e_ixN, e_ixP, e_lenT, e_lenL, e_lenN, e_lenS, e_lenP, e_abs, e_intI, e_intB, e_max, e_min, e_tupL, e_tupT, e_listL, e_listT, e_listN, e_listLL, e_listLT, e_divmod, e_isNon, e_isntNon, e_isB, e_isntB, e_setIx, e_insert, e_append, e_isL, e_isLL, e_seqP, e_seqL, e_seqT, e_seqN, it_lst, it_fz, Option.bind_some, Option.isSome_some, ix10, ix20, ix21, ix30, ix32, dl1, dl2, dl3, List.eraseIdx_cons_zero, e_pop0, e_popAt, e_rev, e_clear, e_tupP, e_listP, e_neN, e_neIN, e_neNI, e_eqIN, e_eqNI, at0, at1, at2, at3, Cell.lst.injEq, Cell.obj.injEq, Option.some.injEq, exists_eq_left', decide_eq_true_eq, true_and, and_true, cup_same, cup_cup, wLenSet, wSrtIt, List.flatten_nil, List.flatten_cons, enOf, endOf, excOf, List.map_cons, List.map_nil, List.length_cons, List.length_nil, List.replicate, Nat.reduceAdd, Nat.reduceSub, List.cons_append, List.nil_append, List.set_cons_zero, List.set_cons_succ, List.getElem?_cons_zero, List.getElem?_cons_succ, List.getElem_cons_zero, List.getElem_cons_succ, reduceCtorEq, if_true, if_false, Bool.false_eq_true, decide_true, decide_false, ne_eq, not_true, not_false_eq_true, Int.reduceEq, Nat.reduceMul, true_imp_iff, Int.reduceToNat, Int.reducePow, Nat.reducePow, Int.reduceLE, Int.reduceLT, Nat.reduceLT, and_self, Nat.reduceLeDiff, Int.reduceNeg, Int.reduceAdd, Int.reduceSub, Int.reduceMul, Int.cast_ofNat_Int, lvl_s]
        have est : isNon (placeD (cameW w m.1 m.2).2.1) = decide (wordOf (granAt w m.2) (loadAt w m.1) = none) := by
          rw [placeD_non, came_word]
          cases wordOf (granAt w m.2) (loadAt w m.1) <;> rfl
        rw [est]
        refine n16 _ _ ?_
        clear n16
        have fH : fines ((aheadW w m.1 m.2).map wD) = true := fines_all.mpr fun d hd => by
          obtain ⟨x, hx, rfl⟩ := List.mem_map.mp hd
          obtain ⟨_, e1, e2⟩ := ahead_leads hm1 hm2 (ok.1 _ (gran_mem hm2)).ord hx
          exact (wD_fine (ahead_ok ok hm1 hm2 hx) (by omega) (by omega)).1
        have dH : deps ((aheadW w m.1 m.2).map wD) ≤ 4 := deps_le.mpr fun d hd => by obtain ⟨x, _, rfl⟩ := List.mem_map.mp hd; have := dep_wD x; omega
        have done : D15.nx [some (.ptr p), some (wD w0), some (.lst (ps.map cmD)), some (wD w), some (.lst (A.map wD)), some (cmD m), some (.lst [.lst (A.map wD), .lst (A.map wD)]), some (.int C), some (.lst (A.map wD)), o9, o10, o11, some (.bl (decide (wordOf (granAt w m.2) (loadAt w m.1) = none))), none] c9 := st.1 _ _ ⟨⟨_, _, rfl⟩, l8.trans l9⟩
        try simp only [sRaise, sTry, wIsX, wWhat, wBack, lo_lst, e_mulV, sizeL, sNil, sSeq, sPass, sBrk, sCont, sExpr, sRet, sRetN, sIf, sNever, sSet, sAug, gNm, gTp, gNil', gCons', gSb, sAsg, sPar, sFor, wVar_z, wVar_s, wC, wChn, wTru, sPar3, wRev, wCallK, permF, List.filterMap_cons, List.filterMap_nil, wBin, wUn, wTst, wNot, wAnd, wOr, wAndV, wOrV, wNotV, wIf, wNil, wCons, wTup, wLst, wLstL, wFz, wCall, wBi, wMt, wMt0, wSl, wSlL, wPart, wNoPart, wYes, wSeq, wRg1, wRg2, wEnum, wZip, wLc, wLcL, wLRg, wFld, sFldS, sFldA, gFld, wMeth, wMake, lvl2_s, onB, e_eqI, e_neI, e_eqB, e_neB, e_eqS, e_neS, e_eqN, e_tyLT, e_ty1, isTys, tyMem, tyN_non, tyN_bl, tyN_int, tyN_str, tyN_tup, tyN_lst, Bool.true_or, Bool.or_true, Bool.or_false, Bool.false_or, Bool.not_true, Bool.not_false, inn_non, inn_bl, inn_int, inn_str, inn_tup, inn_lst, inn_ptr, e_slT, e_slL, e_slN, isT_P, isT_L, isT_T, isT_N, e_sub, e_fdiv, e_mod, e_pow, e_lt, e_le, e_gt, e_ge, e_neg, e_add, e_addS, e_addT, e_addL, e_addPP, e_addPL, e_addLP, e_mul, e_mulL, e_mulT, e_augI, e_ixT, e_ixL, e_ixN, e_ixP, e_lenT, e_lenL, e_lenN, e_lenS, e_lenP, e_abs, e_intI, e_intB, e_max, e_min, e_tupL, e_tupT, e_listL, e_listT, e_listN, e_listLL, e_listLT, e_divmod, e_isNon, e_isntNon, e_isB, e_isntB, e_setIx, e_insert, e_append, e_isL, e_isLL, e_seqP, e_seqL, e_seqT, e_seqN, it_lst, it_fz, Option.bind_some, Option.isSome_some, ix10, ix20, ix21, ix30, ix32, dl1, dl2, dl3, List.eraseIdx_cons_zero, e_pop0, e_popAt, e_rev, e_clear, e_tupP, e_listP, e_neN, e_neIN, e_neNI, e_eqIN, e_eqNI, at0, at1, at2, at3, Cell.lst.injEq, Cell.obj.injEq, Option.some.injEq, exists_eq_left', decide_eq_true_eq, true_and, and_true, cup_same, cup_cup, wLenSet, wSrtIt, List.flatten_nil, List.flatten_cons, enOf, endOf, excOf, List.map_cons, List.map_nil, List.length_cons, List.length_nil, List.replicate, Nat.reduceAdd, Nat.reduceSub, List.cons_append, List.nil_append, List.set_cons_zero, List.set_cons_succ, List.getElem?_cons_zero, List.getElem?_cons_succ, List.getElem_cons_zero, List.getElem_cons_succ, reduceCtorEq, if_true, if_false, Bool.false_eq_true, decide_true, decide_false, ne_eq, not_true, not_false_eq_true, Int.reduceEq, Nat.reduceMul, true_imp_iff, Int.reduceToNat, Int.reducePow, Nat.reducePow, Int.reduceLE, Int.reduceLT, Nat.reduceLT, and_self, Nat.reduceLeDiff, Int.reduceNeg, Int.reduceAdd, Int.reduceSub, Int.reduceMul, Int.cast_ofNat_Int, lvl_s]
        refine ⟨wD w, w, m.1, m.2, cmD m, rfl, .self w, .inl rfl, by omega, by omega, by omega, hm1, hm2, ?_⟩
        refine e_neNil fH (by omega) ?_
        by_cases hw : wordOf (granAt w m.2) (loadAt w m.1) = none
        · have e1 : aheadW w m.1 m.2 = w :: (aheadB (granAt w m.2) (loadAt w m.1)).map (fun b => exchW w m.1 m.2 b) := by unfold aheadW; rw [if_pos hw]
          simp only [hw, e1, List.map_cons, List.isEmpty_cons, sRaise, sTry, wIsX, wWhat, wBack, lo_lst, e_mulV, sizeL, sNil, sSeq, sPass, sBrk, sCont, sExpr, sRet, sRetN, sIf, sNever, sSet, sAug, gNm, gTp, gNil', gCons', gSb, sAsg, sPar, sFor, wVar_z, wVar_s, wC, wChn, wTru, sPar3, wRev, wCallK, permF, List.filterMap_cons, List.filterMap_nil, wBin, wUn, wTst, wNot, wAnd, wOr, wAndV, wOrV, wNotV, wIf, wNil, wCons, wTup, wLst, wLstL, wFz, wCall, wBi, wMt, wMt0, wSl, wSlL, wPart, wNoPart, wYes, wSeq, wRg1, wRg2, wEnum, wZip, wLc, wLcL, wLRg, wFld, sFldS, sFldA, gFld, wMeth, wMake, lvl2_s, onB, e_eqI, e_neI, e_eqB, e_neB, e_eqS, e_neS, e_eqN, e_tyLT, e_ty1, isTys, tyMem, tyN_non, tyN_bl, tyN_int, tyN_str, tyN_tup, tyN_lst, Bool.true_or, Bool.or_true, Bool.or_false, Bool.false_or, Bool.not_true, Bool.not_false, inn_non, inn_bl, inn_int, inn_str, inn_tup, inn_lst, inn_ptr, e_slT, e_slL, e_slN, isT_P, isT_L, isT_T, isT_N, e_sub, e_fdiv, e_mod, e_pow, e_lt, e_le, e_gt, e_ge, e_neg, e_add, e_addS, e_addT, e_addL, e_addPP, e_addPL, e_addLP, e_mul, e_mulL, e_mulT, e_augI, e_ixT, e_ixL, e_ixN, e_ixP, e_lenT, e_lenL, e_lenN, e_lenS, e_lenP, e_abs, e_intI, e_intB, e_max, e_min, e_tupL, e_tupT, e_listL, e_listT, e_listN, e_listLL, e_listLT, e_divmod, e_isNon, e_isntNon, e_isB, e_isntB, e_setIx, e_insert, e_append, e_isL, e_isLL, e_seqP, e_seqL, e_seqT, e_seqN, it_lst, it_fz, Option.bind_some, Option.isSome_some, ix10, ix20, ix21, ix30, ix32, dl1, dl2, dl3, List.eraseIdx_cons_zero, e_pop0, e_popAt, e_rev, e_clear, e_tupP, e_listP, e_neN, e_neIN, e_neNI, e_eqIN, e_eqNI, at0, at1, at2, at3, Cell.lst.injEq, Cell.obj.injEq, Option.some.injEq, exists_eq_left', decide_eq_true_eq, true_and, and_true, cup_same, cup_cup, wLenSet, wSrtIt, List.flatten_nil, List.flatten_cons, enOf, endOf, excOf, List.map_cons, List.map_nil, List.length_cons, List.length_nil, List.replicate, Nat.reduceAdd, Nat.reduceSub, List.cons_append, List.nil_append, List.set_cons_zero, List.set_cons_succ, List.getElem?_cons_zero, List.getElem?_cons_succ, List.getElem_cons_zero, List.getElem_cons_succ, reduceCtorEq, if_true, if_false, Bool.false_eq_true, decide_true, decide_false, ne_eq, not_true, not_false_eq_true, Int.reduceEq, Nat.reduceMul, true_imp_iff, Int.reduceToNat, Int.reducePow, Nat.reducePow, Int.reduceLE, Int.reduceLT, Nat.reduceLT, and_self, Nat.reduceLeDiff, Int.reduceNeg, Int.reduceAdd, Int.reduceSub, Int.reduceMul, Int.cast_ofNat_Int, lvl_s]
          refine ⟨true, rfl, ?_⟩
          simp only [if_true]
          refine ⟨wD w, w, m.1, m.2, cmD m, rfl, .self w, .inl rfl, by omega, by omega, by omega, hm1, hm2, ?_⟩
          simp only [e1, List.map_cons, sRaise, sTry, wIsX, wWhat, wBack, lo_lst, e_mulV, sizeL, sNil, sSeq, sPass, sBrk, sCont, sExpr, sRet, sRetN, sIf, sNever, sSet, sAug, gNm, gTp, gNil', gCons', gSb, sAsg, sPar, sFor, wVar_z, wVar_s, wC, wChn, wTru, sPar3, wRev, wCallK, permF, List.filterMap_cons, List.filterMap_nil, wBin, wUn, wTst, wNot, wAnd, wOr, wAndV, wOrV, wNotV, wIf, wNil, wCons, wTup, wLst, wLstL, wFz, wCall, wBi, wMt, wMt0, wSl, wSlL, wPart, wNoPart, wYes, wSeq, wRg1, wRg2, wEnum, wZip, wLc, wLcL, wLRg, wFld, sFldS, sFldA, gFld, wMeth, wMake, lvl2_s, onB, e_eqI, e_neI, e_eqB, e_neB, e_eqS, e_neS, e_eqN, e_tyLT, e_ty1, isTys, tyMem, tyN_non, tyN_bl, tyN_int, tyN_str, tyN_tup, tyN_lst, Bool.true_or, Bool.or_true, Bool.or_false, Bool.false_or, Bool.not_true, Bool.not_false, inn_non, inn_bl, inn_int, inn_str, inn_tup, inn_lst, inn_ptr, e_slT, e_slL, e_slN, isT_P, isT_L, isT_T, isT_N, e_sub, e_fdiv, e_mod, e_pow, e_lt, e_le, e_gt, e_ge, e_neg, e_add, e_addS, e_addT, e_addL, e_addPP, e_addPL, e_addLP, e_mul, e_mulL, e_mulT, e_augI, e_ixT, e_ixL, e_ixN, e_ixP, e_lenT, e_lenL, e_lenN, e_lenS, e_lenP, e_abs, e_intI, e_intB, e_max, e_min, e_tupL, e_tupT, e_listL, e_listT, e_listN, e_listLL, e_listLT, e_divmod, e_isNon, e_isntNon, e_isB, e_isntB, e_setIx, e_insert, e_append, e_isL, e_isLL, e_seqP, e_seqL, e_seqT, e_seqN, it_lst, it_fz, Option.bind_some, Option.isSome_some, ix10, ix20, ix21, ix30, ix32, dl1, dl2, dl3, List.eraseIdx_cons_zero, e_pop0, e_popAt, e_rev, e_clear, e_tupP, e_listP, e_neN, e_neIN, e_neNI, e_eqIN, e_eqNI, at0, at1, at2, at3, Cell.lst.injEq, Cell.obj.injEq, Option.some.injEq, exists_eq_left', decide_eq_true_eq, true_and, and_true, cup_same, cup_cup, wLenSet, wSrtIt, List.flatten_nil, List.flatten_cons, enOf, endOf, excOf, List.map_cons, List.map_nil, List.length_cons, List.length_nil, List.replicate, Nat.reduceAdd, Nat.reduceSub, List.cons_append, List.nil_append, List.set_cons_zero, List.set_cons_succ, List.getElem?_cons_zero, List.getElem?_cons_succ, List.getElem_cons_zero, List.getElem_cons_succ, reduceCtorEq, if_true, if_false, Bool.false_eq_true, decide_true, decide_false, ne_eq, not_true, not_false_eq_true, Int.reduceEq, Nat.reduceMul, true_imp_iff, Int.reduceToNat, Int.reducePow, Nat.reducePow, Int.reduceLE, Int.reduceLT, Nat.reduceLT, and_self, Nat.reduceLeDiff, Int.reduceNeg, Int.reduceAdd, Int.reduceSub, Int.reduceMul, Int.cast_ofNat_Int, lvl_s]
          refine e_neW fW fW ?_
          simp only [onB, ne_eq, not_true, decide_false, Bool.false_eq_true, if_false]
          simp only [hw, decide_true] at done
          exact done
        · have e1 : aheadW w m.1 m.2 = [] := by unfold aheadW; rw [if_neg hw]
          simp only [hw, e1, List.map_nil, List.isEmpty_nil, sRaise, sTry, wIsX, wWhat, wBack, lo_lst, e_mulV, sizeL, sNil, sSeq, sPass, sBrk, sCont, sExpr, sRet, sRetN, sIf, sNever, sSet, sAug, gNm, gTp, gNil', gCons', gSb, sAsg, sPar, sFor, wVar_z, wVar_s, wC, wChn, wTru, sPar3, wRev, wCallK, permF, List.filterMap_cons, List.filterMap_nil, wBin, wUn, wTst, wNot, wAnd, wOr, wAndV, wOrV, wNotV, wIf, wNil, wCons, wTup, wLst, wLstL, wFz, wCall, wBi, wMt, wMt0, wSl, wSlL, wPart, wNoPart, wYes, wSeq, wRg1, wRg2, wEnum, wZip, wLc, wLcL, wLRg, wFld, sFldS, sFldA, gFld, wMeth, wMake, lvl2_s, onB, e_eqI, e_neI, e_eqB, e_neB, e_eqS, e_neS, e_eqN, e_tyLT, e_ty1, isTys, tyMem, tyN_non, tyN_bl, tyN_int, tyN_str, tyN_tup, tyN_lst, Bool.true_or, Bool.or_true, Bool.or_false, Bool.false_or, Bool.not_true, Bool.not_false, inn_non, inn_bl, inn_int, inn_str, inn_tup, inn_lst, inn_ptr, e_slT, e_slL, e_slN, isT_P, isT_L, isT_T, isT_N, e_sub, e_fdiv, e_mod, e_pow, e_lt, e_le, e_gt, e_ge, e_neg, e_add, e_addS, e_addT, e_addL, e_addPP, e_addPL, e_addLP, e_mul, e_mulL, e_mulT, e_augI, e_ixT, e_ixL, e_ixN, e_ixP, e_lenT, e_lenL, e_lenN, e_lenS, e_lenP, e_abs, e_intI, e_intB, e_max, e_min, e_tupL, e_tupT, e_listL, e_listT, e_listN, e_listLL, e_listLT, e_divmod, e_isNon, e_isntNon, e_isB, e_isntB, e_setIx, e_insert, e_append, e_isL, e_isLL, e_seqP, e_seqL, e_seqT, e_seqN, it_lst, it_fz, Option.bind_some, Option.isSome_some, ix10, ix20, ix21, ix30, ix32, dl1, dl2, dl3, List.eraseIdx_cons_zero, e_pop0, e_popAt, e_rev, e_clear, e_tupP, e_listP, e_neN, e_neIN, e_neNI, e_eqIN, e_eqNI, at0, at1, at2, at3, Cell.lst.injEq, Cell.obj.injEq, Option.some.injEq, exists_eq_left', decide_eq_true_eq, true_and, and_true, cup_same, cup_cup, wLenSet, wSrtIt, List.flatten_nil, List.flatten_cons, enOf, endOf, excOf, List.map_cons, List.map_nil, List.length_cons, List.length_nil, List.replicate, Nat.reduceAdd, Nat.reduceSub, List.cons_append, List.nil_append, List.set_cons_zero, List.set_cons_succ, List.getElem?_cons_zero, List.getElem?_cons_succ, List.getElem_cons_zero, List.getElem_cons_succ, reduceCtorEq, if_true, if_false, Bool.false_eq_true, decide_true, decide_false, ne_eq, not_true, not_false_eq_true, Int.reduceEq, Nat.reduceMul, true_imp_iff, Int.reduceToNat, Int.reducePow, Nat.reducePow, Int.reduceLE, Int.reduceLT, Nat.reduceLT, and_self, Nat.reduceLeDiff, Int.reduceNeg, Int.reduceAdd, Int.reduceSub, Int.reduceMul, Int.cast_ofNat_Int, lvl_s]
          simp only [hw, decide_false] at done
          exact ⟨false, rfl, by simpa using done⟩
      rintro en c8 ⟨⟨o5, o12, rfl⟩, l8⟩
      refine ⟨trivial, n14 _ _ ?_⟩
      try simp only [sRaise, sTry, wIsX, wWhat, wBack, lo_lst, e_mulV, sizeL, sNil, sSeq, sPass, sBrk, sCont, sExpr, sRet, sRetN, sIf, sNever, sSet, sAug, gNm, gTp, gNil', gCons', gSb, sAsg, sPar, sFor, wVar_z, wVar_s, wC, wChn, wTru, sPar3, wRev, wCallK, permF, List.filterMap_cons, List.filterMap_nil, wBin, wUn, wTst, wNot, wAnd, wOr, wAndV, wOrV, wNotV, wIf, wNil, wCons, wTup, wLst, wLstL, wFz, wCall, wBi, wMt, wMt0, wSl, wSlL, wPart, wNoPart, wYes, wSeq, wRg1, wRg2, wEnum, wZip, wLc, wLcL, wLRg, wFld, sFldS, sFldA, gFld, wMeth, wMake, lvl2_s, onB, e_eqI, e_neI, e_eqB, e_neB, e_eqS, e_neS, e_eqN, e_tyLT, e_ty1, isTys, tyMem, tyN_non, tyN_bl, tyN_int, tyN_str, tyN_tup, tyN_lst, Bool.true_or, Bool.or_true, Bool.or_false, Bool.false_or, Bool.not_true, Bool.not_false, inn_non, inn_bl, inn_int, inn_str, inn_tup, inn_lst, inn_ptr, e_slT, e_slL, e_slN, isT_P, isT_L, isT_T, isT_N, e_sub, e_fdiv, e_mod, e_pow, e_lt, e_le, e_gt, e_ge, e_neg, e_add, e_addS, e_addT, e_addL, e_addPP, e_addPL, e_addLP, e_mul, e_mulL, e_mulT, e_augI, e_ixT, e_ixL, e_ixN, e_ixP, e_lenT, e_lenL, e_lenN, e_lenS, e_lenP, e_abs, e_intI, e_intB, e_max, e_min, e_tupL, e_tupT, e_listL, e_listT, e_listN, e_listLL, e_listLT, e_divmod, e_isNon, e_isntNon, e_isB, e_isntB, e_setIx, e_insert, e_append, e_isL, e_isLL, e_seqP, e_seqL, e_seqT, e_seqN, it_lst, it_fz, Option.bind_some, Option.isSome_some, ix10, ix20, ix21, ix30, ix32, dl1, dl2, dl3, List.eraseIdx_cons_zero, e_pop0, e_popAt, e_rev, e_clear, e_tupP, e_listP, e_neN, e_neIN, e_neNI, e_eqIN, e_eqNI, at0, at1, at2, at3, Cell.lst.injEq, Cell.obj.injEq, Option.some.injEq, exists_eq_left', decide_eq_true_eq, true_and, and_true, cup_same, cup_cup, wLenSet, wSrtIt, List.flatten_nil, List.flatten_cons, enOf, endOf, excOf, List.map_cons, List.map_nil, List.length_cons, List.length_nil, List.replicate, Nat.reduceAdd, Nat.reduceSub, List.cons_append, List.nil_append, List.set_cons_zero, List.set_cons_succ, List.getElem?_cons_zero, List.getElem?_cons_succ, List.getElem_cons_zero, List.getElem_cons_succ, reduceCtorEq, if_true, if_false, Bool.false_eq_true, decide_true, decide_false, ne_eq, not_true, not_false_eq_true, Int.reduceEq, Nat.reduceMul, true_imp_iff, Int.reduceToNat, Int.reducePow, Nat.reducePow, Int.reduceLE, Int.reduceLT, Nat.reduceLT, and_self, Nat.reduceLeDiff, Int.reduceNeg, Int.reduceAdd, Int.reduceSub, Int.reduceMul, Int.cast_ofNat_Int, lvl_s]
      exact ⟨_, CLe.refl _, q _ ((u67.cle l8).le (by omega))⟩
    try simp only [sRaise, sTry, wIsX, wWhat, wBack, lo_lst, e_mulV, sizeL, sNil, sSeq, sPass, sBrk, sCont, sExpr, sRet, sRetN, sIf, sNever, sSet, sAug, gNm, gTp, gNil', gCons', gSb, sAsg, sPar, sFor, wVar_z, wVar_s, wC, wChn, wTru, sPar3, wRev, wCallK, permF, List.filterMap_cons, List.filterMap_nil, wBin, wUn, wTst, wNot, wAnd, wOr, wAndV, wOrV, wNotV, wIf, wNil, wCons, wTup, wLst, wLstL, wFz, wCall, wBi, wMt, wMt0, wSl, wSlL, wPart, wNoPart, wYes, wSeq, wRg1, wRg2, wEnum, wZip, wLc, wLcL, wLRg, wFld, sFldS, sFldA, gFld, wMeth, wMake, lvl2_s, onB, e_eqI, e_neI, e_eqB, e_neB, e_eqS, e_neS, e_eqN, e_tyLT, e_ty1, isTys, tyMem, tyN_non, tyN_bl, tyN_int, tyN_str, tyN_tup, tyN_lst, Bool.true_or, Bool.or_true, Bool.or_false, Bool.false_or, Bool.not_true, Bool.not_false, inn_non, inn_bl, inn_int, inn_str, inn_tup, inn_lst, inn_ptr, e_slT, e_slL, e_slN, isT_P, isT_L, isT_T, isT_N, e_sub, e_fdiv, e_mod, e_pow, e_lt, e_le, e_gt, e_ge, e_neg, e_add, e_addS, e_addT, e_addL, e_addPP, e_addPL, e_addLP, e_mul, e_mulL, e_mulT, e_augI, e_ixT, e_ixL, e_ixN, e_ixP, e_lenT, e_lenL, e_lenN, e_lenS, e_lenP, e_abs, e_intI, e_intB, e_max, e_min, e_tupL, e_tupT, e_listL, e_listT, e_listN, e_listLL, e_listLT, e_divmod, e_isNon, e_isntNon, e_isB, e_isntB, e_setIx, e_insert, e_append, e_isL, e_isLL, e_seqP, e_seqL, e_seqT, e_seqN, it_lst, it_fz, Option.bind_some, Option.isSome_some, ix10, ix20, ix21, ix30, ix32, dl1, dl2, dl3, List.eraseIdx_cons_zero, e_pop0, e_popAt, e_rev, e_clear, e_tupP, e_listP, e_neN, e_neIN, e_neNI, e_eqIN, e_eqNI, at0, at1, at2, at3, Cell.lst.injEq, Cell.obj.injEq, Option.some.injEq, exists_eq_left', decide_eq_true_eq, true_and, and_true, cup_same, cup_cup, wLenSet, wSrtIt, List.flatten_nil, List.flatten_cons, enOf, endOf, excOf, List.map_cons, List.map_nil, List.length_cons, List.length_nil, List.replicate, Nat.reduceAdd, Nat.reduceSub, List.cons_append, List.nil_append, List.set_cons_zero, List.set_cons_succ, List.getElem?_cons_zero, List.getElem?_cons_succ, List.getElem_cons_zero, List.getElem_cons_succ, reduceCtorEq, if_true, if_false, Bool.false_eq_true, decide_true, decide_false, ne_eq, not_true, not_false_eq_true, Int.reduceEq, Nat.reduceMul, true_imp_iff, Int.reduceToNat, Int.reducePow, Nat.reducePow, Int.reduceLE, Int.reduceLT, Nat.reduceLT, and_self, Nat.reduceLeDiff, Int.reduceNeg, Int.reduceAdd, Int.reduceSub, Int.reduceMul, Int.cast_ofNat_Int, lvl_s]
    refine e_eqW fG fW ?_
    by_cases hg : (goneW w0 ps).1 = w
    · simp only [onB, hg, decide_true, if_true]
      refine e_ninW fW0 fA ?_
      have hmem : w0 ∈ A := by rw [hA]; exact allA_all ok0 hin0' hg
      simp only [onB, hmem, not_true, decide_false, Bool.false_eq_true, if_false]
      exact next
    · simp only [onB, hg, decide_false, Bool.false_eq_true, if_false]
      exact next
  try simp only [sRaise, sTry, wIsX, wWhat, wBack, lo_lst, e_mulV, sizeL, sNil, sSeq, sPass, sBrk, sCont, sExpr, sRet, sRetN, sIf, sNever, sSet, sAug, gNm, gTp, gNil', gCons', gSb, sAsg, sPar, sFor, wVar_z, wVar_s, wC, wChn, wTru, sPar3, wRev, wCallK, permF, List.filterMap_cons, List.filterMap_nil, wBin, wUn, wTst, wNot, wAnd, wOr, wAndV, wOrV, wNotV, wIf, wNil, wCons, wTup, wLst, wLstL, wFz, wCall, wBi, wMt, wMt0, wSl, wSlL, wPart, wNoPart, wYes, wSeq, wRg1, wRg2, wEnum, wZip, wLc, wLcL, wLRg, wFld, sFldS, sFldA, gFld, wMeth, wMake, lvl2_s, onB, e_eqI, e_neI, e_eqB, e_neB, e_eqS, e_neS, e_eqN, e_tyLT, e_ty1, isTys, tyMem, tyN_non, tyN_bl, tyN_int, tyN_str, tyN_tup, tyN_lst, Bool.true_or, Bool.or_true, Bool.or_false, Bool.false_or, Bool.not_true, Bool.not_false, inn_non, inn_bl, inn_int, inn_str, inn_tup, inn_lst, inn_ptr, e_slT, e_slL, e_slN, isT_P, isT_L, isT_T, isT_N, e_sub, e_fdiv, e_mod, e_pow, e_lt, e_le, e_gt, e_ge, e_neg, e_add, e_addS, e_addT, e_addL, e_addPP, e_addPL, e_addLP, e_mul, e_mulL, e_mulT, e_augI, e_ixT, e_ixL, e_ixN, e_ixP, e_lenT, e_lenL, e_lenN, e_lenS, e_lenP, e_abs, e_intI, e_intB, e_max, e_min, e_tupL, e_tupT, e_listL, e_listT, e_listN, e_listLL, e_listLT, e_divmod, e_isNon, e_isntNon, e_isB, e_isntB, e_setIx, e_insert, e_append, e_isL, e_isLL, e_seqP, e_seqL, e_seqT, e_seqN, it_lst, it_fz, Option.bind_some, Option.isSome_some, ix10, ix20, ix21, ix30, ix32, dl1, dl2, dl3, List.eraseIdx_cons_zero, e_pop0, e_popAt, e_rev, e_clear, e_tupP, e_listP, e_neN, e_neIN, e_neNI, e_eqIN, e_eqNI, at0, at1, at2, at3, Cell.lst.injEq, Cell.obj.injEq, Option.some.injEq, exists_eq_left', decide_eq_true_eq, true_and, and_true, cup_same, cup_cup, wLenSet, wSrtIt, List.flatten_nil, List.flatten_cons, enOf, endOf, excOf, List.map_cons, List.map_nil, List.length_cons, List.length_nil, List.replicate, Nat.reduceAdd, Nat.reduceSub, List.cons_append, List.nil_append, List.set_cons_zero, List.set_cons_succ, List.getElem?_cons_zero, List.getElem?_cons_succ, List.getElem_cons_zero, List.getElem_cons_succ, reduceCtorEq, if_true, if_false, Bool.false_eq_true, decide_true, decide_false, ne_eq, not_true, not_false_eq_true, Int.reduceEq, Nat.reduceMul, true_imp_iff, Int.reduceToNat, Int.reducePow, Nat.reducePow, Int.reduceLE, Int.reduceLT, Nat.reduceLT, and_self, Nat.reduceLeDiff, Int.reduceNeg, Int.reduceAdd, Int.reduceSub, Int.reduceMul, Int.cast_ofNat_Int, lvl_s]
  refine take_us (by omega) (by omega) (by omega) u12.1 (by omega) fun t c3 t0 t1 u3 => ?_
  have u123 := u12.trans u3
  try simp only [sRaise, sTry, wIsX, wWhat, wBack, lo_lst, e_mulV, sizeL, sNil, sSeq, sPass, sBrk, sCont, sExpr, sRet, sRetN, sIf, sNever, sSet, sAug, gNm, gTp, gNil', gCons', gSb, sAsg, sPar, sFor, wVar_z, wVar_s, wC, wChn, wTru, sPar3, wRev, wCallK, permF, List.filterMap_cons, List.filterMap_nil, wBin, wUn, wTst, wNot, wAnd, wOr, wAndV, wOrV, wNotV, wIf, wNil, wCons, wTup, wLst, wLstL, wFz, wCall, wBi, wMt, wMt0, wSl, wSlL, wPart, wNoPart, wYes, wSeq, wRg1, wRg2, wEnum, wZip, wLc, wLcL, wLRg, wFld, sFldS, sFldA, gFld, wMeth, wMake, lvl2_s, onB, e_eqI, e_neI, e_eqB, e_neB, e_eqS, e_neS, e_eqN, e_tyLT, e_ty1, isTys, tyMem, tyN_non, tyN_bl, tyN_int, tyN_str, tyN_tup, tyN_lst, Bool.true_or, Bool.or_true, Bool.or_false, Bool.false_or, Bool.not_true, Bool.not_false, inn_non, inn_bl, inn_int, inn_str, inn_tup, inn_lst, inn_ptr, e_slT, e_slL, e_slN, isT_P, isT_L, isT_T, isT_N, e_sub, e_fdiv, e_mod, e_pow, e_lt, e_le, e_gt, e_ge, e_neg, e_add, e_addS, e_addT, e_addL, e_addPP, e_addPL, e_addLP, e_mul, e_mulL, e_mulT, e_augI, e_ixT, e_ixL, e_ixN, e_ixP, e_lenT, e_lenL, e_lenN, e_lenS, e_lenP, e_abs, e_intI, e_intB, e_max, e_min, e_tupL, e_tupT, e_listL, e_listT, e_listN, e_listLL, e_listLT, e_divmod, e_isNon, e_isntNon, e_isB, e_isntB, e_setIx, e_insert, e_append, e_isL, e_isLL, e_seqP, e_seqL, e_seqT, e_seqN, it_lst, it_fz, Option.bind_some, Option.isSome_some, ix10, ix20, ix21, ix30, ix32, dl1, dl2, dl3, List.eraseIdx_cons_zero, e_pop0, e_popAt, e_rev, e_clear, e_tupP, e_listP, e_neN, e_neIN, e_neNI, e_eqIN, e_eqNI, at0, at1, at2, at3, Cell.lst.injEq, Cell.obj.injEq, Option.some.injEq, exists_eq_left', decide_eq_true_eq, true_and, and_true, cup_same, cup_cup, wLenSet, wSrtIt, List.flatten_nil, List.flatten_cons, enOf, endOf, excOf, List.map_cons, List.map_nil, List.length_cons, List.length_nil, List.replicate, Nat.reduceAdd, Nat.reduceSub, List.cons_append, List.nil_append, List.set_cons_zero, List.set_cons_succ, List.getElem?_cons_zero, List.getElem?_cons_succ, List.getElem_cons_zero, List.getElem_cons_succ, reduceCtorEq, if_true, if_false, Bool.false_eq_true, decide_true, decide_false, ne_eq, not_true, not_false_eq_true, Int.reduceEq, Nat.reduceMul, true_imp_iff, Int.reduceToNat, Int.reducePow, Nat.reducePow, Int.reduceLE, Int.reduceLT, Nat.reduceLT, and_self, Nat.reduceLeDiff, Int.reduceNeg, Int.reduceAdd, Int.reduceSub, Int.reduceMul, Int.cast_ofNat_Int, lvl_s]
  by_cases ht : t = 0
  · simp only [ht, decide_true, if_true]
    exact go w0 c3 ok0 rfl rfl (u123.le (by omega))
  · simp only [ht, decide_false, Bool.false_eq_true, if_false]
    refine ⟨_, w0, _, ps, rfl, .self w0, cs_cm84 ps, hin0', by omega, by omega, by omega, by omega, fun a c4 ha l4 hc4 => ?_⟩
    try simp only [sRaise, sTry, wIsX, wWhat, wBack, lo_lst, e_mulV, sizeL, sNil, sSeq, sPass, sBrk, sCont, sExpr, sRet, sRetN, sIf, sNever, sSet, sAug, gNm, gTp, gNil', gCons', gSb, sAsg, sPar, sFor, wVar_z, wVar_s, wC, wChn, wTru, sPar3, wRev, wCallK, permF, List.filterMap_cons, List.filterMap_nil, wBin, wUn, wTst, wNot, wAnd, wOr, wAndV, wOrV, wNotV, wIf, wNil, wCons, wTup, wLst, wLstL, wFz, wCall, wBi, wMt, wMt0, wSl, wSlL, wPart, wNoPart, wYes, wSeq, wRg1, wRg2, wEnum, wZip, wLc, wLcL, wLRg, wFld, sFldS, sFldA, gFld, wMeth, wMake, lvl2_s, onB, e_eqI, e_neI, e_eqB, e_neB, e_eqS, e_neS, e_eqN, e_tyLT, e_ty1, isTys, tyMem, tyN_non, tyN_bl, tyN_int, tyN_str, tyN_tup, tyN_lst, Bool.true_or, Bool.or_true, Bool.or_false, Bool.false_or, Bool.not_true, Bool.not_false, inn_non, inn_bl, inn_int, inn_str, inn_tup, inn_lst, inn_ptr, e_slT, e_slL, e_slN, isT_P, isT_L, isT_T, isT_N, e_sub, e_fdiv, e_mod, e_pow, e_lt, e_le, e_gt, e_ge, e_neg, e_add, e_addS, e_addT, e_addL, e_addPP, e_addPL, e_addLP, e_mul, e_mulL, e_mulT, e_augI, e_ixT, e_ixL, e_ixN, e_ixP, e_lenT, e_lenL, e_lenN, e_lenS, e_lenP, e_abs, e_intI, e_intB, e_max, e_min, e_tupL, e_tupT, e_listL, e_listT, e_listN, e_listLL, e_listLT, e_divmod, e_isNon, e_isntNon, e_isB, e_isntB, e_setIx, e_insert, e_append, e_isL, e_isLL, e_seqP, e_seqL, e_seqT, e_seqN, it_lst, it_fz, Option.bind_some, Option.isSome_some, ix10, ix20, ix21, ix30, ix32, dl1, dl2, dl3, List.eraseIdx_cons_zero, e_pop0, e_popAt, e_rev, e_clear, e_tupP, e_listP, e_neN, e_neIN, e_neNI, e_eqIN, e_eqNI, at0, at1, at2, at3, Cell.lst.injEq, Cell.obj.injEq, Option.some.injEq, exists_eq_left', decide_eq_true_eq, true_and, and_true, cup_same, cup_cup, wLenSet, wSrtIt, List.flatten_nil, List.flatten_cons, enOf, endOf, excOf, List.map_cons, List.map_nil, List.length_cons, List.length_nil, List.replicate, Nat.reduceAdd, Nat.reduceSub, List.cons_append, List.nil_append, List.set_cons_zero, List.set_cons_succ, List.getElem?_cons_zero, List.getElem?_cons_succ, List.getElem_cons_zero, List.getElem_cons_succ, reduceCtorEq, if_true, if_false, Bool.false_eq_true, decide_true, decide_false, ne_eq, not_true, not_false_eq_true, Int.reduceEq, Nat.reduceMul, true_imp_iff, Int.reduceToNat, Int.reducePow, Nat.reducePow, Int.reduceLE, Int.reduceLT, Nat.reduceLT, and_self, Nat.reduceLeDiff, Int.reduceNeg, Int.reduceAdd, Int.reduceSub, Int.reduceMul, Int.cast_ofNat_Int, lvl_s]
    have sm := gone_same hin0'
    exact go _ c4 (gone_ok ok0 hin0') sm.gran sm.cart ((u123.cle l4).le (by omega))
def w_k84_law (k : Nat) : WS := (sSeq (sSet 1 (wCall 2 c_l_folded k (wCons (wVar 0) (wCons (wC (.int 3)) wNil)))) (sSeq (sFor (wRg1 (wBi oMax (wCons (wC (.int 1)) (wCons (wBi oLen (wCons (wVar 1) wNil)) wNil)))) (.nm 2) (sSeq (sSet 3 (wCall 2 c_l_box k (wCons (wVar 1) (wCons (wVar 2) wNil)))) (sIf (wNot (wTst (wBi oAll (wCons (wLc (wRg1 (wC (.int 3))) (.nm 4) wYes (wCall 1 c_k84_right k (wCons (wVar 3) wNil)) [4]) wNil)))) (sRet (wC (.bl false))) sNil))) (sRet (wC (.bl true)))))
def c_k84_law := c_lawOf
theorem p_k84_law (k : Nat) (ds : List D) (c : Cs) (Q : DK) (X0 : XK0) (hlen0 : ds.length = 1) (h : c_k84_law k ds c Q X0) : w_k84_law k (endOf Q) (excOf X0) (enOf 5 ds) c := by
  obtain ⟨ns, rfl, h63, hk, q⟩ := h
  obtain ⟨k, rfl⟩ : ∃ k', k = k' + 30 := ⟨k - 30, by omega⟩
  simp only [w_k84_law, sRaise, sTry, wIsX, wWhat, wBack, lo_lst, e_mulV, sizeL, sNil, sSeq, sPass, sBrk, sCont, sExpr, sRet, sRetN, sIf, sNever, sSet, sAug, gNm, gTp, gNil', gCons', gSb, sAsg, sPar, sFor, wVar_z, wVar_s, wC, wChn, wTru, sPar3, wRev, wCallK, permF, List.filterMap_cons, List.filterMap_nil, wBin, wUn, wTst, wNot, wAnd, wOr, wAndV, wOrV, wNotV, wIf, wNil, wCons, wTup, wLst, wLstL, wFz, wCall, wBi, wMt, wMt0, wSl, wSlL, wPart, wNoPart, wYes, wSeq, wRg1, wRg2, wEnum, wZip, wLc, wLcL, wLRg, wFld, sFldS, sFldA, gFld, wMeth, wMake, lvl2_s, onB, e_eqI, e_neI, e_eqB, e_neB, e_eqS, e_neS, e_eqN, e_tyLT, e_ty1, isTys, tyMem, tyN_non, tyN_bl, tyN_int, tyN_str, tyN_tup, tyN_lst, Bool.true_or, Bool.or_true, Bool.or_false, Bool.false_or, Bool.not_true, Bool.not_false, inn_non, inn_bl, inn_int, inn_str, inn_tup, inn_lst, inn_ptr, e_slT, e_slL, e_slN, isT_P, isT_L, isT_T, isT_N, e_sub, e_fdiv, e_mod, e_pow, e_lt, e_le, e_gt, e_ge, e_neg, e_add, e_addS, e_addT, e_addL, e_addPP, e_addPL, e_addLP, e_mul, e_mulL, e_mulT, e_augI, e_ixT, e_ixL, e_ixN, e_ixP, e_lenT, e_lenL, e_lenN, e_lenS, e_lenP, e_abs, e_intI, e_intB, e_max, e_min, e_tupL, e_tupT, e_listL, e_listT, e_listN, e_listLL, e_listLT, e_divmod, e_isNon, e_isntNon, e_isB, e_isntB, e_setIx, e_insert, e_append, e_isL, e_isLL, e_seqP, e_seqL, e_seqT, e_seqN, it_lst, it_fz, Option.bind_some, Option.isSome_some, ix10, ix20, ix21, ix30, ix32, dl1, dl2, dl3, List.eraseIdx_cons_zero, e_pop0, e_popAt, e_rev, e_clear, e_tupP, e_listP, e_neN, e_neIN, e_neNI, e_eqIN, e_eqNI, at0, at1, at2, at3, Cell.lst.injEq, Cell.obj.injEq, Option.some.injEq, exists_eq_left', decide_eq_true_eq, true_and, and_true, cup_same, cup_cup, wLenSet, wSrtIt, List.flatten_nil, List.flatten_cons, enOf, endOf, excOf, List.map_cons, List.map_nil, List.length_cons, List.length_nil, List.replicate, Nat.reduceAdd, Nat.reduceSub, List.cons_append, List.nil_append, List.set_cons_zero, List.set_cons_succ, List.getElem?_cons_zero, List.getElem?_cons_succ, List.getElem_cons_zero, List.getElem_cons_succ, reduceCtorEq, if_true, if_false, Bool.false_eq_true, decide_true, decide_false, ne_eq, not_true, not_false_eq_true, Int.reduceEq, Nat.reduceMul, true_imp_iff, Int.reduceToNat, Int.reducePow, Nat.reducePow, Int.reduceLE, Int.reduceLT, Nat.reduceLT, and_self, Nat.reduceLeDiff, Int.reduceNeg, Int.reduceAdd, Int.reduceSub, Int.reduceMul, Int.cast_ofNat_Int, lvl_s]
  refine ⟨ns, 3, rfl, h63, by omega, by omega, fun ms hms => ?_⟩
  have hc := cells_le hms
  simp only [sRaise, sTry, wIsX, wWhat, wBack, lo_lst, e_mulV, sizeL, sNil, sSeq, sPass, sBrk, sCont, sExpr, sRet, sRetN, sIf, sNever, sSet, sAug, gNm, gTp, gNil', gCons', gSb, sAsg, sPar, sFor, wVar_z, wVar_s, wC, wChn, wTru, sPar3, wRev, wCallK, permF, List.filterMap_cons, List.filterMap_nil, wBin, wUn, wTst, wNot, wAnd, wOr, wAndV, wOrV, wNotV, wIf, wNil, wCons, wTup, wLst, wLstL, wFz, wCall, wBi, wMt, wMt0, wSl, wSlL, wPart, wNoPart, wYes, wSeq, wRg1, wRg2, wEnum, wZip, wLc, wLcL, wLRg, wFld, sFldS, sFldA, gFld, wMeth, wMake, lvl2_s, onB, e_eqI, e_neI, e_eqB, e_neB, e_eqS, e_neS, e_eqN, e_tyLT, e_ty1, isTys, tyMem, tyN_non, tyN_bl, tyN_int, tyN_str, tyN_tup, tyN_lst, Bool.true_or, Bool.or_true, Bool.or_false, Bool.false_or, Bool.not_true, Bool.not_false, inn_non, inn_bl, inn_int, inn_str, inn_tup, inn_lst, inn_ptr, e_slT, e_slL, e_slN, isT_P, isT_L, isT_T, isT_N, e_sub, e_fdiv, e_mod, e_pow, e_lt, e_le, e_gt, e_ge, e_neg, e_add, e_addS, e_addT, e_addL, e_addPP, e_addPL, e_addLP, e_mul, e_mulL, e_mulT, e_augI, e_ixT, e_ixL, e_ixN, e_ixP, e_lenT, e_lenL, e_lenN, e_lenS, e_lenP, e_abs, e_intI, e_intB, e_max, e_min, e_tupL, e_tupT, e_listL, e_listT, e_listN, e_listLL, e_listLT, e_divmod, e_isNon, e_isntNon, e_isB, e_isntB, e_setIx, e_insert, e_append, e_isL, e_isLL, e_seqP, e_seqL, e_seqT, e_seqN, it_lst, it_fz, Option.bind_some, Option.isSome_some, ix10, ix20, ix21, ix30, ix32, dl1, dl2, dl3, List.eraseIdx_cons_zero, e_pop0, e_popAt, e_rev, e_clear, e_tupP, e_listP, e_neN, e_neIN, e_neNI, e_eqIN, e_eqNI, at0, at1, at2, at3, Cell.lst.injEq, Cell.obj.injEq, Option.some.injEq, exists_eq_left', decide_eq_true_eq, true_and, and_true, cup_same, cup_cup, wLenSet, wSrtIt, List.flatten_nil, List.flatten_cons, enOf, endOf, excOf, List.map_cons, List.map_nil, List.length_cons, List.length_nil, List.replicate, Nat.reduceAdd, Nat.reduceSub, List.cons_append, List.nil_append, List.set_cons_zero, List.set_cons_succ, List.getElem?_cons_zero, List.getElem?_cons_succ, List.getElem_cons_zero, List.getElem_cons_succ, reduceCtorEq, if_true, if_false, Bool.false_eq_true, decide_true, decide_false, ne_eq, not_true, not_false_eq_true, Int.reduceEq, Nat.reduceMul, true_imp_iff, Int.reduceToNat, Int.reducePow, Nat.reducePow, Int.reduceLE, Int.reduceLT, Nat.reduceLT, and_self, Nat.reduceLeDiff, Int.reduceNeg, Int.reduceAdd, Int.reduceSub, Int.reduceMul, Int.cast_ofNat_Int, lvl_s]
  generalize (if ((ms.map D.int).length : Int) > 1 then ((ms.map D.int).length : Int) else 1) = mx at hc ⊢
  refine ⟨by omega, by omega, ?_⟩
  refine loop_inv (fun i en c' => ∃ o2 o3, en = [some (.scr ns), some (.lst (ms.map .int)), o2, o3, none]) ⟨_, _, rfl⟩ ?_ ?_
  · rintro i en c' d hd ⟨o2, o3, rfl⟩
    obtain ⟨j, rfl, hj0, hj1⟩ := rgD0_mem (List.mem_of_getElem? hd)
    refine ⟨trivial, _, rfl, fun D1 h5 h6 h7 h8 => ?_⟩
    simp only [sRaise, sTry, wIsX, wWhat, wBack, lo_lst, e_mulV, sizeL, sNil, sSeq, sPass, sBrk, sCont, sExpr, sRet, sRetN, sIf, sNever, sSet, sAug, gNm, gTp, gNil', gCons', gSb, sAsg, sPar, sFor, wVar_z, wVar_s, wC, wChn, wTru, sPar3, wRev, wCallK, permF, List.filterMap_cons, List.filterMap_nil, wBin, wUn, wTst, wNot, wAnd, wOr, wAndV, wOrV, wNotV, wIf, wNil, wCons, wTup, wLst, wLstL, wFz, wCall, wBi, wMt, wMt0, wSl, wSlL, wPart, wNoPart, wYes, wSeq, wRg1, wRg2, wEnum, wZip, wLc, wLcL, wLRg, wFld, sFldS, sFldA, gFld, wMeth, wMake, lvl2_s, onB, e_eqI, e_neI, e_eqB, e_neB, e_eqS, e_neS, e_eqN, e_tyLT, e_ty1, isTys, tyMem, tyN_non, tyN_bl, tyN_int, tyN_str, tyN_tup, tyN_lst, Bool.true_or, Bool.or_true, Bool.or_false, Bool.false_or, Bool.not_true, Bool.not_false, inn_non, inn_bl, inn_int, inn_str, inn_tup, inn_lst, inn_ptr, e_slT, e_slL, e_slN, isT_P, isT_L, isT_T, isT_N, e_sub, e_fdiv, e_mod, e_pow, e_lt, e_le, e_gt, e_ge, e_neg, e_add, e_addS, e_addT, e_addL, e_addPP, e_addPL, e_addLP, e_mul, e_mulL, e_mulT, e_augI, e_ixT, e_ixL, e_ixN, e_ixP, e_lenT, e_lenL, e_lenN, e_lenS, e_lenP, e_abs, e_intI, e_intB, e_max, e_min, e_tupL, e_tupT, e_listL, e_listT, e_listN, e_listLL, e_listLT, e_divmod, e_isNon, e_isntNon, e_isB, e_isntB, e_setIx, e_insert, e_append, e_isL, e_isLL, e_seqP, e_seqL, e_seqT, e_seqN, it_lst, it_fz, Option.bind_some, Option.isSome_some, ix10, ix20, ix21, ix30, ix32, dl1, dl2, dl3, List.eraseIdx_cons_zero, e_pop0, e_popAt, e_rev, e_clear, e_tupP, e_listP, e_neN, e_neIN, e_neNI, e_eqIN, e_eqNI, at0, at1, at2, at3, Cell.lst.injEq, Cell.obj.injEq, Option.some.injEq, exists_eq_left', decide_eq_true_eq, true_and, and_true, cup_same, cup_cup, wLenSet, wSrtIt, List.flatten_nil, List.flatten_cons, enOf, endOf, excOf, List.map_cons, List.map_nil, List.length_cons, List.length_nil, List.replicate, Nat.reduceAdd, Nat.reduceSub, List.cons_append, List.nil_append, List.set_cons_zero, List.set_cons_succ, List.getElem?_cons_zero, List.getElem?_cons_succ, List.getElem_cons_zero, List.getElem_cons_succ, reduceCtorEq, if_true, if_false, Bool.false_eq_true, decide_true, decide_false, ne_eq, not_true, not_false_eq_true, Int.reduceEq, Nat.reduceMul, true_imp_iff, Int.reduceToNat, Int.reducePow, Nat.reducePow, Int.reduceLE, Int.reduceLT, Nat.reduceLT, and_self, Nat.reduceLeDiff, Int.reduceNeg, Int.reduceAdd, Int.reduceSub, Int.reduceMul, Int.cast_ofNat_Int, lvl_s]
    refine ⟨ms, j, rfl, hj0, by omega, fun p c1 hp u => ?_⟩
    simp only [sRaise, sTry, wIsX, wWhat, wBack, lo_lst, e_mulV, sizeL, sNil, sSeq, sPass, sBrk, sCont, sExpr, sRet, sRetN, sIf, sNever, sSet, sAug, gNm, gTp, gNil', gCons', gSb, sAsg, sPar, sFor, wVar_z, wVar_s, wC, wChn, wTru, sPar3, wRev, wCallK, permF, List.filterMap_cons, List.filterMap_nil, wBin, wUn, wTst, wNot, wAnd, wOr, wAndV, wOrV, wNotV, wIf, wNil, wCons, wTup, wLst, wLstL, wFz, wCall, wBi, wMt, wMt0, wSl, wSlL, wPart, wNoPart, wYes, wSeq, wRg1, wRg2, wEnum, wZip, wLc, wLcL, wLRg, wFld, sFldS, sFldA, gFld, wMeth, wMake, lvl2_s, onB, e_eqI, e_neI, e_eqB, e_neB, e_eqS, e_neS, e_eqN, e_tyLT, e_ty1, isTys, tyMem, tyN_non, tyN_bl, tyN_int, tyN_str, tyN_tup, tyN_lst, Bool.true_or, Bool.or_true, Bool.or_false, Bool.false_or, Bool.not_true, Bool.not_false, inn_non, inn_bl, inn_int, inn_str, inn_tup, inn_lst, inn_ptr, e_slT, e_slL, e_slN, isT_P, isT_L, isT_T, isT_N, e_sub, e_fdiv, e_mod, e_pow, e_lt, e_le, e_gt, e_ge, e_neg, e_add, e_addS, e_addT, e_addL, e_addPP, e_addPL, e_addLP, e_mul, e_mulL, e_mulT, e_augI, e_ixT, e_ixL, e_ixN, e_ixP, e_lenT, e_lenL, e_lenN, e_lenS, e_lenP, e_abs, e_intI, e_intB, e_max, e_min, e_tupL, e_tupT, e_listL, e_listT, e_listN, e_listLL, e_listLT, e_divmod, e_isNon, e_isntNon, e_isB, e_isntB, e_setIx, e_insert, e_append, e_isL, e_isLL, e_seqP, e_seqL, e_seqT, e_seqN, it_lst, it_fz, Option.bind_some, Option.isSome_some, ix10, ix20, ix21, ix30, ix32, dl1, dl2, dl3, List.eraseIdx_cons_zero, e_pop0, e_popAt, e_rev, e_clear, e_tupP, e_listP, e_neN, e_neIN, e_neNI, e_eqIN, e_eqNI, at0, at1, at2, at3, Cell.lst.injEq, Cell.obj.injEq, Option.some.injEq, exists_eq_left', decide_eq_true_eq, true_and, and_true, cup_same, cup_cup, wLenSet, wSrtIt, List.flatten_nil, List.flatten_cons, enOf, endOf, excOf, List.map_cons, List.map_nil, List.length_cons, List.length_nil, List.replicate, Nat.reduceAdd, Nat.reduceSub, List.cons_append, List.nil_append, List.set_cons_zero, List.set_cons_succ, List.getElem?_cons_zero, List.getElem?_cons_succ, List.getElem_cons_zero, List.getElem_cons_succ, reduceCtorEq, if_true, if_false, Bool.false_eq_true, decide_true, decide_false, ne_eq, not_true, not_false_eq_true, Int.reduceEq, Nat.reduceMul, true_imp_iff, Int.reduceToNat, Int.reducePow, Nat.reducePow, Int.reduceLE, Int.reduceLT, Nat.reduceLT, and_self, Nat.reduceLeDiff, Int.reduceNeg, Int.reduceAdd, Int.reduceSub, Int.reduceMul, Int.cast_ofNat_Int, lvl_s]
    refine ⟨by rw [rgD0_len]; omega, lc_box (C := 600000) (fun y => y = .bl true) (by omega) u.1 (fun d hd c2 M l1 l2 hu => ⟨trivial, _, rfl, fun Q kk => ?_⟩) fun acc c2 h1 h2 h3 => ⟨trivial, e_allT h2 ?_⟩⟩
    · rw [rgD0_len] at l2
      simp only [sRaise, sTry, wIsX, wWhat, wBack, lo_lst, e_mulV, sizeL, sNil, sSeq, sPass, sBrk, sCont, sExpr, sRet, sRetN, sIf, sNever, sSet, sAug, gNm, gTp, gNil', gCons', gSb, sAsg, sPar, sFor, wVar_z, wVar_s, wC, wChn, wTru, sPar3, wRev, wCallK, permF, List.filterMap_cons, List.filterMap_nil, wBin, wUn, wTst, wNot, wAnd, wOr, wAndV, wOrV, wNotV, wIf, wNil, wCons, wTup, wLst, wLstL, wFz, wCall, wBi, wMt, wMt0, wSl, wSlL, wPart, wNoPart, wYes, wSeq, wRg1, wRg2, wEnum, wZip, wLc, wLcL, wLRg, wFld, sFldS, sFldA, gFld, wMeth, wMake, lvl2_s, onB, e_eqI, e_neI, e_eqB, e_neB, e_eqS, e_neS, e_eqN, e_tyLT, e_ty1, isTys, tyMem, tyN_non, tyN_bl, tyN_int, tyN_str, tyN_tup, tyN_lst, Bool.true_or, Bool.or_true, Bool.or_false, Bool.false_or, Bool.not_true, Bool.not_false, inn_non, inn_bl, inn_int, inn_str, inn_tup, inn_lst, inn_ptr, e_slT, e_slL, e_slN, isT_P, isT_L, isT_T, isT_N, e_sub, e_fdiv, e_mod, e_pow, e_lt, e_le, e_gt, e_ge, e_neg, e_add, e_addS, e_addT, e_addL, e_addPP, e_addPL, e_addLP, e_mul, e_mulL, e_mulT, e_augI, e_ixT, e_ixL, e_ixN, e_ixP, e_lenT, e_lenL, e_lenN, e_lenS, e_lenP, e_abs, e_intI, e_intB, e_max, e_min, e_tupL, e_tupT, e_listL, e_listT, e_listN, e_listLL, e_listLT, e_divmod, e_isNon, e_isntNon, e_isB, e_isntB, e_setIx, e_insert, e_append, e_isL, e_isLL, e_seqP, e_seqL, e_seqT, e_seqN, it_lst, it_fz, Option.bind_some, Option.isSome_some, ix10, ix20, ix21, ix30, ix32, dl1, dl2, dl3, List.eraseIdx_cons_zero, e_pop0, e_popAt, e_rev, e_clear, e_tupP, e_listP, e_neN, e_neIN, e_neNI, e_eqIN, e_eqNI, at0, at1, at2, at3, Cell.lst.injEq, Cell.obj.injEq, Option.some.injEq, exists_eq_left', decide_eq_true_eq, true_and, and_true, cup_same, cup_cup, wLenSet, wSrtIt, List.flatten_nil, List.flatten_cons, enOf, endOf, excOf, List.map_cons, List.map_nil, List.length_cons, List.length_nil, List.replicate, Nat.reduceAdd, Nat.reduceSub, List.cons_append, List.nil_append, List.set_cons_zero, List.set_cons_succ, List.getElem?_cons_zero, List.getElem?_cons_succ, List.getElem_cons_zero, List.getElem_cons_succ, reduceCtorEq, if_true, if_false, Bool.false_eq_true, decide_true, decide_false, ne_eq, not_true, not_false_eq_true, Int.reduceEq, Nat.reduceMul, true_imp_iff, Int.reduceToNat, Int.reducePow, Nat.reducePow, Int.reduceLE, Int.reduceLT, Nat.reduceLT, and_self, Nat.reduceLeDiff, Int.reduceNeg, Int.reduceAdd, Int.reduceSub, Int.reduceMul, Int.cast_ofNat_Int, ewipe, lvl_s]
      exact ⟨p, M, rfl, by omega, hu.1, by omega, fun c' u' => kk _ _ rfl u'⟩
    · simp only [sRaise, sTry, wIsX, wWhat, wBack, lo_lst, e_mulV, sizeL, sNil, sSeq, sPass, sBrk, sCont, sExpr, sRet, sRetN, sIf, sNever, sSet, sAug, gNm, gTp, gNil', gCons', gSb, sAsg, sPar, sFor, wVar_z, wVar_s, wC, wChn, wTru, sPar3, wRev, wCallK, permF, List.filterMap_cons, List.filterMap_nil, wBin, wUn, wTst, wNot, wAnd, wOr, wAndV, wOrV, wNotV, wIf, wNil, wCons, wTup, wLst, wLstL, wFz, wCall, wBi, wMt, wMt0, wSl, wSlL, wPart, wNoPart, wYes, wSeq, wRg1, wRg2, wEnum, wZip, wLc, wLcL, wLRg, wFld, sFldS, sFldA, gFld, wMeth, wMake, lvl2_s, onB, e_eqI, e_neI, e_eqB, e_neB, e_eqS, e_neS, e_eqN, e_tyLT, e_ty1, isTys, tyMem, tyN_non, tyN_bl, tyN_int, tyN_str, tyN_tup, tyN_lst, Bool.true_or, Bool.or_true, Bool.or_false, Bool.false_or, Bool.not_true, Bool.not_false, inn_non, inn_bl, inn_int, inn_str, inn_tup, inn_lst, inn_ptr, e_slT, e_slL, e_slN, isT_P, isT_L, isT_T, isT_N, e_sub, e_fdiv, e_mod, e_pow, e_lt, e_le, e_gt, e_ge, e_neg, e_add, e_addS, e_addT, e_addL, e_addPP, e_addPL, e_addLP, e_mul, e_mulL, e_mulT, e_augI, e_ixT, e_ixL, e_ixN, e_ixP, e_lenT, e_lenL, e_lenN, e_lenS, e_lenP, e_abs, e_intI, e_intB, e_max, e_min, e_tupL, e_tupT, e_listL, e_listT, e_listN, e_listLL, e_listLT, e_divmod, e_isNon, e_isntNon, e_isB, e_isntB, e_setIx, e_insert, e_append, e_isL, e_isLL, e_seqP, e_seqL, e_seqT, e_seqN, it_lst, it_fz, Option.bind_some, Option.isSome_some, ix10, ix20, ix21, ix30, ix32, dl1, dl2, dl3, List.eraseIdx_cons_zero, e_pop0, e_popAt, e_rev, e_clear, e_tupP, e_listP, e_neN, e_neIN, e_neNI, e_eqIN, e_eqNI, at0, at1, at2, at3, Cell.lst.injEq, Cell.obj.injEq, Option.some.injEq, exists_eq_left', decide_eq_true_eq, true_and, and_true, cup_same, cup_cup, wLenSet, wSrtIt, List.flatten_nil, List.flatten_cons, enOf, endOf, excOf, List.map_cons, List.map_nil, List.length_cons, List.length_nil, List.replicate, Nat.reduceAdd, Nat.reduceSub, List.cons_append, List.nil_append, List.set_cons_zero, List.set_cons_succ, List.getElem?_cons_zero, List.getElem?_cons_succ, List.getElem_cons_zero, List.getElem_cons_succ, reduceCtorEq, if_true, if_false, Bool.false_eq_true, decide_true, decide_false, ne_eq, not_true, not_false_eq_true, Int.reduceEq, Nat.reduceMul, true_imp_iff, Int.reduceToNat, Int.reducePow, Nat.reducePow, Int.reduceLE, Int.reduceLT, Nat.reduceLT, and_self, Nat.reduceLeDiff, Int.reduceNeg, Int.reduceAdd, Int.reduceSub, Int.reduceMul, Int.cast_ofNat_Int]
      exact h5 _ _ ⟨_, _, rfl⟩
  · rintro en c' ⟨o2, o3, rfl⟩
    refine ⟨trivial, ?_⟩
    simp only [sRaise, sTry, wIsX, wWhat, wBack, lo_lst, e_mulV, sizeL, sNil, sSeq, sPass, sBrk, sCont, sExpr, sRet, sRetN, sIf, sNever, sSet, sAug, gNm, gTp, gNil', gCons', gSb, sAsg, sPar, sFor, wVar_z, wVar_s, wC, wChn, wTru, sPar3, wRev, wCallK, permF, List.filterMap_cons, List.filterMap_nil, wBin, wUn, wTst, wNot, wAnd, wOr, wAndV, wOrV, wNotV, wIf, wNil, wCons, wTup, wLst, wLstL, wFz, wCall, wBi, wMt, wMt0, wSl, wSlL, wPart, wNoPart, wYes, wSeq, wRg1, wRg2, wEnum, wZip, wLc, wLcL, wLRg, wFld, sFldS, sFldA, gFld, wMeth, wMake, lvl2_s, onB, e_eqI, e_neI, e_eqB, e_neB, e_eqS, e_neS, e_eqN, e_tyLT, e_ty1, isTys, tyMem, tyN_non, tyN_bl, tyN_int, tyN_str, tyN_tup, tyN_lst, Bool.true_or, Bool.or_true, Bool.or_false, Bool.false_or, Bool.not_true, Bool.not_false, inn_non, inn_bl, inn_int, inn_str, inn_tup, inn_lst, inn_ptr, e_slT, e_slL, e_slN, isT_P, isT_L, isT_T, isT_N, e_sub, e_fdiv, e_mod, e_pow, e_lt, e_le, e_gt, e_ge, e_neg, e_add, e_addS, e_addT, e_addL, e_addPP, e_addPL, e_addLP, e_mul, e_mulL, e_mulT, e_augI, e_ixT, e_ixL, e_ixN, e_ixP, e_lenT, e_lenL, e_lenN, e_lenS, e_lenP, e_abs, e_intI, e_intB, e_max, e_min, e_tupL, e_tupT, e_listL, e_listT, e_listN, e_listLL, e_listLT, e_divmod, e_isNon, e_isntNon, e_isB, e_isntB, e_setIx, e_insert, e_append, e_isL, e_isLL, e_seqP, e_seqL, e_seqT, e_seqN, it_lst, it_fz, Option.bind_some, Option.isSome_some, ix10, ix20, ix21, ix30, ix32, dl1, dl2, dl3, List.eraseIdx_cons_zero, e_pop0, e_popAt, e_rev, e_clear, e_tupP, e_listP, e_neN, e_neIN, e_neNI, e_eqIN, e_eqNI, at0, at1, at2, at3, Cell.lst.injEq, Cell.obj.injEq, Option.some.injEq, exists_eq_left', decide_eq_true_eq, true_and, and_true, cup_same, cup_cup, wLenSet, wSrtIt, List.flatten_nil, List.flatten_cons, enOf, endOf, excOf, List.map_cons, List.map_nil, List.length_cons, List.length_nil, List.replicate, Nat.reduceAdd, Nat.reduceSub, List.cons_append, List.nil_append, List.set_cons_zero, List.set_cons_succ, List.getElem?_cons_zero, List.getElem?_cons_succ, List.getElem_cons_zero, List.getElem_cons_succ, reduceCtorEq, if_true, if_false, Bool.false_eq_true, decide_true, decide_false, ne_eq, not_true, not_false_eq_true, Int.reduceEq, Nat.reduceMul, true_imp_iff, Int.reduceToNat, Int.reducePow, Nat.reducePow, Int.reduceLE, Int.reduceLT, Nat.reduceLT, and_self, Nat.reduceLeDiff, Int.reduceNeg, Int.reduceAdd, Int.reduceSub, Int.reduceMul, Int.cast_ofNat_Int, lvl_s]
    exact ⟨c', CLe.refl _, q _⟩
theorem k84_ct (ns : List Int) (h : ns.length ≤ 63) : c_k84_law 40 [.scr ns] (fun _ => none) (fun d _ => d = .bl true) (fun _ _ _ => False) := ⟨ns, rfl, h, by omega, fun _ => rfl⟩
end VL
namespace VL
open PySem PySem.Spec PyProof.Rows L2
def topS (i : Nat) : Stmt := PySem.Challenge.pw_midcarts_k84_whole_all_that_was_ahead.main.body.getD i (.Pass ⟨0, 0, 0, 0⟩)
abbrev s_as_tuples : Stmt := topS 6
theorem sc_as_tuples : FnScope ["thing", "part"] ["thing"] (defScope s_as_tuples) := ⟨rfl, rfl, rfl, by decide +kernel, rfl, by decide +kernel, by decide +kernel⟩
abbrev s_exchanged_word : Stmt := topS 8
theorem sc_exchanged_word : FnScope ["granary", "load", "low", "high"] ["granary", "load"] (defScope s_exchanged_word) := ⟨rfl, rfl, rfl, by decide +kernel, rfl, by decide +kernel, by decide +kernel⟩
abbrev s_exchanged : Stmt := topS 9
theorem sc_exchanged : FnScope ["world", "cart", "granary", "word", "load", "granaries", "carts", "low", "high", "pair", "out"] ["world", "cart", "granary", "word"] (defScope s_exchanged) := ⟨rfl, rfl, rfl, by decide +kernel, rfl, by decide +kernel, by decide +kernel⟩
abbrev s_look_cart : Stmt := topS 10
theorem sc_look_cart : FnScope ["world", "cart"] ["world", "cart"] (defScope s_look_cart) := ⟨rfl, rfl, rfl, by decide +kernel, rfl, by decide +kernel, by decide +kernel⟩
abbrev s_look_granary : Stmt := topS 11
theorem sc_look_granary : FnScope ["world", "granary"] ["world", "granary"] (defScope s_look_granary) := ⟨rfl, rfl, rfl, by decide +kernel, rfl, by decide +kernel, by decide +kernel⟩
abbrev s_look_coming : Stmt := topS 12
theorem sc_look_coming : FnScope ["world", "coming", "cart", "granary"] ["world", "coming"] (defScope s_look_coming) := ⟨rfl, rfl, rfl, by decide +kernel, rfl, by decide +kernel, by decide +kernel⟩
abbrev s_came : Stmt := topS 13
theorem sc_came : FnScope ["world", "coming", "here", "load", "word", "behind", "cart", "granary"] ["world", "coming"] (defScope s_came) := ⟨rfl, rfl, rfl, by decide +kernel, rfl, by decide +kernel, by decide +kernel⟩
abbrev s_gone : Stmt := topS 14
theorem sc_gone : FnScope ["world", "comings", "coming", "here", "told", "place", "toll"] ["world", "comings"] (defScope s_gone) := ⟨rfl, rfl, rfl, by decide +kernel, rfl, by decide +kernel, by decide +kernel⟩
abbrev s_words_ahead : Stmt := topS 16
theorem sc_words_ahead : FnScope ["granary", "load", "found", "low", "high"] ["granary", "load"] (defScope s_words_ahead) := ⟨rfl, rfl, rfl, by decide +kernel, rfl, by decide +kernel, by decide +kernel⟩
abbrev s_ahead : Stmt := topS 17
theorem sc_ahead : FnScope ["world", "coming", "here", "cart", "granary", "pair", "load", "word"] ["world", "coming"] (defScope s_ahead) := ⟨rfl, rfl, rfl, by decide +kernel, rfl, by decide +kernel, by decide +kernel⟩
abbrev s_all_ahead : Stmt := topS 18
theorem sc_all_ahead : FnScope ["world", "comings", "here", "coming", "found", "behind", "one"] ["world", "comings"] (defScope s_all_ahead) := ⟨rfl, rfl, rfl, by decide +kernel, rfl, by decide +kernel, by decide +kernel⟩
abbrev s_l_box : Stmt := topS 20
theorem sc_l_box : FnScope ["_law_script", "_law_k", "_law_cell"] ["_law_script", "_law_k"] (defScope s_l_box) := ⟨rfl, rfl, rfl, by decide +kernel, rfl, by decide +kernel, by decide +kernel⟩
abbrev s_l_take : Stmt := topS 21
theorem sc_l_take : FnScope ["_law_box_here", "_law_size", "_law_step", "_law_once", "_law_twice", "_law_found"] ["_law_box_here", "_law_size"] (defScope s_l_take) := ⟨rfl, rfl, rfl, by decide +kernel, rfl, by decide +kernel, by decide +kernel⟩
abbrev s_l_folded : Stmt := topS 22
theorem sc_l_folded : FnScope ["_law_script", "_law_size", "_law_cells", "_law_k", "_law_cell"] ["_law_script", "_law_size"] (defScope s_l_folded) := ⟨rfl, rfl, rfl, by decide +kernel, rfl, by decide +kernel, by decide +kernel⟩
abbrev s_l_same : Stmt := topS 23
theorem sc_l_same : FnScope ["_law_found", "_law_wanted", "_law_one", "_law_other"] ["_law_found", "_law_wanted"] (defScope s_l_same) := ⟨rfl, rfl, rfl, by decide +kernel, rfl, by decide +kernel, by decide +kernel⟩
abbrev s_l_of : Stmt := topS 24
theorem sc_l_of : FnScope ["_law_box_here", "_law_some"] ["_law_box_here", "_law_some"] (defScope s_l_of) := ⟨rfl, rfl, rfl, by decide +kernel, rfl, by decide +kernel, by decide +kernel⟩
abbrev s_l_lists : Stmt := topS 25
theorem sc_l_lists : FnScope ["_law_thing", "_law_one"] ["_law_thing"] (defScope s_l_lists) := ⟨rfl, rfl, rfl, by decide +kernel, rfl, by decide +kernel, by decide +kernel⟩
abbrev s_l_load : Stmt := topS 26
theorem sc_l_load : FnScope ["_law_box_here", "_law_wide", "_law_far"] ["_law_box_here", "_law_wide"] (defScope s_l_load) := ⟨rfl, rfl, rfl, by decide +kernel, rfl, by decide +kernel, by decide +kernel⟩
abbrev s_l_granary : Stmt := topS 27
theorem sc_l_granary : FnScope ["_law_box_here", "_law_wide", "_law_way", "_law_one", "_law_other"] ["_law_box_here", "_law_wide"] (defScope s_l_granary) := ⟨rfl, rfl, rfl, by decide +kernel, rfl, by decide +kernel, by decide +kernel⟩
abbrev s_l_world : Stmt := topS 28
theorem sc_l_world : FnScope ["_law_box_here", "_law_most", "_law_carts", "_law_wide", "_law_granaries", "_law_turn"] ["_law_box_here", "_law_most", "_law_carts"] (defScope s_l_world) := ⟨rfl, rfl, rfl, by decide +kernel, rfl, by decide +kernel, by decide +kernel⟩
abbrev s_l_came : Stmt := topS 29
theorem sc_l_came : FnScope ["_law_world_here", "_law_coming", "_law_some", "_law_least", "_law_greatest", "_law_place", "_law_cart", "_law_number", "_law_granaries", "_law_carts", "_law_low", "_law_high", "_law_toll", "_law_load_here"] ["_law_world_here", "_law_coming"] (defScope s_l_came) := ⟨rfl, rfl, rfl, by decide +kernel, rfl, by decide +kernel, by decide +kernel⟩
abbrev s_l_all_comings : Stmt := topS 30
theorem sc_l_all_comings : FnScope ["_law_world_here", "_law_found", "_law_cart", "_law_number"] ["_law_world_here"] (defScope s_l_all_comings) := ⟨rfl, rfl, rfl, by decide +kernel, rfl, by decide +kernel, by decide +kernel⟩
abbrev s_l_comings : Stmt := topS 31
theorem sc_l_comings : FnScope ["_law_box_here", "_law_world_here", "_law_many", "_law_some", "_law_turn"] ["_law_box_here", "_law_world_here", "_law_many"] (defScope s_l_comings) := ⟨rfl, rfl, rfl, by decide +kernel, rfl, by decide +kernel, by decide +kernel⟩
abbrev s_l_changed : Stmt := topS 32
theorem sc_l_changed : FnScope ["_law_world_here", "_law_coming", "_law_at", "_law_granaries", "_law_cart", "_law_number", "_law_pair", "_law_load_here"] ["_law_world_here", "_law_coming", "_law_at"] (defScope s_l_changed) := ⟨rfl, rfl, rfl, by decide +kernel, rfl, by decide +kernel, by decide +kernel⟩
abbrev s_l_back : Stmt := topS 33
theorem sc_l_back : FnScope ["_law_world_here", "_law_coming", "_law_some", "_law_found", "_law_one", "_law_at"] ["_law_world_here", "_law_coming"] (defScope s_l_back) := ⟨rfl, rfl, rfl, by decide +kernel, rfl, by decide +kernel, by decide +kernel⟩
abbrev s_l_right : Stmt := topS 34
theorem sc_l_right : FnScope ["_law_box_here", "_law_begun", "_law_comings_here", "_law_world_here", "_law_right_here", "_law_coming", "_law_told", "_law_cut", "_law_some", "_law_middle", "_law_found", "_law_behind", "_law_still", "_law_one"] ["_law_box_here"] (defScope s_l_right) := ⟨rfl, rfl, rfl, by decide +kernel, rfl, by decide +kernel, by decide +kernel⟩
abbrev s_law : Stmt := topS 35
theorem sc_law : FnScope ["_law_script", "_law_cells", "_law_k", "_law_box_here", "_law_turn"] ["_law_script"] (defScope s_law) := ⟨rfl, rfl, rfl, by decide +kernel, rfl, by decide +kernel, by decide +kernel⟩
section
variable {P : Program} {w : World} {K : PySem.W.Frag} {mg : Str → Option Value} {base : Heap} {k : Nat}
theorem d_as_tuples (b_list : mg "list" = none) (b_tuple : mg "tuple" = none) (b_isinstance : mg "isinstance" = none) (C_as_tuples : Cal P w K mg base k "as_tuples" 1 c_as_tuples) (f : Addr) (cdv : Value) (A : Around) (outer : List PySem.Env) (s : Shared) (H : Hp) (E : XK) (hr : Room k (A.deeper (envOfC "as_tuples" (defScope s_as_tuples) s.heap.objs.size f cdv))) (hg : A.guards = some []) :
    JSs (cxOf (L2.CX P w) P w K mg base ["thing", "part"] "as_tuples" (defScope s_as_tuples) f cdv A outer s H E) (WXE E) (defBody s_as_tuples) (w_as_tuples k) := by
  have S := sc_as_tuples
  have tk : Takes (cxOf (L2.CX P w) P w K mg base ["thing", "part"] "as_tuples" (defScope s_as_tuples) f cdv A outer s H E) (WXE E) := takes_of rfl rfl rfl rfl
  exact (jss_cons (js_if (jt_val (je_bi c_isi b_isinstance PyProof.Rows.boot_isinstance (ja_cons (je_var 0) (ja_cons (je_tup (ja_cons (je_ty (n := "list") b_list PyProof.Rows.boot_list) (ja_cons (je_ty (n := "tuple") b_tuple PyProof.Rows.boot_tuple) ja_nil))) ja_nil)))) (jss_one (js_ret (je_bt c_tuple b_tuple PyProof.Rows.boot_tuple (ja_cons (je_lc (own := [("part", 1)]) rfl S.nd (ji_seq (je_var 0)) (blkOk_by rfl) (fun _ _ _ _ _ => (jt_nm 1 S.nd)) (fun _ _ _ _ _ => jts_nil) (fun _ _ _ _ _ => (je_call C_as_tuples hr hg takes0 (ja_cons (je_var 1) ja_nil)))) ja_nil)))) jss_nil) (jss_one (js_ret (je_var 0))))
theorem d_exchanged_word (k_LOW : ∃ t, mg "LOW" = some (.str "low" t)) (k_HIGH : ∃ t, mg "HIGH" = some (.str "high" t)) (f : Addr) (cdv : Value) (A : Around) (outer : List PySem.Env) (s : Shared) (H : Hp) (E : XK) (hr : Room k (A.deeper (envOfC "exchanged_word" (defScope s_exchanged_word) s.heap.objs.size f cdv))) (hg : A.guards = some []) :
    JSs (cxOf (L2.CX P w) P w K mg base ["granary", "load", "low", "high"] "exchanged_word" (defScope s_exchanged_word) f cdv A outer s H E) (WXE E) (defBody s_exchanged_word) (w_exchanged_word k) := by
  have S := sc_exchanged_word
  have tk : Takes (cxOf (L2.CX P w) P w K mg base ["granary", "load", "low", "high"] "exchanged_word" (defScope s_exchanged_word) f cdv A outer s H E) (WXE E) := takes_of rfl rfl rfl rfl
  exact (jss_cons (js_asg (je_var 0) (jg_tp rfl (jgs_cons (jg_nm 2 S.nd) (jgs_cons (jg_nm 3 S.nd) jgs_nil)))) (jss_cons (js_if (JW.jt (jw_and (jt_cmp r_isnot (je_var 2) je_non) (jw_and1 (jt_cmp r_lt (je_var 1) (je_var 2))))) (jss_one (js_ret (je_gs k_LOW))) jss_nil) (jss_one (js_ret (je_ifx (JW.jt (jw_and (jt_cmp r_isnot (je_var 3) je_non) (jw_and1 (jt_cmp r_gt (je_var 1) (je_var 3))))) (je_gs k_HIGH) je_non)))))
theorem d_exchanged (k_LOW : ∃ t, mg "LOW" = some (.str "low" t)) (f : Addr) (cdv : Value) (A : Around) (outer : List PySem.Env) (s : Shared) (H : Hp) (E : XK) (hr : Room k (A.deeper (envOfC "exchanged" (defScope s_exchanged) s.heap.objs.size f cdv))) (hg : A.guards = some []) :
    JSs (cxOf (L2.CX P w) P w K mg base ["world", "cart", "granary", "word", "load", "granaries", "carts", "low", "high", "pair", "out"] "exchanged" (defScope s_exchanged) f cdv A outer s H E) (WXE E) (defBody s_exchanged) (w_exchanged k) := by
  have S := sc_exchanged
  have tk : Takes (cxOf (L2.CX P w) P w K mg base ["world", "cart", "granary", "word", "load", "granaries", "carts", "low", "high", "pair", "out"] "exchanged" (defScope s_exchanged) f cdv A outer s H E) (WXE E) := takes_of rfl rfl rfl rfl
  exact (jss_cons (js_asg (je_var 0) (jg_tp rfl (jgs_cons (jg_nm 5 S.nd) (jgs_cons (jg_nm 6 S.nd) jgs_nil)))) (jss_cons (js_asg (je_ix (je_var 5) (je_var 2)) (jg_tp rfl (jgs_cons (jg_nm 7 S.nd) (jgs_cons (jg_nm 8 S.nd) jgs_nil)))) (jss_cons (js_set 4 S.nd (je_ix (je_var 6) (je_var 1))) (jss_cons (js_asg (je_ifx (jt_cmp (r_eq hr) (je_var 3) (je_gs k_LOW)) (je_tup (ja_cons (je_tup (ja_cons (je_var 4) (ja_cons (je_var 8) ja_nil))) (ja_cons (je_var 7) ja_nil))) (je_tup (ja_cons (je_tup (ja_cons (je_var 7) (ja_cons (je_var 4) ja_nil))) (ja_cons (je_var 8) ja_nil)))) (jg_tp rfl (jgs_cons (jg_nm 9 S.nd) (jgs_cons (jg_nm 10 S.nd) jgs_nil)))) (jss_one (js_ret (je_tup (ja_cons (je_bin r_add (je_bin r_add (je_sl (je_var 5) jo_none (jo_some (je_var 2))) (je_tup (ja_cons (je_var 9) ja_nil))) (je_sl (je_var 5) (jo_some (je_bin r_add (je_var 2) je_int)) jo_none)) (ja_cons (je_bin r_add (je_bin r_add (je_sl (je_var 6) jo_none (jo_some (je_var 1))) (je_tup (ja_cons (je_var 10) ja_nil))) (je_sl (je_var 6) (jo_some (je_bin r_add (je_var 1) je_int)) jo_none)) ja_nil)))))))))
theorem d_look_cart (b_len : mg "len" = none) (f : Addr) (cdv : Value) (A : Around) (outer : List PySem.Env) (s : Shared) (H : Hp) (E : XK) (hr : Room k (A.deeper (envOfC "look_cart" (defScope s_look_cart) s.heap.objs.size f cdv))) (hg : A.guards = some []) :
    JSs (cxOf (L2.CX P w) P w K mg base ["world", "cart"] "look_cart" (defScope s_look_cart) f cdv A outer s H E) (WXE E) (defBody s_look_cart) (w_look_cart k) := by
  have S := sc_look_cart
  have tk : Takes (cxOf (L2.CX P w) P w K mg base ["world", "cart"] "look_cart" (defScope s_look_cart) f cdv A outer s H E) (WXE E) := takes_of rfl rfl rfl rfl
  exact (jss_one (js_if (jt_not (jt_chn r_le r_lt je_int (je_var 1) (je_bi c_len b_len PySem.boot_len (ja_cons (je_ix (je_var 0) je_int) ja_nil)))) (jss_one js_never) jss_nil))
theorem d_look_granary (b_len : mg "len" = none) (f : Addr) (cdv : Value) (A : Around) (outer : List PySem.Env) (s : Shared) (H : Hp) (E : XK) (hr : Room k (A.deeper (envOfC "look_granary" (defScope s_look_granary) s.heap.objs.size f cdv))) (hg : A.guards = some []) :
    JSs (cxOf (L2.CX P w) P w K mg base ["world", "granary"] "look_granary" (defScope s_look_granary) f cdv A outer s H E) (WXE E) (defBody s_look_granary) (w_look_granary k) := by
  have S := sc_look_granary
  have tk : Takes (cxOf (L2.CX P w) P w K mg base ["world", "granary"] "look_granary" (defScope s_look_granary) f cdv A outer s H E) (WXE E) := takes_of rfl rfl rfl rfl
  exact (jss_one (js_if (jt_not (jt_chn r_le r_lt je_int (je_var 1) (je_bi c_len b_len PySem.boot_len (ja_cons (je_ix (je_var 0) je_int) ja_nil)))) (jss_one js_never) jss_nil))
theorem d_look_coming (C_look_cart : Cal P w K mg base k "look_cart" 2 c_look_cart) (C_look_granary : Cal P w K mg base k "look_granary" 2 c_look_granary) (f : Addr) (cdv : Value) (A : Around) (outer : List PySem.Env) (s : Shared) (H : Hp) (E : XK) (hr : Room k (A.deeper (envOfC "look_coming" (defScope s_look_coming) s.heap.objs.size f cdv))) (hg : A.guards = some []) :
    JSs (cxOf (L2.CX P w) P w K mg base ["world", "coming", "cart", "granary"] "look_coming" (defScope s_look_coming) f cdv A outer s H E) (WXE E) (defBody s_look_coming) (w_look_coming k) := by
  have S := sc_look_coming
  have tk : Takes (cxOf (L2.CX P w) P w K mg base ["world", "coming", "cart", "granary"] "look_coming" (defScope s_look_coming) f cdv A outer s H E) (WXE E) := takes_of rfl rfl rfl rfl
  exact (jss_cons (js_asg (je_var 1) (jg_tp rfl (jgs_cons (jg_nm 2 S.nd) (jgs_cons (jg_nm 3 S.nd) jgs_nil)))) (jss_cons (js_expr (je_call C_look_cart hr hg tk (ja_cons (je_var 0) (ja_cons (je_var 2) ja_nil)))) (jss_one (js_expr (je_call C_look_granary hr hg tk (ja_cons (je_var 0) (ja_cons (je_var 3) ja_nil)))))))
theorem d_came (b_abs : mg "abs" = none) (C_as_tuples : Cal P w K mg base k "as_tuples" 1 c_as_tuples) (C_look_coming : Cal P w K mg base k "look_coming" 2 c_look_coming) (C_exchanged_word : Cal P w K mg base k "exchanged_word" 2 c_exchanged_word) (C_exchanged : Cal P w K mg base k "exchanged" 4 c_exchanged) (f : Addr) (cdv : Value) (A : Around) (outer : List PySem.Env) (s : Shared) (H : Hp) (E : XK) (hr : Room k (A.deeper (envOfC "came" (defScope s_came) s.heap.objs.size f cdv))) (hg : A.guards = some []) :
    JSs (cxOf (L2.CX P w) P w K mg base ["world", "coming", "here", "load", "word", "behind", "cart", "granary"] "came" (defScope s_came) f cdv A outer s H E) (WXE E) (defBody s_came) (w_came k) := by
  have S := sc_came
  have tk : Takes (cxOf (L2.CX P w) P w K mg base ["world", "coming", "here", "load", "word", "behind", "cart", "granary"] "came" (defScope s_came) f cdv A outer s H E) (WXE E) := takes_of rfl rfl rfl rfl
  exact (jss_cons (js_set 2 S.nd (je_call C_as_tuples hr hg tk (ja_cons (je_var 0) ja_nil))) (jss_cons (js_expr (je_call C_look_coming hr hg tk (ja_cons (je_var 2) (ja_cons (je_var 1) ja_nil)))) (jss_cons (js_asg (je_var 1) (jg_tp rfl (jgs_cons (jg_nm 6 S.nd) (jgs_cons (jg_nm 7 S.nd) jgs_nil)))) (jss_cons (js_set 3 S.nd (je_ix (je_ix (je_var 2) je_int) (je_var 6))) (jss_cons (js_set 4 S.nd (je_call C_exchanged_word hr hg tk (ja_cons (je_ix (je_ix (je_var 2) je_int) (je_var 7)) (ja_cons (je_var 3) ja_nil)))) (jss_cons (js_if (jt_cmp r_is (je_var 4) je_non) (jss_one (js_ret (je_tup (ja_cons (je_var 2) (ja_cons je_non (ja_cons je_int ja_nil)))))) jss_nil) (jss_cons (js_set 5 S.nd (je_call C_exchanged hr hg tk (ja_cons (je_var 2) (ja_cons (je_var 6) (ja_cons (je_var 7) (ja_cons (je_var 4) ja_nil)))))) (jss_one (js_ret (je_tup (ja_cons (je_var 5) (ja_cons (je_tup (ja_cons (je_var 7) (ja_cons (je_var 4) ja_nil))) (ja_cons (je_bi c_abs b_abs PyProof.Rows.boot_abs (ja_cons (je_bin r_sub (je_ix (je_ix (je_var 5) je_int) (je_var 6)) (je_var 3)) ja_nil)) ja_nil)))))))))))))
theorem d_gone (C_as_tuples : Cal P w K mg base k "as_tuples" 1 c_as_tuples) (C_came : Cal P w K mg base k "came" 2 c_came) (f : Addr) (cdv : Value) (A : Around) (outer : List PySem.Env) (s : Shared) (H : Hp) (E : XK) (hr : Room k (A.deeper (envOfC "gone" (defScope s_gone) s.heap.objs.size f cdv))) (hg : A.guards = some []) :
    JSs (cxOf (L2.CX P w) P w K mg base ["world", "comings", "coming", "here", "told", "place", "toll"] "gone" (defScope s_gone) f cdv A outer s H E) (WXE E) (defBody s_gone) (w_gone k) := by
  have S := sc_gone
  have tk : Takes (cxOf (L2.CX P w) P w K mg base ["world", "comings", "coming", "here", "told", "place", "toll"] "gone" (defScope s_gone) f cdv A outer s H E) (WXE E) := takes_of rfl rfl rfl rfl
  exact (jss_cons (js_par 3 4 rfl S.nd (ja_cons (je_call C_as_tuples hr hg tk (ja_cons (je_var 0) ja_nil)) (ja_cons (je_lstL ja_nil) ja_nil))) (jss_cons (js_for (passes_of rfl) rfl (ji_seq (je_var 1)) (jt_nm 2 S.nd) (jss_cons (js_asg (je_call C_came hr hg tk (ja_cons (je_var 3) (ja_cons (je_var 2) ja_nil))) (jg_tp rfl (jgs_cons (jg_nm 3 S.nd) (jgs_cons (jg_nm 5 S.nd) (jgs_cons (jg_nm 6 S.nd) jgs_nil))))) (jss_one (js_expr (je_mt m_append PySem.F.plainAttrs_list PySem.F.slot_list_append PySem.F.type_list_append (je_var 4) (ja_cons (je_tup (ja_cons (je_var 5) (ja_cons (je_var 6) ja_nil))) ja_nil)))))) (jss_one (js_ret (je_tup (ja_cons (je_var 3) (ja_cons (je_var 4) ja_nil)))))))
theorem d_words_ahead (b_int : mg "int" = none) (k_LOW : ∃ t, mg "LOW" = some (.str "low" t)) (k_HIGH : ∃ t, mg "HIGH" = some (.str "high" t)) (C_exchanged_word : Cal P w K mg base k "exchanged_word" 2 c_exchanged_word) (f : Addr) (cdv : Value) (A : Around) (outer : List PySem.Env) (s : Shared) (H : Hp) (E : XK) (hr : Room k (A.deeper (envOfC "words_ahead" (defScope s_words_ahead) s.heap.objs.size f cdv))) (hg : A.guards = some []) :
    JSs (cxOf (L2.CX P w) P w K mg base ["granary", "load", "found", "low", "high"] "words_ahead" (defScope s_words_ahead) f cdv A outer s H E) (WXE E) (defBody s_words_ahead) (w_words_ahead k) := by
  have S := sc_words_ahead
  have tk : Takes (cxOf (L2.CX P w) P w K mg base ["granary", "load", "found", "low", "high"] "words_ahead" (defScope s_words_ahead) f cdv A outer s H E) (WXE E) := takes_of rfl rfl rfl rfl
  exact (jss_cons (js_asg (je_var 0) (jg_tp rfl (jgs_cons (jg_nm 3 S.nd) (jgs_cons (jg_nm 4 S.nd) jgs_nil)))) (jss_cons (js_if (jt_cmp r_isnot (je_call C_exchanged_word hr hg tk (ja_cons (je_var 0) (ja_cons (je_var 1) ja_nil))) je_non) (jss_one (js_ret (je_lst ja_nil))) jss_nil) (jss_cons (js_set 2 S.nd (je_ifx (JW.jt (jw_and (jt_cmp r_isnot (je_var 3) je_non) (jw_and1 (jt_cmp r_lt (je_var 3) (je_var 1))))) (je_lst (ja_cons (je_gs k_LOW) ja_nil)) (je_lst ja_nil))) (jss_one (js_ret (je_bin r_add (je_var 2) (je_bin r_mul (je_lst (ja_cons (je_gs k_HIGH) ja_nil)) (je_bt c_int b_int PyProof.Rows.boot_int (ja_cons (je_and (je_cmp r_isnot (je_var 4) je_non) (je_one (je_cmp r_gt (je_var 4) (je_var 1)))) ja_nil)))))))))
theorem d_ahead (C_as_tuples : Cal P w K mg base k "as_tuples" 1 c_as_tuples) (C_look_coming : Cal P w K mg base k "look_coming" 2 c_look_coming) (C_exchanged_word : Cal P w K mg base k "exchanged_word" 2 c_exchanged_word) (C_words_ahead : Cal P w K mg base k "words_ahead" 2 c_words_ahead) (C_exchanged : Cal P w K mg base k "exchanged" 4 c_exchanged) (f : Addr) (cdv : Value) (A : Around) (outer : List PySem.Env) (s : Shared) (H : Hp) (E : XK) (hr : Room k (A.deeper (envOfC "ahead" (defScope s_ahead) s.heap.objs.size f cdv))) (hg : A.guards = some []) :
    JSs (cxOf (L2.CX P w) P w K mg base ["world", "coming", "here", "cart", "granary", "pair", "load", "word"] "ahead" (defScope s_ahead) f cdv A outer s H E) (WXE E) (defBody s_ahead) (w_ahead83 k) := by
  have S := sc_ahead
  have tk : Takes (cxOf (L2.CX P w) P w K mg base ["world", "coming", "here", "cart", "granary", "pair", "load", "word"] "ahead" (defScope s_ahead) f cdv A outer s H E) (WXE E) := takes_of rfl rfl rfl rfl
  exact (jss_cons (js_set 2 S.nd (je_call C_as_tuples hr hg tk (ja_cons (je_var 0) ja_nil))) (jss_cons (js_expr (je_call C_look_coming hr hg tk (ja_cons (je_var 2) (ja_cons (je_var 1) ja_nil)))) (jss_cons (js_asg (je_var 1) (jg_tp rfl (jgs_cons (jg_nm 3 S.nd) (jgs_cons (jg_nm 4 S.nd) jgs_nil)))) (jss_cons (js_par 5 6 rfl S.nd (ja_cons (je_ix (je_ix (je_var 2) je_int) (je_var 4)) (ja_cons (je_ix (je_ix (je_var 2) je_int) (je_var 3)) ja_nil))) (jss_cons (js_if (jt_cmp r_isnot (je_call C_exchanged_word hr hg tk (ja_cons (je_var 5) (ja_cons (je_var 6) ja_nil))) je_non) (jss_one (js_ret (je_lst ja_nil))) jss_nil) (jss_one (js_ret (je_bin r_add (je_lst (ja_cons (je_var 2) ja_nil)) (je_lc (own := [("word", 7)]) rfl S.nd (ji_seq (je_call C_words_ahead hr hg tk (ja_cons (je_var 5) (ja_cons (je_var 6) ja_nil)))) (blkOk_by rfl) (fun _ _ _ _ _ => (jt_nm 7 S.nd)) (fun _ _ _ _ _ => jts_nil) (fun _ _ _ _ _ => (je_call C_exchanged hr hg takes0 (ja_cons (je_var 2) (ja_cons (je_var 3) (ja_cons (je_var 4) (ja_cons (je_var 7) ja_nil)))))))))))))))
theorem d_all_ahead (b_reversed : mg "reversed" = none) (C_as_tuples : Cal P w K mg base k "as_tuples" 1 c_as_tuples) (C_look_coming : Cal P w K mg base k "look_coming" 2 c_look_coming) (C_ahead : Cal P w K mg base k "ahead" 2 c_ahead83) (f : Addr) (cdv : Value) (A : Around) (outer : List PySem.Env) (s : Shared) (H : Hp) (E : XK) (hr : Room k (A.deeper (envOfC "all_ahead" (defScope s_all_ahead) s.heap.objs.size f cdv))) (hg : A.guards = some []) :
    JSs (cxOf (L2.CX P w) P w K mg base ["world", "comings", "here", "coming", "found", "behind", "one"] "all_ahead" (defScope s_all_ahead) f cdv A outer s H E) (WXE E) (defBody s_all_ahead) (w_all_ahead84 k) := by
  have S := sc_all_ahead
  have tk : Takes (cxOf (L2.CX P w) P w K mg base ["world", "comings", "here", "coming", "found", "behind", "one"] "all_ahead" (defScope s_all_ahead) f cdv A outer s H E) (WXE E) := takes_of rfl rfl rfl rfl
  exact (jss_cons (js_set 2 S.nd (je_call C_as_tuples hr hg tk (ja_cons (je_var 0) ja_nil))) (jss_cons (js_for (passes_of rfl) rfl (ji_seq (je_var 1)) (jt_nm 3 S.nd) (jss_one (js_expr (je_call C_look_coming hr hg tk (ja_cons (je_var 2) (ja_cons (je_var 3) ja_nil)))))) (jss_cons (js_set 4 S.nd (je_lst (ja_cons (je_var 2) ja_nil))) (jss_cons (js_for (passes_of rfl) rfl (ji_rev b_reversed (je_var 1)) (jt_nm 3 S.nd) (jss_one (js_setLc2 (own := [("behind", 5), ("one", 6)]) (vs1 := [6]) 4 rfl S.nd (sw_true rfl rfl rfl (by decide +kernel)) (ji_seq (je_var 4)) (blkOk_by rfl) (fun _ _ _ _ _ => (jt_nm 5 S.nd)) (fun _ _ _ _ _ => jts_nil) (fun _ _ _ _ _ => (ji_seq (je_call C_ahead hr hg takes0 (ja_cons (je_var 5) (ja_cons (je_var 3) ja_nil))))) (fun _ _ _ _ _ => (jt_nm 6 S.nd)) (fun _ _ _ _ _ => jts_nil) (fun _ _ _ _ _ => (je_var 6))))) (jss_one (js_ret (je_var 4)))))))
theorem d_l_box (b_len : mg "len" = none) (b_abs : mg "abs" = none) (b_int : mg "int" = none) (f : Addr) (cdv : Value) (A : Around) (outer : List PySem.Env) (s : Shared) (H : Hp) (E : XK) (hr : Room k (A.deeper (envOfC "_law_box" (defScope s_l_box) s.heap.objs.size f cdv))) (hg : A.guards = some []) :
    JSs (cxOf (L2.CX P w) P w K mg base ["_law_script", "_law_k", "_law_cell"] "_law_box" (defScope s_l_box) f cdv A outer s H E) (WXE E) (defBody s_l_box) (w_l_box k) := by
  have S := sc_l_box
  have tk : Takes (cxOf (L2.CX P w) P w K mg base ["_law_script", "_law_k", "_law_cell"] "_law_box" (defScope s_l_box) f cdv A outer s H E) (WXE E) := takes_of rfl rfl rfl rfl
  exact (jss_cons (js_set 2 S.nd (je_ifx (jt_cmp r_lt (je_var 1) (je_bi c_len b_len PySem.boot_len (ja_cons (je_var 0) ja_nil))) (je_ix (je_var 0) (je_var 1)) je_int)) (jss_one (js_ret (je_lstL (ja_cons (je_bin r_mul (je_bi c_abs b_abs PyProof.Rows.boot_abs (ja_cons (je_var 2) ja_nil)) (je_bt c_int b_int PyProof.Rows.boot_int (ja_cons (je_cmp r_ge (je_bi c_abs b_abs PyProof.Rows.boot_abs (ja_cons (je_var 2) ja_nil)) (je_bin r_pow je_int je_int)) ja_nil))) (ja_cons (je_bin r_mod (je_bin r_mul (je_bin r_add (je_bin r_add (je_bin r_mod (je_var 2) je_int) (je_bin r_mul je_int (je_var 1))) je_int) je_int) je_int) (ja_cons je_int ja_nil)))))))
theorem d_l_take (b_divmod : mg "divmod" = none) (C_l_take : Cal P w K mg base k "_law_take" 2 c_l_take) (f : Addr) (cdv : Value) (A : Around) (outer : List PySem.Env) (s : Shared) (H : Hp) (E : XK) (hr : Room k (A.deeper (envOfC "_law_take" (defScope s_l_take) s.heap.objs.size f cdv))) (hg : A.guards = some []) :
    JSs (cxOf (L2.CX P w) P w K mg base ["_law_box_here", "_law_size", "_law_step", "_law_once", "_law_twice", "_law_found"] "_law_take" (defScope s_l_take) f cdv A outer s H E) (WXE E) (defBody s_l_take) (w_l_take k) := by
  have S := sc_l_take
  have tk : Takes (cxOf (L2.CX P w) P w K mg base ["_law_box_here", "_law_size", "_law_step", "_law_once", "_law_twice", "_law_found"] "_law_take" (defScope s_l_take) f cdv A outer s H E) (WXE E) := takes_of rfl rfl rfl rfl
  exact (jss_cons (js_if (jt_cmp r_gt (je_ix (je_var 0) je_int) je_int) (jss_cons (js_asg (je_bi c_divmod b_divmod PyProof.Rows.boot_divmod (ja_cons (je_ix (je_var 0) je_int) (ja_cons (je_var 1) ja_nil))) (jg_tp rfl (jgs_cons (jg_sb (je_var 0) je_int) (jgs_cons (jg_nm 5 S.nd) jgs_nil)))) (jss_one (js_ret (je_var 5)))) jss_nil) (jss_cons (js_if (jt_cmp r_gt (je_var 1) (je_bin r_pow je_int je_int)) (jss_one (js_ret (je_bin r_mod (je_bin r_add (je_call C_l_take hr hg tk (ja_cons (je_var 0) (ja_cons (je_bin r_pow je_int je_int) ja_nil))) (je_bin r_mul (je_bin r_pow je_int je_int) (je_call C_l_take hr hg tk (ja_cons (je_var 0) (ja_cons (je_bin r_add (je_bin r_fdiv (je_bin r_sub (je_var 1) je_int) (je_bin r_pow je_int je_int)) je_int) ja_nil))))) (je_var 1)))) jss_nil) (jss_cons (js_asg (je_bin r_add (je_ix (je_var 0) je_int) je_int) (jg_sb (je_var 0) je_int)) (jss_cons (js_set 2 S.nd (je_bin r_add je_int (je_bin r_mul (je_ix (je_var 0) je_int) (je_ix (je_var 0) je_int)))) (jss_cons (js_set 3 S.nd (je_bin r_mod (je_bin r_mul (je_bin r_add (je_ix (je_var 0) je_int) (je_bin r_mul je_int (je_ix (je_var 0) je_int))) (je_var 2)) je_int)) (jss_cons (js_set 4 S.nd (je_bin r_mod (je_bin r_add (je_bin r_mul (je_var 3) (je_bin r_add (je_bin r_mod (je_var 3) je_int) je_int)) (je_ix (je_var 0) je_int)) je_int)) (jss_one (js_ret (je_bin r_mod (je_bin r_fdiv (je_bin r_mod (je_bin r_mul (je_var 4) (je_bin r_add (je_bin r_mod (je_var 4) je_int) je_int)) je_int) je_int) (je_var 1))))))))))
theorem d_l_folded (b_list : mg "list" = none) (b_enumerate : mg "enumerate" = none) (f : Addr) (cdv : Value) (A : Around) (outer : List PySem.Env) (s : Shared) (H : Hp) (E : XK) (hr : Room k (A.deeper (envOfC "_law_folded" (defScope s_l_folded) s.heap.objs.size f cdv))) (hg : A.guards = some []) :
    JSs (cxOf (L2.CX P w) P w K mg base ["_law_script", "_law_size", "_law_cells", "_law_k", "_law_cell"] "_law_folded" (defScope s_l_folded) f cdv A outer s H E) (WXE E) (defBody s_l_folded) (w_l_folded k) := by
  have S := sc_l_folded
  have tk : Takes (cxOf (L2.CX P w) P w K mg base ["_law_script", "_law_size", "_law_cells", "_law_k", "_law_cell"] "_law_folded" (defScope s_l_folded) f cdv A outer s H E) (WXE E) := takes_of rfl rfl rfl rfl
  exact (jss_cons (js_set 2 S.nd (je_bt c_listL b_list PyProof.Rows.boot_list (ja_cons (je_sl (je_var 0) jo_none (jo_some (je_var 1))) ja_nil))) (jss_cons (js_for (passes_of rfl) rfl (ji_enum b_enumerate (je_sl (je_var 0) (jo_some (je_var 1)) (jo_some je_int))) (jt_tp rfl (jtgs_cons (jt_nm 3 S.nd) (jtgs_cons (jt_nm 4 S.nd) jtgs_nil))) (jss_one (js_asg (je_bin r_add (je_ix (je_var 2) (je_bin r_mod (je_var 3) (je_var 1))) (je_bin r_mul (je_var 4) (je_bin r_add (je_var 3) je_int))) (jg_sb (je_var 2) (je_bin r_mod (je_var 3) (je_var 1)))))) (jss_one (js_ret (je_fz (je_var 2))))))
theorem d_l_same (b_list : mg "list" = none) (b_tuple : mg "tuple" = none) (b_isinstance : mg "isinstance" = none) (b_len : mg "len" = none) (b_zip : mg "zip" = none) (b_all : mg "all" = none) (b_str : mg "str" = none) (b_int : mg "int" = none) (b_bool : mg "bool" = none) (C_l_same : Cal P w K mg base k "_law_same" 2 c_l_same) (f : Addr) (cdv : Value) (A : Around) (outer : List PySem.Env) (s : Shared) (H : Hp) (E : XK) (hr : Room k (A.deeper (envOfC "_law_same" (defScope s_l_same) s.heap.objs.size f cdv))) (hg : A.guards = some []) :
    JSs (cxOf (L2.CX P w) P w K mg base ["_law_found", "_law_wanted", "_law_one", "_law_other"] "_law_same" (defScope s_l_same) f cdv A outer s H E) (WXE E) (defBody s_l_same) (w_l_same k) := by
  have S := sc_l_same
  have tk : Takes (cxOf (L2.CX P w) P w K mg base ["_law_found", "_law_wanted", "_law_one", "_law_other"] "_law_same" (defScope s_l_same) f cdv A outer s H E) (WXE E) := takes_of rfl rfl rfl rfl
  exact (jss_cons (js_if (jt_val (je_bi c_isi b_isinstance PyProof.Rows.boot_isinstance (ja_cons (je_var 1) (ja_cons (je_tup (ja_cons (je_ty (n := "list") b_list PyProof.Rows.boot_list) (ja_cons (je_ty (n := "tuple") b_tuple PyProof.Rows.boot_tuple) ja_nil))) ja_nil)))) (jss_cons (js_if (JW.jt (jw_or (jt_cmp (r_ne hr) (je_bi c_isi b_isinstance PyProof.Rows.boot_isinstance (ja_cons (je_var 0) (ja_cons (je_ty (n := "list") b_list PyProof.Rows.boot_list) ja_nil))) (je_bi c_isi b_isinstance PyProof.Rows.boot_isinstance (ja_cons (je_var 1) (ja_cons (je_ty (n := "list") b_list PyProof.Rows.boot_list) ja_nil)))) (jw_or1 (jt_cmp (r_ne hr) (je_bi c_isi b_isinstance PyProof.Rows.boot_isinstance (ja_cons (je_var 0) (ja_cons (je_ty (n := "tuple") b_tuple PyProof.Rows.boot_tuple) ja_nil))) (je_bi c_isi b_isinstance PyProof.Rows.boot_isinstance (ja_cons (je_var 1) (ja_cons (je_ty (n := "tuple") b_tuple PyProof.Rows.boot_tuple) ja_nil))))))) (jss_one (js_ret je_bl)) jss_nil) (jss_one (js_ret (je_and (je_cmp (r_eq hr) (je_bi c_len b_len PySem.boot_len (ja_cons (je_var 0) ja_nil)) (je_bi c_len b_len PySem.boot_len (ja_cons (je_var 1) ja_nil))) (je_one (je_bi (c_all rfl) b_all PyProof.Rows.boot_all (ja_cons (je_lc (own := [("_law_one", 2), ("_law_other", 3)]) rfl S.nd (ji_zip b_zip (je_var 0) (je_var 1)) (blkOk_by rfl) (fun _ _ _ _ _ => (jt_tp rfl (jtgs_cons (jt_nm 2 S.nd) (jtgs_cons (jt_nm 3 S.nd) jtgs_nil)))) (fun _ _ _ _ _ => jts_nil) (fun _ _ _ _ _ => (je_call C_l_same hr hg takes0 (ja_cons (je_var 2) (ja_cons (je_var 3) ja_nil))))) ja_nil))))))) jss_nil) (jss_cons (js_if (JW.jt (jw_or (jt_cmp r_is (je_var 1) je_non) (jw_or1 (jt_val (je_bi c_isi b_isinstance PyProof.Rows.boot_isinstance (ja_cons (je_var 1) (ja_cons (je_ty (n := "str") b_str (by decide +kernel)) ja_nil))))))) (jss_one (js_ret (je_and (je_cmp (r_eq hr) (je_var 0) (je_var 1)) (je_one (je_cmp (r_eq hr) (je_bi c_isi b_isinstance PyProof.Rows.boot_isinstance (ja_cons (je_var 0) (ja_cons (je_ty (n := "str") b_str (by decide +kernel)) ja_nil))) (je_bi c_isi b_isinstance PyProof.Rows.boot_isinstance (ja_cons (je_var 1) (ja_cons (je_ty (n := "str") b_str (by decide +kernel)) ja_nil)))))))) jss_nil) (jss_one (js_ret (je_and (je_bi c_isi b_isinstance PyProof.Rows.boot_isinstance (ja_cons (je_var 0) (ja_cons (je_ty (n := "int") b_int PyProof.Rows.boot_int) ja_nil))) (je_and (je_cmp (r_eq hr) (je_bi c_isi b_isinstance PyProof.Rows.boot_isinstance (ja_cons (je_var 0) (ja_cons (je_ty (n := "bool") b_bool (by decide +kernel)) ja_nil))) (je_bi c_isi b_isinstance PyProof.Rows.boot_isinstance (ja_cons (je_var 1) (ja_cons (je_ty (n := "bool") b_bool (by decide +kernel)) ja_nil)))) (je_one (je_cmp (r_eq hr) (je_var 0) (je_var 1)))))))))
theorem d_l_of (b_len : mg "len" = none) (C_l_take : Cal P w K mg base k "_law_take" 2 c_l_take) (f : Addr) (cdv : Value) (A : Around) (outer : List PySem.Env) (s : Shared) (H : Hp) (E : XK) (hr : Room k (A.deeper (envOfC "_law_of" (defScope s_l_of) s.heap.objs.size f cdv))) (hg : A.guards = some []) :
    JSs (cxOf (L2.CX P w) P w K mg base ["_law_box_here", "_law_some"] "_law_of" (defScope s_l_of) f cdv A outer s H E) (WXE E) (defBody s_l_of) (w_l_of k) := by
  have S := sc_l_of
  have tk : Takes (cxOf (L2.CX P w) P w K mg base ["_law_box_here", "_law_some"] "_law_of" (defScope s_l_of) f cdv A outer s H E) (WXE E) := takes_of rfl rfl rfl rfl
  exact (jss_one (js_ret (je_ix (je_var 1) (je_call C_l_take hr hg tk (ja_cons (je_var 0) (ja_cons (je_bi c_len b_len PySem.boot_len (ja_cons (je_var 1) ja_nil)) ja_nil))))))
theorem d_l_lists (b_list : mg "list" = none) (b_tuple : mg "tuple" = none) (b_isinstance : mg "isinstance" = none) (C_l_lists : Cal P w K mg base k "_law_lists" 1 c_l_lists) (f : Addr) (cdv : Value) (A : Around) (outer : List PySem.Env) (s : Shared) (H : Hp) (E : XK) (hr : Room k (A.deeper (envOfC "_law_lists" (defScope s_l_lists) s.heap.objs.size f cdv))) (hg : A.guards = some []) :
    JSs (cxOf (L2.CX P w) P w K mg base ["_law_thing", "_law_one"] "_law_lists" (defScope s_l_lists) f cdv A outer s H E) (WXE E) (defBody s_l_lists) (w_l_lists k) := by
  have S := sc_l_lists
  have tk : Takes (cxOf (L2.CX P w) P w K mg base ["_law_thing", "_law_one"] "_law_lists" (defScope s_l_lists) f cdv A outer s H E) (WXE E) := takes_of rfl rfl rfl rfl
  exact (jss_one (js_ret (je_ifx (jt_val (je_bi c_isi b_isinstance PyProof.Rows.boot_isinstance (ja_cons (je_var 0) (ja_cons (je_tup (ja_cons (je_ty (n := "list") b_list PyProof.Rows.boot_list) (ja_cons (je_ty (n := "tuple") b_tuple PyProof.Rows.boot_tuple) ja_nil))) ja_nil)))) (je_lc (own := [("_law_one", 1)]) rfl S.nd (ji_seq (je_var 0)) (blkOk_by rfl) (fun _ _ _ _ _ => (jt_nm 1 S.nd)) (fun _ _ _ _ _ => jts_nil) (fun _ _ _ _ _ => (je_call C_l_lists hr hg takes0 (ja_cons (je_var 1) ja_nil)))) (je_var 0))))
theorem d_l_load (C_l_take : Cal P w K mg base k "_law_take" 2 c_l_take) (f : Addr) (cdv : Value) (A : Around) (outer : List PySem.Env) (s : Shared) (H : Hp) (E : XK) (hr : Room k (A.deeper (envOfC "_law_load" (defScope s_l_load) s.heap.objs.size f cdv))) (hg : A.guards = some []) :
    JSs (cxOf (L2.CX P w) P w K mg base ["_law_box_here", "_law_wide", "_law_far"] "_law_load" (defScope s_l_load) f cdv A outer s H E) (WXE E) (defBody s_l_load) (w_l_load k) := by
  have S := sc_l_load
  have tk : Takes (cxOf (L2.CX P w) P w K mg base ["_law_box_here", "_law_wide", "_law_far"] "_law_load" (defScope s_l_load) f cdv A outer s H E) (WXE E) := takes_of rfl rfl rfl rfl
  exact (jss_cons (js_set 2 S.nd (je_ix (je_lst (ja_cons je_int (ja_cons je_int (ja_cons (je_bin r_add (je_bin r_mul je_int (je_bin r_pow je_int je_int)) je_int) ja_nil)))) (je_var 1))) (jss_one (js_ret (je_bin r_sub (je_call C_l_take hr hg tk (ja_cons (je_var 0) (ja_cons (je_var 2) ja_nil))) (je_bin r_fdiv (je_var 2) je_int)))))
theorem d_l_granary (b_min : mg "min" = none) (b_max : mg "max" = none) (C_l_take : Cal P w K mg base k "_law_take" 2 c_l_take) (C_l_load : Cal P w K mg base k "_law_load" 2 c_l_load) (f : Addr) (cdv : Value) (A : Around) (outer : List PySem.Env) (s : Shared) (H : Hp) (E : XK) (hr : Room k (A.deeper (envOfC "_law_granary" (defScope s_l_granary) s.heap.objs.size f cdv))) (hg : A.guards = some []) :
    JSs (cxOf (L2.CX P w) P w K mg base ["_law_box_here", "_law_wide", "_law_way", "_law_one", "_law_other"] "_law_granary" (defScope s_l_granary) f cdv A outer s H E) (WXE E) (defBody s_l_granary) (w_l_granary k) := by
  have S := sc_l_granary
  have tk : Takes (cxOf (L2.CX P w) P w K mg base ["_law_box_here", "_law_wide", "_law_way", "_law_one", "_law_other"] "_law_granary" (defScope s_l_granary) f cdv A outer s H E) (WXE E) := takes_of rfl rfl rfl rfl
  exact (jss_cons (js_par3 2 3 4 rfl S.nd (ja_cons (je_call C_l_take hr hg tk (ja_cons (je_var 0) (ja_cons je_int ja_nil))) (ja_cons (je_call C_l_load hr hg tk (ja_cons (je_var 0) (ja_cons (je_var 1) ja_nil))) (ja_cons (je_call C_l_load hr hg tk (ja_cons (je_var 0) (ja_cons (je_var 1) ja_nil))) ja_nil)))) (jss_cons (js_if (jt_cmp (r_eq hr) (je_var 2) je_int) (jss_one (js_ret (je_tup (ja_cons (je_var 3) (ja_cons je_non ja_nil))))) jss_nil) (jss_one (js_ret (je_ifx (jt_cmp (r_eq hr) (je_var 2) je_int) (je_tup (ja_cons je_non (ja_cons (je_var 4) ja_nil))) (je_tup (ja_cons (je_bi (c_min rfl) b_min PyProof.Rows.boot_min (ja_cons (je_var 3) (ja_cons (je_var 4) ja_nil))) (ja_cons (je_bi (c_max rfl) b_max PyProof.Rows.boot_max (ja_cons (je_var 3) (ja_cons (je_var 4) ja_nil))) ja_nil))))))))
theorem d_l_world (b_range : mg "range" = none) (b_tuple : mg "tuple" = none) (C_l_take : Cal P w K mg base k "_law_take" 2 c_l_take) (C_l_granary : Cal P w K mg base k "_law_granary" 2 c_l_granary) (C_l_load : Cal P w K mg base k "_law_load" 2 c_l_load) (f : Addr) (cdv : Value) (A : Around) (outer : List PySem.Env) (s : Shared) (H : Hp) (E : XK) (hr : Room k (A.deeper (envOfC "_law_world" (defScope s_l_world) s.heap.objs.size f cdv))) (hg : A.guards = some []) :
    JSs (cxOf (L2.CX P w) P w K mg base ["_law_box_here", "_law_most", "_law_carts", "_law_wide", "_law_granaries", "_law_turn"] "_law_world" (defScope s_l_world) f cdv A outer s H E) (WXE E) (defBody s_l_world) (w_l_world k) := by
  have S := sc_l_world
  have tk : Takes (cxOf (L2.CX P w) P w K mg base ["_law_box_here", "_law_most", "_law_carts", "_law_wide", "_law_granaries", "_law_turn"] "_law_world" (defScope s_l_world) f cdv A outer s H E) (WXE E) := takes_of rfl rfl rfl rfl
  exact (jss_cons (js_set 3 S.nd (je_call C_l_take hr hg tk (ja_cons (je_var 0) (ja_cons je_int ja_nil)))) (jss_cons (js_setLc (own := [("_law_turn", 5)]) 4 rfl S.nd (sw_true rfl rfl rfl (by decide +kernel)) (ji_rg1 b_range (je_call C_l_take hr hg tk (ja_cons (je_var 0) (ja_cons (je_bin r_add (je_var 1) je_int) ja_nil)))) (blkOk_by rfl) (fun _ _ _ _ _ => (jt_nm 5 S.nd)) (fun _ _ _ _ _ => jts_nil) (fun _ _ _ _ _ => (je_call C_l_granary hr hg takes0 (ja_cons (je_var 0) (ja_cons (je_var 3) ja_nil))))) (jss_one (js_ret (je_tup (ja_cons (je_bt c_tuple b_tuple PyProof.Rows.boot_tuple (ja_cons (je_var 4) ja_nil)) (ja_cons (je_bt c_tuple b_tuple PyProof.Rows.boot_tuple (ja_cons (je_lc (own := [("_law_turn", 5)]) rfl S.nd (ji_rg1 b_range (je_bin r_add je_int (je_call C_l_take hr hg tk (ja_cons (je_var 0) (ja_cons (je_var 2) ja_nil))))) (blkOk_by rfl) (fun _ _ _ _ _ => (jt_nm 5 S.nd)) (fun _ _ _ _ _ => jts_nil) (fun _ _ _ _ _ => (je_call C_l_load hr hg takes0 (ja_cons (je_var 0) (ja_cons (je_var 3) ja_nil))))) ja_nil)) ja_nil)))))))
theorem d_l_came (b_list : mg "list" = none) (b_sorted : mg "sorted" = none) (b_abs : mg "abs" = none) (b_tuple : mg "tuple" = none) (f : Addr) (cdv : Value) (A : Around) (outer : List PySem.Env) (s : Shared) (H : Hp) (E : XK) (hr : Room k (A.deeper (envOfC "_law_came" (defScope s_l_came) s.heap.objs.size f cdv))) (hg : A.guards = some []) :
    JSs (cxOf (L2.CX P w) P w K mg base ["_law_world_here", "_law_coming", "_law_some", "_law_least", "_law_greatest", "_law_place", "_law_cart", "_law_number", "_law_granaries", "_law_carts", "_law_low", "_law_high", "_law_toll", "_law_load_here"] "_law_came" (defScope s_l_came) f cdv A outer s H E) (WXE E) (defBody s_l_came) (w_l_came k) := by
  have S := sc_l_came
  have tk : Takes (cxOf (L2.CX P w) P w K mg base ["_law_world_here", "_law_coming", "_law_some", "_law_least", "_law_greatest", "_law_place", "_law_cart", "_law_number", "_law_granaries", "_law_carts", "_law_low", "_law_high", "_law_toll", "_law_load_here"] "_law_came" (defScope s_l_came) f cdv A outer s H E) (WXE E) := takes_of rfl rfl rfl rfl
  exact (jss_cons (js_asg (je_var 1) (jg_tp rfl (jgs_cons (jg_nm 6 S.nd) (jgs_cons (jg_nm 7 S.nd) jgs_nil)))) (jss_cons (js_par 8 9 rfl S.nd (ja_cons (je_bt c_listL b_list PyProof.Rows.boot_list (ja_cons (je_ix (je_var 0) je_int) ja_nil)) (ja_cons (je_bt c_listL b_list PyProof.Rows.boot_list (ja_cons (je_ix (je_var 0) je_int) ja_nil)) ja_nil))) (jss_cons (js_asg (je_ix (je_var 8) (je_var 7)) (jg_tp rfl (jgs_cons (jg_nm 10 S.nd) (jgs_cons (jg_nm 11 S.nd) jgs_nil)))) (jss_cons (js_set 2 S.nd (je_bi c_sortedL b_sorted PyProof.Rows.boot_sorted (ja_cons (je_lc (own := [("_law_load_here", 13)]) rfl S.nd (ji_seq (je_tup (ja_cons (je_var 10) (ja_cons (je_ix (je_var 9) (je_var 6)) (ja_cons (je_var 11) ja_nil))))) (blkOk_by rfl) (fun _ _ _ _ _ => (jt_nm 13 S.nd)) (fun _ _ _ _ _ => (jts_one (jt_cmp r_isnot (je_var 13) je_non))) (fun _ _ _ _ _ => (je_var 13))) ja_nil))) (jss_cons (js_set 3 S.nd (je_ifx (jt_cmp r_isnot (je_var 10) je_non) (je_mt m_popAt PySem.F.plainAttrs_list PySem.F.slot_list_pop PySem.F.type_list_pop (je_var 2) (ja_cons je_int ja_nil)) je_non)) (jss_cons (js_set 4 S.nd (je_ifx (jt_cmp r_isnot (je_var 11) je_non) (je_mt0 m_pop0 PySem.F.plainAttrs_list PySem.F.slot_list_pop PySem.F.type_list_pop (je_var 2)) je_non)) (jss_cons (js_asg (je_tup (ja_cons (je_tup (ja_cons (je_var 3) (ja_cons (je_var 4) ja_nil))) (ja_cons (je_bi c_abs b_abs PyProof.Rows.boot_abs (ja_cons (je_bin r_sub (je_ix (je_var 2) je_int) (je_ix (je_var 9) (je_var 6))) ja_nil)) ja_nil))) (jg_tp rfl (jgs_cons (jg_sb (je_var 8) (je_var 7)) (jgs_cons (jg_nm 12 S.nd) jgs_nil)))) (jss_cons (js_set 5 S.nd je_non) (jss_cons (js_if (jt_cmp r_gt (je_var 12) je_int) (jss_one (js_set 5 S.nd (je_tup (ja_cons (je_var 7) (ja_cons (je_ifx (jt_cmp (r_ne hr) (je_var 3) (je_var 10)) je_str je_str) ja_nil))))) jss_nil) (jss_cons (js_asg (je_ix (je_var 2) je_int) (jg_sb (je_var 9) (je_var 6))) (jss_one (js_ret (je_tup (ja_cons (je_tup (ja_cons (je_bt c_tuple b_tuple PyProof.Rows.boot_tuple (ja_cons (je_var 8) ja_nil)) (ja_cons (je_bt c_tuple b_tuple PyProof.Rows.boot_tuple (ja_cons (je_var 9) ja_nil)) ja_nil))) (ja_cons (je_var 5) (ja_cons (je_var 12) ja_nil))))))))))))))))
theorem d_l_all_comings (b_len : mg "len" = none) (b_range : mg "range" = none) (f : Addr) (cdv : Value) (A : Around) (outer : List PySem.Env) (s : Shared) (H : Hp) (E : XK) (hr : Room k (A.deeper (envOfC "_law_all_comings" (defScope s_l_all_comings) s.heap.objs.size f cdv))) (hg : A.guards = some []) :
    JSs (cxOf (L2.CX P w) P w K mg base ["_law_world_here", "_law_found", "_law_cart", "_law_number"] "_law_all_comings" (defScope s_l_all_comings) f cdv A outer s H E) (WXE E) (defBody s_l_all_comings) (w_l_all_comings k) := by
  have S := sc_l_all_comings
  have tk : Takes (cxOf (L2.CX P w) P w K mg base ["_law_world_here", "_law_found", "_law_cart", "_law_number"] "_law_all_comings" (defScope s_l_all_comings) f cdv A outer s H E) (WXE E) := takes_of rfl rfl rfl rfl
  exact (jss_cons (js_set 1 S.nd (je_lst ja_nil)) (jss_cons (js_for (passes_of rfl) rfl (ji_rg1 b_range (je_bi c_len b_len PySem.boot_len (ja_cons (je_ix (je_var 0) je_int) ja_nil))) (jt_nm 2 S.nd) (jss_one (js_set 1 S.nd (je_bin r_add (je_var 1) (je_lc (own := [("_law_number", 3)]) rfl S.nd (ji_rg1 b_range (je_bi c_len b_len PySem.boot_len (ja_cons (je_ix (je_var 0) je_int) ja_nil))) (blkOk_by rfl) (fun _ _ _ _ _ => (jt_nm 3 S.nd)) (fun _ _ _ _ _ => jts_nil) (fun _ _ _ _ _ => (je_tup (ja_cons (je_var 2) (ja_cons (je_var 3) ja_nil))))))))) (jss_one (js_ret (je_var 1)))))
theorem d_l_comings (b_range : mg "range" = none) (C_l_all_comings : Cal P w K mg base k "_law_all_comings" 1 c_l_all_comings) (C_l_take : Cal P w K mg base k "_law_take" 2 c_l_take) (C_l_of : Cal P w K mg base k "_law_of" 2 c_l_of) (f : Addr) (cdv : Value) (A : Around) (outer : List PySem.Env) (s : Shared) (H : Hp) (E : XK) (hr : Room k (A.deeper (envOfC "_law_comings" (defScope s_l_comings) s.heap.objs.size f cdv))) (hg : A.guards = some []) :
    JSs (cxOf (L2.CX P w) P w K mg base ["_law_box_here", "_law_world_here", "_law_many", "_law_some", "_law_turn"] "_law_comings" (defScope s_l_comings) f cdv A outer s H E) (WXE E) (defBody s_l_comings) (w_l_comings k) := by
  have S := sc_l_comings
  have tk : Takes (cxOf (L2.CX P w) P w K mg base ["_law_box_here", "_law_world_here", "_law_many", "_law_some", "_law_turn"] "_law_comings" (defScope s_l_comings) f cdv A outer s H E) (WXE E) := takes_of rfl rfl rfl rfl
  exact (jss_cons (js_set 3 S.nd (je_call C_l_all_comings hr hg tk (ja_cons (je_var 1) ja_nil))) (jss_one (js_ret (je_lc (own := [("_law_turn", 4)]) rfl S.nd (ji_rg1 b_range (je_ifx (jt_cmp (r_ne hr) (je_var 3) (je_lst ja_nil)) (je_call C_l_take hr hg tk (ja_cons (je_var 0) (ja_cons (je_bin r_add (je_var 2) je_int) ja_nil))) je_int)) (blkOk_by rfl) (fun _ _ _ _ _ => (jt_nm 4 S.nd)) (fun _ _ _ _ _ => jts_nil) (fun _ _ _ _ _ => (je_call C_l_of hr hg takes0 (ja_cons (je_var 0) (ja_cons (je_var 3) ja_nil))))))))
theorem d_l_changed (b_list : mg "list" = none) (b_tuple : mg "tuple" = none) (f : Addr) (cdv : Value) (A : Around) (outer : List PySem.Env) (s : Shared) (H : Hp) (E : XK) (hr : Room k (A.deeper (envOfC "_law_changed" (defScope s_l_changed) s.heap.objs.size f cdv))) (hg : A.guards = some []) :
    JSs (cxOf (L2.CX P w) P w K mg base ["_law_world_here", "_law_coming", "_law_at", "_law_granaries", "_law_cart", "_law_number", "_law_pair", "_law_load_here"] "_law_changed" (defScope s_l_changed) f cdv A outer s H E) (WXE E) (defBody s_l_changed) (w_l_changed84 k) := by
  have S := sc_l_changed
  have tk : Takes (cxOf (L2.CX P w) P w K mg base ["_law_world_here", "_law_coming", "_law_at", "_law_granaries", "_law_cart", "_law_number", "_law_pair", "_law_load_here"] "_law_changed" (defScope s_l_changed) f cdv A outer s H E) (WXE E) := takes_of rfl rfl rfl rfl
  exact (jss_cons (js_asg (je_var 1) (jg_tp rfl (jgs_cons (jg_nm 4 S.nd) (jgs_cons (jg_nm 5 S.nd) jgs_nil)))) (jss_cons (js_par 6 7 rfl S.nd (ja_cons (je_bt c_listL b_list PyProof.Rows.boot_list (ja_cons (je_ix (je_ix (je_var 0) je_int) (je_var 5)) ja_nil)) (ja_cons (je_ix (je_ix (je_var 0) je_int) (je_var 4)) ja_nil))) (jss_cons (js_if (jt_cmp r_is (je_ix (je_var 6) (je_var 2)) je_non) (jss_one (js_ret je_non)) jss_nil) (jss_cons (js_asg (je_tup (ja_cons (je_var 7) (ja_cons (je_ix (je_var 6) (je_var 2)) ja_nil))) (jg_tp rfl (jgs_cons (jg_sb (je_var 6) (je_var 2)) (jgs_cons (jg_nm 7 S.nd) jgs_nil)))) (jss_cons (js_if (JW.jt (jw_and (jt_cmp (r_notin hr) je_non (je_var 6)) (jw_and1 (jt_cmp r_gt (je_ix (je_var 6) je_int) (je_ix (je_var 6) je_int))))) (jss_one (js_ret je_non)) jss_nil) (jss_cons (js_set 3 S.nd (je_bin r_add (je_bin r_add (je_sl (je_ix (je_var 0) je_int) jo_none (jo_some (je_var 5))) (je_tup (ja_cons (je_bt c_tuple b_tuple PyProof.Rows.boot_tuple (ja_cons (je_var 6) ja_nil)) ja_nil))) (je_sl (je_ix (je_var 0) je_int) (jo_some (je_bin r_add (je_var 5) je_int)) jo_none))) (jss_one (js_ret (je_tup (ja_cons (je_var 3) (ja_cons (je_bin r_add (je_bin r_add (je_sl (je_ix (je_var 0) je_int) jo_none (jo_some (je_var 4))) (je_tup (ja_cons (je_var 7) ja_nil))) (je_sl (je_ix (je_var 0) je_int) (jo_some (je_bin r_add (je_var 4) je_int)) jo_none)) ja_nil)))))))))))
theorem d_l_back (C_l_changed : Cal P w K mg base k "_law_changed" 3 c_l_changed84) (C_l_came : Cal P w K mg base k "_law_came" 2 c_l_came) (f : Addr) (cdv : Value) (A : Around) (outer : List PySem.Env) (s : Shared) (H : Hp) (E : XK) (hr : Room k (A.deeper (envOfC "_law_back" (defScope s_l_back) s.heap.objs.size f cdv))) (hg : A.guards = some []) :
    JSs (cxOf (L2.CX P w) P w K mg base ["_law_world_here", "_law_coming", "_law_some", "_law_found", "_law_one", "_law_at"] "_law_back" (defScope s_l_back) f cdv A outer s H E) (WXE E) (defBody s_l_back) (w_l_back84 k) := by
  have S := sc_l_back
  have tk : Takes (cxOf (L2.CX P w) P w K mg base ["_law_world_here", "_law_coming", "_law_some", "_law_found", "_law_one", "_law_at"] "_law_back" (defScope s_l_back) f cdv A outer s H E) (WXE E) := takes_of rfl rfl rfl rfl
  exact (jss_cons (js_set 2 S.nd (je_bin r_add (je_lst (ja_cons (je_var 0) ja_nil)) (je_lc (own := [("_law_at", 5)]) rfl S.nd (ji_seq (je_tup (ja_cons je_int (ja_cons je_int ja_nil)))) (blkOk_by rfl) (fun _ _ _ _ _ => (jt_nm 5 S.nd)) (fun _ _ _ _ _ => jts_nil) (fun _ _ _ _ _ => (je_call C_l_changed hr hg takes0 (ja_cons (je_var 0) (ja_cons (je_var 1) (ja_cons (je_var 5) ja_nil)))))))) (jss_cons (js_set 3 S.nd (je_lstL ja_nil)) (jss_cons (js_for (passes_of rfl) rfl (ji_seq (je_var 2)) (jt_nm 4 S.nd) (jss_one (js_if (JW.jt (jw_and (jt_cmp r_isnot (je_var 4) je_non) (jw_and (jt_cmp (r_notin hr) (je_var 4) (je_var 3)) (jw_and1 (jt_cmp (r_eq hr) (je_ix (je_call C_l_came hr hg tk (ja_cons (je_var 4) (ja_cons (je_var 1) ja_nil))) je_int) (je_var 0)))))) (jss_one (js_expr (je_mt m_append PySem.F.plainAttrs_list PySem.F.slot_list_append PySem.F.type_list_append (je_var 3) (ja_cons (je_var 4) ja_nil)))) jss_nil))) (jss_one (js_ret (je_fz (je_var 3)))))))
theorem d_l_right (b_len : mg "len" = none) (b_set : mg "set" = none) (b_all : mg "all" = none) (C_l_world : Cal P w K mg base k "_law_world" 3 c_l_world) (C_l_comings : Cal P w K mg base k "_law_comings" 3 c_l_comings) (C_l_take : Cal P w K mg base k "_law_take" 2 c_l_take) (C_gone : Cal P w K mg base k "gone" 2 c_gone) (C_l_back : Cal P w K mg base k "_law_back" 2 c_l_back84) (C_all_ahead : Cal P w K mg base k "all_ahead" 2 c_all_ahead84) (C_l_lists : Cal P w K mg base k "_law_lists" 1 c_l_lists) (C_l_same : Cal P w K mg base k "_law_same" 2 c_l_same) (C_l_came : Cal P w K mg base k "_law_came" 2 c_l_came) (C_ahead : Cal P w K mg base k "ahead" 2 c_ahead83) (f : Addr) (cdv : Value) (A : Around) (outer : List PySem.Env) (s : Shared) (H : Hp) (E : XK) (hr : Room k (A.deeper (envOfC "_law_right" (defScope s_l_right) s.heap.objs.size f cdv))) (hg : A.guards = some []) :
    JSs (cxOf (L2.CX P w) P w K mg base ["_law_box_here", "_law_begun", "_law_comings_here", "_law_world_here", "_law_right_here", "_law_coming", "_law_told", "_law_cut", "_law_some", "_law_middle", "_law_found", "_law_behind", "_law_still", "_law_one"] "_law_right" (defScope s_l_right) f cdv A outer s H E) (WXE E) (defBody s_l_right) (w_k84_right k) := by
  have S := sc_l_right
  have tk : Takes (cxOf (L2.CX P w) P w K mg base ["_law_box_here", "_law_begun", "_law_comings_here", "_law_world_here", "_law_right_here", "_law_coming", "_law_told", "_law_cut", "_law_some", "_law_middle", "_law_found", "_law_behind", "_law_still", "_law_one"] "_law_right" (defScope s_l_right) f cdv A outer s H E) (WXE E) := takes_of rfl rfl rfl rfl
  exact (jss_cons (js_set 1 S.nd (je_call C_l_world hr hg tk (ja_cons (je_var 0) (ja_cons je_int (ja_cons je_int ja_nil))))) (jss_cons (js_set 2 S.nd (je_call C_l_comings hr hg tk (ja_cons (je_var 0) (ja_cons (je_var 1) (ja_cons je_int ja_nil))))) (jss_cons (js_set 3 S.nd (je_ifx (jt_cmp (r_eq hr) (je_call C_l_take hr hg tk (ja_cons (je_var 0) (ja_cons je_int ja_nil))) je_int) (je_var 1) (je_ix (je_call C_gone hr hg tk (ja_cons (je_var 1) (ja_cons (je_var 2) ja_nil))) je_int))) (jss_cons (js_set 4 S.nd (je_lst (ja_cons (je_var 3) ja_nil))) (jss_cons (js_for (passes_of rfl) rfl (ji_seq (je_back (je_var 2))) (jt_nm 5 S.nd) (jss_cons (js_set 10 S.nd (je_lst ja_nil)) (jss_cons (js_for (passes_of rfl) rfl (ji_seq (je_var 4)) (jt_nm 11 S.nd) (jss_one (js_set 10 S.nd (je_bin r_add (je_var 10) (je_call C_l_back hr hg tk (ja_cons (je_var 11) (ja_cons (je_var 5) ja_nil))))))) (jss_one (js_set 4 S.nd (je_var 10)))))) (jss_cons (js_set 6 S.nd (je_lst (ja_cons (je_call C_all_ahead hr hg tk (ja_cons (je_var 3) (ja_cons (je_var 2) ja_nil))) (ja_cons (je_call C_all_ahead hr hg tk (ja_cons (je_call C_l_lists hr hg tk (ja_cons (je_var 3) ja_nil)) (ja_cons (je_call C_l_lists hr hg tk (ja_cons (je_var 2) ja_nil)) ja_nil))) ja_nil)))) (jss_cons (js_if (JW.jt (jw_or (jt_not (jt_val (je_call C_l_same hr hg tk (ja_cons (je_var 6) (ja_cons (je_lst (ja_cons (je_var 4) (ja_cons (je_var 4) ja_nil))) ja_nil))))) (jw_or1 (jt_cmp (r_ne hr) (je_lenSet hr rfl b_len b_set (je_var 4)) (je_bi c_len b_len PySem.boot_len (ja_cons (je_var 4) ja_nil)))))) (jss_one (js_ret je_bl)) jss_nil) (jss_cons (js_if (jt_not (jt_val (je_bi (c_all rfl) b_all PyProof.Rows.boot_all (ja_cons (je_lc (own := [("_law_one", 13)]) rfl S.nd (ji_seq (je_var 4)) (blkOk_by rfl) (fun _ _ _ _ _ => (jt_nm 13 S.nd)) (fun _ _ _ _ _ => jts_nil) (fun _ _ _ _ _ => (je_call C_l_same hr hg takes0 (ja_cons (je_ix (je_call C_gone hr hg takes0 (ja_cons (je_var 13) (ja_cons (je_var 2) ja_nil))) je_int) (ja_cons (je_var 3) ja_nil))))) ja_nil)))) (jss_one (js_ret je_bl)) jss_nil) (jss_cons (js_if (JW.jt (jw_and (jt_cmp (r_eq hr) (je_ix (je_call C_gone hr hg tk (ja_cons (je_var 1) (ja_cons (je_var 2) ja_nil))) je_int) (je_var 3)) (jw_and1 (jt_cmp (r_notin hr) (je_var 1) (je_var 4))))) (jss_one (js_ret je_bl)) jss_nil) (jss_cons (js_set 7 S.nd (je_call C_l_take hr hg tk (ja_cons (je_var 0) (ja_cons (je_bin r_add (je_bi c_len b_len PySem.boot_len (ja_cons (je_var 2) ja_nil)) je_int) ja_nil)))) (jss_cons (js_set 8 S.nd (je_lst ja_nil)) (jss_cons (js_for (passes_of rfl) rfl (ji_seq (je_call C_all_ahead hr hg tk (ja_cons (je_var 3) (ja_cons (je_sl (je_var 2) (jo_some (je_var 7)) jo_none) ja_nil)))) (jt_nm 9 S.nd) (jss_one (js_set 8 S.nd (je_bin r_add (je_var 8) (je_call C_all_ahead hr hg tk (ja_cons (je_var 9) (ja_cons (je_sl (je_var 2) jo_none (jo_some (je_var 7))) ja_nil))))))) (jss_cons (js_if (jt_not (jt_val (je_call C_l_same hr hg tk (ja_cons (je_var 8) (ja_cons (je_var 4) ja_nil))))) (jss_one (js_ret je_bl)) jss_nil) (jss_cons (js_for (passes_of rfl) rfl (ji_seq (je_var 2)) (jt_nm 5 S.nd) (jss_cons (js_set 12 S.nd (je_cmp r_is (je_ix (je_call C_l_came hr hg tk (ja_cons (je_var 3) (ja_cons (je_var 5) ja_nil))) je_int) je_non)) (jss_one (js_if (JW.jt (jw_or (jt_cmp (r_ne hr) (je_cmp (r_ne hr) (je_call C_ahead hr hg tk (ja_cons (je_var 3) (ja_cons (je_var 5) ja_nil))) (je_lst ja_nil)) (je_var 12)) (jw_or1 (JW.jt (jw_and (jt_tru (je_var 12)) (jw_and1 (jt_cmp (r_ne hr) (je_ix (je_call C_ahead hr hg tk (ja_cons (je_var 3) (ja_cons (je_var 5) ja_nil))) je_int) (je_var 3)))))))) (jss_one (js_ret je_bl)) jss_nil)))) (jss_one (js_ret je_bl))))))))))))))))
theorem d_law (b_len : mg "len" = none) (b_max : mg "max" = none) (b_range : mg "range" = none) (b_all : mg "all" = none) (C_l_folded : Cal P w K mg base k "_law_folded" 2 c_l_folded) (C_l_box : Cal P w K mg base k "_law_box" 2 c_l_box) (C_l_right : Cal P w K mg base k "_law_right" 1 c_k84_right) (f : Addr) (cdv : Value) (A : Around) (outer : List PySem.Env) (s : Shared) (H : Hp) (E : XK) (hr : Room k (A.deeper (envOfC "law" (defScope s_law) s.heap.objs.size f cdv))) (hg : A.guards = some []) :
    JSs (cxOf (L2.CX P w) P w K mg base ["_law_script", "_law_cells", "_law_k", "_law_box_here", "_law_turn"] "law" (defScope s_law) f cdv A outer s H E) (WXE E) (defBody s_law) (w_k84_law k) := by
  have S := sc_law
  have tk : Takes (cxOf (L2.CX P w) P w K mg base ["_law_script", "_law_cells", "_law_k", "_law_box_here", "_law_turn"] "law" (defScope s_law) f cdv A outer s H E) (WXE E) := takes_of rfl rfl rfl rfl
  exact (jss_cons (js_set 1 S.nd (je_call C_l_folded hr hg tk (ja_cons (je_var 0) (ja_cons je_int ja_nil)))) (jss_cons (js_for (passes_of rfl) rfl (ji_rg1 b_range (je_bi (c_max rfl) b_max PyProof.Rows.boot_max (ja_cons je_int (ja_cons (je_bi c_len b_len PySem.boot_len (ja_cons (je_var 1) ja_nil)) ja_nil)))) (jt_nm 2 S.nd) (jss_cons (js_set 3 S.nd (je_call C_l_box hr hg tk (ja_cons (je_var 1) (ja_cons (je_var 2) ja_nil)))) (jss_one (js_if (jt_not (jt_val (je_bi (c_all rfl) b_all PyProof.Rows.boot_all (ja_cons (je_lc (own := [("_law_turn", 4)]) rfl S.nd (ji_rg1 b_range je_int) (blkOk_by rfl) (fun _ _ _ _ _ => (jt_nm 4 S.nd)) (fun _ _ _ _ _ => jts_nil) (fun _ _ _ _ _ => (je_call C_l_right hr hg takes0 (ja_cons (je_var 3) ja_nil)))) ja_nil)))) (jss_one (js_ret je_bl)) jss_nil)))) (jss_one (js_ret je_bl))))
end
structure AllC (P : Program) (w : World) (K : PySem.W.Frag) (mg : Str → Option Value) (base : Heap) (k : Nat) : Prop where
  a_as_tuples : Cal P w K mg base k "as_tuples" 1 c_as_tuples
  a_exchanged_word : Cal P w K mg base k "exchanged_word" 2 c_exchanged_word
  a_exchanged : Cal P w K mg base k "exchanged" 4 c_exchanged
  a_look_cart : Cal P w K mg base k "look_cart" 2 c_look_cart
  a_look_granary : Cal P w K mg base k "look_granary" 2 c_look_granary
  a_look_coming : Cal P w K mg base k "look_coming" 2 c_look_coming
  a_came : Cal P w K mg base k "came" 2 c_came
  a_gone : Cal P w K mg base k "gone" 2 c_gone
  a_words_ahead : Cal P w K mg base k "words_ahead" 2 c_words_ahead
  a_ahead : Cal P w K mg base k "ahead" 2 c_ahead83
  a_all_ahead : Cal P w K mg base k "all_ahead" 2 c_all_ahead84
  a_l_box : Cal P w K mg base k "_law_box" 2 c_l_box
  a_l_take : Cal P w K mg base k "_law_take" 2 c_l_take
  a_l_folded : Cal P w K mg base k "_law_folded" 2 c_l_folded
  a_l_same : Cal P w K mg base k "_law_same" 2 c_l_same
  a_l_of : Cal P w K mg base k "_law_of" 2 c_l_of
  a_l_lists : Cal P w K mg base k "_law_lists" 1 c_l_lists
  a_l_load : Cal P w K mg base k "_law_load" 2 c_l_load
  a_l_granary : Cal P w K mg base k "_law_granary" 2 c_l_granary
  a_l_world : Cal P w K mg base k "_law_world" 3 c_l_world
  a_l_came : Cal P w K mg base k "_law_came" 2 c_l_came
  a_l_all_comings : Cal P w K mg base k "_law_all_comings" 1 c_l_all_comings
  a_l_comings : Cal P w K mg base k "_law_comings" 3 c_l_comings
  a_l_changed : Cal P w K mg base k "_law_changed" 3 c_l_changed84
  a_l_back : Cal P w K mg base k "_law_back" 2 c_l_back84
  a_l_right : Cal P w K mg base k "_law_right" 1 c_k84_right
theorem all_ok {P : Program} {w : World} {K : PySem.W.Frag} {mg : Str → Option Value} {base : Heap} (b_list : mg "list" = none) (b_tuple : mg "tuple" = none) (b_isinstance : mg "isinstance" = none) (b_len : mg "len" = none) (b_abs : mg "abs" = none) (b_int : mg "int" = none) (b_reversed : mg "reversed" = none) (b_divmod : mg "divmod" = none) (b_enumerate : mg "enumerate" = none) (b_zip : mg "zip" = none) (b_all : mg "all" = none) (b_str : mg "str" = none) (b_bool : mg "bool" = none) (b_min : mg "min" = none) (b_max : mg "max" = none) (b_range : mg "range" = none) (b_sorted : mg "sorted" = none) (b_set : mg "set" = none) (k_LOW : ∃ t, mg "LOW" = some (.str "low" t)) (k_HIGH : ∃ t, mg "HIGH" = some (.str "high" t)) (D_as_tuples : DefAt K mg "as_tuples" s_as_tuples ["thing"]) (D_exchanged_word : DefAt K mg "exchanged_word" s_exchanged_word ["granary", "load"]) (D_exchanged : DefAt K mg "exchanged" s_exchanged ["world", "cart", "granary", "word"]) (D_look_cart : DefAt K mg "look_cart" s_look_cart ["world", "cart"]) (D_look_granary : DefAt K mg "look_granary" s_look_granary ["world", "granary"]) (D_look_coming : DefAt K mg "look_coming" s_look_coming ["world", "coming"]) (D_came : DefAt K mg "came" s_came ["world", "coming"]) (D_gone : DefAt K mg "gone" s_gone ["world", "comings"]) (D_words_ahead : DefAt K mg "words_ahead" s_words_ahead ["granary", "load"]) (D_ahead : DefAt K mg "ahead" s_ahead ["world", "coming"]) (D_all_ahead : DefAt K mg "all_ahead" s_all_ahead ["world", "comings"]) (D_l_box : DefAt K mg "_law_box" s_l_box ["_law_script", "_law_k"]) (D_l_take : DefAt K mg "_law_take" s_l_take ["_law_box_here", "_law_size"]) (D_l_folded : DefAt K mg "_law_folded" s_l_folded ["_law_script", "_law_size"]) (D_l_same : DefAt K mg "_law_same" s_l_same ["_law_found", "_law_wanted"]) (D_l_of : DefAt K mg "_law_of" s_l_of ["_law_box_here", "_law_some"]) (D_l_lists : DefAt K mg "_law_lists" s_l_lists ["_law_thing"]) (D_l_load : DefAt K mg "_law_load" s_l_load ["_law_box_here", "_law_wide"]) (D_l_granary : DefAt K mg "_law_granary" s_l_granary ["_law_box_here", "_law_wide"]) (D_l_world : DefAt K mg "_law_world" s_l_world ["_law_box_here", "_law_most", "_law_carts"]) (D_l_came : DefAt K mg "_law_came" s_l_came ["_law_world_here", "_law_coming"]) (D_l_all_comings : DefAt K mg "_law_all_comings" s_l_all_comings ["_law_world_here"]) (D_l_comings : DefAt K mg "_law_comings" s_l_comings ["_law_box_here", "_law_world_here", "_law_many"]) (D_l_changed : DefAt K mg "_law_changed" s_l_changed ["_law_world_here", "_law_coming", "_law_at"]) (D_l_back : DefAt K mg "_law_back" s_l_back ["_law_world_here", "_law_coming"]) (D_l_right : DefAt K mg "_law_right" s_l_right ["_law_box_here"]) : ∀ k, AllC P w K mg base k
  | 0 => ⟨cal_zero D_as_tuples, cal_zero D_exchanged_word, cal_zero D_exchanged, cal_zero D_look_cart, cal_zero D_look_granary, cal_zero D_look_coming, cal_zero D_came, cal_zero D_gone, cal_zero D_words_ahead, cal_zero D_ahead, cal_zero D_all_ahead, cal_zero D_l_box, cal_zero D_l_take, cal_zero D_l_folded, cal_zero D_l_same, cal_zero D_l_of, cal_zero D_l_lists, cal_zero D_l_load, cal_zero D_l_granary, cal_zero D_l_world, cal_zero D_l_came, cal_zero D_l_all_comings, cal_zero D_l_comings, cal_zero D_l_changed, cal_zero D_l_back, cal_zero D_l_right⟩
  | k + 1 => by
    have ih := all_ok (P := P) (w := w) (K := K) (mg := mg) (base := base) b_list b_tuple b_isinstance b_len b_abs b_int b_reversed b_divmod b_enumerate b_zip b_all b_str b_bool b_min b_max b_range b_sorted b_set k_LOW k_HIGH D_as_tuples D_exchanged_word D_exchanged D_look_cart D_look_granary D_look_coming D_came D_gone D_words_ahead D_ahead D_all_ahead D_l_box D_l_take D_l_folded D_l_same D_l_of D_l_lists D_l_load D_l_granary D_l_world D_l_came D_l_all_comings D_l_comings D_l_changed D_l_back D_l_right k
    exact ⟨cal_succ D_as_tuples sc_as_tuples (d_as_tuples b_list b_tuple b_isinstance ih.a_as_tuples) (p_as_tuples k),
      cal_succ D_exchanged_word sc_exchanged_word (d_exchanged_word k_LOW k_HIGH) (p_exchanged_word k),
      cal_succ D_exchanged sc_exchanged (d_exchanged k_LOW) (p_exchanged k),
      cal_succ D_look_cart sc_look_cart (d_look_cart b_len) (p_look_cart k),
      cal_succ D_look_granary sc_look_granary (d_look_granary b_len) (p_look_granary k),
      cal_succ D_look_coming sc_look_coming (d_look_coming ih.a_look_cart ih.a_look_granary) (p_look_coming k),
      cal_succ D_came sc_came (d_came b_abs ih.a_as_tuples ih.a_look_coming ih.a_exchanged_word ih.a_exchanged) (p_came k),
      cal_succ D_gone sc_gone (d_gone ih.a_as_tuples ih.a_came) (p_gone k),
      cal_succ D_words_ahead sc_words_ahead (d_words_ahead b_int k_LOW k_HIGH ih.a_exchanged_word) (p_words_ahead k),
      cal_succ D_ahead sc_ahead (d_ahead ih.a_as_tuples ih.a_look_coming ih.a_exchanged_word ih.a_words_ahead ih.a_exchanged) (p_ahead83 k),
      cal_succ D_all_ahead sc_all_ahead (d_all_ahead b_reversed ih.a_as_tuples ih.a_look_coming ih.a_ahead) (p_all_ahead84 k),
      cal_succ D_l_box sc_l_box (d_l_box b_len b_abs b_int) (p_l_box k),
      cal_succ D_l_take sc_l_take (d_l_take b_divmod ih.a_l_take) (p_l_take k),
      cal_succ D_l_folded sc_l_folded (d_l_folded b_list b_enumerate) (p_l_folded k),
      cal_succ D_l_same sc_l_same (d_l_same b_list b_tuple b_isinstance b_len b_zip b_all b_str b_int b_bool ih.a_l_same) (p_l_same k),
      cal_succ D_l_of sc_l_of (d_l_of b_len ih.a_l_take) (p_l_of k),
      cal_succ D_l_lists sc_l_lists (d_l_lists b_list b_tuple b_isinstance ih.a_l_lists) (p_l_lists k),
      cal_succ D_l_load sc_l_load (d_l_load ih.a_l_take) (p_l_load k),
      cal_succ D_l_granary sc_l_granary (d_l_granary b_min b_max ih.a_l_take ih.a_l_load) (p_l_granary k),
      cal_succ D_l_world sc_l_world (d_l_world b_range b_tuple ih.a_l_take ih.a_l_granary ih.a_l_load) (p_l_world k),
      cal_succ D_l_came sc_l_came (d_l_came b_list b_sorted b_abs b_tuple) (p_l_came k),
      cal_succ D_l_all_comings sc_l_all_comings (d_l_all_comings b_len b_range) (p_l_all_comings k),
      cal_succ D_l_comings sc_l_comings (d_l_comings b_range ih.a_l_all_comings ih.a_l_take ih.a_l_of) (p_l_comings k),
      cal_succ D_l_changed sc_l_changed (d_l_changed b_list b_tuple) (p_l_changed84 k),
      cal_succ D_l_back sc_l_back (d_l_back ih.a_l_changed ih.a_l_came) (p_l_back84 k),
      cal_succ D_l_right sc_l_right (d_l_right b_len b_set b_all ih.a_l_world ih.a_l_comings ih.a_l_take ih.a_gone ih.a_l_back ih.a_all_ahead ih.a_l_lists ih.a_l_same ih.a_l_came ih.a_ahead) (p_k84_right k)⟩
theorem all_mk {P : Program} {w : World} {K : PySem.W.Frag} {mg : Str → Option Value} {h : Heap} {fa : Addr} (X : K.In h) (G : h.Ns mainGlobals mg) (hmg : mg "law" = some (.ref fa)) (b_list : mg "list" = none) (b_tuple : mg "tuple" = none) (b_isinstance : mg "isinstance" = none) (b_len : mg "len" = none) (b_abs : mg "abs" = none) (b_int : mg "int" = none) (b_reversed : mg "reversed" = none) (b_divmod : mg "divmod" = none) (b_enumerate : mg "enumerate" = none) (b_zip : mg "zip" = none) (b_all : mg "all" = none) (b_str : mg "str" = none) (b_bool : mg "bool" = none) (b_min : mg "min" = none) (b_max : mg "max" = none) (b_range : mg "range" = none) (b_sorted : mg "sorted" = none) (b_set : mg "set" = none) (k_LOW : ∃ t, mg "LOW" = some (.str "low" t)) (k_HIGH : ∃ t, mg "HIGH" = some (.str "high" t)) (D_as_tuples : DefAt K mg "as_tuples" s_as_tuples ["thing"]) (D_exchanged_word : DefAt K mg "exchanged_word" s_exchanged_word ["granary", "load"]) (D_exchanged : DefAt K mg "exchanged" s_exchanged ["world", "cart", "granary", "word"]) (D_look_cart : DefAt K mg "look_cart" s_look_cart ["world", "cart"]) (D_look_granary : DefAt K mg "look_granary" s_look_granary ["world", "granary"]) (D_look_coming : DefAt K mg "look_coming" s_look_coming ["world", "coming"]) (D_came : DefAt K mg "came" s_came ["world", "coming"]) (D_gone : DefAt K mg "gone" s_gone ["world", "comings"]) (D_words_ahead : DefAt K mg "words_ahead" s_words_ahead ["granary", "load"]) (D_ahead : DefAt K mg "ahead" s_ahead ["world", "coming"]) (D_all_ahead : DefAt K mg "all_ahead" s_all_ahead ["world", "comings"]) (D_l_box : DefAt K mg "_law_box" s_l_box ["_law_script", "_law_k"]) (D_l_take : DefAt K mg "_law_take" s_l_take ["_law_box_here", "_law_size"]) (D_l_folded : DefAt K mg "_law_folded" s_l_folded ["_law_script", "_law_size"]) (D_l_same : DefAt K mg "_law_same" s_l_same ["_law_found", "_law_wanted"]) (D_l_of : DefAt K mg "_law_of" s_l_of ["_law_box_here", "_law_some"]) (D_l_lists : DefAt K mg "_law_lists" s_l_lists ["_law_thing"]) (D_l_load : DefAt K mg "_law_load" s_l_load ["_law_box_here", "_law_wide"]) (D_l_granary : DefAt K mg "_law_granary" s_l_granary ["_law_box_here", "_law_wide"]) (D_l_world : DefAt K mg "_law_world" s_l_world ["_law_box_here", "_law_most", "_law_carts"]) (D_l_came : DefAt K mg "_law_came" s_l_came ["_law_world_here", "_law_coming"]) (D_l_all_comings : DefAt K mg "_law_all_comings" s_l_all_comings ["_law_world_here"]) (D_l_comings : DefAt K mg "_law_comings" s_l_comings ["_law_box_here", "_law_world_here", "_law_many"]) (D_l_changed : DefAt K mg "_law_changed" s_l_changed ["_law_world_here", "_law_coming", "_law_at"]) (D_l_back : DefAt K mg "_law_back" s_l_back ["_law_world_here", "_law_coming"]) (D_l_right : DefAt K mg "_law_right" s_l_right ["_law_box_here"]) (D_law : DefAt K mg "law" s_law ["_law_script"]) : ∃ fd : FuncData, (∀ (s : Shared) (u : Value), BindsTo s fd ⟨[u], []⟩ [("_law_script", u)]) ∧ ∀ base : Heap, K.In base → base.Ns mainGlobals mg → FnG P w K mg base (40 + 1) fa fd ["_law_script"] (spD K mg 1 (c_k84_law 40)) := by
  refine law_mk (ct := c_k84_law) D_law hmg sc_law (fun _ _ _ _ _ _ _ => rfl) ?_ (p_k84_law 40)
  intro base _ _
  have A := all_ok (P := P) (w := w) (base := base) b_list b_tuple b_isinstance b_len b_abs b_int b_reversed b_divmod b_enumerate b_zip b_all b_str b_bool b_min b_max b_range b_sorted b_set k_LOW k_HIGH D_as_tuples D_exchanged_word D_exchanged D_look_cart D_look_granary D_look_coming D_came D_gone D_words_ahead D_ahead D_all_ahead D_l_box D_l_take D_l_folded D_l_same D_l_of D_l_lists D_l_load D_l_granary D_l_world D_l_came D_l_all_comings D_l_comings D_l_changed D_l_back D_l_right 40
  exact d_law b_len b_max b_range b_all A.a_l_folded A.a_l_box A.a_l_right
end VL
open PySem PySem.W PyProof.Rows in
set_option maxRecDepth 100000 in
set_option maxHeartbeats 0 in
theorem PySem.Challenge.cw_midcarts_k84_whole_all_that_was_ahead_holds : PySem.Challenge.rw_midcarts_k84_whole_all_that_was_ahead.Holds := by
  w_on; o_law; k_head; (case hw => w_witness2)
  k_fill
  refine VL.walk_ofG (l := PySem.Challenge.rw_midcarts_k84_whole_all_that_was_ahead) (n := 63) (k := 40 + 1) (ct := VL.c_k84_law 40) (x := "_law_script") rfl (by decide) rfl ⟨rfl, by decide, by decide⟩ (fun w h Y => PySem.W.kIn_of Y) ?F (fun ns hl => VL.k84_ct ns hl)
  case F =>
    intro w mg fa h KX G hmg
    refine' VL.all_mk KX G hmg ?b_list ?b_tuple ?b_isinstance ?b_len ?b_abs ?b_int ?b_reversed ?b_divmod ?b_enumerate ?b_zip ?b_all ?b_str ?b_bool ?b_min ?b_max ?b_range ?b_sorted ?b_set ?k_LOW ?k_HIGH ?D_as_tuples ?D_exchanged_word ?D_exchanged ?D_look_cart ?D_look_granary ?D_look_coming ?D_came ?D_gone ?D_words_ahead ?D_ahead ?D_all_ahead ?D_l_box ?D_l_take ?D_l_folded ?D_l_same ?D_l_of ?D_l_lists ?D_l_load ?D_l_granary ?D_l_world ?D_l_came ?D_l_all_comings ?D_l_comings ?D_l_changed ?D_l_back ?D_l_right ?D_law
    (case b_list => exact PySem.W.mg_none_of KX G (by k_is))
    (case b_tuple => exact PySem.W.mg_none_of KX G (by k_is))
    (case b_isinstance => exact PySem.W.mg_none_of KX G (by k_is))
    (case b_len => exact PySem.W.mg_none_of KX G (by k_is))
    (case b_abs => exact PySem.W.mg_none_of KX G (by k_is))
    (case b_int => exact PySem.W.mg_none_of KX G (by k_is))
    (case b_reversed => exact PySem.W.mg_none_of KX G (by k_is))
    (case b_divmod => exact PySem.W.mg_none_of KX G (by k_is))
    (case b_enumerate => exact PySem.W.mg_none_of KX G (by k_is))
    (case b_zip => exact PySem.W.mg_none_of KX G (by k_is))
    (case b_all => exact PySem.W.mg_none_of KX G (by k_is))
    (case b_str => exact PySem.W.mg_none_of KX G (by k_is))
    (case b_bool => exact PySem.W.mg_none_of KX G (by k_is))
    (case b_min => exact PySem.W.mg_none_of KX G (by k_is))
    (case b_max => exact PySem.W.mg_none_of KX G (by k_is))
    (case b_range => exact PySem.W.mg_none_of KX G (by k_is))
    (case b_sorted => exact PySem.W.mg_none_of KX G (by k_is))
    (case b_set => exact PySem.W.mg_none_of KX G (by k_is))
    (case k_LOW => exact ⟨_, PySem.W.mg_of KX G (by k_is)⟩)
    (case k_HIGH => exact ⟨_, PySem.W.mg_of KX G (by k_is)⟩)
    case D_as_tuples =>
      refine' VL.def_mk KX G ?a ?l ?c ?k ?b
      (case a => k_is); (case l => k_is); (case c => k_is); (case k => k_is)
      (case b => exact fun _ _ _ _ _ _ us hl => match us, hl with | [_], _ => rfl)
    case D_exchanged_word =>
      refine' VL.def_mk KX G ?a ?l ?c ?k ?b
      (case a => k_is); (case l => k_is); (case c => k_is); (case k => k_is)
      (case b => exact fun _ _ _ _ _ _ us hl => match us, hl with | [_, _], _ => rfl)
    case D_exchanged =>
      refine' VL.def_mk KX G ?a ?l ?c ?k ?b
      (case a => k_is); (case l => k_is); (case c => k_is); (case k => k_is)
      (case b => exact fun _ _ _ _ _ _ us hl => match us, hl with | [_, _, _, _], _ => rfl)
    case D_look_cart =>
      refine' VL.def_mk KX G ?a ?l ?c ?k ?b
      (case a => k_is); (case l => k_is); (case c => k_is); (case k => k_is)
      (case b => exact fun _ _ _ _ _ _ us hl => match us, hl with | [_, _], _ => rfl)
    case D_look_granary =>
      refine' VL.def_mk KX G ?a ?l ?c ?k ?b
      (case a => k_is); (case l => k_is); (case c => k_is); (case k => k_is)
      (case b => exact fun _ _ _ _ _ _ us hl => match us, hl with | [_, _], _ => rfl)
    case D_look_coming =>
      refine' VL.def_mk KX G ?a ?l ?c ?k ?b
      (case a => k_is); (case l => k_is); (case c => k_is); (case k => k_is)
      (case b => exact fun _ _ _ _ _ _ us hl => match us, hl with | [_, _], _ => rfl)
    case D_came =>
      refine' VL.def_mk KX G ?a ?l ?c ?k ?b
      (case a => k_is); (case l => k_is); (case c => k_is); (case k => k_is)
      (case b => exact fun _ _ _ _ _ _ us hl => match us, hl with | [_, _], _ => rfl)
    case D_gone =>
      refine' VL.def_mk KX G ?a ?l ?c ?k ?b
      (case a => k_is); (case l => k_is); (case c => k_is); (case k => k_is)
      (case b => exact fun _ _ _ _ _ _ us hl => match us, hl with | [_, _], _ => rfl)
    case D_words_ahead =>
      refine' VL.def_mk KX G ?a ?l ?c ?k ?b
      (case a => k_is); (case l => k_is); (case c => k_is); (case k => k_is)
      (case b => exact fun _ _ _ _ _ _ us hl => match us, hl with | [_, _], _ => rfl)
    case D_ahead =>
      refine' VL.def_mk KX G ?a ?l ?c ?k ?b
      (case a => k_is); (case l => k_is); (case c => k_is); (case k => k_is)
      (case b => exact fun _ _ _ _ _ _ us hl => match us, hl with | [_, _], _ => rfl)
    case D_all_ahead =>
      refine' VL.def_mk KX G ?a ?l ?c ?k ?b
      (case a => k_is); (case l => k_is); (case c => k_is); (case k => k_is)
      (case b => exact fun _ _ _ _ _ _ us hl => match us, hl with | [_, _], _ => rfl)
    case D_l_box =>
      refine' VL.def_mk KX G ?a ?l ?c ?k ?b
      (case a => k_is); (case l => k_is); (case c => k_is); (case k => k_is)
      (case b => exact fun _ _ _ _ _ _ us hl => match us, hl with | [_, _], _ => rfl)
    case D_l_take =>
      refine' VL.def_mk KX G ?a ?l ?c ?k ?b
      (case a => k_is); (case l => k_is); (case c => k_is); (case k => k_is)
      (case b => exact fun _ _ _ _ _ _ us hl => match us, hl with | [_, _], _ => rfl)
    case D_l_folded =>
      refine' VL.def_mk KX G ?a ?l ?c ?k ?b
      (case a => k_is); (case l => k_is); (case c => k_is); (case k => k_is)
      (case b => exact fun _ _ _ _ _ _ us hl => match us, hl with | [_, _], _ => rfl)
    case D_l_same =>
      refine' VL.def_mk KX G ?a ?l ?c ?k ?b
      (case a => k_is); (case l => k_is); (case c => k_is); (case k => k_is)
      (case b => exact fun _ _ _ _ _ _ us hl => match us, hl with | [_, _], _ => rfl)
    case D_l_of =>
      refine' VL.def_mk KX G ?a ?l ?c ?k ?b
      (case a => k_is); (case l => k_is); (case c => k_is); (case k => k_is)
      (case b => exact fun _ _ _ _ _ _ us hl => match us, hl with | [_, _], _ => rfl)
    case D_l_lists =>
      refine' VL.def_mk KX G ?a ?l ?c ?k ?b
      (case a => k_is); (case l => k_is); (case c => k_is); (case k => k_is)
      (case b => exact fun _ _ _ _ _ _ us hl => match us, hl with | [_], _ => rfl)
    case D_l_load =>
      refine' VL.def_mk KX G ?a ?l ?c ?k ?b
      (case a => k_is); (case l => k_is); (case c => k_is); (case k => k_is)
      (case b => exact fun _ _ _ _ _ _ us hl => match us, hl with | [_, _], _ => rfl)
    case D_l_granary =>
      refine' VL.def_mk KX G ?a ?l ?c ?k ?b
      (case a => k_is); (case l => k_is); (case c => k_is); (case k => k_is)
      (case b => exact fun _ _ _ _ _ _ us hl => match us, hl with | [_, _], _ => rfl)
    case D_l_world =>
      refine' VL.def_mk KX G ?a ?l ?c ?k ?b
      (case a => k_is); (case l => k_is); (case c => k_is); (case k => k_is)
      (case b => exact fun _ _ _ _ _ _ us hl => match us, hl with | [_, _, _], _ => rfl)
    case D_l_came =>
      refine' VL.def_mk KX G ?a ?l ?c ?k ?b
      (case a => k_is); (case l => k_is); (case c => k_is); (case k => k_is)
      (case b => exact fun _ _ _ _ _ _ us hl => match us, hl with | [_, _], _ => rfl)
    case D_l_all_comings =>
      refine' VL.def_mk KX G ?a ?l ?c ?k ?b
      (case a => k_is); (case l => k_is); (case c => k_is); (case k => k_is)
      (case b => exact fun _ _ _ _ _ _ us hl => match us, hl with | [_], _ => rfl)
    case D_l_comings =>
      refine' VL.def_mk KX G ?a ?l ?c ?k ?b
      (case a => k_is); (case l => k_is); (case c => k_is); (case k => k_is)
      (case b => exact fun _ _ _ _ _ _ us hl => match us, hl with | [_, _, _], _ => rfl)
    case D_l_changed =>
      refine' VL.def_mk KX G ?a ?l ?c ?k ?b
      (case a => k_is); (case l => k_is); (case c => k_is); (case k => k_is)
      (case b => exact fun _ _ _ _ _ _ us hl => match us, hl with | [_, _, _], _ => rfl)
    case D_l_back =>
      refine' VL.def_mk KX G ?a ?l ?c ?k ?b
      (case a => k_is); (case l => k_is); (case c => k_is); (case k => k_is)
      (case b => exact fun _ _ _ _ _ _ us hl => match us, hl with | [_, _], _ => rfl)
    case D_l_right =>
      refine' VL.def_mk KX G ?a ?l ?c ?k ?b
      (case a => k_is); (case l => k_is); (case c => k_is); (case k => k_is)
      (case b => exact fun _ _ _ _ _ _ us hl => match us, hl with | [_], _ => rfl)
    case D_law =>
      refine' VL.def_mk KX G ?a ?l ?c ?k ?b
      (case a => k_is); (case l => k_is); (case c => k_is); (case k => k_is)
      (case b => exact fun _ _ _ _ _ _ us hl => match us, hl with | [_], _ => rfl)
