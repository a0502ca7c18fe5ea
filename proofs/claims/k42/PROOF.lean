import PyProof.Rows.All
import Wide.All
import OpenK.AllK
import Wide.FinOn
import HandS.ForMost
import HandS.Exc
import HandS.ExcOwn
import HandS.WordsExc
import HandS.CallSlots
import HandS.Wide
import HandS.WideBits
import HandS.TupAny
import HandS.Deep
import HandS.IsInst
import HandS.SortInts
import HandS.Conv
import HandS.Zip
import HandS.Rev
import HandS.NoneIn
import HandS.Style
import HandS.ExcInit
import HandS.ExcIs
import HandS.ExcField
import KE.KExcInit
import HandS.Lambda
import HandS.More
import HandS.SetFor
import KE.GoesEnum
import KE.KAssignIn
import HandS.TupMul
import KE.KExcIs
import KE.KTryMore
import HandS.Strs
import HandS.Dict
import HandS.DictComp
import HandS.DictTup
import HandS.SortKw
import KE.KLam
import KE.GoesEnumKw
import HandS.MapObj
import KE.KRevSl
import PySem.Challenge.RW_midcarts_k42_known_from_outside
set_option Elab.async false
set_option linter.all false
set_option maxRecDepth 100000
set_option maxHeartbeats 4000000
namespace VL
open PySem L2
/-- data: what a value stands for; ptr: a live (changeable) object; scr: the script -/
inductive D where
  | non | bl (b : Bool) | int (i : Int) | str (x : Str)
  | tup (l : List D) | lst (l : List D) | ptr (a : Addr) | scr (l : List Int) | ty (n : String)
/-- a tuple: tracked -/
def TupAt (K : PySem.W.Frag) (G : Hp) (a : Addr) (xs : List V) : Prop := G a = some (.tup xs)
theorem TupAt.of {K : PySem.W.Frag} {G : Hp} {a : Addr} {xs : List V} (h : G a = some (.tup xs)) : TupAt K G a xs := h
theorem TupAt.sq {K : PySem.W.Frag} {G : Hp} {a : Addr} {xs : List V} (h : TupAt K G a xs) : SqT K G a xs := .inl (.inl h)
mutual
def Rep (K : PySem.W.Frag) (G : Hp) : D → V → Prop
  | .non, v => v = .non
  | .bl b, v => v = .bl b
  | .int i, v => v = .int i
  | .str x, v => v = .str x
  | .tup ds, v => ∃ a vs, v = .ref a ∧ TupAt K G a vs ∧ Reps K G ds vs
  | .lst ds, v => ∃ a vs, v = .ref a ∧ G a = some (.lst vs) ∧ Reps K G ds vs
  | .ptr a, v => v = .ref a
  | .ty n, v => v = .ty n
  | .scr ns, v => ∃ a, v = .ref a ∧ SqL K G a (ns.map V.int)
def Reps (K : PySem.W.Frag) (G : Hp) : List D → List V → Prop
  | [], vs => vs = []
  | d :: ds, vs => ∃ v r, vs = v :: r ∧ Rep K G d v ∧ Reps K G ds r
end
def Le (G G' : Hp) : Prop := ∀ a o, G a = some o → G' a = some o
theorem Le.refl (G : Hp) : Le G G := fun _ _ h => h
theorem Le.trans {A B C : Hp} (x : Le A B) (y : Le B C) : Le A C := fun a o h => y a o (x a o h)
theorem Le.rd {G G' : Hp} {a : Addr} {u : HO} (x : Le G G') (h : Rd G a u) : Rd G' a u := by
  rcases h with h | ⟨o, h⟩
  · exact .inl (x _ _ h)
  · exact .inr ⟨o, x _ _ h⟩
theorem Le.sqT {K : PySem.W.Frag} {G G' : Hp} {a : Addr} {xs : List V} (x : Le G G') (h : SqT K G a xs) : SqT K G' a xs := by
  rcases h with h | h
  · exact .inl (x.rd h)
  · exact .inr h
theorem Le.tup {K : PySem.W.Frag} {G G' : Hp} {a : Addr} {xs : List V} (x : Le G G') (h : TupAt K G a xs) : TupAt K G' a xs := x _ _ h
theorem Le.sqL {K : PySem.W.Frag} {G G' : Hp} {a : Addr} {xs : List V} (x : Le G G') (h : SqL K G a xs) : SqL K G' a xs := by
  rcases h with h | h
  · exact .inl (x.rd h)
  · exact .inr h
mutual
theorem Rep.mono {K : PySem.W.Frag} {G G' : Hp} (x : Le G G') : ∀ (d : D) (v : V), Rep K G d v → Rep K G' d v
  | .non, _, h => h
  | .bl _, _, h => h
  | .int _, _, h => h
  | .str _, _, h => h
  | .ptr _, _, h => h
  | .ty _, _, h => h
  | .tup ds, v, h => by
    obtain ⟨a, vs, e, hs, hr⟩ := h
    exact ⟨a, vs, e, x.tup hs, Reps.mono x ds vs hr⟩
  | .lst ds, v, h => by
    obtain ⟨a, vs, e, hs, hr⟩ := h
    exact ⟨a, vs, e, x _ _ hs, Reps.mono x ds vs hr⟩
  | .scr ns, v, h => by
    obtain ⟨a, e, hs⟩ := h
    exact ⟨a, e, x.sqL hs⟩
theorem Reps.mono {K : PySem.W.Frag} {G G' : Hp} (x : Le G G') : ∀ (ds : List D) (vs : List V), Reps K G ds vs → Reps K G' ds vs
  | [], _, h => h
  | d :: ds, vs, h => by
    obtain ⟨v, r, e, h1, h2⟩ := h
    exact ⟨v, r, e, Rep.mono x d v h1, Reps.mono x ds r h2⟩
end
section
variable {K : PySem.W.Frag} {G : Hp}
theorem Reps.length : ∀ {ds : List D} {vs : List V}, Reps K G ds vs → ds.length = vs.length
  | [], _, h => by cases h; rfl
  | d :: ds, _, h => by
    obtain ⟨v, r, rfl, _, h2⟩ := h
    simp [Reps.length h2]
theorem Reps.get : ∀ {ds : List D} {vs : List V} {i : Nat} {d : D}, Reps K G ds vs → ds[i]? = some d → ∃ v, vs[i]? = some v ∧ Rep K G d v
  | [], _, _, _, _, e => by simp at e
  | _ :: _, _, 0, _, h, e => by
    obtain ⟨v, r, rfl, h1, _⟩ := h
    simp at e; subst e
    exact ⟨v, rfl, h1⟩
  | _ :: ds, _, i + 1, d, h, e => by
    obtain ⟨v, r, rfl, _, h2⟩ := h
    obtain ⟨u, a, b⟩ := Reps.get (i := i) (d := d) h2 (by simpa using e)
    exact ⟨u, by simpa using a, b⟩
theorem Reps.app : ∀ {ds es : List D} {vs ws : List V}, Reps K G ds vs → Reps K G es ws → Reps K G (ds ++ es) (vs ++ ws)
  | [], _, _, _, h, k => by cases h; exact k
  | d :: ds, _, _, _, h, k => by
    obtain ⟨v, r, rfl, h1, h2⟩ := h
    exact ⟨v, _, rfl, h1, Reps.app h2 k⟩
theorem Reps.one {d : D} {v : V} (h : Rep K G d v) : Reps K G [d] [v] := ⟨v, [], rfl, h, rfl⟩
theorem Reps.take : ∀ {ds : List D} {vs : List V} (n : Nat), Reps K G ds vs → Reps K G (ds.take n) (vs.take n)
  | _, _, 0, _ => rfl
  | [], _, _ + 1, h => by cases h; rfl
  | d :: ds, _, n + 1, h => by
    obtain ⟨v, r, rfl, h1, h2⟩ := h
    exact ⟨v, _, rfl, h1, Reps.take n h2⟩
theorem Reps.drop : ∀ {ds : List D} {vs : List V} (n : Nat), Reps K G ds vs → Reps K G (ds.drop n) (vs.drop n)
  | _, _, 0, h => h
  | [], _, _ + 1, h => by cases h; rfl
  | d :: ds, _, n + 1, h => by
    obtain ⟨v, r, rfl, h1, h2⟩ := h
    exact Reps.drop n h2
theorem Reps.set {x : D} {u : V} (q : Rep K G x u) : ∀ {ds : List D} {vs : List V} (i : Nat), Reps K G ds vs → Reps K G (ds.set i x) (vs.set i u)
  | [], _, _, h => by cases h; rfl
  | d :: ds, _, 0, h => by
    obtain ⟨v, r, rfl, h1, h2⟩ := h
    exact ⟨u, r, rfl, q, h2⟩
  | d :: ds, _, i + 1, h => by
    obtain ⟨v, r, rfl, h1, h2⟩ := h
    exact ⟨v, _, rfl, h1, Reps.set q i h2⟩
theorem Reps.rev {ds : List D} {vs : List V} (h : Reps K G ds vs) : Reps K G ds.reverse vs.reverse := by
  induction ds generalizing vs with
  | nil => cases h; rfl
  | cons d ds ih =>
    obtain ⟨v, r, rfl, h1, h2⟩ := h
    rw [List.reverse_cons, List.reverse_cons]
    exact Reps.app (ih h2) (Reps.one h1)
theorem Reps.ints : ∀ {ns : List Int} {vs : List V}, Reps K G (ns.map D.int) vs ↔ vs = ns.map V.int
  | [], _ => Iff.rfl
  | n :: ns, vs => by
    constructor
    · rintro ⟨v, r, rfl, h1, h2⟩
      cases h1
      rw [Reps.ints.mp h2]; rfl
    · rintro rfl
      exact ⟨_, _, rfl, rfl, Reps.ints.mpr rfl⟩
theorem Reps.bls : ∀ {ns : List Bool} {vs : List V}, Reps K G (ns.map D.bl) vs ↔ vs = ns.map V.bl
  | [], _ => Iff.rfl
  | n :: ns, vs => by
    constructor
    · rintro ⟨v, r, rfl, h1, h2⟩
      cases h1
      rw [Reps.bls.mp h2]; rfl
    · rintro rfl
      exact ⟨_, _, rfl, rfl, Reps.bls.mpr rfl⟩
theorem Reps.dropLast : ∀ {ds : List D} {vs : List V}, Reps K G ds vs → Reps K G ds.dropLast vs.dropLast := by
  intro ds vs h
  rw [List.dropLast_eq_take, List.dropLast_eq_take, h.length]
  exact Reps.take _ h
end
/-- the built-in class straight above an own exception class -/
inductive EB where
  | v | l | r | t
def EB.nm : EB → String
  | .v => "ValueError"
  | .l => "LookupError"
  | .r => "RuntimeError"
  | .t => "TypeError"
def EB.new : EB → String
  | .v => "ValueError.__new__"
  | .l => "LookupError.__new__"
  | .r => "RuntimeError.__new__"
  | .t => "TypeError.__new__"
def EB.tl (b : EB) : List Value := [.type b.nm, .type "Exception", .type "BaseException", .type "object"]
/-- what the written part tells of the class n at C -/
structure ExcK (K : PySem.W.Frag) (n : Str) (b : EB) (C : Addr) : Prop where
  ns : PySem.W.nsIn K mainGlobals n = some (some (.ref C))
  nm : (PySem.W.clsIn K C).map (·.name) = some n
  mro : (PySem.W.clsIn K C).map (·.mro) = some (.ref C :: b.tl)
  ini : PySem.W.excInitIn K C b.tl b.new = true
  ovr : PySem.W.excOver K C b.tl = true
  sa : PySem.W.findIn K (.ref C) "__setattr__" = some (some (.builtin "object.__setattr__"))
  no : PySem.W.findIn K (.ref C) "what" = some none
  is : ExcC K C
  tyC : PySem.W.typeIn K (.ref C) = some (.type "type")
  kC : PySem.W.keepIn K (.ref C) = true
/-- at e: an exception of the class at C, its dict at d -/
def exH (e C d : Addr) : HO := .ext fun h => ∃ (o : Obj) (vs : Array Value), h.get? e = some o ∧ o.cls = .ref C ∧ o.dict = some d ∧ o.data = .fields vs
/-- the lambda's body, by its kind: x its parameter, cn the names that it takes from around -/
def lamB (n : Nat) (x : Str) (cn : List Str) (e : Expr) : Prop := match n with
  | 0 => cn = [] ∧ ∃ p q, e = .UnaryOp .USub (.Name x p) q
  | 1 => ∃ y p1 p2 p3 p4 p5, cn = [y] ∧ e = .Call (.Name "int" p1) [.Compare (.Name x p2) [.Gt] [.Name y p3] p4] [] p5
  | 2 => ∃ y p1 p2 p3, cn = [y] ∧ e = .Subscript (.Name y p1) (.Name x p2) p3
  | _ => False
/-- its names -/
structure LamSc (n : Nat) (x : Str) (cn : List Str) (sc : Scope) : Prop where
  kind : sc.kind = .function
  co : sc.isCoroutine = false
  gen : sc.isGenerator = false
  par : sc.names.lookup x = some .local
  nd : (x :: cn).Nodup
  loc : ∀ y ∈ sc.names, y.2 = .local → y.1 = x
  noc : ∀ y ∈ sc.names, y.2 ≠ .cell
  free : ∀ y ∈ sc.names, y.2 = .free → y.1 ∈ cn
  cap : ∀ y ∈ cn, sc.names.lookup y = some .free
  int : n = 1 → sc.names.lookup ("int" : Str) = some .globalImplicit
  dbg : ∀ y ∈ x :: cn, (y == ("__debug__" : Str)) = false ∧ (y == ("__classdict__" : Str)) = false
def lamArgs (x : Str) (p : Pos) : Arguments := { posonlyargs := [], args := [{ arg := x, annotation := none, pos := p }], vararg := none, kwonlyargs := [], kw_defaults := [], kwarg := none, defaults := [] }
/-- a known thing -/
def frzO (o : Obj) : HO := .frz o (.ext fun _ => True)
/-- what the closure's cells hold -/
def CapsAt (K : PySem.W.Frag) (G : Hp) (cl : List (Str × Addr)) : List Str → List D → Prop
  | [], ds => ds = []
  | y :: cn, ds => ∃ d r ca o u v, ds = d :: r ∧ cl.lookup y = some ca ∧ G ca = some (frzO o) ∧ o.data = .cell (some u) ∧ RelV v u ∧ Rep K G d v ∧ CapsAt K G cl cn r
theorem CapsAt.mono {K : PySem.W.Frag} {G G' : Hp} (x : Le G G') {cl : List (Str × Addr)} : ∀ {cn : List Str} {ds : List D}, CapsAt K G cl cn ds → CapsAt K G' cl cn ds
  | [], _, h => h
  | y :: cn, _, ⟨d, r, ca, o, u, v, e, h1, h2, h3, h4, h5, h6⟩ => ⟨d, r, ca, o, u, v, e, h1, x _ _ h2, h3, h4, Rep.mono x _ _ h5, CapsAt.mono x h6⟩
/-- at a: a lambda of the kind n, which has taken caps from around -/
def LamAt (K : PySem.W.Frag) (G : Hp) (a : Addr) (n : Nat) (caps : List D) : Prop := ∃ (x : Str) (cn : List Str) (q : Str) (p : Pos) (body : Expr) (sc : Scope) (cl : List (Str × Addr)) (pm : Value) (c' : Addr) (ctv : Value),
  lamB n x cn body ∧ LamSc n x cn sc ∧ G a = some (frzO (PySem.W.kla_obj "<lambda>" q (lamArgs x p) body sc cl pm c' ctv)) ∧ G c' = some (LamX.CodeO c' q) ∧ (∀ y c, cl.lookup y = some c → y ∈ cn) ∧ (∀ y z c, cl.lookup y = some c → cl.lookup z = some c → y = z) ∧ CapsAt K G cl cn caps
theorem LamAt.mono {K : PySem.W.Frag} {G G' : Hp} (x : Le G G') {a : Addr} {n : Nat} {caps : List D} (h : LamAt K G a n caps) : LamAt K G' a n caps := by
  obtain ⟨x0, cn, q, p, body, sc, cl, pm, c', ctv, h1, h2, h3, h4, h5, h6, h7⟩ := h
  exact ⟨x0, cn, q, p, body, sc, cl, pm, c', ctv, h1, h2, x _ _ h3, x _ _ h4, h5, h6, h7.mono x⟩
/-- the table of code objects of the def x: where it stands, and what it tells -/
def TabAt (K : PySem.W.Frag) (G H : Hp) (a : Addr) (x : Str) : Prop := (∃ c, PySem.W.tabIn K x = some (c, a)) ∧
  ∃ ps : Array Value, H a = some (.tbl ps) ∧ TriplesOk ps.toList ∧ ∀ pos cv, codeAmong pos ps.toList = some cv → ∃ c, cv = .ref c ∧ G c = some (LamX.CodeO c (x ++ ".<locals>." ++ "<lambda>"))
inductive Cell where
  | lst (l : List D)
  | fz (l : List D)
  | dic (l : List (Key × D))
  | dit (l : List (List Key × D))
  | obj (C : Addr) (fs : List (Str × D))
  | exc (n : Str) (b : EB) (d : D)
  | tab (x : Str)
  | fn (n : Nat) (caps : List D)
abbrev Cs := Addr → Option Cell
def cup (c : Cs) (a : Addr) (x : Cell) : Cs := fun b => if b = a then some x else c b
theorem cup_same {c : Cs} {a : Addr} {x : Cell} : cup c a x a = some x := by unfold cup; rw [if_pos rfl]
theorem cup_ne {c : Cs} {a b : Addr} {x : Cell} (h : b ≠ a) : cup c a x b = c b := by unfold cup; rw [if_neg h]
theorem cup_cup {c : Cs} {a : Addr} {x y : Cell} : cup (cup c a x) a y = cup c a y := by
  funext b; unfold cup; split <;> rfl
/-- fewer cells are told -/
def CLe (c c' : Cs) : Prop := ∀ a x, c a = some x → c' a = some x
theorem CLe.refl (c : Cs) : CLe c c := fun _ _ h => h
theorem CLe.trans {a b c : Cs} (x : CLe a b) (y : CLe b c) : CLe a c := fun d o h => y d o (x d o h)
theorem CLe.new {c c' : Cs} {p : Addr} {x : Cell} (h : c p = none) (k : CLe c c') : CLe c (cup c' p x) := fun a y e => by
  have hne : a ≠ p := fun z => by rw [z, h] at e; cases e
  rw [cup_ne hne]; exact k a y e
def RepK {κ : Type} (K : PySem.W.Frag) (G : Hp) (l : List (κ × D)) (l' : List (κ × V)) : Prop := ∃ vs, Reps K G (l.map (·.2)) vs ∧ l' = (l.map (·.1)).zip vs
/-- an instance's fields -/
def RepF (K : PySem.W.Frag) (G : Hp) : List (Str × D) → List (Str × V) → Prop
  | [], fv => fv = []
  | (f, d) :: fs, fv => ∃ v r, fv = (f, v) :: r ∧ Rep K G d v ∧ RepF K G fs r
theorem RepF.mono {K : PySem.W.Frag} {G G' : Hp} (x : Le G G') : ∀ {fs : List (Str × D)} {fv : List (Str × V)}, RepF K G fs fv → RepF K G' fs fv
  | [], _, h => h
  | (f, d) :: fs, _, ⟨v, r, e, h1, h2⟩ => ⟨v, r, e, Rep.mono x _ _ h1, RepF.mono x h2⟩
theorem RepF.len {K : PySem.W.Frag} {G : Hp} : ∀ {fs : List (Str × D)} {fv : List (Str × V)}, RepF K G fs fv → fv.length = fs.length
  | [], _, h => by cases h; rfl
  | (f, d) :: fs, _, ⟨v, r, e, h1, h2⟩ => by subst e; simp [RepF.len h2]
/-- what stands at a live cell's address -/
def CellAt (K : PySem.W.Frag) (G H : Hp) (a : Addr) : Cell → Prop
  | .lst ds => G a = none ∧ ∃ vs, H a = some (.lst vs) ∧ Reps K G ds vs
  | .fz ds => ∃ vs, G a = some (.lst vs) ∧ Reps K G ds vs
  | .dic l => G a = none ∧ ∃ l', H a = some (.dK l') ∧ RepK K G l l'
  | .dit l => G a = none ∧ ∃ l', H a = some (.dT l') ∧ RepK K G l l'
  | .obj C fs => G a = none ∧ ∃ dx fv, H a = some (.ins C dx fv) ∧ RepF K G fs fv
  | .exc n b d => ∃ C dd u, ExcK K n b C ∧ G a = some (exH a C dd) ∧ G dd = some (.xd [(("what" : Str), u)]) ∧ Rep K G d u
  | .tab x => G a = none ∧ TabAt K G H a x
  | .fn n caps => LamAt K G a n caps
theorem CellAt.there {K : PySem.W.Frag} {G H : Hp} {a : Addr} {x : Cell} (s : Le G H) (h : CellAt K G H a x) : H a ≠ none := by
  cases x with
  | lst ds => obtain ⟨_, vs, e, _⟩ := h; rw [e]; simp
  | fz ds => obtain ⟨vs, e, _⟩ := h; rw [s _ _ e]; simp
  | dic l => obtain ⟨_, vs, e, _⟩ := h; rw [e]; simp
  | dit l => obtain ⟨_, vs, e, _⟩ := h; rw [e]; simp
  | obj C fs => obtain ⟨_, dx, fv, e, _⟩ := h; rw [e]; simp
  | exc n b d => obtain ⟨C, dd, u, _, e, _⟩ := h; rw [s _ _ e]; simp
  | tab x => obtain ⟨_, _, ps, e, _⟩ := h; rw [e]; simp
  | fn n caps => obtain ⟨_, _, _, _, _, _, _, _, _, _, _, _, e, _⟩ := h; rw [s _ _ e]; simp
theorem CellAt.to {K : PySem.W.Frag} {G H G' H' : Hp} {a : Addr} {x : Cell} (g : Le G G') (hg : G a = none → G' a = none) (hh : G a = none → H' a = H a) (h : CellAt K G H a x) : CellAt K G' H' a x := by
  cases x with
  | lst ds => obtain ⟨n, vs, e, r⟩ := h; exact ⟨hg n, vs, by rw [hh n]; exact e, Reps.mono g _ _ r⟩
  | fz ds => obtain ⟨vs, e, r⟩ := h; exact ⟨vs, g _ _ e, Reps.mono g _ _ r⟩
  | dic l => obtain ⟨n, l', e, vs, r, z⟩ := h; exact ⟨hg n, l', by rw [hh n]; exact e, vs, Reps.mono g _ _ r, z⟩
  | dit l => obtain ⟨n, l', e, vs, r, z⟩ := h; exact ⟨hg n, l', by rw [hh n]; exact e, vs, Reps.mono g _ _ r, z⟩
  | obj C fs => obtain ⟨n, dx, fv, e, r⟩ := h; exact ⟨hg n, dx, fv, by rw [hh n]; exact e, r.mono g⟩
  | exc n b d => obtain ⟨C, dd, u, k, e1, e2, r⟩ := h; exact ⟨C, dd, u, k, g _ _ e1, g _ _ e2, Rep.mono g _ _ r⟩
  | tab x => obtain ⟨n, k, ps, e, z1, z2⟩ := h; exact ⟨hg n, k, ps, by rw [hh n]; exact e, z1, fun pos cv hc => let ⟨c, e1, e2⟩ := z2 pos cv hc; ⟨c, e1, g _ _ e2⟩⟩
  | fn n caps => exact LamAt.mono g h
/-- lists and tuples have a bounded length -/
def HLen (K : PySem.W.Frag) (H : Hp) : Prop := (∀ a xs, SqL K H a xs → xs.length ≤ sizeLine) ∧ (∀ a xs, SqT K H a xs → xs.length ≤ sizeLine)
theorem hlen_of {X : Cx} {pins : List (Addr × Obj)} {σ : St} {H : Hp} {s : Shared} (I : Inv X pins σ H s) : HLen X.K H :=
  ⟨fun a xs h => let ⟨_, _, _, z⟩ := I.list h; z, fun a xs h => let ⟨_, _, _, z⟩ := I.tuple h; z⟩
/-- the state, as data tell it -/
structure SR (K : PySem.W.Frag) (G : Hp) (c : Cs) (H : Hp) : Prop where
  sub : Le G H
  at_ : ∀ a x, c a = some x → CellAt K G H a x
/-- from state to state -/
structure Gr (G : Hp) (c : Cs) (H : Hp) (G' : Hp) (c' : Cs) (H' : Hp) : Prop where
  g : Le G G'
  keep : ∀ a o, H a = some o → c a = none → H' a = some o
  nc : ∀ a, c' a ≠ none → c a ≠ none ∨ H a = none
  ng : ∀ a o, G' a = some o → G a = some o ∨ c a ≠ none ∨ H a = none
theorem Gr.refl {G : Hp} {c : Cs} {H : Hp} : Gr G c H G c H := ⟨Le.refl _, fun _ _ h _ => h, fun _ h => .inl h, fun _ _ h => .inl h⟩
theorem Gr.trans {G c H G1 c1 H1 G2 c2 H2} (x : Gr G c H G1 c1 H1) (y : Gr G1 c1 H1 G2 c2 H2) : Gr G c H G2 c2 H2 := by
  have k1 : ∀ a, c a = none → H a ≠ none → c1 a = none := fun a h1 h2 => by
    cases e : c1 a with
    | none => rfl
    | some o =>
      rcases x.nc a (by rw [e]; simp) with q | q
      · exact absurd h1 q
      · exact absurd q h2
  have k2 : ∀ a, H1 a = none → c a ≠ none ∨ H a = none := fun a h => by
    cases e : H a with
    | none => exact .inr rfl
    | some o =>
      cases e' : c a with
      | none => rw [x.keep a o e e'] at h; cases h
      | some _ => exact .inl (by simp)
  refine ⟨x.g.trans y.g, fun a o h n => ?_, fun a h => ?_, fun a o h => ?_⟩
  · exact y.keep a o (x.keep a o h n) (k1 a n (by rw [h]; simp))
  · rcases y.nc a h with q | q
    · exact x.nc a q
    · exact k2 a q
  · rcases y.ng a o h with q | q | q
    · exact x.ng a o q
    · rcases x.nc a q with z | z
      · exact .inr (.inl z)
      · exact .inr (.inr z)
    · rcases k2 a q with z | z
      · exact .inr (.inl z)
      · exact .inr (.inr z)
theorem Gr.less {G c H G' c' c'' H'} (x : Gr G c H G' c' H') (h : CLe c'' c') : Gr G c H G' c'' H' :=
  ⟨x.g, x.keep, fun a n => x.nc a (fun z => by
    cases e : c'' a with
    | none => exact n e
    | some o => rw [h a o e] at z; cases z), x.ng⟩
theorem SR.less {K G c c' H} (x : SR K G c H) (h : CLe c' c) : SR K G c' H := ⟨x.sub, fun a o e => x.at_ a o (h a o e)⟩
theorem SR.free {K G c H} (x : SR K G c H) {p : Addr} (h : H p = none) : c p = none ∧ G p = none := by
  constructor
  · cases e : c p with
    | none => rfl
    | some o => exact absurd h ((x.at_ p o e).there x.sub)
  · cases e : G p with
    | none => rfl
    | some o => rw [x.sub p o e] at h; cases h
theorem le_upd {G : Hp} {p : Addr} {o : HO} (h : G p = none) : Le G (upd G p o) := fun a u e => by
  rw [upd_ne (ne_of_none e h)]; exact e
/-- a new object that stays as it is -/
theorem SR.newG {K G c H} (x : SR K G c H) {p : Addr} {o : HO} (h : H p = none) : SR K (upd G p o) c (upd H p o) ∧ Gr G c H (upd G p o) c (upd H p o) := by
  obtain ⟨hc, hg⟩ := x.free h
  have ne : ∀ a y, c a = some y → a ≠ p := fun a y e z => by rw [z, hc] at e; cases e
  refine ⟨⟨fun a u e => ?_, fun a y e => ?_⟩, ⟨le_upd hg, fun a u e _ => ?_, fun a e => .inl e, fun a u e => ?_⟩⟩
  · by_cases z : a = p
    · subst z; rw [upd_same] at e ⊢; exact e
    · rw [upd_ne z] at e ⊢; exact x.sub _ _ e
  · exact (x.at_ a y e).to (le_upd hg) (fun n => by rw [upd_ne (ne a y e)]; exact n) (fun _ => upd_ne (ne a y e))
  · rw [upd_ne (ne_of_none e h)]; exact e
  · by_cases z : a = p
    · subst z; exact .inr (.inr h)
    · rw [upd_ne z] at e; exact .inl e
/-- a new live object -/
theorem SR.newL {K G c H} (x : SR K G c H) {p : Addr} {o : HO} {y : Cell} (h : H p = none) (hy : CellAt K G (upd H p o) p y) : SR K G (cup c p y) (upd H p o) ∧ Gr G c H G (cup c p y) (upd H p o) := by
  obtain ⟨hc, hg⟩ := x.free h
  refine ⟨⟨fun a u e => ?_, fun a z e => ?_⟩, ⟨Le.refl _, fun a u e _ => ?_, fun a e => ?_, fun a u e => .inl e⟩⟩
  · rw [upd_ne (ne_of_none e hg)]; exact x.sub _ _ e
  · by_cases q : a = p
    · subst q; rw [cup_same] at e; cases e; exact hy
    · rw [cup_ne q] at e
      exact (x.at_ a z e).to (Le.refl _) (fun n => n) (fun _ => upd_ne q)
  · rw [upd_ne (ne_of_none e h)]; exact e
  · by_cases q : a = p
    · subst q; exact .inr h
    · rw [cup_ne q] at e; exact .inl e
/-- a live object changed -/
theorem SR.write {K G c H} (x : SR K G c H) {p : Addr} {o : HO} {y y0 : Cell} (h : c p = some y0) (hg : G p = none) (hy : CellAt K G (upd H p o) p y) : SR K G (cup c p y) (upd H p o) ∧ Gr G c H G (cup c p y) (upd H p o) := by
  refine ⟨⟨fun a u e => ?_, fun a z e => ?_⟩, ⟨Le.refl _, fun a u e n => ?_, fun a e => ?_, fun a u e => .inl e⟩⟩
  · rw [upd_ne (ne_of_none e hg)]; exact x.sub _ _ e
  · by_cases q : a = p
    · subst q; rw [cup_same] at e; cases e; exact hy
    · rw [cup_ne q] at e
      exact (x.at_ a z e).to (Le.refl _) (fun n => n) (fun _ => upd_ne q)
  · have q : a ≠ p := fun z => by rw [z, h] at n; cases n
    rw [upd_ne q]; exact e
  · by_cases q : a = p
    · subst q; exact .inl (by rw [h]; simp)
    · rw [cup_ne q] at e; exact .inl e
/-- an object beside is changed -/
theorem SR.other {K G c H} (x : SR K G c H) {p : Addr} {o : HO} (hc : c p = none) (hg : G p = none) : SR K G c (upd H p o) :=
  ⟨fun a u e => by rw [upd_ne (ne_of_none e hg)]; exact x.sub _ _ e, fun a z e => (x.at_ a z e).to (Le.refl _) (fun n => n) (fun _ => upd_ne (fun q => by rw [q, hc] at e; cases e))⟩
/-- a live list comes to stay as it is -/
theorem SR.freeze {K G c H} (x : SR K G c H) {p : Addr} {ds : List D} (h : c p = some (.lst ds)) : ∃ vs, Reps K G ds vs ∧ SR K (upd G p (.lst vs)) (cup c p (.fz ds)) H ∧ Gr G c H (upd G p (.lst vs)) (cup c p (.fz ds)) H := by
  obtain ⟨hg, vs, hv, hr⟩ := x.at_ p _ h
  refine ⟨vs, hr, ⟨fun a u e => ?_, fun a z e => ?_⟩, ⟨le_upd hg, fun a u e n => e, fun a e => ?_, fun a u e => ?_⟩⟩
  · by_cases q : a = p
    · subst q; rw [upd_same] at e; cases e; exact hv
    · rw [upd_ne q] at e; exact x.sub _ _ e
  · by_cases q : a = p
    · subst q; rw [cup_same] at e; cases e; exact ⟨vs, upd_same, Reps.mono (le_upd hg) _ _ hr⟩
    · rw [cup_ne q] at e
      exact (x.at_ a z e).to (le_upd hg) (fun n => by rw [upd_ne q]; exact n) (fun _ => rfl)
  · by_cases q : a = p
    · subst q; exact .inl (by rw [h]; simp)
    · rw [cup_ne q] at e; exact .inl e
  · by_cases q : a = p
    · subst q; exact .inr (.inl (by rw [h]; simp))
    · rw [upd_ne q] at e; exact .inl e
abbrev En := List (Option D)
def EnR (K : PySem.W.Frag) (G : Hp) (en : En) (σ : St) : Prop := en.length = σ.length ∧ ∀ (i : Nat) (d : D), en[i]? = some (some d) → ∃ v, σ[i]? = some (some v) ∧ Rep K G d v
theorem EnR.mono {K : PySem.W.Frag} {G G' : Hp} {en : En} {σ : St} (g : Le G G') (h : EnR K G en σ) : EnR K G' en σ := ⟨h.1, fun i d e => let ⟨v, a, b⟩ := h.2 i d e; ⟨v, a, Rep.mono g _ _ b⟩⟩
theorem EnR.set {K : PySem.W.Frag} {G : Hp} {en : En} {σ : St} (h : EnR K G en σ) {i : Nat} {d : D} {v : V} (r : Rep K G d v) : EnR K G (en.set i (some d)) (σ.set i (some v)) := by
  refine ⟨by simp [h.1], fun j e he => ?_⟩
  by_cases q : i = j
  · subst q
    by_cases z : i < en.length
    · rw [List.getElem?_set_self z] at he
      cases he
      exact ⟨v, List.getElem?_set_self (by rw [← h.1]; exact z), r⟩
    · rw [List.getElem?_eq_none (by simpa using z)] at he; cases he
  · rw [List.getElem?_set_ne q] at he ⊢
    exact h.2 j e he
theorem EnR.unset {K : PySem.W.Frag} {G : Hp} {en : En} {σ : St} (h : EnR K G en σ) (i : Nat) : EnR K G (en.set i none) (σ.set i none) := by
  refine ⟨by simp [h.1], fun j e he => ?_⟩
  by_cases q : i = j
  · subst q
    by_cases z : i < en.length
    · rw [List.getElem?_set_self z] at he; cases he
    · rw [List.getElem?_eq_none (by simpa using z)] at he; cases he
  · rw [List.getElem?_set_ne q] at he ⊢
    exact h.2 j e he
def ewipe (en : En) : List Nat → En
  | [] => en
  | v :: vs => (ewipe en vs).set v none
theorem EnR.wipe {K : PySem.W.Frag} {G : Hp} {en : En} {σ : St} (h : EnR K G en σ) : ∀ vs : List Nat, EnR K G (ewipe en vs) (wipe σ vs)
  | [] => h
  | v :: vs => (EnR.wipe h vs).unset v
abbrev DK := D → Cs → Prop
abbrev XK0 := Str → D → Cs → Prop
abbrev XD := Str → D → En → Cs → Prop
def noX : XD := fun _ _ _ _ => False
abbrev WE := En → Cs → DK → XD → Prop
abbrev WT := En → Cs → (Bool → Cs → Prop) → XD → Prop
abbrev WA := En → Cs → (List D → Cs → Prop) → XD → Prop
structure EndD where
  nx : En → Cs → Prop
  rt : DK
  bk : En → Cs → Prop := fun _ _ => False
  ct : En → Cs → Prop := fun _ _ => False
abbrev WS := EndD → XD → En → Cs → Prop
/-- an own exception as it leaves: its class is the module's name n; its field what is d -/
def ExcAt (K : PySem.W.Frag) (mg : Str → Option Value) (G H : Hp) (n : Str) (d : D) (cls : Value) (dx : Option Addr) : Prop :=
  mg n = some cls ∧ ∃ dd v, dx = some dd ∧ G dd = some (.xd [(("what" : Str), v)]) ∧ Rep K G d v
/-- what the exceptions that leave reach -/
def XOk (K : PySem.W.Frag) (mg : Str → Option Value) (W : WX) (X0 : XD) (G : Hp) (c : Cs) (H : Hp) : Prop :=
  ∀ n d en' c' cls dx σ' H' G', X0 n d en' c' → Gr G c H G' c' H' → SR K G' c' H' → EnR K G' en' σ' → ExcAt K mg G' H' n d cls dx → W cls dx σ' H'
theorem XOk.more {K mg W X0 G c H G1 c1 H1} (h : XOk K mg W X0 G c H) (g : Gr G c H G1 c1 H1) : XOk K mg W X0 G1 c1 H1 :=
  fun n d en' c' cls dx σ' H' G' x g' s e a => h n d en' c' cls dx σ' H' G' x (g.trans g') s e a
theorem XOk.none {K mg W G c H} : XOk K mg W noX G c H := fun _ _ _ _ _ _ _ _ _ x => x.elim
section
variable (K : PySem.W.Frag) (mg : Str → Option Value) (W : WX)
def rdE (w : WE) : TE := fun σ H Q => ∃ G en c Q0 X0, SR K G c H ∧ EnR K G en σ ∧ w en c Q0 X0 ∧ XOk K mg W X0 G c H ∧
  ∀ d c' v H' G', Q0 d c' → Gr G c H G' c' H' → SR K G' c' H' → Rep K G' d v → Q v H'
def rdT (w : WT) : TT := fun σ H Q => ∃ G en c Q0 X0, SR K G c H ∧ EnR K G en σ ∧ w en c Q0 X0 ∧ XOk K mg W X0 G c H ∧
  ∀ b c' H' G', Q0 b c' → Gr G c H G' c' H' → SR K G' c' H' → Q b H'
def rdA (w : WA) : TA := fun σ H Q => ∃ G en c Q0 X0, SR K G c H ∧ EnR K G en σ ∧ w en c Q0 X0 ∧ XOk K mg W X0 G c H ∧
  ∀ ds c' vs H' G', Q0 ds c' → Gr G c H G' c' H' → SR K G' c' H' → Reps K G' ds vs → Q vs H'
def StK (G : Hp) (c : Cs) (H : Hp) (P : En → Cs → Prop) (Q : St → Hp → Prop) : Prop := ∀ en' c' σ' H' G', P en' c' → Gr G c H G' c' H' → SR K G' c' H' → EnR K G' en' σ' → Q σ' H'
theorem StK.more {K G c H G1 c1 H1 P Q} (h : StK K G c H P Q) (g : Gr G c H G1 c1 H1) : StK K G1 c1 H1 P Q := fun en' c' σ' H' G' p g' s e => h en' c' σ' H' G' p (g.trans g') s e
def RtK (G : Hp) (c : Cs) (H : Hp) (P : DK) (Q : VK) : Prop := ∀ d c' v H' G', P d c' → Gr G c H G' c' H' → SR K G' c' H' → Rep K G' d v → Q v H'
theorem RtK.more {K G c H G1 c1 H1 P Q} (h : RtK K G c H P Q) (g : Gr G c H G1 c1 H1) : RtK K G1 c1 H1 P Q := fun d c' v H' G' p g' s e => h d c' v H' G' p (g.trans g') s e
structure EndK (G : Hp) (c : Cs) (H : Hp) (D0 : EndD) (D : Ends) : Prop where
  nx : StK K G c H D0.nx D.nx
  rt : RtK K G c H D0.rt D.rt
  bk : StK K G c H D0.bk D.bk
  ct : StK K G c H D0.ct D.ct
def rdS (w : WS) : TS := fun D σ H => ∃ G en c D0 X0, SR K G c H ∧ EnR K G en σ ∧ w D0 X0 en c ∧ XOk K mg W X0 G c H ∧ EndK K G c H D0 D
end
theorem EndK.more {K G c H G1 c1 H1 D0 D} (h : EndK K G c H D0 D) (g : Gr G c H G1 c1 H1) : EndK K G1 c1 H1 D0 D := ⟨h.nx.more g, h.rt.more g, h.bk.more g, h.ct.more g⟩
/-- the judgements, by data -/
abbrev JE (X : Cx) (W : WX) (e : Expr) (w : WE) : Prop := PE X e (rdE X.K X.mg W w)
abbrev JT (X : Cx) (W : WX) (e : Expr) (w : WT) : Prop := PT X e (rdT X.K X.mg W w)
abbrev JA (X : Cx) (W : WX) (es : List Expr) (w : WA) : Prop := PA X es (rdA X.K X.mg W w)
abbrev JS (X : Cx) (W : WX) (st : Stmt) (w : WS) : Prop := PS X st (rdS X.K X.mg W w)
abbrev JSs (X : Cx) (W : WX) (st : List Stmt) (w : WS) : Prop := PSs X st (rdS X.K X.mg W w)
section
variable {X : Cx}
/-- another reading -/
theorem PE.of {e : Expr} {t t' : TE} (h : PE X e t) (k : ∀ σ H Q, t' σ H Q → t σ H Q) : PE X e t' := ⟨fun pins s σ H Q I q => h.run pins s σ H Q I (k σ H Q q)⟩
theorem PT.of {e : Expr} {t t' : TT} (h : PT X e t) (k : ∀ σ H Q, t' σ H Q → t σ H Q) : PT X e t' := ⟨fun pins s σ H Q I q => h.run pins s σ H Q I (k σ H Q q)⟩
theorem PW.of {e : Expr} {t t' : TT} (h : PW X e t) (k : ∀ σ H Q, t' σ H Q → t σ H Q) : PW X e t' := ⟨fun wh pins s σ H Q I q => h.run wh pins s σ H Q I (k σ H Q q)⟩
theorem PA.of {e : List Expr} {t t' : TA} (h : PA X e t) (k : ∀ σ H Q, t' σ H Q → t σ H Q) : PA X e t' := ⟨fun pos pins s σ H Q I q => h.run pos pins s σ H Q I (k σ H Q q)⟩
theorem PS.of {e : Stmt} {t t' : TS} (h : PS X e t) (k : ∀ D σ H, t' D σ H → t D σ H) : PS X e t' := ⟨fun pins s σ H D I q => h.run pins s σ H D I (k D σ H q)⟩
theorem PSs.of {e : List Stmt} {t t' : TS} (h : PSs X e t) (k : ∀ D σ H, t' D σ H → t D σ H) : PSs X e t' := ⟨fun pins s σ H D I q => h.run pins s σ H D I (k D σ H q)⟩
theorem PG.of {e : Expr} {t t' : TG} (h : PG X e t) (k : ∀ v σ H Q, t' v σ H Q → t v σ H Q) : PG X e t' := ⟨fun pins s σ H v u Q I r q => h.run pins s σ H v u Q I r (k v σ H Q q)⟩
/-- a walk's reading, the lengths known -/
theorem PI.of {tg it : Expr} {t t' : TI} (h : PI X tg it t) (k : ∀ σ H R, t' σ H R → t σ H (fun J H' => HLen X.K H' → R J H')) : PI X tg it t' := by
  refine ⟨fun pins s σ H R I q => ?_⟩
  refine thn (h.run pins s σ H _ I (k σ H R q)) fun v s1 h1 => thn h1 fun u s2 ⟨a, fp, tn, J, H', e, I', T, z1, z2, z3⟩ => ⟨a, fp, tn, J, H', e, I', T, z1, z2, z3 (hlen_of I')⟩
end
end VL
namespace VL
open PySem PySem.Spec PyProof.Rows L2
abbrev Ctr := List D → Cs → DK → XK0 → Prop
/-- a def's promise, by data; n: how many parameters -/
def spD (K : PySem.W.Frag) (mg : Str → Option Value) (n : Nat) (ct : Ctr) : Sp := fun vs H Q E => ∃ G ds c Q0 X0, SR K G c H ∧ Reps K G ds vs ∧ ds.length = n ∧ ct ds c Q0 X0 ∧ RtK K G c H Q0 Q ∧
  ∀ m d c' cls dx H' G', X0 m d c' → Gr G c H G' c' H' → SR K G' c' H' → ExcAt K mg G' H' m d cls dx → E cls dx H'
structure FnG (P : Program) (w : World) (K : PySem.W.Frag) (mg : Str → Option Value) (base : Heap) (k : Nat) (f : Addr) (fd : FuncData) (ps : List Str) (sp : Sp) : Prop where
  len : ∀ vs H Q E, sp vs H Q E → vs.length = ps.length
  run : ∀ (A : Around) (outer : List PySem.Env) (s : Shared) (H : Hp) (args : Args) (us : List Value) (vs : List V) (Q : VK) (E : XK), Room k A → A.guards = some [] → Env0 P w K mg base A outer s H →
    BindsTo s fd args (ps.zip us) → Vals vs us → sp vs H Q E → codeAny (model P w) A (.call (.ref f) args) (CR (L2.CX P w) outer P w H s Q E) s
/-- the state at a body's begin -/
def enOf (n : Nat) (ds : List D) : En := ds.map some ++ List.replicate (n - ds.length) none
theorem enOf_start {K : PySem.W.Frag} {G : Hp} {N : List Str} {ds : List D} {vs : List V} (r : Reps K G ds vs) : EnR K G (enOf N.length ds) (L2.start N vs) := by
  have hl := r.length
  refine ⟨by unfold enOf L2.start; simp [hl], fun i d e => ?_⟩
  unfold enOf at e
  by_cases hi : i < ds.length
  · rw [List.getElem?_append_left (by simpa using hi), List.getElem?_map] at e
    cases q : ds[i]? with
    | none => rw [q] at e; cases e
    | some d' =>
      rw [q] at e
      obtain rfl : d' = d := by simpa using e
      obtain ⟨v, hv, rv⟩ := r.get q
      refine ⟨v, ?_, rv⟩
      unfold L2.start
      rw [List.getElem?_append_left (by rw [List.length_map, ← hl]; exact hi), List.getElem?_map, hv]; rfl
  · rw [List.getElem?_append_right (by simpa using hi), List.getElem?_replicate] at e
    split at e <;> cases e
def endOf (Q : DK) : EndD := { nx := fun _ c' => ∃ c0, CLe c0 c' ∧ Q .non c0, rt := fun d c' => ∃ c0, CLe c0 c' ∧ Q d c0 }
def excOf (X0 : XK0) : XD := fun n d _ c' => ∃ c0, CLe c0 c' ∧ X0 n d c0
abbrev WXE (E : XK) : WX := fun cls d _ H => E cls d H
section
variable {P : Program} {w : World} {K : PySem.W.Frag} {mg : Str → Option Value} {base : Heap}
theorem fnG_of {x qual : Str} {st : Stmt} {f : Addr} {fd : FuncData} {N ps : List Str} {k : Nat} {ct : Ctr} {wb : WS} (F : Fun K x qual st f fd) (S : FnScope N ps (defScope st))
    (hb : ∀ (cdv : Value) (A : Around) (outer : List PySem.Env) (s : Shared) (H : Hp) (E : XK), Room k (A.deeper (envOfC qual (defScope st) s.heap.objs.size f cdv)) → A.guards = some [] →
      JSs (cxOf (L2.CX P w) P w K mg base N qual (defScope st) f cdv A outer s H E) (WXE E) (defBody st) wb)
    (hp : ∀ ds c Q X0, ds.length = ps.length → ct ds c Q X0 → wb (endOf Q) (excOf X0) (enOf N.length ds) c) :
    FnG P w K mg base (k + 1) f fd ps (spD K mg ps.length ct) := by
  obtain ⟨oc, od, kV, doc, pm, an, cdv, cv, osl, rfl, lk, hcd⟩ := F.ex
  have len : ∀ vs H Q E, spD K mg ps.length ct vs H Q E → vs.length = ps.length := by
    rintro vs H Q E ⟨G, ds, c, Q0, X0, _, r, e, _⟩
    rw [← r.length]; exact e
  refine ⟨len, ?_⟩
  intro A outer s H args us vs Q E hr hg e0 hbd hv hsp
  have nv : vs.length = ps.length := len _ _ _ _ hsp
  have kin : K.In s.heap := e0.mod.kin.keeps (fun b o q => (e0.bs b o q).1)
  have nolim : s.heap.NoLimit := e0.mod.nolimit.keeps (fun b o q => (e0.bs b o q).1)
  refine codeAny_call_function hr.depth (kin _ _ lk) rfl S.co S.gen rfl (PySem.W.codeRec_of kin hcd) (hbd _ _ _ _ ?_)
  refine wpAny_newFunctionEnv_cells S.kind ?_ ?_
  · rintro ⟨y, u⟩ hy
    exact (S.par y (List.of_mem_zip hy).1).imp id fun q => ⟨q, PySem.W.cellsFrom_some _ _ _ (.inl q)⟩
  intro env he s1 ic
  subst he
  refine ⟨nolim.keeps ic.toInCall.keep, codeAny_func ?_⟩
  have I := inv_start (CX := L2.CX P w) (E := E) S hr.hd e0 nv hv ic
  obtain ⟨G, ds, c, Q0, X0, sr, rp, dl, hc, hq, hx⟩ := hsp
  have body := hb cdv A outer s H E (hr.deeper _) hg
  have want : rdS K mg (WXE E) wb { nx := fun _ H' => Q .non H', rt := Q } (L2.start N vs) H := by
    refine ⟨G, _, c, _, _, sr, enOf_start rp, hp ds c Q0 X0 dl hc, ?_, ⟨?_, ?_, ?_, ?_⟩⟩
    · rintro m d en' c' cls dx σ' H' G' ⟨c0, le, q⟩ g s2 _ ea
      exact hx m d c0 cls dx H' G' q (g.less le) (s2.less le) ea
    · rintro en' c' σ' H' G' ⟨c0, le, q⟩ g s2 _
      exact hq _ c0 _ H' G' q (g.less le) (s2.less le) rfl
    · rintro d c' v H' G' ⟨c0, le, q⟩ g s2 r2
      exact hq d c0 v H' G' q (g.less le) (s2.less le) r2
    · rintro en' c' σ' H' G' q _ _ _
      exact q.elim
    · rintro en' c' σ' H' G' q _ _ _
      exact q.elim
  refine wpAny_mono (body.run [] s1 (L2.start N vs) H _ I want) ?_ (fun e s' z => z)
  intro fl s' z
  cases fl with
  | ret u => obtain ⟨v, _, H', J, rv, q⟩ := z; exact ⟨v, H', J.os, J.bare, J.base, J.hok, rv, q⟩
  | next => obtain ⟨_, H', J, q⟩ := z; exact ⟨V.non, H', J.os, J.bare, J.base, J.hok, rfl, q⟩
  | brk => obtain ⟨_, _, _, q⟩ := z; cases q
  | cont => obtain ⟨_, _, _, q⟩ := z; cases q
end
/-- at level k a contract one below is at hand -/
def lvl (ct : Nat → Ctr) : Nat → Ctr
  | 0 => fun _ _ _ _ => False
  | k + 1 => ct k
/-- a def that may be called by the module's name x -/
def Cal (P : Program) (w : World) (K : PySem.W.Frag) (mg : Str → Option Value) (base : Heap) (k : Nat) (x : Str) (n : Nat) (ct : Nat → Ctr) : Prop :=
  ∃ f fd ps, mg x = some (.ref f) ∧ PySem.W.keepIn K (.ref f) = true ∧ Binds K fd ps [] ∧ ps.length = n ∧ FnG P w K mg base k f fd ps (spD K mg n (lvl ct k))
def wVar (i : Nat) : WE := fun en c Q _ => match en[i]? with
  | some (some d) => Q d c
  | _ => False
def wC (d : D) : WE := fun _ c Q _ => Q d c
section
variable {X : Cx} {W : WX} {a b e : Expr} {es : List Expr} {wa wb we : WE} {ws : WA} {pos : Pos} {k : Nat}
theorem je_var (i : Nat) {x : Str} (hN : X.N[i]? = some x := by rfl) (hv : Vis X.env.scope x := by first | exact Or.inl rfl | exact Or.inr (Or.inl rfl) | exact Or.inr (Or.inr rfl)) (hd : (x == ("__debug__" : Str)) = false := by decide)
    (hcd : (x == ("__classdict__" : Str)) = false := by decide) : JE X W (.Name x pos) (wVar i) := by
  refine PE.of (pe_var hN hv hd hcd) ?_
  rintro σ H Q ⟨G, en, c, Q0, X0, s, er, q, x0, kk⟩
  unfold wVar at q
  split at q
  · rename_i d hd
    obtain ⟨v, hv, r⟩ := er.2 i d hd
    exact ⟨v, hv, kk d c v H G q Gr.refl s r⟩
  · exact q.elim
theorem je_c {d : D} {v : V} (h : PE X e (tC v)) (r : ∀ K G, Rep K G d v) : JE X W e (wC d) := by
  refine PE.of h ?_
  rintro σ H Q ⟨G, en, c, Q0, X0, s, er, q, x0, kk⟩
  exact kk d c v H G q Gr.refl s (r _ _)
theorem je_int {i : Int} {j : Nat} : JE X W (.Constant (.int i) j pos) (wC (.int i)) := je_c pe_int fun _ _ => rfl
theorem je_bl {i : Bool} {j : Nat} : JE X W (.Constant (.bool i) j pos) (wC (.bl i)) := je_c pe_bl fun _ _ => rfl
theorem je_non {j : Nat} : JE X W (.Constant .none j pos) (wC .non) := je_c pe_non fun _ _ => rfl
theorem je_str {x : Str} {j : Nat} : JE X W (.Constant (.str x) j pos) (wC (.str x)) := je_c pe_str fun _ _ => rfl
abbrev Op1 := D → Cs → DK → Prop
abbrev Op2 := D → D → Cs → DK → Prop
/-- an operation by data is served by a reading over the heap -/
def Fin_ (K : PySem.W.Frag) (G : Hp) (c : Cs) (H : Hp) (Q0 : DK) (Q : VK) : Prop := ∀ d c' v H' G', Q0 d c' → Gr G c H G' c' H' → SR K G' c' H' → Rep K G' d v → Q v H'
def Op2R (X : Cx) (f : Value → Value → Sem Value) (o : Op2) : Prop := ∃ r : R2, OpR X f r ∧
  ∀ G c H x y v u Q0 Q, SR X.K G c H → Rep X.K G x v → Rep X.K G y u → o x y c Q0 → Fin_ X.K G c H Q0 Q → r v u H Q
def wBin (o : Op2) (wa wb : WE) : WE := fun en c Q X => wa en c (fun x c1 => wb en c1 (fun y c2 => o x y c2 Q) X) X
theorem rd_bin {o : Op2} {r : R2} (hr : ∀ G c H x y v u Q0 Q, SR X.K G c H → Rep X.K G x v → Rep X.K G y u → o x y c Q0 → Fin_ X.K G c H Q0 Q → r v u H Q)
    {σ : L2.St} {H : Hp} {Q : VK} {G : Hp} {en : En} {c : Cs} {Q0 : DK} {X0 : XD} (s : SR X.K G c H) (er : EnR X.K G en σ) (q : wBin o wa wb en c Q0 X0) (x0 : XOk X.K X.mg W X0 G c H) (kk : Fin_ X.K G c H Q0 Q) :
    tOp r (rdE X.K X.mg W wa) (rdE X.K X.mg W wb) σ H Q := by
  refine ⟨G, en, c, _, X0, s, er, q, x0, fun d1 c1 v1 H1 G1 q1 g1 s1 r1 => ?_⟩
  refine ⟨G1, en, c1, _, X0, s1, er.mono g1.g, q1, x0.more g1, fun d2 c2 v2 H2 G2 q2 g2 s2 r2 => ?_⟩
  exact hr G2 c2 H2 d1 d2 v1 v2 Q0 Q s2 (Rep.mono g2.g _ _ r1) r2 q2 fun d c' v H' G' z g s' r => kk d c' v H' G' z ((g1.trans g2).trans g) s' r
theorem je_bin {op : Operator} {o : Op2} (ho : Op2R X (binaryOp op) o) (ha : JE X W a wa) (hb : JE X W b wb) : JE X W (.BinOp a op b pos) (wBin o wa wb) := by
  obtain ⟨r, h1, h2⟩ := ho
  exact PE.of (pe_op h1 ha hb) fun σ H Q ⟨G, en, c, Q0, X0, s, er, q, x0, kk⟩ => rd_bin h2 s er q x0 fun d c' v H' G' z g s' r => kk d c' v H' G' z g s' r
theorem je_cmp {op : CmpOp} {o : Op2} (ho : Op2R X (compareOp op) o) (ha : JE X W a wa) (hb : JE X W b wb) (hm : behindInMarks op b = false := by rfl) : JE X W (.Compare a [op] [b] pos) (wBin o wa wb) := by
  obtain ⟨r, h1, h2⟩ := ho
  exact PE.of (pe_cmpR h1 ha hb hm) fun σ H Q ⟨G, en, c, Q0, X0, s, er, q, x0, kk⟩ => rd_bin h2 s er q x0 fun d c' v H' G' z g s' r => kk d c' v H' G' z g s' r
def UnR' (X : Cx) (f : Value → Sem Value) (o : Op1) : Prop := ∃ r : V → Hp → VK → Prop, UnR X f r ∧
  ∀ G c H x v Q0 Q, SR X.K G c H → Rep X.K G x v → o x c Q0 → Fin_ X.K G c H Q0 Q → r v H Q
def wUn (o : Op1) (wa : WE) : WE := fun en c Q X => wa en c (fun x c1 => o x c1 Q) X
theorem je_un {op : UnaryOp} {o : Op1} (ho : UnR' X (unaryOp op) o) (ha : JE X W a wa) : JE X W (.UnaryOp op a pos) (wUn o wa) := by
  obtain ⟨r, h1, h2⟩ := ho
  refine PE.of (pe_un h1 ha) fun σ H Q ⟨G, en, c, Q0, X0, s, er, q, x0, kk⟩ => ?_
  refine ⟨G, en, c, _, X0, s, er, q, x0, fun d1 c1 v1 H1 G1 q1 g1 s1 r1 => ?_⟩
  exact h2 G1 c1 H1 d1 v1 Q0 _ s1 r1 q1 fun d c' v H' G' z g s' r => kk d c' v H' G' z (g1.trans g) s' r
def onB (Q : Bool → Cs → Prop) : DK := fun d c' => match d with
  | .bl b => Q b c'
  | _ => False
theorem onB_bl {Q : Bool → Cs → Prop} {d : D} {c : Cs} (h : onB Q d c) : ∃ b, d = .bl b ∧ Q b c := by
  cases d <;> first
    | exact h.elim
    | exact ⟨_, rfl, h⟩
def wTst (w : WE) : WT := fun en c Q X => w en c (onB Q) X
theorem jt_val (ha : JE X W a wa) (he : ∀ whole, isTrue a X.env whole = (do let v ← whole; standAt a.pos; holding [v] (truthy v)) := by intro _; rfl) : JT X W a (wTst wa) := by
  refine PT.of (pt_val ha he) fun σ H Q ⟨G, en, c, Q0, X0, s, er, q, x0, kk⟩ => ?_
  refine ⟨G, en, c, _, X0, s, er, q, x0, fun d1 c1 v1 H1 G1 q1 g1 s1 r1 => ?_⟩
  obtain ⟨b, rfl, q1⟩ := onB_bl q1
  exact ⟨b, r1, kk b c1 H1 G1 q1 g1 s1⟩
theorem jt_cmp {op : CmpOp} {o : Op2} (ho : Op2R X (compareOp op) o) (ha : JE X W a wa) (hb : JE X W b wb) (hm : behindInMarks op b = false := by rfl) : JT X W (.Compare a [op] [b] pos) (wTst (wBin o wa wb)) := by
  obtain ⟨r, h1, h2⟩ := ho
  refine PT.of (pt_cmpR h1 ha hb hm) fun σ H Q ⟨G, en, c, Q0, X0, s, er, q, x0, kk⟩ => ?_
  refine rd_bin h2 s er q x0 fun d c' v H' G' z g s' r => ?_
  obtain ⟨b, rfl, z⟩ := onB_bl z
  exact ⟨b, r, kk b c' H' G' z g s'⟩
def wNot (t : WT) : WT := fun en c Q X => t en c (fun b c' => Q (!b) c') X
def wAnd (t u : WT) : WT := fun en c Q X => t en c (fun b c' => if b = true then u en c' Q X else Q false c') X
def wOr (t u : WT) : WT := fun en c Q X => t en c (fun b c' => if b = true then Q true c' else u en c' Q X) X
variable {ta tb : WT} {rest : List Expr}
theorem jt_not (ha : JT X W a ta) : JT X W (.UnaryOp .Not a pos) (wNot ta) := by
  refine PT.of (pt_not ha) fun σ H Q ⟨G, en, c, Q0, X0, s, er, q, x0, kk⟩ => ?_
  exact ⟨G, en, c, _, X0, s, er, q, x0, fun b c' H' G' z g s' => kk (!b) c' H' G' z g s'⟩
abbrev JW (X : Cx) (W : WX) (e : Expr) (w : WT) : Prop := PW X e (rdT X.K X.mg W w)
theorem JW.jt (h : JW X W e ta) : JT X W e ta := PW.pt h
theorem jw_and1 (ha : JT X W a ta) : JW X W (.BoolOp .And [a] pos) ta := pw_and1 ha
theorem jw_or1 (ha : JT X W a ta) : JW X W (.BoolOp .Or [a] pos) ta := pw_or1 ha
theorem jw_and (ha : JT X W a ta) (hb : JW X W (.BoolOp .And (b :: rest) pos) tb) : JW X W (.BoolOp .And (a :: b :: rest) pos) (wAnd ta tb) := by
  refine PW.of (pw_and ha hb) fun σ H Q ⟨G, en, c, Q0, X0, s, er, q, x0, kk⟩ => ?_
  refine ⟨G, en, c, _, X0, s, er, q, x0, fun d1 c1 H1 G1 q1 g1 s1 => ?_⟩
  cases d1 with
  | true => exact iteT ⟨G1, en, c1, _, X0, s1, er.mono g1.g, by simpa [onB] using q1, x0.more g1, fun d c' H' G' z g s' => kk d c' H' G' z (g1.trans g) s'⟩
  | false =>
    refine iteF ?_
    exact kk false c1 H1 G1 (by simpa [onB] using q1) g1 s1
theorem jw_or (ha : JT X W a ta) (hb : JW X W (.BoolOp .Or (b :: rest) pos) tb) : JW X W (.BoolOp .Or (a :: b :: rest) pos) (wOr ta tb) := by
  refine PW.of (pw_or ha hb) fun σ H Q ⟨G, en, c, Q0, X0, s, er, q, x0, kk⟩ => ?_
  refine ⟨G, en, c, _, X0, s, er, q, x0, fun d1 c1 H1 G1 q1 g1 s1 => ?_⟩
  cases d1 with
  | true =>
    refine iteT ?_
    exact kk true c1 H1 G1 (by simpa [onB] using q1) g1 s1
  | false => exact iteF ⟨G1, en, c1, _, X0, s1, er.mono g1.g, by simpa [onB] using q1, x0.more g1, fun d c' H' G' z g s' => kk d c' H' G' z (g1.trans g) s'⟩
/-- and, or, not of truths, as values -/
def wAndV (wa wb : WE) : WE := fun en c Q X => wa en c (onB fun b c' => if b = true then wb en c' Q X else Q (.bl false) c') X
def wOrV (wa wb : WE) : WE := fun en c Q X => wa en c (onB fun b c' => if b = true then Q (.bl true) c' else wb en c' Q X) X
def wNotV (wa : WE) : WE := fun en c Q X => wa en c (onB fun b c' => Q (.bl (!b)) c') X
theorem je_one {op : BoolOp} (h : JE X W a wa) : JE X W (.BoolOp op [a] pos) wa := pe_one h
theorem je_and (ha : JE X W a wa) (hb : JE X W (.BoolOp .And (b :: rest) pos) wb) : JE X W (.BoolOp .And (a :: b :: rest) pos) (wAndV wa wb) := by
  refine PE.of (pe_and ha hb) fun σ H Q ⟨G, en, c, Q0, X0, s, er, q, x0, kk⟩ => ?_
  refine ⟨G, en, c, _, X0, s, er, q, x0, fun d1 c1 v1 H1 G1 q1 g1 s1 r1 => ?_⟩
  obtain ⟨t, rfl, q1⟩ := onB_bl q1
  refine ⟨t, r1, ?_⟩
  cases t with
  | true => exact iteT ⟨G1, en, c1, _, X0, s1, er.mono g1.g, by simpa [onB] using q1, x0.more g1, fun d c' v H' G' z g s' r => kk d c' v H' G' z (g1.trans g) s' r⟩
  | false =>
    refine iteF ?_
    exact kk (.bl false) c1 _ H1 G1 (by simpa [onB] using q1) g1 s1 rfl
theorem je_or (ha : JE X W a wa) (hb : JE X W (.BoolOp .Or (b :: rest) pos) wb) : JE X W (.BoolOp .Or (a :: b :: rest) pos) (wOrV wa wb) := by
  refine PE.of (pe_or ha hb) fun σ H Q ⟨G, en, c, Q0, X0, s, er, q, x0, kk⟩ => ?_
  refine ⟨G, en, c, _, X0, s, er, q, x0, fun d1 c1 v1 H1 G1 q1 g1 s1 r1 => ?_⟩
  obtain ⟨t, rfl, q1⟩ := onB_bl q1
  refine ⟨t, r1, ?_⟩
  cases t with
  | true =>
    refine iteT ?_
    exact kk (.bl true) c1 _ H1 G1 (by simpa [onB] using q1) g1 s1 rfl
  | false => exact iteF ⟨G1, en, c1, _, X0, s1, er.mono g1.g, by simpa [onB] using q1, x0.more g1, fun d c' v H' G' z g s' r => kk d c' v H' G' z (g1.trans g) s' r⟩
def wIf (t : WT) (wa wb : WE) : WE := fun en c Q X => t en c (fun b c' => if b = true then wa en c' Q X else wb en c' Q X) X
theorem je_ifx {t : Expr} (ht : JT X W t ta) (ha : JE X W a wa) (hb : JE X W b wb) : JE X W (.IfExp t a b pos) (wIf ta wa wb) := by
  refine PE.of (pe_ifExp ht ha hb) fun σ H Q ⟨G, en, c, Q0, X0, s, er, q, x0, kk⟩ => ?_
  refine ⟨G, en, c, _, X0, s, er, q, x0, fun d1 c1 H1 G1 q1 g1 s1 => ?_⟩
  cases d1 with
  | true => exact iteT ⟨G1, en, c1, _, X0, s1, er.mono g1.g, by simpa [onB] using q1, x0.more g1, fun d c' v H' G' z g s' r => kk d c' v H' G' z (g1.trans g) s' r⟩
  | false => exact iteF ⟨G1, en, c1, _, X0, s1, er.mono g1.g, by simpa [onB] using q1, x0.more g1, fun d c' v H' G' z g s' r => kk d c' v H' G' z (g1.trans g) s' r⟩
def wNil : WA := fun _ c Q _ => Q [] c
def wCons (w : WE) (ws : WA) : WA := fun en c Q X => w en c (fun d c1 => ws en c1 (fun ds c2 => Q (d :: ds) c2) X) X
theorem ja_nil : JA X W [] wNil := PA.of pa_nil fun σ H Q ⟨G, en, c, Q0, X0, s, er, q, x0, kk⟩ => kk [] c [] H G q Gr.refl s rfl
theorem ja_cons (he : JE X W e we) (hs : JA X W es ws) (h : starEach (e :: es) X.env = (false, eval e X.env) :: starEach es X.env := by rfl) : JA X W (e :: es) (wCons we ws) := by
  refine PA.of (pa_cons he hs h) fun σ H Q ⟨G, en, c, Q0, X0, s, er, q, x0, kk⟩ => ?_
  refine ⟨G, en, c, _, X0, s, er, q, x0, fun d1 c1 v1 H1 G1 q1 g1 s1 r1 => ?_⟩
  exact ⟨G1, en, c1, _, X0, s1, er.mono g1.g, q1, x0.more g1, fun ds c' vs H' G' z g s' r => kk _ c' _ H' G' z (g1.trans g) s' ⟨v1, vs, rfl, Rep.mono g.g _ _ r1, r⟩⟩
def wTup (ws : WA) : WE := fun en c Q X => ws en c (fun ds c1 => ds.length ≤ sizeLine ∧ Q (.tup ds) c1) X
/-- a list display whose list stays as it is; one that lives -/
def wLst (ws : WA) : WE := fun en c Q X => ws en c (fun ds c1 => ds.length ≤ sizeLine ∧ Q (.lst ds) c1) X
def wLstL (ws : WA) : WE := fun en c Q X => ws en c (fun ds c1 => ds.length ≤ sizeLine ∧ ∀ p, c1 p = none → Q (.ptr p) (cup c1 p (.lst ds))) X
theorem je_tup {x1 : Nat} (h : JA X W es ws) : JE X W (.Tuple es x1 pos) (wTup ws) := by
  refine PE.of (pe_tup h) fun σ H Q ⟨G, en, c, Q0, X0, s, er, q, x0, kk⟩ => ?_
  refine ⟨G, en, c, _, X0, s, er, q, x0, fun ds c1 vs H1 G1 ⟨z, q1⟩ g1 s1 r1 => ⟨by rw [← r1.length]; exact z, fun p hp => ?_⟩⟩
  obtain ⟨s2, g2⟩ := s1.newG hp
  exact kk _ c1 _ _ _ q1 (g1.trans g2) s2 ⟨p, vs, rfl, TupAt.of upd_same, Reps.mono g2.g _ _ r1⟩
theorem je_lst (h : JA X W es ws) : JE X W (.List es pos) (wLst ws) := by
  refine PE.of (pe_lst h) fun σ H Q ⟨G, en, c, Q0, X0, s, er, q, x0, kk⟩ => ?_
  refine ⟨G, en, c, _, X0, s, er, q, x0, fun ds c1 vs H1 G1 ⟨z, q1⟩ g1 s1 r1 => ⟨by rw [← r1.length]; exact z, fun p hp => ?_⟩⟩
  obtain ⟨s2, g2⟩ := s1.newG hp
  exact kk _ c1 _ _ _ q1 (g1.trans g2) s2 ⟨p, vs, rfl, upd_same, Reps.mono g2.g _ _ r1⟩
theorem je_lstL (h : JA X W es ws) : JE X W (.List es pos) (wLstL ws) := by
  refine PE.of (pe_lst h) fun σ H Q ⟨G, en, c, Q0, X0, s, er, q, x0, kk⟩ => ?_
  refine ⟨G, en, c, _, X0, s, er, q, x0, fun ds c1 vs H1 G1 ⟨z, q1⟩ g1 s1 r1 => ⟨by rw [← r1.length]; exact z, fun p hp => ?_⟩⟩
  obtain ⟨hc, hg⟩ := s1.free hp
  obtain ⟨s2, g2⟩ := s1.newL (y := .lst ds) hp ⟨hg, vs, upd_same, r1⟩
  exact kk _ _ _ _ _ (q1 p hc) (g1.trans g2) s2 rfl
/-- a value that was live is told as one that stays -/
def wFz (w : WE) : WE := fun en c Q X => w en c (fun d c1 => match d with
  | .ptr p => match c1 p with
    | some (.lst ds) => Q (.lst ds) (cup c1 p (.fz ds))
    | some (.fz ds) => Q (.lst ds) c1
    | _ => False
  | d => Q d c1) X
theorem je_fz (h : JE X W e we) : JE X W e (wFz we) := by
  refine PE.of h fun σ H Q ⟨G, en, c, Q0, X0, s, er, q, x0, kk⟩ => ?_
  refine ⟨G, en, c, _, X0, s, er, q, x0, fun d1 c1 v1 H1 G1 q1 g1 s1 r1 => ?_⟩
  cases d1 with
  | ptr p =>
    dsimp only at q1
    split at q1
    · rename_i ds hd
      obtain ⟨vs, rv, s2, g2⟩ := s1.freeze hd
      exact kk _ _ _ _ _ q1 (g1.trans g2) s2 ⟨p, vs, r1, upd_same, Reps.mono g2.g _ _ rv⟩
    · rename_i ds hd
      obtain ⟨vs, e1, e2⟩ := s1.at_ _ _ hd
      exact kk _ _ _ _ _ q1 g1 s1 ⟨p, vs, r1, e1, e2⟩
    · exact q1.elim
  | _ => exact kk _ _ _ _ _ q1 g1 s1 r1
/-- a def of the module is called -/
def wCall (n : Nat) (ct : Nat → Ctr) (k : Nat) (ws : WA) : WE := fun en c Q X => ws en c (fun ds c1 => ds.length = n ∧ lvl ct k ds c1 Q (fun n d c2 => X n d en c2)) X
theorem run_fnG {x : Str} {n : Nat} {f : Addr} {fd : FuncData} {ps : List Str} {sp : Sp} {pins : List (Addr × Obj)} {σ : L2.St} {H : Hp} {s : Shared} {Q : VK} {E : XK} {us : List Value} {vs : List V} (F : FnG X.prog X.w X.K X.mg X.base k f fd ps sp) (hr : Room k X.A) (hg : X.A.guards = some [])
    (hb : Binds X.K fd ps []) (hx : PassesAt (L2.CX X.prog X.w) X σ E) (I : Inv X pins σ H s) (r : Vals vs us) (h : sp vs H Q E) : wpAny (model X.prog X.w) X.A (call (.ref f) us) (EP X pins σ Q) X.xe s := by
  have nl : us.length = ps.length := r.length.symm.trans (F.len vs H Q E h)
  have bd := hb s us I.kIn (by rw [List.append_nil]; exact nl)
  rw [List.append_nil] at bd
  refine wpAny_call (codeAny_mono (F.run X.A X.stack s H ⟨us, []⟩ us vs Q E hr hg I.env0 bd r h) ?_)
  rintro (e | fl) s' z
  · exact hx pins H s e s' I z
  · cases fl <;> first
      | exact False.elim z
      | exact I.after z
theorem je_call {x : Str} {n : Nat} {ct : Nat → Ctr} {p : Pos} (cl : Cal X.prog X.w X.K X.mg X.base k x n ct) (hr : Room k X.A) (hg : X.A.guards = some []) (tk : Takes X W) (ha : JA X W (e :: es) ws) (hgl : Gl X x := by rfl)
    (hdb : (x == ("__debug__" : Str)) = false := by decide) (he : starEach (e :: es) X.env = (false, eval e X.env) :: starEach es X.env := by rfl) (hpl : (backTo pos (starEach es X.env)).any (·.1) = false := by rfl) :
    JE X W (.Call (.Name x p) (e :: es) [] pos) (wCall n ct k ws) := by
  obtain ⟨f, fd, ps, hm, hk, hb, hl, F⟩ := cl
  refine ⟨fun pins s0 σ H Q I ⟨G, en, c, Q0, X0, s, er, q, x0, kk⟩ => ?_⟩
  refine wpAny_Call_Name_kw (ld_glob I hgl hm ?_ hdb)
  refine PySem.W.callWith_K (h₀ := X.base) I.ok.mod.kin hk ?_ he hpl
  refine thn (ha.run pos pins s0 σ H (fun vs H1 => spD X.K X.mg n (lvl ct k) vs H1 Q (L2.WE W σ)) I ?_) fun us s1 ⟨vs, H1, I1, r, z⟩ => ⟨I1.kIn, ?_⟩
  · refine ⟨G, en, c, fun ds c1 => ds.length = n ∧ lvl ct k ds c1 Q0 (fun n d c2 => X0 n d en c2), X0, s, er, q, x0, fun ds c1 vs H1 G1 ⟨hlen, q1⟩ g1 s1 r1 => ?_⟩
    · refine ⟨G1, ds, c1, Q0, _, s1, r1, hlen, q1, fun d c' v H' G' z g s' r' => kk d c' v H' G' z (g1.trans g) s' r', ?_⟩
      intro m d c' cls dx H' G' z g s' ea
      exact x0 m d en c' cls dx σ H' G' z (g1.trans g) s' (er.mono (g1.trans g).g) ea
  · refine thn (run_fnG (x := x) (n := n) F hr hg hb (passAt tk σ) I1 r z) fun u s2 z => z
end
end VL
namespace VL
open PySem PySem.Spec PyProof.Rows L2
/-- the items of a list that is tracked as one -/
def lstOf (c : Cs) : D → Option (List D)
  | .lst l => some l
  | .ptr p => match c p with
    | some (.lst l) => some l
    | some (.fz l) => some l
    | _ => none
  | _ => none
/-- the items of a list, the script, a tuple -/
def seqOf (c : Cs) : D → Option (List D)
  | .tup l => some l
  | .scr ns => some (ns.map .int)
  | d => lstOf c d
def isTup : D → Bool
  | .tup _ => true
  | _ => false
section
variable {K : PySem.W.Frag} {G : Hp} {c : Cs} {H : Hp}
theorem lst_at {d : D} {v : V} {l : List D} (s : SR K G c H) (r : Rep K G d v) (h : lstOf c d = some l) : ∃ a vs, v = .ref a ∧ H a = some (.lst vs) ∧ Reps K G l vs := by
  cases d with
  | lst l' =>
    obtain ⟨a, vs, e, h1, h2⟩ := r
    cases h
    exact ⟨a, vs, e, s.sub _ _ h1, h2⟩
  | ptr p =>
    have e : v = .ref p := r
    have h : (match c p with | some (.lst l) => some l | some (.fz l) => some l | _ => none) = some l := h
    cases hc : c p with
    | none => rw [hc] at h; cases h
    | some x =>
      rw [hc] at h
      cases x with
      | lst l' =>
        cases h
        obtain ⟨_, vs, h1, h2⟩ := s.at_ _ _ hc
        exact ⟨p, vs, e, h1, h2⟩
      | fz l' =>
        cases h
        obtain ⟨vs, h1, h2⟩ := s.at_ _ _ hc
        exact ⟨p, vs, e, s.sub _ _ h1, h2⟩
      | dic l' => cases h
      | dit l' => cases h
      | obj C fs => cases h
      | exc _ _ _ => cases h
      | tab _ => cases h
      | fn _ _ => cases h
  | _ => cases h
theorem seq_at {d : D} {v : V} {l : List D} (s : SR K G c H) (r : Rep K G d v) (h : seqOf c d = some l) : ∃ a vs, v = .ref a ∧ Reps K G l vs ∧ ((isTup d = true ∧ SqT K H a vs) ∨ (isTup d = false ∧ SqL K H a vs)) := by
  have ll : lstOf c d = some l → isTup d = false → ∃ a vs, v = .ref a ∧ Reps K G l vs ∧ ((isTup d = true ∧ SqT K H a vs) ∨ (isTup d = false ∧ SqL K H a vs)) := fun h1 h2 => by
    obtain ⟨a, vs, e, h3, h4⟩ := lst_at s r h1
    exact ⟨a, vs, e, h4, .inr ⟨h2, SqL.of h3⟩⟩
  cases d <;> first
    | exact ll h rfl
    | skip
  · obtain ⟨a, vs, e, h1, h2⟩ := r
    cases h
    exact ⟨a, vs, e, h2, .inl ⟨rfl, s.sub.sqT h1.sq⟩⟩
  · obtain ⟨a, e, h1⟩ := r
    cases h
    exact ⟨a, _, e, Reps.ints.mpr rfl, .inr ⟨rfl, s.sub.sqL h1⟩⟩
theorem seq_len {d : D} {v : V} {l : List D} (s : SR K G c H) (hl : HLen K H) (r : Rep K G d v) (h : seqOf c d = some l) : l.length ≤ sizeLine := by
  obtain ⟨a, vs, e, h1, h2⟩ := seq_at s r h
  rw [h1.length]
  rcases h2 with ⟨_, h2⟩ | ⟨_, h2⟩
  · exact hl.2 _ _ h2
  · exact hl.1 _ _ h2
end
def MulOk (i j : Int) : Prop := CMul i j ∨ CMulW i j
section
variable {X : Cx}
theorem mulOk_r : OpR X (binaryOp .Mult) (rI MulOk fun i j => .int (i * j)) := fun pins s σ H x y v u Q I rx ry ⟨i, j, e1, e2, h, q⟩ => by
  rcases h with h | h
  · exact op_mul pins s σ H x y v u Q I rx ry ⟨i, j, e1, e2, h, q⟩
  · exact op_mulW pins s σ H x y v u Q I rx ry ⟨i, j, e1, e2, h, q⟩
/-- what an operation on two ints is by data -/
def oII (C : Int → Int → Prop) (g : Int → Int → D) : Op2 := fun x y c Q => match x, y with
  | .int i, .int j => C i j ∧ Q (g i j) c
  | _, _ => False
theorem oII_r {f : Value → Value → Sem Value} {C : Int → Int → Prop} {g : Int → Int → D} {g' : Int → Int → V} (h : OpR X f (rI C g')) (hg : ∀ i j K G, Rep K G (g i j) (g' i j)) : Op2R X f (oII C g) := by
  refine ⟨_, h, ?_⟩
  intro G c H x y v u Q0 Q s rx ry q k
  unfold oII at q
  split at q
  · rename_i i j
    exact ⟨i, j, rx, ry, q.1, k _ c _ H G q.2 Gr.refl s (hg _ _ _ _)⟩
  · exact q.elim
theorem rI_of {f : Value → Value → Sem Value} {g' : Int → Int → V} (h : OpR X f (rI0 g')) : OpR X f (rI (fun _ _ => True) g') :=
  fun pins s σ H x y v u Q I rx ry ⟨i, j, e1, e2, _, q⟩ => h pins s σ H x y v u Q I rx ry ⟨i, j, e1, e2, q⟩
def oSub : Op2 := oII (fun _ _ => True) fun i j => .int (i - j)
theorem r_sub : Op2R X (binaryOp .Sub) oSub := oII_r (rI_of op_sub) fun _ _ _ _ => rfl
def oFdiv : Op2 := oII (fun _ j => 0 < j ∧ j.natAbs.log2 < 9000) fun i j => .int (i / j)
theorem r_fdiv : Op2R X (binaryOp .FloorDiv) oFdiv := oII_r op_fdivW fun _ _ _ _ => rfl
def oMod : Op2 := oII (fun _ j => 0 < j) fun i j => .int (i % j)
theorem r_mod : Op2R X (binaryOp .Mod) oMod := oII_r op_mod fun _ _ _ _ => rfl
def oPow : Op2 := oII (fun i j => 0 ≤ j ∧ j ≤ 1000000 ∧ i.natAbs < 2 ^ 64) fun i j => .int (i ^ j.toNat)
theorem r_pow : Op2R X (binaryOp .Pow) oPow := oII_r op_pow fun _ _ _ _ => rfl
def oLt : Op2 := oII (fun _ _ => True) fun i j => .bl (decide (i < j))
theorem r_lt : Op2R X (compareOp .Lt) oLt := oII_r (rI_of op_lt) fun _ _ _ _ => rfl
def oLe : Op2 := oII (fun _ _ => True) fun i j => .bl (decide (i ≤ j))
theorem r_le : Op2R X (compareOp .LtE) oLe := oII_r (rI_of op_le) fun _ _ _ _ => rfl
def oGt : Op2 := oII (fun _ _ => True) fun i j => .bl (decide (j < i))
theorem r_gt : Op2R X (compareOp .Gt) oGt := oII_r (rI_of op_gt) fun _ _ _ _ => rfl
def oGe : Op2 := oII (fun _ _ => True) fun i j => .bl (decide (j ≤ i))
theorem r_ge : Op2R X (compareOp .GtE) oGe := oII_r (rI_of op_ge) fun _ _ _ _ => rfl
def oNeg : Op1 := fun x c Q => match x with
  | .int i => Q (.int (-i)) c
  | _ => False
theorem r_neg : UnR' X (unaryOp .USub) oNeg := by
  refine ⟨_, un_neg, ?_⟩
  intro G c H x v Q0 Q s r q k
  cases x <;> first
    | exact q.elim
    | exact ⟨_, r, k _ c _ H G q Gr.refl s rfl⟩
def oAdd : Op2 := fun x y c Q => match x, y with
  | .int i, .int j => Q (.int (i + j)) c
  | .str i, .str j => i.length + j.length ≤ sizeLine ∧ Q (.str (i ++ j)) c
  | .tup a, .tup b => a.length + b.length ≤ sizeLine ∧ Q (.tup (a ++ b)) c
  | x, y => match lstOf c x, lstOf c y with
    | some a, some b => a.length + b.length ≤ sizeLine ∧ Q (.lst (a ++ b)) c
    | _, _ => False
theorem r_add : Op2R X (binaryOp .Add) oAdd := by
  refine ⟨_, op_add.or (op_add_str.or (op_catA.or op_cat)), ?_⟩
  intro G c H x y v u Q0 Q s rx ry q k
  unfold oAdd at q
  split at q
  · exact .inl ⟨_, _, rx, ry, k _ c _ H G q Gr.refl s rfl⟩
  · exact .inr (.inl ⟨_, _, rx, ry, q.1, k _ c _ H G q.2 Gr.refl s rfl⟩)
  · rename_i a b
    obtain ⟨z, q⟩ := q
    obtain ⟨p1, vs, e1, h1, t1⟩ := rx
    obtain ⟨p2, ws, e2, h2, t2⟩ := ry
    refine .inr (.inr (.inl ⟨p1, p2, vs, ws, e1, e2, s.sub.sqT h1.sq, s.sub.sqT h2.sq, by rw [← t1.length, ← t2.length]; exact z, fun hn => ?_, fun _ hn => ?_, fun _ _ p hp => ?_⟩))
    · refine k _ c _ H G q Gr.refl s ⟨p2, ws, rfl, h2, ?_⟩
      have e : a = [] := List.eq_nil_of_length_eq_zero (by rw [t1.length, hn]; rfl)
      subst e
      exact t2
    · refine k _ c _ H G q Gr.refl s ⟨p1, vs, rfl, h1, ?_⟩
      have e : b = [] := List.eq_nil_of_length_eq_zero (by rw [t2.length, hn]; rfl)
      subst e
      rw [List.append_nil]
      exact t1
    · obtain ⟨hc, hg⟩ := s.free hp
      obtain ⟨s2, g2⟩ := s.newG (o := HO.tup (vs ++ ws)) hp
      exact k _ c _ _ _ q g2 s2 ⟨p, _, rfl, TupAt.of upd_same, Reps.app (Reps.mono g2.g _ _ t1) (Reps.mono g2.g _ _ t2)⟩
  · split at q
    · rename_i a b ha hb
      obtain ⟨z, q⟩ := q
      obtain ⟨p1, vs, e1, h1, t1⟩ := lst_at s rx ha
      obtain ⟨p2, ws, e2, h2, t2⟩ := lst_at s ry hb
      refine .inr (.inr (.inr ⟨p1, p2, vs, ws, e1, e2, h1, h2, by rw [← t1.length, ← t2.length]; exact z, fun p hp => ?_⟩))
      obtain ⟨hc, hg⟩ := s.free hp
      obtain ⟨s2, g2⟩ := s.newG (o := HO.lst (vs ++ ws)) hp
      exact k _ c _ _ _ q g2 s2 ⟨p, _, rfl, upd_same, Reps.app (Reps.mono g2.g _ _ t1) (Reps.mono g2.g _ _ t2)⟩
    · exact q.elim
end
end VL
namespace VL
open PySem PySem.Spec PyProof.Rows L2
mutual
def toP : D → PyData
  | .non => .none
  | .bl b => .bool b
  | .int i => .int i
  | .str x => .str x
  | .tup l => .tuple (toPs l)
  | .lst l => .list (toPs l)
  | .ptr _ => .dict []
  | .scr _ => .dict []
  | .ty _ => .dict []
def toPs : List D → List PyData
  | [] => []
  | d :: ds => toP d :: toPs ds
end
/-- data that may be compared: no live things in it, texts of true signs, not too deep -/
def okD (d : D) : Prop := SeqAt.shaped (toP d) = true
def deq (x y : D) : Bool := PyData.eqv (toP x) (toP y)
mutual
theorem dp_of {K : PySem.W.Frag} {G : Hp} : ∀ (d : D) (v : V), (toP d).canLay0 = true → Rep K G d v → Dp K G v (toP d)
  | .non, _, _, h => by cases h; exact .non
  | .bl b, _, _, h => by cases h; exact .bl b
  | .int i, _, _, h => by cases h; exact .int i
  | .str x, _, _, h => by cases h; exact .str x
  | .tup l, v, k, h => by
    obtain ⟨a, vs, rfl, h1, h2⟩ := h
    exact .tup h1.sq (dps_of l vs (by simpa [toP, PyData.canLay0] using k) h2)
  | .lst l, v, k, h => by
    obtain ⟨a, vs, rfl, h1, h2⟩ := h
    exact .lst (SqL.of h1) (dps_of l vs (by simpa [toP, PyData.canLay0] using k) h2)
  | .ptr _, _, k, _ => by simp [toP, PyData.canLay0] at k
  | .scr _, _, k, _ => by simp [toP, PyData.canLay0] at k
  | .ty _, _, k, _ => by simp [toP, PyData.canLay0] at k
theorem dps_of {K : PySem.W.Frag} {G : Hp} : ∀ (l : List D) (vs : List V), PyData.canLayAll0 (toPs l) = true → Reps K G l vs → DpAll K G vs (toPs l)
  | [], _, _, h => by cases h; exact .nil
  | d :: ds, _, k, h => by
    obtain ⟨v, r, rfl, h1, h2⟩ := h
    have k : (toP d).canLay0 = true ∧ PyData.canLayAll0 (toPs ds) = true := by simpa [toPs, PyData.canLayAll0] using k
    exact .cons (dp_of d v k.1 h1) (dps_of ds r k.2 h2)
end
/-- a live list read as data -/
def rdv (c : Cs) : D → D
  | .ptr p => match c p with
    | some (.lst l) => .lst l
    | some (.fz l) => .lst l
    | _ => .ptr p
  | d => d
section
variable {K : PySem.W.Frag} {G : Hp} {c : Cs} {H : Hp}
theorem rep_rdv {d : D} {v : V} (s : SR K G c H) (r : Rep K G d v) : Rep K H (rdv c d) v := by
  cases d with
  | ptr p =>
    have hp : Rep K H (.ptr p) v := r
    show Rep K H (match c p with | some (.lst l) => D.lst l | some (.fz l) => D.lst l | _ => D.ptr p) v
    cases hc : c p with
    | none => exact hp
    | some x =>
      cases x with
      | lst l =>
        obtain ⟨_, vs, h1, h2⟩ := s.at_ _ _ hc
        exact ⟨p, vs, r, h1, Reps.mono s.sub _ _ h2⟩
      | fz l =>
        obtain ⟨vs, h1, h2⟩ := s.at_ _ _ hc
        exact ⟨p, vs, r, s.sub _ _ h1, Reps.mono s.sub _ _ h2⟩
      | dic l => exact hp
      | dit l => exact hp
      | obj C fs => exact hp
      | exc _ _ _ => exact hp
      | tab _ => exact hp
      | fn _ _ => exact hp
  | _ => exact Rep.mono s.sub _ _ r
theorem dp_rdv {d : D} {v : V} (s : SR K G c H) (r : Rep K G d v) (h : okD (rdv c d)) : Dp K H v (toP (rdv c d)) := dp_of _ _ (SeqAt.canLay_of_shaped h) (rep_rdv s r)
end
def oEq : Op2 := fun x y c Q => match x, y with
  | .str a, .str b => Q (.bl (decide (a = b))) c
  | x, y => okD (rdv c x) ∧ okD (rdv c y) ∧ Q (.bl (deq (rdv c x) (rdv c y))) c
def oNe : Op2 := fun x y c Q => match x, y with
  | .str a, .str b => Q (.bl (!decide (a = b))) c
  | x, y => okD (rdv c x) ∧ okD (rdv c y) ∧ Q (.bl (!deq (rdv c x) (rdv c y))) c
theorem dec_strV {a b : Str} : decide (V.str a = V.str b) = decide (a = b) := by
  by_cases h : a = b
  · subst h; simp
  · rw [decide_eq_false h, decide_eq_false (fun q => h (V.str.inj q))]
def isNon : D → Bool
  | .non => true
  | _ => false
theorem isNon_r {K : PySem.W.Frag} {G : Hp} {d : D} {v : V} (r : Rep K G d v) : decide (v = .non) = isNon d := by
  cases d with
  | non => cases r; rfl
  | bl b => cases r; rfl
  | int i => cases r; rfl
  | str x => cases r; rfl
  | tup l => obtain ⟨a, vs, rfl, _⟩ := r; rfl
  | lst l => obtain ⟨a, vs, rfl, _⟩ := r; rfl
  | ptr p => cases r; rfl
  | scr l => obtain ⟨a, rfl, _⟩ := r; rfl
  | ty n => cases r; rfl
def oIs : Op2 := fun x y c Q => match y with
  | .non => Q (.bl (isNon x)) c
  | .bl b => match x with
    | .bl a => Q (.bl (decide (a = b))) c
    | _ => False
  | _ => False
def oIsNot : Op2 := fun x y c Q => match y with
  | .non => Q (.bl (!isNon x)) c
  | .bl b => match x with
    | .bl a => Q (.bl (!decide (a = b))) c
    | _ => False
  | _ => False
section
variable {X : Cx} {k : Nat}
theorem r_eq (hr : Room k X.A) : Op2R X (compareOp .Eq) oEq := by
  refine ⟨_, (op_eqD hr.units).or op_eq, ?_⟩
  intro G c H x y v u Q0 Q s rx ry q kk
  unfold oEq at q
  split at q
  · cases rx
    cases ry
    refine .inr ⟨rfl, ?_⟩
    rw [dec_strV]
    exact kk _ c _ H G q Gr.refl s rfl
  · obtain ⟨h1, h2, q⟩ := q
    exact .inl ⟨_, _, dp_rdv s rx h1, dp_rdv s ry h2, h1, h2, kk _ c _ H G q Gr.refl s rfl⟩
theorem r_ne (hr : Room k X.A) : Op2R X (compareOp .NotEq) oNe := by
  refine ⟨_, (op_neD hr.units).or op_ne, ?_⟩
  intro G c H x y v u Q0 Q s rx ry q kk
  unfold oNe at q
  split at q
  · cases rx
    cases ry
    refine .inr ⟨rfl, ?_⟩
    rw [dec_strV]
    exact kk _ c _ H G q Gr.refl s rfl
  · obtain ⟨h1, h2, q⟩ := q
    exact .inl ⟨_, _, dp_rdv s rx h1, dp_rdv s ry h2, h1, h2, kk _ c _ H G q Gr.refl s rfl⟩
theorem r_is : Op2R X (compareOp .Is) oIs := by
  refine ⟨_, op_isN.or op_isBl, ?_⟩
  intro G c H x y v u Q0 Q s rx ry q kk
  cases y <;> first
    | exact q.elim
    | skip
  · refine .inl ⟨ry, ?_⟩
    rw [isNon_r rx]
    exact kk _ c _ H G q Gr.refl s rfl
  · cases x <;> first
      | exact q.elim
      | skip
    exact .inr ⟨_, _, rx, ry, kk _ c _ H G q Gr.refl s rfl⟩
theorem r_isnot : Op2R X (compareOp .IsNot) oIsNot := by
  refine ⟨_, op_notN.or op_notBl, ?_⟩
  intro G c H x y v u Q0 Q s rx ry q kk
  cases y <;> first
    | exact q.elim
    | skip
  · refine .inl ⟨ry, ?_⟩
    rw [isNon_r rx]
    exact kk _ c _ H G q Gr.refl s rfl
  · cases x <;> first
      | exact q.elim
      | skip
    exact .inr ⟨_, _, rx, ry, kk _ c _ H G q Gr.refl s rfl⟩
end
def oMul : Op2 := fun x y c Q => match x, y with
  | .int i, .int j => MulOk i j ∧ Q (.int (i * j)) c
  | x, .int k => match lstOf c x with
    | some l => -(2 ^ 63) ≤ k ∧ k < 2 ^ 63 ∧ l.length * k.toNat ≤ sizeLine ∧ Q (.lst (List.replicate k.toNat l).flatten) c
    | none => False
  | _, _ => False
theorem Reps.reps {K : PySem.W.Frag} {G : Hp} {l : List D} {vs : List V} (h : Reps K G l vs) : ∀ n : Nat, Reps K G (List.replicate n l).flatten (List.replicate n vs).flatten
  | 0 => rfl
  | n + 1 => by rw [List.replicate_succ, List.replicate_succ, List.flatten_cons, List.flatten_cons]; exact Reps.app h (Reps.reps h n)
section
variable {X : Cx} {k : Nat} {W : WX}
theorem r_mul : Op2R X (binaryOp .Mult) oMul := by
  refine ⟨_, mulOk_r.or op_rep, ?_⟩
  intro G c H x y v u Q0 Q s rx ry q kk
  unfold oMul at q
  split at q
  · exact .inl ⟨_, _, rx, ry, q.1, kk _ c _ H G q.2 Gr.refl s rfl⟩
  · split at q
    · rename_i l e
      obtain ⟨h1, h2, h3, q⟩ := q
      obtain ⟨a, vs, e1, h4, h5⟩ := lst_at s rx e
      refine .inr ⟨a, _, vs, e1, ry, h4, h1, h2, by rw [← h5.length]; exact h3, fun p hp => ?_⟩
      obtain ⟨s2, g2⟩ := s.newG (o := HO.lst (List.replicate _ vs).flatten) hp
      exact kk _ c _ _ _ q g2 s2 ⟨p, _, rfl, upd_same, Reps.reps (Reps.mono g2.g _ _ h5) _⟩
    · exact q.elim
  · exact q.elim
theorem atI_r {K : PySem.W.Frag} {G : Hp} {l : List D} {vs : List V} {i : Int} {d : D} (r : Reps K G l vs) (h : atI l i = some d) : ∃ v, atI vs i = some v ∧ Rep K G d v := by
  unfold atI at h ⊢
  rw [← r.length]
  cases e : ixN l.length i with
  | none => rw [e] at h; cases h
  | some j =>
    rw [e] at h
    exact r.get h
def oIx : Op2 := fun x y c Q => match y with
  | .int i => match x with
    | .str z => ∃ ch, z.length ≤ sizeLine ∧ atI z.cps.toList i = some ch ∧ Q (.str ⟨#[ch]⟩) c
    | x => match seqOf c x with
      | some l => ∃ d, atI l i = some d ∧ Q d c
      | none => False
  | _ => False
variable {a b : Expr} {wa wb : WE} {pos : Pos}
theorem je_ix (ha : JE X W a wa) (hb : JE X W b wb) (hs : PlainIx b := by exact fun _ _ => rfl) : JE X W (.Subscript a b pos) (wBin oIx wa wb) := by
  refine PE.of (pe_ix ix_seq ha hb hs) fun σ H Q ⟨G, en, c, Q0, X0, s, er, q, x0, kk⟩ => ?_
  refine rd_bin ?_ s er q x0 fun d c' v H' G' z g s' r => kk d c' v H' G' z g s' r
  intro G c H x y v u Q0 Q s rx ry q kk
  unfold oIx at q
  split at q
  · rename_i i
    split at q
    · obtain ⟨ch, h1, h2, q⟩ := q
      exact .inr (.inr ⟨_, i, ch, rx, ry, h1, h2, kk _ c _ H G q Gr.refl s rfl⟩)
    · split at q
      · rename_i l e
        obtain ⟨d, h1, q⟩ := q
        obtain ⟨p, vs, e1, h2, h3⟩ := seq_at s rx e
        obtain ⟨w, h4, h5⟩ := atI_r h2 h1
        rcases h3 with ⟨_, h3⟩ | ⟨_, h3⟩
        · exact .inr (.inl ⟨p, vs, i, w, e1, ry, h3, h4, kk _ c _ H G q Gr.refl s h5⟩)
        · exact .inl ⟨p, vs, i, w, e1, ry, h3, h4, kk _ c _ H G q Gr.refl s h5⟩
      · exact q.elim
  · exact q.elim
abbrev WO := En → Cs → (Option Int → Cs → Prop) → XD → Prop
def rdO (K : PySem.W.Frag) (mg : Str → Option Value) (W : WX) (w : WO) : TO := fun σ H Q => ∃ G en c Q0 X0, SR K G c H ∧ EnR K G en σ ∧ w en c Q0 X0 ∧ XOk K mg W X0 G c H ∧
  ∀ o c' H' G', Q0 o c' → Gr G c H G' c' H' → SR K G' c' H' → Q o H'
abbrev JO (X : Cx) (W : WX) (e : Option Expr) (w : WO) : Prop := PO X e (rdO X.K X.mg W w)
def wNoPart : WO := fun _ c Q _ => Q none c
def wPart (w : WE) : WO := fun en c Q X => w en c (fun d c' => match d with
  | .int i => Q (some i) c'
  | _ => False) X
theorem PO.imp {e : Option Expr} {t t' : TO} (h : PO X e t) (k : ∀ σ H Q, t' σ H Q → t σ H Q) : PO X e t' := by
  refine ⟨fun pins s σ H Q I q => ?_⟩
  exact h.run pins s σ H _ I (k σ H Q q)
theorem jo_none : JO X W none wNoPart := PO.imp po_none fun σ H Q ⟨G, en, c, Q0, X0, s, er, q, x0, kk⟩ => kk none c H G q Gr.refl s
theorem jo_some (ha : JE X W a wa) : JO X W (some a) (wPart wa) := by
  refine PO.imp (po_some ha) fun σ H Q ⟨G, en, c, Q0, X0, s, er, q, x0, kk⟩ => ?_
  refine ⟨G, en, c, _, X0, s, er, q, x0, fun d1 c1 v1 H1 G1 q1 g1 s1 r1 => ?_⟩
  cases d1 <;> first
    | exact q1.elim
    | exact ⟨_, r1, kk _ c1 H1 G1 q1 g1 s1⟩
def cutL {α : Type} (l : List α) (lo hi : Option Int) : List α := (l.drop (HT.sIx l.length 0 lo)).take (HT.sIx l.length l.length hi - HT.sIx l.length 0 lo)
theorem Reps.cut {K : PySem.W.Frag} {G : Hp} {l : List D} {vs : List V} (h : Reps K G l vs) (lo hi : Option Int) : Reps K G (cutL l lo hi) (cutV vs lo hi) := by
  unfold cutL cutV
  rw [h.length]
  exact Reps.take _ (Reps.drop _ h)
def oSl (x : D) (lo hi : Option Int) (c : Cs) (Q : DK) : Prop := match x with
  | .str z => z.length ≤ sizeLine ∧ Q (.str (cutS z lo hi)) c
  | .tup l => Q (.tup (cutL l lo hi)) c
  | x => match seqOf c x with
    | some l => Q (.lst (cutL l lo hi)) c
    | none => False
def wSl (wa : WE) (wl wh : WO) : WE := fun en c Q X => wa en c (fun x c1 => wl en c1 (fun lo c2 => wh en c2 (fun hi c3 => oSl x lo hi c3 Q) X) X) X
theorem cut_whole {α : Type} {l : List α} {lo hi : Option Int} (h : HT.sIx l.length 0 lo = 0 ∧ HT.sIx l.length l.length hi = l.length) : cutL l lo hi = l := by
  unfold cutL
  rw [h.1, h.2]; simp
theorem je_sl {lo hi : Option Expr} {wl wh : WO} {p2 : Pos} (ha : JE X W a wa) (hl : JO X W lo wl) (hh : JO X W hi wh) : JE X W (.Subscript a (.Slice lo hi none p2) pos) (wSl wa wl wh) := by
  refine PE.of (pe_slice (sl_list.or (sl_tupA.or sl_str)) ha hl hh) fun σ H Q ⟨G, en, c, Q0, X0, s, er, q, x0, kk⟩ => ?_
  refine ⟨G, en, c, _, X0, s, er, q, x0, fun d1 c1 v1 H1 G1 q1 g1 s1 r1 => ?_⟩
  refine ⟨G1, en, c1, _, X0, s1, er.mono g1.g, q1, x0.more g1, fun lo c2 H2 G2 q2 g2 s2 => ?_⟩
  refine ⟨G2, en, c2, _, X0, s2, er.mono (g1.trans g2).g, q2, x0.more (g1.trans g2), fun hi c3 H3 G3 q3 g3 s3 => ?_⟩
  have r3 := Rep.mono (g2.trans g3).g _ _ r1
  have gg := (g1.trans g2).trans g3
  unfold oSl at q3
  split at q3
  · exact .inr (.inr ⟨_, r3, q3.1, kk _ c3 _ H3 G3 q3.2 gg s3 rfl⟩)
  · rename_i l
    obtain ⟨p, vs, e1, h1, h2⟩ := r3
    refine .inr (.inl ⟨p, vs, e1, s3.sub.sqT h1.sq, fun hw => ?_, fun hw p' hp => ?_⟩)
    · refine kk _ c3 _ H3 G3 q3 gg s3 ⟨p, vs, rfl, h1, ?_⟩
      rw [← h2.length] at hw
      rw [cut_whole hw]
      exact h2
    · obtain ⟨s4, g4⟩ := s3.newG (o := HO.tup (cutV vs lo hi)) hp
      exact kk _ c3 _ _ _ q3 (gg.trans g4) s4 ⟨p', _, rfl, TupAt.of upd_same, Reps.mono g4.g _ _ (h2.cut lo hi)⟩
  · rename_i hn1 hn2
    split at q3
    · rename_i l e
      obtain ⟨p, vs, e1, h1, h2⟩ := seq_at s3 r3 e
      rcases h2 with ⟨ht, h2⟩ | ⟨_, h2⟩
      · exfalso
        cases d1 <;> first
          | (simp [isTup] at ht; done)
          | exact hn2 _ rfl
      · refine .inl ⟨p, vs, e1, h2, fun p' hp => ?_⟩
        obtain ⟨s4, g4⟩ := s3.newG (o := HO.lst (cutV vs lo hi)) hp
        exact kk _ c3 _ _ _ q3 (gg.trans g4) s4 ⟨p', _, rfl, upd_same, Reps.mono g4.g _ _ (h1.cut lo hi)⟩
    · exact q3.elim
end
end VL
namespace VL
open PySem PySem.Spec PyProof.Rows L2
abbrev OpN := List D → Cs → DK → Prop
def CallD (X : Cx) (f : Value) (o : OpN) : Prop := ∃ r : List V → Hp → VK → Prop, CallR X f r ∧
  ∀ G c H ds vs Q0 Q, SR X.K G c H → Reps X.K G ds vs → o ds c Q0 → Fin_ X.K G c H Q0 Q → r vs H Q
def wBi (o : OpN) (ws : WA) : WE := fun en c Q X => ws en c (fun ds c1 => o ds c1 Q) X
section
variable {X : Cx} {W : WX} {e o : Expr} {es : List Expr} {we : WE} {ws : WA} {x : Str} {p pos apos cpos : Pos} {id T : String} {k : Nat}
theorem rd_bi {o : OpN} {r : List V → Hp → VK → Prop} (hr : ∀ G c H ds vs Q0 Q, SR X.K G c H → Reps X.K G ds vs → o ds c Q0 → Fin_ X.K G c H Q0 Q → r vs H Q)
    {σ : L2.St} {H : Hp} {Q : VK} (h : rdE X.K X.mg W (wBi o ws) σ H Q) : tCB r (rdA X.K X.mg W ws) σ H Q := by
  obtain ⟨G, en, c, Q0, X0, s, er, q, x0, kk⟩ := h
  refine ⟨G, en, c, _, X0, s, er, q, x0, fun d1 c1 v1 H1 G1 q1 g1 s1 r1 => ?_⟩
  exact hr G1 c1 H1 d1 v1 Q0 _ s1 r1 q1 fun d c' v H' G' z g s' r => kk d c' v H' G' z (g1.trans g) s' r
theorem je_bi {o : OpN} (ho : CallD X (.builtin id) o) (hm : X.mg x = none) (hv : bootBuiltins x = some (.builtin id)) (ha : JA X W (e :: es) ws) (hg : Gl X x := by rfl) (hn : x ≠ "__name__" := by decide) (hdb : (x == ("__debug__" : Str)) = false := by decide)
    (he : starEach (e :: es) X.env = (false, eval e X.env) :: starEach es X.env := by rfl) (hpl : (backTo pos (starEach es X.env)).any (·.1) = false := by rfl) : JE X W (.Call (.Name x p) (e :: es) [] pos) (wBi o ws) := by
  obtain ⟨r, h1, h2⟩ := ho
  exact PE.of (pe_callB h1 hg hm hv ha hn hdb he hpl) fun σ H Q h => rd_bi h2 h
theorem je_bt {o : OpN} (ho : CallD X (.type T) o) (hm : X.mg x = none) (hv : bootBuiltins x = some (.type T)) (ha : JA X W (e :: es) ws) (hg : Gl X x := by rfl) (hn : x ≠ "__name__" := by decide) (hdb : (x == ("__debug__" : Str)) = false := by decide)
    (he : starEach (e :: es) X.env = (false, eval e X.env) :: starEach es X.env := by rfl) (hpl : (backTo pos (starEach es X.env)).any (·.1) = false := by rfl) : JE X W (.Call (.Name x p) (e :: es) [] pos) (wBi o ws) := by
  obtain ⟨r, h1, h2⟩ := ho
  exact PE.of (pe_callTy h1 hg hm hv ha hn hdb he hpl) fun σ H Q h => rd_bi h2 h
/-- a built-in class as a value -/
theorem je_ty {n : String} (hm : X.mg x = none) (hv : bootBuiltins x = some (.type n)) (hg : Gl X x := by rfl) (hn : x ≠ "__name__" := by decide) (hdb : (x == ("__debug__" : Str)) = false := by decide) : JE X W (.Name x pos) (wC (.ty n)) :=
  je_c (pe_bltn (v := .ty n) hg hm hv rfl hn hdb) fun _ _ => rfl
theorem Reps.one' {K : PySem.W.Frag} {G : Hp} {d : D} {vs : List V} (h : Reps K G [d] vs) : ∃ v, vs = [v] ∧ Rep K G d v := by
  obtain ⟨v, r, rfl, h1, h2⟩ := h
  cases h2
  exact ⟨v, rfl, h1⟩
theorem Reps.two' {K : PySem.W.Frag} {G : Hp} {d e : D} {vs : List V} (h : Reps K G [d, e] vs) : ∃ v u, vs = [v, u] ∧ Rep K G d v ∧ Rep K G e u := by
  obtain ⟨v, r, rfl, h1, h2⟩ := h
  obtain ⟨u, rfl, h3⟩ := Reps.one' h2
  exact ⟨v, u, rfl, h1, h3⟩
/-- len -/
def oLen : OpN := fun ds c Q => match ds with
  | [x] => match x with
    | .str z => z.length ≤ sizeLine ∧ Q (.int z.length) c
    | x => match seqOf c x with
      | some l => Q (.int l.length) c
      | none => False
  | _ => False
theorem c_len : CallD X (.builtin "len") oLen := by
  refine ⟨_, call_len, ?_⟩
  intro G c H ds vs Q0 Q s r q kk
  unfold oLen at q
  split at q
  · obtain ⟨v, rfl, r1⟩ := Reps.one' r
    split at q
    · exact ⟨v, _, rfl, by rw [show v = _ from r1]; exact ⟨q.1, rfl⟩, kk _ c _ H G q.2 Gr.refl s rfl⟩
    · split at q
      · rename_i l e
        obtain ⟨a, vs, rfl, h1, h2⟩ := seq_at s r1 e
        refine ⟨_, vs.length, rfl, ?_, kk _ c _ H G q Gr.refl s ?_⟩
        · rcases h2 with ⟨_, h2⟩ | ⟨_, h2⟩
          · exact .inr ⟨vs, h2, rfl⟩
          · exact .inl ⟨vs, h2, rfl⟩
        · rw [h1.length]; rfl
      · exact q.elim
  · exact q.elim
/-- abs -/
def oAbs : OpN := fun ds c Q => match ds with
  | [.int i] => Q (.int (if i < 0 then -i else i)) c
  | _ => False
theorem c_abs : CallD X (.builtin "abs") oAbs := by
  refine ⟨_, call_abs, ?_⟩
  intro G c H ds vs Q0 Q s r q kk
  unfold oAbs at q
  split at q
  · obtain ⟨v, rfl, r1⟩ := Reps.one' r
    cases r1
    exact ⟨_, rfl, kk _ c _ H G q Gr.refl s rfl⟩
  · exact q.elim
/-- int(n), int(flag) -/
def oInt : OpN := fun ds c Q => match ds with
  | [.int i] => Q (.int i) c
  | [.bl b] => Q (.int (if b then 1 else 0)) c
  | _ => False
theorem c_int : CallD X (.type "int") oInt := by
  refine ⟨_, call_int1, ?_⟩
  intro G c H ds vs Q0 Q s r q kk
  unfold oInt at q
  split at q
  · obtain ⟨v, rfl, r1⟩ := Reps.one' r
    cases r1
    exact .inl ⟨_, rfl, kk _ c _ H G q Gr.refl s rfl⟩
  · obtain ⟨v, rfl, r1⟩ := Reps.one' r
    cases r1
    exact .inr ⟨_, rfl, kk _ c _ H G q Gr.refl s rfl⟩
  · exact q.elim
/-- max, min: of two numbers, of a list of numbers -/
def oMax : OpN := fun ds c Q => match ds with
  | [.int i, .int j] => Q (.int (if j > i then j else i)) c
  | [x] => ∃ ns : List Int, lstOf c x = some (ns.map .int) ∧ 0 < ns.length ∧ ∀ m, m ∈ ns → (∀ y, y ∈ ns → y ≤ m) → Q (.int m) c
  | _ => False
def oMin : OpN := fun ds c Q => match ds with
  | [.int i, .int j] => Q (.int (if j < i then j else i)) c
  | [x] => ∃ ns : List Int, lstOf c x = some (ns.map .int) ∧ 0 < ns.length ∧ ∀ m, m ∈ ns → (∀ y, y ∈ ns → m ≤ y) → Q (.int m) c
  | _ => False
theorem ints_at {K : PySem.W.Frag} {G : Hp} {c : Cs} {H : Hp} {d : D} {v : V} {ns : List Int} (s : SR K G c H) (r : Rep K G d v) (h : lstOf c d = some (ns.map .int)) : ∃ a, v = .ref a ∧ H a = some (.lst (ns.map V.int)) := by
  obtain ⟨a, vs, e, h1, h2⟩ := lst_at s r h
  rw [Reps.ints.mp h2] at h1
  exact ⟨a, e, h1⟩
theorem c_max (hc : X.calm = true) : CallD X (.builtin "max") oMax := by
  refine ⟨_, (call_max2 hc).or (cr_max hc), ?_⟩
  intro G c H ds vs Q0 Q s r q kk
  unfold oMax at q
  split at q
  · obtain ⟨v, u, rfl, r1, r2⟩ := Reps.two' r
    cases r1
    cases r2
    exact .inl ⟨_, _, rfl, kk _ c _ H G q Gr.refl s rfl⟩
  · obtain ⟨v, rfl, r1⟩ := Reps.one' r
    obtain ⟨ns, e, h1, q⟩ := q
    obtain ⟨a, rfl, h2⟩ := ints_at s r1 e
    exact .inr ⟨a, ns, rfl, SqL.of h2, h1, fun m hm hle => kk _ c _ H G (q m hm hle) Gr.refl s rfl⟩
  · exact q.elim
/-- all, any of a list of truths -/
def oAll : OpN := fun ds c Q => match ds with
  | [x] => ∃ bs : List Bool, lstOf c x = some (bs.map .bl) ∧ Q (.bl (bs.all (fun b => b))) c
  | _ => False
theorem bls_at {K : PySem.W.Frag} {G : Hp} {c : Cs} {H : Hp} {d : D} {v : V} {ns : List Bool} (s : SR K G c H) (r : Rep K G d v) (h : lstOf c d = some (ns.map .bl)) : ∃ a, v = .ref a ∧ H a = some (.lst (ns.map V.bl)) := by
  obtain ⟨a, vs, e, h1, h2⟩ := lst_at s r h
  rw [Reps.bls.mp h2] at h1
  exact ⟨a, e, h1⟩
theorem c_all (hc : X.calm = true) : CallD X (.builtin "all") oAll := by
  refine ⟨_, cr_all hc, ?_⟩
  intro G c H ds vs Q0 Q s r q kk
  unfold oAll at q
  split at q
  · obtain ⟨v, rfl, r1⟩ := Reps.one' r
    obtain ⟨ns, e, q⟩ := q
    obtain ⟨a, rfl, h2⟩ := bls_at s r1 e
    exact ⟨a, ns, rfl, SqL.of h2, kk _ c _ H G q Gr.refl s rfl⟩
  · exact q.elim
/-- tuple(x), list(x) that stays, list(x) that lives -/
def oTuple : OpN := fun ds c Q => match ds with
  | [x] => match seqOf c x with
    | some l => Q (.tup l) c
    | none => False
  | _ => False
def oList : OpN := fun ds c Q => match ds with
  | [x] => match seqOf c x with
    | some l => Q (.lst l) c
    | none => False
  | _ => False
def oListL : OpN := fun ds c Q => match ds with
  | [x] => match seqOf c x with
    | some l => ∀ p, c p = none → Q (.ptr p) (cup c p (.lst l))
    | none => False
  | _ => False
theorem c_tuple : CallD X (.type "tuple") oTuple := by
  refine ⟨_, call_tuple_of, ?_⟩
  intro G c H ds vs Q0 Q s r q kk
  unfold oTuple at q
  split at q
  · rename_i x
    obtain ⟨v, rfl, r1⟩ := Reps.one' r
    split at q
    · rename_i l e
      have keep : isTup x = true → seqOf c x = some l → x = .tup l := fun h1 h2 => by
        cases x <;> first
          | (simp [isTup] at h1; done)
          | (cases h2; rfl)
      obtain ⟨a, vs, rfl, h1, h2⟩ := seq_at s r1 e
      rcases h2 with ⟨ht, h2⟩ | ⟨_, h2⟩
      · refine ⟨a, vs, rfl, .inr ⟨h2, kk _ c _ H G q Gr.refl s ?_⟩⟩
        rw [← keep ht e]; exact r1
      · refine ⟨a, vs, rfl, .inl ⟨h2, fun p hp => ?_⟩⟩
        obtain ⟨s2, g2⟩ := s.newG (o := HO.tup vs) hp
        exact kk _ c _ _ _ q g2 s2 ⟨p, vs, rfl, TupAt.of upd_same, Reps.mono g2.g _ _ h1⟩
    · exact q.elim
  · exact q.elim
theorem c_listL : CallD X (.type "list") oListL := by
  refine ⟨_, call_list_of, ?_⟩
  intro G c H ds vs Q0 Q s r q kk
  unfold oListL at q
  split at q
  · obtain ⟨v, rfl, r1⟩ := Reps.one' r
    split at q
    · rename_i x l e
      obtain ⟨a, vs, rfl, h1, h2⟩ := seq_at s r1 e
      refine ⟨a, vs, rfl, ?_, fun p hp => ?_⟩
      · rcases h2 with ⟨ht, h2⟩ | ⟨_, h2⟩
        · exact .inr h2
        · exact .inl h2
      · obtain ⟨hc, hg⟩ := s.free hp
        obtain ⟨s2, g2⟩ := s.newL (o := HO.lst vs) (y := .lst l) hp ⟨hg, vs, upd_same, h1⟩
        exact kk _ _ _ _ _ (q p hc) g2 s2 rfl
    · exact q.elim
  · exact q.elim
/-- divmod -/
def oDivmod : OpN := fun ds c Q => match ds with
  | [.int i, .int j] => 0 < j ∧ j.natAbs.log2 < 9000 ∧ Q (.tup [.int (i / j), .int (i % j)]) c
  | _ => False
theorem c_divmod : CallD X (.builtin "divmod") oDivmod := by
  refine ⟨_, call_divmodW, ?_⟩
  intro G c H ds vs Q0 Q s r q kk
  unfold oDivmod at q
  split at q
  · obtain ⟨v, u, rfl, r1, r2⟩ := Reps.two' r
    cases r1
    cases r2
    refine ⟨_, _, rfl, ⟨q.1, PyProof.noPylong_of_log2 q.2.1⟩, fun p hp => ?_⟩
    obtain ⟨s2, g2⟩ := s.newG (o := HO.tup [.int _, .int _]) hp
    exact kk _ c _ _ _ q.2.2 g2 s2 ⟨p, _, rfl, TupAt.of upd_same, ⟨_, _, rfl, rfl, ⟨_, _, rfl, rfl, rfl⟩⟩⟩
  · exact q.elim
/-- isinstance with built-in classes -/
def tyN (c : Cs) : D → String
  | .non => "NoneType"
  | .bl _ => "bool"
  | .int _ => "int"
  | .str _ => "str"
  | .tup _ => "tuple"
  | .lst _ => "list"
  | .scr _ => "list"
  | .ptr p => match c p with
    | some (.lst _) => "list"
    | some (.fz _) => "list"
    | some (.dic _) => "dict"
    | _ => ""
  | .ty _ => ""
def isTy (m n : String) : Bool := m == n || (m == "bool" && n == "int")
def tyNs : List String := ["NoneType", "bool", "int", "str", "tuple", "list", "dict"]
def clsNs : List String := ["bool", "int", "str", "tuple", "list", "dict"]
theorem kit_all : ∀ m ∈ tyNs, ∀ n ∈ clsNs, kitB m n = some (isTy m n) := by decide +kernel
theorem kit_ok {K : PySem.W.Frag} {m n : String} (hm : m ∈ tyNs) (hn : n ∈ clsNs) : PySem.W.kitOne K (.type m) (.type n) = some (isTy m n) := kit_ty (kit_all m hm n hn)
theorem kitAny_ok {K : PySem.W.Frag} {m : String} (hm : m ∈ tyNs) : ∀ ns : List String, (∀ n ∈ ns, n ∈ clsNs) → PySem.W.kitAny K (.type m) (ns.map .type) = some (ns.any (isTy m))
  | [], _ => rfl
  | n :: ns, h => by
    have h1 := kit_ok (K := K) hm (h n List.mem_cons_self)
    have h2 := kitAny_ok (K := K) hm ns fun n q => h n (List.mem_cons_of_mem _ q)
    rw [List.map_cons, List.any_cons]
    refine kitAny_cons h1 (fun e => ?_) (fun e => ?_)
    · rw [h2, e, Bool.false_or]
    · rw [e, Bool.true_or]
theorem tyX_of {K : PySem.W.Frag} {G : Hp} {c : Cs} {H : Hp} {d : D} {v : V} (s : SR K G c H) (r : Rep K G d v) (h : tyN c d ∈ tyNs) : TyX K H v (.type (tyN c d)) := by
  have no : ∀ {m : String}, m = "" → ¬ m ∈ tyNs := fun e h => by rw [e] at h; simp [tyNs] at h
  have rdl : ∀ {a : Addr} {vs : List V}, SqL K H a vs → TyX K H (.ref a) (.type "list") := fun {a vs} h => by
    rcases h with (h | ⟨o, h⟩) | ⟨o, _, _, h, hc, _⟩
    · exact .base (.lst h)
    · exact .base (.frz h)
    · exact .kList h hc
  cases d with
  | non => cases r; exact .base .non
  | bl b => cases r; exact .base (.bl b)
  | int i => cases r; exact .base (.int i)
  | str x => cases r; exact .base (.str x)
  | tup l =>
    obtain ⟨a, vs, rfl, h1, h2⟩ := r
    exact .base (.tup (s.sub.tup h1))
  | lst l =>
    obtain ⟨a, vs, rfl, h1, h2⟩ := r
    exact .base (.lst (s.sub _ _ h1))
  | scr l =>
    obtain ⟨a, rfl, h1⟩ := r
    exact rdl (s.sub.sqL h1)
  | ty n => exact absurd h (no rfl)
  | ptr p =>
    have e : v = .ref p := r
    subst e
    show TyX K H (.ref p) (.type (match c p with | some (.lst _) => "list" | some (.fz _) => "list" | some (.dic _) => "dict" | _ => ""))
    have h : (match c p with | some (.lst _) => "list" | some (.fz _) => "list" | some (.dic _) => "dict" | _ => "") ∈ tyNs := h
    cases hc : c p with
    | none => rw [hc] at h; exact absurd h (no rfl)
    | some x =>
      cases x with
      | lst l =>
        obtain ⟨_, vs, h1, _⟩ := s.at_ _ _ hc
        exact .base (.lst h1)
      | fz l =>
        obtain ⟨vs, h1, _⟩ := s.at_ _ _ hc
        exact .base (.lst (s.sub _ _ h1))
      | dic l =>
        obtain ⟨_, vs, h1, _⟩ := s.at_ _ _ hc
        exact .base (.dK h1)
      | obj C fs => rw [hc] at h; exact absurd h (no rfl)
      | exc _ _ _ => rw [hc] at h; exact absurd h (no rfl)
      | dit _ => rw [hc] at h; exact absurd h (no rfl)
      | tab _ => rw [hc] at h; exact absurd h (no rfl)
      | fn _ _ => rw [hc] at h; exact absurd h (no rfl)
def oIsi : OpN := fun ds c Q => match ds with
  | [x, .ty n] => tyN c x ∈ tyNs ∧ n ∈ clsNs ∧ Q (.bl (isTy (tyN c x) n)) c
  | [x, .tup cs] => tyN c x ∈ tyNs ∧ ∃ ns : List String, cs = ns.map .ty ∧ (∀ n ∈ ns, n ∈ clsNs) ∧ Q (.bl (ns.any (isTy (tyN c x)))) c
  | _ => False
theorem Reps.tys {K : PySem.W.Frag} {G : Hp} : ∀ {ns : List String} {vs : List V}, Reps K G (ns.map D.ty) vs → vs = ns.map V.ty
  | [], _, h => h
  | n :: ns, _, h => by
    obtain ⟨v, r, rfl, h1, h2⟩ := h
    cases h1
    rw [Reps.tys h2]; rfl
theorem tys_cls : ∀ ns : List String, Paired ClsV (ns.map V.ty) (ns.map Value.type)
  | [] => .nil
  | n :: ns => .cons (.ty n) (tys_cls ns)
theorem c_isi : CallD X (.builtin "isinstance") oIsi := by
  refine ⟨_, call_isi.or (call_isiT.or call_isiK), ?_⟩
  intro G c H ds vs Q0 Q s r q kk
  unfold oIsi at q
  split at q
  · obtain ⟨v, u, rfl, r1, r2⟩ := Reps.two' r
    cases r2
    obtain ⟨h1, h2, q⟩ := q
    exact .inl ⟨v, _, _, _, _, rfl, .ty _, tyX_of s r1 h1, kit_ok h1 h2, kk _ c _ H G q Gr.refl s rfl⟩
  · obtain ⟨v, u, rfl, r1, r2⟩ := Reps.two' r
    obtain ⟨h1, ns, rfl, h2, q⟩ := q
    obtain ⟨a, ws, rfl, h3, h4⟩ := r2
    cases Reps.tys h4
    exact .inr (.inl ⟨v, a, _, _, _, _, rfl, s.sub.tup h3, tys_cls ns, tyX_of s r1 h1, kitAny_ok h1 ns h2, kk _ c _ H G q Gr.refl s rfl⟩)
  · exact q.elim
end
end VL
namespace VL
open PySem PySem.Spec PyProof.Rows L2
section
variable {X : Cx} {W : WX} {e o : Expr} {es : List Expr} {we wo : WE} {ws : WA} {x : Str} {p pos apos cpos : Pos} {id T : String} {k : Nat}
abbrev OpM := D → List D → Cs → DK → Prop
def MtD (X : Cx) (id : String) (o : OpM) : Prop := ∃ r : V → List V → Hp → VK → Prop, MtR X id r ∧
  ∀ G c H x v ds vs Q0 Q, SR X.K G c H → Rep X.K G x v → Reps X.K G ds vs → o x ds c Q0 → Fin_ X.K G c H Q0 Q → r v vs H Q
def isLst (c : Cs) (x : D) : Prop := (lstOf c x).isSome = true
def wMt (o : OpM) (wo : WE) (ws : WA) : WE := fun en c Q X => wo en c (fun x c1 => isLst c1 x ∧ ws en c1 (fun ds c2 => o x ds c2 Q) X) X
def wMt0 (o : OpM) (wo : WE) : WE := fun en c Q X => wo en c (fun x c1 => isLst c1 x ∧ o x [] c1 Q) X
theorem lst_ty {G : Hp} {c : Cs} {H : Hp} {d : D} {v : V} (s : SR X.K G c H) (r : Rep X.K G d v) (h : isLst c d) : tyV X.K "list" v H := by
  unfold isLst at h
  obtain ⟨l, e⟩ := Option.isSome_iff_exists.mp h
  obtain ⟨a, vs, rfl, h1, _⟩ := lst_at s r e
  exact Or.inl ⟨rfl, vs, SqL.of h1⟩
theorem je_mt {name : Str} {om : OpM} (ho : MtD X id om) (pa : PlainAttrs "list") (slot : Slot "list" name id) (hty : typeOf (.builtin id) = pure (.type "method_descriptor")) (hw : JE X W o wo) (ha : JA X W (e :: es) ws)
    (hbase : attributeBase o name X.env (eval o X.env) = eval o X.env := by rfl)
    (hfew : ((backTo cpos (starEach (e :: es) X.env)).all (fun x => !x.1) && (backToKw cpos (keywordEach [] X.env)).all (fun x => x.1.isSome)
      && decide ((e :: es).length + ([] : List Keyword).length + (if ([] : List Keyword).isEmpty then 0 else 1) < 30)) = true := by rfl)
    (hline : (apos.endLine == cpos.line) = true := by rfl) (hs : starEach (e :: es) X.env = (false, eval e X.env) :: starEach es X.env := by rfl) (hplain : (backTo cpos (starEach es X.env)).any (·.1) = false := by rfl) :
    JE X W (.Call (.Attribute o name apos) (e :: es) [] cpos) (wMt om wo ws) := by
  obtain ⟨r, h1, h2⟩ := ho
  refine PE.of (pe_bm pa slot hty h1 hw ha hbase hfew hline hs hplain) fun σ H Q ⟨G, en, c, Q0, X0, s, er, q, x0, kk⟩ => ?_
  refine ⟨G, en, c, _, X0, s, er, q, x0, fun d1 c1 v1 H1 G1 ⟨t1, q1⟩ g1 s1 r1 => ⟨lst_ty s1 r1 t1, ?_⟩⟩
  refine ⟨G1, en, c1, _, X0, s1, er.mono g1.g, q1, x0.more g1, fun ds c2 vs H2 G2 q2 g2 s2 r2 => ?_⟩
  exact h2 G2 c2 H2 d1 v1 ds vs Q0 _ s2 (Rep.mono g2.g _ _ r1) r2 q2 fun d c' v H' G' z g s' r => kk d c' v H' G' z ((g1.trans g2).trans g) s' r
/-- the live list at x -/
def liveOf (c : Cs) : D → Option (Addr × List D)
  | .ptr p => match c p with
    | some (.lst l) => some (p, l)
    | _ => none
  | _ => none
theorem live_at {K : PySem.W.Frag} {G : Hp} {c : Cs} {H : Hp} {d : D} {v : V} {q : Addr} {l : List D} (s : SR K G c H) (r : Rep K G d v) (h : liveOf c d = some (q, l)) : v = .ref q ∧ c q = some (.lst l) ∧ G q = none ∧ ∃ vs, H q = some (.lst vs) ∧ Reps K G l vs := by
  cases d with
  | ptr p =>
    have h : (match c p with | some (.lst l) => some (p, l) | _ => none) = some (q, l) := h
    cases hc : c p with
    | none => rw [hc] at h; cases h
    | some x =>
      rw [hc] at h
      cases x with
      | lst l' =>
        cases h
        obtain ⟨h1, h2⟩ := s.at_ _ _ hc
        exact ⟨r, hc, h1, h2⟩
      | fz l' => cases h
      | dic l' => cases h
      | dit l' => cases h
      | obj C fs => cases h
      | exc _ _ _ => cases h
      | tab _ => cases h
      | fn _ _ => cases h
  | _ => cases h
/-- a live list is changed to l' -/
theorem live_set {K : PySem.W.Frag} {G : Hp} {c : Cs} {H : Hp} {q : Addr} {l l' : List D} {vs' : List V} {Q0 : DK} {Q : VK} (s : SR K G c H) (hc : c q = some (.lst l)) (hg : G q = none) (r : Reps K G l' vs') (kk : Fin_ K G c H Q0 Q) {d : D} {v : V} (hd : Rep K G d v) (z : Q0 d (cup c q (.lst l'))) : Q v (upd H q (.lst vs')) := by
  obtain ⟨s2, g2⟩ := s.write (o := HO.lst vs') (y := .lst l') hc hg ⟨hg, vs', upd_same, r⟩
  exact kk _ _ _ _ _ z g2 s2 hd
def oAppend : OpM := fun x ds c Q => match ds with
  | [d] => ∃ p l, liveOf c x = some (p, l) ∧ l.length < sizeLine ∧ Q .non (cup c p (.lst (l ++ [d])))
  | _ => False
theorem m_append : MtD X "list.append" oAppend := by
  refine ⟨_, mt_append, ?_⟩
  intro G c H x v ds vs Q0 Q s rx r q kk
  unfold oAppend at q
  split at q
  · obtain ⟨p, l, e, hz, q⟩ := q
    obtain ⟨u, rfl, r1⟩ := Reps.one' r
    obtain ⟨rfl, h1, h2, ws, h3, h4⟩ := live_at s rx e
    exact ⟨p, ws, u, rfl, rfl, h3, by rw [← h4.length]; exact hz, live_set s h1 h2 (Reps.app h4 (Reps.one r1)) kk (d := .non) rfl q⟩
  · exact q.elim
def oInsert : OpM := fun x ds c Q => match ds with
  | [.int i, d] => ∃ p l, liveOf c x = some (p, l) ∧ l.length < sizeLine ∧ 0 ≤ i ∧ i < 2 ^ 63 ∧ Q .non (cup c p (.lst (l.take i.toNat ++ [d] ++ l.drop i.toNat)))
  | _ => False
def oPop0 : OpM := fun x ds c Q => match ds with
  | [] => ∃ p l d, liveOf c x = some (p, l) ∧ l[l.length - 1]? = some d ∧ Q d (cup c p (.lst l.dropLast))
  | _ => False
def oPopAt : OpM := fun x ds c Q => match ds with
  | [.int i] => ∃ p l d j, liveOf c x = some (p, l) ∧ -(2 ^ 63) ≤ i ∧ i < 2 ^ 63 ∧ ixN l.length i = some j ∧ l[j]? = some d ∧ Q d (cup c p (.lst (l.eraseIdx j)))
  | _ => False
def oReverse : OpM := fun x ds c Q => match ds with
  | [] => ∃ p l, liveOf c x = some (p, l) ∧ Q .non (cup c p (.lst l.reverse))
  | _ => False
def oClear : OpM := fun x ds c Q => match ds with
  | [] => ∃ p l, liveOf c x = some (p, l) ∧ Q .non (cup c p (.lst []))
  | _ => False
end
end VL
namespace VL
open PySem PySem.Spec PyProof.Rows L2
set_option maxHeartbeats 4000000 in
theorem meets_enumB1 {v : Value} {o : Obj} {H : Heap → Prop} (B : Begins v o H) :
    Meets (Builtin.«enumerate.__new__» ⟨[.type "enumerate", v], []⟩) (fun _ R s => H s.heap ∧
      R (.ok (.ret (.ref (s.heap.push o).objs.size))) { s with heap := (s.heap.push o).push { cls := .type "enumerate", data := .fields #[.none, .bool false, .ref s.heap.objs.size, rawInt 0, .none, .none] } }) :=
  .of_wp fun prog w A R s h => by
    obtain ⟨hp, g, d, tk, os⟩ := s; obtain ⟨h1, h⟩ := h
    have hsub := sub_enumerate
    have q1 : ∀ {A' : Around} {E : Value → Shared → Prop} {Q : Value → Shared → Prop}, Q (.ref hp.objs.size) ⟨hp.push o, g, d, tk, os⟩ → wpAny (model prog w) A' (pyIter v) Q E ⟨hp, g, d, tk, os⟩ :=
      fun q => B.iter prog w _ _ ⟨hp, g, d, tk, os⟩ _ h1 q
    wp_walk using q1
    refine wpAny_stack_any fun st => wpAny_pure ?_
    split
    · rename_i c _ _ _ _ _
      cases (c == Value.type "enumerate")
      · wp_walk using q1
        exact ⟨_, rfl, h⟩
      · wp_walk using q1
        exact ⟨_, rfl, h⟩
    · wp_walk using q1
      exact ⟨_, rfl, h⟩
theorem call_enumB1 {prog : Program} {w : World} {A : Around} {E : Value → Shared → Prop} {s : Shared} {v : Value} {o : Obj} {H : Heap → Prop} {Q : Value → Shared → Prop} (B : Begins v o H) (h1 : H s.heap)
    (h : ∀ h', IsEnum h' (s.heap.objs.size + 1) s.heap.objs.size 0 .none → h'.get? s.heap.objs.size = some o → h'.objs.size = s.heap.objs.size + 2 →
      (∀ b o, s.heap.get? b = some o → h'.get? b = some o) → Q (.ref (s.heap.objs.size + 1)) { s with heap := h' }) :
    wpAny (model prog w) A (call (.type "enumerate") [v]) Q E s := by
  refine callType_new F.called_enumerate (by decide) (F.typeCall_enumerate_1 _) (F.newCall_enumerate_1 _) (fun obj => F.args_object_init_2 obj _) F.entry_enumerate_new
    (meets_enumB1 B) ⟨h1, ?_⟩
  have hz : (s.heap.push o).objs.size = s.heap.objs.size + 1 := Heap.size_push ..
  show _ ∧ _
  rw [hz]
  have he : IsEnum ((s.heap.push o).push { cls := .type "enumerate", data := .fields #[.none, .bool false, .ref s.heap.objs.size, rawInt 0, .none, .none] }) (s.heap.objs.size + 1) s.heap.objs.size 0 .none := by
    have := Heap.get?_push_size (s.heap.push o) (o := { cls := .type "enumerate", data := .fields #[.none, .bool false, .ref s.heap.objs.size, rawInt 0, .none, .none] }) rfl
    rw [hz] at this; exact this
  refine ⟨⟨_, he, rfl⟩, h _ he (Heap.get?_push_of_some _ (Heap.get?_push_size _ B.free)) (by rw [Heap.size_push, hz]) fun b o x => Heap.get?_push_of_some _ (Heap.get?_push_of_some _ x)⟩
/-- the tuple at a, each item in a new pair -/
def IteT (K : PySem.W.Frag) (a : Addr) : It :=
  ⟨fun i H => ∃ (xs : List V) (x : V), SqT K H a xs ∧ xs[i]? = some x, fun i H v H' => ∃ T x, v = .ref T ∧ H T = none ∧ H' = upd H T (.tup [.int (i : Nat), x]) ∧ ∀ xs, SqT K H a xs → xs[i]? = some x, fun i H => ∃ xs : List V, SqT K H a xs ∧ xs.length ≤ i⟩
theorem turn_enumT {P : Program} {w : World} {K : PySem.W.Frag} {elts : List Expr} {kk : Nat} {tpos : Pos} (a e it : Addr) :
    Turn P w K (.Tuple elts kk tpos) (IteT K a) [e, it] e (fun i h => (∃ old, IsEnum h e it ((i : Nat) : Int) old) ∧ h.IsTupleIter it a i ∧ e ≠ it ∧ a ≠ e ∧ a ≠ it) where
  mem := by simp
  obj := fun i h st b hb => by
    obtain ⟨⟨old, he⟩, ⟨o, ho, hc, hd⟩, _⟩ := st
    have e' : b = e ∨ b = it := by simpa using hb
    rcases e' with z | z
    · rw [z]; exact ⟨_, he, fun v q => nomatch q⟩
    · rw [z]; exact ⟨o, ho, fun v q => by rw [hd] at q; cases q⟩
  keep := fun i h h' st k => let ⟨⟨old, he⟩, hi, hne⟩ := st; ⟨⟨old, k e (by simp) _ he⟩, hi.at fun o q => k it (by simp) o q, hne⟩
  item := by
    intro X hP hw hK hc i pins s σ H E I hf st hg
    subst hP hw hK
    obtain ⟨⟨old, he⟩, hit, hne, hae, hai⟩ := st
    obtain ⟨xs, x, hq, hx⟩ := hg
    obtain ⟨its, rv, p, hz⟩ := I.tuple hq
    obtain ⟨u, hu, ru⟩ := rv.get hx
    have hel : e < s.heap.objs.size := Heap.lt_size he
    have hil : it < s.heap.objs.size := by obtain ⟨_, q, _⟩ := hit; exact Heap.lt_size q
    have hlt : i < its.toArray.size := by
      obtain ⟨h1, _⟩ := List.getElem?_eq_some_iff.mp hu
      simpa using h1
    have hh : X.A.in1.handled = none := I.ok.hd hc
    refine wpAny_pyNext_enum_itemC (Draws.tuple hh it a hai its.toArray) he ⟨hit, p⟩ hlt hne (by simp [hne, Ne.symm hae]) fun u' h' tk hu' ho hst hT hsz hk => ?_
    have eu : u' = u := by
      have : its[i]? = some u' := by simpa using hu'
      rw [hu] at this
      exact (Option.some.inj this).symm
    subst eu
    obtain ⟨hit', _⟩ := hst
    refine ⟨_, rfl, wpAny_letOwnedTupleGo_enum (s := { s with heap := h', toks := tk + 1 }) ho fun h'' he' sb => ?_⟩
    have hT2 : h''.get? s.heap.objs.size = some { cls := .type "tuple", data := .seq #[.int i tk, u'] } := (sb.2 _ (Nat.ne_of_gt hel)).trans hT
    have new : ObjOk X.prog X.w (upd H s.heap.objs.size (.tup [.int (i : Nat), x])) h'' s.heap.objs.size (.tup [.int (i : Nat), x]) :=
      ⟨by show 2 ≤ sizeLine; decide, [.int i tk, u'], .cons ⟨_, rfl⟩ (.cons ru .nil), ⟨_, hT2, rfl, _, rfl⟩⟩
    have I1 : Inv X pins σ (upd H s.heap.objs.size (.tup [.int (i : Nat), x])) { s with heap := h'', toks := tk + 1 } :=
      I.turnedNew (ch := [e, it]) (fun b ob hb q => (sb.2 b (fun z => hb (by simp [z]))).trans (hk b ob (fun z => hb (by simp [z])) (fun z => hb (by simp [z])) q)) hf (Nat.le_refl _) new
    refine ⟨.ref s.heap.objs.size, _, I1, rfl, ⟨_, x, rfl, I.hok.fresh (Nat.le_refl _), rfl, fun ys hy => by rw [I.tuple_inj hy hq]; exact hx⟩, ⟨⟨u', ?_⟩, hit'.at fun o q => (sb.2 it (Ne.symm hne)).trans q, hne, hae, hai⟩, fun b hb => ?_⟩
    · have e1 : ((i + 1 : Nat) : Int) = (i : Int) + 1 := by omega
      rw [e1]; exact he'
    · have hb' : b < s.heap.objs.size := by
        have e' : b = e ∨ b = it := by simpa using hb
        rcases e' with z | z
        · rw [z]; exact hel
        · rw [z]; exact hil
      rw [upd_ne (Nat.ne_of_lt hb')]
      exact (hf b hb).1
  done := by
    intro X hP hw hK hc i pins s σ H E I hf st hg
    subst hP hw hK
    obtain ⟨⟨old, he⟩, hit, hne, hae, hai⟩ := st
    obtain ⟨xs, hq, hx⟩ := hg
    obtain ⟨its, rv, p, hz⟩ := I.tuple hq
    obtain ⟨f0, f1, f2, f3, f4, f5⟩ := hf it (by simp)
    have hl := rv.length
    have hh : X.A.in1.handled = none := I.ok.hd hc
    have hT : s.TypeIs (.ref e) "enumerate" := ⟨_, he, rfl⟩
    unfold pyNext
    refine wpAny_bind (wpAny_attempt (wpAny_callSpecial?_slot (name := Str.ofString "__next__") hT F.slot_enumerate_next
      (wpAny_call_entry F.slot_enumerate_next hT F.entry_enumerate_next ?_ (F.args_enumerate_next_1 _))))
    show wpAny _ _ (field (.ref e) 2 >>= _) _ _ _
    refine wpAny_bind (wpAny_field he rfl (x := .ref it) rfl ?_)
    refine wpAny_bind (wpAny_nextOf_tuple_end hh hit p (by simp; omega) fun h' x he' hx' => ?_)
    obtain ⟨o, ho, hcs⟩ := hx'
    refine wpAny_bind (wpAny_isInstance (T := "StopIteration") (b := true) ⟨o, ho, hcs⟩ isSubtype_stop ?_)
    exact wpAny_pure ⟨rfl, I.turned (t' := s.toks) (fun b o hb q => he' b o hb q) f0 f1 f3 f4 f5⟩
  self := fun A i s Q E st h => let ⟨⟨_, he⟩, _⟩ := st; wpAny_pyIter_enum he h
/-- enumerate of a list, of a tuple -/
def iEnumA (K : PySem.W.Frag) (ta : TA) : TI := fun σ H R => ta σ H fun vs H1 => ∃ a xs, vs = [.ref a] ∧ ((SqL K H1 a xs ∧ R (Ite K a) H1) ∨ (SqT K H1 a xs ∧ R (IteT K a) H1))
theorem pi_enumA {X : Cx} {e : Expr} {ta : TA} {p pos tpos : Pos} {elts : List Expr} {kk : Nat} (hg : Gl X "enumerate") (hm : X.mg "enumerate" = none) (ha : PA X [e] ta) (hs : starEach [e] X.env = [(false, eval e X.env)] := by rfl) :
    PI X (.Tuple elts kk tpos) (.Call (.Name "enumerate" p) [e] [] pos) (iEnumA X.K ta) := by
  refine ⟨fun pins s σ H R I h => ?_⟩
  refine Call_ (ld_blt I hg hm boot_enumerate (PyProof.Rows.callWith_type1 (thn (ha.run pos pins s σ H _ I h) fun us s1 ⟨vs, H1, I1, r1, q1⟩ => ?_) hs rfl))
  obtain ⟨a, xs, ex, q⟩ := q1
  subst ex
  cases r1 with
  | cons r rr =>
    cases rr
    cases r
    rcases q with ⟨hq, q⟩ | ⟨hq, q⟩
    · obtain ⟨its, rv, p', hz⟩ := I1.list hq
      refine call_enumerate_list p'.isList fun h' he hit hsz hk => wpAny_pyIter_enum he ?_
      have I2 : Inv X pins σ H1 { s1 with heap := h' } := I1.kept (t' := s1.toks) hk
      refine ⟨s1.heap.objs.size + 1, [s1.heap.objs.size + 1, s1.heap.objs.size], _, _, H1, rfl, I2, turn_enum a (s1.heap.objs.size + 1) s1.heap.objs.size, ⟨⟨.none, he⟩, hit, Nat.succ_ne_self _⟩, fun b hb => ?_, q⟩
      have e' : b = s1.heap.objs.size + 1 ∨ b = s1.heap.objs.size := by simpa using hb
      have hle : s1.heap.objs.size ≤ b := by
        rcases e' with z | z
        · rw [z]; exact Nat.le_add_right _ _
        · rw [z]; exact Nat.le_refl _
      exact I1.fpOk hle (I1.hok.fresh hle)
    · obtain ⟨its, rv, p', hz⟩ := I1.tuple hq
      have hal : a < s1.heap.objs.size := by obtain ⟨_, q, _⟩ := id p'; exact Heap.lt_size q
      refine call_enumB1 (begins_tuple a its.toArray) p' fun h' he hit hsz hk => wpAny_pyIter_enum he ?_
      have I2 : Inv X pins σ H1 { s1 with heap := h' } := I1.kept (t' := s1.toks) hk
      refine ⟨s1.heap.objs.size + 1, [s1.heap.objs.size + 1, s1.heap.objs.size], _, _, H1, rfl, I2, turn_enumT a (s1.heap.objs.size + 1) s1.heap.objs.size, ⟨⟨.none, he⟩, ⟨_, hit, rfl, rfl⟩, Nat.succ_ne_self _, Nat.ne_of_lt (Nat.lt_succ_of_lt hal), Nat.ne_of_lt hal⟩, fun b hb => ?_, q⟩
      have e' : b = s1.heap.objs.size + 1 ∨ b = s1.heap.objs.size := by simpa using hb
      have hle : s1.heap.objs.size ≤ b := by
        rcases e' with z | z
        · rw [z]; exact Nat.le_add_right _ _
        · rw [z]; exact Nat.le_refl _
      exact I1.fpOk hle (I1.hok.fresh hle)
end VL
namespace VL
open PySem PySem.Spec PyProof.Rows L2 RZ
/-- the items, what must hold at each turn, the cells -/
abbrev IK := List D → (Cs → Prop) → Cs → Prop
abbrev WI := En → Cs → IK → XD → Prop
/-- from a state behind (G0): the walk J gives the items ds as long as chk holds -/
def Srv (K : PySem.W.Frag) (G0 : Hp) (J : It) (ds : List D) (chk : Cs → Prop) : Prop := ∀ i G c H, Le G0 G → SR K G c H → chk c →
  (∀ d, ds[i]? = some d → J.go i H ∧ ∀ x H', J.yld i H x H' → ∃ G', SR K G' c H' ∧ Gr G c H G' c H' ∧ Rep K G' d x) ∧ (ds.length ≤ i → J.stop i H)
def rdI (K : PySem.W.Frag) (mg : Str → Option Value) (W : WX) (wi : WI) : TI := fun σ H R => ∃ G en c Q0 X0, SR K G c H ∧ EnR K G en σ ∧ wi en c Q0 X0 ∧ XOk K mg W X0 G c H ∧
  ∀ ds chk c' J H' G', Q0 ds chk c' → Gr G c H G' c' H' → SR K G' c' H' → Srv K G' J ds chk → R J H'
abbrev JI (X : Cx) (W : WX) (tg e : Expr) (wi : WI) : Prop := PI X tg e (rdI X.K X.mg W wi)
section
variable {X : Cx} {W : WX} {tg e a b : Expr} {es : List Expr} {we wa wb : WE} {ws : WA} {x : Str} {p pos tpos : Pos} {k : Nat}
/-- a list or a tuple that stays as it is through the walk -/
def wSeq (we : WE) : WI := fun en c Q X => we en c (fun d c1 => match seqOf c1 d with
  | some l => l.length ≤ sizeLine → Q l (fun c' => seqOf c' d = some l) c1
  | none => False) X
theorem srv_seq {K : PySem.W.Frag} {G : Hp} {d : D} {v : V} {l : List D} (r : Rep K G d v) : ∀ {a : Addr}, v = .ref a → Srv K G (if isTup d = true then Itt K a else Itl K a) l (fun c' => seqOf c' d = some l) := by
  intro a ea i G1 c H le s e
  obtain ⟨a', vs, e1, h1, h2⟩ := seq_at s (Rep.mono le _ _ r) e
  rw [ea] at e1
  cases e1
  rcases h2 with ⟨ht, h2⟩ | ⟨ht, h2⟩
  · rw [if_pos ht]
    refine ⟨fun d' hd => ?_, fun hi => ⟨vs, h2, by rw [← h1.length]; exact hi⟩⟩
    obtain ⟨u, hu, ru⟩ := h1.get hd
    refine ⟨⟨vs, u, h2, hu⟩, fun x H' y => ?_⟩
    obtain ⟨rfl, y⟩ := y
    refine ⟨G1, s, Gr.refl, ?_⟩
    have := y vs h2
    rw [hu] at this
    cases this
    exact ru
  · rw [if_neg (by rw [ht]; exact Bool.false_ne_true)]
    refine ⟨fun d' hd => ?_, fun hi => ⟨vs, h2, by rw [← h1.length]; exact hi⟩⟩
    obtain ⟨u, hu, ru⟩ := h1.get hd
    refine ⟨⟨vs, u, h2, hu⟩, fun x H' y => ?_⟩
    obtain ⟨rfl, y⟩ := y
    refine ⟨G1, s, Gr.refl, ?_⟩
    have := y vs h2
    rw [hu] at this
    cases this
    exact ru
/-- a list or a tuple, whichever it is -/
theorem pi_any {tl : TE} (hl : PE X e tl) : PI X tg e (fun σ H R => tl σ H fun x H1 => (∃ a, x = .ref a ∧ (∃ xs, SqL X.K H1 a xs) ∧ R (Itl X.K a) H1) ∨ (∃ a, x = .ref a ∧ (∃ xs, SqT X.K H1 a xs) ∧ R (Itt X.K a) H1)) := by
  refine ⟨fun pins s σ H R I h => ?_⟩
  refine thn (hl.run pins s σ H _ I h) fun v s1 ⟨x, H1, I1, r1, q1⟩ => ?_
  have base : PE X e (fun σ' H' Q => False) := ⟨fun _ _ _ _ _ _ z => z.elim⟩
  rcases q1 with ⟨a, e1, ⟨xs, hq⟩, q⟩ | ⟨a, e1, ⟨xs, hq⟩, q⟩
  · subst e1
    cases r1
    obtain ⟨its, rv, p, hz⟩ := I1.list hq
    refine wpAny_pyIter_list p.isList ⟨s1.heap.objs.size, [s1.heap.objs.size], _, _, H1, rfl, I1.kept (t' := s1.toks) (fun b o z => Heap.get?_push_of_some _ z), turn_list a _, ⟨_, Heap.get?_push_size _ rfl, rfl, rfl⟩, ?_, q⟩
    intro b hb
    have z : b = s1.heap.objs.size := by simpa using hb
    subst z
    exact I1.fpOk (Nat.le_refl _) I1.fresh
  · subst e1
    cases r1
    obtain ⟨its, rv, p, hz⟩ := I1.tuple hq
    refine wpAny_pyIter_tuple (show s1.heap.IsTuple a its.toArray from p) ⟨s1.heap.objs.size, [s1.heap.objs.size], _, _, H1, rfl, I1.kept (t' := s1.toks) (fun b o z => Heap.get?_push_of_some _ z), turn_tuple a _, ⟨_, Heap.get?_push_size _ rfl, rfl, rfl⟩, ?_, q⟩
    intro b hb
    have z : b = s1.heap.objs.size := by simpa using hb
    subst z
    exact I1.fpOk (Nat.le_refl _) I1.fresh
theorem ji_seq (h : JE X W e we) : JI X W tg e (wSeq we) := by
  refine PI.of (pi_any h) fun σ H R ⟨G, en, c, Q0, X0, s, er, q, x0, kk⟩ => ?_
  refine ⟨G, en, c, _, X0, s, er, q, x0, fun d c1 v H1 G1 q1 g1 s1 r1 => ?_⟩
  split at q1
  · rename_i l hl
    obtain ⟨a, vs, e1, h1, h2⟩ := seq_at s1 r1 hl
    have sv := srv_seq (l := l) r1 e1
    rcases h2 with ⟨ht, h2⟩ | ⟨ht, h2⟩
    · rw [if_pos ht] at sv
      exact .inr ⟨a, e1, ⟨vs, h2⟩, fun hh => kk l _ c1 _ H1 G1 (q1 (seq_len s1 hh r1 hl)) g1 s1 sv⟩
    · rw [if_neg (by rw [ht]; exact Bool.false_ne_true)] at sv
      exact .inl ⟨a, e1, ⟨vs, h2⟩, fun hh => kk l _ c1 _ H1 G1 (q1 (seq_len s1 hh r1 hl)) g1 s1 sv⟩
  · exact q1.elim
/-- range -/
def rgD (lo hi : Int) : List D := (List.range (hi - lo).toNat).map fun (i : Nat) => .int (lo + (i : Nat))
def wRg1 (we : WE) : WI := fun en c Q X => we en c (fun d c1 => match d with
  | .int j => -(2 ^ 62) ≤ j ∧ j < 2 ^ 62 ∧ Q (rgD 0 j) (fun _ => True) c1
  | _ => False) X
def wRg2 (wa wb : WE) : WI := fun en c Q X => wa en c (fun d c1 => wb en c1 (fun d' c2 => match d, d' with
  | .int i, .int j => (-(2 ^ 62) ≤ i ∧ i < 2 ^ 62 ∧ -(2 ^ 62) ≤ j ∧ j < 2 ^ 62) ∧ Q (rgD i j) (fun _ => True) c2
  | _, _ => False) X) X
theorem srv_rg {K : PySem.W.Frag} {G : Hp} (lo hi : Int) : Srv K G (Itr lo (hi - lo).toNat) (rgD lo hi) (fun _ => True) := by
  intro i G1 c H le s _
  unfold rgD
  refine ⟨fun d hd => ?_, fun hi' => ?_⟩
  · rw [List.getElem?_map] at hd
    cases e : (List.range (hi - lo).toNat)[i]? with
    | none => rw [e] at hd; cases hd
    | some j =>
      rw [e] at hd
      cases hd
      obtain ⟨h1, h2⟩ := List.getElem?_eq_some_iff.mp e
      rw [List.getElem_range] at h2
      subst h2
      rw [List.length_range] at h1
      refine ⟨h1, fun x H' y => ?_⟩
      obtain ⟨rfl, rfl⟩ := y
      exact ⟨G1, s, Gr.refl, rfl⟩
  · rw [List.length_map, List.length_range] at hi'
    exact hi'
theorem ji_rg1 (hm : X.mg "range" = none) (ha : JE X W a wa) (hg : Gl X "range" := by rfl) (hs : starEach [a] X.env = [(false, eval a X.env)] := by rfl) : JI X W tg (.Call (.Name "range" p) [a] [] pos) (wRg1 wa) := by
  refine PI.of (pi_range1 hg hm (pa_cons ha pa_nil hs) hs) fun σ H R ⟨G, en, c, Q0, X0, s, er, q, x0, kk⟩ => ?_
  refine ⟨G, en, c, _, X0, s, er, q, x0, fun d c1 v H1 G1 q1 g1 s1 r1 => ?_⟩
  cases d <;> first
    | exact q1.elim
    | skip
  rename_i j
  have e : v = .int j := r1
  subst e
  refine ⟨j, rfl, q1.1, q1.2.1, fun _ => kk _ _ c1 _ H1 G1 q1.2.2 g1 s1 ?_⟩
  have := srv_rg (K := X.K) (G := G1) 0 j
  rw [Int.sub_zero] at this
  exact this
/-- enumerate of a list -/
def enD (n : Nat) : List D → List D
  | [] => []
  | d :: l => .tup [.int n, d] :: enD (n + 1) l
theorem enD_length : ∀ (l : List D) (n : Nat), (enD n l).length = l.length
  | [], _ => rfl
  | d :: l, n => by rw [enD, List.length_cons, List.length_cons, enD_length l]
theorem enD_get : ∀ (l : List D) (n i : Nat) (y : D), (enD n l)[i]? = some y → ∃ d, l[i]? = some d ∧ y = .tup [.int ((n + i : Nat) : Int), d]
  | [], _, _, _, h => by simp [enD] at h
  | d :: l, n, 0, y, h => by
    simp [enD] at h
    exact ⟨d, rfl, by rw [← h]; simp⟩
  | d :: l, n, i + 1, y, h => by
    rw [enD, List.getElem?_cons_succ] at h
    obtain ⟨d', h1, h2⟩ := enD_get l (n + 1) i y h
    exact ⟨d', by simpa using h1, by rw [h2, Nat.add_assoc, Nat.add_comm 1 i]⟩
def wEnum (we : WE) : WI := fun en c Q X => we en c (fun d c1 => match seqOf c1 d with
  | some l => l.length ≤ sizeLine → Q (enD 0 l) (fun c' => seqOf c' d = some l) c1
  | none => False) X
theorem pair_new {K : PySem.W.Frag} {G : Hp} {c : Cs} {H : Hp} {T : Addr} {x y : V} {d d' : D} (s : SR K G c H) (n : H T = none) (r : Rep K G d x) (r' : Rep K G d' y) :
    ∃ G', SR K G' c (upd H T (.tup [x, y])) ∧ Gr G c H G' c (upd H T (.tup [x, y])) ∧ Rep K G' (.tup [d, d']) (.ref T) := by
  obtain ⟨s2, g2⟩ := s.newG (o := HO.tup [x, y]) n
  exact ⟨_, s2, g2, T, _, rfl, TupAt.of upd_same, x, [y], rfl, Rep.mono g2.g _ _ r, y, [], rfl, Rep.mono g2.g _ _ r', rfl⟩
theorem srv_enum {K : PySem.W.Frag} {G : Hp} {d : D} {v : V} {l : List D} (r : Rep K G d v) {a : Addr} (ea : v = .ref a) : Srv K G (if isTup d = true then IteT K a else Ite K a) (enD 0 l) (fun c' => seqOf c' d = some l) := by
  intro i G1 c H le s e
  obtain ⟨a', vs, e1, h1, h2⟩ := seq_at s (Rep.mono le _ _ r) e
  rw [ea] at e1
  cases e1
  rcases h2 with ⟨ht, h2⟩ | ⟨ht, h2⟩
  · rw [if_pos ht]
    refine ⟨fun y hy => ?_, fun hi => ⟨vs, h2, by rw [← h1.length, ← enD_length l 0]; exact hi⟩⟩
    obtain ⟨d', hd, rfl⟩ := enD_get l 0 i y hy
    obtain ⟨u, hu, ru⟩ := h1.get hd
    refine ⟨⟨vs, u, h2, hu⟩, fun x H' z => ?_⟩
    obtain ⟨T, w, rfl, hn, rfl, hw⟩ := z
    have := hw vs h2
    rw [hu] at this
    cases this
    rw [Nat.zero_add]
    exact pair_new s hn rfl ru
  · rw [if_neg (by rw [ht]; decide)]
    refine ⟨fun y hy => ?_, fun hi => ⟨vs, h2, by rw [← h1.length, ← enD_length l 0]; exact hi⟩⟩
    obtain ⟨d', hd, rfl⟩ := enD_get l 0 i y hy
    obtain ⟨u, hu, ru⟩ := h1.get hd
    refine ⟨⟨vs, u, h2, hu⟩, fun x H' z => ?_⟩
    obtain ⟨T, w, rfl, hn, rfl, hw⟩ := z
    have := hw vs h2
    rw [hu] at this
    cases this
    rw [Nat.zero_add]
    exact pair_new s hn rfl ru
theorem ji_enum {elts : List Expr} {kk' : Nat} (hm : X.mg "enumerate" = none) (ha : JE X W a wa) (hg : Gl X "enumerate" := by rfl) (hs : starEach [a] X.env = [(false, eval a X.env)] := by rfl) : JI X W (.Tuple elts kk' tpos) (.Call (.Name "enumerate" p) [a] [] pos) (wEnum wa) := by
  refine PI.of (pi_enumA hg hm (pa_cons ha pa_nil hs) hs) fun σ H R ⟨G, en, c, Q0, X0, s, er, q, x0, kk⟩ => ?_
  refine ⟨G, en, c, _, X0, s, er, q, x0, fun d c1 v H1 G1 q1 g1 s1 r1 => ?_⟩
  split at q1
  · rename_i l hl
    obtain ⟨a', vs, e1, h1, h2⟩ := seq_at s1 r1 hl
    have sv := srv_enum (l := l) r1 e1
    rcases h2 with ⟨ht, h2⟩ | ⟨ht, h2⟩
    · rw [if_pos ht] at sv
      exact ⟨a', vs, by rw [e1], .inr ⟨h2, fun hh => kk _ _ c1 _ H1 G1 (q1 (seq_len s1 hh r1 hl)) g1 s1 sv⟩⟩
    · rw [if_neg (by rw [ht]; decide)] at sv
      exact ⟨a', vs, by rw [e1], .inl ⟨h2, fun hh => kk _ _ c1 _ H1 G1 (q1 (seq_len s1 hh r1 hl)) g1 s1 sv⟩⟩
  · exact q1.elim
/-- zip of two lists, of two tuples -/
def wZip (wa wb : WE) : WI := fun en c Q X => wa en c (fun d c1 => wb en c1 (fun d' c2 => match seqOf c2 d, seqOf c2 d' with
  | some l, some m => isTup d = isTup d' ∧ (l.length ≤ sizeLine → m.length ≤ sizeLine → Q (List.zipWith (fun x y => .tup [x, y]) l m) (fun c' => seqOf c' d = some l ∧ seqOf c' d' = some m) c2)
  | _, _ => False) X) X
theorem srv_zip {K : PySem.W.Frag} {G : Hp} {d d' : D} {v v' : V} {l m : List D} (r : Rep K G d v) (r' : Rep K G d' v') {a b : Addr} (ea : v = .ref a) (eb : v' = .ref b) (ht : isTup d = isTup d') :
    Srv K G (if isTup d = true then ItzT K a b else Itz K a b) (List.zipWith (fun x y => .tup [x, y]) l m) (fun c' => seqOf c' d = some l ∧ seqOf c' d' = some m) := by
  intro i G1 c H le s ⟨e, e'⟩
  obtain ⟨a', vs, e1, h1, h2⟩ := seq_at s (Rep.mono le _ _ r) e
  obtain ⟨b', ws, e3, h3, h4⟩ := seq_at s (Rep.mono le _ _ r') e'
  rw [ea] at e1
  rw [eb] at e3
  cases e1
  cases e3
  have both : ∀ y, (List.zipWith (fun x y => D.tup [x, y]) l m)[i]? = some y → ∃ p q u w, vs[i]? = some u ∧ ws[i]? = some w ∧ Rep K G1 p u ∧ Rep K G1 q w ∧ y = .tup [p, q] := fun y hy => by
    rw [List.getElem?_zipWith] at hy
    cases hl : l[i]? with
    | none => rw [hl] at hy; simp at hy
    | some p =>
      cases hm : m[i]? with
      | none => rw [hl, hm] at hy; simp at hy
      | some q =>
        rw [hl, hm] at hy
        obtain ⟨u, hu, ru⟩ := h1.get hl
        obtain ⟨w, hw, rw'⟩ := h3.get hm
        exact ⟨p, q, u, w, hu, hw, ru, rw', by simpa using hy.symm⟩
  have stop : (List.zipWith (fun x y => D.tup [x, y]) l m).length ≤ i → vs.length ≤ i ∨ ws.length ≤ i := fun h => by
    rw [List.length_zipWith, h1.length, h3.length] at h
    omega
  rcases h2 with ⟨t1, h2⟩ | ⟨t1, h2⟩
  · rcases h4 with ⟨t2, h4⟩ | ⟨t2, h4⟩
    · rw [if_pos t1]
      refine ⟨fun y hy => ?_, fun hi => ⟨vs, ws, h2, h4, stop hi⟩⟩
      obtain ⟨p, q, u, w, hu, hw, ru, rw', rfl⟩ := both y hy
      refine ⟨⟨vs, ws, u, w, h2, h4, hu, hw⟩, fun x H' z => ?_⟩
      obtain ⟨T, u', w', rfl, hn, rfl, k1, k2⟩ := z
      have z1 := k1 vs h2
      have z2 := k2 ws h4
      rw [hu] at z1
      rw [hw] at z2
      cases z1
      cases z2
      exact pair_new s hn ru rw'
    · rw [t1, t2] at ht; cases ht
  · rcases h4 with ⟨t2, h4⟩ | ⟨t2, h4⟩
    · rw [t1, t2] at ht; cases ht
    · rw [if_neg (by rw [t1]; exact Bool.false_ne_true)]
      refine ⟨fun y hy => ?_, fun hi => ⟨vs, ws, h2, h4, stop hi⟩⟩
      obtain ⟨p, q, u, w, hu, hw, ru, rw', rfl⟩ := both y hy
      refine ⟨⟨vs, ws, u, w, h2, h4, hu, hw⟩, fun x H' z => ?_⟩
      obtain ⟨T, u', w', rfl, hn, rfl, k1, k2⟩ := z
      have z1 := k1 vs h2
      have z2 := k2 ws h4
      rw [hu] at z1
      rw [hw] at z2
      cases z1
      cases z2
      exact pair_new s hn ru rw'
theorem ji_zip {elts : List Expr} {kk' : Nat} (hm : X.mg "zip" = none) (ha : JE X W a wa) (hb : JE X W b wb) (hg : Gl X "zip" := by rfl) (hs2 : starEach [b] X.env = [(false, eval b X.env)] := by rfl)
    (hs : starEach [a, b] X.env = (false, eval a X.env) :: starEach [b] X.env := by rfl) (hpl : (backTo pos (starEach [b] X.env)).any (·.1) = false := by rfl) : JI X W (.Tuple elts kk' tpos) (.Call (.Name "zip" p) [a, b] [] pos) (wZip wa wb) := by
  refine PI.of (pi_zipA hg hm (pa_cons ha (pa_cons hb pa_nil hs2) hs) hs hpl) fun σ H R ⟨G, en, c, Q0, X0, s, er, q, x0, kk⟩ => ?_
  refine ⟨G, en, c, _, X0, s, er, q, x0, fun d c1 v H1 G1 q1 g1 s1 r1 => ?_⟩
  refine ⟨G1, en, c1, _, X0, s1, er.mono g1.g, q1, x0.more g1, fun d' c2 v' H2 G2 q2 g2 s2 r2 => ?_⟩
  have r1' := Rep.mono g2.g _ _ r1
  split at q2
  · rename_i l m hl hm'
    obtain ⟨ht, q2⟩ := q2
    obtain ⟨a', vs, e1, h1, h2⟩ := seq_at s2 r1' hl
    obtain ⟨b', ws, e3, h3, h4⟩ := seq_at s2 r2 hm'
    have sv := srv_zip (l := l) (m := m) r1' r2 e1 e3 ht
    refine ⟨a', b', vs, ws, by rw [e1, e3], ?_⟩
    rcases h2 with ⟨t1, h2⟩ | ⟨t1, h2⟩
    · rcases h4 with ⟨t2, h4⟩ | ⟨t2, h4⟩
      · rw [if_pos t1] at sv
        exact .inr ⟨h2, h4, fun hh => kk _ _ c2 _ H2 G2 (q2 (seq_len s2 hh r1' hl) (seq_len s2 hh r2 hm')) (g1.trans g2) s2 sv⟩
      · rw [t1, t2] at ht; cases ht
    · rcases h4 with ⟨t2, h4⟩ | ⟨t2, h4⟩
      · rw [t1, t2] at ht; cases ht
      · rw [if_neg (by rw [t1]; exact Bool.false_ne_true)] at sv
        exact .inl ⟨h2, h4, fun hh => kk _ _ c2 _ H2 G2 (q2 (seq_len s2 hh r1' hl) (seq_len s2 hh r2 hm')) (g1.trans g2) s2 sv⟩
  · exact q2.elim
end
inductive Tg where
  | nm (i : Nat)
  | tup (ts : List Tg)
mutual
def gTg (K : PySem.W.Frag) : Tg → TG
  | .nm i => gName i
  | .tup ts => fun v σ H Q => gTup K ts.length (gTgs K ts) v σ H Q ∨ gUnl K ts.length (gTgs K ts) v σ H Q
def gTgs (K : PySem.W.Frag) : List Tg → TGs
  | [] => gNil
  | t :: ts => gCons (gTg K t) (gTgs K ts)
end
mutual
def bindT : Tg → D → En → Option En
  | .nm i, d, en => some (en.set i (some d))
  | .tup ts, d, en => match d with
    | .tup ds => bindTs ts ds en
    | .lst ds => bindTs ts ds en
    | _ => none
def bindTs : List Tg → List D → En → Option En
  | [], [], en => some en
  | t :: ts, d :: ds, en => match bindT t d en with
    | some en' => bindTs ts ds en'
    | none => none
  | _, _, _ => none
end
mutual
def slotsT : Tg → List Nat
  | .nm i => [i]
  | .tup ts => slotsTs ts
def slotsTs : List Tg → List Nat
  | [] => []
  | t :: ts => slotsT t ++ slotsTs ts
end
theorem wipe_set {σ : L2.St} {i : Nat} {o : Option V} : ∀ {vs : List Nat}, i ∈ vs → wipe (σ.set i o) vs = wipe σ vs
  | v :: vs, h => by
    unfold wipe
    by_cases e : i ∈ vs
    · rw [wipe_set e]
    · have hv : i = v := by
        rcases List.mem_cons.mp h with h | h
        · exact h
        · exact absurd h e
      subst hv
      have out : ∀ ws : List Nat, i ∉ ws → wipe (σ.set i o) ws = (wipe σ ws).set i o := fun ws => by
        induction ws with
        | nil => intro _; rfl
        | cons w ws ih =>
          intro hn
          rw [List.mem_cons, not_or] at hn
          unfold wipe
          rw [ih hn.2, List.set_comm _ _ hn.1]
      rw [out vs e, List.set_set]
theorem pg_any {es : List Expr} {k n : Nat} {pos : Pos} {X : Cx} {t : TGs} (hc : X.calm = true) (h : PGs X es t) (hn : (assignEach es X.env).length = n) (hst : (assignEach es X.env).findIdx? (·.1) = none) :
    PG X (.Tuple es k pos) (fun v σ H Q => gTup X.K n t v σ H Q ∨ gUnl X.K n t v σ H Q) :=
  ⟨fun pins s σ H v u Q I r q => q.elim (fun q => (pg_tup hc h hn hst).run pins s σ H v u Q I r q) (fun q => (pg_unl hc h hn hst).run pins s σ H v u Q I r q)⟩
mutual
theorem gTg_ok {K : PySem.W.Frag} {G H : Hp} (le : Le G H) {vs : List Nat} : ∀ (t : Tg) (d : D) (v : V) (en en' : En) (σ : L2.St) (Q : L2.St → Hp → Prop), (∀ i ∈ slotsT t, i ∈ vs) → EnR K G en σ → Rep K G d v → bindT t d en = some en' →
    (∀ σ', EnR K G en' σ' → wipe σ' vs = wipe σ vs → Q σ' H) → gTg K t v σ H Q
  | .nm i, d, v, en, en', σ, Q, hv, er, r, hb, k => by
    cases hb
    exact k _ (er.set r) (wipe_set (hv i (by simp [slotsT])))
  | .tup ts, d, v, en, en', σ, Q, hv, er, r, hb, k => by
    cases d <;> first
      | (simp [bindT] at hb; done)
      | skip
    · rename_i ds
      have hb : bindTs ts ds en = some en' := by simpa [bindT] using hb
      obtain ⟨a, us, rfl, h1, h2⟩ := r
      exact .inl ⟨a, us, rfl, le.sqT h1.sq, by rw [← h2.length]; exact bindTs_len ts ds en en' hb, gTgs_ok le ts ds us en en' σ Q (by simpa [slotsT] using hv) er h2 hb k⟩
    · rename_i ds
      have hb : bindTs ts ds en = some en' := by simpa [bindT] using hb
      obtain ⟨a, us, rfl, h1, h2⟩ := r
      exact .inr ⟨a, us, rfl, SqL.of (le _ _ h1), by rw [← h2.length]; exact bindTs_len ts ds en en' hb, gTgs_ok le ts ds us en en' σ Q (by simpa [slotsT] using hv) er h2 hb k⟩
theorem gTgs_ok {K : PySem.W.Frag} {G H : Hp} (le : Le G H) {vs : List Nat} : ∀ (ts : List Tg) (ds : List D) (us : List V) (en en' : En) (σ : L2.St) (Q : L2.St → Hp → Prop), (∀ i ∈ slotsTs ts, i ∈ vs) → EnR K G en σ → Reps K G ds us → bindTs ts ds en = some en' →
    (∀ σ', EnR K G en' σ' → wipe σ' vs = wipe σ vs → Q σ' H) → gTgs K ts us σ H Q
  | [], [], us, en, en', σ, Q, hv, er, r, hb, k => by
    cases r
    cases hb
    exact ⟨rfl, k σ er rfl⟩
  | [], _ :: _, _, _, _, _, _, _, _, _, hb, _ => by simp [bindTs] at hb
  | _ :: _, [], _, _, _, _, _, _, _, _, hb, _ => by simp [bindTs] at hb
  | t :: ts, d :: ds, us, en, en', σ, Q, hv, er, r, hb, k => by
    obtain ⟨v, us', rfl, h1, h2⟩ := r
    have hv : (∀ i ∈ slotsT t, i ∈ vs) ∧ ∀ i ∈ slotsTs ts, i ∈ vs := ⟨fun i h => hv i (by simp [slotsTs, h]), fun i h => hv i (by simp [slotsTs, h])⟩
    cases e : bindT t d en with
    | none => simp [bindTs, e] at hb
    | some en1 =>
      have hb : bindTs ts ds en1 = some en' := by simpa [bindTs, e] using hb
      refine ⟨v, us', rfl, gTg_ok le t d v en en1 σ _ hv.1 er h1 e fun σ1 er1 w1 => ?_⟩
      exact gTgs_ok le ts ds us' en1 en' σ1 Q hv.2 er1 h2 hb fun σ2 er2 w2 => k σ2 er2 (w2.trans w1)
theorem bindTs_len : ∀ (ts : List Tg) (ds : List D) (en en' : En), bindTs ts ds en = some en' → ds.length = ts.length
  | [], [], _, _, _ => rfl
  | [], _ :: _, _, _, hb => by simp [bindTs] at hb
  | _ :: _, [], _, _, hb => by simp [bindTs] at hb
  | t :: ts, d :: ds, en, en', hb => by
    cases e : bindT t d en with
    | none => simp [bindTs, e] at hb
    | some en1 =>
      have hb : bindTs ts ds en1 = some en' := by simpa [bindTs, e] using hb
      simp [bindTs_len ts ds en1 en' hb]
end
end VL
namespace VL
open PySem PySem.Spec PyProof.Rows L2
section
variable {X : Cx} {W : WX} {tg e a b : Expr} {es : List Expr} {we wa wb : WE} {ws : WA} {x : Str} {p pos pos' tpos : Pos} {k : Nat} {st : Stmt} {rest : List Stmt} {t u : WS} {wt : WT}
def sNil : WS := fun D _ en c => D.nx en c
def sSeq (t u : WS) : WS := fun D X en c => t { D with nx := fun en' c' => u D X en' c' } X en c
theorem jss_nil : JSs X W [] sNil := PSs.of pss_nil fun D σ H ⟨G, en, c, D0, X0, s, er, q, x0, k⟩ => k.nx en c σ H G q Gr.refl s er
theorem jss_cons (h1 : JS X W st t) (h2 : JSs X W rest u) : JSs X W (st :: rest) (sSeq t u) := by
  refine PSs.of (pss_cons h1 h2) fun D σ H ⟨G, en, c, D0, X0, s, er, q, x0, k⟩ => ?_
  refine ⟨G, en, c, _, X0, s, er, q, x0, ⟨fun en' c' σ' H' G' q' g' s' e' => ?_, k.rt, k.bk, k.ct⟩⟩
  exact ⟨G', en', c', D0, X0, s', e', q', x0.more g', k.more g'⟩
theorem jss_one (h1 : JS X W st t) : JSs X W [st] t := pss_one h1
def sPass : WS := fun D _ en c => D.nx en c
def sBrk : WS := fun D _ en c => D.bk en c
def sCont : WS := fun D _ en c => D.ct en c
def sExpr (we : WE) : WS := fun D X en c => we en c (fun _ c' => D.nx en c') X
theorem js_expr (h : JE X W e we) (hs : swapsWith e none pos.line X.env = pure false := by rfl) : JS X W (.Expr e pos) (sExpr we) := by
  refine PS.of (ps_expr h hs) fun D σ H ⟨G, en, c, D0, X0, s, er, q, x0, k⟩ => ?_
  exact ⟨G, en, c, _, X0, s, er, q, x0, fun d c' v H' G' q' g' s' _ => k.nx en c' σ H' G' q' g' s' (er.mono g'.g)⟩
def sRet (we : WE) : WS := fun D X en c => we en c D.rt X
theorem js_ret (h : JE X W e we) : JS X W (.Return (some e) pos) (sRet we) := by
  refine PS.of (ps_ret h) fun D σ H ⟨G, en, c, D0, X0, s, er, q, x0, k⟩ => ?_
  exact ⟨G, en, c, _, X0, s, er, q, x0, k.rt⟩
def sRetN : WS := fun D _ _ c => D.rt .non c
def sIf (wt : WT) (t u : WS) : WS := fun D X en c => wt en c (fun b c' => if b = true then t D X en c' else u D X en c') X
theorem js_if {body orelse : List Stmt} (hc : JT X W e wt) (ha : JSs X W body t) (hb : JSs X W orelse u) : JS X W (.If e body orelse pos) (sIf wt t u) := by
  refine PS.of (ps_if hc ha hb) fun D σ H ⟨G, en, c, D0, X0, s, er, q, x0, k⟩ => ?_
  refine ⟨G, en, c, _, X0, s, er, q, x0, fun d c1 H1 G1 q1 g1 s1 => ?_⟩
  cases d with
  | true => exact iteT ⟨G1, en, c1, D0, X0, s1, er.mono g1.g, by simpa using q1, x0.more g1, k.more g1⟩
  | false => exact iteF ⟨G1, en, c1, D0, X0, s1, er.mono g1.g, by simpa using q1, x0.more g1, k.more g1⟩
/-- never reached -/
def sNever : WS := fun _ _ _ _ => False
def sSet (i : Nat) (we : WE) : WS := fun D X en c => we en c (fun d c' => D.nx (en.set i (some d)) c') X
theorem js_set (i : Nat) {y : Str} {pos' : Pos} (hN : X.N.Nodup) (he : JE X W e we) (hi : X.N[i]? = some y := by rfl) (hx : Loc X.env.scope y := by first | exact Or.inl rfl | exact Or.inr rfl)
    (hs : swapsWith e (some (.Name y pos')) pos.line X.env = pure false := by rfl) (hf : X.fn y = true ∨ X.env.scope.names.lookup y = some .local := by first | exact .inl rfl | exact .inr rfl | assumption) :
    JS X W (.Assign [.Name y pos'] e pos) (sSet i we) := by
  refine PS.of (ps_set hN hi hx he hs hf) fun D σ H ⟨G, en, c, D0, X0, s, er, q, x0, k⟩ => ?_
  exact ⟨G, en, c, _, X0, s, er, q, x0, fun d c' v H' G' q' g' s' r' => k.nx _ c' _ H' G' q' g' s' ((er.mono g'.g).set r')⟩
/-- name op= value -/
def sAug (i : Nat) (o : Op2) (we : WE) : WS := fun D X en c => match en[i]? with
  | some (some x) => we en c (fun y c1 => o x y c1 (fun z c2 => D.nx (en.set i (some z)) c2)) X
  | _ => False
abbrev WG := D → En → Cs → (En → Cs → Prop) → XD → Prop
abbrev WGs := List D → En → Cs → (En → Cs → Prop) → XD → Prop
def rdG (K : PySem.W.Frag) (mg : Str → Option Value) (W : WX) (wg : WG) : TG := fun v σ H Q => ∃ G en c d Q0 X0, SR K G c H ∧ EnR K G en σ ∧ Rep K G d v ∧ wg d en c Q0 X0 ∧ XOk K mg W X0 G c H ∧ StK K G c H Q0 Q
def rdGs (K : PySem.W.Frag) (mg : Str → Option Value) (W : WX) (wg : WGs) : TGs := fun vs σ H Q => ∃ G en c ds Q0 X0, SR K G c H ∧ EnR K G en σ ∧ Reps K G ds vs ∧ wg ds en c Q0 X0 ∧ XOk K mg W X0 G c H ∧ StK K G c H Q0 Q
abbrev JG (X : Cx) (W : WX) (tg : Expr) (wg : WG) : Prop := PG X tg (rdG X.K X.mg W wg)
abbrev JGs (X : Cx) (W : WX) (tg : List Expr) (wg : WGs) : Prop := PGs X tg (rdGs X.K X.mg W wg)
theorem PGs.of {es : List Expr} {t t' : TGs} (h : PGs X es t) (k : ∀ v σ H Q, t' v σ H Q → t v σ H Q) : PGs X es t' := ⟨fun pins s σ H v u Q I r q => h.run pins s σ H v u Q I r (k v σ H Q q)⟩
def gNm (i : Nat) : WG := fun d en c Q _ => Q (en.set i (some d)) c
theorem jg_nm (i : Nat) {y : Str} (hN : X.N.Nodup) (hi : X.N[i]? = some y := by rfl) (hx : Loc X.env.scope y := by first | exact Or.inl rfl | exact Or.inr rfl) (hf : X.fn y = true ∨ X.env.scope.names.lookup y = some .local := by first | exact .inl rfl | exact .inr rfl | assumption) :
    JG X W (.Name y pos) (gNm i) := PG.of (pg_name hN hi hx hf) fun v σ H Q ⟨G, en, c, d, Q0, X0, s, er, r, q, x0, k⟩ => k _ c _ H G q Gr.refl s (er.set r)
def gNil' : WGs := fun ds en c Q _ => ds = [] ∧ Q en c
def gCons' (g : WG) (gs : WGs) : WGs := fun ds en c Q X => match ds with
  | d :: r => g d en c (fun en1 c1 => gs r en1 c1 Q X) X
  | [] => False
variable {g : WG} {gs : WGs}
theorem jgs_nil : JGs X W [] gNil' := PGs.of pgs_nil fun vs σ H Q ⟨G, en, c, ds, Q0, X0, s, er, r, q, x0, k⟩ => by
  obtain ⟨rfl, q⟩ := q
  cases r
  exact ⟨rfl, k _ c _ H G q Gr.refl s er⟩
theorem jgs_cons (h1 : JG X W e g) (h2 : JGs X W es gs) (hs : (assignEach (e :: es) X.env).map (·.2) = assign e X.env :: (assignEach es X.env).map (·.2) := by rfl) : JGs X W (e :: es) (gCons' g gs) := by
  refine PGs.of (pgs_cons h1 h2 hs) fun vs σ H Q ⟨G, en, c, ds, Q0, X0, s, er, r, q, x0, k⟩ => ?_
  cases ds with
  | nil => exact q.elim
  | cons d ds =>
    obtain ⟨v, us, rfl, r1, r2⟩ := r
    refine ⟨v, us, rfl, G, en, c, d, _, X0, s, er, r1, q, x0, fun en1 c1 σ1 H1 G1 q1 g1 s1 e1 => ?_⟩
    exact ⟨G1, en1, c1, ds, Q0, X0, s1, e1, Reps.mono g1.g _ _ r2, q1, x0.more g1, fun en' c' σ' H' G' z g' s' e' => k en' c' σ' H' G' z (g1.trans g') s' e'⟩
/-- a tuple of n things -/
def gTp (n : Nat) (gs : WGs) : WG := fun d en c Q X => match d with
  | .tup ds => ds.length = n ∧ gs ds en c Q X
  | .lst ds => ds.length = n ∧ gs ds en c Q X
  | _ => False
theorem jg_tp {k' n : Nat} (hc : X.calm = true) (h : JGs X W es gs) (hn : (assignEach es X.env).length = n := by rfl) (hst : (assignEach es X.env).findIdx? (·.1) = none := by rfl) : JG X W (.Tuple es k' pos) (gTp n gs) := by
  refine PG.of (pg_any hc h hn hst) fun v σ H Q ⟨G, en, c, d, Q0, X0, s, er, r, q, x0, k⟩ => ?_
  cases d <;> first
    | exact q.elim
    | skip
  · obtain ⟨a, vs, rfl, h1, h2⟩ := r
    exact .inl ⟨a, vs, rfl, s.sub.sqT h1.sq, by rw [← h2.length]; exact q.1, G, en, c, _, Q0, X0, s, er, h2, q.2, x0, k⟩
  · obtain ⟨a, vs, rfl, h1, h2⟩ := r
    exact .inr ⟨a, vs, rfl, SqL.of (s.sub _ _ h1), by rw [← h2.length]; exact q.1, G, en, c, _, Q0, X0, s, er, h2, q.2, x0, k⟩
/-- o[i] = d by data -/
def oSetIx : D → D → D → Cs → (Cs → Prop) → Prop := fun o i d c Q => match i with
  | .int i => ∃ p l j, liveOf c o = some (p, l) ∧ ixN l.length i = some j ∧ Q (cup c p (.lst (l.set j d)))
  | _ => False
def gSb (wo wi : WE) : WG := fun d en c Q X => wo en c (fun o c1 => wi en c1 (fun i c2 => oSetIx o i d c2 (fun c3 => Q en c3)) X) X
theorem setIx_ok {G : Hp} {c : Cs} {H : Hp} {o i d : D} {vo vi vd : V} {Q : Cs → Prop} {R : Hp → Prop} (s : SR X.K G c H) (ro : Rep X.K G o vo) (ri : Rep X.K G i vi) (rd : Rep X.K G d vd) (q : oSetIx o i d c Q)
    (k : ∀ c' H', Q c' → Gr G c H G c' H' → SR X.K G c' H' → R H') : rSetL vo vi vd H R := by
  unfold oSetIx at q
  split at q
  · obtain ⟨p, l, j, e, hj, q⟩ := q
    obtain ⟨rfl, h1, h2, ws, h3, h4⟩ := live_at s ro e
    refine ⟨p, ws, _, j, rfl, ri, h3, by rw [← h4.length]; exact hj, ?_⟩
    obtain ⟨s2, g2⟩ := s.write (o := HO.lst (ws.set j vd)) (y := .lst (l.set j d)) h1 h2 ⟨h2, _, upd_same, Reps.set rd j h4⟩
    exact k _ _ q g2 s2
  · exact q.elim
theorem jg_sb (ho : JE X W a wa) (hi : JE X W b wb) (ha : ∀ v, assign (.Subscript a b pos) X.env v = (do
      let ov ← holding [v] (eval a X.env)
      let iv ← holding [v, ov] (eval b X.env)
      standAt pos
      holding [v, ov, iv] (setItem ov iv v)
      release [v, ov, iv] []) := by intro _; rfl) : JG X W (.Subscript a b pos) (gSb wa wb) := by
  refine PG.of (pg_sub ho hi set_list ha) fun v σ H Q ⟨G, en, c, d, Q0, X0, s, er, r, q, x0, k⟩ => ?_
  refine ⟨G, en, c, _, X0, s, er, q, x0, fun d1 c1 v1 H1 G1 q1 g1 s1 r1 => ?_⟩
  refine ⟨G1, en, c1, _, X0, s1, er.mono g1.g, q1, x0.more g1, fun d2 c2 v2 H2 G2 q2 g2 s2 r2 => ?_⟩
  refine setIx_ok s2 (Rep.mono g2.g _ _ r1) r2 (Rep.mono (g1.trans g2).g _ _ r) q2 fun c' H' z g' s' => ?_
  exact k en c' σ H' G2 z ((g1.trans g2).trans g') s' (er.mono ((g1.trans g2).trans g').g)
def sAsg (we : WE) (g : WG) : WS := fun D X en c => we en c (fun d c1 => g d en c1 (fun en' c' => D.nx en' c') X) X
theorem js_asg (he : JE X W e we) (hg : JG X W tg g) (hs : swapsWithSole [tg] e pos.line X.env = pure false := by rfl) (hw : swappedStores [tg] e X.env = pure none := by rfl)
    (h1 : (assignEach [tg] X.env).map (·.2) = [assign tg X.env] := by rfl) : JS X W (.Assign [tg] e pos) (sAsg we g) := by
  refine PS.of (ps_asg he hg hs hw h1) fun D σ H ⟨G, en, c, D0, X0, s, er, q, x0, k⟩ => ?_
  refine ⟨G, en, c, _, X0, s, er, q, x0, fun d c1 v H1 G1 q1 g1 s1 r1 => ?_⟩
  exact ⟨G1, en, c1, d, _, X0, s1, er.mono g1.g, r1, q1, x0.more g1, fun en' c' σ' H' G' z g' s' e' => k.nx en' c' σ' H' G' z (g1.trans g') s' e'⟩
/-- a, b = x, y of plain names: stored without a tuple -/
def sPar (i j : Nat) (ws : WA) : WS := fun D X en c => ws en c (fun ds c' => match ds with
  | [d, d'] => D.nx ((en.set i (some d)).set j (some d')) c'
  | _ => False) X
theorem js_par (i j : Nat) {y z : Str} {px py pt : Pos} {kt k2 : Nat} {pt2 : Pos} (hc : X.calm = true) (hN : X.N.Nodup) (ha : JA X W [a, b] ws) (hij : i ≠ j := by decide) (hi : X.N[i]? = some y := by rfl) (hj : X.N[j]? = some z := by rfl)
    (hx : X.env.scope.names.lookup y = some .local := by rfl) (hy : X.env.scope.names.lookup z = some .local := by rfl)
    (hw : swappedStores [.Tuple [.Name y px, .Name z py] kt pt] (.Tuple [a, b] k2 pt2) X.env = pure (some [y, z]) := by rfl)
    (hs : swapsWithSole [.Tuple [.Name y px, .Name z py] kt pt] (.Tuple [a, b] k2 pt2) pos.line X.env = pure false := by rfl) :
    JS X W (.Assign [.Tuple [.Name y px, .Name z py] kt pt] (.Tuple [a, b] k2 pt2) pos) (sPar i j ws) := by
  refine PS.of (ps_par hc hN hi hj hij hx hy ha hw hs) fun D σ H ⟨G, en, c, D0, X0, s, er, q, x0, k⟩ => ?_
  refine ⟨G, en, c, _, X0, s, er, q, x0, fun ds c1 vs H1 G1 q1 g1 s1 r1 => ?_⟩
  split at q1
  · obtain ⟨v, u, rfl, r1, r2⟩ := Reps.two' r1
    exact ⟨v, u, rfl, k.nx _ c1 _ H1 G1 q1 g1 s1 (((er.mono g1.g).set r1).set r2)⟩
  · exact q1.elim
/-- the rest of the items -/
def loopW (chk : Cs → Prop) (t : Tg) (wb : WS) (D0 : EndD) (X : XD) : List D → En → Cs → Prop
  | [], en, c => chk c ∧ D0.nx en c
  | d :: r, en, c => chk c ∧ match bindT t d en with
    | some en' => wb { D0 with nx := loopW chk t wb D0 X r, ct := loopW chk t wb D0 X r, bk := D0.nx } X en' c
    | none => False
def sFor (wi : WI) (t : Tg) (wb : WS) : WS := fun D X en c => wi en c (fun ds chk c1 => loopW chk t wb D X ds en c1) X
abbrev JTg (X : Cx) (tg : Expr) (t : Tg) : Prop := PG X tg (gTg X.K t)
theorem jt_nm (i : Nat) {y : Str} (hN : X.N.Nodup) (hi : X.N[i]? = some y := by rfl) (hx : Loc X.env.scope y := by first | exact Or.inl rfl | exact Or.inr rfl) (hf : X.fn y = true ∨ X.env.scope.names.lookup y = some .local := by first | exact .inl rfl | exact .inr rfl | assumption) :
    JTg X (.Name y pos) (.nm i) := pg_name hN hi hx hf
abbrev JTgs (X : Cx) (es : List Expr) (ts : List Tg) : Prop := PGs X es (gTgs X.K ts)
theorem jtgs_nil : JTgs X [] [] := pgs_nil
theorem jtgs_cons {tt : Tg} {ts : List Tg} (h1 : JTg X e tt) (h2 : JTgs X es ts) (hs : (assignEach (e :: es) X.env).map (·.2) = assign e X.env :: (assignEach es X.env).map (·.2) := by rfl) : JTgs X (e :: es) (tt :: ts) := pgs_cons h1 h2 hs
theorem jt_tp {k' : Nat} {ts : List Tg} (hc : X.calm = true) (h : JTgs X es ts) (hn : (assignEach es X.env).length = ts.length := by rfl) (hst : (assignEach es X.env).findIdx? (·.1) = none := by rfl) : JTg X (.Tuple es k' pos) (.tup ts) := pg_any hc h hn hst
theorem js_for {body : List Stmt} {wi : WI} {tt : Tg} {wb : WS} (hp : PassesOwn (model X.prog X.w) X.A X.env X.xe) (hc : X.calm = true) (hi : JI X W tg e wi) (hg : JTg X tg tt) (hb : JSs X W body wb)
    (hs : ∀ x, foldedSetIterable e X.env x = pure x := by intro _; rfl) : JS X W (.For tg e body [] pos) (sFor wi tt wb) := by
  refine PS.of (ps_for hp hc hi hg hb hs) fun D σ H ⟨G, en, c, D0, X0, s, er, q, x0, k⟩ => ?_
  refine ⟨G, en, c, _, X0, s, er, q, x0, fun ds chk c1 J H1 G1 q1 g1 s1 sv => ?_⟩
  refine ⟨fun i m σ H => ∃ G en c, Gr G1 c1 H1 G c H ∧ SR X.K G c H ∧ EnR X.K G en σ ∧ i ≤ ds.length ∧ m = ds.length - i ∧ loopW chk tt wb D0 X0 (ds.drop i) en c, ⟨ds.length, G1, en, c1, Gr.refl, s1, er.mono g1.g, Nat.zero_le _, rfl, q1⟩, ?_⟩
  rintro i m σ2 H2 ⟨G2, en2, c2, g2, s2, er2, hi2, rfl, lw⟩
  by_cases hlt : i < ds.length
  · rw [List.drop_eq_getElem_cons hlt] at lw
    obtain ⟨hck, lw⟩ := lw
    have hd : ds[i]? = some ds[i] := List.getElem?_eq_getElem hlt
    obtain ⟨hgo, hy⟩ := (sv i G2 c2 H2 g2.g s2 hck).1 _ hd
    split at lw
    · rename_i en3 hb3
      refine .inr ⟨hgo, fun σ' H' => ∃ G en c, Gr G1 c1 H1 G c H' ∧ SR X.K G c H' ∧ EnR X.K G en σ' ∧ loopW chk tt wb D0 X0 (ds.drop (i + 1)) en c, ?_, ?_⟩
      · rintro σ' H' ⟨G, en, c, h1, h2, h3, h4⟩
        exact ⟨ds.length - (i + 1), by omega, G, en, c, h1, h2, h3, hlt, rfl, h4⟩
      · intro x H' y
        obtain ⟨G3, s3, g3, r3⟩ := hy x H' y
        refine gTg_ok (vs := slotsT tt) s3.sub tt _ x en2 en3 σ2 _ (fun _ h => h) (er2.mono g3.g) r3 hb3 fun σ3 er3 _ => ?_
        have gg := (g1.trans g2).trans g3
        refine ⟨G3, en3, c2, _, X0, s3, er3, lw, x0.more gg, ⟨?_, k.rt.more gg, ?_, ?_⟩⟩
        · exact fun en' c' σ' H' G' z g' s' e' => ⟨G', en', c', (g2.trans g3).trans g', s', e', z⟩
        · exact fun en' c' σ' H' G' z g' s' e' => k.nx en' c' σ' H' G' z (gg.trans g') s' e'
        · exact fun en' c' σ' H' G' z g' s' e' => ⟨G', en', c', (g2.trans g3).trans g', s', e', z⟩
    · exact lw.elim
  · have hi3 : i = ds.length := by omega
    subst hi3
    rw [List.drop_length] at lw
    obtain ⟨hck, lw⟩ := lw
    exact .inl ⟨(sv _ G2 c2 H2 g2.g s2 hck).2 (Nat.le_refl _), k.nx en2 c2 σ2 H2 G2 lw (g1.trans g2) s2 er2⟩
end
end VL
namespace VL
open PySem PySem.Spec PyProof.Rows L2
theorem Gr.beside {G1 c1 H1 G c H} {p : Addr} {o : HO} (h : H1 p = none) (g : Gr G1 c1 H1 G c H) : Gr G1 c1 H1 G c (upd H p o) :=
  ⟨g.g, fun a u e n => by rw [upd_ne (ne_of_none e h)]; exact g.keep a u e n, g.nc, g.ng⟩
theorem Gr.at_ {G c H G' c' H'} {p : Addr} {o : HO} (g : Gr G c H G' c' H') (h : H p = some o) (hc : c p = none) (hg : G p = none) : H' p = some o ∧ c' p = none ∧ G' p = none := by
  refine ⟨g.keep p o h hc, ?_, ?_⟩
  · cases e : c' p with
    | none => rfl
    | some x =>
      rcases g.nc p (by rw [e]; simp) with z | z
      · exact absurd hc z
      · rw [h] at z; cases z
  · cases e : G' p with
    | none => rfl
    | some x =>
      rcases g.ng p x e with z | z | z
      · rw [hg] at z; cases z
      · exact absurd hc z
      · rw [h] at z; cases z
theorem adoptG {K : PySem.W.Frag} {G1 c1 H1 G c H} {p : Addr} {vs : List V} (s : SR K G c H) (g : Gr G1 c1 H1 G c H) (h1 : H1 p = none) (h : H p = some (.lst vs)) (hc : c p = none) (hg : G p = none) :
    SR K (upd G p (.lst vs)) c H ∧ Gr G1 c1 H1 (upd G p (.lst vs)) c H := by
  refine ⟨⟨fun a u e => ?_, fun a z e => ?_⟩, ⟨g.g.trans (le_upd hg), g.keep, g.nc, fun a u e => ?_⟩⟩
  · by_cases q : a = p
    · subst q; rw [upd_same] at e; cases e; exact h
    · rw [upd_ne q] at e; exact s.sub _ _ e
  · have q : a ≠ p := fun z => by rw [z, hc] at e; cases e
    exact (s.at_ a z e).to (le_upd hg) (fun n => by rw [upd_ne q]; exact n) (fun _ => rfl)
  · by_cases q : a = p
    · subst q; exact .inr (.inr h1)
    · rw [upd_ne q] at e; exact g.ng _ _ e
theorem wipe_wipe (σ : L2.St) : ∀ vs : List Nat, wipe (wipe σ vs) vs = wipe σ vs := by
  have gen : ∀ (ws vs : List Nat), (∀ i ∈ ws, i ∈ vs) → wipe (wipe σ ws) vs = wipe σ vs := by
    intro ws
    induction ws with
    | nil => intro vs _; rfl
    | cons w ws ih =>
      intro vs h
      rw [wipe, wipe_set (h w List.mem_cons_self)]
      exact ih vs fun i hi => h i (List.mem_cons_of_mem _ hi)
  exact fun vs => gen vs vs fun _ h => h
/-- a comprehension's turns: what is left, what stands in the new list -/
def lcW (chk : Cs → Prop) (t : Tg) (wt : WT) (we : WE) (vs : List Nat) (en : En) (fin : List D → Cs → Prop) : List D → List D → Cs → Prop
  | [], acc, c => chk c ∧ fin acc c
  | d :: r, acc, c => chk c ∧ match bindT t d (ewipe en vs) with
    | some en' => wt en' c (fun b c1 => if b = true then we en' c1 (fun y c2 => lcW chk t wt we vs en fin r (acc ++ [y]) c2) noX else lcW chk t wt we vs en fin r acc c1) noX
    | none => False
def wLc (wi : WI) (t : Tg) (wt : WT) (we : WE) (vs : List Nat) : WE := fun en c Q X => wi en c (fun ds chk c1 => ds.length ≤ sizeLine ∧ lcW chk t wt we vs en (fun acc c' => Q (.lst acc) c') ds [] c1) X
def wLcL (wi : WI) (t : Tg) (wt : WT) (we : WE) (vs : List Nat) : WE := fun en c Q X => wi en c (fun ds chk c1 => ds.length ≤ sizeLine ∧ lcW chk t wt we vs en (fun acc c' => ∀ p, c' p = none → Q (.ptr p) (cup c' p (.lst acc))) ds [] c1) X
def wYes : WT := fun _ c Q _ => Q true c
abbrev W0 : WX := fun _ _ _ _ => False
abbrev JTs (X : Cx) (W : WX) (ifs : List Expr) (wt : WT) : Prop := PTs X ifs (rdT X.K X.mg W wt)
section
variable {X : Cx} {W : WX} {tg e a b elt iter : Expr} {es ifs : List Expr} {we wa wb : WE} {ws : WA} {x : Str} {p pos pos' tpos : Pos} {k : Nat} {wt : WT} {wi : WI} {t : Tg}
theorem PTs.of {es : List Expr} {t t' : TT} (h : PTs X es t) (k : ∀ σ H Q, t' σ H Q → t σ H Q) : PTs X es t' := ⟨fun pins s σ H Q I q => h.run pins s σ H Q I (k σ H Q q)⟩
theorem jts_nil : JTs X W [] wYes := PTs.of pts_nil fun σ H Q ⟨G, en, c, Q0, X0, s, er, q, x0, kk⟩ => kk true c H G q Gr.refl s
theorem XOk.none0 {K mg G c H} : XOk K mg W0 noX G c H := fun _ _ _ _ _ _ _ _ _ z => z.elim
theorem lc_ok {vs : List Nat} (hv : ∀ i ∈ slotsT t, i ∈ vs) {σ : L2.St} {H1 : Hp} {G1 : Hp} {c1 : Cs} {en : En} {ds : List D} {chk : Cs → Prop} {J : It} {fin : List D → Cs → Prop} {Q : VK} (s1 : SR X.K G1 c1 H1) (er : EnR X.K G1 en σ) (sv : Srv X.K G1 J ds chk)
    (hz : ds.length ≤ sizeLine) (q : lcW chk t wt we vs en fin ds [] c1) {D0 : Addr} (hD : H1 D0 = none)
    (hf : ∀ G c acc vacc H, Gr G1 c1 H1 G c H → SR X.K G c H → H D0 = some (.lst vacc) → c D0 = none → G D0 = none → Reps X.K G acc vacc → fin acc c → Q (.ref D0) H) :
    ∃ Wv : Nat → Nat → Hp → Prop, (∃ m, Wv 0 m (upd H1 D0 (.lst []))) ∧ ∀ i m H, Wv i m H → (J.stop i H ∧ Q (.ref D0) H) ∨ (J.go i H ∧ ∃ Nx : Hp → Prop, (∀ H', Nx H' → ∃ m', m' < m ∧ Wv (i + 1) m' H') ∧
      ∀ x H', J.yld i H x H' → gTg X.K t x (wipe σ vs) H' fun σ2 H2 => wipe σ2 vs = wipe σ vs ∧ rdT X.K X.mg W0 wt σ2 H2 fun b H3 =>
        if b = true then rdE X.K X.mg W0 we σ2 H3 fun y H4 => ∃ acc, H4 D0 = some (.lst acc) ∧ acc.length < sizeLine ∧ Nx (upd H4 D0 (.lst (acc ++ [y]))) else Nx H3) := by
  obtain ⟨hc0, hg0⟩ := s1.free hD
  refine ⟨fun i m H => ∃ G c acc vacc, Gr G1 c1 H1 G c H ∧ SR X.K G c H ∧ H D0 = some (.lst vacc) ∧ c D0 = none ∧ G D0 = none ∧ Reps X.K G acc vacc ∧ acc.length ≤ i ∧ i ≤ ds.length ∧ m = ds.length - i ∧ lcW chk t wt we vs en fin (ds.drop i) acc c,
    ⟨ds.length, G1, c1, [], [], Gr.refl.beside hD, s1.other hc0 hg0, upd_same, hc0, hg0, rfl, Nat.le_refl _, Nat.zero_le _, rfl, q⟩, ?_⟩
  rintro i m H ⟨G, c, acc, vacc, g, s, h1, h2, h3, h4, h5, h6, rfl, lw⟩
  by_cases hlt : i < ds.length
  · rw [List.drop_eq_getElem_cons hlt] at lw
    obtain ⟨hck, lw⟩ := lw
    have hd : ds[i]? = some ds[i] := List.getElem?_eq_getElem hlt
    obtain ⟨hgo, hy⟩ := (sv i G c H g.g s hck).1 _ hd
    split at lw
    · rename_i en3 hb3
      refine .inr ⟨hgo, fun H' => ∃ G c acc vacc, Gr G1 c1 H1 G c H' ∧ SR X.K G c H' ∧ H' D0 = some (.lst vacc) ∧ c D0 = none ∧ G D0 = none ∧ Reps X.K G acc vacc ∧ acc.length ≤ i + 1 ∧ lcW chk t wt we vs en fin (ds.drop (i + 1)) acc c, ?_, ?_⟩
      · rintro H' ⟨G, c, acc, vacc, z1, z2, z3, z4, z5, z6, z7, z8⟩
        exact ⟨ds.length - (i + 1), by omega, G, c, acc, vacc, z1, z2, z3, z4, z5, z6, z7, hlt, rfl, z8⟩
      · intro x H' y
        obtain ⟨G3, s3, g3, r3⟩ := hy x H' y
        have er3 := (er.mono (g.g.trans g3.g)).wipe vs
        refine gTg_ok (vs := vs) s3.sub t _ x _ en3 (wipe σ vs) _ hv er3 r3 hb3 fun σ3 er4 hw => ⟨?_, ?_⟩
        · rw [hw]
          exact wipe_wipe σ vs
        · refine ⟨G3, en3, c, _, noX, s3, er4, lw, XOk.none0, fun bb c4 H4 G4 q4 g4 s4 => ?_⟩
          have ga := g3.trans g4
          obtain ⟨k1, k2, k3⟩ := ga.at_ h1 h2 h3
          cases bb with
          | false =>
            refine iteF ⟨G4, c4, acc, vacc, g.trans ga, s4, k1, k2, k3, Reps.mono ga.g _ _ h4, by omega, by simpa using q4⟩
          | true =>
            refine iteT ⟨G4, en3, c4, _, noX, s4, er4.mono g4.g, by simpa using q4, XOk.none0, fun d c5 v H5 G5 q5 g5 s5 r5 => ?_⟩
            obtain ⟨k4, k5, k6⟩ := g5.at_ k1 k2 k3
            have gb := ga.trans g5
            refine ⟨vacc, k4, by rw [← h4.length]; omega, G5, c5, acc ++ [d], vacc ++ [v], ((g.trans gb).beside hD), s5.other k5 k6, upd_same, k5, k6, Reps.app (Reps.mono gb.g _ _ h4) (Reps.one r5), by simp; omega, q5⟩
    · exact lw.elim
  · have hi3 : i = ds.length := by omega
    subst hi3
    rw [List.drop_length] at lw
    obtain ⟨hck, lw⟩ := lw
    exact .inl ⟨(sv _ G c H g.g s hck).2 (Nat.le_refl _), hf G c acc vacc H g s h1 h2 h3 h4 lw⟩
end
end VL
namespace VL
open PySem PySem.Spec PyProof.Rows L2
section
variable {X : Cx} {W : WX} {tg e a b elt iter : Expr} {es ifs : List Expr} {we wa wb : WE} {ws : WA} {x : Str} {p pos pos' tpos : Pos} {k : Nat} {wt : WT} {wi : WI} {t : Tg}
theorem tLc_of {vs : List Nat} (hv : ∀ i ∈ slotsT t, i ∈ vs) {σ : L2.St} {H : Hp} {Q : VK} (h : rdE X.K X.mg W (wLc wi t wt we vs) σ H Q) :
    tLc (rdI X.K X.mg W wi) (gTg X.K t) (rdT X.K X.mg W0 wt) (rdE X.K X.mg W0 we) vs σ H Q := by
  obtain ⟨G, en, c, Q0, X0, s, er, q, x0, kk⟩ := h
  refine ⟨G, en, c, _, X0, s, er, q, x0, fun ds chk c1 J H1 G1 ⟨hz, q1⟩ g1 s1 sv D0 hD => ?_⟩
  refine lc_ok hv s1 (er.mono g1.g) sv hz q1 hD fun G2 c2 acc vacc H2 g2 s2 h1 h2 h3 h4 q2 => ?_
  obtain ⟨s3, g3⟩ := adoptG s2 g2 hD h1 h2 h3
  exact kk _ c2 _ H2 _ q2 (g1.trans g3) s3 ⟨D0, vacc, rfl, upd_same, Reps.mono (le_upd h3) _ _ h4⟩
variable {scope : Scope} {own : List (Str × Nat)}
theorem je_lc (hc : X.calm = true) (hN : X.N.Nodup) (hi : JI X W tg iter wi) (ok : BlkOk X.N X.env.scope scope own)
    (hg : ∀ (s : Shared) (H : Hp) (C : Addr) (cl : List (Str × Addr)) (fp : List Addr), JTg (X.blk s H scope (compEnvC scope cl C X.env) fp) tg t) (ht : ∀ (s : Shared) (H : Hp) (C : Addr) (cl : List (Str × Addr)) (fp : List Addr), JTs (X.blk s H scope (compEnvC scope cl C X.env) fp) W0 ifs wt)
    (he : ∀ (s : Shared) (H : Hp) (C : Addr) (cl : List (Str × Addr)) (fp : List Addr), JE (X.blk s H scope (compEnvC scope cl C X.env) fp) W0 elt we) (hv : ∀ i ∈ slotsT t, i ∈ own.map (·.2) := by decide) (hs : ∀ x, foldedSetIterable iter X.env x = pure x := by intro _; rfl) :
    JE X W (.ListComp elt [⟨tg, iter, ifs, 0⟩] scope pos) (wLc wi t wt we (own.map (·.2))) := PE.of (pe_lc hc hN hi ok hg ht he hs) fun σ H Q h => tLc_of hv h
/-- list(range(..)) -/
def wLRg (wa : WE) : WE := fun en c Q X => wa en c (fun d c1 => match d with
  | .int j => -(2 ^ 62) ≤ j ∧ j ≤ 16777216 ∧ Q (.lst (rgD 0 j)) c1
  | _ => False) X
end
end VL
namespace VL
open PySem PySem.Spec PyProof.Rows L2
theorem noCX {P : Program} {w : World} {l : List PySem.Env} {H : Hp} {s s' : Shared} {e : Value} (h : L2.CX P w l H s (fun _ _ _ => False) e s') : False := by
  obtain ⟨_, _, _, _, _, _, _, _, _, _, _, _, z⟩ := h
  exact z
/-- the law is called at the script: what the heap behind the top gives -/
theorem law_runs {P : Program} {w : World} {K : PySem.W.Frag} {mg mb : Str → Option Value} {k : Nat} {fa a : Addr} {fd : FuncData} {x : Str} {ct : Ctr} {s1 : Shared} {vs : List Value} {ns : List Int}
    (kin : K.In s1.heap) (hmg : s1.heap.Ns mainGlobals mg) (hmb : s1.heap.Ns builtinsNs mb) (hbb : ∀ y : Str, y ≠ "__name__" → mb y = bootBuiltins y) (lim : s1.heap.NoLimit) (gens : s1.gens = #[])
    (ha : s1.heap.get? a = some { cls := .type "list", data := .seq vs.toArray }) (hin : IntsAre vs ns) (hz : ns.length ≤ sizeLine) (room : Room k callerA)
    (F : ∀ base : Heap, K.In base → base.Ns mainGlobals mg → FnG P w K mg base k fa fd [x] (spD K mg 1 ct)) (bd : ∀ (s : Shared) (u : Value), BindsTo s fd ⟨[u], []⟩ [(x, u)])
    (hct : ct [.scr ns] (fun _ => none) (fun d _ => d = .bl true) (fun _ _ _ => False)) :
    codeAny (model P w) callerA (.call (.ref fa) ⟨[.ref a], []⟩) (fun r s' => r = .ok (.ret (.bool true)) ∧ OldK s1.heap s'.heap ∧ s'.os = s1.os ∧ AllBare s'.gens) s1 := by
  have rv : Vals (ns.map V.int) vs := vals_of_ints hin
  have len : ns.length = vs.length := hin.length.symm
  let ob : Obj := { cls := .type "list", data := .seq vs.toArray }
  -- what is tracked at the entry: the script alone, or nothing where it is an object of the written part
  have go : ∀ H : Hp, (∀ b u, H b = some u → b = a ∧ u = .frz ob (.lst (ns.map V.int))) → SqL K H a (ns.map V.int) → (H a ≠ none → K.lookup a = none) →
      codeAny (model P w) callerA (.call (.ref fa) ⟨[.ref a], []⟩) (fun r s' => r = .ok (.ret (.bool true)) ∧ OldK s1.heap s'.heap ∧ s'.os = s1.os ∧ AllBare s'.gens) s1 := by
    intro H only sq notK
    have ok : HOk P w H s1.heap := fun b u e => by
      obtain ⟨rfl, rfl⟩ := only b u e
      exact ⟨ha, by rw [List.length_map]; exact hz, vs, _, rv, ha⟩
    have stays : ∀ {b : Addr} {o : Obj}, s1.heap.get? b = some o → b ≠ a → (hidT s1.heap H).get? b = some o := fun {b o} e ne => hidT_get e (by
      cases q : H b with
      | none => rfl
      | some u => exact absurd (only b u q).1 ne)
    have ns_of : ∀ {b : Addr} {m : Str → Option Value}, s1.heap.Ns b m → (hidT s1.heap H).Ns b m := fun {b m} ⟨o, es, ep, e, hd, r⟩ => ⟨o, es, ep, stays e (fun z => by
      rw [z, ha] at e
      cases e
      cases hd), hd, r⟩
    have kin' : K.In (hidT s1.heap H) := fun b o e => by
      have e1 := kin b o e
      refine hidT_get e1 ?_
      cases q : H b with
      | none => rfl
      | some u =>
        obtain ⟨rfl, _⟩ := only b u q
        rw [notK (by rw [q]; simp)] at e
        cases e
    have md : Mod K mg (hidT s1.heap H) := ⟨kin', ns_of hmg, ⟨mb, ns_of hmb, hbb⟩, by obtain ⟨m, h1, h2⟩ := lim; exact ⟨m, ns_of h1, h2⟩⟩
    have e0 : Env0 P w K mg (hidT s1.heap H) callerA [] s1 H := ⟨rfl, md, fun b o e => of_hidT e, Nat.le_of_eq (hidT_size _ _), trivial, fun b hb => by exact absurd (show b ∈ ([] : List Addr) from hb) (by simp), ok, .of_eq gens⟩
    have want : spD K mg 1 ct [.ref a] H (fun v _ => v = .bl true) (fun _ _ _ => False) := by
      refine ⟨H, [.scr ns], fun _ => none, _, _, ⟨Le.refl _, fun b y e => by cases e⟩, ⟨_, _, rfl, ⟨a, rfl, sq⟩, rfl⟩, rfl, hct, ?_, ?_⟩
      · rintro d c' v H' G' rfl _ _ r
        exact r
      · rintro m d c' cls dx H' G' z
        exact z.elim
    refine codeAny_mono ((F _ kin' (ns_of hmg)).run callerA [] s1 H ⟨[.ref a], []⟩ [.ref a] [.ref a] _ _ room rfl e0 (bd s1 (.ref a)) (.cons rfl .nil) want) ?_
    rintro (e | fl) s' z
    · exact (noCX z).elim
    · cases fl <;> first
        | exact False.elim z
        | skip
      obtain ⟨v, H', os, bare, un, ok', r, q⟩ := z
      have q : v = .bl true := q
      subst q
      have r : _ = Value.bool true := r
      subst r
      refine ⟨rfl, OldK.of_keep fun b o e => ?_, os, bare⟩
      cases q : H b with
      | none => exact un.keep b o e q (fun z => by cases z) (fun z => by cases z)
      | some u =>
        obtain ⟨rfl, rfl⟩ := only b u q
        have k1 : s1.heap.get? b = some ob := (ok b _ q).1
        have k2 : s'.heap.get? b = some ob := (ok' b _ (un.frzs b ob _ q)).1
        rw [k1] at e
        cases e
        exact k2
  cases hk : K.lookup a with
  | some o =>
    have e := kin a o hk
    rw [ha] at e
    cases e
    exact go (fun _ => none) (fun b u z => by cases z) (.inr ⟨_, vs.toArray, _, hk, rfl, rfl, rfl, by rw [List.size_toArray, ← len]; exact hz, rv⟩) (fun z => absurd rfl z)
  | none =>
    refine go (fun b => if b = a then some (.frz ob (.lst (ns.map V.int))) else none) (fun b u z => ?_) (.inl (.inr ⟨ob, if_pos rfl⟩)) (fun _ => hk)
    by_cases hb : b = a
    · rw [if_pos hb] at z; cases z; exact ⟨hb, rfl⟩
    · rw [if_neg hb] at z; cases z
theorem walk_ofG {l : PySem.W.OpenLaw} {n k : Nat} {q : Program} {loose : List Str} {XP : (Str → Option Value) → Heap → Prop} {YP : World → Heap → Prop} {d : DefRec} {K : Params → PySem.W.Frag} {ct : Ctr} {x : Str}
    (hn : l.most = some n) (hn2 : n ≤ sizeLine) (hdf : d.params.defaults = []) (hr : Room k callerA) (hY : ∀ (w : World) (h : Heap), YP w h → (K w.params).In h)
    (F : ∀ (w : World) (mg : Str → Option Value) (fa : Addr) (h : Heap), (K w.params).In h → h.Ns mainGlobals mg → mg d.name = some (.ref fa) →
      ∃ fd : FuncData, (∀ (s : Shared) (u : Value), BindsTo s fd ⟨[u], []⟩ [(x, u)]) ∧ ∀ base : Heap, (K w.params).In base → base.Ns mainGlobals mg → FnG l.prog w (K w.params) mg base k fa fd [x] (spD (K w.params) mg 1 ct))
    (hct : ∀ ns : List Int, ns.length ≤ n → ct [.scr ns] (fun _ => none) (fun d _ => d = .bl true) (fun _ _ _ => False)) :
    PySem.W.WalkO q loose XP YP l.row.toRowW d [] (fun f vs => PySem.call f vs) := by
  refine Att.attach_call hn hdf ?_
  intro w s0 s1 mg mb fa o pm cd doc a vs ns G Y ho hd hcd hmg hobj hints hlen hg
  obtain ⟨fd, hb, hF⟩ := F w mg fa _ (hY w _ Y) G.T.g hmg
  exact law_runs (hY w _ Y) G.T.g G.T.b G.T.builtins G.T.nolimit hg hobj hints (Nat.le_trans hlen hn2) hr hF hb (hct ns hlen)
end VL
namespace VL
open PySem PySem.Spec PyProof.Rows L2
/-- the def st stands behind the top as x -/
def DefAt (K : PySem.W.Frag) (mg : Str → Option Value) (x : Str) (st : Stmt) (ps : List Str) : Prop :=
  ∃ f fd, mg x = some (.ref f) ∧ Fun K x x st f fd ∧ Binds K fd ps []
theorem def_mk {K : PySem.W.Frag} {mg : Str → Option Value} {h : Heap} {x : Str} {st : Stmt} {ps : List Str} {f : Addr} {oc : Value} {od an : Option Addr} {osl : Array (Option Value)} {kV doc pm cdv ct : Value} (X : K.In h) (G : h.Ns mainGlobals mg)
    (a : PySem.W.nsIn K mainGlobals x = some (some (.ref f))) (l : K.lookup f = some ⟨oc, od, .func (PySem.W.fnOf x x (defArgs st) (defBody st) (defScope st) .none kV doc pm an cdv ct), osl⟩) (c : PySem.W.codeIn K cdv x = true) (k : PySem.W.keepIn K (.ref f) = true)
    (hb : ∀ (kV doc pm : Value) (an : Option Addr) (cdv ct : Value) (us : List Value), us.length = ps.length → bindArgs (PySem.W.fnOf x x (defArgs st) (defBody st) (defScope st) .none kV doc pm an cdv ct) ⟨us, []⟩ = pure (ps.zip us)) : DefAt K mg x st ps := by
  have F := fun_mk (st := st) l c k
  exact ⟨f, _, PySem.W.mg_of X G a, F, F.binds hb⟩
section
variable {P : Program} {w : World} {K : PySem.W.Frag} {mg : Str → Option Value} {base : Heap}
theorem cal_zero {x : Str} {st : Stmt} {ps : List Str} {n : Nat} {ct : Nat → Ctr} (h : DefAt K mg x st ps) (hn : ps.length = n := by rfl) : Cal P w K mg base 0 x n ct := by
  obtain ⟨f, fd, h1, F, hb⟩ := h
  refine ⟨f, fd, ps, h1, F.kp, hb, hn, ?_, ?_⟩
  · rintro vs H Q E ⟨_, _, _, _, _, _, _, _, z, _⟩
    exact z.elim
  · rintro A outer s H args us vs Q E _ _ _ _ _ ⟨_, _, _, _, _, _, _, _, z, _⟩
    exact z.elim
theorem cal_succ {x : Str} {st : Stmt} {N ps : List Str} {n k : Nat} {ct : Nat → Ctr} {wb : WS} (h : DefAt K mg x st ps) (S : FnScope N ps (defScope st))
    (hb : ∀ (f : Addr) (cdv : Value) (A : Around) (outer : List PySem.Env) (s : Shared) (H : Hp) (E : XK), Room k (A.deeper (envOfC x (defScope st) s.heap.objs.size f cdv)) → A.guards = some [] →
      JSs (cxOf (L2.CX P w) P w K mg base N x (defScope st) f cdv A outer s H E) (WXE E) (defBody st) wb)
    (hp : ∀ ds c Q X0, ds.length = n → ct k ds c Q X0 → wb (endOf Q) (excOf X0) (enOf N.length ds) c) (hn : ps.length = n := by rfl) : Cal P w K mg base (k + 1) x n ct := by
  obtain ⟨f, fd, h1, F, hb'⟩ := h
  subst hn
  exact ⟨f, fd, ps, h1, F.kp, hb', rfl, fnG_of F S (hb f) hp⟩
end
/-- the law's own def, for the end -/
theorem law_mk {P : Program} {w : World} {K : PySem.W.Frag} {mg : Str → Option Value} {x y : Str} {st : Stmt} {fa : Addr} {N : List Str} {k : Nat} {ct : Nat → Ctr} {wb : WS} (h : DefAt K mg x st [y]) (hfa : mg x = some (.ref fa)) (S : FnScope N [y] (defScope st))
    (hbd : ∀ (kV doc pm : Value) (an : Option Addr) (cdv cv u : Value), bindArgs (PySem.W.fnOf x x (defArgs st) (defBody st) (defScope st) .none kV doc pm an cdv cv) ⟨[u], []⟩ = pure [(y, u)])
    (hb : ∀ base : Heap, K.In base → base.Ns mainGlobals mg → ∀ (f : Addr) (cdv : Value) (A : Around) (outer : List PySem.Env) (s : Shared) (H : Hp) (E : XK), Room k (A.deeper (envOfC x (defScope st) s.heap.objs.size f cdv)) → A.guards = some [] →
      JSs (cxOf (L2.CX P w) P w K mg base N x (defScope st) f cdv A outer s H E) (WXE E) (defBody st) wb)
    (hp : ∀ ds c Q X0, ds.length = 1 → ct k ds c Q X0 → wb (endOf Q) (excOf X0) (enOf N.length ds) c) :
    ∃ fd : FuncData, (∀ (s : Shared) (u : Value), BindsTo s fd ⟨[u], []⟩ [(y, u)]) ∧ ∀ base : Heap, K.In base → base.Ns mainGlobals mg → FnG P w K mg base (k + 1) fa fd [y] (spD K mg 1 (ct k)) := by
  obtain ⟨f, fd, h1, F, _⟩ := h
  rw [h1] at hfa
  cases hfa
  refine ⟨fd, ?_, fun base h2 h3 => fnG_of (ps := [y]) F S (hb base h2 h3 fa) hp⟩
  obtain ⟨oc, od, kV, doc, pm, an, cdv, cv, osl, rfl, _, _⟩ := F.ex
  exact fun s u => .of_eq (hbd kV doc pm an cdv cv u)
end VL
namespace VL
open PySem PySem.Spec PyProof.Rows L2
def Cell.items : Cell → Option (List D)
  | .lst l => some l
  | .fz l => some l
  | .dic _ => none
  | .dit _ => none
  | .obj _ _ => none
  | .exc _ _ _ => none
  | .tab _ => none
  | .fn _ _ => none
theorem it_lst {l : List D} : Cell.items (.lst l) = some l := rfl
theorem it_fz {l : List D} : Cell.items (.fz l) = some l := rfl
theorem lst_ptr {c : Cs} {p : Addr} : lstOf c (.ptr p) = (c p).bind Cell.items := by
  show (match c p with | some (.lst l) => some l | some (.fz l) => some l | _ => none) = _
  cases c p with
  | none => rfl
  | some x => cases x <;> rfl
section
variable {c : Cs} {Q : DK} {i j : Int} {l m : List D} {x y d : D} {p : Addr} {ns : List Int} {b b' : Bool} {s t : Str}
theorem e_sub : oSub (.int i) (.int j) c Q = Q (.int (i - j)) c := propext ⟨fun h => h.2, fun h => ⟨trivial, h⟩⟩
theorem e_fdiv : oFdiv (.int i) (.int j) c Q = ((0 < j ∧ j.natAbs.log2 < 9000) ∧ Q (.int (i / j)) c) := rfl
theorem e_mod : oMod (.int i) (.int j) c Q = (0 < j ∧ Q (.int (i % j)) c) := rfl
theorem e_pow : oPow (.int i) (.int j) c Q = ((0 ≤ j ∧ j ≤ 1000000 ∧ -18446744073709551616 < i ∧ i < 18446744073709551616) ∧ Q (.int (i ^ j.toNat)) c) :=
  propext ⟨fun h => ⟨⟨h.1.1, h.1.2.1, by have := h.1.2.2; omega, by have := h.1.2.2; omega⟩, h.2⟩, fun h => ⟨⟨h.1.1, h.1.2.1, by have := h.1.2.2; omega⟩, h.2⟩⟩
theorem e_lt : oLt (.int i) (.int j) c Q = Q (.bl (decide (i < j))) c := propext ⟨fun h => h.2, fun h => ⟨trivial, h⟩⟩
theorem e_le : oLe (.int i) (.int j) c Q = Q (.bl (decide (i ≤ j))) c := propext ⟨fun h => h.2, fun h => ⟨trivial, h⟩⟩
theorem e_gt : oGt (.int i) (.int j) c Q = Q (.bl (decide (j < i))) c := propext ⟨fun h => h.2, fun h => ⟨trivial, h⟩⟩
theorem e_ge : oGe (.int i) (.int j) c Q = Q (.bl (decide (j ≤ i))) c := propext ⟨fun h => h.2, fun h => ⟨trivial, h⟩⟩
theorem e_neg : oNeg (.int i) c Q = Q (.int (-i)) c := rfl
theorem e_add : oAdd (.int i) (.int j) c Q = Q (.int (i + j)) c := rfl
theorem e_addS : oAdd (.str s) (.str t) c Q = (s.length + t.length ≤ sizeLine ∧ Q (.str (s ++ t)) c) := rfl
theorem e_addT : oAdd (.tup l) (.tup m) c Q = (l.length + m.length ≤ sizeLine ∧ Q (.tup (l ++ m)) c) := rfl
theorem e_addL : oAdd (.lst l) (.lst m) c Q = (l.length + m.length ≤ sizeLine ∧ Q (.lst (l ++ m)) c) := rfl
theorem e_mul : oMul (.int i) (.int j) c Q = (MulOk i j ∧ Q (.int (i * j)) c) := rfl
theorem e_mulL : oMul (.lst l) (.int i) c Q = (-(2 ^ 63) ≤ i ∧ i < 2 ^ 63 ∧ l.length * i.toNat ≤ sizeLine ∧ Q (.lst (List.replicate i.toNat l).flatten) c) := rfl
theorem e_augI {C : Int → Int → Prop} {g : Int → Int → D} : oII C g (.int i) (.int j) c Q = (C i j ∧ Q (g i j) c) := rfl
theorem e_ixT : oIx (.tup l) (.int i) c Q = (∃ d, atI l i = some d ∧ Q d c) := rfl
theorem e_ixL : oIx (.lst l) (.int i) c Q = (∃ d, atI l i = some d ∧ Q d c) := rfl
theorem e_ixN : oIx (.scr ns) (.int i) c Q = (∃ d, atI (ns.map D.int) i = some d ∧ Q d c) := rfl
theorem e_ixP : oIx (.ptr p) (.int i) c Q = (∃ l, (c p).bind Cell.items = some l ∧ ∃ d, atI l i = some d ∧ Q d c) := by
  show (match lstOf c (.ptr p) with | some l => (∃ d, atI l i = some d ∧ Q d c) | none => False) = _
  rw [lst_ptr]
  cases (c p).bind Cell.items with
  | none => simp
  | some l => simp
theorem e_lenT : oLen [.tup l] c Q = Q (.int l.length) c := rfl
theorem e_lenL : oLen [.lst l] c Q = Q (.int l.length) c := rfl
theorem e_lenN : oLen [.scr ns] c Q = Q (.int ns.length) c := by show Q (.int ((ns.map D.int).length : Nat)) c = _; rw [List.length_map]
theorem e_lenS : oLen [.str s] c Q = (s.length ≤ sizeLine ∧ Q (.int s.length) c) := rfl
theorem e_lenP : oLen [.ptr p] c Q = (∃ l, (c p).bind Cell.items = some l ∧ Q (.int l.length) c) := by
  show (match lstOf c (.ptr p) with | some l => Q (.int (l.length : Nat)) c | none => False) = _
  rw [lst_ptr]
  cases (c p).bind Cell.items with
  | none => simp
  | some l => simp
theorem e_abs : oAbs [.int i] c Q = Q (.int (if i < 0 then -i else i)) c := rfl
theorem e_intI : oInt [.int i] c Q = Q (.int i) c := rfl
theorem e_intB : oInt [.bl b] c Q = Q (.int (if b then 1 else 0)) c := rfl
theorem e_max : oMax [.int i, .int j] c Q = Q (.int (if j > i then j else i)) c := rfl
theorem e_min : oMin [.int i, .int j] c Q = Q (.int (if j < i then j else i)) c := rfl
theorem e_all {bs : List Bool} : oAll [.lst (bs.map .bl)] c Q = Q (.bl (bs.all (fun b => b))) c := by
  refine propext ⟨fun ⟨as, h, q⟩ => ?_, fun h => ⟨bs, rfl, h⟩⟩
  have e : bs.map D.bl = as.map D.bl := by simpa [lstOf] using h
  have : bs = as := by
    have f : Function.Injective D.bl := fun a b h => by cases h; rfl
    exact (List.map_inj_right (fun _ _ h => f h)).mp e
  rw [this]; exact q
theorem e_tupL : oTuple [.lst l] c Q = Q (.tup l) c := rfl
theorem e_tupT : oTuple [.tup l] c Q = Q (.tup l) c := rfl
theorem e_listL : oList [.lst l] c Q = Q (.lst l) c := rfl
theorem e_listT : oList [.tup l] c Q = Q (.lst l) c := rfl
theorem e_listN : oList [.scr ns] c Q = Q (.lst (ns.map .int)) c := rfl
theorem e_listLL : oListL [.lst l] c Q = (∀ p, c p = none → Q (.ptr p) (cup c p (.lst l))) := rfl
theorem e_listLT : oListL [.tup l] c Q = (∀ p, c p = none → Q (.ptr p) (cup c p (.lst l))) := rfl
theorem e_divmod : oDivmod [.int i, .int j] c Q = (0 < j ∧ j.natAbs.log2 < 9000 ∧ Q (.tup [.int (i / j), .int (i % j)]) c) := rfl
theorem e_isNon : oIs x .non c Q = Q (.bl (isNon x)) c := rfl
theorem e_isntNon : oIsNot x .non c Q = Q (.bl (!isNon x)) c := rfl
theorem e_isB {a b : Bool} {c : Cs} {Q : DK} : oIs (.bl a) (.bl b) c Q = Q (.bl (decide (a = b))) c := rfl
theorem e_isntB {a b : Bool} {c : Cs} {Q : DK} : oIsNot (.bl a) (.bl b) c Q = Q (.bl (!decide (a = b))) c := rfl
theorem e_tyT {ss : List String} (h : ∀ n ∈ ss, n ∈ clsNs) (h1 : tyN c x ∈ tyNs) : oIsi [x, .tup (ss.map .ty)] c Q = Q (.bl (ss.any (isTy (tyN c x)))) c := by
  refine propext ⟨fun ⟨_, ns, e, _, q⟩ => ?_, fun q => ⟨h1, ss, rfl, h, q⟩⟩
  have : ss = ns := (List.map_inj_right (fun _ _ h => by cases h; rfl)).mp e
  rw [this]; exact q
/-- isinstance with a pair of classes, with one -/
theorem e_tyLT : oIsi [x, .tup [.ty "list", .ty "tuple"]] c Q = (tyN c x ∈ tyNs ∧ Q (.bl (isTy (tyN c x) "list" || isTy (tyN c x) "tuple")) c) := by
  refine propext ⟨fun h => ⟨h.1, ?_⟩, fun ⟨h1, q⟩ => ?_⟩
  · have := (e_tyT (c := c) (Q := Q) (x := x) (ss := ["list", "tuple"]) (by decide) h.1).mp h
    simpa using this
  · refine (e_tyT (c := c) (Q := Q) (x := x) (ss := ["list", "tuple"]) (by decide) h1).mpr ?_
    simpa using q
theorem e_ty1 {n : String} : oIsi [x, .ty n] c Q = (tyN c x ∈ tyNs ∧ n ∈ clsNs ∧ Q (.bl (isTy (tyN c x) n)) c) := rfl
theorem tyN_non : tyN c .non = "NoneType" := rfl
theorem tyN_bl : tyN c (.bl b) = "bool" := rfl
theorem tyN_int : tyN c (.int i) = "int" := rfl
theorem tyN_str : tyN c (.str s) = "str" := rfl
theorem tyN_tup : tyN c (.tup l) = "tuple" := rfl
theorem tyN_lst : tyN c (.lst l) = "list" := rfl
theorem at0 {α : Type} {a : α} {l : List α} : atI (a :: l) 0 = some a := by
  unfold atI ixN
  rw [if_pos (by omega), if_pos (by simp)]
  rfl
theorem atI_nat {α : Type} {l : List α} {n : Nat} : atI l (n : Int) = l[n]? := by
  unfold atI ixN
  rw [if_pos (by omega)]
  by_cases h : n < l.length
  · rw [if_pos (by omega)]
    show l[((n : Int)).toNat]? = _
    rw [Int.toNat_natCast]
  · rw [if_neg (by omega), List.getElem?_eq_none (by omega)]
    rfl
theorem at1 {α : Type} {a b : α} {l : List α} : atI (a :: b :: l) 1 = some b := atI_nat (n := 1)
theorem at2 {α : Type} {a b z : α} {l : List α} : atI (a :: b :: z :: l) 2 = some z := atI_nat (n := 2)
theorem at3 {α : Type} {a b z u : α} {l : List α} : atI (a :: b :: z :: u :: l) 3 = some u := atI_nat (n := 3)
theorem atI_of {α : Type} {l : List α} {i : Int} (h : 0 ≤ i) : atI l i = l[i.toNat]? := by
  have := atI_nat (l := l) (n := i.toNat)
  rwa [Int.toNat_of_nonneg h] at this
theorem ixN_of {n : Nat} {i : Int} (h : 0 ≤ i) (h' : i < n) : ixN n i = some i.toNat := by
  unfold ixN
  rw [if_pos h, if_pos h']
theorem e_live : liveOf c (.ptr p) = (match c p with | some (.lst l) => some (p, l) | _ => none) := rfl
theorem live_iff {q : Addr} {l : List D} : liveOf c (.ptr p) = some (q, l) ↔ q = p ∧ c p = some (.lst l) := by
  rw [e_live]
  constructor
  · intro h
    cases e : c p with
    | none => rw [e] at h; cases h
    | some z => cases z <;> rw [e] at h <;> cases h; exact ⟨rfl, rfl⟩
  · rintro ⟨rfl, h⟩
    rw [h]
theorem e_setIx {Q : Cs → Prop} : oSetIx (.ptr p) (.int i) d c Q = (∃ l, c p = some (.lst l) ∧ ∃ j, ixN l.length i = some j ∧ Q (cup c p (.lst (l.set j d)))) :=
  propext ⟨fun ⟨q, l, j, h, h2, h3⟩ => by obtain ⟨rfl, h⟩ := live_iff.mp h; exact ⟨l, h, j, h2, h3⟩, fun ⟨l, h, j, h2⟩ => ⟨p, l, j, live_iff.mpr ⟨rfl, h⟩, h2⟩⟩
theorem e_insert : oInsert (.ptr p) [.int i, d] c Q = (∃ l, c p = some (.lst l) ∧ l.length < sizeLine ∧ 0 ≤ i ∧ i < 2 ^ 63 ∧ Q .non (cup c p (.lst (l.take i.toNat ++ [d] ++ l.drop i.toNat)))) :=
  propext ⟨fun ⟨q, l, h, h2⟩ => by obtain ⟨rfl, h⟩ := live_iff.mp h; exact ⟨l, h, h2⟩, fun ⟨l, h, h2⟩ => ⟨p, l, live_iff.mpr ⟨rfl, h⟩, h2⟩⟩
theorem e_append : oAppend (.ptr p) [d] c Q = (∃ l, c p = some (.lst l) ∧ l.length < sizeLine ∧ Q .non (cup c p (.lst (l ++ [d])))) :=
  propext ⟨fun ⟨q, l, h, h2⟩ => by obtain ⟨rfl, h⟩ := live_iff.mp h; exact ⟨l, h, h2⟩, fun ⟨l, h, h2⟩ => ⟨p, l, live_iff.mpr ⟨rfl, h⟩, h2⟩⟩
theorem e_isL : isLst c (.ptr p) = (((c p).bind Cell.items).isSome = true) := by unfold isLst; rw [lst_ptr]
theorem e_isLL : isLst c (.lst l) = True := propext ⟨fun _ => trivial, fun _ => rfl⟩
theorem e_seqP : seqOf c (.ptr p) = (c p).bind Cell.items := lst_ptr
theorem e_seqL : seqOf c (.lst l) = some l := rfl
theorem e_seqT : seqOf c (.tup l) = some l := rfl
theorem e_seqN : seqOf c (.scr ns) = some (ns.map .int) := rfl
theorem ix30 : ixN 3 0 = some 0 := rfl
theorem ix32 : ixN 3 2 = some 2 := rfl
end
theorem wVar_z {d : D} {en : En} {c : Cs} {Q : DK} {X : XD} : wVar 0 (some d :: en) c Q X = Q d c := rfl
theorem wVar_s {i : Nat} {o : Option D} {en : En} {c : Cs} {Q : DK} {X : XD} : wVar (i + 1) (o :: en) c Q X = wVar i en c Q X := rfl
theorem lvl_s {ct : Nat → Ctr} {k : Nat} : lvl ct (k + 1) = ct k := rfl
end VL
namespace VL
open PySem PySem.Spec PyProof.Rows L2
theorem loop_inv {chk : Cs → Prop} {t : Tg} {wb : WS} {D0 : EndD} {X : XD} : ∀ {ds : List D} (I : Nat → En → Cs → Prop) {en : En} {c : Cs}, I 0 en c →
    (∀ i en c d, ds[i]? = some d → I i en c → chk c ∧ ∃ en', bindT t d en = some en' ∧ ∀ D1 : EndD, (∀ en c, I (i + 1) en c → D1.nx en c) → (∀ en c, I (i + 1) en c → D1.ct en c) → D1.rt = D0.rt → D1.bk = D0.nx → wb D1 X en' c) →
    (∀ en c, I ds.length en c → chk c ∧ D0.nx en c) → loopW chk t wb D0 X ds en c
  | [], I, en, c, h0, _, hf => hf en c h0
  | d :: r, I, en, c, h0, hs, hf => by
    obtain ⟨hc, en', hb, h⟩ := hs 0 en c d rfl h0
    have rest : ∀ en c, I 1 en c → loopW chk t wb D0 X r en c := fun en c h1 =>
      loop_inv (fun i => I (i + 1)) h1 (fun i en c d' e hi => hs (i + 1) en c d' (by simpa using e) hi) (fun en c hi => hf en c (by simpa using hi))
    refine ⟨hc, ?_⟩
    rw [hb]
    exact h _ rest rest rfl rfl
theorem lc_inv {chk : Cs → Prop} {t : Tg} {wt : WT} {we : WE} {vs : List Nat} {en : En} {fin : List D → Cs → Prop} : ∀ {ds : List D} (I : Nat → List D → Cs → Prop) {acc : List D} {c : Cs}, I 0 acc c →
    (∀ i acc c d, ds[i]? = some d → I i acc c → chk c ∧ ∃ en', bindT t d (ewipe en vs) = some en' ∧ ∀ Nx : List D → Cs → Prop, (∀ acc c, I (i + 1) acc c → Nx acc c) →
      wt en' c (fun b c1 => if b = true then we en' c1 (fun y c2 => Nx (acc ++ [y]) c2) noX else Nx acc c1) noX) →
    (∀ acc c, I ds.length acc c → chk c ∧ fin acc c) → lcW chk t wt we vs en fin ds acc c
  | [], I, acc, c, h0, _, hf => hf acc c h0
  | d :: r, I, acc, c, h0, hs, hf => by
    obtain ⟨hc, en', hb, h⟩ := hs 0 acc c d rfl h0
    have rest : ∀ acc c, I 1 acc c → lcW chk t wt we vs en fin r acc c := fun acc c h1 =>
      lc_inv (fun i => I (i + 1)) h1 (fun i en c d' e hi => hs (i + 1) en c d' (by simpa using e) hi) (fun en c hi => hf en c (by simpa using hi))
    refine ⟨hc, ?_⟩
    rw [hb]
    exact h _ rest
/-- a comprehension that changes nothing: the items by f -/
theorem lc_map {chk : Cs → Prop} {t : Tg} {we : WE} {vs : List Nat} {en : En} {fin : List D → Cs → Prop} {ds : List D} {c : Cs} (f : D → D) (hc : chk c)
    (hs : ∀ d, d ∈ ds → ∃ en', bindT t d (ewipe en vs) = some en' ∧ ∀ Q : DK, Q (f d) c → we en' c Q noX) (hf : fin (ds.map f) c) : lcW chk t wYes we vs en fin ds [] c := by
  refine lc_inv (fun i acc c' => acc = (ds.take i).map f ∧ c' = c) ⟨rfl, rfl⟩ ?_ ?_
  · rintro i acc c' d hd ⟨rfl, rfl⟩
    have hi := (List.getElem?_eq_some_iff.mp hd).1
    obtain ⟨en', hb, h⟩ := hs d (List.mem_of_getElem? hd)
    refine ⟨hc, en', hb, fun Nx k => h _ (k _ _ ⟨?_, rfl⟩)⟩
    rw [List.take_succ, hd, List.map_append]
    rfl
  · rintro acc c' ⟨rfl, rfl⟩
    refine ⟨hc, ?_⟩
    rw [List.take_length]
    exact hf
theorem CLe.cup_new {c : Cs} {p : Addr} {x : Cell} (h : c p = none) : CLe c (cup c p x) := fun a y e => by
  have : a ≠ p := fun z => by rw [z, h] at e; cases e
  rw [cup_ne this]; exact e
theorem cutL_map {α β : Type} (f : α → β) (l : List α) (lo hi : Option Int) : cutL (l.map f) lo hi = (cutL l lo hi).map f := by
  unfold cutL
  rw [List.length_map, ← List.map_drop, ← List.map_take]
theorem cutL_to {α : Type} {l : List α} {n : Int} (h : 0 ≤ n) : cutL l none (some n) = l.take n.toNat := by
  unfold cutL
  have e : HT.sIx l.length l.length (some n) = min n.toNat l.length := by
    show (if n < 0 then (n + (l.length : Int)).toNat else min n.toNat l.length) = _
    rw [if_neg (by omega)]
  rw [e, HT.sIx_none, List.drop_zero, Nat.sub_zero]
  rcases Nat.le_total n.toNat l.length with h | h
  · rw [Nat.min_eq_left h]
  · rw [Nat.min_eq_right h, List.take_length, List.take_of_length_le h]
theorem cutL_from {α : Type} {l : List α} {n : Int} (h : 0 ≤ n) : cutL l (some n) none = l.drop n.toNat := by
  unfold cutL
  have e : HT.sIx l.length 0 (some n) = min n.toNat l.length := by
    show (if n < 0 then (n + (l.length : Int)).toNat else min n.toNat l.length) = _
    rw [if_neg (by omega)]
  rw [e, HT.sIx_none]
  rcases Nat.le_total n.toNat l.length with h | h
  · rw [Nat.min_eq_left h, List.take_of_length_le (by simp)]
  · rw [Nat.min_eq_right h, List.drop_length, List.drop_eq_nil_of_le h]; simp
theorem rgD0_mem {j : Int} {d : D} (h : d ∈ rgD 0 j) : ∃ i : Int, d = .int i ∧ 0 ≤ i ∧ i < j := by
  unfold rgD at h
  obtain ⟨i, hi, rfl⟩ := List.mem_map.mp h
  have := List.mem_range.mp hi
  exact ⟨_, rfl, by omega, by omega⟩
theorem sizeL : sizeLine = 16777216 := rfl
theorem inn_non : isNon .non = true := rfl
theorem inn_bl {b : Bool} : isNon (.bl b) = false := rfl
theorem inn_int {i : Int} : isNon (.int i) = false := rfl
theorem inn_str {i : Str} : isNon (.str i) = false := rfl
theorem inn_tup {i : List D} : isNon (.tup i) = false := rfl
theorem inn_lst {i : List D} : isNon (.lst i) = false := rfl
theorem inn_ptr {i : Addr} : isNon (.ptr i) = false := rfl
section
variable {c : Cs} {Q : DK} {l : List D} {ns : List Int} {lo hi : Option Int}
theorem e_slT : oSl (.tup l) lo hi c Q = Q (.tup (cutL l lo hi)) c := rfl
theorem e_slL : oSl (.lst l) lo hi c Q = Q (.lst (cutL l lo hi)) c := rfl
theorem e_slN : oSl (.scr ns) lo hi c Q = Q (.lst ((cutL ns lo hi).map .int)) c := by rw [← cutL_map]; rfl
theorem isT_P {p : Addr} : isTup (.ptr p) = false := rfl
theorem isT_L : isTup (.lst l) = false := rfl
theorem isT_T : isTup (.tup l) = true := rfl
theorem isT_N : isTup (.scr ns) = false := rfl
end
theorem isTys : isTy "NoneType" "bool" = false ∧ isTy "NoneType" "int" = false ∧ isTy "NoneType" "str" = false ∧ isTy "NoneType" "tuple" = false ∧ isTy "NoneType" "list" = false ∧ isTy "NoneType" "dict" = false ∧ isTy "bool" "bool" = true ∧ isTy "bool" "int" = true ∧ isTy "bool" "str" = false ∧ isTy "bool" "tuple" = false ∧ isTy "bool" "list" = false ∧ isTy "bool" "dict" = false ∧ isTy "int" "bool" = false ∧ isTy "int" "int" = true ∧ isTy "int" "str" = false ∧ isTy "int" "tuple" = false ∧ isTy "int" "list" = false ∧ isTy "int" "dict" = false ∧ isTy "str" "bool" = false ∧ isTy "str" "int" = false ∧ isTy "str" "str" = true ∧ isTy "str" "tuple" = false ∧ isTy "str" "list" = false ∧ isTy "str" "dict" = false ∧ isTy "tuple" "bool" = false ∧ isTy "tuple" "int" = false ∧ isTy "tuple" "str" = false ∧ isTy "tuple" "tuple" = true ∧ isTy "tuple" "list" = false ∧ isTy "tuple" "dict" = false ∧ isTy "list" "bool" = false ∧ isTy "list" "int" = false ∧ isTy "list" "str" = false ∧ isTy "list" "tuple" = false ∧ isTy "list" "list" = true ∧ isTy "list" "dict" = false ∧ isTy "dict" "bool" = false ∧ isTy "dict" "int" = false ∧ isTy "dict" "str" = false ∧ isTy "dict" "tuple" = false ∧ isTy "dict" "list" = false ∧ isTy "dict" "dict" = true := by decide
theorem tyMem : ("NoneType" ∈ tyNs) = True ∧ ("bool" ∈ tyNs) = True ∧ ("int" ∈ tyNs) = True ∧ ("str" ∈ tyNs) = True ∧ ("tuple" ∈ tyNs) = True ∧ ("list" ∈ tyNs) = True ∧ ("dict" ∈ tyNs) = True ∧ ("bool" ∈ clsNs) = True ∧ ("int" ∈ clsNs) = True ∧ ("str" ∈ clsNs) = True ∧ ("tuple" ∈ clsNs) = True ∧ ("list" ∈ clsNs) = True ∧ ("dict" ∈ clsNs) = True := by
  have h : ∀ {p : Prop}, p → p = True := fun h => propext ⟨fun _ => trivial, fun _ => h⟩
  refine ⟨?_, ?_, ?_, ?_, ?_, ?_, ?_, ?_, ?_, ?_, ?_, ?_, ?_⟩ <;> exact h (by decide)
section
variable {c : Cs} {Q : DK} {i j : Int} {a b : Bool} {s t : Str}
theorem deqI : deq (.int i) (.int j) = decide (i = j) := by
  by_cases h : i = j
  · subst h; simp [deq, toP, PyData.eqv]
  · simp [deq, toP, PyData.eqv, h]
theorem e_eqI : oEq (.int i) (.int j) c Q = Q (.bl (decide (i = j))) c := by
  rw [← deqI]
  exact propext ⟨fun h => h.2.2, fun h => ⟨rfl, rfl, h⟩⟩
theorem e_neI : oNe (.int i) (.int j) c Q = Q (.bl (decide (i ≠ j))) c := by
  rw [show decide (i ≠ j) = !deq (.int i) (.int j) by rw [deqI]; by_cases h : i = j <;> simp [h]]
  exact propext ⟨fun h => h.2.2, fun h => ⟨rfl, rfl, h⟩⟩
theorem deqB : deq (.bl a) (.bl b) = decide (a = b) := by cases a <;> cases b <;> rfl
theorem e_eqB : oEq (.bl a) (.bl b) c Q = Q (.bl (decide (a = b))) c := by
  rw [← deqB]
  exact propext ⟨fun h => h.2.2, fun h => ⟨rfl, rfl, h⟩⟩
theorem e_neB : oNe (.bl a) (.bl b) c Q = Q (.bl (decide (a ≠ b))) c := by
  rw [show decide (a ≠ b) = !deq (.bl a) (.bl b) by rw [deqB]; cases a <;> cases b <;> rfl]
  exact propext ⟨fun h => h.2.2, fun h => ⟨rfl, rfl, h⟩⟩
theorem e_eqS : oEq (.str s) (.str t) c Q = Q (.bl (decide (s = t))) c := rfl
theorem e_neS : oNe (.str s) (.str t) c Q = Q (.bl (!decide (s = t))) c := rfl
theorem e_eqN : oEq .non .non c Q = Q (.bl true) c := propext ⟨fun h => h.2.2, fun h => ⟨rfl, rfl, h⟩⟩
end
end VL
namespace VL
open PySem PySem.Spec PyProof.Rows L2
mutual
def pl : D → Bool
  | .non => true
  | .bl _ => true
  | .int _ => true
  | .str _ => true
  | .tup l => pls l
  | .lst l => pls l
  | .ptr _ => false
  | .scr _ => false
  | .ty _ => false
def pls : List D → Bool
  | [] => true
  | d :: l => pl d && pls l
end
mutual
def dep : D → Nat
  | .tup l => deps l + 1
  | .lst l => deps l + 1
  | .non => 0
  | .bl _ => 0
  | .int _ => 0
  | .str _ => 0
  | .ptr _ => 0
  | .scr _ => 0
  | .ty _ => 0
def deps : List D → Nat
  | [] => 0
  | d :: l => max (dep d) (deps l)
end
mutual
def wt : D → Nat
  | .non => 4
  | .bl _ => 5
  | .int i => i.natAbs.log2 + 2
  | .str x => 10 * x.length + 2
  | .tup l => wts l + 3
  | .lst l => wts l + 3
  | .ptr _ => 0
  | .scr _ => 0
  | .ty _ => 0
def wts : List D → Nat
  | [] => 0
  | d :: l => wt d + 2 + wts l
end
theorem pls_all : ∀ {l : List D}, pls l = true ↔ ∀ d ∈ l, pl d = true
  | [] => by simp [pls]
  | d :: l => by simp [pls, pls_all (l := l)]
theorem deps_le : ∀ {l : List D} {n : Nat}, deps l ≤ n ↔ ∀ d ∈ l, dep d ≤ n
  | [], n => by simp [deps]
  | d :: l, n => by
    simp only [deps, List.mem_cons, forall_eq_or_imp]
    rw [← deps_le (l := l)]
    omega
end VL
namespace VL
open PySem PySem.Spec PyProof.Rows L2 RT
section
variable {X : Cx} {W : WX} {a b e : Expr} {es : List Expr} {wa wb wc : WE} {ws wk : WA} {p pos : Pos} {k : Nat} {o1 o2 : Op2}
def wChn (o o' : Op2) (wa wb wc : WE) : WE := fun en c Q X => wa en c (fun x c1 => wb en c1 (fun y c2 => o x y c2 (onB fun t c3 => if t = true then wc en c3 (fun z c4 => o' y z c4 Q) X else Q (.bl false) c3)) X) X
def truD (c : Cs) : D → Option Bool
  | .non => some false
  | .bl b => some b
  | .int i => some (i != 0)
  | .str z => if z.length ≤ sizeLine then some ((z.length : Int) != 0) else none
  | d => (seqOf c d).map fun l => !l.isEmpty
def wTru (w : WE) : WT := fun en c Q X => w en c (fun d c' => ∃ b, truD c' d = some b ∧ Q b c') X
theorem je_gs {x z : Str} (hm : ∃ t, X.mg x = some (.str z t)) (hg : Gl X x := by rfl) (hd : (x == ("__debug__" : Str)) = false := by decide) : JE X W (.Name x pos) (wC (.str z)) := by
  obtain ⟨t, hm⟩ := hm
  exact PE.of (pe_glob (v := .str z) hg hm ⟨t, rfl⟩ hd) fun σ H Q ⟨G, en, c, Q0, X0, s, er, q, x0, kk⟩ => kk _ c _ H G q Gr.refl s rfl
def sPar3 (i j l : Nat) (ws : WA) : WS := fun D X en c => ws en c (fun ds c' => match ds with
  | [d, d', d''] => D.nx (((en.set i (some d)).set j (some d')).set l (some d'')) c'
  | _ => False) X
def wRev (we : WE) : WI := fun en c Q X => we en c (fun d c1 => match seqOf c1 d with
  | some l => l.length ≤ sizeLine → Q l.reverse (fun c' => seqOf c' d = some l) c1
  | none => False) X
/-- the values in the parameters' order -/
def permF {α : Type} (perm : List Nat) (l : List α) : List α := perm.filterMap fun i => l[i]?
theorem PK.of {kws : List Keyword} {t t' : TA} (h : PK X kws t) (k : ∀ σ H Q, t' σ H Q → t σ H Q) : PK X kws t' := ⟨fun pos pins s σ H Q I q => h.run pos pins s σ H Q I (k σ H Q q)⟩
def wCallK (np nk : Nat) (perm : List Nat) (n : Nat) (ct : Nat → Ctr) (k : Nat) (ws wk : WA) : WE := fun en c Q X => ws en c (fun ds c1 => wk en c1 (fun es c2 => ds.length = np ∧ es.length = nk ∧ (permF perm (ds ++ es)).length = n ∧ lvl ct k (permF perm (ds ++ es)) c2 Q (fun n d c3 => X n d en c3)) X) X
variable {np n : Nat} {ct : Nat → Ctr} {x : Str} {ks : List Str} {perm : List Nat} {kws : List Keyword}
end
section
variable {c : Cs} {Q : DK} {i : Int} {d : D} {p : Addr}
theorem e_pop0 : oPop0 (.ptr p) [] c Q = (∃ l, c p = some (.lst l) ∧ ∃ d, l[l.length - 1]? = some d ∧ Q d (cup c p (.lst l.dropLast))) :=
  propext ⟨fun ⟨q, l, d, h, h2, h3⟩ => by obtain ⟨rfl, h⟩ := live_iff.mp h; exact ⟨l, h, d, h2, h3⟩, fun ⟨l, h, d, h2, h3⟩ => ⟨p, l, d, live_iff.mpr ⟨rfl, h⟩, h2, h3⟩⟩
theorem e_popAt : oPopAt (.ptr p) [.int i] c Q = (∃ l, c p = some (.lst l) ∧ ∃ d j, -(2 ^ 63) ≤ i ∧ i < 2 ^ 63 ∧ ixN l.length i = some j ∧ l[j]? = some d ∧ Q d (cup c p (.lst (l.eraseIdx j)))) :=
  propext ⟨fun ⟨q, l, d, j, h, h2⟩ => by obtain ⟨rfl, h⟩ := live_iff.mp h; exact ⟨l, h, d, j, h2⟩, fun ⟨l, h, d, j, h2⟩ => ⟨p, l, d, j, live_iff.mpr ⟨rfl, h⟩, h2⟩⟩
end
section
variable {c : Cs} {Q : DK} {p : Addr} {i : Int} {a b d e : D}
theorem e_tupP : oTuple [.ptr p] c Q = (∃ l, (c p).bind Cell.items = some l ∧ Q (.tup l) c) := by
  show (match seqOf c (.ptr p) with | some l => Q (.tup l) c | none => False) = _
  rw [e_seqP]
  cases (c p).bind Cell.items with
  | none => simp
  | some l => simp
theorem e_listP : oList [.ptr p] c Q = (∃ l, (c p).bind Cell.items = some l ∧ Q (.lst l) c) := by
  show (match seqOf c (.ptr p) with | some l => Q (.lst l) c | none => False) = _
  rw [e_seqP]
  cases (c p).bind Cell.items with
  | none => simp
  | some l => simp
theorem e_neN : oNe .non .non c Q = Q (.bl false) c := propext ⟨fun h => h.2.2, fun h => ⟨rfl, rfl, h⟩⟩
theorem e_neIN : oNe (.int i) .non c Q = Q (.bl true) c := propext ⟨fun h => h.2.2, fun h => ⟨rfl, rfl, h⟩⟩
theorem e_neNI : oNe .non (.int i) c Q = Q (.bl true) c := propext ⟨fun h => h.2.2, fun h => ⟨rfl, rfl, h⟩⟩
theorem e_eqIN : oEq (.int i) .non c Q = Q (.bl false) c := propext ⟨fun h => h.2.2, fun h => ⟨rfl, rfl, h⟩⟩
theorem e_eqNI : oEq .non (.int i) c Q = Q (.bl false) c := propext ⟨fun h => h.2.2, fun h => ⟨rfl, rfl, h⟩⟩
theorem dl1 : [a].dropLast = [] := rfl
theorem dl2 : [a, b].dropLast = [a] := rfl
theorem dl3 : [a, b, d].dropLast = [a, b] := rfl
theorem ix10 : ixN 1 0 = some 0 := rfl
theorem ix20 : ixN 2 0 = some 0 := rfl
theorem ix21 : ixN 2 1 = some 1 := rfl
end
end VL
namespace VL
open PySem PySem.Spec PyProof.Rows L2
def wSlL (wa : WE) (wl wh : WO) : WE := fun en c Q X => wa en c (fun x c1 => wl en c1 (fun lo c2 => wh en c2 (fun hi c3 => match lstOf c3 x with
  | some l => ∀ p, c3 p = none → Q (.ptr p) (cup c3 p (.lst (cutL l lo hi)))
  | none => False) X) X) X
mutual
inductive RdE (c : Cs) : D → D → Prop
  | non : RdE c .non .non
  | bl (b : Bool) : RdE c (.bl b) (.bl b)
  | int (i : Int) : RdE c (.int i) (.int i)
  | str (s : Str) : RdE c (.str s) (.str s)
  | tup {l m : List D} : RdsE c l m → RdE c (.tup l) (.tup m)
  | lst {l m : List D} : RdsE c l m → RdE c (.lst l) (.lst m)
  | ptr {p : Addr} {l m : List D} : (c p).bind Cell.items = some l → RdsE c l m → RdE c (.ptr p) (.lst m)
inductive RdsE (c : Cs) : List D → List D → Prop
  | nil : RdsE c [] []
  | cons {d e : D} {l m : List D} : RdE c d e → RdsE c l m → RdsE c (d :: l) (e :: m)
end
mutual
theorem RdE.self {c : Cs} : ∀ {d : D}, pl d = true → RdE c d d
  | .non, _ => .non
  | .bl b, _ => .bl b
  | .int i, _ => .int i
  | .str s, _ => .str s
  | .tup l, h => .tup (RdsE.self (l := l) (by simpa [pl] using h))
  | .lst l, h => .lst (RdsE.self (l := l) (by simpa [pl] using h))
  | .ptr _, h => by simp [pl] at h
  | .scr _, h => by simp [pl] at h
  | .ty _, h => by simp [pl] at h
theorem RdsE.self {c : Cs} : ∀ {l : List D}, pls l = true → RdsE c l l
  | [], _ => .nil
  | d :: l, h => by
    simp only [pls, Bool.and_eq_true] at h
    exact .cons (RdE.self h.1) (RdsE.self h.2)
end
theorem RdsE.len {c : Cs} : ∀ {l m : List D}, RdsE c l m → l.length = m.length
  | _, _, .nil => rfl
  | _, _, .cons _ h => by simp [h.len]
theorem RdsE.get {c : Cs} : ∀ {l m : List D}, RdsE c l m → ∀ {i : Nat} {d : D}, l[i]? = some d → ∃ e, m[i]? = some e ∧ RdE c d e
  | _, _, .nil, _, _, h => by simp at h
  | _, _, .cons r _, 0, _, h => by cases h; exact ⟨_, rfl, r⟩
  | _, _, .cons _ h, i + 1, _, e => by
    obtain ⟨z, h1, h2⟩ := h.get (i := i) (by simpa using e)
    exact ⟨z, by simpa using h1, h2⟩
theorem tyN_ptr {c : Cs} {p : Addr} {l : List D} (h : (c p).bind Cell.items = some l) : tyN c (.ptr p) = "list" := by
  show (match c p with | some (.lst _) => "list" | some (.fz _) => "list" | some (.dic _) => "dict" | _ => "") = "list"
  cases e : c p with
  | none => rw [e] at h; cases h
  | some x => cases x <;> rw [e] at h <;> first | rfl | cases h
section
variable {c : Cs} {Q : DK} {i : Int} {d : D} {p : Addr}
theorem e_rev : oReverse (.ptr p) [] c Q = (∃ l, c p = some (.lst l) ∧ Q .non (cup c p (.lst l.reverse))) :=
  propext ⟨fun ⟨q, l, h, h2⟩ => by obtain ⟨rfl, h⟩ := live_iff.mp h; exact ⟨l, h, h2⟩, fun ⟨l, h, h2⟩ => ⟨p, l, live_iff.mpr ⟨rfl, h⟩, h2⟩⟩
theorem e_clear : oClear (.ptr p) [] c Q = (∃ l, c p = some (.lst l) ∧ Q .non (cup c p (.lst []))) :=
  propext ⟨fun ⟨q, l, h, h2⟩ => by obtain ⟨rfl, h⟩ := live_iff.mp h; exact ⟨l, h, h2⟩, fun ⟨l, h, h2⟩ => ⟨p, l, live_iff.mpr ⟨rfl, h⟩, h2⟩⟩
end
def KE (w : WE) (d : D) : Prop := ∀ en c (Q : DK) X, Q d c → w en c Q X
def KA (w : WA) (ds : List D) : Prop := ∀ en c (Q : List D → Cs → Prop) X, Q ds c → w en c Q X
theorem ke_c {d : D} : KE (wC d) d := fun _ _ _ _ q => q
theorem ka_nil : KA wNil [] := fun _ _ _ _ q => q
theorem ka_cons {w : WE} {ws : WA} {d : D} {ds : List D} (h : KE w d) (k : KA ws ds) : KA (wCons w ws) (d :: ds) := fun en c Q X q => h en c _ X (k en c _ X q)
theorem ke_tup {ws : WA} {ds : List D} (k : KA ws ds) (h : ds.length ≤ 1000 := by decide) : KE (wTup ws) (.tup ds) := fun en c Q X q => k en c _ X ⟨Nat.le_trans h (by decide), q⟩
theorem ke_lst {ws : WA} {ds : List D} (k : KA ws ds) (h : ds.length ≤ 1000 := by decide) : KE (wLst ws) (.lst ds) := fun en c Q X q => k en c _ X ⟨Nat.le_trans h (by decide), q⟩
theorem je_k {X : Cx} {W : WX} {e : Expr} {w : WE} {d : D} (k : KE w d) (h : JE X W e w) : JE X W e (wC d) :=
  PE.of h fun σ H Q ⟨G, en, c, Q0, X0, s, er, q, x0, kk⟩ => ⟨G, en, c, Q0, X0, s, er, k en c Q0 X0 q, x0, kk⟩
section
variable {c : Cs} {Q : DK} {p q : Addr} {l : List D}
theorem e_addPP : oAdd (.ptr p) (.ptr q) c Q = (∃ a, (c p).bind Cell.items = some a ∧ ∃ b, (c q).bind Cell.items = some b ∧ a.length + b.length ≤ sizeLine ∧ Q (.lst (a ++ b)) c) := by
  show (match lstOf c (.ptr p), lstOf c (.ptr q) with | some a, some b => a.length + b.length ≤ sizeLine ∧ Q (.lst (a ++ b)) c | _, _ => False) = _
  rw [lst_ptr, lst_ptr]
  cases (c p).bind Cell.items <;> cases (c q).bind Cell.items <;> simp
theorem e_addPL : oAdd (.ptr p) (.lst l) c Q = (∃ a, (c p).bind Cell.items = some a ∧ a.length + l.length ≤ sizeLine ∧ Q (.lst (a ++ l)) c) := by
  show (match lstOf c (.ptr p), some l with | some a, some b => a.length + b.length ≤ sizeLine ∧ Q (.lst (a ++ b)) c | _, _ => False) = _
  rw [lst_ptr]
  cases (c p).bind Cell.items <;> simp
theorem e_addLP : oAdd (.lst l) (.ptr p) c Q = (∃ a, (c p).bind Cell.items = some a ∧ l.length + a.length ≤ sizeLine ∧ Q (.lst (l ++ a)) c) := by
  show (match some l, lstOf c (.ptr p) with | some a, some b => a.length + b.length ≤ sizeLine ∧ Q (.lst (a ++ b)) c | _, _ => False) = _
  rw [lst_ptr]
  cases (c p).bind Cell.items <;> simp
end
end VL
namespace VL
open PySem PySem.Spec PyProof.Rows L2
theorem split_take {α : Type} {l : List α} {i : Nat} {a : α} (h : l[i]? = some a) : l = l.take i ++ a :: l.drop (i + 1) ∧ l.take (i + 1) = l.take i ++ [a] := by
  obtain ⟨hi, rfl⟩ := List.getElem?_eq_some_iff.mp h
  refine ⟨?_, by rw [List.take_succ, h]; rfl⟩
  rw [← List.drop_eq_getElem_cons hi, List.take_append_drop]
section
variable {chk : Cs → Prop} {t : Tg} {wb : WS} {D0 : EndD} {X : XD} {α : Type}
/-- the next turn, whichever way -/
def Step (D1 D0 : EndD) (J : En → Cs → Prop) : Prop := (∀ en c, J en c → D1.nx en c) ∧ (∀ en c, J en c → D1.ct en c) ∧ D1.rt = D0.rt ∧ D1.bk = D0.nx
theorem loopP (enc : α → D) {as : List α} (I : List α → En → Cs → Prop) {en : En} {c : Cs} (h0 : I [] en c)
    (hs : ∀ pre a post en c, as = pre ++ a :: post → I pre en c → chk c ∧ ∃ en', bindT t (enc a) en = some en' ∧ ∀ D1 : EndD, Step D1 D0 (I (pre ++ [a])) → wb D1 X en' c)
    (hf : ∀ en c, I as en c → chk c ∧ D0.nx en c) : loopW chk t wb D0 X (as.map enc) en c := by
  refine loop_inv (fun i => I (as.take i)) (by simpa using h0) (fun i en c d hd hi => ?_) fun en c hi => hf en c (by simpa using hi)
  rw [List.getElem?_map] at hd
  cases ha : as[i]? with
  | none => rw [ha] at hd; cases hd
  | some a =>
    rw [ha] at hd
    cases hd
    obtain ⟨e1, e2⟩ := split_take ha
    obtain ⟨hc, en', hb, h⟩ := hs _ a _ en c e1 hi
    exact ⟨hc, en', hb, fun D1 a1 a2 a3 a4 => h D1 (by rw [← e2]; exact ⟨a1, a2, a3, a4⟩)⟩
variable {wt : WT} {we : WE} {vs : List Nat} {en : En} {fin : List D → Cs → Prop} {c : Cs}
/-- comprehensions over known things -/
theorem lcP (enc : α → D) {as : List α} (I : List α → List D → Cs → Prop) (h0 : I [] [] c)
    (hs : ∀ pre a post acc c, as = pre ++ a :: post → I pre acc c → chk c ∧ ∃ en', bindT t (enc a) (ewipe en vs) = some en' ∧ ∀ Nx : List D → Cs → Prop, (∀ acc c, I (pre ++ [a]) acc c → Nx acc c) →
      wt en' c (fun b c1 => if b = true then we en' c1 (fun y c2 => Nx (acc ++ [y]) c2) noX else Nx acc c1) noX)
    (hf : ∀ acc c, I as acc c → chk c ∧ fin acc c) : lcW chk t wt we vs en fin (as.map enc) [] c := by
  refine lc_inv (fun i => I (as.take i)) (by simpa using h0) (fun i acc c d hd hi => ?_) fun acc c hi => hf acc c (by simpa using hi)
  rw [List.getElem?_map] at hd
  cases ha : as[i]? with
  | none => rw [ha] at hd; cases hd
  | some a =>
    rw [ha] at hd
    cases hd
    obtain ⟨e1, e2⟩ := split_take ha
    obtain ⟨hc, en', hb, h⟩ := hs _ a _ acc c e1 hi
    exact ⟨hc, en', hb, fun Nx a1 => h Nx (by rw [← e2]; exact a1)⟩
theorem lcM (enc : α → D) {as : List α} (f : α → D) (hc : chk c) (hs : ∀ a, a ∈ as → ∃ en', bindT t (enc a) (ewipe en vs) = some en' ∧ ∀ Q : DK, Q (f a) c → we en' c Q noX) (hf : fin (as.map f) c) : lcW chk t wYes we vs en fin (as.map enc) [] c := by
  refine lcP enc (fun pre acc c' => acc = pre.map f ∧ c' = c) ⟨rfl, rfl⟩ ?_ ?_
  · rintro pre a post acc c' e ⟨rfl, rfl⟩
    obtain ⟨en', hb, h⟩ := hs a (by rw [e]; simp)
    exact ⟨hc, en', hb, fun Nx k => h _ (k _ _ ⟨by simp, rfl⟩)⟩
  · rintro acc c' ⟨rfl, rfl⟩
    exact ⟨hc, hf⟩
end
end VL
namespace VL
open PySem PySem.Spec PyProof.Rows L2
/-- f = d among the fields -/
def putD (f : Str) (d : D) : List (Str × D) → List (Str × D)
  | [] => [(f, d)]
  | (g, x) :: r => if g = f then (g, d) :: r else (g, x) :: putD f d r
section
variable {K : PySem.W.Frag} {G : Hp}
theorem RepF.get {f : Str} {d : D} : ∀ {fs : List (Str × D)} {fv : List (Str × V)}, RepF K G fs fv → fs.lookup f = some d → ∃ v, fv.lookup f = some v ∧ Rep K G d v
  | [], _, h, e => by cases e
  | (g, x) :: fs, _, ⟨v, r, ev, h1, h2⟩, e => by
    subst ev
    simp only [List.lookup] at e ⊢
    cases hb : f == g with
    | true =>
      rw [hb] at e
      cases e
      exact ⟨v, rfl, h1⟩
    | false =>
      rw [hb] at e
      exact RepF.get h2 e
theorem RepF.no {f : Str} : ∀ {fs : List (Str × D)} {fv : List (Str × V)}, RepF K G fs fv → fs.lookup f = none → fv.lookup f = none
  | [], _, h, e => by cases h; rfl
  | (g, x) :: fs, _, ⟨v, r, ev, h1, h2⟩, e => by
    subst ev
    simp only [List.lookup] at e ⊢
    cases hb : f == g with
    | true => rw [hb] at e; cases e
    | false =>
      rw [hb] at e
      exact RepF.no h2 e
theorem RepF.put {f : Str} {d : D} {y : V} (hy : Rep K G d y) : ∀ {fs : List (Str × D)} {fv : List (Str × V)}, RepF K G fs fv → RepF K G (putD f d fs) (putF f y fv)
  | [], _, h => by cases h; exact ⟨y, [], rfl, hy, rfl⟩
  | (g, x) :: fs, _, ⟨v, r, ev, h1, h2⟩ => by
    subst ev
    unfold putD putF
    by_cases hg : g = f
    · rw [if_pos hg, if_pos hg]
      exact ⟨y, r, rfl, hy, h2⟩
    · rw [if_neg hg, if_neg hg]
      exact ⟨v, _, rfl, h1, RepF.put hy h2⟩
end
section
variable {X : Cx} {W : WX} {o e value : Expr} {f : Str} {pos pos' tpos apos : Pos} {wo we wv : WE} {ws : WA} {es : List Expr}
/-- o.f -/
def wFld (C : Addr) (f : Str) (wo : WE) : WE := fun en c Q X => wo en c (fun d c1 => match d with
  | .ptr p => ∃ fs v, c1 p = some (.obj C fs) ∧ fs.lookup f = some v ∧ Q v c1
  | _ => False) X
theorem ptr_of {R : Addr → Prop} {d : D} (h : match d with | .ptr p => R p | _ => False) : ∃ p, d = .ptr p ∧ R p := by
  cases d <;> first
    | exact h.elim
    | exact ⟨_, rfl, h⟩
theorem je_fld {C : Addr} (cl : Cls X.K C) (na : NoAttr X.K C f) (ho : JE X W o wo) (hb : attributeBase o f X.env (eval o X.env) = eval o X.env := by rfl) : JE X W (.Attribute o f pos) (wFld C f wo) := by
  refine PE.of (pe_fld ho hb) fun σ H Q ⟨G, en, c, Q0, X0, s, er, q, x0, kk⟩ => ?_
  refine ⟨G, en, c, _, X0, s, er, q, x0, fun d1 c1 v1 H1 G1 q1 g1 s1 r1 => ?_⟩
  obtain ⟨p, rfl, fs, v, hc, hl, q1⟩ := ptr_of q1
  obtain ⟨_, dx, fv, e1, e2⟩ := s1.at_ _ _ hc
  obtain ⟨u, e3, r3⟩ := e2.get hl
  exact ⟨p, C, dx, fv, u, r1, e1, cl, na, e3, kk v c1 u H1 G1 q1 g1 s1 r3⟩
/-- o.f = e -/
def sFldS (C : Addr) (f : Str) (wo we : WE) : WS := fun D X en c => we en c (fun y c1 => wo en c1 (fun d c2 => match d with
  | .ptr p => ∃ fs, c2 p = some (.obj C fs) ∧ fs.length < 1000 ∧ D.nx en (cup c2 p (.obj C (putD f y fs)))
  | _ => False) X) X
theorem SR.fld {K : PySem.W.Frag} {G : Hp} {c : Cs} {H : Hp} {p C : Addr} {fs : List (Str × D)} {d : D} {y : V} (s : SR K G c H) (hc : c p = some (.obj C fs)) (r : Rep K G d y) :
    ∃ dx fv, H p = some (.ins C dx fv) ∧ fv.length = fs.length ∧ SR K G (cup c p (.obj C (putD f d fs))) (upd H p (.ins C dx (putF f y fv))) ∧ Gr G c H G (cup c p (.obj C (putD f d fs))) (upd H p (.ins C dx (putF f y fv))) := by
  obtain ⟨hg, dx, fv, e1, e2⟩ := s.at_ _ _ hc
  obtain ⟨s2, g2⟩ := s.write (p := p) (o := .ins C dx (putF f y fv)) (y := .obj C (putD f d fs)) hc hg ⟨hg, dx, _, upd_same, e2.put r⟩
  exact ⟨dx, fv, e1, e2.len, s2, g2⟩
theorem js_fld {C : Addr} (cl : Cls X.K C) (na : NoAttr X.K C f) (ho : JE X W o wo) (hv : JE X W value wv) (hs : swapsWith value (some (.Attribute o f pos')) pos.line X.env = pure false := by rfl) : JS X W (.Assign [.Attribute o f pos'] value pos) (sFldS C f wo wv) := by
  refine PS.of (ps_fld ho hv hs) fun D σ H ⟨G, en, c, D0, X0, s, er, q, x0, k⟩ => ?_
  refine ⟨G, en, c, _, X0, s, er, q, x0, fun d1 c1 v1 H1 G1 q1 g1 s1 r1 => ?_⟩
  refine ⟨G1, en, c1, _, X0, s1, er.mono g1.g, q1, x0.more g1, fun d2 c2 v2 H2 G2 q2 g2 s2 r2 => ?_⟩
  obtain ⟨p, rfl, fs, hc, hl, q2⟩ := ptr_of q2
  obtain ⟨dx, fv, e1, e2, s3, g3⟩ := s2.fld (f := f) hc (Rep.mono g2.g _ _ r1)
  exact ⟨p, C, dx, fv, r2, e1, cl, na, by omega, k.nx en _ σ _ _ q2 ((g1.trans g2).trans g3) s3 (er.mono ((g1.trans g2).g.trans g3.g))⟩
/-- o.f op= e -/
def sFldA (C : Addr) (f : Str) (o2 : Op2) (wo we : WE) : WS := fun D X en c => wo en c (fun d c1 => match d with
  | .ptr p => ∃ fs v, c1 p = some (.obj C fs) ∧ fs.lookup f = some v ∧ we en c1 (fun y c2 => o2 v y c2 fun z c3 => ∃ fs', c3 p = some (.obj C fs') ∧ fs'.length < 1000 ∧ D.nx en (cup c3 p (.obj C (putD f z fs')))) X
  | _ => False) X
/-- .., o.f, .. = -/
def gFld (C : Addr) (f : Str) (wo : WE) : WG := fun y en c Q X => wo en c (fun d c2 => match d with
  | .ptr p => ∃ fs, c2 p = some (.obj C fs) ∧ fs.length < 1000 ∧ Q en (cup c2 p (.obj C (putD f y fs)))
  | _ => False) X
/-- a method that may be called -/
def CalM (P : Program) (w : World) (K : PySem.W.Frag) (mg : Str → Option Value) (base : Heap) (k : Nat) (C : Addr) (m : Str) (n : Nat) (ct : Nat → Ctr) : Prop :=
  ∃ f fd ps, Meth K C m f ∧ Binds K fd ps [] ∧ ps.length = n ∧ FnG P w K mg base k f fd ps (spD K mg n (lvl ct k))
def wMeth (C : Addr) (m : Str) (n : Nat) (ct : Nat → Ctr) (k : Nat) (wo : WE) (ws : WA) : WE := fun en c Q X => wo en c (fun d c1 => match d with
  | .ptr p => ∃ fs, c1 p = some (.obj C fs) ∧ fs.lookup m = none ∧ ws en c1 (fun ds c2 => ds.length + 1 = n ∧ lvl ct k (.ptr p :: ds) c2 Q (fun n d c3 => X n d en c3)) X
  | _ => False) X
theorem meth_rd {C : Addr} {m : Str} {n k : Nat} {ct : Nat → Ctr} {σ : L2.St} {H : Hp} {Q : VK} (h : rdE X.K X.mg W (wMeth C m n ct k wo ws) σ H Q) :
    rdE X.K X.mg W wo σ H fun x H1 => ∃ a dx fv, x = .ref a ∧ H1 a = some (.ins C dx fv) ∧ fv.lookup m = none ∧ rdA X.K X.mg W ws σ H1 fun vs H2 => spD X.K X.mg n (lvl ct k) (x :: vs) H2 Q (fun cls d H3 => W cls d σ H3) := by
  obtain ⟨G, en, c, Q0, X0, s, er, q, x0, kk⟩ := h
  refine ⟨G, en, c, _, X0, s, er, q, x0, fun d1 c1 v1 H1 G1 q1 g1 s1 r1 => ?_⟩
  obtain ⟨p, rfl, fs, hc, hl, q1⟩ := ptr_of q1
  obtain ⟨_, dx, fv, e1, e2⟩ := s1.at_ _ _ hc
  refine ⟨p, dx, fv, r1, e1, e2.no hl, ?_⟩
  refine ⟨G1, en, c1, _, X0, s1, er.mono g1.g, q1, x0.more g1, fun ds c2 vs H2 G2 ⟨hn, q2⟩ g2 s2 r2 => ?_⟩
  refine ⟨G2, .ptr p :: ds, c2, Q0, _, s2, ⟨v1, vs, rfl, Rep.mono g2.g _ _ r1, r2⟩, hn, q2, fun d c' v H' G' z g s' r' => kk d c' v H' G' z ((g1.trans g2).trans g) s' r', ?_⟩
  intro m' d c' cls dx' H' G' z g s' ea
  exact x0 m' d en c' cls dx' σ H' G' z ((g1.trans g2).trans g) s' (er.mono ((g1.trans g2).trans g).g) ea
theorem je_meth {C : Addr} {m : Str} {n k : Nat} {ct : Nat → Ctr} {pl : Sem Bool} (cl : Cls X.K C) (cm : CalM X.prog X.w X.K X.mg X.base k C m n ct) (hr : Room k X.A) (hg : X.A.guards = some []) (tk : Takes X W) (ho : JE X W o wo) (ha : JA X W (e :: es) ws)
    (hst : starEach (e :: es) X.env = (false, eval e X.env) :: starEach es X.env := by rfl) (hpl : (backTo pos (starEach es X.env)).any (·.1) = false := by rfl)
    (ht : eval (.Call (.Attribute o m apos) (e :: es) [] pos) X.env = (do
      let ov ← eval o X.env
      standAt apos.atName
      let (f, first) ← holding [ov] (getMethod ov m pl)
      callWith pos f first (backTo pos (starEach (e :: es) X.env)) (backToKw pos (keywordEach [] X.env))) := by rfl) : JE X W (.Call (.Attribute o m apos) (e :: es) [] pos) (wMeth C m n ct k wo ws) := by
  obtain ⟨fA, fd, ps, hm, hb, hl, F⟩ := cm
  refine ⟨fun pins s σ H Q I h => ?_⟩
  refine PySem.W.methodCall_KW (pl := pl) (thn (ho.run pins s σ H _ I (meth_rd h)) fun u s1 ⟨x, H1, I1, rx, a, dx, fv, ex, ea, l, q⟩ => ?_) ht
  subst ex
  obtain rfl : u = Value.ref a := rx
  refine getmeth_ok I1 ea cl hm l ?_
  refine PySem.W.callWith_K (first := [.ref a]) (h₀ := X.base) I.ok.mod.kin hm.kp (thn (ha.run pos pins s1 σ H1 _ I1 q) fun us s2 ⟨vs, H2, I2, r, q2⟩ => ⟨I2.kIn, ?_⟩) hst hpl
  exact run_fnG (x := m) (n := n) (us := .ref a :: us) (vs := .ref a :: vs) F hr hg hb (passAt tk σ) I2 (.cons rfl r) q2
theorem je_meth0 {C : Addr} {m : Str} {n k : Nat} {ct : Nat → Ctr} {pl : Sem Bool} (cl : Cls X.K C) (cm : CalM X.prog X.w X.K X.mg X.base k C m n ct) (hr : Room k X.A) (hg : X.A.guards = some []) (tk : Takes X W) (ho : JE X W o wo)
    (ht : eval (.Call (.Attribute o m apos) [] [] pos) X.env = (do
      let ov ← eval o X.env
      standAt apos.atName
      let (f, first) ← holding [ov] (getMethod ov m pl)
      callWith pos f first (backTo pos (starEach [] X.env)) (backToKw pos (keywordEach [] X.env))) := by rfl) : JE X W (.Call (.Attribute o m apos) [] [] pos) (wMeth C m n ct k wo wNil) := by
  obtain ⟨fA, fd, ps, hm, hb, hl, F⟩ := cm
  refine ⟨fun pins s σ H Q I h => ?_⟩
  refine PySem.W.methodCall_KW (pl := pl) (thn (ho.run pins s σ H _ I (meth_rd h)) fun u s1 ⟨x, H1, I1, rx, a, dx, fv, ex, ea, l, G, en, c, Q0, X0, sr, er, q, x0, kk⟩ => ?_) ht
  subst ex
  obtain rfl : u = Value.ref a := rx
  refine getmeth_ok I1 ea cl hm l ?_
  exact PySem.W.callWith_K0 (first := [.ref a]) I1.kIn hm.kp (run_fnG (x := m) (n := n) (us := [.ref a]) (vs := [.ref a]) F hr hg hb (passAt tk σ) I1 (.cons rfl .nil) (kk [] c [] H1 G q Gr.refl sr rfl))
/-- C(..) -/
structure MkF (K : PySem.W.Frag) (mg : Str → Option Value) (x : Str) (C : Addr) : Prop where
  mgC : mg x = some (.ref C)
  makes : PySem.W.makesIn K C = true
  kp : PySem.W.keepIn K (.ref C) = true
def lvl2 (ct : Nat → Ctr) : Nat → Ctr
  | 0 => fun _ _ _ _ => False
  | k + 1 => lvl ct k
theorem lvl2_s {ct : Nat → Ctr} {k : Nat} : lvl2 ct (k + 1) = lvl ct k := rfl
def wMake (C : Addr) (n : Nat) (ct : Nat → Ctr) (k : Nat) (ws : WA) : WE := fun en c Q X => ws en c (fun ds c1 => ds.length + 1 = n ∧ ∀ p, c1 p = none → lvl2 ct k (.ptr p :: ds) (cup c1 p (.obj C [])) (fun d c2 => isNon d = true ∧ Q (.ptr p) c2) (fun n d c3 => X n d en c3)) X
theorem je_make {C : Addr} {x : Str} {n k : Nat} {ct : Nat → Ctr} {p : Pos} (M : MkF X.K X.mg x C) (cm : CalM X.prog X.w X.K X.mg X.base (k - 1) C "__init__" n ct) (hr : Room k X.A) (hg0 : X.A.guards = some []) (tk : Takes X W) (ha : JA X W (e :: es) ws) (hgl : Gl X x := by rfl)
    (hdb : (x == ("__debug__" : Str)) = false := by decide) (he : starEach (e :: es) X.env = (false, eval e X.env) :: starEach es X.env := by rfl) (hpl : (backTo pos (starEach es X.env)).any (·.1) = false := by rfl) :
    JE X W (.Call (.Name x p) (e :: es) [] pos) (wMake C n ct k ws) := by
  obtain ⟨fA, fd, ps, hm, hb, hl, F⟩ := cm
  refine ⟨fun pins s0 σ H Q I ⟨G, en, c, Q0, X0, s, er, q, x0, kk⟩ => ?_⟩
  refine wpAny_Call_Name_kw (ld_glob I hgl M.mgC ?_ hdb)
  refine PySem.W.callWith_K (h₀ := X.base) I.ok.mod.kin M.kp ?_ he hpl
  refine thn (ha.run pos pins s0 σ H (fun vs H1 => ∀ x dx, H1 x = none → H1 dx = none → dx ≠ x → spD X.K X.mg n (lvl2 ct k) (.ref x :: vs) (upd (upd H1 dx (.own x)) x (.ins C dx [])) (fun v H2 => v = .non ∧ Q (.ref x) H2) (L2.WE W σ)) I ?_) fun us s1 ⟨vs, H1, I1, r, z⟩ => ⟨I1.kIn, ?_⟩
  · refine ⟨G, en, c, _, X0, s, er, q, x0, fun ds c1 vs H1 G1 ⟨hn, q1⟩ g1 s1 r1 => ?_⟩
    intro x dx hx hdx hne
    obtain ⟨cx, gx⟩ := s1.free hx
    obtain ⟨cd, gd⟩ := s1.free hdx
    have s2 : SR X.K G1 c1 (upd H1 dx (.own x)) := s1.other cd gd
    have g2 : Gr G1 c1 H1 G1 c1 (upd H1 dx (.own x)) := Gr.refl.beside hdx
    have hx2 : upd H1 dx (.own x) x = none := by rw [upd_ne (Ne.symm hne)]; exact hx
    obtain ⟨s3, g3⟩ := s2.newL (p := x) (o := .ins C dx []) (y := .obj C []) hx2 ⟨gx, dx, [], upd_same, rfl⟩
    have g13 := (g1.trans g2).trans g3
    refine ⟨G1, .ptr x :: ds, _, _, _, s3, ⟨.ref x, vs, rfl, rfl, r1⟩, hn, q1 x cx, fun d c' v H' G' ⟨z1, z2⟩ g s' r' => ?_, ?_⟩
    · have hv : v = .non := by
        cases d <;> first
          | exact r'
          | cases z1
      exact ⟨hv, kk (.ptr x) c' (.ref x) H' G' z2 (g13.trans g) s' rfl⟩
    · intro m' d c' cls dx' H' G' z g s' ea
      exact x0 m' d en c' cls dx' σ H' G' z (g13.trans g) s' (er.mono (g13.trans g).g) ea
  · have hq := z (s1.heap.objs.size + 1) s1.heap.objs.size (I1.hok.fresh (Nat.le_succ _)) (I1.hok.fresh (Nat.le_refl _)) (Nat.ne_of_lt (Nat.lt_succ_self _))
    cases k with
    | zero =>
      obtain ⟨_, _, _, _, _, _, _, _, z', _⟩ := hq
      exact z'.elim
    | succ k =>
      have hq : spD X.K X.mg n (lvl ct k) (.ref (s1.heap.objs.size + 1) :: vs) _ _ _ := hq
      have I2 := Inv.made (C := C) I1
      have r2 : Vals (V.ref (s1.heap.objs.size + 1) :: vs) (Value.ref (s1.heap.objs.size + 1) :: us) := .cons rfl r
      have nl : (Value.ref (s1.heap.objs.size + 1) :: us).length = ps.length := r2.length.symm.trans (F.len _ _ _ _ hq)
      have bd := hb _ (Value.ref (s1.heap.objs.size + 1) :: us) I2.kIn (by rw [List.append_nil]; exact nl)
      rw [List.append_nil] at bd
      refine wpAny_call (make_map (f := fA) I1.kIn M.makes hm.at_ (beq_iff_eq.mp hm.fn) (codeAny_mono (F.run _ X.stack _ _ ⟨Value.ref (s1.heap.objs.size + 1) :: us, []⟩ (Value.ref (s1.heap.objs.size + 1) :: us) _ _ _ (hr.make C us []) hg0
        (I2.env0.make C us []) bd r2 hq) fun r s' hq' => ?_))
      cases r with
      | error e => exact passAt tk σ pins _ _ e s' I2 hq'
      | ok fl =>
        cases fl with
        | ret u =>
          obtain ⟨v, H', I3, rv, ev, q3⟩ := I2.after hq'
          subst ev
          exact ⟨rv, ⟨V.ref (s1.heap.objs.size + 1), H', I3, rfl, q3⟩⟩
        | next => exact False.elim hq'
        | brk => exact False.elim hq'
        | cont => exact False.elim hq'
end
end VL
namespace VL
open PySem PySem.Spec PyProof.Rows L2
def DefM (K : PySem.W.Frag) (C : Addr) (m q : Str) (st : Stmt) (ps : List Str) : Prop := ∃ f fd, Meth K C m f ∧ Fun K m q st f fd ∧ Binds K fd ps []
theorem def_mkM {K : PySem.W.Frag} {C : Addr} {m q : Str} {st : Stmt} {ps : List Str} {f : Addr} {oc : Value} {od an : Option Addr} {osl : Array (Option Value)} {kV doc pm cdv ct : Value}
    (a : PySem.W.findIn K (.ref C) m = some (some (.ref f))) (i : PySem.W.isFn K (.ref f) = true) (l : K.lookup f = some ⟨oc, od, .func (PySem.W.fnOf m q (defArgs st) (defBody st) (defScope st) .none kV doc pm an cdv ct), osl⟩) (c : PySem.W.codeIn K cdv q = true) (k : PySem.W.keepIn K (.ref f) = true)
    (hb : ∀ (kV doc pm : Value) (an : Option Addr) (cdv ct : Value) (us : List Value), us.length = ps.length → bindArgs (PySem.W.fnOf m q (defArgs st) (defBody st) (defScope st) .none kV doc pm an cdv ct) ⟨us, []⟩ = pure (ps.zip us)) : DefM K C m q st ps := by
  have F := fun_mk (st := st) l c k
  exact ⟨f, _, ⟨a, i, k⟩, F, F.binds hb⟩
section
variable {P : Program} {w : World} {K : PySem.W.Frag} {mg : Str → Option Value} {base : Heap}
theorem calM_zero {C : Addr} {m q : Str} {st : Stmt} {ps : List Str} {n : Nat} {ct : Nat → Ctr} (h : DefM K C m q st ps) (hn : ps.length = n := by rfl) : CalM P w K mg base 0 C m n ct := by
  obtain ⟨f, fd, h1, F, hb⟩ := h
  refine ⟨f, fd, ps, h1, hb, hn, ?_, ?_⟩
  · rintro vs H Q E ⟨_, _, _, _, _, _, _, _, z, _⟩
    exact z.elim
  · rintro A outer s H args us vs Q E _ _ _ _ _ ⟨_, _, _, _, _, _, _, _, z, _⟩
    exact z.elim
theorem calM_succ {C : Addr} {m q : Str} {st : Stmt} {N ps : List Str} {n k : Nat} {ct : Nat → Ctr} {wb : WS} (h : DefM K C m q st ps) (S : FnScope N ps (defScope st))
    (hb : ∀ (f : Addr) (cdv : Value) (A : Around) (outer : List PySem.Env) (s : Shared) (H : Hp) (E : XK), Room k (A.deeper (envOfC q (defScope st) s.heap.objs.size f cdv)) → A.guards = some [] →
      JSs (cxOf (L2.CX P w) P w K mg base N q (defScope st) f cdv A outer s H E) (WXE E) (defBody st) wb)
    (hp : ∀ ds c Q X0, ds.length = n → ct k ds c Q X0 → wb (endOf Q) (excOf X0) (enOf N.length ds) c) (hn : ps.length = n := by rfl) : CalM P w K mg base (k + 1) C m n ct := by
  obtain ⟨f, fd, h1, F, hb'⟩ := h
  subst hn
  exact ⟨f, fd, ps, h1, hb', rfl, fnG_of F S (hb f) hp⟩
end
theorem mkf_mk {K : PySem.W.Frag} {mg : Str → Option Value} {h : Heap} {x : Str} {C : Addr} (X : K.In h) (G : h.Ns mainGlobals mg) (a : PySem.W.nsIn K mainGlobals x = some (some (.ref C))) (m : PySem.W.makesIn K C = true) (k : PySem.W.keepIn K (.ref C) = true) : MkF K mg x C := ⟨PySem.W.mg_of X G a, m, k⟩
theorem cl_mk {K : PySem.W.Frag} {C : Addr} (pg : PySem.W.plainGet K C Str.empty = true) (hd : PySem.W.hasDictIn K C = true) (po : PySem.W.plainOver K C = true) (sa : PySem.W.findIn K (.ref C) "__setattr__" = some (some (.builtin "object.__setattr__"))) : Cls K C := ⟨pg, hd, po, sa⟩
theorem na_mk {K : PySem.W.Frag} {C : Addr} {f : Str} (n : PySem.W.findIn K (.ref C) f = some none) : NoAttr K C f := n
end VL
namespace VL
open PySem PySem.Spec PyProof.Rows L2
section
variable {X : Cx}
def oMulT : Op2 := fun x y c Q => match x, y with
  | .tup l, .int k => l ≠ [] ∧ 0 ≤ k ∧ k ≤ 1000 ∧ l.length ≤ 1000 ∧ Q (.tup (List.replicate k.toNat l).flatten) c
  | _, _ => False
end
theorem e_mulT {l : List D} {i : Int} {c : Cs} {Q : DK} : oMulT (.tup l) (.int i) c Q = (l ≠ [] ∧ 0 ≤ i ∧ i ≤ 1000 ∧ l.length ≤ 1000 ∧ Q (.tup (List.replicate i.toNat l).flatten) c) := rfl
end VL
set_option maxHeartbeats 4000000
namespace VL
open PySem PySem.Spec PyProof.Rows L2
open Builtin Builtin.ObjectAttr
section
variable {X : Cx} {W : WX} {e : Expr} {ws : WA} {p p1 pos pos' : Pos} {n : Str} {b : EB} {k : Nat}
/-- raise n(e) -/
def sRaise (n : Str) (k : Nat) (ws : WA) : WS := fun _ X en c => 2 ≤ k ∧ ws en c (fun ds c1 => ∃ d, ds = [d] ∧ X n d en c1) X
end
end VL
set_option maxHeartbeats 4000000
namespace VL
open PySem PySem.Spec PyProof.Rows L2
/-- the names of an except clause's tuple, and what they stand for -/
inductive Nms (X : Cx) : List Expr → List Value → Prop
  | nil : Nms X [] []
  | cons {x : Str} {p : Pos} {c : Value} {es : List Expr} {cs : List Value} (hg : Gl X x) (hm : X.mg x = some c) (hd : (x == ("__debug__" : Str)) = false) (h : starEach (.Name x p :: es) X.env = (false, eval (.Name x p) X.env) :: starEach es X.env) (r : Nms X es cs) : Nms X (.Name x p :: es) (c :: cs)
theorem Nms.len {X : Cx} {es : List Expr} {cs : List Value} (h : Nms X es cs) : cs.length = es.length := by
  induction h with
  | nil => rfl
  | cons _ _ _ _ _ ih => simp [ih]
end VL
set_option maxHeartbeats 4000000
namespace VL
open PySem PySem.Spec PyProof.Rows L2
instance decEB : DecidableEq EB := fun a b => by
  cases a <;> cases b <;> first | exact isTrue rfl | exact isFalse (fun h => by cases h)
section
variable {K : W.Frag}
theorem ExcK.sub {n m : Str} {b b' : EB} {C D : Addr} (T : ExcK K n b C) (T' : ExcK K m b' D) : W.subIn K (.ref C) (.ref D) = some (decide (C = D)) := by
  obtain ⟨cd, h1, h2⟩ := Option.map_eq_some_iff.mp T.mro
  show W.mroIn K C (.ref D) = _
  unfold W.mroIn
  rw [h1, Option.bind_some, h2]
  have e0 : (Value.ref C :: b.tl).isEmpty = false := rfl
  have e1 : (Value.ref C :: b.tl).contains (.ref D) = decide (C = D) := by
    rw [List.contains_cons]
    have e2 : b.tl.contains (.ref D) = false := by cases b <;> rfl
    rw [e2, Bool.or_false]
    by_cases h : C = D
    · subst h
      simp
    · have h' : Value.ref D ≠ Value.ref C := fun z => h (Value.ref.inj z).symm
      rw [decide_eq_false h]
      exact beq_eq_false_iff_ne.mpr h'
  rw [if_neg (by rw [e0]; decide), e1]
theorem ExcK.inj {n : Str} {b b' : EB} {C D : Addr} (T : ExcK K n b C) (T' : ExcK K n b' D) : C = D := by
  have h1 := T.ns
  rw [T'.ns] at h1
  exact (Value.ref.inj (Option.some.inj (Option.some.inj h1))).symm
end
/-- what's kept at a -/
def KeptAt (K : W.Frag) (H : Hp) (a C : Addr) (u : V) : Prop := ∃ dd, H a = some (exH a C dd) ∧ H dd = some (.xd [(("what" : Str), u)])
theorem SR.kept {K : W.Frag} {G : Hp} {c : Cs} {H : Hp} {p : Addr} {n : Str} {b : EB} {d : D} (s : SR K G c H) (h : c p = some (.exc n b d)) : ∃ C u, ExcK K n b C ∧ KeptAt K H p C u ∧ Rep K G d u := by
  obtain ⟨C, dd, u, k, e1, e2, r⟩ := s.at_ _ _ h
  exact ⟨C, u, k, ⟨dd, s.sub _ _ e1, s.sub _ _ e2⟩, r⟩
section
variable {X : Cx} {W0 : WX} {e t : Expr} {we : WE} {p p1 p2 pos : Pos} {pb : Str}
/-- a class of the module's own, by its name -/
def wIsX (P : Str → EB → Bool) (we : WE) : WE := fun en c Q X => we en c (fun d c1 => match d with
  | .ptr a => ∃ n b x, c1 a = some (.exc n b x) ∧ Q (.bl (P n b)) c1
  | _ => False) X
/-- .what -/
def wWhat (we : WE) : WE := fun en c Q X => we en c (fun d c1 => match d with
  | .ptr a => ∃ n b x, c1 a = some (.exc n b x) ∧ Q x c1
  | _ => False) X
end
/-- isinstance(e, (A, B, ..)), the module's own ones -/
inductive Owns (X : Cx) : List Expr → List Str → List Addr → Prop
  | nil : Owns X [] [] []
  | cons {y : Str} {p : Pos} {C : Addr} {b : EB} {es : List Expr} {ys : List Str} {cs : List Addr} (T : ExcK X.K y b C) (hm : X.mg y = some (.ref C)) (hg : Gl X y) (hd : (y == ("__debug__" : Str)) = false) (hs : starEach (.Name y p :: es) X.env = (false, eval (.Name y p) X.env) :: starEach es X.env) (r : Owns X es ys cs) : Owns X (.Name y p :: es) (y :: ys) (C :: cs)
theorem Owns.len {X : Cx} {es : List Expr} {ys : List Str} {cs : List Addr} (h : Owns X es ys cs) : cs.length = es.length := by
  induction h with
  | nil => rfl
  | cons _ _ _ _ _ _ ih => simp [ih]
section
variable {K : W.Frag}
theorem SR.keep {G : Hp} {c : Cs} {H : Hp} {a C dd : Addr} {n : Str} {b : EB} {d : D} {u : V} (x : SR K G c H) (h : H a = none) (T : ExcK K n b C) (hd : G dd = some (.xd [(("what" : Str), u)])) (r : Rep K G d u) :
    SR K (upd G a (exH a C dd)) (cup c a (.exc n b d)) (upd H a (exH a C dd)) ∧ Gr G c H (upd G a (exH a C dd)) (cup c a (.exc n b d)) (upd H a (exH a C dd)) := by
  obtain ⟨s1, g1⟩ := x.newG (o := exH a C dd) h
  obtain ⟨hc, hg⟩ := x.free h
  refine ⟨⟨s1.sub, fun p y e => ?_⟩, ⟨g1.g, g1.keep, fun p e => ?_, g1.ng⟩⟩
  · by_cases hp : p = a
    · subst hp
      rw [cup_same] at e
      cases e
      refine ⟨C, dd, u, T, upd_same, ?_, Rep.mono g1.g _ _ r⟩
      rw [upd_ne (ne_of_none hd hg)]
      exact hd
    · rw [cup_ne hp] at e
      exact s1.at_ p y e
  · by_cases hp : p = a
    · subst hp
      exact .inr h
    · rw [cup_ne hp] at e
      exact .inl e
end
/-- try: body, except (..) as x: y = x; i is x's slot, j is y's -/
def sTry (ns : List (Str × EB)) (i j : Nat) (wb : WS) : WS := fun D _ en c => wb D (fun n d en' c' => ∃ b, (n, b) ∈ ns ∧ ∀ a, c' a = none → D.nx (((en'.set i (some (.ptr a))).set j (some (.ptr a))).set i none) (cup c' a (.exc n b d))) en c
end VL
set_option maxHeartbeats 4000000
namespace VL
open PySem PySem.Spec PyProof.Rows L2
section
variable {X : Cx} {W : WX} {e : Expr} {we : WE} {k : Nat} {p1 p2 p3 pos : Pos}
def wBack (we : WE) : WE := fun en c Q X => we en c (fun d c1 => match lstOf c1 d with
  | some l => Q (.lst l.reverse) c1
  | none => False) X
def oMulV : Op2 := fun x y c Q => match lstOf c x, y with
  | some l, .int k => -(2 ^ 63) ≤ k ∧ k < 2 ^ 63 ∧ l.length * k.toNat ≤ sizeLine ∧ ∀ p, c p = none → Q (.ptr p) (cup c p (.lst (List.replicate k.toNat l).flatten))
  | _, _ => False
end
theorem e_mulV {l : List D} {i : Int} {c : Cs} {Q : DK} : oMulV (.lst l) (.int i) c Q = (-(2 ^ 63) ≤ i ∧ i < 2 ^ 63 ∧ l.length * i.toNat ≤ sizeLine ∧ ∀ p, c p = none → Q (.ptr p) (cup c p (.lst (List.replicate i.toNat l).flatten))) := rfl
theorem lo_lst {c : Cs} {l : List D} : lstOf c (.lst l) = some l := rfl
end VL
set_option maxHeartbeats 4000000
namespace VL
open PySem PySem.Spec PyProof.Rows L2
inductive Fars (X : Cx) : List Expr → List String → Prop
  | nil : Fars X [] []
  | cons {y : Str} {p : Pos} {T : String} {es : List Expr} {ts : List String} (hm : X.mg y = none) (hb : bootBuiltins y = some (.type T)) (hk : W.kitMeta T = true) (hf : ∀ b : EB, b.tl.contains (.type T) = false) (hg : Gl X y) (hn : y ≠ "__name__") (hd : (y == ("__debug__" : Str)) = false) (hs : starEach (.Name y p :: es) X.env = (false, eval (.Name y p) X.env) :: starEach es X.env) (r : Fars X es ts) : Fars X (.Name y p :: es) (T :: ts)
theorem Fars.len {X : Cx} {es : List Expr} {ts : List String} (h : Fars X es ts) : ts.length = es.length := by
  induction h with
  | nil => rfl
  | cons _ _ _ _ _ _ _ _ _ ih => simp [ih]
end VL
set_option maxHeartbeats 4000000
set_option maxHeartbeats 4000000
set_option maxHeartbeats 4000000
namespace VL
open PySem PySem.Spec PyProof.Rows L2
section
variable {P : Program} {w : World} {A : Around} {E : Value → Shared → Prop} {s : Shared}
/-- what fills a set: its result -/
def fills (R : Result → Shared → Prop) (P : Program) (w : World) (A : Around) : Fin → Shared → Prop := fun fin s' => match fin with
  | .done f => R (.ok f) s'
  | .again c' => c'.quiet = true ∧ codeAny (model P w) A c' R s'
/-- an empty set S is filled from a list of ints -/
theorem fill_list {S l : Addr} {items : Array Value} {ns : List Int} {R : Result → Shared → Prop} (hh : A.handled = none) (hS : s.heap.get? S = some { cls := .type "set", dict := none, data := .set #[] 0 (.fresh 0 0 (!w.params.followText "set-order")) })
    (hl : s.heap.IsList l items) (hi : IntsAre items.toList ns) (hb : ns.length + 1 < scanBound)
    (q : ∀ h' tk c, SetR w h' S (fun j => decide (j ∈ ns)) c → c ≤ ns.length → (∀ b o, b ≠ S → s.heap.get? b = some o → h'.get? b = some o) → R (.ok (.ret .none)) { s with heap := h', toks := tk }) :
    wpAny (model P w) A.in1.in1 (Builtin.«set.__init__» ⟨[.ref S, .ref l], []⟩) (fills R P w A.in1) (fun e s' => R (.error e) s') s := by
  have hlen : items.size = ns.length := by
    have z := IntsAre.length hi
    rwa [Array.length_toList] at z
  obtain ⟨⟨kls, dct, dat, sls⟩, hg, hk, m, hd⟩ := id hl
  simp only at hk hd
  subst hk hd
  have s1 := F.sub_list_set
  have s2 := F.sub_list_frozenset
  have s3 : (Value.type "list" == Value.type "dict") = false := by decide
  have hlS : l ≠ S := fun e => by
    rw [e, hS] at hg
    have z := congrArg (Option.map Obj.cls) hg
    simp at z
  have ltl : l < s.heap.objs.size := Heap.lt_size hg
  have ltS : S < s.heap.objs.size := Heap.lt_size hS
  unfold Builtin.«set.__init__» noKeywords Builtin.Frozenset.updateFrom
  generalize hPI : pyIter = PI
  wp_walk
  subst hPI
  refine wpAny_pyIter_list hl (wpAny_bind (wpAny_runValue ?_))
  refine set_update_ints ((Walks.list (A := A.in1.in1.in1) (by simp [hh]) _ l (Nat.ne_of_lt ltl) items).toS) S ?_ ns hlen hb (fun i v hv => ?_) items.size 0 _ (Nat.sub_zero _) (Nat.zero_le _) ⟨⟨_, Heap.get?_push_size _ rfl, rfl, rfl⟩, hl.push _⟩ ⟨0, Nat.le_refl 0, setR_new_at (Heap.get?_push_of_some _ hS)⟩ fun s' c' hm hc' hR => ?_
  · simp only [List.mem_cons, List.not_mem_nil, or_false, not_or]
    exact ⟨Nat.ne_of_lt ltS, Ne.symm hlS⟩
  · have lt : i < ns.length := by rw [← hlen]; exact (Array.getElem?_eq_some_iff.mp hv).1
    obtain ⟨t, e⟩ := PyProof.Rows.IntsAre.int_at hi i v (by rw [Array.getElem?_toList]; exact hv)
    refine ⟨ns[i], t, List.getElem?_eq_getElem lt, ?_⟩
    rw [e, List.getD_eq_getElem?_getD, List.getElem?_eq_getElem lt]
    rfl
  · have es : s' = { s with heap := s'.heap, toks := s'.toks } := by
      have a1 := hm.gens
      have a2 := hm.drawn
      have a3 := hm.os
      cases s'
      cases s
      simp only at a1 a2 a3
      subst a2 a3
      cases a1
      rfl
    show wpAny _ _ _ _ _ _
    refine wpAny_pure ?_
    show wpAny _ _ (ret Value.none) _ _ _
    refine wpAny_pure ?_
    show R _ _
    rw [es]
    rw [hlen] at hc'
    refine q _ _ c' hR hc' fun b o hbS e => hm.heap b o ?_ (Heap.get?_push_of_some _ e)
    simp only [List.mem_cons, List.not_mem_nil, or_false, not_or]
    exact ⟨hbS, Nat.ne_of_lt (Heap.lt_size e)⟩
/-- the object of an empty set -/
abbrev emptyS (w : World) : Obj := { cls := .type "set", dict := none, data := .set #[] 0 (.fresh 0 0 (!w.params.followText "set-order")) }
set_option maxHeartbeats 3200000 in
/-- set(xs) -/
theorem set_list {l : Addr} {items : Array Value} {ns : List Int} {Q : Value → Shared → Prop} (hh : A.handled = none) (hl : s.heap.IsList l items) (hi : IntsAre items.toList ns) (hb : ns.length + 1 < scanBound)
    (q : ∀ h' tk c, SetR w h' s.heap.objs.size (fun j => decide (j ∈ ns)) c → c ≤ ns.length → (∀ b o, s.heap.get? b = some o → h'.get? b = some o) → Q (.ref s.heap.objs.size) { s with heap := h', toks := tk }) :
    wpAny (model P w) A (call (.type "set") [.ref l]) Q E s := by
  have T := F.called_set
  obtain ⟨c, tl, t1⟩ := T.mro
  have t2 := T.made
  have t3 := T.sub
  have t4 := T.notType
  have t5 := T.canCreate
  have t6 := F.typeCall_set_1 (.ref l)
  refine wpAny_call (codeAny_of_tree ?_)
  show wpAny _ _ (callAny (.type "set") _) _ _ _
  refine wpAny_pure ⟨Code.quiet_builtin _ (by decide +kernel), codeAny_builtin F.entry_type_call ?_⟩
  rw [Around.under_plain (weight_type_call_type "set" [.ref l] []) rfl]
  repeat (any_goals (first | assumption | wp_step))
  refine codeAny_mono (code_set_led1 (.ref l) (E := E) (Q₁ := fun v s1 => v = .ref s.heap.objs.size ∧ s1 = { s with heap := s.heap.push (emptyS w) }) ⟨rfl, rfl⟩) fun r s1 hr => ?_
  rcases r with e | f
  · exact hr
  · cases f with
    | ret v =>
      obtain ⟨rfl, rfl⟩ := hr
      have hS : (s.heap.push (emptyS w)).get? s.heap.objs.size = some (emptyS w) := Heap.get?_push_size _ rfl
      have t7 : Shared.TypeIs { s with heap := s.heap.push (emptyS w) } (.ref s.heap.objs.size) "set" := ⟨_, hS, rfl⟩
      have t8 := T.init.lookup
      have t9 := T.init.bind (.ref s.heap.objs.size)
      repeat (any_goals (first | assumption | wp_step))
      refine codeAny_mono (codeAny_call_builtin (R := wants (fun r s2 => r = .none ∧ ∃ h' tk c, s2 = { s with heap := h', toks := tk } ∧ SetR w h' s.heap.objs.size (fun j => decide (j ∈ ns)) c ∧ c ≤ ns.length ∧ ∀ b o, s.heap.get? b = some o → h'.get? b = some o) E) T.init.plain F.entry_set_init (check_set_init_1 t7 ?_)) fun r2 s2 hr2 => ?_
      · refine fill_list (R := wants _ E) hh hS (hl.push _) hi hb fun h' tk c hR hc hk => ⟨rfl, h', tk, c, rfl, hR, hc, fun b o e => hk b o (Nat.ne_of_lt (Heap.lt_size e)) (Heap.get?_push_of_some _ e)⟩
      · rcases r2 with e | f2
        · exact hr2
        · cases f2 with
          | ret v2 =>
            obtain ⟨rfl, h', tk, c, rfl, hR, hc, hk⟩ := hr2
            repeat (any_goals (first | assumption | wp_step))
            exact q h' tk c hR hc hk
          | _ => exact hr2.elim
    | _ => exact hr.elim
end
end VL
namespace VL
open PySem PySem.Spec PyProof.Rows L2
def keyOf : D → Option Key
  | .int i => some (.inl i)
  | .str x => some (.inr x)
  | _ => none
def keysOf : List D → Option (List Key)
  | [] => some []
  | d :: r => match keyOf d, keysOf r with
    | some k, some ks => some (k :: ks)
    | _, _ => none
section
variable {κ : Type} [DecidableEq κ]
def getE (l : List (κ × D)) (k : κ) : Option D := (l.find? fun e => decide (e.1 = k)).map (·.2)
def putE (l : List (κ × D)) (k : κ) (d : D) : List (κ × D) := if (l.any fun e => decide (e.1 = k)) = true then l.map (fun e => if e.1 = k then (e.1, d) else e) else l ++ [(k, d)]
theorem getE_cons {e : κ × D} {l : List (κ × D)} {k : κ} : getE (e :: l) k = if e.1 = k then some e.2 else getE l k := by
  unfold getE
  rw [List.find?_cons]
  by_cases h : e.1 = k <;> simp [h]
end
section
variable {K : PySem.W.Frag} {G : Hp} {c : Cs} {H : Hp}
theorem keyOf_r {d : D} {v : V} {k : Key} (r : Rep K G d v) (h : keyOf d = some k) : v = kV k := by
  cases d <;> first
    | (simp [keyOf] at h; done)
    | (simp only [keyOf, Option.some.injEq] at h; subst h; exact r)
theorem keysOf_r : ∀ {ds : List D} {vs : List V} {ks : List Key}, Reps K G ds vs → keysOf ds = some ks → vs = ks.map kV
  | [], _, _, r, h => by cases h; exact r
  | d :: ds, _, ks, r, h => by
    obtain ⟨v, t, rfl, h1, h2⟩ := r
    unfold keysOf at h
    cases e1 : keyOf d with
    | none => rw [e1] at h; cases h
    | some k =>
      cases e2 : keysOf ds with
      | none => rw [e1, e2] at h; cases h
      | some m =>
        rw [e1, e2] at h
        cases h
        rw [keyOf_r h1 e1, keysOf_r h2 e2]
        rfl
variable {κ : Type} [DecidableEq κ]
theorem repK_nil {l' : List (κ × V)} : RepK K G ([] : List (κ × D)) l' ↔ l' = [] := ⟨fun ⟨_, _, e⟩ => e, fun e => ⟨[], rfl, e⟩⟩
theorem repK_cons {e : κ × D} {l : List (κ × D)} {l' : List (κ × V)} : RepK K G (e :: l) l' ↔ ∃ v r, l' = (e.1, v) :: r ∧ Rep K G e.2 v ∧ RepK K G l r := by
  constructor
  · rintro ⟨vs, h, rfl⟩
    obtain ⟨v, r, rfl, h1, h2⟩ := h
    exact ⟨v, _, rfl, h1, r, h2, rfl⟩
  · rintro ⟨v, r, rfl, h1, vs, h2, rfl⟩
    exact ⟨v :: vs, ⟨v, vs, rfl, h1, h2⟩, rfl⟩
theorem repK_get {k : κ} {l : List (κ × D)} : ∀ {l' : List (κ × V)}, RepK K G l l' → (getE l k = none → valV l' k = none) ∧ ∀ d, getE l k = some d → ∃ v, valV l' k = some v ∧ Rep K G d v := by
  induction l with
  | nil => intro l' h; rw [repK_nil.mp h]; exact ⟨fun _ => rfl, fun d e => by cases e⟩
  | cons e l ih =>
    intro l' h
    obtain ⟨v, r, rfl, h1, h2⟩ := repK_cons.mp h
    rw [getE_cons]
    by_cases q : e.1 = k
    · rw [if_pos q, valV_pos (p := (e.1, v)) q]
      exact ⟨(fun z => by cases z), fun d z => by cases z; exact ⟨v, rfl, h1⟩⟩
    · rw [if_neg q, valV_neg (p := (e.1, v)) q]
      exact ih h2
theorem repK_any {k : κ} {l : List (κ × D)} : ∀ {l' : List (κ × V)}, RepK K G l l' → (l'.any fun e => decide (e.1 = k)) = l.any fun e => decide (e.1 = k) := by
  induction l with
  | nil => intro l' h; rw [repK_nil.mp h]; rfl
  | cons e l ih => intro l' h; obtain ⟨v, r, rfl, _, h2⟩ := repK_cons.mp h; rw [List.any_cons, List.any_cons, ih h2]
theorem repK_app {m : List (κ × D)} {m' : List (κ × V)} (hm : RepK K G m m') {l : List (κ × D)} : ∀ {l' : List (κ × V)}, RepK K G l l' → RepK K G (l ++ m) (l' ++ m') := by
  induction l with
  | nil => intro l' h; rw [repK_nil.mp h]; exact hm
  | cons e l ih => intro l' h; obtain ⟨v, r, rfl, h1, h2⟩ := repK_cons.mp h; exact repK_cons.mpr ⟨v, _, rfl, h1, ih h2⟩
theorem repK_put {k : κ} {d : D} {v : V} (rv : Rep K G d v) {l : List (κ × D)} {l' : List (κ × V)} (h : RepK K G l l') : RepK K G (putE l k d) (putK l' k v) := by
  unfold putE putK
  rw [repK_any h]
  split
  · rename_i hany
    clear hany
    induction l generalizing l' with
    | nil => rw [repK_nil.mp h]; exact repK_nil.mpr rfl
    | cons e l ih =>
      obtain ⟨u, r, rfl, h1, h2⟩ := repK_cons.mp h
      rw [List.map_cons, List.map_cons]
      by_cases q : e.1 = k
      · rw [if_pos q, if_pos (show (e.1, u).1 = k from q)]
        exact repK_cons.mpr ⟨v, _, rfl, rv, ih h2⟩
      · rw [if_neg q, if_neg (show ¬ (e.1, u).1 = k from q)]
        exact repK_cons.mpr ⟨u, _, rfl, h1, ih h2⟩
  · exact repK_app (repK_cons.mpr ⟨v, [], rfl, rv, repK_nil.mpr rfl⟩) h
end
/-- what the dict d holds at y; none: not a dict, not such a key -/
def dGet (c : Cs) : D → D → Option (Option D)
  | .ptr p, y => match c p with
    | some (.dic l) => (keyOf y).map (getE l)
    | some (.dit l) => match y with
      | .tup ds => (keysOf ds).map (getE l)
      | _ => none
    | _ => none
  | _, _ => none
section
variable {K : PySem.W.Frag} {G : Hp} {c : Cs} {H : Hp}
theorem dget_at {d y : D} {x u : V} {o : Option D} (s : SR K G c H) (rd : Rep K G d x) (ry : Rep K G y u) (h : dGet c d y = some o) : ∃ a o', x = .ref a ∧ DGet H a u o' ∧ (o = none → o' = none) ∧ ∀ e, o = some e → ∃ v, o' = some v ∧ Rep K G e v := by
  cases d <;> first
    | (simp [dGet] at h; done)
    | skip
  rename_i p
  unfold dGet at h
  dsimp only at h
  cases hc : c p with
  | none => rw [hc] at h; cases h
  | some z =>
    rw [hc] at h
    cases z <;> first
      | (cases h; done)
      | skip
    · rename_i l
      obtain ⟨_, l', e, rl⟩ := s.at_ _ _ hc
      dsimp only at h
      cases hk : keyOf y with
      | none => rw [hk] at h; cases h
      | some k =>
        rw [hk] at h
        cases h
        obtain ⟨g1, g2⟩ := repK_get (k := k) rl
        exact ⟨p, valV l' k, rd, .inl ⟨l', k, .inl e, keyOf_r ry hk, rfl⟩, g1, g2⟩
    · rename_i l
      obtain ⟨_, l', e, rl⟩ := s.at_ _ _ hc
      cases y <;> first
        | (cases h; done)
        | skip
      rename_i ds
      dsimp only at h
      cases hk : keysOf ds with
      | none => rw [hk] at h; cases h
      | some k =>
        rw [hk] at h
        cases h
        obtain ⟨b, vs, eb, h1, h2⟩ := ry
        have ev := keysOf_r h2 hk
        obtain ⟨g1, g2⟩ := repK_get (k := k) rl
        exact ⟨p, valV l' k, rd, .inr ⟨l', k, b, .inl e, eb, by rw [← ev]; exact s.sub _ _ h1, rfl⟩, g1, g2⟩
end
section
variable {X : Cx} {W : WX} {a b e f o : Expr} {es : List Expr} {wa wb we wo wf : WE} {pos apos cpos pos' : Pos} {k : Nat}
/-- d[y], there -/
def oDGet : Op2 := fun x y c Q => ∃ d, dGet c x y = some (some d) ∧ Q d c
theorem je_dget (hr : Room k X.A) (ha : JE X W a wa) (hb : JE X W b wb) (hs : NoSl b := by exact fun _ _ => rfl) : JE X W (.Subscript a b pos) (wBin oDGet wa wb) := by
  refine PE.of (pe_dget (by have := hr.un; omega) ha hb hs) fun σ H Q ⟨G, en, c, Q0, X0, s, er, q, x0, kk⟩ => ?_
  refine ⟨G, en, c, _, X0, s, er, q, x0, fun d1 c1 v1 H1 G1 q1 g1 s1 r1 => ?_⟩
  refine ⟨G1, en, c1, _, X0, s1, er.mono g1.g, q1, x0.more g1, fun d2 c2 v2 H2 G2 q2 g2 s2 r2 => ?_⟩
  obtain ⟨d, hd, q2⟩ := q2
  obtain ⟨p, o', ep, g, _, g2'⟩ := dget_at s2 (Rep.mono g2.g _ _ r1) r2 hd
  obtain ⟨v, rfl, rv⟩ := g2' d rfl
  exact ⟨p, v, ep, g, kk _ c2 _ H2 G2 q2 (g1.trans g2) s2 rv⟩
end
end VL
namespace VL
open PySem PySem.Spec PyProof.Rows L2
theorem adoptK {K : PySem.W.Frag} {G1 c1 H1 G c H} {p : Addr} {l' : List (Key × V)} {l : List (Key × D)} (s : SR K G c H) (g : Gr G1 c1 H1 G c H) (h1 : H1 p = none) (h : H p = some (.dK l')) (hc : c p = none) (hg : G p = none) (r : RepK K G l l') :
    SR K G (cup c p (.dic l)) H ∧ Gr G1 c1 H1 G (cup c p (.dic l)) H := by
  refine ⟨⟨s.sub, fun a z e => ?_⟩, ⟨g.g, g.keep, fun a e => ?_, g.ng⟩⟩
  · by_cases q : a = p
    · subst q; rw [cup_same] at e; cases e; exact ⟨hg, l', h, r⟩
    · rw [cup_ne q] at e; exact s.at_ a z e
  · by_cases q : a = p
    · subst q; exact .inr h1
    · rw [cup_ne q] at e; exact g.nc _ e
end VL
namespace VL
open PySem PySem.Spec PyProof.Rows L2
/-- the objects at T are known -/
def keepT (h : Heap) (T : List Addr) (H : Hp) : Hp := fun b => if b ∈ T then (h.get? b).map frzO else H b
def dropT (T : List Addr) (H : Hp) : Hp := fun b => if b ∈ T then none else H b
theorem keepT_in {h : Heap} {T : List Addr} {H : Hp} {b : Addr} (m : b ∈ T) : keepT h T H b = (h.get? b).map frzO := if_pos m
theorem frzO_at {P : Program} {w : World} {H : Hp} {h : Heap} {b : Addr} {o : Obj} (x : HOk P w H h) (e : H b = some (frzO o)) : h.get? b = some o := (x b _ e).1
section
variable {K : PySem.W.Frag} {G G' H H' : Hp} {T : List Addr}
/-- G' is G without known things -/
def Less (G G' : Hp) : Prop := ∀ b o, G b = some o → (∀ x, o ≠ frzO x) → G' b = some o
theorem Less.rd {xs : List V} (L : Less G G') {a : Addr} (h : SqL K G a xs) : SqL K G' a xs := by
  rcases h with (h | ⟨o, h⟩) | h
  · exact .inl (.inl (L _ _ h (fun x z => nomatch z)))
  · exact .inl (.inr ⟨o, L _ _ h (fun x z => nomatch z)⟩)
  · exact .inr h
mutual
theorem Rep.less (L : Less G G') : ∀ (d : D) (v : V), Rep K G d v → Rep K G' d v
  | .non, _, h => h
  | .bl _, _, h => h
  | .int _, _, h => h
  | .str _, _, h => h
  | .ptr _, _, h => h
  | .ty _, _, h => h
  | .tup ds, v, h => by
    obtain ⟨a, vs, e, hs, hr⟩ := h
    exact ⟨a, vs, e, L _ _ hs (fun x z => nomatch z), Reps.less L ds vs hr⟩
  | .lst ds, v, h => by
    obtain ⟨a, vs, e, hs, hr⟩ := h
    exact ⟨a, vs, e, L _ _ hs (fun x z => nomatch z), Reps.less L ds vs hr⟩
  | .scr ns, v, h => by
    obtain ⟨a, e, hs⟩ := h
    exact ⟨a, e, L.rd hs⟩
theorem Reps.less (L : Less G G') : ∀ (ds : List D) (vs : List V), Reps K G ds vs → Reps K G' ds vs
  | [], _, h => h
  | d :: ds, vs, h => by
    obtain ⟨v, r, e, h1, h2⟩ := h
    exact ⟨v, r, e, Rep.less L d v h1, Reps.less L ds r h2⟩
end
theorem RepF.less (L : Less G G') : ∀ {fs : List (Str × D)} {fv : List (Str × V)}, RepF K G fs fv → RepF K G' fs fv
  | [], _, h => h
  | (f, d) :: fs, _, ⟨v, r, e, h1, h2⟩ => ⟨v, r, e, Rep.less L _ _ h1, RepF.less L h2⟩
theorem RepK.less {κ : Type} (L : Less G G') {l : List (κ × D)} {l' : List (κ × V)} (h : RepK K G l l') : RepK K G' l l' := let ⟨vs, r, e⟩ := h; ⟨vs, Reps.less L _ _ r, e⟩
end
end VL
set_option maxHeartbeats 2000000
set_option maxHeartbeats 2000000
namespace VL
open PySem PySem.Spec PyProof.Rows L2 LamX
section
variable {Y : Cx} {pins : List (Addr × Obj)} {σ : L2.St} {H : Hp} {s : Shared} {T : List Addr}
/-- the cells, for the time of the body -/
structure Cells (Y : Cx) (s : Shared) (H : Hp) (T : List Addr) : Prop where
  at_ : ∀ b ∈ T, ∃ o, H b = some (frzO o)
theorem Cells.get (F : Cells Y s H T) (I : Inv Y pins σ H s) {b : Addr} (m : b ∈ T) : ∃ o, H b = some (frzO o) ∧ s.heap.get? b = some o := let ⟨o, e⟩ := F.at_ b m; ⟨o, e, frzO_at I.hok e⟩
theorem Cells.keep (F : Cells Y s H T) (I : Inv Y pins σ H s) {b : Addr} (m : b ∈ T) : keepT s.heap T (dropT T H) b = H b := by
  obtain ⟨o, e1, e2⟩ := F.get I m
  rw [keepT_in m, e2, e1]; rfl
end
end VL
set_option maxHeartbeats 2000000
set_option maxHeartbeats 2000000
set_option maxHeartbeats 2000000
set_option maxHeartbeats 4000000
set_option maxHeartbeats 4000000
namespace VL
open PySem PySem.Spec PyProof.Rows L2 RZ
open Sem (wp)
/-- an iterator at `it` over what stands at l -/
structure NxI (prog : Program) (w : World) (it l : Addr) (S : Heap → Nat → Prop) (C : Heap → Array Value → Prop) : Prop where
  fs : ∀ {h h' k}, S h k → (∀ o, h.get? it = some o → h'.get? it = some o) → S h' k
  fc : ∀ {h h' xs}, C h xs → (∀ o, h.get? l = some o → h'.get? l = some o) → C h' xs
  obj : ∀ {h k}, S h k → ∃ o, h.get? it = some o ∧ ∀ v, o.data ≠ .cell v
  item : ∀ {A : Around} {E : Value → Shared → Prop} {Q : Value → Shared → Prop} {s : Shared} {k xs x}, S s.heap k → C s.heap xs → xs[k]? = some x → (∀ h', S h' (k + 1) → Heap.SameBut it s.heap h' → Q x { s with heap := h' }) → wpAny (model prog w) A (Builtin.SmallTypes.nextOf (.ref it)) Q E s
  done : ∀ {A : Around} {E : Value → Shared → Prop} {Q : Value → Shared → Prop} {s : Shared} {k xs}, A.handled = none → S s.heap k → C s.heap xs → xs[k]? = none → (∀ h' e, Heap.ExtBut it s.heap h' → (∃ o, h'.get? e = some o ∧ o.cls = .type "StopIteration") → E (.ref e) { s with heap := h' }) →
    wpAny (model prog w) A (Builtin.SmallTypes.nextOf (.ref it)) Q E s
theorem nx_list {prog : Program} {w : World} {it l : Addr} : NxI prog w it l (fun h k => h.IsListIter it l k) (fun h xs => h.IsList l xs) where
  fs := fun h k => h.at k
  fc := fun h k => h.at k
  obj := fun ⟨o, e, _, d⟩ => ⟨o, e, fun v q => by rw [d] at q; cases q⟩
  item := fun h1 h2 h3 q => wpAny_nextOf_list_item h1 h2 h3 q
  done := fun hh h1 h2 h3 q => wpAny_nextOf_list_end hh h1 h2 h3 q
theorem nx_tup {prog : Program} {w : World} {it l : Addr} : NxI prog w it l (fun h k => h.IsTupleIter it l k) (fun h xs => h.IsTuple l xs) where
  fs := fun h k => h.at k
  fc := fun h k => h.at k
  obj := fun ⟨o, e, _, d⟩ => ⟨o, e, fun v q => by rw [d] at q; cases q⟩
  item := fun h1 h2 h3 q => nextOf_tuple_item h1 h2 h3 q
  done := fun hh h1 h2 h3 q => nextOf_tuple_end hh h1 h2 h3 q
section
variable {prog : Program} {w : World} {A : Around} {E : Value → Shared → Prop} {s : Shared} {it l : Addr} {S : Heap → Nat → Prop} {C : Heap → Array Value → Prop} {k : Nat} {xs : Array Value} {x : Value} {Q : Option Value → Shared → Prop}
theorem nxo_item (N : NxI prog w it l S C) (h1 : S s.heap k) (h2 : C s.heap xs) (h3 : xs[k]? = some x) (q : ∀ h', S h' (k + 1) → Heap.SameBut it s.heap h' → Q (some x) { s with heap := h' }) : wpAny (model prog w) A (Builtin.SmallTypes.nextOrEnd (.ref it)) Q E s := by
  unfold Builtin.SmallTypes.nextOrEnd
  exact wpAny_bind (wpAny_attempt (N.item h1 h2 h3 fun h' a b => wpAny_pure (q h' a b)))
theorem nxo_done (hh : A.handled = none) (N : NxI prog w it l S C) (h1 : S s.heap k) (h2 : C s.heap xs) (h3 : xs[k]? = none) (q : ∀ h', Heap.ExtBut it s.heap h' → Q none { s with heap := h' }) : wpAny (model prog w) A (Builtin.SmallTypes.nextOrEnd (.ref it)) Q E s := by
  unfold Builtin.SmallTypes.nextOrEnd
  refine wpAny_bind (wpAny_attempt (N.done hh h1 h2 h3 fun h' e hx he => ?_))
  obtain ⟨o, ho, hc⟩ := he
  refine wpAny_bind (wpAny_isInstance (T := "StopIteration") (b := true) ⟨o, ho, hc⟩ isSubtype_stop ?_)
  exact wpAny_pure (q h' hx)
end
abbrev ZipS (h : Heap) (z TI TO : Addr) (f0 : Value) (b : Bool) : Prop := h.get? z = some { cls := .type "zip", dict := none, data := .fields #[f0, .bool false, .bool b, .ref TI, .ref TO], slots := #[] }
section
variable {prog : Program} {w : World} {A : Around} {E : Value → Shared → Prop} {s : Shared} {z TI TO i1 i2 l1 l2 : Addr} {k1 k2 : Nat} {xs ys : Array Value} {x y a b : Value} {S1 S2 : Heap → Nat → Prop} {C1 C2 : Heap → Array Value → Prop}
theorem zm_item (D : ZipApart z TI TO i1 i2 l1 l2) (N1 : NxI prog w i1 l1 S1 C1) (N2 : NxI prog w i2 l2 S2 C2) (hz : ZipS s.heap z TI TO .none false) (hTI : IsPair s.heap TI (.ref i1) (.ref i2)) (hTO : IsPair s.heap TO a b) (h1 : S1 s.heap k1) (h2 : S2 s.heap k2) (c1 : C1 s.heap xs) (c2 : C2 s.heap ys)
    (hx : xs[k1]? = some x) (hy : ys[k2]? = some y) {Q : Value → Shared → Prop}
    (hQ : ∀ h', ZipS h' z TI TO (rawInt s.heap.objs.size) false → IsPair h' TO x y → S1 h' (k1 + 1) → S2 h' (k2 + 1) → IsPair h' s.heap.objs.size x y → h'.objs.size = s.heap.objs.size + 1 → (∀ c o, c ≠ z → c ≠ TO → c ≠ i1 → c ≠ i2 → s.heap.get? c = some o → h'.get? c = some o) → Q (.ref s.heap.objs.size) { s with heap := h' }) :
    wpAny (model prog w) A (Builtin.«zip.__next__» ⟨[.ref z], []⟩) (fun fin s' => ∃ v, fin = .done (.ret v) ∧ Q v s') E s := by
  have p1 : wpAny (model prog w) A (field (.ref z) 2) (fun v s' => v = .bool false ∧ s' = s) E s := wpAny_field hz rfl (x := .bool false) rfl ⟨rfl, rfl⟩
  have p2 : wpAny (model prog w) A (field (.ref z) 3) (fun v s' => v = .ref TI ∧ s' = s) E s := wpAny_field hz rfl (x := .ref TI) rfl ⟨rfl, rfl⟩
  show wpAny _ _ (field (.ref z) 2 >>= fun _ => _) _ _ s
  refine wpAny_bind (wpAny_mono p1 (fun v s' e => ?_) fun _ _ e => e); obtain ⟨rfl, rfl⟩ := e
  show wpAny _ _ (field (.ref z) 3 >>= fun _ => _) _ _ s'
  refine wpAny_bind (wpAny_mono p2 (fun v s2 e => ?_) fun _ _ e => e); obtain ⟨rfl, rfl⟩ := e
  refine wpAny_bind (wpAny_seqItems hTI rfl ?_); show wpAny _ _ (Builtin.SmallTypes.ownedTupleIsFree (.ref z) >>= fun _ => _) _ _ s2
  refine wpAny_bind ?_; unfold Builtin.SmallTypes.ownedTupleIsFree
  refine wpAny_bind (wpAny_field hz rfl (x := .none) rfl (wpAny_pure ?_)); simp only [if_true]
  refine wpAny_bind (wpAny_rule (wpAny_bind (wpAny_field hz rfl (x := .ref TO) rfl ?_)))
  refine wpAny_bind (wpAny_setField_rec hz (by simp) fun g1 gz1 sb1 => ?_); replace gz1 : ZipS g1 z TI TO .ellipsis false := gz1
  refine wpAny_bind ?_; simp only [List.zipIdx_cons, List.zipIdx_nil, List.forIn_cons, List.forIn_nil]
  refine wpAny_bind (wpAny_bind (wpAny_onRaise ?_)); show wpAny _ _ (Builtin.SmallTypes.nextOf (.ref i1) >>= fun _ => _) _ _ _
  refine wpAny_bind (N1.item (N1.fs h1 fun o e => sb1.extBut _ o D.i1z e) (N1.fc c1 fun o e => sb1.extBut _ o D.l1z e) hx fun g2 t1 sb2 => wpAny_pure ?_)
  have o2 : IsPair g2 TO a b := sb2.extBut _ _ D.TOi1 (sb1.extBut _ _ D.TOz hTO)
  refine wpAny_bind (wpAny_seqItems o2 rfl ?_); refine wpAny_bind (wpAny_updateSeq_pair o2 fun g3 o3 sb3 => ?_)
  replace o3 : IsPair g3 TO x b := o3
  refine wpAny_bind (wpAny_letGo (wpAny_pure ?_)); refine wpAny_bind (wpAny_bind (wpAny_onRaise ?_))
  have t2 : S2 g3 k2 := N2.fs (N2.fs (N2.fs h2 fun o e => sb1.extBut _ o D.i2z e) fun o e => sb2.extBut _ o D.i12.symm e) fun o e => sb3.extBut _ o D.TOi2.symm e
  have d2 : C2 g3 ys := N2.fc (N2.fc (N2.fc c2 fun o e => sb1.extBut _ o D.l2z e) fun o e => sb2.extBut _ o D.l2i1 e) fun o e => sb3.extBut _ o D.l2TO e
  show wpAny _ _ (Builtin.SmallTypes.nextOf (.ref i2) >>= fun _ => _) _ _ _
  refine wpAny_bind (N2.item t2 d2 hy fun g4 t4 sb4 => wpAny_pure ?_)
  have o4 : IsPair g4 TO x b := sb4.extBut _ _ D.TOi2 o3
  refine wpAny_bind (wpAny_seqItems o4 rfl ?_); refine wpAny_bind (wpAny_updateSeq_pair o4 fun g5 o5 sb5 => ?_)
  replace o5 : IsPair g5 TO x y := o5
  refine wpAny_bind (wpAny_letGo (wpAny_pure (wpAny_pure ?_))); refine wpAny_bind (wpAny_seqItems o5 rfl ?_)
  refine wpAny_bind (wpAny_newTuple ?_)
  have n5 : g5.objs.size = s2.heap.objs.size := by rw [sb5.1, sb4.1, sb3.1, sb2.1, sb1.1]
  have z5 : ZipS g5 z TI TO .ellipsis false := sb5.extBut _ _ D.TOz.symm (sb4.extBut _ _ D.i2z.symm (sb3.extBut _ _ D.TOz.symm (sb2.extBut _ _ D.i1z.symm gz1)))
  have kp : ∀ c o, c ≠ z → c ≠ TO → c ≠ i1 → c ≠ i2 → s2.heap.get? c = some o → g5.get? c = some o := fun c o q1 q2 q3 q4 e => sb5.extBut _ _ q2 (sb4.extBut _ _ q4 (sb3.extBut _ _ q2 (sb2.extBut _ _ q3 (sb1.extBut _ _ q1 e))))
  have u1 : S1 g5 (k1 + 1) := N1.fs (N1.fs (N1.fs t1 fun o e => sb3.extBut _ o D.TOi1.symm e) fun o e => sb4.extBut _ o D.i12 e) fun o e => sb5.extBut _ o D.TOi1.symm e
  have u2 : S2 g5 (k2 + 1) := N2.fs t4 fun o e => sb5.extBut _ o D.TOi2.symm e
  have zlt : z < g5.objs.size := Heap.lt_size z5
  show wpAny _ _ (Builtin.SmallTypes.ownedTupleHandOut (.ref z) (.ref g5.objs.size) >>= fun _ => _) _ _ _
  refine wpAny_bind ?_; unfold Builtin.SmallTypes.ownedTupleHandOut
  have z6 : ZipS (g5.push { cls := .type "tuple", data := .seq #[x, y] }) z TI TO .ellipsis false := Heap.get?_push_of_some _ z5
  refine wpAny_bind (wpAny_setField_rec z6 (by simp) fun g7 z7 sb7 => ?_); replace z7 : ZipS g7 z TI TO (rawInt g5.objs.size) false := z7
  refine wpAny_setField_rec z7 (by simp) fun g8 z8 sb8 => ?_; replace z8 : ZipS g8 z TI TO (rawInt g5.objs.size) false := z8
  have up : ∀ c o, c ≠ z → g5.get? c = some o → g8.get? c = some o := fun c o q e => sb8.extBut _ _ q (sb7.extBut _ _ q (Heap.get?_push_of_some _ e))
  have w8 : IsPair g8 g5.objs.size x y := sb8.extBut _ _ (Nat.ne_of_gt zlt) (sb7.extBut _ _ (Nat.ne_of_gt zlt) (Heap.get?_push_size _ rfl))
  have n8 : g8.objs.size = g5.objs.size + 1 := by rw [sb8.1, sb7.1, Heap.size_push]
  rw [n5] at z8 w8 n8; refine wpAny_pure ⟨_, rfl, ?_⟩; show Q (.ref g5.objs.size) _; rw [n5]
  exact hQ g8 z8 (up _ _ D.TOz o5) (N1.fs u1 fun o e => up _ o D.i1z e) (N2.fs u2 fun o e => up _ o D.i2z e) w8 n8 fun c o q1 q2 q3 q4 e => up c o q1 (kp c o q1 q2 q3 q4 e)
theorem zs_item (D : ZipApart z TI TO i1 i2 l1 l2) (N1 : NxI prog w i1 l1 S1 C1) (N2 : NxI prog w i2 l2 S2 C2) (hz : ZipS s.heap z TI TO .none true) (hTI : IsPair s.heap TI (.ref i1) (.ref i2)) (hTO : IsPair s.heap TO a b) (h1 : S1 s.heap k1) (h2 : S2 s.heap k2) (c1 : C1 s.heap xs) (c2 : C2 s.heap ys)
    (hx : xs[k1]? = some x) (hy : ys[k2]? = some y) {Q : Value → Shared → Prop}
    (hQ : ∀ h', ZipS h' z TI TO (rawInt s.heap.objs.size) true → IsPair h' TO x y → S1 h' (k1 + 1) → S2 h' (k2 + 1) → IsPair h' s.heap.objs.size x y → h'.objs.size = s.heap.objs.size + 1 → (∀ c o, c ≠ z → c ≠ TO → c ≠ i1 → c ≠ i2 → s.heap.get? c = some o → h'.get? c = some o) → Q (.ref s.heap.objs.size) { s with heap := h' }) :
    wpAny (model prog w) A (Builtin.«zip.__next__» ⟨[.ref z], []⟩) (fun fin s' => ∃ v, fin = .done (.ret v) ∧ Q v s') E s := by
  have p1 : wpAny (model prog w) A (field (.ref z) 2) (fun v s' => v = .bool true ∧ s' = s) E s := wpAny_field hz rfl (x := .bool true) rfl ⟨rfl, rfl⟩
  have p2 : wpAny (model prog w) A (field (.ref z) 3) (fun v s' => v = .ref TI ∧ s' = s) E s := wpAny_field hz rfl (x := .ref TI) rfl ⟨rfl, rfl⟩
  show wpAny _ _ (field (.ref z) 2 >>= fun _ => _) _ _ s
  refine wpAny_bind (wpAny_mono p1 (fun v s' e => ?_) fun _ _ e => e); obtain ⟨rfl, rfl⟩ := e
  show wpAny _ _ (field (.ref z) 3 >>= fun _ => _) _ _ s'
  refine wpAny_bind (wpAny_mono p2 (fun v s2 e => ?_) fun _ _ e => e); obtain ⟨rfl, rfl⟩ := e
  refine wpAny_bind (wpAny_seqItems hTI rfl ?_); show wpAny _ _ (Builtin.SmallTypes.ownedTupleIsFree (.ref z) >>= fun _ => _) _ _ s2
  refine wpAny_bind ?_; unfold Builtin.SmallTypes.ownedTupleIsFree
  refine wpAny_bind (wpAny_field hz rfl (x := .none) rfl (wpAny_pure ?_)); simp only [if_true]
  refine wpAny_bind (wpAny_rule (wpAny_bind (wpAny_field hz rfl (x := .ref TO) rfl ?_)))
  refine wpAny_bind (wpAny_setField_rec hz (by simp) fun g1 gz1 sb1 => ?_); replace gz1 : ZipS g1 z TI TO .ellipsis true := gz1
  refine wpAny_bind ?_; simp only [List.zipIdx_cons, List.zipIdx_nil, List.forIn_cons, List.forIn_nil]
  refine wpAny_bind (wpAny_bind (wpAny_onRaise ?_)); show wpAny _ _ (Builtin.SmallTypes.nextOrEnd (.ref i1)) _ _ _
  refine nxo_item N1 (N1.fs h1 fun o e => sb1.extBut _ o D.i1z e) (N1.fc c1 fun o e => sb1.extBut _ o D.l1z e) hx fun g2 t1 sb2 => ?_
  have o2 : IsPair g2 TO a b := sb2.extBut _ _ D.TOi1 (sb1.extBut _ _ D.TOz hTO)
  refine wpAny_bind (wpAny_seqItems o2 rfl ?_); refine wpAny_bind (wpAny_updateSeq_pair o2 fun g3 o3 sb3 => ?_)
  replace o3 : IsPair g3 TO x b := o3
  refine wpAny_bind (wpAny_letGo (wpAny_pure ?_)); refine wpAny_bind (wpAny_bind (wpAny_onRaise ?_))
  have t2 : S2 g3 k2 := N2.fs (N2.fs (N2.fs h2 fun o e => sb1.extBut _ o D.i2z e) fun o e => sb2.extBut _ o D.i12.symm e) fun o e => sb3.extBut _ o D.TOi2.symm e
  have d2 : C2 g3 ys := N2.fc (N2.fc (N2.fc c2 fun o e => sb1.extBut _ o D.l2z e) fun o e => sb2.extBut _ o D.l2i1 e) fun o e => sb3.extBut _ o D.l2TO e
  show wpAny _ _ (Builtin.SmallTypes.nextOrEnd (.ref i2)) _ _ _
  refine nxo_item N2 t2 d2 hy fun g4 t4 sb4 => ?_
  have o4 : IsPair g4 TO x b := sb4.extBut _ _ D.TOi2 o3
  refine wpAny_bind (wpAny_seqItems o4 rfl ?_); refine wpAny_bind (wpAny_updateSeq_pair o4 fun g5 o5 sb5 => ?_)
  replace o5 : IsPair g5 TO x y := o5
  refine wpAny_bind (wpAny_letGo (wpAny_pure (wpAny_pure ?_))); refine wpAny_bind (wpAny_seqItems o5 rfl ?_)
  refine wpAny_bind (wpAny_newTuple ?_)
  have n5 : g5.objs.size = s2.heap.objs.size := by rw [sb5.1, sb4.1, sb3.1, sb2.1, sb1.1]
  have z5 : ZipS g5 z TI TO .ellipsis true := sb5.extBut _ _ D.TOz.symm (sb4.extBut _ _ D.i2z.symm (sb3.extBut _ _ D.TOz.symm (sb2.extBut _ _ D.i1z.symm gz1)))
  have kp : ∀ c o, c ≠ z → c ≠ TO → c ≠ i1 → c ≠ i2 → s2.heap.get? c = some o → g5.get? c = some o := fun c o q1 q2 q3 q4 e => sb5.extBut _ _ q2 (sb4.extBut _ _ q4 (sb3.extBut _ _ q2 (sb2.extBut _ _ q3 (sb1.extBut _ _ q1 e))))
  have u1 : S1 g5 (k1 + 1) := N1.fs (N1.fs (N1.fs t1 fun o e => sb3.extBut _ o D.TOi1.symm e) fun o e => sb4.extBut _ o D.i12 e) fun o e => sb5.extBut _ o D.TOi1.symm e
  have u2 : S2 g5 (k2 + 1) := N2.fs t4 fun o e => sb5.extBut _ o D.TOi2.symm e
  have zlt : z < g5.objs.size := Heap.lt_size z5
  show wpAny _ _ (Builtin.SmallTypes.ownedTupleHandOut (.ref z) (.ref g5.objs.size) >>= fun _ => _) _ _ _
  refine wpAny_bind ?_; unfold Builtin.SmallTypes.ownedTupleHandOut
  have z6 : ZipS (g5.push { cls := .type "tuple", data := .seq #[x, y] }) z TI TO .ellipsis true := Heap.get?_push_of_some _ z5
  refine wpAny_bind (wpAny_setField_rec z6 (by simp) fun g7 z7 sb7 => ?_); replace z7 : ZipS g7 z TI TO (rawInt g5.objs.size) true := z7
  refine wpAny_setField_rec z7 (by simp) fun g8 z8 sb8 => ?_; replace z8 : ZipS g8 z TI TO (rawInt g5.objs.size) true := z8
  have up : ∀ c o, c ≠ z → g5.get? c = some o → g8.get? c = some o := fun c o q e => sb8.extBut _ _ q (sb7.extBut _ _ q (Heap.get?_push_of_some _ e))
  have w8 : IsPair g8 g5.objs.size x y := sb8.extBut _ _ (Nat.ne_of_gt zlt) (sb7.extBut _ _ (Nat.ne_of_gt zlt) (Heap.get?_push_size _ rfl))
  have n8 : g8.objs.size = g5.objs.size + 1 := by rw [sb8.1, sb7.1, Heap.size_push]
  rw [n5] at z8 w8 n8; refine wpAny_pure ⟨_, rfl, ?_⟩; show Q (.ref g5.objs.size) _; rw [n5]
  exact hQ g8 z8 (up _ _ D.TOz o5) (N1.fs u1 fun o e => up _ o D.i1z e) (N2.fs u2 fun o e => up _ o D.i2z e) w8 n8 fun c o q1 q2 q3 q4 e => up c o q1 (kp c o q1 q2 q3 q4 e)
theorem zm_end {Q : Fin → Shared → Prop} (hh : A.handled = none) (D : ZipApart z TI TO i1 i2 l1 l2) (N1 : NxI prog w i1 l1 S1 C1) (N2 : NxI prog w i2 l2 S2 C2) (hz : ZipS s.heap z TI TO .none false) (hTI : IsPair s.heap TI (.ref i1) (.ref i2)) (hTO : IsPair s.heap TO a b) (h1 : S1 s.heap k1) (h2 : S2 s.heap k2) (c1 : C1 s.heap xs) (c2 : C2 s.heap ys)
    (hend : xs[k1]? = none ∨ ys[k2]? = none) (hE : ∀ h' e, (∀ c o, c ≠ z → c ≠ TO → c ≠ i1 → c ≠ i2 → s.heap.get? c = some o → h'.get? c = some o) → (∃ o, h'.get? e = some o ∧ o.cls = .type "StopIteration") → E (.ref e) { s with heap := h' }) :
    wpAny (model prog w) A (Builtin.«zip.__next__» ⟨[.ref z], []⟩) Q E s := by
  show wpAny _ _ (field (.ref z) 2 >>= fun _ => _) _ _ s
  refine wpAny_bind (wpAny_field hz rfl (x := .bool false) rfl ?_); show wpAny _ _ (field (.ref z) 3 >>= fun _ => _) _ _ s
  refine wpAny_bind (wpAny_field hz rfl (x := .ref TI) rfl ?_); refine wpAny_bind (wpAny_seqItems hTI rfl ?_)
  show wpAny _ _ (Builtin.SmallTypes.ownedTupleIsFree (.ref z) >>= fun _ => _) _ _ s
  refine wpAny_bind ?_; unfold Builtin.SmallTypes.ownedTupleIsFree
  refine wpAny_bind (wpAny_field hz rfl (x := .none) rfl (wpAny_pure ?_)); simp only [if_true]
  refine wpAny_bind (wpAny_rule (wpAny_bind (wpAny_field hz rfl (x := .ref TO) rfl ?_)))
  refine wpAny_bind (wpAny_setField_rec hz (by simp) fun g1 gz1 sb1 => ?_); replace gz1 : ZipS g1 z TI TO .ellipsis false := gz1
  refine wpAny_bind ?_; simp only [List.zipIdx_cons, List.zipIdx_nil, List.forIn_cons, List.forIn_nil]
  have s1 := N1.fs h1 fun o e => sb1.extBut _ o D.i1z e
  have e1 := N1.fc c1 fun o e => sb1.extBut _ o D.l1z e
  refine wpAny_bind (wpAny_bind (wpAny_onRaise ?_))
  show wpAny _ _ (Builtin.SmallTypes.nextOf (.ref i1) >>= fun _ => _) _ _ _
  cases hx : xs[k1]? with
  | none =>
    refine wpAny_bind (N1.done hh s1 e1 hx fun g2 e sb2 he => ?_); obtain ⟨oe, ho, hc⟩ := he
    have z2 : ZipS g2 z TI TO .ellipsis false := sb2 _ _ D.i1z.symm gz1
    have ne : e ≠ z := fun q => by rw [q, z2] at ho; cases ho; simp at hc
    refine wpAny_setField_rec z2 (by simp) fun g3 _ sb3 => hE g3 e (fun c o q1 _ q3 _ u => sb3.extBut _ _ q1 (sb2 _ _ q3 (sb1.extBut _ _ q1 u))) ⟨oe, sb3.extBut _ _ ne ho, hc⟩
  | some x =>
    have hy : ys[k2]? = none := hend.resolve_left (by rw [hx]; simp)
    refine wpAny_bind (N1.item s1 e1 hx fun g2 t1 sb2 => wpAny_pure ?_)
    have o2 : IsPair g2 TO a b := sb2.extBut _ _ D.TOi1 (sb1.extBut _ _ D.TOz hTO)
    refine wpAny_bind (wpAny_seqItems o2 rfl ?_); refine wpAny_bind (wpAny_updateSeq_pair o2 fun g3 o3 sb3 => ?_)
    refine wpAny_bind (wpAny_letGo (wpAny_pure ?_)); refine wpAny_bind (wpAny_bind (wpAny_onRaise ?_))
    have t2 : S2 g3 k2 := N2.fs (N2.fs (N2.fs h2 fun o e => sb1.extBut _ o D.i2z e) fun o e => sb2.extBut _ o D.i12.symm e) fun o e => sb3.extBut _ o D.TOi2.symm e
    have d2 : C2 g3 ys := N2.fc (N2.fc (N2.fc c2 fun o e => sb1.extBut _ o D.l2z e) fun o e => sb2.extBut _ o D.l2i1 e) fun o e => sb3.extBut _ o D.l2TO e
    show wpAny _ _ (Builtin.SmallTypes.nextOf (.ref i2) >>= fun _ => _) _ _ _
    refine wpAny_bind (N2.done hh t2 d2 hy fun g4 e sb4 he => ?_); obtain ⟨oe, ho, hc⟩ := he
    have z4 : ZipS g4 z TI TO .ellipsis false := sb4 _ _ D.i2z.symm (sb3.extBut _ _ D.TOz.symm (sb2.extBut _ _ D.i1z.symm gz1))
    have ne : e ≠ z := fun q => by rw [q, z4] at ho; cases ho; simp at hc
    refine wpAny_setField_rec z4 (by simp) fun g5 _ sb5 => hE g5 e (fun c o q1 q2 q3 q4 u => sb5.extBut _ _ q1 (sb4 _ _ q4 (sb3.extBut _ _ q2 (sb2.extBut _ _ q3 (sb1.extBut _ _ q1 u))))) ⟨oe, sb5.extBut _ _ ne ho, hc⟩
theorem zs_end {Q : Fin → Shared → Prop} (hh : A.handled = none) (D : ZipApart z TI TO i1 i2 l1 l2) (N1 : NxI prog w i1 l1 S1 C1) (N2 : NxI prog w i2 l2 S2 C2) (hz : ZipS s.heap z TI TO .none true) (hTI : IsPair s.heap TI (.ref i1) (.ref i2)) (hTO : IsPair s.heap TO a b) (h1 : S1 s.heap k1) (h2 : S2 s.heap k2) (c1 : C1 s.heap xs) (c2 : C2 s.heap ys)
    (hend : xs[k1]? = none ∧ ys[k2]? = none) (hE : ∀ h' e, (∀ c o, c ≠ z → c ≠ TO → c ≠ i1 → c ≠ i2 → s.heap.get? c = some o → h'.get? c = some o) → (∃ o, h'.get? e = some o ∧ o.cls = .type "StopIteration") → E (.ref e) { s with heap := h' }) :
    wpAny (model prog w) A (Builtin.«zip.__next__» ⟨[.ref z], []⟩) Q E s := by
  show wpAny _ _ (field (.ref z) 2 >>= fun _ => _) _ _ s
  refine wpAny_bind (wpAny_field hz rfl (x := .bool true) rfl ?_); show wpAny _ _ (field (.ref z) 3 >>= fun _ => _) _ _ s
  refine wpAny_bind (wpAny_field hz rfl (x := .ref TI) rfl ?_); refine wpAny_bind (wpAny_seqItems hTI rfl ?_)
  show wpAny _ _ (Builtin.SmallTypes.ownedTupleIsFree (.ref z) >>= fun _ => _) _ _ s
  refine wpAny_bind ?_; unfold Builtin.SmallTypes.ownedTupleIsFree
  refine wpAny_bind (wpAny_field hz rfl (x := .none) rfl (wpAny_pure ?_)); simp only [if_true]
  refine wpAny_bind (wpAny_rule (wpAny_bind (wpAny_field hz rfl (x := .ref TO) rfl ?_)))
  refine wpAny_bind (wpAny_setField_rec hz (by simp) fun g1 gz1 sb1 => ?_); replace gz1 : ZipS g1 z TI TO .ellipsis true := gz1
  refine wpAny_bind ?_; simp only [List.zipIdx_cons, List.zipIdx_nil, List.forIn_cons, List.forIn_nil]
  have s1 := N1.fs h1 fun o e => sb1.extBut _ o D.i1z e
  have e1 := N1.fc c1 fun o e => sb1.extBut _ o D.l1z e
  refine wpAny_bind (wpAny_bind (wpAny_onRaise ?_))
  show wpAny _ _ (Builtin.SmallTypes.nextOrEnd (.ref i1)) _ _ _
  refine nxo_done hh N1 s1 e1 hend.1 fun g2 sb2 => ?_
  have z2 : ZipS g2 z TI TO .ellipsis true := sb2 _ _ D.i1z.symm gz1
  refine wpAny_bind (wpAny_setField_rec z2 (by simp) fun g3 _ sb3 => ?_)
  have t2 : S2 g3 k2 := N2.fs (N2.fs (N2.fs h2 fun o e => sb1.extBut _ o D.i2z e) fun o e => sb2 _ o D.i12.symm e) fun o e => sb3.extBut _ o D.i2z e
  have d2 : C2 g3 ys := N2.fc (N2.fc (N2.fc c2 fun o e => sb1.extBut _ o D.l2z e) fun o e => sb2 _ o D.l2i1 e) fun o e => sb3.extBut _ o D.l2z e
  refine wpAny_bind ?_
  wp_delta
  dsimp only; rw [if_neg (by decide)]
  simp only [List.drop_succ_cons, List.drop_zero, List.zipIdx_cons, List.zipIdx_nil, List.forIn_cons, List.forIn_nil]
  refine wpAny_bind (wpAny_bind (wpAny_bind (nxo_done hh N2 t2 d2 hend.2 fun g4 sb4 => ?_)))
  simp only [Option.isSome_none, Bool.false_eq_true, if_false]
  refine wpAny_pure (wpAny_pure (wpAny_bind (wpAny_rule ?_))); unfold Builtin.SmallTypes.stopIteration
  refine wpAny_bind ?_; simp only [newExc, newTuple]
  refine wpAny_bind (wpAny_newObj_type ?_ (by size_fits)); refine wpAny_bind (m := firstArgMember _ _) (wpAny_of_eq (a := Value.none) (by first | rfl | (simp only [firstArgMember]; rfl)) ?_)
  refine wpAny_newObj_type ?_ (by size_fits); simp only [raiseNew]
  refine wpAny_bind (wpAny_handled ?_); rw [show A.handled = none from hh]
  refine wpAny_bind (wpAny_pure (wpAny_throw ?_))
  refine hE _ _ (fun c o q1 q2 q3 q4 u => Heap.get?_push_of_some _ (Heap.get?_push_of_some _ (sb4 _ _ q4 (sb3.extBut _ _ q1 (sb2 _ _ q3 (sb1.extBut _ _ q1 u)))))) ⟨_, Heap.get?_push_size _ rfl, rfl⟩
end
section
variable {prog : Program} {w : World} {A : Around} {E : Value → Shared → Prop} {s : Shared} {z TI TO i1 i2 l1 l2 T : Addr} {k1 k2 : Nat} {xs ys : Array Value} {x y a b : Value} {S1 S2 : Heap → Nat → Prop} {C1 C2 : Heap → Array Value → Prop} {st : Bool}
theorem zx_item {Q : Option Value → Shared → Prop} (D : ZipApart z TI TO i1 i2 l1 l2) (N1 : NxI prog w i1 l1 S1 C1) (N2 : NxI prog w i2 l2 S2 C2) (hz : ZipS s.heap z TI TO .none st) (hTI : IsPair s.heap TI (.ref i1) (.ref i2)) (hTO : IsPair s.heap TO a b) (h1 : S1 s.heap k1) (h2 : S2 s.heap k2) (c1 : C1 s.heap xs) (c2 : C2 s.heap ys)
    (hx : xs[k1]? = some x) (hy : ys[k2]? = some y)
    (hQ : ∀ h', ZipS h' z TI TO (rawInt s.heap.objs.size) st → IsPair h' TO x y → S1 h' (k1 + 1) → S2 h' (k2 + 1) → IsPair h' s.heap.objs.size x y → h'.objs.size = s.heap.objs.size + 1 → (∀ c o, c ≠ z → c ≠ TO → c ≠ i1 → c ≠ i2 → s.heap.get? c = some o → h'.get? c = some o) → Q (some (.ref s.heap.objs.size)) { s with heap := h' }) :
    wpAny (model prog w) A (pyNext (.ref z)) Q E s := by
  have ty : s.TypeIs (.ref z) "zip" := ⟨_, hz, rfl⟩
  unfold pyNext; refine wpAny_bind (wpAny_attempt (wpAny_callSpecial?_slot (name := Str.ofString "__next__") ty F.slot_zip_next (wpAny_call_entry F.slot_zip_next ty F.entry_zip_next ?_ (F.args_zip_next_1 _))))
  cases st
  · exact zm_item D N1 N2 hz hTI hTO h1 h2 c1 c2 hx hy fun h' a1 a2 a3 a4 a5 a6 a7 => wpAny_pure (hQ h' a1 a2 a3 a4 a5 a6 a7)
  · exact zs_item D N1 N2 hz hTI hTO h1 h2 c1 c2 hx hy fun h' a1 a2 a3 a4 a5 a6 a7 => wpAny_pure (hQ h' a1 a2 a3 a4 a5 a6 a7)
theorem zx_end {Q : Option Value → Shared → Prop} (hh : A.handled = none) (D : ZipApart z TI TO i1 i2 l1 l2) (N1 : NxI prog w i1 l1 S1 C1) (N2 : NxI prog w i2 l2 S2 C2) (hz : ZipS s.heap z TI TO .none st) (hTI : IsPair s.heap TI (.ref i1) (.ref i2)) (hTO : IsPair s.heap TO a b) (h1 : S1 s.heap k1) (h2 : S2 s.heap k2) (c1 : C1 s.heap xs) (c2 : C2 s.heap ys)
    (hend : if st = true then xs[k1]? = none ∧ ys[k2]? = none else xs[k1]? = none ∨ ys[k2]? = none) (hQ : ∀ h', (∀ c o, c ≠ z → c ≠ TO → c ≠ i1 → c ≠ i2 → s.heap.get? c = some o → h'.get? c = some o) → Q none { s with heap := h' }) :
    wpAny (model prog w) A (pyNext (.ref z)) Q E s := by
  have ty : s.TypeIs (.ref z) "zip" := ⟨_, hz, rfl⟩
  unfold pyNext; refine wpAny_bind (wpAny_attempt (wpAny_callSpecial?_slot (name := Str.ofString "__next__") ty F.slot_zip_next (wpAny_call_entry F.slot_zip_next ty F.entry_zip_next ?_ (F.args_zip_next_1 _))))
  have fin : ∀ h' e, (∀ c o, c ≠ z → c ≠ TO → c ≠ i1 → c ≠ i2 → s.heap.get? c = some o → h'.get? c = some o) → (∃ o, h'.get? e = some o ∧ o.cls = .type "StopIteration") → wpAny (model prog w) A (isInstance (.ref e) (.type "StopIteration") >>= fun r => if r = true then pure none else throw (.ref e)) Q E { s with heap := h' } := fun h' e hk ⟨o, ho, hc⟩ =>
    wpAny_bind (wpAny_isInstance (T := "StopIteration") (b := true) ⟨o, ho, hc⟩ isSubtype_stop (wpAny_pure (hQ _ hk)))
  cases st
  · exact zm_end hh D N1 N2 hz hTI hTO h1 h2 c1 c2 (by simpa using hend) fin
  · exact zs_end hh D N1 N2 hz hTI hTO h1 h2 c1 c2 (by simpa using hend) fin
theorem zx_go {elts : List Expr} {x1} {pos : Pos} {Q : Unit → Shared → Prop} (hz : ZipS s.heap z TI TO (rawInt T) st) (hQ : ∀ h', ZipS h' z TI TO .none st → Heap.SameBut z s.heap h' → Q () { s with heap := h' }) :
    wpAny (model prog w) A (letOwnedTupleGo (.Tuple elts x1 pos) (.ref z) (.ref T)) Q E s := by
  unfold letOwnedTupleGo; refine wpAny_bind (wpAny_load hz ?_)
  have hc : (["enumerate", "zip", "dict_itemiterator", "dict_reverseitemiterator", "odict_iterator", "itertools.zip_longest", "itertools.pairwise"].contains "zip" && (#[rawInt T, .bool false, .bool st, .ref TI, .ref TO] : Array Value)[0]? == some (rawInt T)) = true := by simp
  show wpAny _ _ (ite (_ = true) _ _) Q E s
  rw [if_pos hc]; refine wpAny_bind (wpAny_rule ?_)
  show wpAny _ _ (setField (.ref z) 0 .none) Q E _; exact wpAny_setField_rec hz (by simp) fun h' hz' hs' => hQ h' hz' hs'
theorem zx_iter {f0 : Value} {Q : Value → Shared → Prop} (hz : ZipS s.heap z TI TO f0 st) (h : Q (.ref z) s) : wpAny (model prog w) A (pyIter (.ref z)) Q E s := by
  have ty : s.TypeIs (.ref z) "zip" := ⟨_, hz, rfl⟩
  refine wpAny_pyIter_slot ty F.slot_zip_iter (wpAny_call_entry F.slot_zip_iter ty F.entry_zip_iter ?_ (F.args_zip_iter_1 _))
  show wpAny _ _ (ret (.ref z)) _ _ s; exact wpAny_pure ⟨_, rfl, "zip", _, ty, F.slot_zip_next.lookup, h⟩
end
def sqB (t : Bool) (K : PySem.W.Frag) (H : Hp) (a : Addr) (xs : List V) : Prop := if t = true then SqT K H a xs else SqL K H a xs
def stB (t : Bool) (it l : Addr) (h : Heap) (k : Nat) : Prop := if t = true then h.IsTupleIter it l k else h.IsListIter it l k
def ctB (t : Bool) (l : Addr) (h : Heap) (xs : Array Value) : Prop := if t = true then h.IsTuple l xs else h.IsList l xs
theorem nx_B (t : Bool) {prog : Program} {w : World} {it l : Addr} : NxI prog w it l (stB t it l) (ctB t l) := by
  cases t
  · exact nx_list
  · exact nx_tup
theorem sqB_at {t : Bool} {X : Cx} {pins : List (Addr × Obj)} {σ : L2.St} {H : Hp} {s : Shared} {a : Addr} {xs : List V} (I : Inv X pins σ H s) (h : sqB t X.K H a xs) : ∃ its : List Value, Vals xs its ∧ ctB t a s.heap its.toArray := by
  cases t
  · obtain ⟨its, r, p, _⟩ := I.list h; exact ⟨its, r, p.isList⟩
  · obtain ⟨its, r, p, _⟩ := I.tuple h; exact ⟨its, r, p⟩
theorem sqB_inj {t : Bool} {X : Cx} {pins : List (Addr × Obj)} {σ : L2.St} {H : Hp} {s : Shared} {a : Addr} {xs ys : List V} (I : Inv X pins σ H s) (h : sqB t X.K H a xs) (h' : sqB t X.K H a ys) : xs = ys := by
  cases t
  · exact I.list_inj h h'
  · exact I.tuple_inj h h'
def ItzB (K : PySem.W.Frag) (t1 t2 st : Bool) (a b : Addr) : It :=
  ⟨fun i H => ∃ (xs ys : List V) (x y : V), sqB t1 K H a xs ∧ sqB t2 K H b ys ∧ xs[i]? = some x ∧ ys[i]? = some y,
    fun i H v H' => ∃ T x y, v = .ref T ∧ H T = none ∧ H' = upd H T (.tup [x, y]) ∧ (∀ xs, sqB t1 K H a xs → xs[i]? = some x) ∧ ∀ ys, sqB t2 K H b ys → ys[i]? = some y,
    fun i H => ∃ xs ys : List V, sqB t1 K H a xs ∧ sqB t2 K H b ys ∧ if st = true then xs.length ≤ i ∧ ys.length ≤ i else xs.length ≤ i ∨ ys.length ≤ i⟩
theorem five {z TI TO i1 i2 c : Addr} (h : c ∈ [z, TI, TO, i1, i2]) : c = z ∨ c = TI ∨ c = TO ∨ c = i1 ∨ c = i2 := by simpa using h
theorem turn_zx {P : Program} {w : World} {K : PySem.W.Frag} {elts : List Expr} {kk : Nat} {tpos : Pos} {a b z TI TO i1 i2 : Addr} {t1 t2 st : Bool} (D : ZipApart z TI TO i1 i2 a b) :
    Turn P w K (.Tuple elts kk tpos) (ItzB K t1 t2 st a b) [z, TI, TO, i1, i2] z (fun i h => ZipS h z TI TO .none st ∧ IsPair h TI (.ref i1) (.ref i2) ∧ (∃ x y, IsPair h TO x y) ∧ stB t1 i1 a h i ∧ stB t2 i2 b h i) where
  mem := by simp
  obj := fun i h ⟨hz, hTI, ⟨x, y, hTO⟩, h1, h2⟩ c hc => by
    obtain ⟨o1, e1, d1⟩ := (nx_B t1 (prog := P) (w := w)).obj h1
    obtain ⟨o2, e2, d2⟩ := (nx_B t2 (prog := P) (w := w)).obj h2
    rcases five hc with q | q | q | q | q <;> rw [q]
    · exact ⟨_, hz, fun v q => nomatch q⟩
    · exact ⟨_, hTI, fun v q => nomatch q⟩
    · exact ⟨_, hTO, fun v q => nomatch q⟩
    · exact ⟨o1, e1, d1⟩
    · exact ⟨o2, e2, d2⟩
  keep := fun i h h' ⟨hz, hTI, ⟨x, y, hTO⟩, h1, h2⟩ k =>
    ⟨k z (by simp) _ hz, k TI (by simp) _ hTI, ⟨x, y, k TO (by simp) _ hTO⟩, (nx_B t1 (prog := P) (w := w)).fs h1 fun o q => k i1 (by simp) o q, (nx_B t2 (prog := P) (w := w)).fs h2 fun o q => k i2 (by simp) o q⟩
  item := by
    intro X hP hw hK hc i pins s σ H E I hf ⟨hz, hTI, ⟨x0, y0, hTO⟩, h1, h2⟩ ⟨xs, ys, x, y, hqx, hqy, hx, hy⟩
    subst hP hw hK
    obtain ⟨its, rv, p⟩ := sqB_at I hqx
    obtain ⟨its2, rv2, p2⟩ := sqB_at I hqy
    obtain ⟨u, hu, ru⟩ := rv.get hx
    obtain ⟨u2, hu2, ru2⟩ := rv2.get hy
    have zl : z < s.heap.objs.size := Heap.lt_size hz
    refine zx_item D (nx_B t1) (nx_B t2) hz hTI hTO h1 h2 p p2 (x := u) (y := u2) (by simpa using hu) (by simpa using hu2) fun h' z' TO' h1' h2' hT hsz hk => ⟨_, rfl, zx_go (s := { s with heap := h' }) z' fun h'' z'' sb => ?_⟩
    have T2 : h''.get? s.heap.objs.size = some { cls := .type "tuple", data := .seq #[u, u2] } := (sb.2 _ (Nat.ne_of_gt zl)).trans hT
    have kp : ∀ c o, c ∉ [z, TI, TO, i1, i2] → s.heap.get? c = some o → h''.get? c = some o := fun c o hb q => (sb.2 c fun e => hb (by simp [e])).trans (hk c o (fun e => hb (by simp [e])) (fun e => hb (by simp [e])) (fun e => hb (by simp [e])) (fun e => hb (by simp [e])) q)
    have nw : ObjOk X.prog X.w (upd H s.heap.objs.size (.tup [x, y])) h'' s.heap.objs.size (.tup [x, y]) := ⟨by show 2 ≤ sizeLine; decide, [u, u2], .cons ru (.cons ru2 .nil), ⟨_, T2, rfl, _, rfl⟩⟩
    have I1 : Inv X pins σ (upd H s.heap.objs.size (.tup [x, y])) { s with heap := h'' } := I.turnedNew (t' := s.toks) (ch := [z, TI, TO, i1, i2]) kp hf (Nat.le_refl _) nw
    refine ⟨.ref s.heap.objs.size, _, I1, rfl, ⟨_, x, y, rfl, I.hok.fresh (Nat.le_refl _), rfl, fun l hl => by rw [sqB_inj I hl hqx]; exact hx, fun l hl => by rw [sqB_inj I hl hqy]; exact hy⟩, ⟨z'', (sb.2 _ D.TIz).trans (hk _ _ D.TIz D.TITO D.TIi1 D.TIi2 hTI), ⟨u, u2, (sb.2 _ D.TOz).trans TO'⟩, ?_, ?_⟩, fun c hcm => ?_⟩
    · exact (nx_B t1 (prog := X.prog) (w := X.w)).fs h1' fun o q => (sb.2 _ D.i1z).trans q
    · exact (nx_B t2 (prog := X.prog) (w := X.w)).fs h2' fun o q => (sb.2 _ D.i2z).trans q
    · obtain ⟨o1, e1, _⟩ := (nx_B t1 (prog := X.prog) (w := X.w)).obj h1
      obtain ⟨o2, e2, _⟩ := (nx_B t2 (prog := X.prog) (w := X.w)).obj h2
      have lt : c < s.heap.objs.size := by
        rcases five hcm with q | q | q | q | q <;> rw [q]
        · exact zl
        · exact Heap.lt_size hTI
        · exact Heap.lt_size hTO
        · exact Heap.lt_size e1
        · exact Heap.lt_size e2
      rw [upd_ne (Nat.ne_of_lt lt)]; exact (hf c hcm).1
  done := by
    intro X hP hw hK hc i pins s σ H E I hf ⟨hz, hTI, ⟨x0, y0, hTO⟩, h1, h2⟩ ⟨xs, ys, hqx, hqy, hend⟩
    subst hP hw hK
    obtain ⟨its, rv, p⟩ := sqB_at I hqx
    obtain ⟨its2, rv2, p2⟩ := sqB_at I hqy
    have l1 := rv.length
    have l2 := rv2.length
    have he : if st = true then its.toArray[i]? = none ∧ its2.toArray[i]? = none else its.toArray[i]? = none ∨ its2.toArray[i]? = none := by
      cases st
      · exact (show xs.length ≤ i ∨ ys.length ≤ i from hend).imp (fun q => by simp; omega) fun q => by simp; omega
      · obtain ⟨q1, q2⟩ : xs.length ≤ i ∧ ys.length ≤ i := hend
        exact ⟨by simp; omega, by simp; omega⟩
    refine zx_end (I.ok.hd hc) D (nx_B t1) (nx_B t2) hz hTI hTO h1 h2 p p2 he fun h' hk => ⟨rfl, I.turnedL (t' := s.toks) (ch := [z, TI, TO, i1, i2]) (fun c o hb q => ?_) hf⟩
    exact hk c o (fun e => hb (by simp [e])) (fun e => hb (by simp [e])) (fun e => hb (by simp [e])) (fun e => hb (by simp [e])) q
  self := fun A i s Q E st h => zx_iter st.1 h
end VL
set_option maxHeartbeats 4000000
namespace VL
open PySem PySem.Spec PyProof.Rows L2 RZ
open Sem (wp)
def itT (t : Bool) : String := if t = true then "tuple_iterator" else "list_iterator"
abbrev zw1 (t1 : Bool) (h : Heap) (l1 : Addr) : Heap := h.push { cls := .type (itT t1), data := .fields #[.ref l1, .int 0 0] }
abbrev zw2 (t1 t2 : Bool) (h : Heap) (l1 l2 : Addr) : Heap := (zw1 t1 h l1).push { cls := .type (itT t2), data := .fields #[.ref l2, .int 0 0] }
abbrev zw3 (t1 t2 : Bool) (h : Heap) (l1 l2 : Addr) : Heap := (zw2 t1 t2 h l1 l2).push { cls := .type "tuple", data := .seq #[.ref h.objs.size, .ref (zw1 t1 h l1).objs.size] }
abbrev zw4 (t1 t2 : Bool) (h : Heap) (l1 l2 : Addr) : Heap := (zw3 t1 t2 h l1 l2).push { cls := .type "tuple", data := .seq #[.none, .none] }
abbrev zw5 (t1 t2 st : Bool) (h : Heap) (l1 l2 : Addr) : Heap := (zw4 t1 t2 h l1 l2).push { cls := .type "zip", data := .fields #[.none, .bool false, .bool st, .ref (zw2 t1 t2 h l1 l2).objs.size, .ref (zw3 t1 t2 h l1 l2).objs.size] }
end VL
set_option maxHeartbeats 2000000
namespace VL
open PySem PySem.Spec PyProof.Rows L2 RZ
theorem ctB_lt {t : Bool} {l : Addr} {h : Heap} {xs : Array Value} (c : ctB t l h xs) : l < h.objs.size := by
  cases t
  · obtain ⟨o, e, _⟩ := c; exact Heap.lt_size e
  · obtain ⟨o, e, _⟩ := c; exact Heap.lt_size e
/-- the lists or tuples side by side -/
def wZipB (wa wb : WE) : WI := fun en c Q X => wa en c (fun d c1 => wb en c1 (fun d' c2 => match seqOf c2 d, seqOf c2 d' with
  | some l, some m => l.length ≤ sizeLine → m.length ≤ sizeLine → Q (List.zipWith (fun x y => .tup [x, y]) l m) (fun c' => seqOf c' d = some l ∧ seqOf c' d' = some m) c2
  | _, _ => False) X) X
theorem sqB_of {K : PySem.W.Frag} {H : Hp} {d : D} {a : Addr} {vs : List V} (h : (isTup d = true ∧ SqT K H a vs) ∨ (isTup d = false ∧ SqL K H a vs)) : sqB (isTup d) K H a vs := by
  rcases h with ⟨e, h⟩ | ⟨e, h⟩ <;> rw [e] <;> exact h
end VL
set_option maxHeartbeats 4000000
namespace VL
open PySem PySem.Spec PyProof.Rows L2 RZ
open Sem (wp)
theorem newClass_zip (a b : Value) (kw : List (Str × Value)) : Builtin.SmallTypes.newClass "zip" ⟨[.type "zip", a, b], kw⟩ = pure (.type "zip", [a, b]) := by
  unfold Builtin.SmallTypes.newClass
  simp only [isType, sub_zip, pure_bind, Bool.not_true, Bool.false_eq_true, if_false]
/-- an iterator is made -/
def Itr (prog : Program) (w : World) (v : Value) (o : Obj) (s : Shared) : Prop := ∀ {A : Around} {E : Value → Shared → Prop} {Q : Value → Shared → Prop}, Q (.ref s.heap.objs.size) { s with heap := s.heap.push o } → wpAny (model prog w) A (pyIter v) Q E s
theorem new_zs (v1 v2 : Value) (o1 o2 : Obj) (prog : Program) (w : World) (A : Around) (E : Value → Shared → Prop) (Q : Fin → Shared → Prop) (s : Shared) (h1 : Itr prog w v1 o1 s) (h2 : Itr prog w v2 o2 { s with heap := s.heap.push o1 })
    (h : Q (.done (.ret (.ref ((((s.heap.push o1).push o2).push { cls := .type "tuple", data := .seq #[.ref s.heap.objs.size, .ref (s.heap.push o1).objs.size] }).push { cls := .type "tuple", data := .seq #[.none, .none] }).objs.size)))
      { s with heap := ((((s.heap.push o1).push o2).push { cls := .type "tuple", data := .seq #[.ref s.heap.objs.size, .ref (s.heap.push o1).objs.size] }).push { cls := .type "tuple", data := .seq #[.none, .none] }).push { cls := .type "zip", data := .fields #[.none, .bool false, .bool true, .ref ((s.heap.push o1).push o2).objs.size, .ref (((s.heap.push o1).push o2).push { cls := .type "tuple", data := .seq #[.ref s.heap.objs.size, .ref (s.heap.push o1).objs.size] }).objs.size] } }) :
    wpAny (model prog w) A (Builtin.«zip.__new__» ⟨[.type "zip", v1, v2], [(Str.ofString "strict", .bool true)]⟩) Q E s := by
  unfold Builtin.«zip.__new__»
  refine wpAny_bind (wpAny_of_eq (newClass_zip _ _ _) ?_)
  try dsimp only
  rw [if_neg (by decide)]
  have e2 : (Str.ofString "strict" != ("strict" : Str)) = false := by decide +kernel
  try simp only [e2, Bool.false_eq_true, if_false]
  try simp only [pure_bind]
  refine wpAny_bind (wpAny_truthy_bool ?_)
  try dsimp only
  refine wpAny_bind ?_
  unfold Builtin.SmallTypes.iterAll
  simp only [List.forIn_cons, List.forIn_nil]
  refine wpAny_bind (wpAny_bind (wpAny_bind (wpAny_holding (h1 ?_))))
  refine wpAny_pure ?_
  try dsimp only
  refine wpAny_bind (wpAny_bind (wpAny_holding (h2 ?_)))
  refine wpAny_pure ?_
  try dsimp only
  refine wpAny_pure ?_
  refine wpAny_pure ?_
  show wpAny _ _ (newTuple [.ref s.heap.objs.size, .ref (s.heap.push o1).objs.size] >>= _) _ _ _
  refine wpAny_bind (wpAny_newTuple ?_)
  show wpAny _ _ (newTuple [.none, .none] >>= _) _ _ _
  refine wpAny_bind (wpAny_newTuple ?_)
  show wpAny _ _ (newObj (.type "zip") (.fields #[.none, .bool false, .bool true, .ref ((s.heap.push o1).push o2).objs.size, .ref (((s.heap.push o1).push o2).push { cls := .type "tuple", data := .seq #[.ref s.heap.objs.size, .ref (s.heap.push o1).objs.size] }).objs.size]) >>= _) _ _ _
  refine wpAny_bind (wpAny_newObj_type ?_)
  exact wpAny_pure h
theorem callWith_tyKw {M : Model} {A : Around} {E : Value → Shared → Prop} {s : Shared} {pos : Pos} {T : String} {args : List (Bool × Sem Value)} {keywords : List (Option Str × Sem Value)} {Q : Value → Shared → Prop}
    (hplain : args.any (·.1) = false) (hkw : keywords.any (·.1.isNone) = false)
    (h : wpAny M A (evalArgs (.type T) true args keywords) (fun a s₁ => wpAny M A (call (.type T) a.pos a.kw) Q E s₁) E s) :
    wpAny M A (callWith pos (.type T) [] args keywords) Q E s := by
  unfold callWith
  refine wpAny_bind (wpAny_holding (wpAny_mono h (fun a s₁ h₁ => wpAny_bind (wpAny_standAt ?_)) fun _ _ x => x))
  simp only [hplain, hkw, Bool.or_false]
  refine wpAny_bind (wpAny_pure ?_)
  exact wpAny_bind (wpAny_mono h₁ (fun r s₂ hr => wpAny_bind (wpAny_holding (wpAny_point (wpAny_pure hr)))) fun _ _ x => x)
theorem typeCall_zs (a b v : Value) : checkTypeCall "zip" ⟨[a, b], [(Str.ofString "strict", v)]⟩ = pure () := by kernel_rfl
theorem newCall_zs (a b v : Value) : checkBuiltinCall "zip.__new__" ⟨[.type "zip", a, b], [(Str.ofString "strict", v)]⟩ = pure () := by kernel_rfl
theorem args_init_zs (obj a b v : Value) : argsOk "object.__init__" ⟨[obj, a, b], [(Str.ofString "strict", v)]⟩ := by unfold argsOk; kernel_rfl
theorem meets_zs (t1 t2 : Bool) (l1 l2 : Addr) (xs ys : Array Value) :
    Meets (Builtin.«zip.__new__» ⟨[.type "zip", .ref l1, .ref l2], [(Str.ofString "strict", .bool true)]⟩) (fun _ R s => ctB t1 l1 s.heap xs ∧ ctB t2 l2 s.heap ys ∧ R (.ok (.ret (.ref (zw4 t1 t2 s.heap l1 l2).objs.size))) { s with heap := zw5 t1 t2 true s.heap l1 l2 }) := by
  refine .of_wp fun prog w A R s h => ?_
  obtain ⟨c1, c2, h⟩ := h
  refine new_zs _ _ { cls := .type (itT t1), data := .fields #[.ref l1, .int 0 0] } { cls := .type (itT t2), data := .fields #[.ref l2, .int 0 0] } prog w _ _ _ s ?_ ?_ ⟨_, rfl, h⟩
  · intro A E Q q
    cases t1
    · exact wpAny_pyIter_list c1 q
    · exact wpAny_pyIter_tuple c1 q
  · intro A E Q q
    cases t2
    · exact wpAny_pyIter_list (Heap.IsList.push c2 _) q
    · exact wpAny_pyIter_tuple (Heap.IsTuple.push c2 _) q
section
variable {prog : Program} {w : World} {A : Around} {E : Value → Shared → Prop} {s : Shared}
theorem call_zs (t1 t2 : Bool) {l1 l2 : Addr} {xs ys : Array Value} {Q : Value → Shared → Prop} (c1 : ctB t1 l1 s.heap xs) (c2 : ctB t2 l2 s.heap ys)
    (h : ∀ h', ZipS h' (s.heap.objs.size + 4) (s.heap.objs.size + 2) (s.heap.objs.size + 3) .none true → IsPair h' (s.heap.objs.size + 2) (.ref s.heap.objs.size) (.ref (s.heap.objs.size + 1)) → IsPair h' (s.heap.objs.size + 3) .none .none →
      stB t1 s.heap.objs.size l1 h' 0 → stB t2 (s.heap.objs.size + 1) l2 h' 0 → (∀ c o, s.heap.get? c = some o → h'.get? c = some o) → Q (.ref (s.heap.objs.size + 4)) { s with heap := h' }) : wpAny (model prog w) A (call (.type "zip") [.ref l1, .ref l2] [(Str.ofString "strict", .bool true)]) Q E s := by
  refine callType_newKw F.called_zip (by decide) (typeCall_zs _ _ _) (newCall_zs _ _ _) (fun obj => args_init_zs obj _ _ _) F.entry_zip_new (meets_zs t1 t2 l1 l2 xs ys) ⟨c1, c2, ?_⟩
  have n1 : (zw1 t1 s.heap l1).objs.size = s.heap.objs.size + 1 := Heap.size_push ..
  have n2 : (zw2 t1 t2 s.heap l1 l2).objs.size = s.heap.objs.size + 2 := by rw [Heap.size_push, n1]
  have n3 : (zw3 t1 t2 s.heap l1 l2).objs.size = s.heap.objs.size + 3 := by rw [Heap.size_push, n2]
  have n4 : (zw4 t1 t2 s.heap l1 l2).objs.size = s.heap.objs.size + 4 := by rw [Heap.size_push, n3]
  have p2 : ∀ c o, (zw2 t1 t2 s.heap l1 l2).get? c = some o → (zw5 t1 t2 true s.heap l1 l2).get? c = some o := fun c o e => Heap.get?_push_of_some _ (Heap.get?_push_of_some _ (Heap.get?_push_of_some _ e))
  have a5 : (zw5 t1 t2 true s.heap l1 l2).get? (zw4 t1 t2 s.heap l1 l2).objs.size = some _ := Heap.get?_push_size _ rfl
  have a4 : (zw5 t1 t2 true s.heap l1 l2).get? (zw3 t1 t2 s.heap l1 l2).objs.size = some _ := Heap.get?_push_of_some _ (Heap.get?_push_size _ rfl)
  have a3 : (zw5 t1 t2 true s.heap l1 l2).get? (zw2 t1 t2 s.heap l1 l2).objs.size = some _ := Heap.get?_push_of_some _ (Heap.get?_push_of_some _ (Heap.get?_push_size _ rfl))
  have a2 : (zw5 t1 t2 true s.heap l1 l2).get? (zw1 t1 s.heap l1).objs.size = some _ := p2 _ _ (Heap.get?_push_size _ rfl)
  have a1 : (zw5 t1 t2 true s.heap l1 l2).get? s.heap.objs.size = some _ := p2 _ _ (Heap.get?_push_of_some _ (Heap.get?_push_size _ rfl))
  show _ ∧ _
  rw [n2, n3, n4] at a5
  rw [n1, n2] at a3
  rw [n3] at a4
  rw [n1] at a2
  rw [n4]
  refine ⟨⟨_, a5, rfl⟩, h _ a5 a3 a4 ?_ ?_ fun c o e => p2 _ _ (Heap.get?_push_of_some _ (Heap.get?_push_of_some _ e))⟩
  · cases t1
    · exact ⟨_, a1, rfl, rfl⟩
    · exact ⟨_, a1, rfl, rfl⟩
  · cases t2
    · exact ⟨_, a2, rfl, rfl⟩
    · exact ⟨_, a2, rfl, rfl⟩
end
def iZipS (K : PySem.W.Frag) (ta : TA) : TI := fun σ H R => ta σ H fun vs H1 => ∃ a b xs ys t1 t2, vs = [.ref a, .ref b] ∧ sqB t1 K H1 a xs ∧ sqB t2 K H1 b ys ∧ R (ItzB K t1 t2 true a b) H1
theorem pi_zipS {X : Cx} {e e2 : Expr} {ta : TA} {p pos tpos cp kp : Pos} {j : Nat} {elts : List Expr} {kk : Nat} (hg : Gl X "zip") (hm : X.mg "zip" = none) (ha : PA X [e, e2] ta)
    (he : backTo pos (starEach [e, e2] X.env) = (false, eval e X.env) :: backTo pos (starEach [e2] X.env) := by rfl) (hpl : (backTo pos (starEach [e, e2] X.env)).any (·.1) = false := by rfl) :
    PI X (.Tuple elts kk tpos) (.Call (.Name "zip" p) [e, e2] [⟨some "strict", .Constant (.bool true) j cp, kp⟩] pos) (iZipS X.K ta) := by
  refine ⟨fun pins s σ H R I h => wpAny_Call_Name_kw (ld_blt I hg hm PyProof.Rows.boot_zip ?_)⟩
  refine callWith_tyKw hpl rfl ?_
  have hA := ha.run pos pins s σ H _ I h
  rw [he] at hA ⊢
  refine evalArgs_kwB rfl ?_
  refine thn hA fun us s1 ⟨vs, H1, I1, r1, a, b, xs, ys, t1, t2, ex, hqx, hqy, q⟩ => ?_
  refine thn ((pk_cons (nm := some (Str.ofString "strict")) (kpos := kp) (pe_bl (b := true) (j := j) (pos := cp)) pk_nil).run pos pins s1 σ H1 (fun zs H2 => zs = [V.bl true] ∧ H2 = H1) I1 ⟨rfl, rfl⟩) fun ws s2 ⟨zs, H2, I2, r2, ez, eH⟩ => ?_
  subst ez
  subst eH
  obtain ⟨w1, rfl, e1⟩ := vals1 r2
  obtain rfl : w1 = Value.bool true := e1
  subst ex
  have hus : us = [Value.ref a, Value.ref b] := by
    rcases r1 with _ | ⟨r, rr⟩
    rcases rr with _ | ⟨r', rr⟩
    cases rr
    cases r
    cases r'
    rfl
  subst hus
  obtain ⟨its, rv, p1⟩ := sqB_at I2 hqx
  obtain ⟨its2, rv2, p2⟩ := sqB_at I2 hqy
  refine call_zs t1 t2 p1 p2 fun h' hz hTI hTO h1 h2 hk => zx_iter hz ?_
  have I3 : Inv X pins σ H2 { s2 with heap := h' } := I2.kept (t' := s2.toks) hk
  refine ⟨s2.heap.objs.size + 4, [s2.heap.objs.size + 4, s2.heap.objs.size + 2, s2.heap.objs.size + 3, s2.heap.objs.size, s2.heap.objs.size + 1], _, _, H2, rfl, I3, turn_zx (PySem.W.ktu_apart s2.heap.objs.size a b (ctB_lt p1) (ctB_lt p2)), ⟨hz, hTI, ⟨_, _, hTO⟩, h1, h2⟩, fun c hcm => ?_, q⟩
  have hle : s2.heap.objs.size ≤ c := by
    rcases five hcm with z | z | z | z | z <;> rw [z] <;> omega
  exact I2.fpOk hle (I2.hok.fresh hle)
/-- lists or tuples of one length, side by side -/
def wZipS (wa wb : WE) : WI := fun en c Q X => wa en c (fun d c1 => wb en c1 (fun d' c2 => match seqOf c2 d, seqOf c2 d' with
  | some l, some m => l.length = m.length ∧ (l.length ≤ sizeLine → Q (List.zipWith (fun x y => .tup [x, y]) l m) (fun c' => seqOf c' d = some l ∧ seqOf c' d' = some m) c2)
  | _, _ => False) X) X
theorem srv_zipS {K : PySem.W.Frag} {G : Hp} {d d' : D} {v v' : V} {l m : List D} (hlm : l.length = m.length) (r : Rep K G d v) (r' : Rep K G d' v') {a b : Addr} (ea : v = .ref a) (eb : v' = .ref b) :
    Srv K G (ItzB K (isTup d) (isTup d') true a b) (List.zipWith (fun x y => .tup [x, y]) l m) (fun c' => seqOf c' d = some l ∧ seqOf c' d' = some m) := by
  intro i G1 c H le s ⟨e, e'⟩
  obtain ⟨a', vs, e1, h1, h2⟩ := seq_at s (Rep.mono le _ _ r) e
  obtain ⟨b', ws, e3, h3, h4⟩ := seq_at s (Rep.mono le _ _ r') e'
  rw [ea] at e1
  rw [eb] at e3
  cases e1
  cases e3
  have q1 := sqB_of h2
  have q2 := sqB_of h4
  refine ⟨fun y hy => ?_, fun hi => ⟨vs, ws, q1, q2, ?_⟩⟩
  · rw [List.getElem?_zipWith] at hy
    cases hl : l[i]? with
    | none => rw [hl] at hy; simp at hy
    | some p =>
      cases hm : m[i]? with
      | none => rw [hl, hm] at hy; simp at hy
      | some q =>
        rw [hl, hm] at hy
        obtain ⟨u, hu, ru⟩ := h1.get hl
        obtain ⟨w, hw, rw'⟩ := h3.get hm
        obtain rfl : D.tup [p, q] = y := by simpa using hy
        refine ⟨⟨vs, ws, u, w, q1, q2, hu, hw⟩, fun x H' z => ?_⟩
        obtain ⟨T, u', w', rfl, hn, rfl, k1, k2⟩ := z
        have z1 := k1 vs q1
        have z2 := k2 ws q2
        rw [hu] at z1
        rw [hw] at z2
        cases z1
        cases z2
        exact pair_new s hn ru rw'
  · have e1 := h1.length
    have e3 := h3.length
    rw [List.length_zipWith] at hi
    rw [if_pos rfl]
    omega
section
variable {X : Cx} {W : WX} {a b : Expr} {wa wb : WE} {p pos tpos cp kp : Pos} {j : Nat}
theorem ji_zipS {elts : List Expr} {kk' : Nat} (hm : X.mg "zip" = none) (ha : JE X W a wa) (hb : JE X W b wb) (hg : Gl X "zip" := by rfl) (hs2 : starEach [b] X.env = [(false, eval b X.env)] := by rfl)
    (hs : starEach [a, b] X.env = (false, eval a X.env) :: starEach [b] X.env := by rfl) (hpl : (backTo pos (starEach [a, b] X.env)).any (·.1) = false := by rfl) (he : backTo pos (starEach [a, b] X.env) = (false, eval a X.env) :: backTo pos (starEach [b] X.env) := by rfl) :
    JI X W (.Tuple elts kk' tpos) (.Call (.Name "zip" p) [a, b] [⟨some "strict", .Constant (.bool true) j cp, kp⟩] pos) (wZipS wa wb) := by
  refine PI.of (pi_zipS hg hm (pa_cons ha (pa_cons hb pa_nil hs2) hs) he hpl) fun σ H R ⟨G, en, c, Q0, X0, s, er, q, x0, kk⟩ => ?_
  refine ⟨G, en, c, _, X0, s, er, q, x0, fun d c1 v H1 G1 q1 g1 s1 r1 => ?_⟩
  refine ⟨G1, en, c1, _, X0, s1, er.mono g1.g, q1, x0.more g1, fun d' c2 v' H2 G2 q2 g2 s2 r2 => ?_⟩
  have r1' := Rep.mono g2.g _ _ r1
  split at q2
  · rename_i l m hl hm'
    obtain ⟨a', vs, e1, h1, h2⟩ := seq_at s2 r1' hl
    obtain ⟨b', ws, e3, h3, h4⟩ := seq_at s2 r2 hm'
    refine ⟨a', b', vs, ws, isTup d, isTup d', by rw [e1, e3], sqB_of h2, sqB_of h4, fun hh => ?_⟩
    exact kk _ _ c2 _ H2 G2 (q2.2 (seq_len s2 hh r1' hl)) (g1.trans g2) s2 (srv_zipS (l := l) (m := m) q2.1 r1' r2 e1 e3)
  · exact q2.elim
end
end VL
namespace VL
open PySem PySem.Spec PyProof.Rows L2
abbrev WP := En → Cs → (List (D × D) → Cs → Prop) → XD → Prop
def wPrN : WP := fun _ c Q _ => Q [] c
def wPrC (wk wv : WE) (r : WP) : WP := fun en c Q X => wk en c (fun x c1 => wv en c1 (fun y c2 => r en c2 (fun ps c3 => Q ((x, y) :: ps) c3) X) X) X
def keysPr : List (D × D) → Option (List (Key × D))
  | [] => some []
  | (x, y) :: r => match keyOf x, keysPr r with
    | some k, some l => some ((k, y) :: l)
    | _, _ => none
def mergE (l : List (Key × D)) : List (Key × D) := l.foldl (fun acc e => putE acc e.1 e.2) []
def wDisp (r : WP) : WE := fun en c Q X => r en c (fun ps c' => ∃ l, keysPr ps = some l ∧ l.length ≤ 15 ∧ ∀ p, c' p = none → Q (.ptr p) (cup c' p (.dic (mergE l)))) X
def RepPr (K : PySem.W.Frag) (G : Hp) : List (D × D) → List (V × V) → Prop
  | [], vs => vs = []
  | e :: r, vs => ∃ u v t, vs = (u, v) :: t ∧ Rep K G e.1 u ∧ Rep K G e.2 v ∧ RepPr K G r t
/-- what the pairs' terms tell -/
structure JPs (X : Cx) (W : WX) (pos : Pos) (keys : List (Option Expr)) (values : List Expr) (w : WP) : Prop where
  out : ∃ trs : List (TE × TE), PPs X pos keys values trs ∧ ∀ (σ : L2.St) (H : Hp) (Q : List (V × V) → Hp → Prop) G en c Q0 X0, SR X.K G c H → EnR X.K G en σ → w en c Q0 X0 → XOk X.K X.mg W X0 G c H →
    (∀ ps c' vs H' G', Q0 ps c' → Gr G c H G' c' H' → SR X.K G' c' H' → RepPr X.K G' ps vs → Q vs H') → tPairs trs σ H Q
section
variable {X : Cx} {W : WX} {k v : Expr} {ks : List (Option Expr)} {vs : List Expr} {wk wv : WE} {r : WP} {pos : Pos}
theorem jp_nil : JPs X W pos [] [] wPrN := ⟨[], pps_nil, fun σ H Q G en c Q0 X0 s er q x0 kk => kk _ _ _ _ _ q Gr.refl s rfl⟩
theorem jp_cons (hk : JE X W k wk) (hv : JE X W v wv) (hr : JPs X W pos ks vs r) : JPs X W pos (some k :: ks) (v :: vs) (wPrC wk wv r) := by
  obtain ⟨trs, hp, ht⟩ := hr.out
  refine ⟨_, pps_cons hk hv hp, fun σ H Q G en c Q0 X0 s er q x0 kk => ?_⟩
  refine ⟨G, en, c, _, X0, s, er, q, x0, fun d1 c1 v1 H1 G1 q1 g1 s1 r1 => ?_⟩
  refine ⟨G1, en, c1, _, X0, s1, er.mono g1.g, q1, x0.more g1, fun d2 c2 v2 H2 G2 q2 g2 s2 r2 => ?_⟩
  refine ht _ _ _ G2 en c2 _ X0 s2 (er.mono (g1.trans g2).g) q2 (x0.more (g1.trans g2)) fun ps c3 vs3 H3 G3 q3 g3 s3 r3 => ?_
  exact kk _ c3 _ H3 G3 q3 ((g1.trans g2).trans g3) s3 ⟨_, _, _, rfl, Rep.mono (g2.trans g3).g _ _ r1, Rep.mono g3.g _ _ r2, r3⟩
theorem pr_keys {K : PySem.W.Frag} {G : Hp} : ∀ {ps : List (D × D)} {us : List (V × V)} {l : List (Key × D)}, RepPr K G ps us → keysPr ps = some l → ∃ kvs : List (Key × V), us = kvs.map (fun kv => (kV kv.1, kv.2)) ∧ RepK K G l kvs ∧ kvs.length = l.length
  | [], _, _, h, e => by
    cases e
    cases h
    exact ⟨[], rfl, repK_nil.mpr rfl, rfl⟩
  | (x, y) :: ps, _, _, ⟨u, v, t, rfl, h1, h2, h3⟩, e => by
    unfold keysPr at e
    cases e1 : keyOf x with
    | none => rw [e1] at e; cases e
    | some k =>
      cases e2 : keysPr ps with
      | none => rw [e1, e2] at e; cases e
      | some m =>
        rw [e1, e2] at e
        cases e
        obtain ⟨kvs, rfl, r, hl⟩ := pr_keys h3 e2
        exact ⟨(k, v) :: kvs, by rw [List.map_cons, keyOf_r h1 e1], repK_cons.mpr ⟨v, kvs, rfl, h2, r⟩, by simp [hl]⟩
theorem merg_rep {K : PySem.W.Frag} {G : Hp} : ∀ {l : List (Key × D)} {kvs : List (Key × V)} {l0 : List (Key × D)} {k0 : List (Key × V)}, RepK K G l kvs → RepK K G l0 k0 → RepK K G (l.foldl (fun acc e => putE acc e.1 e.2) l0) (mergeK k0 kvs)
  | [], _, _, _, h, h0 => by
    cases repK_nil.mp h
    exact h0
  | e :: l, _, _, _, h, h0 => by
    obtain ⟨v, t, rfl, h1, h2⟩ := repK_cons.mp h
    show RepK K G (l.foldl (fun acc e => putE acc e.1 e.2) (putE _ e.1 e.2)) (mergeK (putK _ e.1 v) t)
    exact merg_rep h2 (repK_put h1 h0)
theorem je_disp (h : JPs X W pos ks vs r) (hall : ks.all (·.isSome) = true := by rfl) (hl : ks.length = vs.length := by rfl) (h0 : ks ≠ [] := by exact fun z => nomatch z) (h15 : ks.length ≤ 15 := by decide) : JE X W (.Dict ks vs pos) (wDisp r) := by
  obtain ⟨trs, hp, ht⟩ := h.out
  refine PE.of (pe_disp hp hall hl h0 h15) fun σ H Q ⟨G, en, c, Q0, X0, s, er, q, x0, kk⟩ => ?_
  intro p hpn
  obtain ⟨hc, hg⟩ := s.free hpn
  have gb : Gr G c H G c (upd H p (.dK [])) := Gr.refl.beside hpn
  refine ht _ _ _ G en c _ X0 (s.other hc hg) er q (x0.more gb) fun ps c1 us H1 G1 ⟨l, e, hz, q1⟩ g1 s1 r1 => ?_
  obtain ⟨k1, k2, k3⟩ := g1.at_ (p := p) upd_same hc hg
  obtain ⟨kvs, rfl, rk, hlen⟩ := pr_keys r1 e
  refine ⟨k1, kvs, rfl, by omega, ?_⟩
  have rm := merg_rep (l0 := []) (k0 := []) rk (repK_nil.mpr rfl)
  have g2 : Gr G c H G1 c1 H1 := gb.trans g1
  obtain ⟨s3, g3⟩ := adoptK (p := p) (s1.other k2 k3) (g2.beside hpn) hpn upd_same k2 k3 rm
  exact kk _ _ _ _ _ (q1 p k2) g3 s3 rfl
end
end VL
set_option maxHeartbeats 4000000
namespace VL
open PySem PySem.Spec PyProof.Rows L2
def lexLe (x y : Int × Int) : Prop := x.1 < y.1 ∨ x.1 = y.1 ∧ x.2 ≤ y.2
def prD (e : Int × Int) : D := .tup [.int e.1, .int e.2]
def wSrtIt (we : WE) : WE := fun en c Q X => we en c (fun d c1 => ∃ (p : Addr) (l : List (Int × Int)), d = .ptr p ∧ c1 p = some (.dic (l.map fun e => (Sum.inl e.1, D.int e.2))) ∧
  ∀ (ms : List (Int × Int)) (q : Addr), ms.Perm l → ms.Pairwise lexLe → c1 q = none → Q (.ptr q) (cup c1 q (.lst (ms.map prD)))) X
end VL
set_option maxHeartbeats 4000000
namespace VL.TB
open PySem PyProof.Rows L2 HT
section
variable {prog : Program} {w : World} {A : Around} {E : Value → Shared → Prop} {s : Shared}
theorem places_back (n : Nat) : Builtin.Slice.slicePlaces ((n : Int) - 1) (-1) (-1) = n := by
  unfold Builtin.Slice.slicePlaces
  have h1 : ¬ ((-1 : Int) > 0) := by omega
  rw [if_neg h1]
  by_cases h : (n : Int) - 1 > -1
  · rw [if_pos h]
    have e : ((n : Int) - 1 - -1 - 1) / (- -1) + 1 = (n : Int) := by
      rw [show (- -1 : Int) = 1 by decide, Int.ediv_one]
      omega
    rw [e, Int.toNat_natCast]
  · rw [if_neg h]
    have : n = 0 := by omega
    subst this
    rfl
theorem applied_back {sl : Addr} {vl vu vs : Value} {n : Nat} {Q : Int × Int × Nat → Shared → Prop} (hs : s.heap.IsSliceOf sl vl vu vs) (pl : IsPart vl none) (pu : IsPart vu none) (ps : IsPart vs (some (-1)))
    (h : Q ((n : Int) - 1, -1, n) s) : wpAny (model prog w) A (Builtin.Slice.sliceApplied (.ref sl) (pure (n : Int))) Q E s := by
  obtain ⟨os, hos, hcs, hds⟩ := id hs
  unfold Builtin.Slice.sliceApplied Builtin.Slice.sliceFields
  refine wpAny_bind (wpAny_bind (wpAny_field hos hds (x := vl) rfl (wpAny_bind (wpAny_field hos hds (x := vu) rfl (wpAny_bind (wpAny_field hos hds (x := vs) rfl (wpAny_pure ?_)))))))
  refine wpAny_bind (slicePart_ ps ?_)
  show wpAny _ _ (if ((-1 : Int) == 0) = true then _ else _) _ _ s
  rw [if_neg (by decide)]
  refine wpAny_bind (slicePart_ pl (wpAny_bind (slicePart_ pu (wpAny_bind (wpAny_pure ?_)))))
  show wpAny _ _ (pure (((n : Int) - 1), (-1 : Int), Builtin.Slice.slicePlaces ((n : Int) - 1) (-1) (-1))) _ _ s
  rw [places_back]
  exact wpAny_pure h
theorem fm_congr {α β : Type} {f g : α → Option β} : ∀ {l : List α}, (∀ x ∈ l, f x = g x) → l.filterMap f = l.filterMap g
  | [], _ => rfl
  | x :: l, h => by
    rw [List.filterMap_cons, List.filterMap_cons, h x (List.mem_cons_self ..), fm_congr fun y hy => h y (List.mem_cons_of_mem _ hy)]
theorem pick_back (xs : Array Value) : ((List.range xs.size).filterMap fun (k : Nat) => xs[((xs.size : Int) - 1 + (k : Int) * -1).toNat]?).toArray = xs.toList.reverse.toArray := by
  have e : (List.range xs.size).filterMap (fun (k : Nat) => xs[((xs.size : Int) - 1 + (k : Int) * -1).toNat]?) = ((List.range xs.size).map fun k => xs.size - 1 - k).filterMap (xs[·]?) := by
    rw [List.filterMap_map]
    refine fm_congr fun k hk => ?_
    have := List.mem_range.mp hk
    have e2 : ((xs.size : Int) - 1 + (k : Int) * -1).toNat = xs.size - 1 - k := by omega
    rw [e2]
    rfl
  rw [e, PySem.W.krv_range, List.filterMap_reverse, PySem.W.krv_all]
theorem getItem_tuple_back {t sl : Addr} {items : Array Value} {vl vu vs : Value} {Q : Value → Shared → Prop} (ht : IsTup s.heap t items) (hs : s.heap.IsSliceOf sl vl vu vs) (pl : IsPart vl none) (pu : IsPart vu none) (ps : IsPart vs (some (-1)))
    (h : Q (.ref s.heap.objs.size) { s with heap := s.heap.push { cls := .type "tuple", data := .seq items.toList.reverse.toArray } })
    (hsz : items.size ≤ sizeLine) : wpAny (model prog w) A (getItem (.ref t) (.ref sl)) Q E s := by
  have htake : sizeOk (.seq items.toList.reverse.toArray) := by
    show items.toList.reverse.toArray.size ≤ sizeLine
    rw [List.size_toArray, List.length_reverse, Array.length_toList]
    exact hsz
  obtain ⟨os, hos, hcs, hds⟩ := id hs
  have hTs : s.TypeIs (.ref sl) "slice" := ⟨os, hos, hcs⟩
  unfold getItem
  try with_reducible refine wpAny_holding ?_
  first | refine wpAny_bind (wpAny_pure ?_) | skip
  refine wpAny_bind (wpAny_sequenceKey ht.typeIs (by decide) ?_)
  refine wpAny_bind (wpAny_callSpecial?_slot (name := Str.ofString "__getitem__") ht.typeIs PyProof.Rows.slot_tuple_getitem
    (wpAny_call_entry PyProof.Rows.slot_tuple_getitem ht.typeIs entry_tuple_getitem ?_ (args_tuple_getitem _ _)))
  show wpAny _ _ (Builtin.Tuple.tupleItemsOf (.ref t) >>= _) _ _ s
  refine wpAny_bind (tupleItemsOf_ ht ?_)
  refine wpAny_bind (wpAny_typeOf hTs ?_)
  rw [if_pos (by decide)]
  refine wpAny_bind (applied_back hs pl pu ps ?_)
  have hno : ¬ ((((items.size : Int) - 1) == 0 && (-1 : Int) == 1 && items.size == items.size) = true) := by
    have : ((-1 : Int) == 1) = false := by decide
    rw [this]; simp
  show wpAny _ _ (if (((items.size : Int) - 1) == 0 && (-1 : Int) == 1 && items.size == items.size) = true then _ else _) _ _ s
  rw [if_neg hno, pick_back]
  first
    | exact wpAny_bind (m := Builtin.Tuple.tupleExact _) (wpAny_newObj_type (wpAny_pure ⟨_, rfl, wpAny_pure h⟩) htake)
    | exact wpAny_bind (m := Builtin.Tuple.tupleExact _) (wpAny_newObj_type (wpAny_bind (wpAny_pure (wpAny_pure ⟨_, rfl, wpAny_pure h⟩))) htake)
    | exact wpAny_bind (wpAny_bind (m := Builtin.Tuple.tupleExact _) (wpAny_newObj_type (wpAny_pure (wpAny_pure ⟨_, rfl, wpAny_pure h⟩)) htake))
    | exact wpAny_bind (wpAny_bind (m := Builtin.Tuple.tupleExact _) (wpAny_newObj_type (wpAny_pure ⟨_, rfl, wpAny_pure h⟩) htake))
end
end VL.TB
namespace VL
open PySem PySem.Spec PyProof.Rows L2
section
variable {X : Cx}
def tRevT (K : PySem.W.Frag) (te : TE) : TE := fun σ H Q => te σ H fun x H1 => ∃ a xs, x = .ref a ∧ SqT K H1 a xs ∧ ∀ p, H1 p = none → Q (.ref p) (upd H1 p (.tup xs.reverse))
theorem pe_revT {e : Expr} {te : TE} {k : Nat} {p1 p2 p3 pos : Pos} (he : PE X e te) : PE X (.Subscript e (.Slice none none (some (.UnaryOp .USub (.Constant (.int 1) k p1) p2)) p3) pos) (tRevT X.K te) := by
  refine ⟨fun pins s σ H Q I h => ?_⟩
  refine Subscript_ (thn (he.run pins s σ H _ I h) fun v s1 ⟨x, H1, I1, r1, q1⟩ => ?_)
  obtain ⟨a, xs, ex, hx, q⟩ := q1
  subst ex
  cases r1
  have hst : PO X (some (.UnaryOp .USub (.Constant (.int 1) k p1) p2)) (tPart (tUn (rU fun i => .int (-i)) (tC (.int 1)))) := po_some (pe_un un_neg pe_int)
  refine wpAny_Slice (thn (po_none.run pins s1 σ H1 (fun o H2 => o = none ∧ H2 = H1) I1 ⟨rfl, rfl⟩) fun vl s2 ⟨l, H2, I2, pl, el, e2⟩ => ?_)
  subst el e2
  refine thn (po_none.run pins s2 σ H2 (fun o H3 => o = none ∧ H3 = H2) I2 ⟨rfl, rfl⟩) fun vu s3 ⟨u, H3, I3, pu, eu, e3⟩ => ?_
  subst eu e3
  refine thn (hst.run pins s3 σ H3 (fun o H4 => o = some (-1) ∧ H4 = H3) I3 ⟨1, rfl, -1, rfl, rfl, rfl⟩) fun vs s4 ⟨o, H4, I4, ps, eo, e4⟩ => ?_
  subst eo e4
  have I5 : Inv X pins σ H4 { s4 with heap := s4.heap.push { cls := .type "slice", data := .fields #[vl, vu, vs] } } := I4.kept (t' := s4.toks) fun b ob q => Heap.get?_push_of_some _ q
  obtain ⟨its, r, ht, hz⟩ := I5.tuple hx
  have hlen := r.length
  show wpAny (model X.prog X.w) X.A (subscriptTail e (.Slice none none (some (.UnaryOp .USub (.Constant (.int 1) k p1) p2)) p3) (.ref a) (.ref s4.heap.objs.size)) (EP X pins σ Q) X.xe { s4 with heap := s4.heap.push { cls := .type "slice", data := .fields #[vl, vu, vs] } }
  refine tail_any (ops := [.ref a, .ref s4.heap.objs.size]) ht.typeIs (PyProof.Rows.slot_tuple_getitem.lookup) ?_ (by with_unfolding_all rfl)
  refine TB.getItem_tuple_back ht (Heap.IsSliceOf.new _ vl vu vs) pl pu ps ?_ (by rw [List.size_toArray]; omega)
  refine ⟨.ref _, _, I5.laid (t' := s4.toks) (o := .tup xs.reverse) (fun b ob q => Heap.get?_push_of_some _ q) (Nat.le_refl _) ?_, rfl, q _ (I5.hok.fresh (Nat.le_refl _))⟩
  exact ⟨by rw [List.length_reverse]; exact hz, _, r.reverse, IsTup.new _ _⟩
variable {W : WX} {e : Expr} {we : WE} {k : Nat} {p1 p2 p3 pos : Pos}
def wBackT (we : WE) : WE := fun en c Q X => we en c (fun d c1 => match d with
  | .tup l => Q (.tup l.reverse) c1
  | _ => False) X
theorem je_backT (he : JE X W e we) : JE X W (.Subscript e (.Slice none none (some (.UnaryOp .USub (.Constant (.int 1) k p1) p2)) p3) pos) (wBackT we) := by
  refine PE.of (pe_revT he) fun σ H Q ⟨G, en, c, Q0, X0, s, er, q, x0, kk⟩ => ?_
  refine ⟨G, en, c, _, X0, s, er, q, x0, fun d1 c1 v1 H1 G1 q1 g1 s1 r1 => ?_⟩
  split at q1
  · rename_i l
    obtain ⟨a, vs, e1, h1, h2⟩ := r1
    refine ⟨a, vs, e1, .inl (s1.sub.rd (.inl h1)), fun p hp => ?_⟩
    obtain ⟨s2, g2⟩ := s1.newG (o := HO.tup vs.reverse) hp
    exact kk _ c1 _ _ _ q1 (g1.trans g2) s2 ⟨p, _, rfl, TupAt.of upd_same, Reps.rev (Reps.mono g2.g _ _ h2)⟩
  · exact q1.elim
end
end VL
namespace VL
open PySem PySem.Spec PyProof.Rows L2
def Bx (p : Addr) (N : Int) (c : Cs) : Prop := ∃ a b n : Int, c p = some (.lst [.int a, .int b, .int n]) ∧ 0 ≤ a ∧ 0 ≤ b ∧ b < 2147483648 ∧ 0 ≤ n ∧ n ≤ N
def Up (p : Addr) (N : Int) (c c' : Cs) : Prop := Bx p N c' ∧ ∀ q x, q ≠ p → c q = some x → c' q = some x
theorem Bx.le {p : Addr} {N M : Int} {c : Cs} (h : Bx p N c) (l : N ≤ M) : Bx p M c := by
  obtain ⟨a, b, n, h⟩ := h
  exact ⟨a, b, n, h.1, h.2.1, h.2.2.1, h.2.2.2.1, h.2.2.2.2.1, by omega⟩
theorem Up.le {p : Addr} {N M : Int} {c c' : Cs} (h : Up p N c c') (l : N ≤ M) : Up p M c c' := ⟨h.1.le l, h.2⟩
theorem Up.trans {p : Addr} {N M : Int} {c c' c'' : Cs} (h : Up p N c c') (g : Up p M c' c'') : Up p M c c'' := ⟨g.1, fun q x z e => g.2 q x z (h.2 q x z e)⟩
theorem Up.mk {p : Addr} {N : Int} {c : Cs} {a b n : Int} (h : 0 ≤ a ∧ 0 ≤ b ∧ b < 2147483648 ∧ 0 ≤ n ∧ n ≤ N) : Up p N c (cup c p (.lst [.int a, .int b, .int n])) :=
  ⟨⟨a, b, n, cup_same, h⟩, fun q x z e => by rw [cup_ne z]; exact e⟩
theorem Bx.some {p : Addr} {N : Int} {c : Cs} (h : Bx p N c) : ∃ x, c p = some x := by
  obtain ⟨a, b, n, h, _⟩ := h
  exact ⟨_, h⟩
theorem mul64 {i j : Int} (h : 0 ≤ i) (h' : i < 18446744073709551616) : MulOk i j := .inl (.inl ⟨by omega, by omega⟩)
theorem mul64' {i j : Int} (h : 0 ≤ j) (h' : j < 18446744073709551616) : MulOk i j := .inl (.inr ⟨by omega, by omega⟩)
theorem lg_ok {j : Int} {n : Nat} (h : 0 < j) (h' : j < (2 : Int) ^ n) : j.natAbs.log2 < n := by
  have h1 : j.natAbs ≠ 0 := by omega
  have : ((j.natAbs : Nat) : Int) < ((2 ^ n : Nat) : Int) := by
    rw [Int.natAbs_of_nonneg (by omega)]; push_cast; exact h'
  exact (Nat.log2_lt h1).mpr (by exact_mod_cast this)
def c_l_take (k : Nat) : Ctr := fun ds c Q _ => ∃ (p : Addr) (s N : Int) (d : Nat), ds = [.ptr p, .int s] ∧ d ≤ k ∧ d ≤ 20 ∧ 0 < s ∧ s ≤ (10000000 : Int) ^ (d + 1) ∧ Bx p N c ∧ N + 2 ^ d ≤ 70368744177664 ∧
  ∀ r c', 0 ≤ r → r < s → Up p (N + 2 ^ d) c c' → Q (.int r) c'
def w_l_take (k : Nat) : WS := (sSeq (sIf (wTst (wBin oGt (wBin oIx (wVar 0) (wC (.int 0))) (wC (.int 0)))) (sSeq (sAsg (wBi oDivmod (wCons (wBin oIx (wVar 0) (wC (.int 0))) (wCons (wVar 1) wNil))) (gTp 2 (gCons' (gSb (wVar 0) (wC (.int 0))) (gCons' (gNm 5) gNil')))) (sRet (wVar 5))) sNil) (sSeq (sIf (wTst (wBin oGt (wVar 1) (wBin oPow (wC (.int 10)) (wC (.int 7))))) (sRet (wBin oMod (wBin oAdd (wCall 2 c_l_take k (wCons (wVar 0) (wCons (wBin oPow (wC (.int 10)) (wC (.int 7))) wNil))) (wBin oMul (wBin oPow (wC (.int 10)) (wC (.int 7))) (wCall 2 c_l_take k (wCons (wVar 0) (wCons (wBin oAdd (wBin oFdiv (wBin oSub (wVar 1) (wC (.int 1))) (wBin oPow (wC (.int 10)) (wC (.int 7)))) (wC (.int 1))) wNil))))) (wVar 1))) sNil) (sSeq (sAsg (wBin oAdd (wBin oIx (wVar 0) (wC (.int 2))) (wC (.int 1))) (gSb (wVar 0) (wC (.int 2)))) (sSeq (sSet 2 (wBin oAdd (wC (.int 69621)) (wBin oMul (wBin oIx (wVar 0) (wC (.int 2))) (wBin oIx (wVar 0) (wC (.int 2)))))) (sSeq (sSet 3 (wBin oMod (wBin oMul (wBin oAdd (wBin oIx (wVar 0) (wC (.int 1))) (wBin oMul (wC (.int 39373)) (wBin oIx (wVar 0) (wC (.int 2))))) (wVar 2)) (wC (.int 2147483587)))) (sSeq (sSet 4 (wBin oMod (wBin oAdd (wBin oMul (wVar 3) (wBin oAdd (wBin oMod (wVar 3) (wC (.int 30011))) (wC (.int 5)))) (wBin oIx (wVar 0) (wC (.int 2)))) (wC (.int 2147483563)))) (sRet (wBin oMod (wBin oFdiv (wBin oMod (wBin oMul (wVar 4) (wBin oAdd (wBin oMod (wVar 4) (wC (.int 1013))) (wC (.int 3)))) (wC (.int 998244353))) (wC (.int 16))) (wVar 1)))))))))
theorem p_l_take (k : Nat) (ds : List D) (c : Cs) (Q : DK) (X0 : XK0) (hlen0 : ds.length = 2) (h : c_l_take k ds c Q X0) : w_l_take k (endOf Q) (excOf X0) (enOf 6 ds) c := by
  obtain ⟨p, s, N, d, rfl, hk, hd, h0, h1, ⟨a, b, n, hc, ha, hb, hb', hn, hN⟩, hlim, q⟩ := h
  have hlg : s.natAbs.log2 < 9000 := lg_ok h0 (Int.lt_of_le_of_lt h1 (by
    have : ∀ d : Nat, d ≤ 20 → (10000000 : Int) ^ (d + 1) < 2 ^ 9000 := by decide +kernel
    exact this d hd))
  have h10 : (1 : Int) ≤ 2 ^ d := Int.pow_pos (by omega)
  simp only [w_l_take, sRaise, sTry, wIsX, wWhat, wBack, lo_lst, e_mulV, sizeL, sNil, sSeq, sPass, sBrk, sCont, sExpr, sRet, sRetN, sIf, sNever, sSet, sAug, gNm, gTp, gNil', gCons', gSb, sAsg, sPar, sFor, wVar_z, wVar_s, wC, wChn, wTru, sPar3, wRev, wCallK, permF, List.filterMap_cons, List.filterMap_nil, wBin, wUn, wTst, wNot, wAnd, wOr, wAndV, wOrV, wNotV, wIf, wNil, wCons, wTup, wLst, wLstL, wFz, wCall, wBi, wMt, wMt0, wSl, wSlL, wPart, wNoPart, wYes, wSeq, wRg1, wRg2, wEnum, wZip, wLc, wLcL, wLRg, wFld, sFldS, sFldA, gFld, wMeth, wMake, lvl2_s, onB, e_eqI, e_neI, e_eqB, e_neB, e_eqS, e_neS, e_eqN, e_tyLT, e_ty1, isTys, tyMem, tyN_non, tyN_bl, tyN_int, tyN_str, tyN_tup, tyN_lst, Bool.true_or, Bool.or_true, Bool.or_false, Bool.false_or, Bool.not_true, Bool.not_false, inn_non, inn_bl, inn_int, inn_str, inn_tup, inn_lst, inn_ptr, e_slT, e_slL, e_slN, isT_P, isT_L, isT_T, isT_N, e_sub, e_fdiv, e_mod, e_pow, e_lt, e_le, e_gt, e_ge, e_neg, e_add, e_addS, e_addT, e_addL, e_addPP, e_addPL, e_addLP, e_mul, e_mulL, e_mulT, e_augI, e_ixT, e_ixL, e_ixN, e_ixP, e_lenT, e_lenL, e_lenN, e_lenS, e_lenP, e_abs, e_intI, e_intB, e_max, e_min, e_tupL, e_tupT, e_listL, e_listT, e_listN, e_listLL, e_listLT, e_divmod, e_isNon, e_isntNon, e_isB, e_isntB, e_setIx, e_insert, e_append, e_isL, e_isLL, e_seqP, e_seqL, e_seqT, e_seqN, it_lst, it_fz, Option.bind_some, Option.isSome_some, ix10, ix20, ix21, ix30, ix32, dl1, dl2, dl3, List.eraseIdx_cons_zero, e_pop0, e_popAt, e_rev, e_clear, e_tupP, e_listP, e_neN, e_neIN, e_neNI, e_eqIN, e_eqNI, at0, at1, at2, at3, Cell.lst.injEq, Cell.obj.injEq, Option.some.injEq, exists_eq_left', decide_eq_true_eq, true_and, and_true, cup_same, cup_cup, List.flatten_nil, List.flatten_cons, enOf, endOf, excOf, List.map_cons, List.map_nil, List.length_cons, List.length_nil, List.replicate, Nat.reduceAdd, Nat.reduceSub, List.cons_append, List.nil_append, List.set_cons_zero, List.set_cons_succ, List.getElem?_cons_zero, List.getElem?_cons_succ, List.getElem_cons_zero, List.getElem_cons_succ, reduceCtorEq, if_true, if_false, Bool.false_eq_true, decide_true, decide_false, ne_eq, not_true, not_false_eq_true, Int.reduceEq, Nat.reduceMul, true_imp_iff, Int.reduceToNat, Int.reducePow, Nat.reducePow, Int.reduceLE, Int.reduceLT, Nat.reduceLT, and_self, Nat.reduceLeDiff, Int.reduceNeg, Int.reduceAdd, Int.reduceSub, Int.reduceMul, Int.cast_ofNat_Int, hc]
  split
  · refine ⟨h0, hlg, _, CLe.refl _, q _ _ (Int.emod_nonneg _ (by omega)) (Int.emod_lt_of_pos _ h0) (Up.mk ⟨Int.ediv_nonneg ha (by omega), hb, hb', hn, by omega⟩)⟩
  · split
    · rename_i h7
      cases d with
      | zero => simp at h1; omega
      | succ d =>
        cases k with
        | zero => omega
        | succ k =>
          have e2 : (2 : Int) ^ (d + 1) = 2 ^ d + 2 ^ d := by rw [Int.pow_succ]; omega
          have e1 : (1 : Int) ≤ 2 ^ d := Int.pow_pos (by omega)
          rw [e2] at hlim q
          refine ⟨p, _, N, 0, rfl, by omega, by omega, by omega, by omega, ⟨a, b, n, hc, ha, hb, hb', hn, hN⟩, by simp; omega, fun r c1 r0 r1 u1 => ⟨by decide, ?_⟩⟩
          have s2 : (s - 1) / 10000000 + 1 ≤ (10000000 : Int) ^ (d + 1) := by
            rw [Int.pow_succ] at h1
            omega
          refine ⟨p, _, N + 1, d, rfl, by omega, by omega, by omega, s2, u1.1.le (by simp), by omega, fun r2 c2 r3 r4 u2 => ?_⟩
          simp only [sRaise, sTry, wIsX, wWhat, wBack, lo_lst, e_mulV, sizeL, sNil, sSeq, sPass, sBrk, sCont, sExpr, sRet, sRetN, sIf, sNever, sSet, sAug, gNm, gTp, gNil', gCons', gSb, sAsg, sPar, sFor, wVar_z, wVar_s, wC, wChn, wTru, sPar3, wRev, wCallK, permF, List.filterMap_cons, List.filterMap_nil, wBin, wUn, wTst, wNot, wAnd, wOr, wAndV, wOrV, wNotV, wIf, wNil, wCons, wTup, wLst, wLstL, wFz, wCall, wBi, wMt, wMt0, wSl, wSlL, wPart, wNoPart, wYes, wSeq, wRg1, wRg2, wEnum, wZip, wLc, wLcL, wLRg, wFld, sFldS, sFldA, gFld, wMeth, wMake, lvl2_s, onB, e_eqI, e_neI, e_eqB, e_neB, e_eqS, e_neS, e_eqN, e_tyLT, e_ty1, isTys, tyMem, tyN_non, tyN_bl, tyN_int, tyN_str, tyN_tup, tyN_lst, Bool.true_or, Bool.or_true, Bool.or_false, Bool.false_or, Bool.not_true, Bool.not_false, inn_non, inn_bl, inn_int, inn_str, inn_tup, inn_lst, inn_ptr, e_slT, e_slL, e_slN, isT_P, isT_L, isT_T, isT_N, e_sub, e_fdiv, e_mod, e_pow, e_lt, e_le, e_gt, e_ge, e_neg, e_add, e_addS, e_addT, e_addL, e_addPP, e_addPL, e_addLP, e_mul, e_mulL, e_mulT, e_augI, e_ixT, e_ixL, e_ixN, e_ixP, e_lenT, e_lenL, e_lenN, e_lenS, e_lenP, e_abs, e_intI, e_intB, e_max, e_min, e_tupL, e_tupT, e_listL, e_listT, e_listN, e_listLL, e_listLT, e_divmod, e_isNon, e_isntNon, e_isB, e_isntB, e_setIx, e_insert, e_append, e_isL, e_isLL, e_seqP, e_seqL, e_seqT, e_seqN, it_lst, it_fz, Option.bind_some, Option.isSome_some, ix10, ix20, ix21, ix30, ix32, dl1, dl2, dl3, List.eraseIdx_cons_zero, e_pop0, e_popAt, e_rev, e_clear, e_tupP, e_listP, e_neN, e_neIN, e_neNI, e_eqIN, e_eqNI, at0, at1, at2, at3, Cell.lst.injEq, Cell.obj.injEq, Option.some.injEq, exists_eq_left', decide_eq_true_eq, true_and, and_true, cup_same, cup_cup]
          refine ⟨mul64 (by omega) (by omega), h0, _, CLe.refl _, q _ _ (Int.emod_nonneg _ (by omega)) (Int.emod_lt_of_pos _ h0) ((u1.trans u2).le (by omega))⟩
    · have m1 := Int.emod_nonneg ((b + 39373 * (n + 1)) * (69621 + (n + 1) * (n + 1))) (show (2147483587 : Int) ≠ 0 by omega)
      have m2 := Int.emod_lt_of_pos ((b + 39373 * (n + 1)) * (69621 + (n + 1) * (n + 1))) (show (0 : Int) < 2147483587 by omega)
      refine ⟨mul64 (by omega) (by omega), mul64 (by omega) (by omega), mul64 (by omega) (by omega), mul64 m1 (by omega), ?_⟩
      generalize (b + 39373 * (n + 1)) * (69621 + (n + 1) * (n + 1)) % 2147483587 = u at *
      generalize u * (u % 30011 + 5) + (n + 1) = v
      have m1 := Int.emod_nonneg v (show (2147483563 : Int) ≠ 0 by omega)
      have m2 := Int.emod_lt_of_pos v (show (0 : Int) < 2147483563 by omega)
      refine ⟨mul64 m1 (by omega), by decide, h0, _, CLe.refl _, q _ _ (Int.emod_nonneg _ (by omega)) (Int.emod_lt_of_pos _ h0) (Up.mk ⟨ha, hb, hb', by omega, by omega⟩)⟩
theorem take_us {k : Nat} {p : Addr} {s N : Int} {c : Cs} {Q : DK} {X0 : XK0} (hk : 5 ≤ k) (h0 : 0 < s) (h1 : s ≤ 1000000000000000000000000000000000000000000) (hb : Bx p N c) (hN : N + 32 ≤ 70368744177664)
    (q : ∀ r c', 0 ≤ r → r < s → Up p (N + 32) c c' → Q (.int r) c') : c_l_take k [.ptr p, .int s] c Q X0 := ⟨p, s, N, 5, rfl, by omega, by omega, h0, h1, hb, hN, q⟩
def c_l_box (k : Nat) : Ctr := fun ds c Q _ => ∃ (l : List Int) (j : Int), ds = [.lst (l.map .int), .int j] ∧ 0 ≤ j ∧ j < 1000 ∧ ∀ p c', c p = none → Up p 0 c c' → Q (.ptr p) c'
def w_l_box (k : Nat) : WS := (sSeq (sSet 2 (wIf (wTst (wBin oLt (wVar 1) (wBi oLen (wCons (wVar 0) wNil)))) (wBin oIx (wVar 0) (wVar 1)) (wC (.int 0)))) (sRet (wLstL (wCons (wBin oMul (wBi oAbs (wCons (wVar 2) wNil)) (wBi oInt (wCons (wBin oGe (wBi oAbs (wCons (wVar 2) wNil)) (wBin oPow (wC (.int 10)) (wC (.int 18)))) wNil))) (wCons (wBin oMod (wBin oMul (wBin oAdd (wBin oAdd (wBin oMod (wVar 2) (wC (.int 2147483629))) (wBin oMul (wC (.int 15485863)) (wVar 1))) (wC (.int 43))) (wC (.int 48271))) (wC (.int 2147483647))) (wCons (wC (.int 0)) wNil))))))
theorem p_l_box (k : Nat) (ds : List D) (c : Cs) (Q : DK) (X0 : XK0) (hlen0 : ds.length = 2) (h : c_l_box k ds c Q X0) : w_l_box k (endOf Q) (excOf X0) (enOf 3 ds) c := by
  obtain ⟨l, j, rfl, h0, h1, q⟩ := h
  have fin : ∀ v : Int, MulOk (if v < 0 then -v else v) (if (1000000000000000000 : Int) ≤ (if v < 0 then -v else v) then 1 else 0) ∧ MulOk 15485863 j ∧ MulOk (v % 2147483629 + 15485863 * j + 43) 48271 ∧
      ∀ p, c p = none → ∃ c0, CLe c0 (cup c p (Cell.lst [D.int ((if v < 0 then -v else v) * if (1000000000000000000 : Int) ≤ (if v < 0 then -v else v) then 1 else 0), D.int ((v % 2147483629 + 15485863 * j + 43) * 48271 % 2147483647), D.int 0])) ∧ Q (D.ptr p) c0 := by
    intro v
    have hv : (0 : Int) ≤ if v < 0 then -v else v := by split <;> omega
    refine ⟨mul64' (by split <;> omega) (by split <;> omega), mul64 (by omega) (by omega), mul64' (by omega) (by omega), fun p hp => ⟨_, CLe.refl _, q p _ hp (Up.mk ⟨?_, ?_, ?_, by omega, by omega⟩)⟩⟩
    · exact Int.mul_nonneg hv (by split <;> omega)
    · exact Int.emod_nonneg _ (by omega)
    · have := Int.emod_lt_of_pos ((v % 2147483629 + 15485863 * j + 43) * 48271) (show (0 : Int) < 2147483647 by omega)
      omega
  simp only [w_l_box, sRaise, sTry, wIsX, wWhat, wBack, lo_lst, e_mulV, sizeL, sNil, sSeq, sPass, sBrk, sCont, sExpr, sRet, sRetN, sIf, sNever, sSet, sAug, gNm, gTp, gNil', gCons', gSb, sAsg, sPar, sFor, wVar_z, wVar_s, wC, wChn, wTru, sPar3, wRev, wCallK, permF, List.filterMap_cons, List.filterMap_nil, wBin, wUn, wTst, wNot, wAnd, wOr, wAndV, wOrV, wNotV, wIf, wNil, wCons, wTup, wLst, wLstL, wFz, wCall, wBi, wMt, wMt0, wSl, wSlL, wPart, wNoPart, wYes, wSeq, wRg1, wRg2, wEnum, wZip, wLc, wLcL, wLRg, wFld, sFldS, sFldA, gFld, wMeth, wMake, lvl2_s, onB, e_eqI, e_neI, e_eqB, e_neB, e_eqS, e_neS, e_eqN, e_tyLT, e_ty1, isTys, tyMem, tyN_non, tyN_bl, tyN_int, tyN_str, tyN_tup, tyN_lst, Bool.true_or, Bool.or_true, Bool.or_false, Bool.false_or, Bool.not_true, Bool.not_false, inn_non, inn_bl, inn_int, inn_str, inn_tup, inn_lst, inn_ptr, e_slT, e_slL, e_slN, isT_P, isT_L, isT_T, isT_N, e_sub, e_fdiv, e_mod, e_pow, e_lt, e_le, e_gt, e_ge, e_neg, e_add, e_addS, e_addT, e_addL, e_addPP, e_addPL, e_addLP, e_mul, e_mulL, e_mulT, e_augI, e_ixT, e_ixL, e_ixN, e_ixP, e_lenT, e_lenL, e_lenN, e_lenS, e_lenP, e_abs, e_intI, e_intB, e_max, e_min, e_tupL, e_tupT, e_listL, e_listT, e_listN, e_listLL, e_listLT, e_divmod, e_isNon, e_isntNon, e_isB, e_isntB, e_setIx, e_insert, e_append, e_isL, e_isLL, e_seqP, e_seqL, e_seqT, e_seqN, it_lst, it_fz, Option.bind_some, Option.isSome_some, ix10, ix20, ix21, ix30, ix32, dl1, dl2, dl3, List.eraseIdx_cons_zero, e_pop0, e_popAt, e_rev, e_clear, e_tupP, e_listP, e_neN, e_neIN, e_neNI, e_eqIN, e_eqNI, at0, at1, at2, at3, Cell.lst.injEq, Cell.obj.injEq, Option.some.injEq, exists_eq_left', decide_eq_true_eq, true_and, and_true, cup_same, cup_cup, List.flatten_nil, List.flatten_cons, enOf, endOf, excOf, List.map_cons, List.map_nil, List.length_cons, List.length_nil, List.replicate, Nat.reduceAdd, Nat.reduceSub, List.cons_append, List.nil_append, List.set_cons_zero, List.set_cons_succ, List.getElem?_cons_zero, List.getElem?_cons_succ, List.getElem_cons_zero, List.getElem_cons_succ, reduceCtorEq, if_true, if_false, Bool.false_eq_true, decide_true, decide_false, ne_eq, not_true, not_false_eq_true, Int.reduceEq, Nat.reduceMul, true_imp_iff, Int.reduceToNat, Int.reducePow, Nat.reducePow, Int.reduceLE, Int.reduceLT, Nat.reduceLT, and_self, Nat.reduceLeDiff, Int.reduceNeg, Int.reduceAdd, Int.reduceSub, Int.reduceMul, Int.cast_ofNat_Int]
  split
  · rename_i hj
    rw [List.length_map] at hj
    have e : atI (l.map D.int) j = some (.int (l[j.toNat]'(by omega))) := by
      rw [atI_of h0, List.getElem?_map, List.getElem?_eq_getElem (by omega)]
      rfl
    simp only [e, sRaise, sTry, wIsX, wWhat, wBack, lo_lst, e_mulV, sizeL, sNil, sSeq, sPass, sBrk, sCont, sExpr, sRet, sRetN, sIf, sNever, sSet, sAug, gNm, gTp, gNil', gCons', gSb, sAsg, sPar, sFor, wVar_z, wVar_s, wC, wChn, wTru, sPar3, wRev, wCallK, permF, List.filterMap_cons, List.filterMap_nil, wBin, wUn, wTst, wNot, wAnd, wOr, wAndV, wOrV, wNotV, wIf, wNil, wCons, wTup, wLst, wLstL, wFz, wCall, wBi, wMt, wMt0, wSl, wSlL, wPart, wNoPart, wYes, wSeq, wRg1, wRg2, wEnum, wZip, wLc, wLcL, wLRg, wFld, sFldS, sFldA, gFld, wMeth, wMake, lvl2_s, onB, e_eqI, e_neI, e_eqB, e_neB, e_eqS, e_neS, e_eqN, e_tyLT, e_ty1, isTys, tyMem, tyN_non, tyN_bl, tyN_int, tyN_str, tyN_tup, tyN_lst, Bool.true_or, Bool.or_true, Bool.or_false, Bool.false_or, Bool.not_true, Bool.not_false, inn_non, inn_bl, inn_int, inn_str, inn_tup, inn_lst, inn_ptr, e_slT, e_slL, e_slN, isT_P, isT_L, isT_T, isT_N, e_sub, e_fdiv, e_mod, e_pow, e_lt, e_le, e_gt, e_ge, e_neg, e_add, e_addS, e_addT, e_addL, e_addPP, e_addPL, e_addLP, e_mul, e_mulL, e_mulT, e_augI, e_ixT, e_ixL, e_ixN, e_ixP, e_lenT, e_lenL, e_lenN, e_lenS, e_lenP, e_abs, e_intI, e_intB, e_max, e_min, e_tupL, e_tupT, e_listL, e_listT, e_listN, e_listLL, e_listLT, e_divmod, e_isNon, e_isntNon, e_isB, e_isntB, e_setIx, e_insert, e_append, e_isL, e_isLL, e_seqP, e_seqL, e_seqT, e_seqN, it_lst, it_fz, Option.bind_some, Option.isSome_some, ix10, ix20, ix21, ix30, ix32, dl1, dl2, dl3, List.eraseIdx_cons_zero, e_pop0, e_popAt, e_rev, e_clear, e_tupP, e_listP, e_neN, e_neIN, e_neNI, e_eqIN, e_eqNI, at0, at1, at2, at3, Cell.lst.injEq, Cell.obj.injEq, Option.some.injEq, exists_eq_left', decide_eq_true_eq, true_and, and_true, cup_same, cup_cup, List.flatten_nil, List.flatten_cons, enOf, endOf, excOf, List.map_cons, List.map_nil, List.length_cons, List.length_nil, List.replicate, Nat.reduceAdd, Nat.reduceSub, List.cons_append, List.nil_append, List.set_cons_zero, List.set_cons_succ, List.getElem?_cons_zero, List.getElem?_cons_succ, List.getElem_cons_zero, List.getElem_cons_succ, reduceCtorEq, if_true, if_false, Bool.false_eq_true, decide_true, decide_false, ne_eq, not_true, not_false_eq_true, Int.reduceEq, Nat.reduceMul, true_imp_iff, Int.reduceToNat, Int.reducePow, Nat.reducePow, Int.reduceLE, Int.reduceLT, Nat.reduceLT, and_self, Nat.reduceLeDiff, Int.reduceNeg, Int.reduceAdd, Int.reduceSub, Int.reduceMul, Int.cast_ofNat_Int]
    exact fin _
  · simpa only [sRaise, sTry, wIsX, wWhat, wBack, lo_lst, e_mulV, sizeL, sNil, sSeq, sPass, sBrk, sCont, sExpr, sRet, sRetN, sIf, sNever, sSet, sAug, gNm, gTp, gNil', gCons', gSb, sAsg, sPar, sFor, wVar_z, wVar_s, wC, wChn, wTru, sPar3, wRev, wCallK, permF, List.filterMap_cons, List.filterMap_nil, wBin, wUn, wTst, wNot, wAnd, wOr, wAndV, wOrV, wNotV, wIf, wNil, wCons, wTup, wLst, wLstL, wFz, wCall, wBi, wMt, wMt0, wSl, wSlL, wPart, wNoPart, wYes, wSeq, wRg1, wRg2, wEnum, wZip, wLc, wLcL, wLRg, wFld, sFldS, sFldA, gFld, wMeth, wMake, lvl2_s, onB, e_eqI, e_neI, e_eqB, e_neB, e_eqS, e_neS, e_eqN, e_tyLT, e_ty1, isTys, tyMem, tyN_non, tyN_bl, tyN_int, tyN_str, tyN_tup, tyN_lst, Bool.true_or, Bool.or_true, Bool.or_false, Bool.false_or, Bool.not_true, Bool.not_false, inn_non, inn_bl, inn_int, inn_str, inn_tup, inn_lst, inn_ptr, e_slT, e_slL, e_slN, isT_P, isT_L, isT_T, isT_N, e_sub, e_fdiv, e_mod, e_pow, e_lt, e_le, e_gt, e_ge, e_neg, e_add, e_addS, e_addT, e_addL, e_addPP, e_addPL, e_addLP, e_mul, e_mulL, e_mulT, e_augI, e_ixT, e_ixL, e_ixN, e_ixP, e_lenT, e_lenL, e_lenN, e_lenS, e_lenP, e_abs, e_intI, e_intB, e_max, e_min, e_tupL, e_tupT, e_listL, e_listT, e_listN, e_listLL, e_listLT, e_divmod, e_isNon, e_isntNon, e_isB, e_isntB, e_setIx, e_insert, e_append, e_isL, e_isLL, e_seqP, e_seqL, e_seqT, e_seqN, it_lst, it_fz, Option.bind_some, Option.isSome_some, ix10, ix20, ix21, ix30, ix32, dl1, dl2, dl3, List.eraseIdx_cons_zero, e_pop0, e_popAt, e_rev, e_clear, e_tupP, e_listP, e_neN, e_neIN, e_neNI, e_eqIN, e_eqNI, at0, at1, at2, at3, Cell.lst.injEq, Cell.obj.injEq, Option.some.injEq, exists_eq_left', decide_eq_true_eq, true_and, and_true, cup_same, cup_cup, List.flatten_nil, List.flatten_cons, enOf, endOf, excOf, List.map_cons, List.map_nil, List.length_cons, List.length_nil, List.replicate, Nat.reduceAdd, Nat.reduceSub, List.cons_append, List.nil_append, List.set_cons_zero, List.set_cons_succ, List.getElem?_cons_zero, List.getElem?_cons_succ, List.getElem_cons_zero, List.getElem_cons_succ, reduceCtorEq, if_true, if_false, Bool.false_eq_true, decide_true, decide_false, ne_eq, not_true, not_false_eq_true, Int.reduceEq, Nat.reduceMul, true_imp_iff, Int.reduceToNat, Int.reducePow, Nat.reducePow, Int.reduceLE, Int.reduceLT, Nat.reduceLT, and_self, Nat.reduceLeDiff, Int.reduceNeg, Int.reduceAdd, Int.reduceSub, Int.reduceMul, Int.cast_ofNat_Int] using fin 0
def c_l_folded (k : Nat) : Ctr := fun ds c Q _ => ∃ (ns : List Int) (n : Int), ds = [.scr ns, .int n] ∧ ns.length ≤ 63 ∧ 0 < n ∧ n ≤ 63 ∧ ∀ ms : List Int, (ms.length : Int) ≤ n → Q (.lst (ms.map .int)) c
def w_l_folded (k : Nat) : WS := (sSeq (sSet 2 (wBi oListL (wCons (wSl (wVar 0) wNoPart (wPart (wVar 1))) wNil))) (sSeq (sFor (wEnum (wSl (wVar 0) (wPart (wVar 1)) (wPart (wC (.int 63))))) (.tup [(.nm 3), (.nm 4)]) (sAsg (wBin oAdd (wBin oIx (wVar 2) (wBin oMod (wVar 3) (wVar 1))) (wBin oMul (wVar 4) (wBin oAdd (wVar 3) (wC (.int 2))))) (gSb (wVar 2) (wBin oMod (wVar 3) (wVar 1))))) (sRet (wFz (wVar 2)))))
theorem p_l_folded (k : Nat) (ds : List D) (c : Cs) (Q : DK) (X0 : XK0) (hlen0 : ds.length = 2) (h : c_l_folded k ds c Q X0) : w_l_folded k (endOf Q) (excOf X0) (enOf 5 ds) c := by
  obtain ⟨ns, n, rfl, h63, h0, h1, q⟩ := h
  simp only [w_l_folded, sRaise, sTry, wIsX, wWhat, wBack, lo_lst, e_mulV, sizeL, sNil, sSeq, sPass, sBrk, sCont, sExpr, sRet, sRetN, sIf, sNever, sSet, sAug, gNm, gTp, gNil', gCons', gSb, sAsg, sPar, sFor, wVar_z, wVar_s, wC, wChn, wTru, sPar3, wRev, wCallK, permF, List.filterMap_cons, List.filterMap_nil, wBin, wUn, wTst, wNot, wAnd, wOr, wAndV, wOrV, wNotV, wIf, wNil, wCons, wTup, wLst, wLstL, wFz, wCall, wBi, wMt, wMt0, wSl, wSlL, wPart, wNoPart, wYes, wSeq, wRg1, wRg2, wEnum, wZip, wLc, wLcL, wLRg, wFld, sFldS, sFldA, gFld, wMeth, wMake, lvl2_s, onB, e_eqI, e_neI, e_eqB, e_neB, e_eqS, e_neS, e_eqN, e_tyLT, e_ty1, isTys, tyMem, tyN_non, tyN_bl, tyN_int, tyN_str, tyN_tup, tyN_lst, Bool.true_or, Bool.or_true, Bool.or_false, Bool.false_or, Bool.not_true, Bool.not_false, inn_non, inn_bl, inn_int, inn_str, inn_tup, inn_lst, inn_ptr, e_slT, e_slL, e_slN, isT_P, isT_L, isT_T, isT_N, e_sub, e_fdiv, e_mod, e_pow, e_lt, e_le, e_gt, e_ge, e_neg, e_add, e_addS, e_addT, e_addL, e_addPP, e_addPL, e_addLP, e_mul, e_mulL, e_mulT, e_augI, e_ixT, e_ixL, e_ixN, e_ixP, e_lenT, e_lenL, e_lenN, e_lenS, e_lenP, e_abs, e_intI, e_intB, e_max, e_min, e_tupL, e_tupT, e_listL, e_listT, e_listN, e_listLL, e_listLT, e_divmod, e_isNon, e_isntNon, e_isB, e_isntB, e_setIx, e_insert, e_append, e_isL, e_isLL, e_seqP, e_seqL, e_seqT, e_seqN, it_lst, it_fz, Option.bind_some, Option.isSome_some, ix10, ix20, ix21, ix30, ix32, dl1, dl2, dl3, List.eraseIdx_cons_zero, e_pop0, e_popAt, e_rev, e_clear, e_tupP, e_listP, e_neN, e_neIN, e_neNI, e_eqIN, e_eqNI, at0, at1, at2, at3, Cell.lst.injEq, Cell.obj.injEq, Option.some.injEq, exists_eq_left', decide_eq_true_eq, true_and, and_true, cup_same, cup_cup, List.flatten_nil, List.flatten_cons, enOf, endOf, excOf, List.map_cons, List.map_nil, List.length_cons, List.length_nil, List.replicate, Nat.reduceAdd, Nat.reduceSub, List.cons_append, List.nil_append, List.set_cons_zero, List.set_cons_succ, List.getElem?_cons_zero, List.getElem?_cons_succ, List.getElem_cons_zero, List.getElem_cons_succ, reduceCtorEq, if_true, if_false, Bool.false_eq_true, decide_true, decide_false, ne_eq, not_true, not_false_eq_true, Int.reduceEq, Nat.reduceMul, true_imp_iff, Int.reduceToNat, Int.reducePow, Nat.reducePow, Int.reduceLE, Int.reduceLT, Nat.reduceLT, and_self, Nat.reduceLeDiff, Int.reduceNeg, Int.reduceAdd, Int.reduceSub, Int.reduceMul, Int.cast_ofNat_Int]
  intro p hp _
  rw [cutL_to (by omega)]
  have hsz : ∀ i : Int, 0 ≤ i % n ∧ i % n < n := fun i => ⟨Int.emod_nonneg _ (by omega), Int.emod_lt_of_pos _ h0⟩
  refine loop_inv (fun i en c' => i ≤ 63 ∧ ∃ ms : List Int, ∃ o3 o4, en = [some (.scr ns), some (.int n), some (.ptr p), o3, o4] ∧ (ms.length : Int) ≤ n ∧ (i < ((cutL ns (some n) (some 63)).map D.int).length → (ms.length : Int) = n) ∧ c' = cup c p (.lst (ms.map .int)))
    ⟨by omega, ns.take n.toNat, _, _, rfl, by rw [List.length_take]; omega, ?_, rfl⟩ ?_ ?_
  · unfold cutL
    rw [List.length_map, List.length_take, List.length_drop, List.length_take]
    have : HT.sIx ns.length 0 (some n) = min n.toNat ns.length := by
      show (if n < 0 then (n + (ns.length : Int)).toNat else min n.toNat ns.length) = _
      rw [if_neg (by omega)]
    omega
  · rintro i en c' d hd ⟨hi, ms, o3, o4, rfl, h2, h3, rfl⟩
    obtain ⟨e, he, rfl⟩ := enD_get _ _ _ _ hd
    have hlt := (List.getElem?_eq_some_iff.mp he).1
    rw [List.getElem?_map] at he
    cases hv : (cutL ns (some n) (some 63))[i]? with
    | none => rw [hv] at he; cases he
    | some v =>
      rw [hv] at he
      cases he
      have hl := h3 hlt
      refine ⟨trivial, _, rfl, fun D1 h4 h5 h6 h7 => ?_⟩
      have hm := hsz ((0 + i : Nat) : Int)
      generalize hmm : ((0 + i : Nat) : Int) % n = m at hm
      have e : atI (ms.map D.int) m = some (.int (ms[m.toNat]'(by omega))) := by
        rw [atI_of hm.1, List.getElem?_map, List.getElem?_eq_getElem (by omega)]
        rfl
      have hcut : (cutL ns (some n) (some 63)).length ≤ 63 := by
        unfold cutL
        rw [List.length_take, List.length_drop]
        omega
      rw [List.length_map] at hlt
      simp only [sRaise, sTry, wIsX, wWhat, wBack, lo_lst, e_mulV, sizeL, sNil, sSeq, sPass, sBrk, sCont, sExpr, sRet, sRetN, sIf, sNever, sSet, sAug, gNm, gTp, gNil', gCons', gSb, sAsg, sPar, sFor, wVar_z, wVar_s, wC, wChn, wTru, sPar3, wRev, wCallK, permF, List.filterMap_cons, List.filterMap_nil, wBin, wUn, wTst, wNot, wAnd, wOr, wAndV, wOrV, wNotV, wIf, wNil, wCons, wTup, wLst, wLstL, wFz, wCall, wBi, wMt, wMt0, wSl, wSlL, wPart, wNoPart, wYes, wSeq, wRg1, wRg2, wEnum, wZip, wLc, wLcL, wLRg, wFld, sFldS, sFldA, gFld, wMeth, wMake, lvl2_s, onB, e_eqI, e_neI, e_eqB, e_neB, e_eqS, e_neS, e_eqN, e_tyLT, e_ty1, isTys, tyMem, tyN_non, tyN_bl, tyN_int, tyN_str, tyN_tup, tyN_lst, Bool.true_or, Bool.or_true, Bool.or_false, Bool.false_or, Bool.not_true, Bool.not_false, inn_non, inn_bl, inn_int, inn_str, inn_tup, inn_lst, inn_ptr, e_slT, e_slL, e_slN, isT_P, isT_L, isT_T, isT_N, e_sub, e_fdiv, e_mod, e_pow, e_lt, e_le, e_gt, e_ge, e_neg, e_add, e_addS, e_addT, e_addL, e_addPP, e_addPL, e_addLP, e_mul, e_mulL, e_mulT, e_augI, e_ixT, e_ixL, e_ixN, e_ixP, e_lenT, e_lenL, e_lenN, e_lenS, e_lenP, e_abs, e_intI, e_intB, e_max, e_min, e_tupL, e_tupT, e_listL, e_listT, e_listN, e_listLL, e_listLT, e_divmod, e_isNon, e_isntNon, e_isB, e_isntB, e_setIx, e_insert, e_append, e_isL, e_isLL, e_seqP, e_seqL, e_seqT, e_seqN, it_lst, it_fz, Option.bind_some, Option.isSome_some, ix10, ix20, ix21, ix30, ix32, dl1, dl2, dl3, List.eraseIdx_cons_zero, e_pop0, e_popAt, e_rev, e_clear, e_tupP, e_listP, e_neN, e_neIN, e_neNI, e_eqIN, e_eqNI, at0, at1, at2, at3, Cell.lst.injEq, Cell.obj.injEq, Option.some.injEq, exists_eq_left', decide_eq_true_eq, true_and, and_true, cup_same, cup_cup, List.flatten_nil, List.flatten_cons, enOf, endOf, excOf, List.map_cons, List.map_nil, List.length_cons, List.length_nil, List.replicate, Nat.reduceAdd, Nat.reduceSub, List.cons_append, List.nil_append, List.set_cons_zero, List.set_cons_succ, List.getElem?_cons_zero, List.getElem?_cons_succ, List.getElem_cons_zero, List.getElem_cons_succ, reduceCtorEq, if_true, if_false, Bool.false_eq_true, decide_true, decide_false, ne_eq, not_true, not_false_eq_true, Int.reduceEq, Nat.reduceMul, true_imp_iff, Int.reduceToNat, Int.reducePow, Nat.reducePow, Int.reduceLE, Int.reduceLT, Nat.reduceLT, and_self, Nat.reduceLeDiff, Int.reduceNeg, Int.reduceAdd, Int.reduceSub, Int.reduceMul, Int.cast_ofNat_Int, hmm, e]
      refine ⟨h0, mul64' (by omega) (by omega), h0, m.toNat, ixN_of hm.1 (by rw [List.length_map]; omega), ?_⟩
      refine h4 _ _ ⟨by omega, ms.set m.toNat (ms[m.toNat]'(by omega) + v * (((0 + i : Nat) : Int) + 2)), _, _, rfl, by rw [List.length_set]; omega, fun _ => by rw [List.length_set]; omega, ?_⟩
      rw [List.map_set]
  · rintro en c' ⟨_, ms, o3, o4, rfl, h2, _, rfl⟩
    refine ⟨trivial, ?_⟩
    simp only [sRaise, sTry, wIsX, wWhat, wBack, lo_lst, e_mulV, sizeL, sNil, sSeq, sPass, sBrk, sCont, sExpr, sRet, sRetN, sIf, sNever, sSet, sAug, gNm, gTp, gNil', gCons', gSb, sAsg, sPar, sFor, wVar_z, wVar_s, wC, wChn, wTru, sPar3, wRev, wCallK, permF, List.filterMap_cons, List.filterMap_nil, wBin, wUn, wTst, wNot, wAnd, wOr, wAndV, wOrV, wNotV, wIf, wNil, wCons, wTup, wLst, wLstL, wFz, wCall, wBi, wMt, wMt0, wSl, wSlL, wPart, wNoPart, wYes, wSeq, wRg1, wRg2, wEnum, wZip, wLc, wLcL, wLRg, wFld, sFldS, sFldA, gFld, wMeth, wMake, lvl2_s, onB, e_eqI, e_neI, e_eqB, e_neB, e_eqS, e_neS, e_eqN, e_tyLT, e_ty1, isTys, tyMem, tyN_non, tyN_bl, tyN_int, tyN_str, tyN_tup, tyN_lst, Bool.true_or, Bool.or_true, Bool.or_false, Bool.false_or, Bool.not_true, Bool.not_false, inn_non, inn_bl, inn_int, inn_str, inn_tup, inn_lst, inn_ptr, e_slT, e_slL, e_slN, isT_P, isT_L, isT_T, isT_N, e_sub, e_fdiv, e_mod, e_pow, e_lt, e_le, e_gt, e_ge, e_neg, e_add, e_addS, e_addT, e_addL, e_addPP, e_addPL, e_addLP, e_mul, e_mulL, e_mulT, e_augI, e_ixT, e_ixL, e_ixN, e_ixP, e_lenT, e_lenL, e_lenN, e_lenS, e_lenP, e_abs, e_intI, e_intB, e_max, e_min, e_tupL, e_tupT, e_listL, e_listT, e_listN, e_listLL, e_listLT, e_divmod, e_isNon, e_isntNon, e_isB, e_isntB, e_setIx, e_insert, e_append, e_isL, e_isLL, e_seqP, e_seqL, e_seqT, e_seqN, it_lst, it_fz, Option.bind_some, Option.isSome_some, ix10, ix20, ix21, ix30, ix32, dl1, dl2, dl3, List.eraseIdx_cons_zero, e_pop0, e_popAt, e_rev, e_clear, e_tupP, e_listP, e_neN, e_neIN, e_neNI, e_eqIN, e_eqNI, at0, at1, at2, at3, Cell.lst.injEq, Cell.obj.injEq, Option.some.injEq, exists_eq_left', decide_eq_true_eq, true_and, and_true, cup_same, cup_cup, List.flatten_nil, List.flatten_cons, enOf, endOf, excOf, List.map_cons, List.map_nil, List.length_cons, List.length_nil, List.replicate, Nat.reduceAdd, Nat.reduceSub, List.cons_append, List.nil_append, List.set_cons_zero, List.set_cons_succ, List.getElem?_cons_zero, List.getElem?_cons_succ, List.getElem_cons_zero, List.getElem_cons_succ, reduceCtorEq, if_true, if_false, Bool.false_eq_true, decide_true, decide_false, ne_eq, not_true, not_false_eq_true]
    exact ⟨c, CLe.cup_new hp, q ms h2⟩
theorem RdsE.zip {c : Cs} : ∀ {l m : List D}, RdsE c l m → ∀ d ∈ List.zipWith (fun x y => D.tup [x, y]) l m, ∃ x y, d = .tup [x, y] ∧ RdE c x y ∧ y ∈ m
  | _, _, .nil, _, h => by simp at h
  | _, _, .cons r h, d, hd => by
    rw [List.zipWith_cons_cons] at hd
    rcases List.mem_cons.mp hd with rfl | hd
    · exact ⟨_, _, rfl, r, List.mem_cons_self ..⟩
    · obtain ⟨x, y, e, h1, h2⟩ := RdsE.zip h d hd
      exact ⟨x, y, e, h1, List.mem_cons_of_mem _ h2⟩
def c_l_same (k : Nat) : Ctr := fun ds c Q _ => ∃ x y, ds = [x, y] ∧ RdE c x y ∧ dep y ≤ k ∧ Q (.bl true) c
theorem same_of {k : Nat} {x : D} {c : Cs} {Q : DK} {X0 : XK0} (h : pl x = true) (hd : dep x ≤ k) (q : Q (.bl true) c) : c_l_same k [x, x] c Q X0 := ⟨x, x, rfl, .self h, hd, q⟩
def w_l_same (k : Nat) : WS := (sSeq (sIf (wTst (wBi oIsi (wCons (wVar 1) (wCons (wTup (wCons (wC (.ty "list")) (wCons (wC (.ty "tuple")) wNil))) wNil)))) (sSeq (sIf (wOr (wTst (wBin oNe (wBi oIsi (wCons (wVar 0) (wCons (wC (.ty "list")) wNil))) (wBi oIsi (wCons (wVar 1) (wCons (wC (.ty "list")) wNil))))) (wTst (wBin oNe (wBi oIsi (wCons (wVar 0) (wCons (wC (.ty "tuple")) wNil))) (wBi oIsi (wCons (wVar 1) (wCons (wC (.ty "tuple")) wNil)))))) (sRet (wC (.bl false))) sNil) (sRet (wAndV (wBin oEq (wBi oLen (wCons (wVar 0) wNil)) (wBi oLen (wCons (wVar 1) wNil))) (wBi oAll (wCons (wLc (wZip (wVar 0) (wVar 1)) (.tup [(.nm 2), (.nm 3)]) wYes (wCall 2 c_l_same k (wCons (wVar 2) (wCons (wVar 3) wNil))) [2, 3]) wNil))))) sNil) (sSeq (sIf (wOr (wTst (wBin oIs (wVar 1) (wC .non))) (wTst (wBi oIsi (wCons (wVar 1) (wCons (wC (.ty "str")) wNil))))) (sRet (wAndV (wBin oEq (wVar 0) (wVar 1)) (wBin oEq (wBi oIsi (wCons (wVar 0) (wCons (wC (.ty "str")) wNil))) (wBi oIsi (wCons (wVar 1) (wCons (wC (.ty "str")) wNil)))))) sNil) (sRet (wAndV (wBi oIsi (wCons (wVar 0) (wCons (wC (.ty "int")) wNil))) (wAndV (wBin oEq (wBi oIsi (wCons (wVar 0) (wCons (wC (.ty "bool")) wNil))) (wBi oIsi (wCons (wVar 1) (wCons (wC (.ty "bool")) wNil)))) (wBin oEq (wVar 0) (wVar 1)))))))
theorem p_l_same (k : Nat) (ds : List D) (c : Cs) (Q : DK) (X0 : XK0) (hlen0 : ds.length = 2) (h : c_l_same k ds c Q X0) : w_l_same k (endOf Q) (excOf X0) (enOf 4 ds) c := by
  obtain ⟨x, y, rfl, hr, hd, q⟩ := h
  have rt : ∃ c0, CLe c0 c ∧ Q (.bl true) c0 := ⟨c, CLe.refl _, q⟩
  have seq : ∀ (chk : Cs → Prop) (x y : D) (l m : List D), chk c → RdsE c l m → deps m + 1 ≤ k → m.length ≤ sizeLine → 
      lcW chk (Tg.tup [Tg.nm 2, Tg.nm 3]) wYes (wCall 2 c_l_same k (wCons (wVar 2) (wCons (wVar 3) wNil))) [2, 3] [some x, some y, none, none]
      (fun acc c' => oAll [.lst acc] c' fun d c1 => ∃ c0, CLe c0 c1 ∧ Q d c0) (List.zipWith (fun x y => D.tup [x, y]) l m) [] c := by
    intro chk x y l m hchk hl hd hz
    refine lc_map (fun _ => .bl true) hchk (fun d hd' => ?_) ?_
    · obtain ⟨u, v, rfl, h1, h2⟩ := hl.zip d hd'
      refine ⟨_, rfl, fun Q q => ?_⟩
      simp only [sRaise, sTry, wIsX, wWhat, wBack, lo_lst, e_mulV, sizeL, sNil, sSeq, sPass, sBrk, sCont, sExpr, sRet, sRetN, sIf, sNever, sSet, sAug, gNm, gTp, gNil', gCons', gSb, sAsg, sPar, sFor, wVar_z, wVar_s, wC, wChn, wTru, sPar3, wRev, wCallK, permF, List.filterMap_cons, List.filterMap_nil, wBin, wUn, wTst, wNot, wAnd, wOr, wAndV, wOrV, wNotV, wIf, wNil, wCons, wTup, wLst, wLstL, wFz, wCall, wBi, wMt, wMt0, wSl, wSlL, wPart, wNoPart, wYes, wSeq, wRg1, wRg2, wEnum, wZip, wLc, wLcL, wLRg, wFld, sFldS, sFldA, gFld, wMeth, wMake, lvl2_s, onB, e_eqI, e_neI, e_eqB, e_neB, e_eqS, e_neS, e_eqN, e_tyLT, e_ty1, isTys, tyMem, tyN_non, tyN_bl, tyN_int, tyN_str, tyN_tup, tyN_lst, Bool.true_or, Bool.or_true, Bool.or_false, Bool.false_or, Bool.not_true, Bool.not_false, inn_non, inn_bl, inn_int, inn_str, inn_tup, inn_lst, inn_ptr, e_slT, e_slL, e_slN, isT_P, isT_L, isT_T, isT_N, e_sub, e_fdiv, e_mod, e_pow, e_lt, e_le, e_gt, e_ge, e_neg, e_add, e_addS, e_addT, e_addL, e_addPP, e_addPL, e_addLP, e_mul, e_mulL, e_mulT, e_augI, e_ixT, e_ixL, e_ixN, e_ixP, e_lenT, e_lenL, e_lenN, e_lenS, e_lenP, e_abs, e_intI, e_intB, e_max, e_min, e_tupL, e_tupT, e_listL, e_listT, e_listN, e_listLL, e_listLT, e_divmod, e_isNon, e_isntNon, e_isB, e_isntB, e_setIx, e_insert, e_append, e_isL, e_isLL, e_seqP, e_seqL, e_seqT, e_seqN, it_lst, it_fz, Option.bind_some, Option.isSome_some, ix10, ix20, ix21, ix30, ix32, dl1, dl2, dl3, List.eraseIdx_cons_zero, e_pop0, e_popAt, e_rev, e_clear, e_tupP, e_listP, e_neN, e_neIN, e_neNI, e_eqIN, e_eqNI, at0, at1, at2, at3, Cell.lst.injEq, Cell.obj.injEq, Option.some.injEq, exists_eq_left', decide_eq_true_eq, true_and, and_true, cup_same, cup_cup, List.flatten_nil, List.flatten_cons, enOf, endOf, excOf, List.map_cons, List.map_nil, List.length_cons, List.length_nil, List.replicate, Nat.reduceAdd, Nat.reduceSub, List.cons_append, List.nil_append, List.set_cons_zero, List.set_cons_succ, List.getElem?_cons_zero, List.getElem?_cons_succ, List.getElem_cons_zero, List.getElem_cons_succ, reduceCtorEq, if_true, if_false, Bool.false_eq_true, decide_true, decide_false, ne_eq, not_true, not_false_eq_true, Int.reduceEq, Nat.reduceMul, true_imp_iff, Int.reduceToNat, Int.reducePow, Nat.reducePow, Int.reduceLE, Int.reduceLT, Nat.reduceLT, and_self, Nat.reduceLeDiff, Int.reduceNeg, Int.reduceAdd, Int.reduceSub, Int.reduceMul, Int.cast_ofNat_Int, ewipe]
      cases k with
      | zero => omega
      | succ k => exact ⟨u, v, rfl, h1, deps_le.mp (show deps m ≤ k by omega) _ h2, q⟩
    · rw [show (List.zipWith (fun x y => D.tup [x, y]) l m).map (fun _ => D.bl true) = (List.replicate (List.zipWith (fun x y => D.tup [x, y]) l m).length true).map D.bl by rw [List.map_replicate]; exact List.map_const' .., e_all]
      simpa using rt
  cases hr with
  | non =>
    simp only [w_l_same, sRaise, sTry, wIsX, wWhat, wBack, lo_lst, e_mulV, sizeL, sNil, sSeq, sPass, sBrk, sCont, sExpr, sRet, sRetN, sIf, sNever, sSet, sAug, gNm, gTp, gNil', gCons', gSb, sAsg, sPar, sFor, wVar_z, wVar_s, wC, wChn, wTru, sPar3, wRev, wCallK, permF, List.filterMap_cons, List.filterMap_nil, wBin, wUn, wTst, wNot, wAnd, wOr, wAndV, wOrV, wNotV, wIf, wNil, wCons, wTup, wLst, wLstL, wFz, wCall, wBi, wMt, wMt0, wSl, wSlL, wPart, wNoPart, wYes, wSeq, wRg1, wRg2, wEnum, wZip, wLc, wLcL, wLRg, wFld, sFldS, sFldA, gFld, wMeth, wMake, lvl2_s, onB, e_eqI, e_neI, e_eqB, e_neB, e_eqS, e_neS, e_eqN, e_tyLT, e_ty1, isTys, tyMem, tyN_non, tyN_bl, tyN_int, tyN_str, tyN_tup, tyN_lst, Bool.true_or, Bool.or_true, Bool.or_false, Bool.false_or, Bool.not_true, Bool.not_false, inn_non, inn_bl, inn_int, inn_str, inn_tup, inn_lst, inn_ptr, e_slT, e_slL, e_slN, isT_P, isT_L, isT_T, isT_N, e_sub, e_fdiv, e_mod, e_pow, e_lt, e_le, e_gt, e_ge, e_neg, e_add, e_addS, e_addT, e_addL, e_addPP, e_addPL, e_addLP, e_mul, e_mulL, e_mulT, e_augI, e_ixT, e_ixL, e_ixN, e_ixP, e_lenT, e_lenL, e_lenN, e_lenS, e_lenP, e_abs, e_intI, e_intB, e_max, e_min, e_tupL, e_tupT, e_listL, e_listT, e_listN, e_listLL, e_listLT, e_divmod, e_isNon, e_isntNon, e_isB, e_isntB, e_setIx, e_insert, e_append, e_isL, e_isLL, e_seqP, e_seqL, e_seqT, e_seqN, it_lst, it_fz, Option.bind_some, Option.isSome_some, ix10, ix20, ix21, ix30, ix32, dl1, dl2, dl3, List.eraseIdx_cons_zero, e_pop0, e_popAt, e_rev, e_clear, e_tupP, e_listP, e_neN, e_neIN, e_neNI, e_eqIN, e_eqNI, at0, at1, at2, at3, Cell.lst.injEq, Cell.obj.injEq, Option.some.injEq, exists_eq_left', decide_eq_true_eq, true_and, and_true, cup_same, cup_cup, List.flatten_nil, List.flatten_cons, enOf, endOf, excOf, List.map_cons, List.map_nil, List.length_cons, List.length_nil, List.replicate, Nat.reduceAdd, Nat.reduceSub, List.cons_append, List.nil_append, List.set_cons_zero, List.set_cons_succ, List.getElem?_cons_zero, List.getElem?_cons_succ, List.getElem_cons_zero, List.getElem_cons_succ, reduceCtorEq, if_true, if_false, Bool.false_eq_true, decide_true, decide_false, ne_eq, not_true, not_false_eq_true, Int.reduceEq, Nat.reduceMul, true_imp_iff, Int.reduceToNat, Int.reducePow, Nat.reducePow, Int.reduceLE, Int.reduceLT, Nat.reduceLT, and_self, Nat.reduceLeDiff, Int.reduceNeg, Int.reduceAdd, Int.reduceSub, Int.reduceMul, Int.cast_ofNat_Int]
    exact rt
  | bl b =>
    simp only [w_l_same, sRaise, sTry, wIsX, wWhat, wBack, lo_lst, e_mulV, sizeL, sNil, sSeq, sPass, sBrk, sCont, sExpr, sRet, sRetN, sIf, sNever, sSet, sAug, gNm, gTp, gNil', gCons', gSb, sAsg, sPar, sFor, wVar_z, wVar_s, wC, wChn, wTru, sPar3, wRev, wCallK, permF, List.filterMap_cons, List.filterMap_nil, wBin, wUn, wTst, wNot, wAnd, wOr, wAndV, wOrV, wNotV, wIf, wNil, wCons, wTup, wLst, wLstL, wFz, wCall, wBi, wMt, wMt0, wSl, wSlL, wPart, wNoPart, wYes, wSeq, wRg1, wRg2, wEnum, wZip, wLc, wLcL, wLRg, wFld, sFldS, sFldA, gFld, wMeth, wMake, lvl2_s, onB, e_eqI, e_neI, e_eqB, e_neB, e_eqS, e_neS, e_eqN, e_tyLT, e_ty1, isTys, tyMem, tyN_non, tyN_bl, tyN_int, tyN_str, tyN_tup, tyN_lst, Bool.true_or, Bool.or_true, Bool.or_false, Bool.false_or, Bool.not_true, Bool.not_false, inn_non, inn_bl, inn_int, inn_str, inn_tup, inn_lst, inn_ptr, e_slT, e_slL, e_slN, isT_P, isT_L, isT_T, isT_N, e_sub, e_fdiv, e_mod, e_pow, e_lt, e_le, e_gt, e_ge, e_neg, e_add, e_addS, e_addT, e_addL, e_addPP, e_addPL, e_addLP, e_mul, e_mulL, e_mulT, e_augI, e_ixT, e_ixL, e_ixN, e_ixP, e_lenT, e_lenL, e_lenN, e_lenS, e_lenP, e_abs, e_intI, e_intB, e_max, e_min, e_tupL, e_tupT, e_listL, e_listT, e_listN, e_listLL, e_listLT, e_divmod, e_isNon, e_isntNon, e_isB, e_isntB, e_setIx, e_insert, e_append, e_isL, e_isLL, e_seqP, e_seqL, e_seqT, e_seqN, it_lst, it_fz, Option.bind_some, Option.isSome_some, ix10, ix20, ix21, ix30, ix32, dl1, dl2, dl3, List.eraseIdx_cons_zero, e_pop0, e_popAt, e_rev, e_clear, e_tupP, e_listP, e_neN, e_neIN, e_neNI, e_eqIN, e_eqNI, at0, at1, at2, at3, Cell.lst.injEq, Cell.obj.injEq, Option.some.injEq, exists_eq_left', decide_eq_true_eq, true_and, and_true, cup_same, cup_cup, List.flatten_nil, List.flatten_cons, enOf, endOf, excOf, List.map_cons, List.map_nil, List.length_cons, List.length_nil, List.replicate, Nat.reduceAdd, Nat.reduceSub, List.cons_append, List.nil_append, List.set_cons_zero, List.set_cons_succ, List.getElem?_cons_zero, List.getElem?_cons_succ, List.getElem_cons_zero, List.getElem_cons_succ, reduceCtorEq, if_true, if_false, Bool.false_eq_true, decide_true, decide_false, ne_eq, not_true, not_false_eq_true, Int.reduceEq, Nat.reduceMul, true_imp_iff, Int.reduceToNat, Int.reducePow, Nat.reducePow, Int.reduceLE, Int.reduceLT, Nat.reduceLT, and_self, Nat.reduceLeDiff, Int.reduceNeg, Int.reduceAdd, Int.reduceSub, Int.reduceMul, Int.cast_ofNat_Int]
    exact rt
  | int i =>
    simp only [w_l_same, sRaise, sTry, wIsX, wWhat, wBack, lo_lst, e_mulV, sizeL, sNil, sSeq, sPass, sBrk, sCont, sExpr, sRet, sRetN, sIf, sNever, sSet, sAug, gNm, gTp, gNil', gCons', gSb, sAsg, sPar, sFor, wVar_z, wVar_s, wC, wChn, wTru, sPar3, wRev, wCallK, permF, List.filterMap_cons, List.filterMap_nil, wBin, wUn, wTst, wNot, wAnd, wOr, wAndV, wOrV, wNotV, wIf, wNil, wCons, wTup, wLst, wLstL, wFz, wCall, wBi, wMt, wMt0, wSl, wSlL, wPart, wNoPart, wYes, wSeq, wRg1, wRg2, wEnum, wZip, wLc, wLcL, wLRg, wFld, sFldS, sFldA, gFld, wMeth, wMake, lvl2_s, onB, e_eqI, e_neI, e_eqB, e_neB, e_eqS, e_neS, e_eqN, e_tyLT, e_ty1, isTys, tyMem, tyN_non, tyN_bl, tyN_int, tyN_str, tyN_tup, tyN_lst, Bool.true_or, Bool.or_true, Bool.or_false, Bool.false_or, Bool.not_true, Bool.not_false, inn_non, inn_bl, inn_int, inn_str, inn_tup, inn_lst, inn_ptr, e_slT, e_slL, e_slN, isT_P, isT_L, isT_T, isT_N, e_sub, e_fdiv, e_mod, e_pow, e_lt, e_le, e_gt, e_ge, e_neg, e_add, e_addS, e_addT, e_addL, e_addPP, e_addPL, e_addLP, e_mul, e_mulL, e_mulT, e_augI, e_ixT, e_ixL, e_ixN, e_ixP, e_lenT, e_lenL, e_lenN, e_lenS, e_lenP, e_abs, e_intI, e_intB, e_max, e_min, e_tupL, e_tupT, e_listL, e_listT, e_listN, e_listLL, e_listLT, e_divmod, e_isNon, e_isntNon, e_isB, e_isntB, e_setIx, e_insert, e_append, e_isL, e_isLL, e_seqP, e_seqL, e_seqT, e_seqN, it_lst, it_fz, Option.bind_some, Option.isSome_some, ix10, ix20, ix21, ix30, ix32, dl1, dl2, dl3, List.eraseIdx_cons_zero, e_pop0, e_popAt, e_rev, e_clear, e_tupP, e_listP, e_neN, e_neIN, e_neNI, e_eqIN, e_eqNI, at0, at1, at2, at3, Cell.lst.injEq, Cell.obj.injEq, Option.some.injEq, exists_eq_left', decide_eq_true_eq, true_and, and_true, cup_same, cup_cup, List.flatten_nil, List.flatten_cons, enOf, endOf, excOf, List.map_cons, List.map_nil, List.length_cons, List.length_nil, List.replicate, Nat.reduceAdd, Nat.reduceSub, List.cons_append, List.nil_append, List.set_cons_zero, List.set_cons_succ, List.getElem?_cons_zero, List.getElem?_cons_succ, List.getElem_cons_zero, List.getElem_cons_succ, reduceCtorEq, if_true, if_false, Bool.false_eq_true, decide_true, decide_false, ne_eq, not_true, not_false_eq_true, Int.reduceEq, Nat.reduceMul, true_imp_iff, Int.reduceToNat, Int.reducePow, Nat.reducePow, Int.reduceLE, Int.reduceLT, Nat.reduceLT, and_self, Nat.reduceLeDiff, Int.reduceNeg, Int.reduceAdd, Int.reduceSub, Int.reduceMul, Int.cast_ofNat_Int]
    exact rt
  | str z =>
    simp only [w_l_same, sRaise, sTry, wIsX, wWhat, wBack, lo_lst, e_mulV, sizeL, sNil, sSeq, sPass, sBrk, sCont, sExpr, sRet, sRetN, sIf, sNever, sSet, sAug, gNm, gTp, gNil', gCons', gSb, sAsg, sPar, sFor, wVar_z, wVar_s, wC, wChn, wTru, sPar3, wRev, wCallK, permF, List.filterMap_cons, List.filterMap_nil, wBin, wUn, wTst, wNot, wAnd, wOr, wAndV, wOrV, wNotV, wIf, wNil, wCons, wTup, wLst, wLstL, wFz, wCall, wBi, wMt, wMt0, wSl, wSlL, wPart, wNoPart, wYes, wSeq, wRg1, wRg2, wEnum, wZip, wLc, wLcL, wLRg, wFld, sFldS, sFldA, gFld, wMeth, wMake, lvl2_s, onB, e_eqI, e_neI, e_eqB, e_neB, e_eqS, e_neS, e_eqN, e_tyLT, e_ty1, isTys, tyMem, tyN_non, tyN_bl, tyN_int, tyN_str, tyN_tup, tyN_lst, Bool.true_or, Bool.or_true, Bool.or_false, Bool.false_or, Bool.not_true, Bool.not_false, inn_non, inn_bl, inn_int, inn_str, inn_tup, inn_lst, inn_ptr, e_slT, e_slL, e_slN, isT_P, isT_L, isT_T, isT_N, e_sub, e_fdiv, e_mod, e_pow, e_lt, e_le, e_gt, e_ge, e_neg, e_add, e_addS, e_addT, e_addL, e_addPP, e_addPL, e_addLP, e_mul, e_mulL, e_mulT, e_augI, e_ixT, e_ixL, e_ixN, e_ixP, e_lenT, e_lenL, e_lenN, e_lenS, e_lenP, e_abs, e_intI, e_intB, e_max, e_min, e_tupL, e_tupT, e_listL, e_listT, e_listN, e_listLL, e_listLT, e_divmod, e_isNon, e_isntNon, e_isB, e_isntB, e_setIx, e_insert, e_append, e_isL, e_isLL, e_seqP, e_seqL, e_seqT, e_seqN, it_lst, it_fz, Option.bind_some, Option.isSome_some, ix10, ix20, ix21, ix30, ix32, dl1, dl2, dl3, List.eraseIdx_cons_zero, e_pop0, e_popAt, e_rev, e_clear, e_tupP, e_listP, e_neN, e_neIN, e_neNI, e_eqIN, e_eqNI, at0, at1, at2, at3, Cell.lst.injEq, Cell.obj.injEq, Option.some.injEq, exists_eq_left', decide_eq_true_eq, true_and, and_true, cup_same, cup_cup, List.flatten_nil, List.flatten_cons, enOf, endOf, excOf, List.map_cons, List.map_nil, List.length_cons, List.length_nil, List.replicate, Nat.reduceAdd, Nat.reduceSub, List.cons_append, List.nil_append, List.set_cons_zero, List.set_cons_succ, List.getElem?_cons_zero, List.getElem?_cons_succ, List.getElem_cons_zero, List.getElem_cons_succ, reduceCtorEq, if_true, if_false, Bool.false_eq_true, decide_true, decide_false, ne_eq, not_true, not_false_eq_true, Int.reduceEq, Nat.reduceMul, true_imp_iff, Int.reduceToNat, Int.reducePow, Nat.reducePow, Int.reduceLE, Int.reduceLT, Nat.reduceLT, and_self, Nat.reduceLeDiff, Int.reduceNeg, Int.reduceAdd, Int.reduceSub, Int.reduceMul, Int.cast_ofNat_Int]
    exact rt
  | tup hl =>
    have e := hl.len
    simp only [w_l_same, sRaise, sTry, wIsX, wWhat, wBack, lo_lst, e_mulV, sizeL, sNil, sSeq, sPass, sBrk, sCont, sExpr, sRet, sRetN, sIf, sNever, sSet, sAug, gNm, gTp, gNil', gCons', gSb, sAsg, sPar, sFor, wVar_z, wVar_s, wC, wChn, wTru, sPar3, wRev, wCallK, permF, List.filterMap_cons, List.filterMap_nil, wBin, wUn, wTst, wNot, wAnd, wOr, wAndV, wOrV, wNotV, wIf, wNil, wCons, wTup, wLst, wLstL, wFz, wCall, wBi, wMt, wMt0, wSl, wSlL, wPart, wNoPart, wYes, wSeq, wRg1, wRg2, wEnum, wZip, wLc, wLcL, wLRg, wFld, sFldS, sFldA, gFld, wMeth, wMake, lvl2_s, onB, e_eqI, e_neI, e_eqB, e_neB, e_eqS, e_neS, e_eqN, e_tyLT, e_ty1, isTys, tyMem, tyN_non, tyN_bl, tyN_int, tyN_str, tyN_tup, tyN_lst, Bool.true_or, Bool.or_true, Bool.or_false, Bool.false_or, Bool.not_true, Bool.not_false, inn_non, inn_bl, inn_int, inn_str, inn_tup, inn_lst, inn_ptr, e_slT, e_slL, e_slN, isT_P, isT_L, isT_T, isT_N, e_sub, e_fdiv, e_mod, e_pow, e_lt, e_le, e_gt, e_ge, e_neg, e_add, e_addS, e_addT, e_addL, e_addPP, e_addPL, e_addLP, e_mul, e_mulL, e_mulT, e_augI, e_ixT, e_ixL, e_ixN, e_ixP, e_lenT, e_lenL, e_lenN, e_lenS, e_lenP, e_abs, e_intI, e_intB, e_max, e_min, e_tupL, e_tupT, e_listL, e_listT, e_listN, e_listLL, e_listLT, e_divmod, e_isNon, e_isntNon, e_isB, e_isntB, e_setIx, e_insert, e_append, e_isL, e_isLL, e_seqP, e_seqL, e_seqT, e_seqN, it_lst, it_fz, Option.bind_some, Option.isSome_some, ix10, ix20, ix21, ix30, ix32, dl1, dl2, dl3, List.eraseIdx_cons_zero, e_pop0, e_popAt, e_rev, e_clear, e_tupP, e_listP, e_neN, e_neIN, e_neNI, e_eqIN, e_eqNI, at0, at1, at2, at3, Cell.lst.injEq, Cell.obj.injEq, Option.some.injEq, exists_eq_left', decide_eq_true_eq, true_and, and_true, cup_same, cup_cup, List.flatten_nil, List.flatten_cons, enOf, endOf, excOf, List.map_cons, List.map_nil, List.length_cons, List.length_nil, List.replicate, Nat.reduceAdd, Nat.reduceSub, List.cons_append, List.nil_append, List.set_cons_zero, List.set_cons_succ, List.getElem?_cons_zero, List.getElem?_cons_succ, List.getElem_cons_zero, List.getElem_cons_succ, reduceCtorEq, if_true, if_false, Bool.false_eq_true, decide_true, decide_false, ne_eq, not_true, not_false_eq_true, Int.reduceEq, Nat.reduceMul, true_imp_iff, Int.reduceToNat, Int.reducePow, Nat.reducePow, Int.reduceLE, Int.reduceLT, Nat.reduceLT, and_self, Nat.reduceLeDiff, Int.reduceNeg, Int.reduceAdd, Int.reduceSub, Int.reduceMul, Int.cast_ofNat_Int, e]
    exact fun _ hz => ⟨by rw [List.length_zipWith]; omega, seq _ _ _ _ _ trivial hl (by simpa [dep] using hd) hz⟩
  | lst hl =>
    have e := hl.len
    simp only [w_l_same, sRaise, sTry, wIsX, wWhat, wBack, lo_lst, e_mulV, sizeL, sNil, sSeq, sPass, sBrk, sCont, sExpr, sRet, sRetN, sIf, sNever, sSet, sAug, gNm, gTp, gNil', gCons', gSb, sAsg, sPar, sFor, wVar_z, wVar_s, wC, wChn, wTru, sPar3, wRev, wCallK, permF, List.filterMap_cons, List.filterMap_nil, wBin, wUn, wTst, wNot, wAnd, wOr, wAndV, wOrV, wNotV, wIf, wNil, wCons, wTup, wLst, wLstL, wFz, wCall, wBi, wMt, wMt0, wSl, wSlL, wPart, wNoPart, wYes, wSeq, wRg1, wRg2, wEnum, wZip, wLc, wLcL, wLRg, wFld, sFldS, sFldA, gFld, wMeth, wMake, lvl2_s, onB, e_eqI, e_neI, e_eqB, e_neB, e_eqS, e_neS, e_eqN, e_tyLT, e_ty1, isTys, tyMem, tyN_non, tyN_bl, tyN_int, tyN_str, tyN_tup, tyN_lst, Bool.true_or, Bool.or_true, Bool.or_false, Bool.false_or, Bool.not_true, Bool.not_false, inn_non, inn_bl, inn_int, inn_str, inn_tup, inn_lst, inn_ptr, e_slT, e_slL, e_slN, isT_P, isT_L, isT_T, isT_N, e_sub, e_fdiv, e_mod, e_pow, e_lt, e_le, e_gt, e_ge, e_neg, e_add, e_addS, e_addT, e_addL, e_addPP, e_addPL, e_addLP, e_mul, e_mulL, e_mulT, e_augI, e_ixT, e_ixL, e_ixN, e_ixP, e_lenT, e_lenL, e_lenN, e_lenS, e_lenP, e_abs, e_intI, e_intB, e_max, e_min, e_tupL, e_tupT, e_listL, e_listT, e_listN, e_listLL, e_listLT, e_divmod, e_isNon, e_isntNon, e_isB, e_isntB, e_setIx, e_insert, e_append, e_isL, e_isLL, e_seqP, e_seqL, e_seqT, e_seqN, it_lst, it_fz, Option.bind_some, Option.isSome_some, ix10, ix20, ix21, ix30, ix32, dl1, dl2, dl3, List.eraseIdx_cons_zero, e_pop0, e_popAt, e_rev, e_clear, e_tupP, e_listP, e_neN, e_neIN, e_neNI, e_eqIN, e_eqNI, at0, at1, at2, at3, Cell.lst.injEq, Cell.obj.injEq, Option.some.injEq, exists_eq_left', decide_eq_true_eq, true_and, and_true, cup_same, cup_cup, List.flatten_nil, List.flatten_cons, enOf, endOf, excOf, List.map_cons, List.map_nil, List.length_cons, List.length_nil, List.replicate, Nat.reduceAdd, Nat.reduceSub, List.cons_append, List.nil_append, List.set_cons_zero, List.set_cons_succ, List.getElem?_cons_zero, List.getElem?_cons_succ, List.getElem_cons_zero, List.getElem_cons_succ, reduceCtorEq, if_true, if_false, Bool.false_eq_true, decide_true, decide_false, ne_eq, not_true, not_false_eq_true, Int.reduceEq, Nat.reduceMul, true_imp_iff, Int.reduceToNat, Int.reducePow, Nat.reducePow, Int.reduceLE, Int.reduceLT, Nat.reduceLT, and_self, Nat.reduceLeDiff, Int.reduceNeg, Int.reduceAdd, Int.reduceSub, Int.reduceMul, Int.cast_ofNat_Int, e]
    exact fun _ hz => ⟨by rw [List.length_zipWith]; omega, seq _ _ _ _ _ trivial hl (by simpa [dep] using hd) hz⟩
  | ptr hp hl =>
    have e := hl.len
    have ht := tyN_ptr hp
    simp only [w_l_same, sRaise, sTry, wIsX, wWhat, wBack, lo_lst, e_mulV, sizeL, sNil, sSeq, sPass, sBrk, sCont, sExpr, sRet, sRetN, sIf, sNever, sSet, sAug, gNm, gTp, gNil', gCons', gSb, sAsg, sPar, sFor, wVar_z, wVar_s, wC, wChn, wTru, sPar3, wRev, wCallK, permF, List.filterMap_cons, List.filterMap_nil, wBin, wUn, wTst, wNot, wAnd, wOr, wAndV, wOrV, wNotV, wIf, wNil, wCons, wTup, wLst, wLstL, wFz, wCall, wBi, wMt, wMt0, wSl, wSlL, wPart, wNoPart, wYes, wSeq, wRg1, wRg2, wEnum, wZip, wLc, wLcL, wLRg, wFld, sFldS, sFldA, gFld, wMeth, wMake, lvl2_s, onB, e_eqI, e_neI, e_eqB, e_neB, e_eqS, e_neS, e_eqN, e_tyLT, e_ty1, isTys, tyMem, tyN_non, tyN_bl, tyN_int, tyN_str, tyN_tup, tyN_lst, Bool.true_or, Bool.or_true, Bool.or_false, Bool.false_or, Bool.not_true, Bool.not_false, inn_non, inn_bl, inn_int, inn_str, inn_tup, inn_lst, inn_ptr, e_slT, e_slL, e_slN, isT_P, isT_L, isT_T, isT_N, e_sub, e_fdiv, e_mod, e_pow, e_lt, e_le, e_gt, e_ge, e_neg, e_add, e_addS, e_addT, e_addL, e_addPP, e_addPL, e_addLP, e_mul, e_mulL, e_mulT, e_augI, e_ixT, e_ixL, e_ixN, e_ixP, e_lenT, e_lenL, e_lenN, e_lenS, e_lenP, e_abs, e_intI, e_intB, e_max, e_min, e_tupL, e_tupT, e_listL, e_listT, e_listN, e_listLL, e_listLT, e_divmod, e_isNon, e_isntNon, e_isB, e_isntB, e_setIx, e_insert, e_append, e_isL, e_isLL, e_seqP, e_seqL, e_seqT, e_seqN, it_lst, it_fz, Option.bind_some, Option.isSome_some, ix10, ix20, ix21, ix30, ix32, dl1, dl2, dl3, List.eraseIdx_cons_zero, e_pop0, e_popAt, e_rev, e_clear, e_tupP, e_listP, e_neN, e_neIN, e_neNI, e_eqIN, e_eqNI, at0, at1, at2, at3, Cell.lst.injEq, Cell.obj.injEq, Option.some.injEq, exists_eq_left', decide_eq_true_eq, true_and, and_true, cup_same, cup_cup, List.flatten_nil, List.flatten_cons, enOf, endOf, excOf, List.map_cons, List.map_nil, List.length_cons, List.length_nil, List.replicate, Nat.reduceAdd, Nat.reduceSub, List.cons_append, List.nil_append, List.set_cons_zero, List.set_cons_succ, List.getElem?_cons_zero, List.getElem?_cons_succ, List.getElem_cons_zero, List.getElem_cons_succ, reduceCtorEq, if_true, if_false, Bool.false_eq_true, decide_true, decide_false, ne_eq, not_true, not_false_eq_true, Int.reduceEq, Nat.reduceMul, true_imp_iff, Int.reduceToNat, Int.reducePow, Nat.reducePow, Int.reduceLE, Int.reduceLT, Nat.reduceLT, and_self, Nat.reduceLeDiff, Int.reduceNeg, Int.reduceAdd, Int.reduceSub, Int.reduceMul, Int.cast_ofNat_Int, ht, hp, e]
    exact fun _ hz => ⟨by rw [List.length_zipWith]; omega, seq _ _ _ _ _ hp hl (by simpa [dep] using hd) hz⟩
theorem seq_gen {A B : WS} {D : EndD} {X : XD} {en : En} {c : Cs} (h : ∀ D2 : EndD, D2.rt = D.rt → D2.ct = D.ct → D2.bk = D.bk → (∀ en c, B D X en c → D2.nx en c) → A D2 X en c) : sSeq A B D X en c := h { D with nx := fun en c => B D X en c } rfl rfl rfl fun _ _ h => h
end VL
namespace VL
open PySem PySem.Spec PyProof.Rows L2
abbrev Gn := Option Int × Option Int
abbrev Wo := List Gn × List Int
def oD : Option Int → D
  | none => .non
  | some i => .int i
def gD (g : Gn) : D := .tup [oD g.1, oD g.2]
def gsD (gs : List Gn) : D := .tup (gs.map gD)
def wD (w : Wo) : D := .tup [gsD w.1, .tup (w.2.map .int)]
mutual
/-- lists as tuples, all the way -/
def toT : D → D
  | .tup l => .tup (toTs l)
  | .lst l => .tup (toTs l)
  | .non => .non
  | .bl b => .bl b
  | .int i => .int i
  | .str x => .str x
  | .ptr a => .ptr a
  | .scr l => .scr l
  | .ty n => .ty n
def toTs : List D → List D
  | [] => []
  | d :: l => toT d :: toTs l
end
theorem toTs_map : ∀ l : List D, toTs l = l.map toT
  | [] => rfl
  | d :: l => by rw [toTs, toTs_map l]; rfl
theorem toT_oD (o : Option Int) : toT (oD o) = oD o := by cases o <;> rfl
theorem toT_gD (g : Gn) : toT (gD g) = gD g := by simp [gD, toT, toTs, toT_oD]
theorem toT_ints (l : List Int) : toT (.tup (l.map .int)) = .tup (l.map .int) := by
  rw [toT, toTs_map, List.map_map]
  congr 1
theorem toT_gsD (gs : List Gn) : toT (gsD gs) = gsD gs := by
  rw [gsD, toT, toTs_map, List.map_map]
  congr 1
  exact List.map_congr_left fun g _ => toT_gD g
theorem toT_wD (w : Wo) : toT (wD w) = wD w := by
  rw [wD, toT, toTs, toTs, toTs, toT_gsD, toT_ints]
theorem pl_oD (o : Option Int) : pl (oD o) = true := by cases o <;> rfl
theorem dep_oD (o : Option Int) : dep (oD o) = 0 := by cases o <;> rfl
theorem pl_gD (g : Gn) : pl (gD g) = true := by simp [gD, pl, pls, pl_oD]
theorem dep_gD (g : Gn) : dep (gD g) = 1 := by simp [gD, dep, deps, dep_oD]
theorem pls_ints (l : List Int) : pls (l.map .int) = true := pls_all.mpr fun d hd => by obtain ⟨i, _, rfl⟩ := List.mem_map.mp hd; rfl
theorem deps_ints (l : List Int) : deps (l.map .int) = 0 := by
  have := (deps_le (l := l.map .int) (n := 0)).mpr fun d hd => by obtain ⟨i, _, rfl⟩ := List.mem_map.mp hd; exact Nat.le_refl _
  omega
theorem pl_gsD (gs : List Gn) : pl (gsD gs) = true := by
  show pls (gs.map gD) = true
  exact pls_all.mpr fun d hd => by obtain ⟨g, _, rfl⟩ := List.mem_map.mp hd; exact pl_gD g
theorem dep_gsD (gs : List Gn) : dep (gsD gs) ≤ 2 := by
  show deps (gs.map gD) + 1 ≤ 2
  have := (deps_le (l := gs.map gD) (n := 1)).mpr fun d hd => by obtain ⟨g, _, rfl⟩ := List.mem_map.mp hd; rw [dep_gD]; exact Nat.le_refl _
  omega
theorem pl_wD (w : Wo) : pl (wD w) = true := by simp [wD, pl, pls, pl_gsD, pls_ints]
theorem dep_wD (w : Wo) : dep (wD w) ≤ 3 := by
  have h1 := dep_gsD w.1
  have h2 := deps_ints w.2
  simp only [wD, dep, deps, h2]
  omega
/-- x tells the world w, by tuples or lists -/
def WLike (x : D) (w : Wo) : Prop := toT x = wD w ∧ pl x = true ∧ dep x ≤ 3
theorem WLike.self (w : Wo) : WLike (wD w) w := ⟨toT_wD w, pl_wD w, dep_wD w⟩
def lowsOf (gs : List Gn) : List Int := gs.filterMap (·.1)
def highsOf (gs : List Gn) : List Int := gs.filterMap (·.2)
def wordOf (g : Gn) (x : Int) : Option Bool :=
  if g.1.any (fun l => x < l) then some false else if g.2.any (fun h => h < x) then some true else none
def wordD : Option Bool → D
  | none => .non
  | some false => .str "low"
  | some true => .str "high"
theorem high_ne : (("high" : Str) = "low") = False := by decide
theorem low_eq : (("low" : Str) = "low") = True := by decide
def c_exchanged_word (k : Nat) : Ctr := fun ds c Q _ => ∃ g x, (ds = [gD g, .int x] ∨ ds = [.lst [oD g.1, oD g.2], .int x]) ∧ Q (wordD (wordOf g x)) c
def w_exchanged_word (k : Nat) : WS := (sSeq (sAsg (wVar 0) (gTp 2 (gCons' (gNm 2) (gCons' (gNm 3) gNil')))) (sSeq (sIf (wAnd (wTst (wBin oIsNot (wVar 2) (wC .non))) (wTst (wBin oLt (wVar 1) (wVar 2)))) (sRet (wC (.str "low"))) sNil) (sRet (wIf (wAnd (wTst (wBin oIsNot (wVar 3) (wC .non))) (wTst (wBin oGt (wVar 1) (wVar 3)))) (wC (.str "high")) (wC .non)))))
theorem p_exchanged_word (k : Nat) (ds : List D) (c : Cs) (Q : DK) (X0 : XK0) (hlen0 : ds.length = 2) (h : c_exchanged_word k ds c Q X0) : w_exchanged_word k (endOf Q) (excOf X0) (enOf 4 ds) c := by
  obtain ⟨⟨l, h⟩, x, hds, q⟩ := h
  rcases hds with rfl | rfl <;> cases l <;> cases h <;> simp only [w_exchanged_word, gD, oD, sRaise, sTry, wIsX, wWhat, wBack, lo_lst, e_mulV, sizeL, sNil, sSeq, sPass, sBrk, sCont, sExpr, sRet, sRetN, sIf, sNever, sSet, sAug, gNm, gTp, gNil', gCons', gSb, sAsg, sPar, sFor, wVar_z, wVar_s, wC, wChn, wTru, sPar3, wRev, wCallK, permF, List.filterMap_cons, List.filterMap_nil, wBin, wUn, wTst, wNot, wAnd, wOr, wAndV, wOrV, wNotV, wIf, wNil, wCons, wTup, wLst, wLstL, wFz, wCall, wBi, wMt, wMt0, wSl, wSlL, wPart, wNoPart, wYes, wSeq, wRg1, wRg2, wEnum, wZip, wLc, wLcL, wLRg, wFld, sFldS, sFldA, gFld, wMeth, wMake, lvl2_s, onB, e_eqI, e_neI, e_eqB, e_neB, e_eqS, e_neS, e_eqN, e_tyLT, e_ty1, isTys, tyMem, tyN_non, tyN_bl, tyN_int, tyN_str, tyN_tup, tyN_lst, Bool.true_or, Bool.or_true, Bool.or_false, Bool.false_or, Bool.not_true, Bool.not_false, inn_non, inn_bl, inn_int, inn_str, inn_tup, inn_lst, inn_ptr, e_slT, e_slL, e_slN, isT_P, isT_L, isT_T, isT_N, e_sub, e_fdiv, e_mod, e_pow, e_lt, e_le, e_gt, e_ge, e_neg, e_add, e_addS, e_addT, e_addL, e_addPP, e_addPL, e_addLP, e_mul, e_mulL, e_mulT, e_augI, e_ixT, e_ixL, e_ixN, e_ixP, e_lenT, e_lenL, e_lenN, e_lenS, e_lenP, e_abs, e_intI, e_intB, e_max, e_min, e_tupL, e_tupT, e_listL, e_listT, e_listN, e_listLL, e_listLT, e_divmod, e_isNon, e_isntNon, e_isB, e_isntB, e_setIx, e_insert, e_append, e_isL, e_isLL, e_seqP, e_seqL, e_seqT, e_seqN, it_lst, it_fz, Option.bind_some, Option.isSome_some, ix10, ix20, ix21, ix30, ix32, dl1, dl2, dl3, List.eraseIdx_cons_zero, e_pop0, e_popAt, e_rev, e_clear, e_tupP, e_listP, e_neN, e_neIN, e_neNI, e_eqIN, e_eqNI, at0, at1, at2, at3, Cell.lst.injEq, Cell.obj.injEq, Option.some.injEq, exists_eq_left', decide_eq_true_eq, true_and, and_true, cup_same, cup_cup, List.flatten_nil, List.flatten_cons, enOf, endOf, excOf, List.map_cons, List.map_nil, List.length_cons, List.length_nil, List.replicate, Nat.reduceAdd, Nat.reduceSub, List.cons_append, List.nil_append, List.set_cons_zero, List.set_cons_succ, List.getElem?_cons_zero, List.getElem?_cons_succ, List.getElem_cons_zero, List.getElem_cons_succ, reduceCtorEq, if_true, if_false, Bool.false_eq_true, decide_true, decide_false, ne_eq, not_true, not_false_eq_true, Int.reduceEq, Nat.reduceMul, true_imp_iff, Int.reduceToNat, Int.reducePow, Nat.reducePow, Int.reduceLE, Int.reduceLT, Nat.reduceLT, and_self, Nat.reduceLeDiff, Int.reduceNeg, Int.reduceAdd, Int.reduceSub, Int.reduceMul, Int.cast_ofNat_Int]
  all_goals simp only [wordOf, wordD, Option.any_some, Option.any_none, decide_eq_true_eq, Bool.false_eq_true, if_false] at q
  all_goals
    first
      | exact ⟨c, CLe.refl _, q⟩
      | (split
         · rename_i h1; rw [if_pos h1] at q; exact ⟨c, CLe.refl _, q⟩
         · rename_i h1; rw [if_neg h1] at q
           first
             | exact ⟨c, CLe.refl _, q⟩
             | (split
                · rename_i h2; rw [if_pos h2] at q; exact ⟨c, CLe.refl _, q⟩
                · rename_i h2; rw [if_neg h2] at q; exact ⟨c, CLe.refl _, q⟩))
/-- the pair and the cart's load behind an exchange -/
def swapG (g : Gn) (x : Int) (b : Bool) : Gn × Option Int := if b then ((g.1, some x), g.2) else ((some x, g.2), g.1)
def loadAt (w : Wo) (i : Nat) : Int := w.2.getD i 0
def granAt (w : Wo) (j : Nat) : Gn := w.1.getD j (none, none)
def exchW (w : Wo) (i j : Nat) (b : Bool) : Wo := (w.1.set j (swapG (granAt w j) (loadAt w i) b).1, w.2.set i ((swapG (granAt w j) (loadAt w i) b).2.getD 0))
theorem set_cut {α : Type} {l : List α} {j : Nat} {x : α} (h : j < l.length) : l.take j ++ [x] ++ l.drop (j + 1) = l.set j x := by
  rw [List.set_eq_take_append_cons_drop, if_pos h, List.append_assoc]
  rfl
theorem at_gran {w : Wo} {j : Nat} (h : j < w.1.length) : atI (w.1.map gD) (j : Int) = some (gD (granAt w j)) := by
  rw [atI_nat, List.getElem?_map, List.getElem?_eq_getElem h]
  simp [granAt, h]
theorem at_load {w : Wo} {i : Nat} (h : i < w.2.length) : atI (w.2.map D.int) (i : Int) = some (.int (loadAt w i)) := by
  rw [atI_nat, List.getElem?_map, List.getElem?_eq_getElem h]
  simp [loadAt, h]
def c_exchanged (k : Nat) : Ctr := fun ds c Q _ => ∃ (w : Wo) (i j : Nat) (b : Bool), ds = [wD w, .int i, .int j, wordD (some b)] ∧ i < w.2.length ∧ j < w.1.length ∧ w.1.length ≤ 100000 ∧ w.2.length ≤ 100000 ∧ ((swapG (granAt w j) (loadAt w i) b).2.isSome = true) ∧ Q (wD (exchW w i j b)) c
def w_exchanged (k : Nat) : WS := (sSeq (sAsg (wVar 0) (gTp 2 (gCons' (gNm 5) (gCons' (gNm 6) gNil')))) (sSeq (sAsg (wBin oIx (wVar 5) (wVar 2)) (gTp 2 (gCons' (gNm 7) (gCons' (gNm 8) gNil')))) (sSeq (sSet 4 (wBin oIx (wVar 6) (wVar 1))) (sSeq (sAsg (wIf (wTst (wBin oEq (wVar 3) (wC (.str "low")))) (wTup (wCons (wTup (wCons (wVar 4) (wCons (wVar 8) wNil))) (wCons (wVar 7) wNil))) (wTup (wCons (wTup (wCons (wVar 7) (wCons (wVar 4) wNil))) (wCons (wVar 8) wNil)))) (gTp 2 (gCons' (gNm 9) (gCons' (gNm 10) gNil')))) (sRet (wTup (wCons (wBin oAdd (wBin oAdd (wSl (wVar 5) wNoPart (wPart (wVar 2))) (wTup (wCons (wVar 9) wNil))) (wSl (wVar 5) (wPart (wBin oAdd (wVar 2) (wC (.int 1)))) wNoPart)) (wCons (wBin oAdd (wBin oAdd (wSl (wVar 6) wNoPart (wPart (wVar 1))) (wTup (wCons (wVar 10) wNil))) (wSl (wVar 6) (wPart (wBin oAdd (wVar 1) (wC (.int 1)))) wNoPart)) wNil))))))))
theorem p_exchanged (k : Nat) (ds : List D) (c : Cs) (Q : DK) (X0 : XK0) (hlen0 : ds.length = 4) (h : c_exchanged k ds c Q X0) : w_exchanged k (endOf Q) (excOf X0) (enOf 11 ds) c := by
  obtain ⟨w, i, j, b, rfl, hi, hj, hz1, hz2, hs, q⟩ := h
  have q : Q (.tup [.tup ((w.1.set j (swapG (granAt w j) (loadAt w i) b).1).map gD), .tup ((w.2.set i ((swapG (granAt w j) (loadAt w i) b).2.getD 0)).map .int)]) c := q
  simp only [w_exchanged, wD, gsD, sRaise, sTry, wIsX, wWhat, wBack, lo_lst, e_mulV, sizeL, sNil, sSeq, sPass, sBrk, sCont, sExpr, sRet, sRetN, sIf, sNever, sSet, sAug, gNm, gTp, gNil', gCons', gSb, sAsg, sPar, sFor, wVar_z, wVar_s, wC, wChn, wTru, sPar3, wRev, wCallK, permF, List.filterMap_cons, List.filterMap_nil, wBin, wUn, wTst, wNot, wAnd, wOr, wAndV, wOrV, wNotV, wIf, wNil, wCons, wTup, wLst, wLstL, wFz, wCall, wBi, wMt, wMt0, wSl, wSlL, wPart, wNoPart, wYes, wSeq, wRg1, wRg2, wEnum, wZip, wLc, wLcL, wLRg, wFld, sFldS, sFldA, gFld, wMeth, wMake, lvl2_s, onB, e_eqI, e_neI, e_eqB, e_neB, e_eqS, e_neS, e_eqN, e_tyLT, e_ty1, isTys, tyMem, tyN_non, tyN_bl, tyN_int, tyN_str, tyN_tup, tyN_lst, Bool.true_or, Bool.or_true, Bool.or_false, Bool.false_or, Bool.not_true, Bool.not_false, inn_non, inn_bl, inn_int, inn_str, inn_tup, inn_lst, inn_ptr, e_slT, e_slL, e_slN, isT_P, isT_L, isT_T, isT_N, e_sub, e_fdiv, e_mod, e_pow, e_lt, e_le, e_gt, e_ge, e_neg, e_add, e_addS, e_addT, e_addL, e_addPP, e_addPL, e_addLP, e_mul, e_mulL, e_mulT, e_augI, e_ixT, e_ixL, e_ixN, e_ixP, e_lenT, e_lenL, e_lenN, e_lenS, e_lenP, e_abs, e_intI, e_intB, e_max, e_min, e_tupL, e_tupT, e_listL, e_listT, e_listN, e_listLL, e_listLT, e_divmod, e_isNon, e_isntNon, e_isB, e_isntB, e_setIx, e_insert, e_append, e_isL, e_isLL, e_seqP, e_seqL, e_seqT, e_seqN, it_lst, it_fz, Option.bind_some, Option.isSome_some, ix10, ix20, ix21, ix30, ix32, dl1, dl2, dl3, List.eraseIdx_cons_zero, e_pop0, e_popAt, e_rev, e_clear, e_tupP, e_listP, e_neN, e_neIN, e_neNI, e_eqIN, e_eqNI, at0, at1, at2, at3, Cell.lst.injEq, Cell.obj.injEq, Option.some.injEq, exists_eq_left', decide_eq_true_eq, true_and, and_true, cup_same, cup_cup, List.flatten_nil, List.flatten_cons, enOf, endOf, excOf, List.map_cons, List.map_nil, List.length_cons, List.length_nil, List.replicate, Nat.reduceAdd, Nat.reduceSub, List.cons_append, List.nil_append, List.set_cons_zero, List.set_cons_succ, List.getElem?_cons_zero, List.getElem?_cons_succ, List.getElem_cons_zero, List.getElem_cons_succ, reduceCtorEq, if_true, if_false, Bool.false_eq_true, decide_true, decide_false, ne_eq, not_true, not_false_eq_true, Int.reduceEq, Nat.reduceMul, true_imp_iff, Int.reduceToNat, Int.reducePow, Nat.reducePow, Int.reduceLE, Int.reduceLT, Nat.reduceLT, and_self, Nat.reduceLeDiff, Int.reduceNeg, Int.reduceAdd, Int.reduceSub, Int.reduceMul, Int.cast_ofNat_Int, at_gran hj, at_load hi]
  cases b <;> simp only [gD, wordD, sRaise, sTry, wIsX, wWhat, wBack, lo_lst, e_mulV, sizeL, sNil, sSeq, sPass, sBrk, sCont, sExpr, sRet, sRetN, sIf, sNever, sSet, sAug, gNm, gTp, gNil', gCons', gSb, sAsg, sPar, sFor, wVar_z, wVar_s, wC, wChn, wTru, sPar3, wRev, wCallK, permF, List.filterMap_cons, List.filterMap_nil, wBin, wUn, wTst, wNot, wAnd, wOr, wAndV, wOrV, wNotV, wIf, wNil, wCons, wTup, wLst, wLstL, wFz, wCall, wBi, wMt, wMt0, wSl, wSlL, wPart, wNoPart, wYes, wSeq, wRg1, wRg2, wEnum, wZip, wLc, wLcL, wLRg, wFld, sFldS, sFldA, gFld, wMeth, wMake, lvl2_s, onB, e_eqI, e_neI, e_eqB, e_neB, e_eqS, e_neS, e_eqN, e_tyLT, e_ty1, isTys, tyMem, tyN_non, tyN_bl, tyN_int, tyN_str, tyN_tup, tyN_lst, Bool.true_or, Bool.or_true, Bool.or_false, Bool.false_or, Bool.not_true, Bool.not_false, inn_non, inn_bl, inn_int, inn_str, inn_tup, inn_lst, inn_ptr, e_slT, e_slL, e_slN, isT_P, isT_L, isT_T, isT_N, e_sub, e_fdiv, e_mod, e_pow, e_lt, e_le, e_gt, e_ge, e_neg, e_add, e_addS, e_addT, e_addL, e_addPP, e_addPL, e_addLP, e_mul, e_mulL, e_mulT, e_augI, e_ixT, e_ixL, e_ixN, e_ixP, e_lenT, e_lenL, e_lenN, e_lenS, e_lenP, e_abs, e_intI, e_intB, e_max, e_min, e_tupL, e_tupT, e_listL, e_listT, e_listN, e_listLL, e_listLT, e_divmod, e_isNon, e_isntNon, e_isB, e_isntB, e_setIx, e_insert, e_append, e_isL, e_isLL, e_seqP, e_seqL, e_seqT, e_seqN, it_lst, it_fz, Option.bind_some, Option.isSome_some, ix10, ix20, ix21, ix30, ix32, dl1, dl2, dl3, List.eraseIdx_cons_zero, e_pop0, e_popAt, e_rev, e_clear, e_tupP, e_listP, e_neN, e_neIN, e_neNI, e_eqIN, e_eqNI, at0, at1, at2, at3, Cell.lst.injEq, Cell.obj.injEq, Option.some.injEq, exists_eq_left', decide_eq_true_eq, true_and, and_true, cup_same, cup_cup, List.flatten_nil, List.flatten_cons, enOf, endOf, excOf, List.map_cons, List.map_nil, List.length_cons, List.length_nil, List.replicate, Nat.reduceAdd, Nat.reduceSub, List.cons_append, List.nil_append, List.set_cons_zero, List.set_cons_succ, List.getElem?_cons_zero, List.getElem?_cons_succ, List.getElem_cons_zero, List.getElem_cons_succ, reduceCtorEq, if_true, if_false, Bool.false_eq_true, decide_true, decide_false, ne_eq, not_true, not_false_eq_true, Int.reduceEq, Nat.reduceMul, true_imp_iff, Int.reduceToNat, Int.reducePow, Nat.reducePow, Int.reduceLE, Int.reduceLT, Nat.reduceLT, and_self, Nat.reduceLeDiff, Int.reduceNeg, Int.reduceAdd, Int.reduceSub, Int.reduceMul, Int.cast_ofNat_Int, low_eq, high_ne]
  all_goals
    rw [cutL_to (by omega), cutL_from (by omega), cutL_to (by omega), cutL_from (by omega)]
    obtain ⟨o, ho⟩ := Option.isSome_iff_exists.mp hs
    have e1 : ((j : Int) + 1).toNat = j + 1 := by omega
    have e2 : ((i : Int) + 1).toNat = i + 1 := by omega
    rw [e1, e2, Int.toNat_natCast, Int.toNat_natCast]
    refine ⟨by simp; omega, by simp; omega, by simp; omega, by simp; omega, c, CLe.refl _, ?_⟩
    rw [set_cut (by simpa using hj), set_cut (by simpa using hi)]
    rw [ho, Option.getD_some, List.map_set, List.map_set] at q
    simp only [swapG, Bool.false_eq_true, if_false, if_true] at q ho
    rw [ho]
    exact q
/-- a coming: the world behind, the place and its word, the toll -/
def cameW (w : Wo) (i j : Nat) : Wo × Option (Nat × Bool) × Int :=
  match wordOf (granAt w j) (loadAt w i) with
  | none => (w, none, 0)
  | some b => let w' := exchW w i j b; (w', some (j, b), if loadAt w' i - loadAt w i < 0 then -(loadAt w' i - loadAt w i) else loadAt w' i - loadAt w i)
theorem word_some {g : Gn} {x : Int} {b : Bool} (h : wordOf g x = some b) : ∃ y, (swapG g x b).2 = some y ∧ if b then y < x else x < y := by
  obtain ⟨l, u⟩ := g
  unfold wordOf at h
  split at h
  · rename_i h1
    cases h
    cases l with
    | none => simp at h1
    | some y => exact ⟨y, rfl, by simpa using h1⟩
  · split at h
    · rename_i h1
      cases h
      cases u with
      | none => simp at h1
      | some y => exact ⟨y, rfl, by simpa using h1⟩
    · cases h
end VL
namespace VL
open PySem PySem.Spec PyProof.Rows L2
def smallI (i : Int) : Prop := -1000000000 ≤ i ∧ i ≤ 1000000000
/-- a granary as the laws draw it -/
def okG (g : Gn) : Prop := (∀ l, g.1 = some l → smallI l) ∧ (∀ h, g.2 = some h → smallI h) ∧ (∀ l h, g.1 = some l → g.2 = some h → l ≤ h) ∧ (g.1.isSome = true ∨ g.2.isSome = true)
end VL
namespace VL
open PySem PySem.Spec PyProof.Rows L2
def okWs (w : Wo) : Prop := (∀ g ∈ w.1, okG g) ∧ ∀ x ∈ w.2, smallI x
theorem gran_mem {w : Wo} {j : Nat} (hj : j < w.1.length) : granAt w j ∈ w.1 := by
  rw [granAt, List.getD_eq_getElem?_getD, List.getElem?_eq_getElem hj]
  exact List.getElem_mem _
theorem load_mem {w : Wo} {i : Nat} (hi : i < w.2.length) : loadAt w i ∈ w.2 := by
  rw [loadAt, List.getD_eq_getElem?_getD, List.getElem?_eq_getElem hi]
  exact List.getElem_mem _
end VL
namespace VL
open PySem PySem.Spec PyProof.Rows L2
def allL (w : Wo) : List Int := lowsOf w.1 ++ w.2 ++ highsOf w.1
structure Same (w w' : Wo) : Prop where
  all : (allL w').Perm (allL w)
  gran : w'.1.length = w.1.length
  cart : w'.2.length = w.2.length
  low : (lowsOf w'.1).length = (lowsOf w.1).length
  high : (highsOf w'.1).length = (highsOf w.1).length
theorem Same.trans {a b c : Wo} (h : Same a b) (g : Same b c) : Same a c := ⟨g.all.trans h.all, g.gran.trans h.gran, g.cart.trans h.cart, g.low.trans h.low, g.high.trans h.high⟩
theorem okG_exch {w : Wo} {i j : Nat} {b : Bool} (ok : okWs w) (hi : i < w.2.length) (hj : j < w.1.length) (h : wordOf (granAt w j) (loadAt w i) = some b) : okWs (exchW w i j b) := by
  obtain ⟨o1, o2⟩ := ok
  have hx := o2 _ (load_mem hi)
  have hg := o1 _ (gran_mem hj)
  obtain ⟨y, hy, hlt⟩ := word_some h
  have hw := h
  unfold wordOf at hw
  obtain ⟨g1, g2, g3, g4⟩ := hg
  cases hgr : granAt w j with | mk l u =>
  rw [hgr] at hy hw g1 g2 g3 g4
  refine ⟨fun g hm => ?_, fun z hm => ?_⟩
  · have hm : g ∈ w.1.set j (swapG (granAt w j) (loadAt w i) b).1 := hm
    rcases List.mem_or_eq_of_mem_set hm with hm | rfl
    · exact o1 g hm
    · rw [hgr]
      cases b with
      | false =>
        have : l = some y := hy
        subst this
        exact ⟨fun z e => by cases e; exact hx, g2, fun a c e e' => by cases e; have := g3 y c rfl e'; simp at hlt; omega, .inl rfl⟩
      | true =>
        have : u = some y := hy
        subst this
        refine ⟨g1, fun z e => by cases e; exact hx, fun a c e e' => ?_, .inr rfl⟩
        cases e'
        have := g3 a y e rfl
        simp at hlt
        omega
  · have hm : z ∈ w.2.set i ((swapG (granAt w j) (loadAt w i) b).2.getD 0) := hm
    rcases List.mem_or_eq_of_mem_set hm with hm | rfl
    · exact o2 z hm
    · rw [hgr, hy, Option.getD_some]
      cases b with
      | false => exact g1 y hy
      | true => exact g2 y hy
theorem okWs_came {w : Wo} {i j : Nat} (ok : okWs w) (hi : i < w.2.length) (hj : j < w.1.length) : okWs (cameW w i j).1 := by
  unfold cameW
  cases h : wordOf (granAt w j) (loadAt w i) with
  | none => exact ok
  | some b => exact okG_exch ok hi hj h
end VL
namespace VL
open PySem PySem.Spec PyProof.Rows L2
/-- a row of exchanges: the world behind, the tolls, how many -/
inductive Led (w : Wo) : Wo → Int → Nat → Prop
  | refl : Led w w 0 0
  | step {w' : Wo} {t : Int} {n i j : Nat} {b : Bool} : Led w w' t n → i < w'.2.length → j < w'.1.length → wordOf (granAt w' j) (loadAt w' i) = some b → Led w (cameW w' i j).1 (t + (cameW w' i j).2.2) (n + 1)
theorem Led.ok {w w' : Wo} {t : Int} {n : Nat} (h : Led w w' t n) (ok : okWs w) : okWs w' := by
  induction h with
  | refl => exact ok
  | step h hi hj hb ih => exact okWs_came ih hi hj
end VL
namespace VL
open PySem PySem.Spec PyProof.Rows L2
def c_lawOf (k : Nat) : Ctr := fun ds c Q _ => ∃ ns : List Int, ds = [.scr ns] ∧ ns.length ≤ 63 ∧ 30 ≤ k ∧ ∀ c', Q (.bl true) c'
theorem cells_le {l : List Int} {n : Int} (h : (l.length : Int) ≤ n) : 1 ≤ (if ((l.map D.int).length : Int) > 1 then ((l.map D.int).length : Int) else 1) ∧ ((if ((l.map D.int).length : Int) > 1 then ((l.map D.int).length : Int) else 1) ≤ n ∨ (if ((l.map D.int).length : Int) > 1 then ((l.map D.int).length : Int) else 1) = 1) := by
  rw [List.length_map]
  split <;> omega
end VL
namespace VL
open PySem PySem.Spec PyProof.Rows L2
def metG (g : Gn) (x : Int) : Gn × Int := match wordOf g x with
  | none => (g, x)
  | some b => ((swapG g x b).1, (swapG g x b).2.getD 0)
def outsG : Gn → List Int → Gn × List Int
  | g, [] => (g, [])
  | g, x :: xs => let m := metG g x; let r := outsG m.1 xs; (r.1, m.2 :: r.2)
theorem outs_app : ∀ (a : List Int) (g : Gn) (b : List Int), outsG g (a ++ b) = ((outsG (outsG g a).1 b).1, (outsG g a).2 ++ (outsG (outsG g a).1 b).2)
  | [], g, b => rfl
  | q :: a, g, b => by
    simp only [List.cons_append, outsG, outs_app a]
theorem outs_len : ∀ (a : List Int) (g : Gn), (outsG g a).2.length = a.length
  | [], g => rfl
  | q :: a, g => by simp only [outsG, List.length_cons, outs_len a]
theorem outs_snoc (xs : List Int) (g : Gn) (x : Int) : outsG g (xs ++ [x]) = ((metG (outsG g xs).1 x).1, (outsG g xs).2 ++ [(metG (outsG g xs).1 x).2]) := by
  rw [outs_app]
  rfl
def mapG (f : Int → Int) (g : Gn) : Gn := (g.1.map f, g.2.map f)
theorem word_map {f : Int → Int} (hf : ∀ a b, f a < f b ↔ a < b) (g : Gn) (x : Int) : wordOf (mapG f g) (f x) = wordOf g x := by
  obtain ⟨l, u⟩ := g
  cases l <;> cases u <;> simp [wordOf, mapG, hf]
theorem met_map {f : Int → Int} (hf : ∀ a b, f a < f b ↔ a < b) (g : Gn) (x : Int) : metG (mapG f g) (f x) = (mapG f (metG g x).1, f (metG g x).2) := by
  unfold metG
  rw [word_map hf]
  cases h : wordOf g x with
  | none => rfl
  | some b =>
    obtain ⟨y, hy, _⟩ := word_some h
    cases b with
    | false =>
      have : g.1 = some y := hy
      simp [swapG, mapG, this]
    | true =>
      have : g.2 = some y := hy
      simp [swapG, mapG, this]
theorem outs_map {f : Int → Int} (hf : ∀ a b, f a < f b ↔ a < b) : ∀ (xs : List Int) (g : Gn), outsG (mapG f g) (xs.map f) = (mapG f (outsG g xs).1, (outsG g xs).2.map f)
  | [], g => rfl
  | x :: xs, g => by
    simp only [List.map_cons, outsG, met_map hf, outs_map hf xs]
theorem met_exch {g : Gn} {x : Int} {b : Bool} (h : wordOf g x = some b) : exchW ([g], [x]) 0 0 b = ([(metG g x).1], [(metG g x).2]) := by
  unfold metG
  rw [h]
  rfl
end VL
set_option maxHeartbeats 1000000
namespace VL
open PySem PySem.Spec PyProof.Rows L2
abbrev Gu := Option Int × Option Int × Option Int
def okGu (g : Gu) : Prop := ∀ a b, g.1 = some a → g.2.1 = some b → a ≤ b
def leO : Option Int → Option Int → Bool
  | some a, some b => decide (a ≤ b)
  | _, _ => true
def mostG (g : Gu) (x : Int) : Option Int := match g.2.1 with
  | none => some x
  | some m => if x < m then some x else some m
def leastG (g : Gu) (x : Int) : Option Int := match g.1 with
  | none => some x
  | some m => if m < x then some x else some m
def noMoreG (g : Gu) (x : Int) : Option Gu := match g.2.2 with
  | some n => if n ≤ x then some g else none
  | none => if leO g.1 (mostG g x) = true then some (g.1, mostG g x, none) else none
def noLessG (g : Gu) (x : Int) : Option Gu := match g.2.2 with
  | some n => if x ≤ n then some g else none
  | none => if leO (leastG g x) g.2.1 = true then some (leastG g x, g.2.1, none) else none
def metGu (g : Gu) (x behind : Int) : Option Gu := match noMoreG g x with
  | none => none
  | some g1 => match noLessG g1 x with
    | none => none
    | some g2 => some (g2.1, g2.2.1, some behind)
end VL
set_option maxHeartbeats 1000000
namespace VL
open PySem PySem.Spec PyProof.Rows L2
abbrev Gus := Option Gu × Option Gu
def optG (f : Gu → Option Gu) : Option Gu → Option (Option Gu)
  | none => some none
  | some g => (f g).map some
def heardG (s : Gus) (x o : Int) : Option Gus :=
  if o = x then (match optG (noMoreG · x) s.1 with
    | none => none
    | some a => (optG (noLessG · x) s.2).map fun b => (a, b))
  else if x < o then (match s.1 with
    | none => none
    | some g => match optG (noLessG · o) s.2 with
      | none => none
      | some b => (metGu g o x).map fun a => (some a, b))
  else (match s.2 with
    | none => none
    | some g => match optG (noMoreG · o) s.1 with
      | none => none
      | some a => (metGu g o x).map fun b => (a, some b))
def runG : Gus → List (Int × Int) → Option Gus
  | s, [] => some s
  | s, (x, o) :: r => match heardG s x o with
    | none => none
    | some s' => runG s' r
end VL
set_option maxHeartbeats 1000000
namespace VL
open PySem PySem.Spec PyProof.Rows L2
def guF (g : Gu) : List (Str × D) := [(("own_least" : Str), oD g.1), (("own_most" : Str), oD g.2.1), (("own_now" : Str), oD g.2.2)]
theorem gf_1 {g : Gu} : (guF g).lookup ("own_least" : Str) = some (oD g.1) := rfl
theorem gf_2 {g : Gu} : (guF g).lookup ("own_most" : Str) = some (oD g.2.1) := rfl
theorem gf_3 {g : Gu} : (guF g).lookup ("own_now" : Str) = some (oD g.2.2) := rfl
theorem gf_4 {g : Gu} : (guF g).lookup ("no_more" : Str) = none := rfl
theorem gf_5 {g : Gu} : (guF g).lookup ("no_less" : Str) = none := rfl
theorem gf_6 {g : Gu} : (guF g).lookup ("met" : Str) = none := rfl
theorem gf_7 {g : Gu} : (guF g).lookup ("stretch" : Str) = none := rfl
theorem gf_n {g : Gu} : (guF g).length = 3 := rfl
theorem gp_1 {g : Gu} {x : Int} : putD ("own_least" : Str) (.int x) (guF g) = guF (some x, g.2) := rfl
theorem gp_2 {g : Gu} {x : Int} : putD ("own_most" : Str) (.int x) (guF g) = guF (g.1, some x, g.2.2) := rfl
theorem gp_3 {g : Gu} {x : Int} : putD ("own_now" : Str) (.int x) (guF g) = guF (g.1, g.2.1, some x) := rfl
theorem gx_fld {F : List (Str × D)} {f : Str} {Q : D → Prop} : (∃ fs v, F = fs ∧ fs.lookup f = some v ∧ Q v) = ∃ v, F.lookup f = some v ∧ Q v := propext ⟨fun ⟨_, v, e, h⟩ => ⟨v, e ▸ h⟩, fun ⟨v, h⟩ => ⟨F, v, rfl, h⟩⟩
theorem gd_12 : (("own_least" : Str) = "own_most") = False := by decide
theorem gd_13 : (("own_least" : Str) = "own_now") = False := by decide
theorem gd_23 : (("own_most" : Str) = "own_now") = False := by decide
def c_Gu_init (C : Addr) (k : Nat) : Ctr := fun ds c Q _ => ∃ (p : Addr), ds = [.ptr p, .non, .non] ∧ c p = some (.obj C []) ∧ Q .non (cup c p (.obj C (guF (none, none, none))))
def w_Gu_init (C_Guess : Addr) (k : Nat) : WS := (sSeq (sFldS C_Guess "own_least" (wVar 0) (wVar 1)) (sSeq (sFldS C_Guess "own_most" (wVar 0) (wVar 2)) (sFldS C_Guess "own_now" (wVar 0) (wC .non))))
theorem p_Gu_init (C_Guess : Addr) (k : Nat) (ds : List D) (c : Cs) (Q : DK) (X0 : XK0) (hlen0 : ds.length = 3) (h : c_Gu_init C_Guess k ds c Q X0) : w_Gu_init C_Guess k (endOf Q) (excOf X0) (enOf 3 ds) c := by
  obtain ⟨p, rfl, hc, q⟩ := h
  try simp only [w_Gu_init, hc, putD, gd_12, gd_13, gd_23, sRaise, sTry, wIsX, wWhat, wBack, lo_lst, e_mulV, sizeL, sNil, sSeq, sPass, sBrk, sCont, sExpr, sRet, sRetN, sIf, sNever, sSet, sAug, gNm, gTp, gNil', gCons', gSb, sAsg, sPar, sFor, wVar_z, wVar_s, wC, wChn, wTru, sPar3, wRev, wCallK, permF, List.filterMap_cons, List.filterMap_nil, wBin, wUn, wTst, wNot, wAnd, wOr, wAndV, wOrV, wNotV, wIf, wNil, wCons, wTup, wLst, wLstL, wFz, wCall, wBi, wMt, wMt0, wSl, wSlL, wPart, wNoPart, wYes, wSeq, wRg1, wRg2, wEnum, wZip, wLc, wLcL, wLRg, wFld, sFldS, sFldA, gFld, wMeth, wMake, lvl2_s, onB, e_eqI, e_neI, e_eqB, e_neB, e_eqS, e_neS, e_eqN, e_tyLT, e_ty1, isTys, tyMem, tyN_non, tyN_bl, tyN_int, tyN_str, tyN_tup, tyN_lst, Bool.true_or, Bool.or_true, Bool.or_false, Bool.false_or, Bool.not_true, Bool.not_false, inn_non, inn_bl, inn_int, inn_str, inn_tup, inn_lst, inn_ptr, e_slT, e_slL, e_slN, isT_P, isT_L, isT_T, isT_N, e_sub, e_fdiv, e_mod, e_pow, e_lt, e_le, e_gt, e_ge, e_neg, e_add, e_addS, e_addT, e_addL, e_addPP, e_addPL, e_addLP, e_mul, e_mulL, e_mulT, e_augI, e_ixT, e_ixL, e_ixN, e_ixP, e_lenT, e_lenL, e_lenN, e_lenS, e_lenP, e_abs, e_intI, e_intB, e_max, e_min, e_tupL, e_tupT, e_listL, e_listT, e_listN, e_listLL, e_listLT, e_divmod, e_isNon, e_isntNon, e_isB, e_isntB, e_setIx, e_insert, e_append, e_isL, e_isLL, e_seqP, e_seqL, e_seqT, e_seqN, it_lst, it_fz, Option.bind_some, Option.isSome_some, ix10, ix20, ix21, ix30, ix32, dl1, dl2, dl3, List.eraseIdx_cons_zero, e_pop0, e_popAt, e_rev, e_clear, e_tupP, e_listP, e_neN, e_neIN, e_neNI, e_eqIN, e_eqNI, at0, at1, at2, at3, Cell.lst.injEq, Cell.obj.injEq, Option.some.injEq, exists_eq_left', decide_eq_true_eq, true_and, and_true, cup_same, cup_cup, wZipS, wZipB, List.flatten_nil, List.flatten_cons, enOf, endOf, excOf, List.map_cons, List.map_nil, List.length_cons, List.length_nil, List.replicate, Nat.reduceAdd, Nat.reduceSub, List.cons_append, List.nil_append, List.set_cons_zero, List.set_cons_succ, List.getElem?_cons_zero, List.getElem?_cons_succ, List.getElem_cons_zero, List.getElem_cons_succ, reduceCtorEq, if_true, if_false, Bool.false_eq_true, decide_true, decide_false, ne_eq, not_true, not_false_eq_true, Int.reduceEq, Nat.reduceMul, true_imp_iff, Int.reduceToNat, Int.reducePow, Nat.reducePow, Int.reduceLE, Int.reduceLT, Nat.reduceLT, and_self, Nat.reduceLeDiff, Int.reduceNeg, Int.reduceAdd, Int.reduceSub, Int.reduceMul, Int.cast_ofNat_Int, lvl_s]
  exact ⟨_, CLe.refl _, q⟩
/-- what a guess answers: it can be, and is g' then; it can't, whatever it is then -/
def AnsG (C p : Addr) (c : Cs) (Q : DK) (r : Option Gu) : Prop := (∀ g', r = some g' → Q (.bl true) (cup c p (.obj C (guF g')))) ∧ (r = none → ∀ g', Q (.bl false) (cup c p (.obj C (guF g'))))
theorem AnsG.yes {C p : Addr} {c : Cs} {Q : DK} {r : Option Gu} {g' : Gu} (h : AnsG C p c Q r) (e : r = some g') : Q (.bl true) (cup c p (.obj C (guF g'))) := h.1 g' e
theorem AnsG.no {C p : Addr} {c : Cs} {Q : DK} {r : Option Gu} (h : AnsG C p c Q r) (e : r = none) (g' : Gu) : Q (.bl false) (cup c p (.obj C (guF g'))) := h.2 e g'
theorem AnsG.fin {C p : Addr} {c : Cs} {Q : DK} {r : Option Gu} {g' : Gu} {b : Bool} (h : AnsG C p c Q r) (e : r = if b = true then some g' else none) : Q (.bl b) (cup c p (.obj C (guF g'))) := by
  cases b with
  | true => exact h.1 g' e
  | false => exact h.2 (by simpa using e) g'
theorem cupG_self {c : Cs} {p : Addr} {x : Cell} (h : c p = some x) : cup c p x = c := by
  funext q
  by_cases e : q = p
  · subst e; rw [cup_same, h]
  · rw [cup_ne e]
def c_Gu_more (C : Addr) (k : Nat) : Ctr := fun ds c Q _ => ∃ (p : Addr) (g : Gu) (x : Int), ds = [.ptr p, .int x] ∧ c p = some (.obj C (guF g)) ∧ AnsG C p c Q (noMoreG g x)
def w_Gu_more (C_Guess : Addr) (k : Nat) : WS := (sSeq (sIf (wTst (wBin oIsNot (wFld C_Guess "own_now" (wVar 0)) (wC .non))) (sRet (wBin oLe (wFld C_Guess "own_now" (wVar 0)) (wVar 1))) sNil) (sSeq (sIf (wOr (wTst (wBin oIs (wFld C_Guess "own_most" (wVar 0)) (wC .non))) (wTst (wBin oLt (wVar 1) (wFld C_Guess "own_most" (wVar 0))))) (sFldS C_Guess "own_most" (wVar 0) (wVar 1)) sNil) (sRet (wOrV (wBin oIs (wFld C_Guess "own_least" (wVar 0)) (wC .non)) (wBin oLe (wFld C_Guess "own_least" (wVar 0)) (wFld C_Guess "own_most" (wVar 0)))))))
theorem p_Gu_more (C_Guess : Addr) (k : Nat) (ds : List D) (c : Cs) (Q : DK) (X0 : XK0) (hlen0 : ds.length = 2) (h : c_Gu_more C_Guess k ds c Q X0) : w_Gu_more C_Guess k (endOf Q) (excOf X0) (enOf 2 ds) c := by
  obtain ⟨p, ⟨a, b, n⟩, x, rfl, hc, q⟩ := h
  cases n with
  | some n =>
    try simp only [w_Gu_more, hc, gx_fld, gf_1, gf_2, gf_3, gf_n, gp_2, oD, sRaise, sTry, wIsX, wWhat, wBack, lo_lst, e_mulV, sizeL, sNil, sSeq, sPass, sBrk, sCont, sExpr, sRet, sRetN, sIf, sNever, sSet, sAug, gNm, gTp, gNil', gCons', gSb, sAsg, sPar, sFor, wVar_z, wVar_s, wC, wChn, wTru, sPar3, wRev, wCallK, permF, List.filterMap_cons, List.filterMap_nil, wBin, wUn, wTst, wNot, wAnd, wOr, wAndV, wOrV, wNotV, wIf, wNil, wCons, wTup, wLst, wLstL, wFz, wCall, wBi, wMt, wMt0, wSl, wSlL, wPart, wNoPart, wYes, wSeq, wRg1, wRg2, wEnum, wZip, wLc, wLcL, wLRg, wFld, sFldS, sFldA, gFld, wMeth, wMake, lvl2_s, onB, e_eqI, e_neI, e_eqB, e_neB, e_eqS, e_neS, e_eqN, e_tyLT, e_ty1, isTys, tyMem, tyN_non, tyN_bl, tyN_int, tyN_str, tyN_tup, tyN_lst, Bool.true_or, Bool.or_true, Bool.or_false, Bool.false_or, Bool.not_true, Bool.not_false, inn_non, inn_bl, inn_int, inn_str, inn_tup, inn_lst, inn_ptr, e_slT, e_slL, e_slN, isT_P, isT_L, isT_T, isT_N, e_sub, e_fdiv, e_mod, e_pow, e_lt, e_le, e_gt, e_ge, e_neg, e_add, e_addS, e_addT, e_addL, e_addPP, e_addPL, e_addLP, e_mul, e_mulL, e_mulT, e_augI, e_ixT, e_ixL, e_ixN, e_ixP, e_lenT, e_lenL, e_lenN, e_lenS, e_lenP, e_abs, e_intI, e_intB, e_max, e_min, e_tupL, e_tupT, e_listL, e_listT, e_listN, e_listLL, e_listLT, e_divmod, e_isNon, e_isntNon, e_isB, e_isntB, e_setIx, e_insert, e_append, e_isL, e_isLL, e_seqP, e_seqL, e_seqT, e_seqN, it_lst, it_fz, Option.bind_some, Option.isSome_some, ix10, ix20, ix21, ix30, ix32, dl1, dl2, dl3, List.eraseIdx_cons_zero, e_pop0, e_popAt, e_rev, e_clear, e_tupP, e_listP, e_neN, e_neIN, e_neNI, e_eqIN, e_eqNI, at0, at1, at2, at3, Cell.lst.injEq, Cell.obj.injEq, Option.some.injEq, exists_eq_left', decide_eq_true_eq, true_and, and_true, cup_same, cup_cup, wZipS, wZipB, List.flatten_nil, List.flatten_cons, enOf, endOf, excOf, List.map_cons, List.map_nil, List.length_cons, List.length_nil, List.replicate, Nat.reduceAdd, Nat.reduceSub, List.cons_append, List.nil_append, List.set_cons_zero, List.set_cons_succ, List.getElem?_cons_zero, List.getElem?_cons_succ, List.getElem_cons_zero, List.getElem_cons_succ, reduceCtorEq, if_true, if_false, Bool.false_eq_true, decide_true, decide_false, ne_eq, not_true, not_false_eq_true, Int.reduceEq, Nat.reduceMul, true_imp_iff, Int.reduceToNat, Int.reducePow, Nat.reducePow, Int.reduceLE, Int.reduceLT, Nat.reduceLT, and_self, Nat.reduceLeDiff, Int.reduceNeg, Int.reduceAdd, Int.reduceSub, Int.reduceMul, Int.cast_ofNat_Int, lvl_s]
    refine ⟨_, CLe.refl _, ?_⟩
    have := q.fin (g' := (a, b, some n)) (b := decide (n ≤ x)) (by unfold noMoreG; by_cases h : n ≤ x <;> simp [h])
    rw [cupG_self hc] at this
    exact this
  | none =>
    have fin : ∀ m, mostG (a, b, none) x = some m → a = none → Q (.bl true) (cup c p (.obj C_Guess (guF (none, some m, none)))) := fun m hm ha => by
      subst ha
      exact q.yes (by unfold noMoreG; simp only; rw [hm]; rfl)
    have fin2 : ∀ m a', mostG (a, b, none) x = some m → a = some a' → Q (.bl (decide (a' ≤ m))) (cup c p (.obj C_Guess (guF (some a', some m, none)))) := fun m a' hm ha => by
      subst ha
      exact q.fin (by unfold noMoreG; simp only; rw [hm]; rfl)
    cases b with
    | none =>
      have hm : mostG (a, none, none) x = some x := rfl
      cases a with
      | none =>
        try simp only [w_Gu_more, hc, gx_fld, gf_1, gf_2, gf_3, gf_n, gp_2, oD, sRaise, sTry, wIsX, wWhat, wBack, lo_lst, e_mulV, sizeL, sNil, sSeq, sPass, sBrk, sCont, sExpr, sRet, sRetN, sIf, sNever, sSet, sAug, gNm, gTp, gNil', gCons', gSb, sAsg, sPar, sFor, wVar_z, wVar_s, wC, wChn, wTru, sPar3, wRev, wCallK, permF, List.filterMap_cons, List.filterMap_nil, wBin, wUn, wTst, wNot, wAnd, wOr, wAndV, wOrV, wNotV, wIf, wNil, wCons, wTup, wLst, wLstL, wFz, wCall, wBi, wMt, wMt0, wSl, wSlL, wPart, wNoPart, wYes, wSeq, wRg1, wRg2, wEnum, wZip, wLc, wLcL, wLRg, wFld, sFldS, sFldA, gFld, wMeth, wMake, lvl2_s, onB, e_eqI, e_neI, e_eqB, e_neB, e_eqS, e_neS, e_eqN, e_tyLT, e_ty1, isTys, tyMem, tyN_non, tyN_bl, tyN_int, tyN_str, tyN_tup, tyN_lst, Bool.true_or, Bool.or_true, Bool.or_false, Bool.false_or, Bool.not_true, Bool.not_false, inn_non, inn_bl, inn_int, inn_str, inn_tup, inn_lst, inn_ptr, e_slT, e_slL, e_slN, isT_P, isT_L, isT_T, isT_N, e_sub, e_fdiv, e_mod, e_pow, e_lt, e_le, e_gt, e_ge, e_neg, e_add, e_addS, e_addT, e_addL, e_addPP, e_addPL, e_addLP, e_mul, e_mulL, e_mulT, e_augI, e_ixT, e_ixL, e_ixN, e_ixP, e_lenT, e_lenL, e_lenN, e_lenS, e_lenP, e_abs, e_intI, e_intB, e_max, e_min, e_tupL, e_tupT, e_listL, e_listT, e_listN, e_listLL, e_listLT, e_divmod, e_isNon, e_isntNon, e_isB, e_isntB, e_setIx, e_insert, e_append, e_isL, e_isLL, e_seqP, e_seqL, e_seqT, e_seqN, it_lst, it_fz, Option.bind_some, Option.isSome_some, ix10, ix20, ix21, ix30, ix32, dl1, dl2, dl3, List.eraseIdx_cons_zero, e_pop0, e_popAt, e_rev, e_clear, e_tupP, e_listP, e_neN, e_neIN, e_neNI, e_eqIN, e_eqNI, at0, at1, at2, at3, Cell.lst.injEq, Cell.obj.injEq, Option.some.injEq, exists_eq_left', decide_eq_true_eq, true_and, and_true, cup_same, cup_cup, wZipS, wZipB, List.flatten_nil, List.flatten_cons, enOf, endOf, excOf, List.map_cons, List.map_nil, List.length_cons, List.length_nil, List.replicate, Nat.reduceAdd, Nat.reduceSub, List.cons_append, List.nil_append, List.set_cons_zero, List.set_cons_succ, List.getElem?_cons_zero, List.getElem?_cons_succ, List.getElem_cons_zero, List.getElem_cons_succ, reduceCtorEq, if_true, if_false, Bool.false_eq_true, decide_true, decide_false, ne_eq, not_true, not_false_eq_true, Int.reduceEq, Nat.reduceMul, true_imp_iff, Int.reduceToNat, Int.reducePow, Nat.reducePow, Int.reduceLE, Int.reduceLT, Nat.reduceLT, and_self, Nat.reduceLeDiff, Int.reduceNeg, Int.reduceAdd, Int.reduceSub, Int.reduceMul, Int.cast_ofNat_Int, lvl_s]
        exact ⟨_, CLe.refl _, fin x hm rfl⟩
      | some a =>
        try simp only [w_Gu_more, hc, gx_fld, gf_1, gf_2, gf_3, gf_n, gp_2, oD, sRaise, sTry, wIsX, wWhat, wBack, lo_lst, e_mulV, sizeL, sNil, sSeq, sPass, sBrk, sCont, sExpr, sRet, sRetN, sIf, sNever, sSet, sAug, gNm, gTp, gNil', gCons', gSb, sAsg, sPar, sFor, wVar_z, wVar_s, wC, wChn, wTru, sPar3, wRev, wCallK, permF, List.filterMap_cons, List.filterMap_nil, wBin, wUn, wTst, wNot, wAnd, wOr, wAndV, wOrV, wNotV, wIf, wNil, wCons, wTup, wLst, wLstL, wFz, wCall, wBi, wMt, wMt0, wSl, wSlL, wPart, wNoPart, wYes, wSeq, wRg1, wRg2, wEnum, wZip, wLc, wLcL, wLRg, wFld, sFldS, sFldA, gFld, wMeth, wMake, lvl2_s, onB, e_eqI, e_neI, e_eqB, e_neB, e_eqS, e_neS, e_eqN, e_tyLT, e_ty1, isTys, tyMem, tyN_non, tyN_bl, tyN_int, tyN_str, tyN_tup, tyN_lst, Bool.true_or, Bool.or_true, Bool.or_false, Bool.false_or, Bool.not_true, Bool.not_false, inn_non, inn_bl, inn_int, inn_str, inn_tup, inn_lst, inn_ptr, e_slT, e_slL, e_slN, isT_P, isT_L, isT_T, isT_N, e_sub, e_fdiv, e_mod, e_pow, e_lt, e_le, e_gt, e_ge, e_neg, e_add, e_addS, e_addT, e_addL, e_addPP, e_addPL, e_addLP, e_mul, e_mulL, e_mulT, e_augI, e_ixT, e_ixL, e_ixN, e_ixP, e_lenT, e_lenL, e_lenN, e_lenS, e_lenP, e_abs, e_intI, e_intB, e_max, e_min, e_tupL, e_tupT, e_listL, e_listT, e_listN, e_listLL, e_listLT, e_divmod, e_isNon, e_isntNon, e_isB, e_isntB, e_setIx, e_insert, e_append, e_isL, e_isLL, e_seqP, e_seqL, e_seqT, e_seqN, it_lst, it_fz, Option.bind_some, Option.isSome_some, ix10, ix20, ix21, ix30, ix32, dl1, dl2, dl3, List.eraseIdx_cons_zero, e_pop0, e_popAt, e_rev, e_clear, e_tupP, e_listP, e_neN, e_neIN, e_neNI, e_eqIN, e_eqNI, at0, at1, at2, at3, Cell.lst.injEq, Cell.obj.injEq, Option.some.injEq, exists_eq_left', decide_eq_true_eq, true_and, and_true, cup_same, cup_cup, wZipS, wZipB, List.flatten_nil, List.flatten_cons, enOf, endOf, excOf, List.map_cons, List.map_nil, List.length_cons, List.length_nil, List.replicate, Nat.reduceAdd, Nat.reduceSub, List.cons_append, List.nil_append, List.set_cons_zero, List.set_cons_succ, List.getElem?_cons_zero, List.getElem?_cons_succ, List.getElem_cons_zero, List.getElem_cons_succ, reduceCtorEq, if_true, if_false, Bool.false_eq_true, decide_true, decide_false, ne_eq, not_true, not_false_eq_true, Int.reduceEq, Nat.reduceMul, true_imp_iff, Int.reduceToNat, Int.reducePow, Nat.reducePow, Int.reduceLE, Int.reduceLT, Nat.reduceLT, and_self, Nat.reduceLeDiff, Int.reduceNeg, Int.reduceAdd, Int.reduceSub, Int.reduceMul, Int.cast_ofNat_Int, lvl_s]
        exact ⟨_, CLe.refl _, fin2 x a hm rfl⟩
    | some b =>
      by_cases hlt : x < b
      · have hm : ∀ a, mostG (a, some b, none) x = some x := fun a => by unfold mostG; simp [hlt]
        cases a with
        | none =>
          try simp only [w_Gu_more, hc, gx_fld, gf_1, gf_2, gf_3, gf_n, gp_2, oD, hlt, sRaise, sTry, wIsX, wWhat, wBack, lo_lst, e_mulV, sizeL, sNil, sSeq, sPass, sBrk, sCont, sExpr, sRet, sRetN, sIf, sNever, sSet, sAug, gNm, gTp, gNil', gCons', gSb, sAsg, sPar, sFor, wVar_z, wVar_s, wC, wChn, wTru, sPar3, wRev, wCallK, permF, List.filterMap_cons, List.filterMap_nil, wBin, wUn, wTst, wNot, wAnd, wOr, wAndV, wOrV, wNotV, wIf, wNil, wCons, wTup, wLst, wLstL, wFz, wCall, wBi, wMt, wMt0, wSl, wSlL, wPart, wNoPart, wYes, wSeq, wRg1, wRg2, wEnum, wZip, wLc, wLcL, wLRg, wFld, sFldS, sFldA, gFld, wMeth, wMake, lvl2_s, onB, e_eqI, e_neI, e_eqB, e_neB, e_eqS, e_neS, e_eqN, e_tyLT, e_ty1, isTys, tyMem, tyN_non, tyN_bl, tyN_int, tyN_str, tyN_tup, tyN_lst, Bool.true_or, Bool.or_true, Bool.or_false, Bool.false_or, Bool.not_true, Bool.not_false, inn_non, inn_bl, inn_int, inn_str, inn_tup, inn_lst, inn_ptr, e_slT, e_slL, e_slN, isT_P, isT_L, isT_T, isT_N, e_sub, e_fdiv, e_mod, e_pow, e_lt, e_le, e_gt, e_ge, e_neg, e_add, e_addS, e_addT, e_addL, e_addPP, e_addPL, e_addLP, e_mul, e_mulL, e_mulT, e_augI, e_ixT, e_ixL, e_ixN, e_ixP, e_lenT, e_lenL, e_lenN, e_lenS, e_lenP, e_abs, e_intI, e_intB, e_max, e_min, e_tupL, e_tupT, e_listL, e_listT, e_listN, e_listLL, e_listLT, e_divmod, e_isNon, e_isntNon, e_isB, e_isntB, e_setIx, e_insert, e_append, e_isL, e_isLL, e_seqP, e_seqL, e_seqT, e_seqN, it_lst, it_fz, Option.bind_some, Option.isSome_some, ix10, ix20, ix21, ix30, ix32, dl1, dl2, dl3, List.eraseIdx_cons_zero, e_pop0, e_popAt, e_rev, e_clear, e_tupP, e_listP, e_neN, e_neIN, e_neNI, e_eqIN, e_eqNI, at0, at1, at2, at3, Cell.lst.injEq, Cell.obj.injEq, Option.some.injEq, exists_eq_left', decide_eq_true_eq, true_and, and_true, cup_same, cup_cup, wZipS, wZipB, List.flatten_nil, List.flatten_cons, enOf, endOf, excOf, List.map_cons, List.map_nil, List.length_cons, List.length_nil, List.replicate, Nat.reduceAdd, Nat.reduceSub, List.cons_append, List.nil_append, List.set_cons_zero, List.set_cons_succ, List.getElem?_cons_zero, List.getElem?_cons_succ, List.getElem_cons_zero, List.getElem_cons_succ, reduceCtorEq, if_true, if_false, Bool.false_eq_true, decide_true, decide_false, ne_eq, not_true, not_false_eq_true, Int.reduceEq, Nat.reduceMul, true_imp_iff, Int.reduceToNat, Int.reducePow, Nat.reducePow, Int.reduceLE, Int.reduceLT, Nat.reduceLT, and_self, Nat.reduceLeDiff, Int.reduceNeg, Int.reduceAdd, Int.reduceSub, Int.reduceMul, Int.cast_ofNat_Int, lvl_s]
          exact ⟨_, CLe.refl _, fin x (hm _) rfl⟩
        | some a =>
          try simp only [w_Gu_more, hc, gx_fld, gf_1, gf_2, gf_3, gf_n, gp_2, oD, hlt, sRaise, sTry, wIsX, wWhat, wBack, lo_lst, e_mulV, sizeL, sNil, sSeq, sPass, sBrk, sCont, sExpr, sRet, sRetN, sIf, sNever, sSet, sAug, gNm, gTp, gNil', gCons', gSb, sAsg, sPar, sFor, wVar_z, wVar_s, wC, wChn, wTru, sPar3, wRev, wCallK, permF, List.filterMap_cons, List.filterMap_nil, wBin, wUn, wTst, wNot, wAnd, wOr, wAndV, wOrV, wNotV, wIf, wNil, wCons, wTup, wLst, wLstL, wFz, wCall, wBi, wMt, wMt0, wSl, wSlL, wPart, wNoPart, wYes, wSeq, wRg1, wRg2, wEnum, wZip, wLc, wLcL, wLRg, wFld, sFldS, sFldA, gFld, wMeth, wMake, lvl2_s, onB, e_eqI, e_neI, e_eqB, e_neB, e_eqS, e_neS, e_eqN, e_tyLT, e_ty1, isTys, tyMem, tyN_non, tyN_bl, tyN_int, tyN_str, tyN_tup, tyN_lst, Bool.true_or, Bool.or_true, Bool.or_false, Bool.false_or, Bool.not_true, Bool.not_false, inn_non, inn_bl, inn_int, inn_str, inn_tup, inn_lst, inn_ptr, e_slT, e_slL, e_slN, isT_P, isT_L, isT_T, isT_N, e_sub, e_fdiv, e_mod, e_pow, e_lt, e_le, e_gt, e_ge, e_neg, e_add, e_addS, e_addT, e_addL, e_addPP, e_addPL, e_addLP, e_mul, e_mulL, e_mulT, e_augI, e_ixT, e_ixL, e_ixN, e_ixP, e_lenT, e_lenL, e_lenN, e_lenS, e_lenP, e_abs, e_intI, e_intB, e_max, e_min, e_tupL, e_tupT, e_listL, e_listT, e_listN, e_listLL, e_listLT, e_divmod, e_isNon, e_isntNon, e_isB, e_isntB, e_setIx, e_insert, e_append, e_isL, e_isLL, e_seqP, e_seqL, e_seqT, e_seqN, it_lst, it_fz, Option.bind_some, Option.isSome_some, ix10, ix20, ix21, ix30, ix32, dl1, dl2, dl3, List.eraseIdx_cons_zero, e_pop0, e_popAt, e_rev, e_clear, e_tupP, e_listP, e_neN, e_neIN, e_neNI, e_eqIN, e_eqNI, at0, at1, at2, at3, Cell.lst.injEq, Cell.obj.injEq, Option.some.injEq, exists_eq_left', decide_eq_true_eq, true_and, and_true, cup_same, cup_cup, wZipS, wZipB, List.flatten_nil, List.flatten_cons, enOf, endOf, excOf, List.map_cons, List.map_nil, List.length_cons, List.length_nil, List.replicate, Nat.reduceAdd, Nat.reduceSub, List.cons_append, List.nil_append, List.set_cons_zero, List.set_cons_succ, List.getElem?_cons_zero, List.getElem?_cons_succ, List.getElem_cons_zero, List.getElem_cons_succ, reduceCtorEq, if_true, if_false, Bool.false_eq_true, decide_true, decide_false, ne_eq, not_true, not_false_eq_true, Int.reduceEq, Nat.reduceMul, true_imp_iff, Int.reduceToNat, Int.reducePow, Nat.reducePow, Int.reduceLE, Int.reduceLT, Nat.reduceLT, and_self, Nat.reduceLeDiff, Int.reduceNeg, Int.reduceAdd, Int.reduceSub, Int.reduceMul, Int.cast_ofNat_Int, lvl_s]
          exact ⟨_, CLe.refl _, fin2 x a (hm _) rfl⟩
      · have hm : ∀ a, mostG (a, some b, none) x = some b := fun a => by unfold mostG; simp [hlt]
        cases a with
        | none =>
          try simp only [w_Gu_more, hc, gx_fld, gf_1, gf_2, gf_3, gf_n, gp_2, oD, hlt, sRaise, sTry, wIsX, wWhat, wBack, lo_lst, e_mulV, sizeL, sNil, sSeq, sPass, sBrk, sCont, sExpr, sRet, sRetN, sIf, sNever, sSet, sAug, gNm, gTp, gNil', gCons', gSb, sAsg, sPar, sFor, wVar_z, wVar_s, wC, wChn, wTru, sPar3, wRev, wCallK, permF, List.filterMap_cons, List.filterMap_nil, wBin, wUn, wTst, wNot, wAnd, wOr, wAndV, wOrV, wNotV, wIf, wNil, wCons, wTup, wLst, wLstL, wFz, wCall, wBi, wMt, wMt0, wSl, wSlL, wPart, wNoPart, wYes, wSeq, wRg1, wRg2, wEnum, wZip, wLc, wLcL, wLRg, wFld, sFldS, sFldA, gFld, wMeth, wMake, lvl2_s, onB, e_eqI, e_neI, e_eqB, e_neB, e_eqS, e_neS, e_eqN, e_tyLT, e_ty1, isTys, tyMem, tyN_non, tyN_bl, tyN_int, tyN_str, tyN_tup, tyN_lst, Bool.true_or, Bool.or_true, Bool.or_false, Bool.false_or, Bool.not_true, Bool.not_false, inn_non, inn_bl, inn_int, inn_str, inn_tup, inn_lst, inn_ptr, e_slT, e_slL, e_slN, isT_P, isT_L, isT_T, isT_N, e_sub, e_fdiv, e_mod, e_pow, e_lt, e_le, e_gt, e_ge, e_neg, e_add, e_addS, e_addT, e_addL, e_addPP, e_addPL, e_addLP, e_mul, e_mulL, e_mulT, e_augI, e_ixT, e_ixL, e_ixN, e_ixP, e_lenT, e_lenL, e_lenN, e_lenS, e_lenP, e_abs, e_intI, e_intB, e_max, e_min, e_tupL, e_tupT, e_listL, e_listT, e_listN, e_listLL, e_listLT, e_divmod, e_isNon, e_isntNon, e_isB, e_isntB, e_setIx, e_insert, e_append, e_isL, e_isLL, e_seqP, e_seqL, e_seqT, e_seqN, it_lst, it_fz, Option.bind_some, Option.isSome_some, ix10, ix20, ix21, ix30, ix32, dl1, dl2, dl3, List.eraseIdx_cons_zero, e_pop0, e_popAt, e_rev, e_clear, e_tupP, e_listP, e_neN, e_neIN, e_neNI, e_eqIN, e_eqNI, at0, at1, at2, at3, Cell.lst.injEq, Cell.obj.injEq, Option.some.injEq, exists_eq_left', decide_eq_true_eq, true_and, and_true, cup_same, cup_cup, wZipS, wZipB, List.flatten_nil, List.flatten_cons, enOf, endOf, excOf, List.map_cons, List.map_nil, List.length_cons, List.length_nil, List.replicate, Nat.reduceAdd, Nat.reduceSub, List.cons_append, List.nil_append, List.set_cons_zero, List.set_cons_succ, List.getElem?_cons_zero, List.getElem?_cons_succ, List.getElem_cons_zero, List.getElem_cons_succ, reduceCtorEq, if_true, if_false, Bool.false_eq_true, decide_true, decide_false, ne_eq, not_true, not_false_eq_true, Int.reduceEq, Nat.reduceMul, true_imp_iff, Int.reduceToNat, Int.reducePow, Nat.reducePow, Int.reduceLE, Int.reduceLT, Nat.reduceLT, and_self, Nat.reduceLeDiff, Int.reduceNeg, Int.reduceAdd, Int.reduceSub, Int.reduceMul, Int.cast_ofNat_Int, lvl_s]
          have := fin b (hm _) rfl
          rw [cupG_self hc] at this
          exact ⟨_, CLe.refl _, this⟩
        | some a =>
          try simp only [w_Gu_more, hc, gx_fld, gf_1, gf_2, gf_3, gf_n, gp_2, oD, hlt, sRaise, sTry, wIsX, wWhat, wBack, lo_lst, e_mulV, sizeL, sNil, sSeq, sPass, sBrk, sCont, sExpr, sRet, sRetN, sIf, sNever, sSet, sAug, gNm, gTp, gNil', gCons', gSb, sAsg, sPar, sFor, wVar_z, wVar_s, wC, wChn, wTru, sPar3, wRev, wCallK, permF, List.filterMap_cons, List.filterMap_nil, wBin, wUn, wTst, wNot, wAnd, wOr, wAndV, wOrV, wNotV, wIf, wNil, wCons, wTup, wLst, wLstL, wFz, wCall, wBi, wMt, wMt0, wSl, wSlL, wPart, wNoPart, wYes, wSeq, wRg1, wRg2, wEnum, wZip, wLc, wLcL, wLRg, wFld, sFldS, sFldA, gFld, wMeth, wMake, lvl2_s, onB, e_eqI, e_neI, e_eqB, e_neB, e_eqS, e_neS, e_eqN, e_tyLT, e_ty1, isTys, tyMem, tyN_non, tyN_bl, tyN_int, tyN_str, tyN_tup, tyN_lst, Bool.true_or, Bool.or_true, Bool.or_false, Bool.false_or, Bool.not_true, Bool.not_false, inn_non, inn_bl, inn_int, inn_str, inn_tup, inn_lst, inn_ptr, e_slT, e_slL, e_slN, isT_P, isT_L, isT_T, isT_N, e_sub, e_fdiv, e_mod, e_pow, e_lt, e_le, e_gt, e_ge, e_neg, e_add, e_addS, e_addT, e_addL, e_addPP, e_addPL, e_addLP, e_mul, e_mulL, e_mulT, e_augI, e_ixT, e_ixL, e_ixN, e_ixP, e_lenT, e_lenL, e_lenN, e_lenS, e_lenP, e_abs, e_intI, e_intB, e_max, e_min, e_tupL, e_tupT, e_listL, e_listT, e_listN, e_listLL, e_listLT, e_divmod, e_isNon, e_isntNon, e_isB, e_isntB, e_setIx, e_insert, e_append, e_isL, e_isLL, e_seqP, e_seqL, e_seqT, e_seqN, it_lst, it_fz, Option.bind_some, Option.isSome_some, ix10, ix20, ix21, ix30, ix32, dl1, dl2, dl3, List.eraseIdx_cons_zero, e_pop0, e_popAt, e_rev, e_clear, e_tupP, e_listP, e_neN, e_neIN, e_neNI, e_eqIN, e_eqNI, at0, at1, at2, at3, Cell.lst.injEq, Cell.obj.injEq, Option.some.injEq, exists_eq_left', decide_eq_true_eq, true_and, and_true, cup_same, cup_cup, wZipS, wZipB, List.flatten_nil, List.flatten_cons, enOf, endOf, excOf, List.map_cons, List.map_nil, List.length_cons, List.length_nil, List.replicate, Nat.reduceAdd, Nat.reduceSub, List.cons_append, List.nil_append, List.set_cons_zero, List.set_cons_succ, List.getElem?_cons_zero, List.getElem?_cons_succ, List.getElem_cons_zero, List.getElem_cons_succ, reduceCtorEq, if_true, if_false, Bool.false_eq_true, decide_true, decide_false, ne_eq, not_true, not_false_eq_true, Int.reduceEq, Nat.reduceMul, true_imp_iff, Int.reduceToNat, Int.reducePow, Nat.reducePow, Int.reduceLE, Int.reduceLT, Nat.reduceLT, and_self, Nat.reduceLeDiff, Int.reduceNeg, Int.reduceAdd, Int.reduceSub, Int.reduceMul, Int.cast_ofNat_Int, lvl_s]
          have := fin2 b a (hm _) rfl
          rw [cupG_self hc] at this
          exact ⟨_, CLe.refl _, this⟩
def c_Gu_less (C : Addr) (k : Nat) : Ctr := fun ds c Q _ => ∃ (p : Addr) (g : Gu) (x : Int), ds = [.ptr p, .int x] ∧ c p = some (.obj C (guF g)) ∧ AnsG C p c Q (noLessG g x)
def w_Gu_less (C_Guess : Addr) (k : Nat) : WS := (sSeq (sIf (wTst (wBin oIsNot (wFld C_Guess "own_now" (wVar 0)) (wC .non))) (sRet (wBin oGe (wFld C_Guess "own_now" (wVar 0)) (wVar 1))) sNil) (sSeq (sIf (wOr (wTst (wBin oIs (wFld C_Guess "own_least" (wVar 0)) (wC .non))) (wTst (wBin oGt (wVar 1) (wFld C_Guess "own_least" (wVar 0))))) (sFldS C_Guess "own_least" (wVar 0) (wVar 1)) sNil) (sRet (wOrV (wBin oIs (wFld C_Guess "own_most" (wVar 0)) (wC .non)) (wBin oLe (wFld C_Guess "own_least" (wVar 0)) (wFld C_Guess "own_most" (wVar 0)))))))
theorem p_Gu_less (C_Guess : Addr) (k : Nat) (ds : List D) (c : Cs) (Q : DK) (X0 : XK0) (hlen0 : ds.length = 2) (h : c_Gu_less C_Guess k ds c Q X0) : w_Gu_less C_Guess k (endOf Q) (excOf X0) (enOf 2 ds) c := by
  obtain ⟨p, ⟨a, b, n⟩, x, rfl, hc, q⟩ := h
  cases n with
  | some n =>
    try simp only [w_Gu_less, hc, gx_fld, gf_1, gf_2, gf_3, gf_n, gp_1, oD, sRaise, sTry, wIsX, wWhat, wBack, lo_lst, e_mulV, sizeL, sNil, sSeq, sPass, sBrk, sCont, sExpr, sRet, sRetN, sIf, sNever, sSet, sAug, gNm, gTp, gNil', gCons', gSb, sAsg, sPar, sFor, wVar_z, wVar_s, wC, wChn, wTru, sPar3, wRev, wCallK, permF, List.filterMap_cons, List.filterMap_nil, wBin, wUn, wTst, wNot, wAnd, wOr, wAndV, wOrV, wNotV, wIf, wNil, wCons, wTup, wLst, wLstL, wFz, wCall, wBi, wMt, wMt0, wSl, wSlL, wPart, wNoPart, wYes, wSeq, wRg1, wRg2, wEnum, wZip, wLc, wLcL, wLRg, wFld, sFldS, sFldA, gFld, wMeth, wMake, lvl2_s, onB, e_eqI, e_neI, e_eqB, e_neB, e_eqS, e_neS, e_eqN, e_tyLT, e_ty1, isTys, tyMem, tyN_non, tyN_bl, tyN_int, tyN_str, tyN_tup, tyN_lst, Bool.true_or, Bool.or_true, Bool.or_false, Bool.false_or, Bool.not_true, Bool.not_false, inn_non, inn_bl, inn_int, inn_str, inn_tup, inn_lst, inn_ptr, e_slT, e_slL, e_slN, isT_P, isT_L, isT_T, isT_N, e_sub, e_fdiv, e_mod, e_pow, e_lt, e_le, e_gt, e_ge, e_neg, e_add, e_addS, e_addT, e_addL, e_addPP, e_addPL, e_addLP, e_mul, e_mulL, e_mulT, e_augI, e_ixT, e_ixL, e_ixN, e_ixP, e_lenT, e_lenL, e_lenN, e_lenS, e_lenP, e_abs, e_intI, e_intB, e_max, e_min, e_tupL, e_tupT, e_listL, e_listT, e_listN, e_listLL, e_listLT, e_divmod, e_isNon, e_isntNon, e_isB, e_isntB, e_setIx, e_insert, e_append, e_isL, e_isLL, e_seqP, e_seqL, e_seqT, e_seqN, it_lst, it_fz, Option.bind_some, Option.isSome_some, ix10, ix20, ix21, ix30, ix32, dl1, dl2, dl3, List.eraseIdx_cons_zero, e_pop0, e_popAt, e_rev, e_clear, e_tupP, e_listP, e_neN, e_neIN, e_neNI, e_eqIN, e_eqNI, at0, at1, at2, at3, Cell.lst.injEq, Cell.obj.injEq, Option.some.injEq, exists_eq_left', decide_eq_true_eq, true_and, and_true, cup_same, cup_cup, wZipS, wZipB, List.flatten_nil, List.flatten_cons, enOf, endOf, excOf, List.map_cons, List.map_nil, List.length_cons, List.length_nil, List.replicate, Nat.reduceAdd, Nat.reduceSub, List.cons_append, List.nil_append, List.set_cons_zero, List.set_cons_succ, List.getElem?_cons_zero, List.getElem?_cons_succ, List.getElem_cons_zero, List.getElem_cons_succ, reduceCtorEq, if_true, if_false, Bool.false_eq_true, decide_true, decide_false, ne_eq, not_true, not_false_eq_true, Int.reduceEq, Nat.reduceMul, true_imp_iff, Int.reduceToNat, Int.reducePow, Nat.reducePow, Int.reduceLE, Int.reduceLT, Nat.reduceLT, and_self, Nat.reduceLeDiff, Int.reduceNeg, Int.reduceAdd, Int.reduceSub, Int.reduceMul, Int.cast_ofNat_Int, lvl_s]
    refine ⟨_, CLe.refl _, ?_⟩
    have := q.fin (g' := (a, b, some n)) (b := decide (x ≤ n)) (by unfold noLessG; by_cases h : x ≤ n <;> simp [h])
    rw [cupG_self hc] at this
    exact this
  | none =>
    have fin : ∀ m, leastG (a, b, none) x = some m → b = none → Q (.bl true) (cup c p (.obj C_Guess (guF (some m, none, none)))) := fun m hm hb => by
      subst hb
      exact q.yes (by unfold noLessG; simp only; rw [hm]; rfl)
    have fin2 : ∀ m b', leastG (a, b, none) x = some m → b = some b' → Q (.bl (decide (m ≤ b'))) (cup c p (.obj C_Guess (guF (some m, some b', none)))) := fun m b' hm hb => by
      subst hb
      exact q.fin (by unfold noLessG; simp only; rw [hm]; rfl)
    cases a with
    | none =>
      have hm : ∀ b, leastG (none, b, none) x = some x := fun _ => rfl
      cases b with
      | none =>
        try simp only [w_Gu_less, hc, gx_fld, gf_1, gf_2, gf_3, gf_n, gp_1, oD, sRaise, sTry, wIsX, wWhat, wBack, lo_lst, e_mulV, sizeL, sNil, sSeq, sPass, sBrk, sCont, sExpr, sRet, sRetN, sIf, sNever, sSet, sAug, gNm, gTp, gNil', gCons', gSb, sAsg, sPar, sFor, wVar_z, wVar_s, wC, wChn, wTru, sPar3, wRev, wCallK, permF, List.filterMap_cons, List.filterMap_nil, wBin, wUn, wTst, wNot, wAnd, wOr, wAndV, wOrV, wNotV, wIf, wNil, wCons, wTup, wLst, wLstL, wFz, wCall, wBi, wMt, wMt0, wSl, wSlL, wPart, wNoPart, wYes, wSeq, wRg1, wRg2, wEnum, wZip, wLc, wLcL, wLRg, wFld, sFldS, sFldA, gFld, wMeth, wMake, lvl2_s, onB, e_eqI, e_neI, e_eqB, e_neB, e_eqS, e_neS, e_eqN, e_tyLT, e_ty1, isTys, tyMem, tyN_non, tyN_bl, tyN_int, tyN_str, tyN_tup, tyN_lst, Bool.true_or, Bool.or_true, Bool.or_false, Bool.false_or, Bool.not_true, Bool.not_false, inn_non, inn_bl, inn_int, inn_str, inn_tup, inn_lst, inn_ptr, e_slT, e_slL, e_slN, isT_P, isT_L, isT_T, isT_N, e_sub, e_fdiv, e_mod, e_pow, e_lt, e_le, e_gt, e_ge, e_neg, e_add, e_addS, e_addT, e_addL, e_addPP, e_addPL, e_addLP, e_mul, e_mulL, e_mulT, e_augI, e_ixT, e_ixL, e_ixN, e_ixP, e_lenT, e_lenL, e_lenN, e_lenS, e_lenP, e_abs, e_intI, e_intB, e_max, e_min, e_tupL, e_tupT, e_listL, e_listT, e_listN, e_listLL, e_listLT, e_divmod, e_isNon, e_isntNon, e_isB, e_isntB, e_setIx, e_insert, e_append, e_isL, e_isLL, e_seqP, e_seqL, e_seqT, e_seqN, it_lst, it_fz, Option.bind_some, Option.isSome_some, ix10, ix20, ix21, ix30, ix32, dl1, dl2, dl3, List.eraseIdx_cons_zero, e_pop0, e_popAt, e_rev, e_clear, e_tupP, e_listP, e_neN, e_neIN, e_neNI, e_eqIN, e_eqNI, at0, at1, at2, at3, Cell.lst.injEq, Cell.obj.injEq, Option.some.injEq, exists_eq_left', decide_eq_true_eq, true_and, and_true, cup_same, cup_cup, wZipS, wZipB, List.flatten_nil, List.flatten_cons, enOf, endOf, excOf, List.map_cons, List.map_nil, List.length_cons, List.length_nil, List.replicate, Nat.reduceAdd, Nat.reduceSub, List.cons_append, List.nil_append, List.set_cons_zero, List.set_cons_succ, List.getElem?_cons_zero, List.getElem?_cons_succ, List.getElem_cons_zero, List.getElem_cons_succ, reduceCtorEq, if_true, if_false, Bool.false_eq_true, decide_true, decide_false, ne_eq, not_true, not_false_eq_true, Int.reduceEq, Nat.reduceMul, true_imp_iff, Int.reduceToNat, Int.reducePow, Nat.reducePow, Int.reduceLE, Int.reduceLT, Nat.reduceLT, and_self, Nat.reduceLeDiff, Int.reduceNeg, Int.reduceAdd, Int.reduceSub, Int.reduceMul, Int.cast_ofNat_Int, lvl_s]
        exact ⟨_, CLe.refl _, fin x (hm _) rfl⟩
      | some b =>
        try simp only [w_Gu_less, hc, gx_fld, gf_1, gf_2, gf_3, gf_n, gp_1, oD, sRaise, sTry, wIsX, wWhat, wBack, lo_lst, e_mulV, sizeL, sNil, sSeq, sPass, sBrk, sCont, sExpr, sRet, sRetN, sIf, sNever, sSet, sAug, gNm, gTp, gNil', gCons', gSb, sAsg, sPar, sFor, wVar_z, wVar_s, wC, wChn, wTru, sPar3, wRev, wCallK, permF, List.filterMap_cons, List.filterMap_nil, wBin, wUn, wTst, wNot, wAnd, wOr, wAndV, wOrV, wNotV, wIf, wNil, wCons, wTup, wLst, wLstL, wFz, wCall, wBi, wMt, wMt0, wSl, wSlL, wPart, wNoPart, wYes, wSeq, wRg1, wRg2, wEnum, wZip, wLc, wLcL, wLRg, wFld, sFldS, sFldA, gFld, wMeth, wMake, lvl2_s, onB, e_eqI, e_neI, e_eqB, e_neB, e_eqS, e_neS, e_eqN, e_tyLT, e_ty1, isTys, tyMem, tyN_non, tyN_bl, tyN_int, tyN_str, tyN_tup, tyN_lst, Bool.true_or, Bool.or_true, Bool.or_false, Bool.false_or, Bool.not_true, Bool.not_false, inn_non, inn_bl, inn_int, inn_str, inn_tup, inn_lst, inn_ptr, e_slT, e_slL, e_slN, isT_P, isT_L, isT_T, isT_N, e_sub, e_fdiv, e_mod, e_pow, e_lt, e_le, e_gt, e_ge, e_neg, e_add, e_addS, e_addT, e_addL, e_addPP, e_addPL, e_addLP, e_mul, e_mulL, e_mulT, e_augI, e_ixT, e_ixL, e_ixN, e_ixP, e_lenT, e_lenL, e_lenN, e_lenS, e_lenP, e_abs, e_intI, e_intB, e_max, e_min, e_tupL, e_tupT, e_listL, e_listT, e_listN, e_listLL, e_listLT, e_divmod, e_isNon, e_isntNon, e_isB, e_isntB, e_setIx, e_insert, e_append, e_isL, e_isLL, e_seqP, e_seqL, e_seqT, e_seqN, it_lst, it_fz, Option.bind_some, Option.isSome_some, ix10, ix20, ix21, ix30, ix32, dl1, dl2, dl3, List.eraseIdx_cons_zero, e_pop0, e_popAt, e_rev, e_clear, e_tupP, e_listP, e_neN, e_neIN, e_neNI, e_eqIN, e_eqNI, at0, at1, at2, at3, Cell.lst.injEq, Cell.obj.injEq, Option.some.injEq, exists_eq_left', decide_eq_true_eq, true_and, and_true, cup_same, cup_cup, wZipS, wZipB, List.flatten_nil, List.flatten_cons, enOf, endOf, excOf, List.map_cons, List.map_nil, List.length_cons, List.length_nil, List.replicate, Nat.reduceAdd, Nat.reduceSub, List.cons_append, List.nil_append, List.set_cons_zero, List.set_cons_succ, List.getElem?_cons_zero, List.getElem?_cons_succ, List.getElem_cons_zero, List.getElem_cons_succ, reduceCtorEq, if_true, if_false, Bool.false_eq_true, decide_true, decide_false, ne_eq, not_true, not_false_eq_true, Int.reduceEq, Nat.reduceMul, true_imp_iff, Int.reduceToNat, Int.reducePow, Nat.reducePow, Int.reduceLE, Int.reduceLT, Nat.reduceLT, and_self, Nat.reduceLeDiff, Int.reduceNeg, Int.reduceAdd, Int.reduceSub, Int.reduceMul, Int.cast_ofNat_Int, lvl_s]
        exact ⟨_, CLe.refl _, fin2 x b (hm _) rfl⟩
    | some a =>
      by_cases hlt : a < x
      · have hm : ∀ b, leastG (some a, b, none) x = some x := fun b => by unfold leastG; simp [hlt]
        cases b with
        | none =>
          try simp only [w_Gu_less, hc, gx_fld, gf_1, gf_2, gf_3, gf_n, gp_1, oD, hlt, sRaise, sTry, wIsX, wWhat, wBack, lo_lst, e_mulV, sizeL, sNil, sSeq, sPass, sBrk, sCont, sExpr, sRet, sRetN, sIf, sNever, sSet, sAug, gNm, gTp, gNil', gCons', gSb, sAsg, sPar, sFor, wVar_z, wVar_s, wC, wChn, wTru, sPar3, wRev, wCallK, permF, List.filterMap_cons, List.filterMap_nil, wBin, wUn, wTst, wNot, wAnd, wOr, wAndV, wOrV, wNotV, wIf, wNil, wCons, wTup, wLst, wLstL, wFz, wCall, wBi, wMt, wMt0, wSl, wSlL, wPart, wNoPart, wYes, wSeq, wRg1, wRg2, wEnum, wZip, wLc, wLcL, wLRg, wFld, sFldS, sFldA, gFld, wMeth, wMake, lvl2_s, onB, e_eqI, e_neI, e_eqB, e_neB, e_eqS, e_neS, e_eqN, e_tyLT, e_ty1, isTys, tyMem, tyN_non, tyN_bl, tyN_int, tyN_str, tyN_tup, tyN_lst, Bool.true_or, Bool.or_true, Bool.or_false, Bool.false_or, Bool.not_true, Bool.not_false, inn_non, inn_bl, inn_int, inn_str, inn_tup, inn_lst, inn_ptr, e_slT, e_slL, e_slN, isT_P, isT_L, isT_T, isT_N, e_sub, e_fdiv, e_mod, e_pow, e_lt, e_le, e_gt, e_ge, e_neg, e_add, e_addS, e_addT, e_addL, e_addPP, e_addPL, e_addLP, e_mul, e_mulL, e_mulT, e_augI, e_ixT, e_ixL, e_ixN, e_ixP, e_lenT, e_lenL, e_lenN, e_lenS, e_lenP, e_abs, e_intI, e_intB, e_max, e_min, e_tupL, e_tupT, e_listL, e_listT, e_listN, e_listLL, e_listLT, e_divmod, e_isNon, e_isntNon, e_isB, e_isntB, e_setIx, e_insert, e_append, e_isL, e_isLL, e_seqP, e_seqL, e_seqT, e_seqN, it_lst, it_fz, Option.bind_some, Option.isSome_some, ix10, ix20, ix21, ix30, ix32, dl1, dl2, dl3, List.eraseIdx_cons_zero, e_pop0, e_popAt, e_rev, e_clear, e_tupP, e_listP, e_neN, e_neIN, e_neNI, e_eqIN, e_eqNI, at0, at1, at2, at3, Cell.lst.injEq, Cell.obj.injEq, Option.some.injEq, exists_eq_left', decide_eq_true_eq, true_and, and_true, cup_same, cup_cup, wZipS, wZipB, List.flatten_nil, List.flatten_cons, enOf, endOf, excOf, List.map_cons, List.map_nil, List.length_cons, List.length_nil, List.replicate, Nat.reduceAdd, Nat.reduceSub, List.cons_append, List.nil_append, List.set_cons_zero, List.set_cons_succ, List.getElem?_cons_zero, List.getElem?_cons_succ, List.getElem_cons_zero, List.getElem_cons_succ, reduceCtorEq, if_true, if_false, Bool.false_eq_true, decide_true, decide_false, ne_eq, not_true, not_false_eq_true, Int.reduceEq, Nat.reduceMul, true_imp_iff, Int.reduceToNat, Int.reducePow, Nat.reducePow, Int.reduceLE, Int.reduceLT, Nat.reduceLT, and_self, Nat.reduceLeDiff, Int.reduceNeg, Int.reduceAdd, Int.reduceSub, Int.reduceMul, Int.cast_ofNat_Int, lvl_s]
          exact ⟨_, CLe.refl _, fin x (hm _) rfl⟩
        | some b =>
          try simp only [w_Gu_less, hc, gx_fld, gf_1, gf_2, gf_3, gf_n, gp_1, oD, hlt, sRaise, sTry, wIsX, wWhat, wBack, lo_lst, e_mulV, sizeL, sNil, sSeq, sPass, sBrk, sCont, sExpr, sRet, sRetN, sIf, sNever, sSet, sAug, gNm, gTp, gNil', gCons', gSb, sAsg, sPar, sFor, wVar_z, wVar_s, wC, wChn, wTru, sPar3, wRev, wCallK, permF, List.filterMap_cons, List.filterMap_nil, wBin, wUn, wTst, wNot, wAnd, wOr, wAndV, wOrV, wNotV, wIf, wNil, wCons, wTup, wLst, wLstL, wFz, wCall, wBi, wMt, wMt0, wSl, wSlL, wPart, wNoPart, wYes, wSeq, wRg1, wRg2, wEnum, wZip, wLc, wLcL, wLRg, wFld, sFldS, sFldA, gFld, wMeth, wMake, lvl2_s, onB, e_eqI, e_neI, e_eqB, e_neB, e_eqS, e_neS, e_eqN, e_tyLT, e_ty1, isTys, tyMem, tyN_non, tyN_bl, tyN_int, tyN_str, tyN_tup, tyN_lst, Bool.true_or, Bool.or_true, Bool.or_false, Bool.false_or, Bool.not_true, Bool.not_false, inn_non, inn_bl, inn_int, inn_str, inn_tup, inn_lst, inn_ptr, e_slT, e_slL, e_slN, isT_P, isT_L, isT_T, isT_N, e_sub, e_fdiv, e_mod, e_pow, e_lt, e_le, e_gt, e_ge, e_neg, e_add, e_addS, e_addT, e_addL, e_addPP, e_addPL, e_addLP, e_mul, e_mulL, e_mulT, e_augI, e_ixT, e_ixL, e_ixN, e_ixP, e_lenT, e_lenL, e_lenN, e_lenS, e_lenP, e_abs, e_intI, e_intB, e_max, e_min, e_tupL, e_tupT, e_listL, e_listT, e_listN, e_listLL, e_listLT, e_divmod, e_isNon, e_isntNon, e_isB, e_isntB, e_setIx, e_insert, e_append, e_isL, e_isLL, e_seqP, e_seqL, e_seqT, e_seqN, it_lst, it_fz, Option.bind_some, Option.isSome_some, ix10, ix20, ix21, ix30, ix32, dl1, dl2, dl3, List.eraseIdx_cons_zero, e_pop0, e_popAt, e_rev, e_clear, e_tupP, e_listP, e_neN, e_neIN, e_neNI, e_eqIN, e_eqNI, at0, at1, at2, at3, Cell.lst.injEq, Cell.obj.injEq, Option.some.injEq, exists_eq_left', decide_eq_true_eq, true_and, and_true, cup_same, cup_cup, wZipS, wZipB, List.flatten_nil, List.flatten_cons, enOf, endOf, excOf, List.map_cons, List.map_nil, List.length_cons, List.length_nil, List.replicate, Nat.reduceAdd, Nat.reduceSub, List.cons_append, List.nil_append, List.set_cons_zero, List.set_cons_succ, List.getElem?_cons_zero, List.getElem?_cons_succ, List.getElem_cons_zero, List.getElem_cons_succ, reduceCtorEq, if_true, if_false, Bool.false_eq_true, decide_true, decide_false, ne_eq, not_true, not_false_eq_true, Int.reduceEq, Nat.reduceMul, true_imp_iff, Int.reduceToNat, Int.reducePow, Nat.reducePow, Int.reduceLE, Int.reduceLT, Nat.reduceLT, and_self, Nat.reduceLeDiff, Int.reduceNeg, Int.reduceAdd, Int.reduceSub, Int.reduceMul, Int.cast_ofNat_Int, lvl_s]
          exact ⟨_, CLe.refl _, fin2 x b (hm _) rfl⟩
      · have hm : ∀ b, leastG (some a, b, none) x = some a := fun b => by unfold leastG; simp [hlt]
        cases b with
        | none =>
          try simp only [w_Gu_less, hc, gx_fld, gf_1, gf_2, gf_3, gf_n, gp_1, oD, hlt, sRaise, sTry, wIsX, wWhat, wBack, lo_lst, e_mulV, sizeL, sNil, sSeq, sPass, sBrk, sCont, sExpr, sRet, sRetN, sIf, sNever, sSet, sAug, gNm, gTp, gNil', gCons', gSb, sAsg, sPar, sFor, wVar_z, wVar_s, wC, wChn, wTru, sPar3, wRev, wCallK, permF, List.filterMap_cons, List.filterMap_nil, wBin, wUn, wTst, wNot, wAnd, wOr, wAndV, wOrV, wNotV, wIf, wNil, wCons, wTup, wLst, wLstL, wFz, wCall, wBi, wMt, wMt0, wSl, wSlL, wPart, wNoPart, wYes, wSeq, wRg1, wRg2, wEnum, wZip, wLc, wLcL, wLRg, wFld, sFldS, sFldA, gFld, wMeth, wMake, lvl2_s, onB, e_eqI, e_neI, e_eqB, e_neB, e_eqS, e_neS, e_eqN, e_tyLT, e_ty1, isTys, tyMem, tyN_non, tyN_bl, tyN_int, tyN_str, tyN_tup, tyN_lst, Bool.true_or, Bool.or_true, Bool.or_false, Bool.false_or, Bool.not_true, Bool.not_false, inn_non, inn_bl, inn_int, inn_str, inn_tup, inn_lst, inn_ptr, e_slT, e_slL, e_slN, isT_P, isT_L, isT_T, isT_N, e_sub, e_fdiv, e_mod, e_pow, e_lt, e_le, e_gt, e_ge, e_neg, e_add, e_addS, e_addT, e_addL, e_addPP, e_addPL, e_addLP, e_mul, e_mulL, e_mulT, e_augI, e_ixT, e_ixL, e_ixN, e_ixP, e_lenT, e_lenL, e_lenN, e_lenS, e_lenP, e_abs, e_intI, e_intB, e_max, e_min, e_tupL, e_tupT, e_listL, e_listT, e_listN, e_listLL, e_listLT, e_divmod, e_isNon, e_isntNon, e_isB, e_isntB, e_setIx, e_insert, e_append, e_isL, e_isLL, e_seqP, e_seqL, e_seqT, e_seqN, it_lst, it_fz, Option.bind_some, Option.isSome_some, ix10, ix20, ix21, ix30, ix32, dl1, dl2, dl3, List.eraseIdx_cons_zero, e_pop0, e_popAt, e_rev, e_clear, e_tupP, e_listP, e_neN, e_neIN, e_neNI, e_eqIN, e_eqNI, at0, at1, at2, at3, Cell.lst.injEq, Cell.obj.injEq, Option.some.injEq, exists_eq_left', decide_eq_true_eq, true_and, and_true, cup_same, cup_cup, wZipS, wZipB, List.flatten_nil, List.flatten_cons, enOf, endOf, excOf, List.map_cons, List.map_nil, List.length_cons, List.length_nil, List.replicate, Nat.reduceAdd, Nat.reduceSub, List.cons_append, List.nil_append, List.set_cons_zero, List.set_cons_succ, List.getElem?_cons_zero, List.getElem?_cons_succ, List.getElem_cons_zero, List.getElem_cons_succ, reduceCtorEq, if_true, if_false, Bool.false_eq_true, decide_true, decide_false, ne_eq, not_true, not_false_eq_true, Int.reduceEq, Nat.reduceMul, true_imp_iff, Int.reduceToNat, Int.reducePow, Nat.reducePow, Int.reduceLE, Int.reduceLT, Nat.reduceLT, and_self, Nat.reduceLeDiff, Int.reduceNeg, Int.reduceAdd, Int.reduceSub, Int.reduceMul, Int.cast_ofNat_Int, lvl_s]
          have := fin a (hm _) rfl
          rw [cupG_self hc] at this
          exact ⟨_, CLe.refl _, this⟩
        | some b =>
          try simp only [w_Gu_less, hc, gx_fld, gf_1, gf_2, gf_3, gf_n, gp_1, oD, hlt, sRaise, sTry, wIsX, wWhat, wBack, lo_lst, e_mulV, sizeL, sNil, sSeq, sPass, sBrk, sCont, sExpr, sRet, sRetN, sIf, sNever, sSet, sAug, gNm, gTp, gNil', gCons', gSb, sAsg, sPar, sFor, wVar_z, wVar_s, wC, wChn, wTru, sPar3, wRev, wCallK, permF, List.filterMap_cons, List.filterMap_nil, wBin, wUn, wTst, wNot, wAnd, wOr, wAndV, wOrV, wNotV, wIf, wNil, wCons, wTup, wLst, wLstL, wFz, wCall, wBi, wMt, wMt0, wSl, wSlL, wPart, wNoPart, wYes, wSeq, wRg1, wRg2, wEnum, wZip, wLc, wLcL, wLRg, wFld, sFldS, sFldA, gFld, wMeth, wMake, lvl2_s, onB, e_eqI, e_neI, e_eqB, e_neB, e_eqS, e_neS, e_eqN, e_tyLT, e_ty1, isTys, tyMem, tyN_non, tyN_bl, tyN_int, tyN_str, tyN_tup, tyN_lst, Bool.true_or, Bool.or_true, Bool.or_false, Bool.false_or, Bool.not_true, Bool.not_false, inn_non, inn_bl, inn_int, inn_str, inn_tup, inn_lst, inn_ptr, e_slT, e_slL, e_slN, isT_P, isT_L, isT_T, isT_N, e_sub, e_fdiv, e_mod, e_pow, e_lt, e_le, e_gt, e_ge, e_neg, e_add, e_addS, e_addT, e_addL, e_addPP, e_addPL, e_addLP, e_mul, e_mulL, e_mulT, e_augI, e_ixT, e_ixL, e_ixN, e_ixP, e_lenT, e_lenL, e_lenN, e_lenS, e_lenP, e_abs, e_intI, e_intB, e_max, e_min, e_tupL, e_tupT, e_listL, e_listT, e_listN, e_listLL, e_listLT, e_divmod, e_isNon, e_isntNon, e_isB, e_isntB, e_setIx, e_insert, e_append, e_isL, e_isLL, e_seqP, e_seqL, e_seqT, e_seqN, it_lst, it_fz, Option.bind_some, Option.isSome_some, ix10, ix20, ix21, ix30, ix32, dl1, dl2, dl3, List.eraseIdx_cons_zero, e_pop0, e_popAt, e_rev, e_clear, e_tupP, e_listP, e_neN, e_neIN, e_neNI, e_eqIN, e_eqNI, at0, at1, at2, at3, Cell.lst.injEq, Cell.obj.injEq, Option.some.injEq, exists_eq_left', decide_eq_true_eq, true_and, and_true, cup_same, cup_cup, wZipS, wZipB, List.flatten_nil, List.flatten_cons, enOf, endOf, excOf, List.map_cons, List.map_nil, List.length_cons, List.length_nil, List.replicate, Nat.reduceAdd, Nat.reduceSub, List.cons_append, List.nil_append, List.set_cons_zero, List.set_cons_succ, List.getElem?_cons_zero, List.getElem?_cons_succ, List.getElem_cons_zero, List.getElem_cons_succ, reduceCtorEq, if_true, if_false, Bool.false_eq_true, decide_true, decide_false, ne_eq, not_true, not_false_eq_true, Int.reduceEq, Nat.reduceMul, true_imp_iff, Int.reduceToNat, Int.reducePow, Nat.reducePow, Int.reduceLE, Int.reduceLT, Nat.reduceLT, and_self, Nat.reduceLeDiff, Int.reduceNeg, Int.reduceAdd, Int.reduceSub, Int.reduceMul, Int.cast_ofNat_Int, lvl_s]
          have := fin2 a b (hm _) rfl
          rw [cupG_self hc] at this
          exact ⟨_, CLe.refl _, this⟩
def c_Gu_met (C : Addr) (k : Nat) : Ctr := fun ds c Q _ => ∃ (p : Addr) (g : Gu) (x y : Int), ds = [.ptr p, .int x, .int y] ∧ c p = some (.obj C (guF g)) ∧ AnsG C p c Q (metGu g x y) ∧ 1 ≤ k
def w_Gu_met (C_Guess : Addr) (k : Nat) : WS := (sSeq (sSet 3 (wAndV (wMeth C_Guess "no_more" 2 (c_Gu_more C_Guess) k (wVar 0) (wCons (wVar 1) wNil)) (wMeth C_Guess "no_less" 2 (c_Gu_less C_Guess) k (wVar 0) (wCons (wVar 1) wNil)))) (sSeq (sFldS C_Guess "own_now" (wVar 0) (wVar 2)) (sRet (wVar 3))))
theorem p_Gu_met (C_Guess : Addr) (k : Nat) (ds : List D) (c : Cs) (Q : DK) (X0 : XK0) (hlen0 : ds.length = 3) (h : c_Gu_met C_Guess k ds c Q X0) : w_Gu_met C_Guess k (endOf Q) (excOf X0) (enOf 4 ds) c := by
  obtain ⟨p, g, x, y, rfl, hc, q, hk⟩ := h
  obtain ⟨k, rfl⟩ : ∃ k', k = k' + 1 := ⟨k - 1, by omega⟩
  refine seq_gen fun D1 r1 _ _ n1 => ?_
  have nxt : ∀ (b : Bool) (g1 : Gu), Q (.bl b) (cup c p (.obj C_Guess (guF (g1.1, g1.2.1, some y)))) → D1.nx [some (.ptr p), some (.int x), some (.int y), some (.bl b)] (cup c p (.obj C_Guess (guF g1))) := fun b g1 hq => by
    refine n1 _ _ ?_
    try simp only [cup_same, gf_n, gp_3, sRaise, sTry, wIsX, wWhat, wBack, lo_lst, e_mulV, sizeL, sNil, sSeq, sPass, sBrk, sCont, sExpr, sRet, sRetN, sIf, sNever, sSet, sAug, gNm, gTp, gNil', gCons', gSb, sAsg, sPar, sFor, wVar_z, wVar_s, wC, wChn, wTru, sPar3, wRev, wCallK, permF, List.filterMap_cons, List.filterMap_nil, wBin, wUn, wTst, wNot, wAnd, wOr, wAndV, wOrV, wNotV, wIf, wNil, wCons, wTup, wLst, wLstL, wFz, wCall, wBi, wMt, wMt0, wSl, wSlL, wPart, wNoPart, wYes, wSeq, wRg1, wRg2, wEnum, wZip, wLc, wLcL, wLRg, wFld, sFldS, sFldA, gFld, wMeth, wMake, lvl2_s, onB, e_eqI, e_neI, e_eqB, e_neB, e_eqS, e_neS, e_eqN, e_tyLT, e_ty1, isTys, tyMem, tyN_non, tyN_bl, tyN_int, tyN_str, tyN_tup, tyN_lst, Bool.true_or, Bool.or_true, Bool.or_false, Bool.false_or, Bool.not_true, Bool.not_false, inn_non, inn_bl, inn_int, inn_str, inn_tup, inn_lst, inn_ptr, e_slT, e_slL, e_slN, isT_P, isT_L, isT_T, isT_N, e_sub, e_fdiv, e_mod, e_pow, e_lt, e_le, e_gt, e_ge, e_neg, e_add, e_addS, e_addT, e_addL, e_addPP, e_addPL, e_addLP, e_mul, e_mulL, e_mulT, e_augI, e_ixT, e_ixL, e_ixN, e_ixP, e_lenT, e_lenL, e_lenN, e_lenS, e_lenP, e_abs, e_intI, e_intB, e_max, e_min, e_tupL, e_tupT, e_listL, e_listT, e_listN, e_listLL, e_listLT, e_divmod, e_isNon, e_isntNon, e_isB, e_isntB, e_setIx, e_insert, e_append, e_isL, e_isLL, e_seqP, e_seqL, e_seqT, e_seqN, it_lst, it_fz, Option.bind_some, Option.isSome_some, ix10, ix20, ix21, ix30, ix32, dl1, dl2, dl3, List.eraseIdx_cons_zero, e_pop0, e_popAt, e_rev, e_clear, e_tupP, e_listP, e_neN, e_neIN, e_neNI, e_eqIN, e_eqNI, at0, at1, at2, at3, Cell.lst.injEq, Cell.obj.injEq, Option.some.injEq, exists_eq_left', decide_eq_true_eq, true_and, and_true, cup_same, cup_cup, wZipS, wZipB, List.flatten_nil, List.flatten_cons, enOf, endOf, excOf, List.map_cons, List.map_nil, List.length_cons, List.length_nil, List.replicate, Nat.reduceAdd, Nat.reduceSub, List.cons_append, List.nil_append, List.set_cons_zero, List.set_cons_succ, List.getElem?_cons_zero, List.getElem?_cons_succ, List.getElem_cons_zero, List.getElem_cons_succ, reduceCtorEq, if_true, if_false, Bool.false_eq_true, decide_true, decide_false, ne_eq, not_true, not_false_eq_true, Int.reduceEq, Nat.reduceMul, true_imp_iff, Int.reduceToNat, Int.reducePow, Nat.reducePow, Int.reduceLE, Int.reduceLT, Nat.reduceLT, and_self, Nat.reduceLeDiff, Int.reduceNeg, Int.reduceAdd, Int.reduceSub, Int.reduceMul, Int.cast_ofNat_Int, lvl_s]
    exact ⟨_, CLe.refl _, hq⟩
  try simp only [w_Gu_met, hc, gf_4, gf_5, sRaise, sTry, wIsX, wWhat, wBack, lo_lst, e_mulV, sizeL, sNil, sSeq, sPass, sBrk, sCont, sExpr, sRet, sRetN, sIf, sNever, sSet, sAug, gNm, gTp, gNil', gCons', gSb, sAsg, sPar, sFor, wVar_z, wVar_s, wC, wChn, wTru, sPar3, wRev, wCallK, permF, List.filterMap_cons, List.filterMap_nil, wBin, wUn, wTst, wNot, wAnd, wOr, wAndV, wOrV, wNotV, wIf, wNil, wCons, wTup, wLst, wLstL, wFz, wCall, wBi, wMt, wMt0, wSl, wSlL, wPart, wNoPart, wYes, wSeq, wRg1, wRg2, wEnum, wZip, wLc, wLcL, wLRg, wFld, sFldS, sFldA, gFld, wMeth, wMake, lvl2_s, onB, e_eqI, e_neI, e_eqB, e_neB, e_eqS, e_neS, e_eqN, e_tyLT, e_ty1, isTys, tyMem, tyN_non, tyN_bl, tyN_int, tyN_str, tyN_tup, tyN_lst, Bool.true_or, Bool.or_true, Bool.or_false, Bool.false_or, Bool.not_true, Bool.not_false, inn_non, inn_bl, inn_int, inn_str, inn_tup, inn_lst, inn_ptr, e_slT, e_slL, e_slN, isT_P, isT_L, isT_T, isT_N, e_sub, e_fdiv, e_mod, e_pow, e_lt, e_le, e_gt, e_ge, e_neg, e_add, e_addS, e_addT, e_addL, e_addPP, e_addPL, e_addLP, e_mul, e_mulL, e_mulT, e_augI, e_ixT, e_ixL, e_ixN, e_ixP, e_lenT, e_lenL, e_lenN, e_lenS, e_lenP, e_abs, e_intI, e_intB, e_max, e_min, e_tupL, e_tupT, e_listL, e_listT, e_listN, e_listLL, e_listLT, e_divmod, e_isNon, e_isntNon, e_isB, e_isntB, e_setIx, e_insert, e_append, e_isL, e_isLL, e_seqP, e_seqL, e_seqT, e_seqN, it_lst, it_fz, Option.bind_some, Option.isSome_some, ix10, ix20, ix21, ix30, ix32, dl1, dl2, dl3, List.eraseIdx_cons_zero, e_pop0, e_popAt, e_rev, e_clear, e_tupP, e_listP, e_neN, e_neIN, e_neNI, e_eqIN, e_eqNI, at0, at1, at2, at3, Cell.lst.injEq, Cell.obj.injEq, Option.some.injEq, exists_eq_left', decide_eq_true_eq, true_and, and_true, cup_same, cup_cup, wZipS, wZipB, List.flatten_nil, List.flatten_cons, enOf, endOf, excOf, List.map_cons, List.map_nil, List.length_cons, List.length_nil, List.replicate, Nat.reduceAdd, Nat.reduceSub, List.cons_append, List.nil_append, List.set_cons_zero, List.set_cons_succ, List.getElem?_cons_zero, List.getElem?_cons_succ, List.getElem_cons_zero, List.getElem_cons_succ, reduceCtorEq, if_true, if_false, Bool.false_eq_true, decide_true, decide_false, ne_eq, not_true, not_false_eq_true, Int.reduceEq, Nat.reduceMul, true_imp_iff, Int.reduceToNat, Int.reducePow, Nat.reducePow, Int.reduceLE, Int.reduceLT, Nat.reduceLT, and_self, Nat.reduceLeDiff, Int.reduceNeg, Int.reduceAdd, Int.reduceSub, Int.reduceMul, Int.cast_ofNat_Int, lvl_s]
  refine ⟨p, g, x, rfl, hc, fun g1 e1 => ?_, fun e1 g1 => ?_⟩
  · try simp only [cup_same, gf_5, sRaise, sTry, wIsX, wWhat, wBack, lo_lst, e_mulV, sizeL, sNil, sSeq, sPass, sBrk, sCont, sExpr, sRet, sRetN, sIf, sNever, sSet, sAug, gNm, gTp, gNil', gCons', gSb, sAsg, sPar, sFor, wVar_z, wVar_s, wC, wChn, wTru, sPar3, wRev, wCallK, permF, List.filterMap_cons, List.filterMap_nil, wBin, wUn, wTst, wNot, wAnd, wOr, wAndV, wOrV, wNotV, wIf, wNil, wCons, wTup, wLst, wLstL, wFz, wCall, wBi, wMt, wMt0, wSl, wSlL, wPart, wNoPart, wYes, wSeq, wRg1, wRg2, wEnum, wZip, wLc, wLcL, wLRg, wFld, sFldS, sFldA, gFld, wMeth, wMake, lvl2_s, onB, e_eqI, e_neI, e_eqB, e_neB, e_eqS, e_neS, e_eqN, e_tyLT, e_ty1, isTys, tyMem, tyN_non, tyN_bl, tyN_int, tyN_str, tyN_tup, tyN_lst, Bool.true_or, Bool.or_true, Bool.or_false, Bool.false_or, Bool.not_true, Bool.not_false, inn_non, inn_bl, inn_int, inn_str, inn_tup, inn_lst, inn_ptr, e_slT, e_slL, e_slN, isT_P, isT_L, isT_T, isT_N, e_sub, e_fdiv, e_mod, e_pow, e_lt, e_le, e_gt, e_ge, e_neg, e_add, e_addS, e_addT, e_addL, e_addPP, e_addPL, e_addLP, e_mul, e_mulL, e_mulT, e_augI, e_ixT, e_ixL, e_ixN, e_ixP, e_lenT, e_lenL, e_lenN, e_lenS, e_lenP, e_abs, e_intI, e_intB, e_max, e_min, e_tupL, e_tupT, e_listL, e_listT, e_listN, e_listLL, e_listLT, e_divmod, e_isNon, e_isntNon, e_isB, e_isntB, e_setIx, e_insert, e_append, e_isL, e_isLL, e_seqP, e_seqL, e_seqT, e_seqN, it_lst, it_fz, Option.bind_some, Option.isSome_some, ix10, ix20, ix21, ix30, ix32, dl1, dl2, dl3, List.eraseIdx_cons_zero, e_pop0, e_popAt, e_rev, e_clear, e_tupP, e_listP, e_neN, e_neIN, e_neNI, e_eqIN, e_eqNI, at0, at1, at2, at3, Cell.lst.injEq, Cell.obj.injEq, Option.some.injEq, exists_eq_left', decide_eq_true_eq, true_and, and_true, cup_same, cup_cup, wZipS, wZipB, List.flatten_nil, List.flatten_cons, enOf, endOf, excOf, List.map_cons, List.map_nil, List.length_cons, List.length_nil, List.replicate, Nat.reduceAdd, Nat.reduceSub, List.cons_append, List.nil_append, List.set_cons_zero, List.set_cons_succ, List.getElem?_cons_zero, List.getElem?_cons_succ, List.getElem_cons_zero, List.getElem_cons_succ, reduceCtorEq, if_true, if_false, Bool.false_eq_true, decide_true, decide_false, ne_eq, not_true, not_false_eq_true, Int.reduceEq, Nat.reduceMul, true_imp_iff, Int.reduceToNat, Int.reducePow, Nat.reducePow, Int.reduceLE, Int.reduceLT, Nat.reduceLT, and_self, Nat.reduceLeDiff, Int.reduceNeg, Int.reduceAdd, Int.reduceSub, Int.reduceMul, Int.cast_ofNat_Int, lvl_s]
    refine ⟨p, g1, x, rfl, cup_same, fun g2 e2 => ?_, fun e2 g2 => ?_⟩
    · rw [cup_cup]
      refine nxt true g2 (q.yes ?_)
      unfold metGu
      rw [e1]
      simp only
      rw [e2]
    · rw [cup_cup]
      refine nxt false g2 (q.no ?_ _)
      unfold metGu
      rw [e1]
      simp only
      rw [e2]
  · try simp only [cup_same, sRaise, sTry, wIsX, wWhat, wBack, lo_lst, e_mulV, sizeL, sNil, sSeq, sPass, sBrk, sCont, sExpr, sRet, sRetN, sIf, sNever, sSet, sAug, gNm, gTp, gNil', gCons', gSb, sAsg, sPar, sFor, wVar_z, wVar_s, wC, wChn, wTru, sPar3, wRev, wCallK, permF, List.filterMap_cons, List.filterMap_nil, wBin, wUn, wTst, wNot, wAnd, wOr, wAndV, wOrV, wNotV, wIf, wNil, wCons, wTup, wLst, wLstL, wFz, wCall, wBi, wMt, wMt0, wSl, wSlL, wPart, wNoPart, wYes, wSeq, wRg1, wRg2, wEnum, wZip, wLc, wLcL, wLRg, wFld, sFldS, sFldA, gFld, wMeth, wMake, lvl2_s, onB, e_eqI, e_neI, e_eqB, e_neB, e_eqS, e_neS, e_eqN, e_tyLT, e_ty1, isTys, tyMem, tyN_non, tyN_bl, tyN_int, tyN_str, tyN_tup, tyN_lst, Bool.true_or, Bool.or_true, Bool.or_false, Bool.false_or, Bool.not_true, Bool.not_false, inn_non, inn_bl, inn_int, inn_str, inn_tup, inn_lst, inn_ptr, e_slT, e_slL, e_slN, isT_P, isT_L, isT_T, isT_N, e_sub, e_fdiv, e_mod, e_pow, e_lt, e_le, e_gt, e_ge, e_neg, e_add, e_addS, e_addT, e_addL, e_addPP, e_addPL, e_addLP, e_mul, e_mulL, e_mulT, e_augI, e_ixT, e_ixL, e_ixN, e_ixP, e_lenT, e_lenL, e_lenN, e_lenS, e_lenP, e_abs, e_intI, e_intB, e_max, e_min, e_tupL, e_tupT, e_listL, e_listT, e_listN, e_listLL, e_listLT, e_divmod, e_isNon, e_isntNon, e_isB, e_isntB, e_setIx, e_insert, e_append, e_isL, e_isLL, e_seqP, e_seqL, e_seqT, e_seqN, it_lst, it_fz, Option.bind_some, Option.isSome_some, ix10, ix20, ix21, ix30, ix32, dl1, dl2, dl3, List.eraseIdx_cons_zero, e_pop0, e_popAt, e_rev, e_clear, e_tupP, e_listP, e_neN, e_neIN, e_neNI, e_eqIN, e_eqNI, at0, at1, at2, at3, Cell.lst.injEq, Cell.obj.injEq, Option.some.injEq, exists_eq_left', decide_eq_true_eq, true_and, and_true, cup_same, cup_cup, wZipS, wZipB, List.flatten_nil, List.flatten_cons, enOf, endOf, excOf, List.map_cons, List.map_nil, List.length_cons, List.length_nil, List.replicate, Nat.reduceAdd, Nat.reduceSub, List.cons_append, List.nil_append, List.set_cons_zero, List.set_cons_succ, List.getElem?_cons_zero, List.getElem?_cons_succ, List.getElem_cons_zero, List.getElem_cons_succ, reduceCtorEq, if_true, if_false, Bool.false_eq_true, decide_true, decide_false, ne_eq, not_true, not_false_eq_true, Int.reduceEq, Nat.reduceMul, true_imp_iff, Int.reduceToNat, Int.reducePow, Nat.reducePow, Int.reduceLE, Int.reduceLT, Nat.reduceLT, and_self, Nat.reduceLeDiff, Int.reduceNeg, Int.reduceAdd, Int.reduceSub, Int.reduceMul, Int.cast_ofNat_Int, lvl_s]
    refine nxt false g1 (q.no ?_ _)
    unfold metGu
    rw [e1]
def c_Gu_stretch (C : Addr) (k : Nat) : Ctr := fun ds c Q _ => ∃ (p : Addr) (g : Gu), ds = [.ptr p] ∧ c p = some (.obj C (guF g)) ∧ Q (.tup [oD g.1, oD g.2.1]) c
def w_Gu_stretch (C_Guess : Addr) (k : Nat) : WS := (sRet (wTup (wCons (wFld C_Guess "own_least" (wVar 0)) (wCons (wFld C_Guess "own_most" (wVar 0)) wNil))))
theorem p_Gu_stretch (C_Guess : Addr) (k : Nat) (ds : List D) (c : Cs) (Q : DK) (X0 : XK0) (hlen0 : ds.length = 1) (h : c_Gu_stretch C_Guess k ds c Q X0) : w_Gu_stretch C_Guess k (endOf Q) (excOf X0) (enOf 1 ds) c := by
  obtain ⟨p, g, rfl, hc, q⟩ := h
  try simp only [w_Gu_stretch, hc, gx_fld, gf_1, gf_2, gf_n, sRaise, sTry, wIsX, wWhat, wBack, lo_lst, e_mulV, sizeL, sNil, sSeq, sPass, sBrk, sCont, sExpr, sRet, sRetN, sIf, sNever, sSet, sAug, gNm, gTp, gNil', gCons', gSb, sAsg, sPar, sFor, wVar_z, wVar_s, wC, wChn, wTru, sPar3, wRev, wCallK, permF, List.filterMap_cons, List.filterMap_nil, wBin, wUn, wTst, wNot, wAnd, wOr, wAndV, wOrV, wNotV, wIf, wNil, wCons, wTup, wLst, wLstL, wFz, wCall, wBi, wMt, wMt0, wSl, wSlL, wPart, wNoPart, wYes, wSeq, wRg1, wRg2, wEnum, wZip, wLc, wLcL, wLRg, wFld, sFldS, sFldA, gFld, wMeth, wMake, lvl2_s, onB, e_eqI, e_neI, e_eqB, e_neB, e_eqS, e_neS, e_eqN, e_tyLT, e_ty1, isTys, tyMem, tyN_non, tyN_bl, tyN_int, tyN_str, tyN_tup, tyN_lst, Bool.true_or, Bool.or_true, Bool.or_false, Bool.false_or, Bool.not_true, Bool.not_false, inn_non, inn_bl, inn_int, inn_str, inn_tup, inn_lst, inn_ptr, e_slT, e_slL, e_slN, isT_P, isT_L, isT_T, isT_N, e_sub, e_fdiv, e_mod, e_pow, e_lt, e_le, e_gt, e_ge, e_neg, e_add, e_addS, e_addT, e_addL, e_addPP, e_addPL, e_addLP, e_mul, e_mulL, e_mulT, e_augI, e_ixT, e_ixL, e_ixN, e_ixP, e_lenT, e_lenL, e_lenN, e_lenS, e_lenP, e_abs, e_intI, e_intB, e_max, e_min, e_tupL, e_tupT, e_listL, e_listT, e_listN, e_listLL, e_listLT, e_divmod, e_isNon, e_isntNon, e_isB, e_isntB, e_setIx, e_insert, e_append, e_isL, e_isLL, e_seqP, e_seqL, e_seqT, e_seqN, it_lst, it_fz, Option.bind_some, Option.isSome_some, ix10, ix20, ix21, ix30, ix32, dl1, dl2, dl3, List.eraseIdx_cons_zero, e_pop0, e_popAt, e_rev, e_clear, e_tupP, e_listP, e_neN, e_neIN, e_neNI, e_eqIN, e_eqNI, at0, at1, at2, at3, Cell.lst.injEq, Cell.obj.injEq, Option.some.injEq, exists_eq_left', decide_eq_true_eq, true_and, and_true, cup_same, cup_cup, wZipS, wZipB, List.flatten_nil, List.flatten_cons, enOf, endOf, excOf, List.map_cons, List.map_nil, List.length_cons, List.length_nil, List.replicate, Nat.reduceAdd, Nat.reduceSub, List.cons_append, List.nil_append, List.set_cons_zero, List.set_cons_succ, List.getElem?_cons_zero, List.getElem?_cons_succ, List.getElem_cons_zero, List.getElem_cons_succ, reduceCtorEq, if_true, if_false, Bool.false_eq_true, decide_true, decide_false, ne_eq, not_true, not_false_eq_true, Int.reduceEq, Nat.reduceMul, true_imp_iff, Int.reduceToNat, Int.reducePow, Nat.reducePow, Int.reduceLE, Int.reduceLT, Nat.reduceLT, and_self, Nat.reduceLeDiff, Int.reduceNeg, Int.reduceAdd, Int.reduceSub, Int.reduceMul, Int.cast_ofNat_Int, lvl_s]
  exact ⟨_, CLe.refl _, q⟩
end VL
set_option maxHeartbeats 1000000
namespace VL
open PySem PySem.Spec PyProof.Rows L2
def ptO : Option Gu → Addr → D
  | none, _ => .non
  | some _, p => .ptr p
structure AtG (C p1 p2 : Addr) (s : Gus) (c : Cs) : Prop where
  low : ∀ g, s.1 = some g → c p1 = some (.obj C (guF g))
  high : ∀ g, s.2 = some g → c p2 = some (.obj C (guF g))
/-- nothing but these two places is otherwise -/
def Kp (p1 p2 : Addr) (c c' : Cs) : Prop := ∀ q, q ≠ p1 → q ≠ p2 → c' q = c q
theorem Kp.refl (p1 p2 : Addr) (c : Cs) : Kp p1 p2 c c := fun _ _ _ => rfl
theorem Kp.trans {p1 p2 : Addr} {c c' c'' : Cs} (h : Kp p1 p2 c c') (g : Kp p1 p2 c' c'') : Kp p1 p2 c c'' := fun q h1 h2 => (g q h1 h2).trans (h q h1 h2)
theorem Kp.put1 {p1 p2 : Addr} {c c' : Cs} {x : Cell} (h : Kp p1 p2 c c') : Kp p1 p2 c (cup c' p1 x) := fun q h1 h2 => by rw [cup_ne h1]; exact h q h1 h2
theorem Kp.put2 {p1 p2 : Addr} {c c' : Cs} {x : Cell} (h : Kp p1 p2 c c') : Kp p1 p2 c (cup c' p2 x) := fun q h1 h2 => by rw [cup_ne h2]; exact h q h1 h2
theorem opt_some {f : Gu → Option Gu} {a : Option Gu} {g : Gu} (h : optG f a = some (some g)) : ∃ ga, a = some ga := by
  cases a with
  | none => cases h
  | some ga => exact ⟨ga, rfl⟩
def c_is_heard (C : Addr) (k : Nat) : Ctr := fun ds c Q _ => ∃ (p1 p2 : Addr) (s : Gus) (x o : Int), ds = [ptO s.1 p1, ptO s.2 p2, .int x, .int o] ∧ (∀ ga gb, s.1 = some ga → s.2 = some gb → p1 ≠ p2) ∧ AtG C p1 p2 s c ∧ 2 ≤ k ∧
  (∀ s' c', heardG s x o = some s' → AtG C p1 p2 s' c' → Kp p1 p2 c c' → Q (.bl true) c') ∧ (heardG s x o = none → ∀ c', Kp p1 p2 c c' → Q (.bl false) c')
def w_is_heard (C_Guess : Addr) (k : Nat) : WS := (sSeq (sIf (wTst (wBin oEq (wVar 3) (wVar 2))) (sRet (wAndV (wOrV (wBin oIs (wVar 0) (wC .non)) (wMeth C_Guess "no_more" 2 (c_Gu_more C_Guess) k (wVar 0) (wCons (wVar 2) wNil))) (wOrV (wBin oIs (wVar 1) (wC .non)) (wMeth C_Guess "no_less" 2 (c_Gu_less C_Guess) k (wVar 1) (wCons (wVar 2) wNil))))) sNil) (sSeq (sIf (wTst (wBin oGt (wVar 3) (wVar 2))) (sRet (wAndV (wBin oIsNot (wVar 0) (wC .non)) (wAndV (wOrV (wBin oIs (wVar 1) (wC .non)) (wMeth C_Guess "no_less" 2 (c_Gu_less C_Guess) k (wVar 1) (wCons (wVar 3) wNil))) (wMeth C_Guess "met" 3 (c_Gu_met C_Guess) k (wVar 0) (wCons (wVar 3) (wCons (wVar 2) wNil)))))) sNil) (sRet (wAndV (wBin oIsNot (wVar 1) (wC .non)) (wAndV (wOrV (wBin oIs (wVar 0) (wC .non)) (wMeth C_Guess "no_more" 2 (c_Gu_more C_Guess) k (wVar 0) (wCons (wVar 3) wNil))) (wMeth C_Guess "met" 3 (c_Gu_met C_Guess) k (wVar 1) (wCons (wVar 3) (wCons (wVar 2) wNil))))))))
theorem p_is_heard (C_Guess : Addr) (k : Nat) (ds : List D) (c : Cs) (Q : DK) (X0 : XK0) (hlen0 : ds.length = 4) (h : c_is_heard C_Guess k ds c Q X0) : w_is_heard C_Guess k (endOf Q) (excOf X0) (enOf 4 ds) c := by
  obtain ⟨p1, p2, ⟨a, b⟩, x, o, rfl, h12, hat, hk, q1, q2⟩ := h
  obtain ⟨k, rfl⟩ : ∃ k', k = k' + 2 := ⟨k - 2, by omega⟩
  have gn : ∀ {C : Addr} {c : Cs} {p : Addr} {g : Gu}, c p = some (.obj C (guF g)) → True := fun _ => trivial
  by_cases hxo : o = x
  · subst hxo
    have hh : heardG (a, b) o o = match optG (noMoreG · o) a with | none => none | some a => (optG (noLessG · o) b).map fun b => (a, b) := by unfold heardG; exact if_pos rfl
    rw [hh] at q1 q2
    clear hh
    -- the high place, behind what the low one answered
    have tail : ∀ (a' : Option Gu) c1, optG (noMoreG · o) a = some a' → (∀ g, a' = some g → c1 p1 = some (.obj C_Guess (guF g))) → (∀ g, b = some g → c1 p2 = some (.obj C_Guess (guF g))) → Kp p1 p2 c c1 → (∀ g, b = some g → c_Gu_less C_Guess (k + 1) [.ptr p2, .int o] c1 (fun d c' => ∃ c0, CLe c0 c' ∧ Q d c0) (fun n d c3 => ∃ c0, CLe c0 c3 ∧ X0 n d c0)) ∧ (b = none → Q (.bl true) c1) := fun a' c1 e1 h1 h2 kp => by
      rw [e1] at q1 q2
      refine ⟨fun g eb => ?_, fun eb => ?_⟩
      · subst eb
        refine ⟨p2, g, o, rfl, h2 g rfl, fun g' e2 => ⟨_, CLe.refl _, q1 (a', some g') _ (by show (Option.map some (noLessG g o)).map _ = _; rw [e2]; rfl) ⟨fun g0 hg0 => by obtain ⟨ga, ega⟩ := opt_some (e1.trans (congrArg some (show _ = some g0 from hg0))); rw [cup_ne (h12 ga g ega rfl)]; exact h1 g0 hg0, fun g0 hg0 => by cases hg0; exact cup_same⟩ kp.put2⟩, fun e2 g' => ⟨_, CLe.refl _, q2 (by show (Option.map some (noLessG g o)).map _ = _; rw [e2]; rfl) _ kp.put2⟩⟩
      · subst eb
        exact q1 (a', none) _ rfl ⟨h1, fun g0 hg0 => by cases hg0⟩ kp
    cases a with
    | none =>
      obtain ⟨t1, t2⟩ := tail none c rfl (fun g h => by cases h) hat.high (Kp.refl p1 p2 c)
      cases b with
      | none =>
        try simp only [w_is_heard, ptO, sRaise, sTry, wIsX, wWhat, wBack, lo_lst, e_mulV, sizeL, sNil, sSeq, sPass, sBrk, sCont, sExpr, sRet, sRetN, sIf, sNever, sSet, sAug, gNm, gTp, gNil', gCons', gSb, sAsg, sPar, sFor, wVar_z, wVar_s, wC, wChn, wTru, sPar3, wRev, wCallK, permF, List.filterMap_cons, List.filterMap_nil, wBin, wUn, wTst, wNot, wAnd, wOr, wAndV, wOrV, wNotV, wIf, wNil, wCons, wTup, wLst, wLstL, wFz, wCall, wBi, wMt, wMt0, wSl, wSlL, wPart, wNoPart, wYes, wSeq, wRg1, wRg2, wEnum, wZip, wLc, wLcL, wLRg, wFld, sFldS, sFldA, gFld, wMeth, wMake, lvl2_s, onB, e_eqI, e_neI, e_eqB, e_neB, e_eqS, e_neS, e_eqN, e_tyLT, e_ty1, isTys, tyMem, tyN_non, tyN_bl, tyN_int, tyN_str, tyN_tup, tyN_lst, Bool.true_or, Bool.or_true, Bool.or_false, Bool.false_or, Bool.not_true, Bool.not_false, inn_non, inn_bl, inn_int, inn_str, inn_tup, inn_lst, inn_ptr, e_slT, e_slL, e_slN, isT_P, isT_L, isT_T, isT_N, e_sub, e_fdiv, e_mod, e_pow, e_lt, e_le, e_gt, e_ge, e_neg, e_add, e_addS, e_addT, e_addL, e_addPP, e_addPL, e_addLP, e_mul, e_mulL, e_mulT, e_augI, e_ixT, e_ixL, e_ixN, e_ixP, e_lenT, e_lenL, e_lenN, e_lenS, e_lenP, e_abs, e_intI, e_intB, e_max, e_min, e_tupL, e_tupT, e_listL, e_listT, e_listN, e_listLL, e_listLT, e_divmod, e_isNon, e_isntNon, e_isB, e_isntB, e_setIx, e_insert, e_append, e_isL, e_isLL, e_seqP, e_seqL, e_seqT, e_seqN, it_lst, it_fz, Option.bind_some, Option.isSome_some, ix10, ix20, ix21, ix30, ix32, dl1, dl2, dl3, List.eraseIdx_cons_zero, e_pop0, e_popAt, e_rev, e_clear, e_tupP, e_listP, e_neN, e_neIN, e_neNI, e_eqIN, e_eqNI, at0, at1, at2, at3, Cell.lst.injEq, Cell.obj.injEq, Option.some.injEq, exists_eq_left', decide_eq_true_eq, true_and, and_true, cup_same, cup_cup, wZipS, wZipB, List.flatten_nil, List.flatten_cons, enOf, endOf, excOf, List.map_cons, List.map_nil, List.length_cons, List.length_nil, List.replicate, Nat.reduceAdd, Nat.reduceSub, List.cons_append, List.nil_append, List.set_cons_zero, List.set_cons_succ, List.getElem?_cons_zero, List.getElem?_cons_succ, List.getElem_cons_zero, List.getElem_cons_succ, reduceCtorEq, if_true, if_false, Bool.false_eq_true, decide_true, decide_false, ne_eq, not_true, not_false_eq_true, Int.reduceEq, Nat.reduceMul, true_imp_iff, Int.reduceToNat, Int.reducePow, Nat.reducePow, Int.reduceLE, Int.reduceLT, Nat.reduceLT, and_self, Nat.reduceLeDiff, Int.reduceNeg, Int.reduceAdd, Int.reduceSub, Int.reduceMul, Int.cast_ofNat_Int, lvl_s]
        exact ⟨_, CLe.refl _, t2 rfl⟩
      | some g2 =>
        have h2 := hat.high g2 rfl
        try simp only [w_is_heard, ptO, h2, gf_5, sRaise, sTry, wIsX, wWhat, wBack, lo_lst, e_mulV, sizeL, sNil, sSeq, sPass, sBrk, sCont, sExpr, sRet, sRetN, sIf, sNever, sSet, sAug, gNm, gTp, gNil', gCons', gSb, sAsg, sPar, sFor, wVar_z, wVar_s, wC, wChn, wTru, sPar3, wRev, wCallK, permF, List.filterMap_cons, List.filterMap_nil, wBin, wUn, wTst, wNot, wAnd, wOr, wAndV, wOrV, wNotV, wIf, wNil, wCons, wTup, wLst, wLstL, wFz, wCall, wBi, wMt, wMt0, wSl, wSlL, wPart, wNoPart, wYes, wSeq, wRg1, wRg2, wEnum, wZip, wLc, wLcL, wLRg, wFld, sFldS, sFldA, gFld, wMeth, wMake, lvl2_s, onB, e_eqI, e_neI, e_eqB, e_neB, e_eqS, e_neS, e_eqN, e_tyLT, e_ty1, isTys, tyMem, tyN_non, tyN_bl, tyN_int, tyN_str, tyN_tup, tyN_lst, Bool.true_or, Bool.or_true, Bool.or_false, Bool.false_or, Bool.not_true, Bool.not_false, inn_non, inn_bl, inn_int, inn_str, inn_tup, inn_lst, inn_ptr, e_slT, e_slL, e_slN, isT_P, isT_L, isT_T, isT_N, e_sub, e_fdiv, e_mod, e_pow, e_lt, e_le, e_gt, e_ge, e_neg, e_add, e_addS, e_addT, e_addL, e_addPP, e_addPL, e_addLP, e_mul, e_mulL, e_mulT, e_augI, e_ixT, e_ixL, e_ixN, e_ixP, e_lenT, e_lenL, e_lenN, e_lenS, e_lenP, e_abs, e_intI, e_intB, e_max, e_min, e_tupL, e_tupT, e_listL, e_listT, e_listN, e_listLL, e_listLT, e_divmod, e_isNon, e_isntNon, e_isB, e_isntB, e_setIx, e_insert, e_append, e_isL, e_isLL, e_seqP, e_seqL, e_seqT, e_seqN, it_lst, it_fz, Option.bind_some, Option.isSome_some, ix10, ix20, ix21, ix30, ix32, dl1, dl2, dl3, List.eraseIdx_cons_zero, e_pop0, e_popAt, e_rev, e_clear, e_tupP, e_listP, e_neN, e_neIN, e_neNI, e_eqIN, e_eqNI, at0, at1, at2, at3, Cell.lst.injEq, Cell.obj.injEq, Option.some.injEq, exists_eq_left', decide_eq_true_eq, true_and, and_true, cup_same, cup_cup, wZipS, wZipB, List.flatten_nil, List.flatten_cons, enOf, endOf, excOf, List.map_cons, List.map_nil, List.length_cons, List.length_nil, List.replicate, Nat.reduceAdd, Nat.reduceSub, List.cons_append, List.nil_append, List.set_cons_zero, List.set_cons_succ, List.getElem?_cons_zero, List.getElem?_cons_succ, List.getElem_cons_zero, List.getElem_cons_succ, reduceCtorEq, if_true, if_false, Bool.false_eq_true, decide_true, decide_false, ne_eq, not_true, not_false_eq_true, Int.reduceEq, Nat.reduceMul, true_imp_iff, Int.reduceToNat, Int.reducePow, Nat.reducePow, Int.reduceLE, Int.reduceLT, Nat.reduceLT, and_self, Nat.reduceLeDiff, Int.reduceNeg, Int.reduceAdd, Int.reduceSub, Int.reduceMul, Int.cast_ofNat_Int, lvl_s]
        exact t1 g2 rfl
    | some g1 =>
      have h1 := hat.low g1 rfl
      try simp only [w_is_heard, ptO, h1, gf_4, sRaise, sTry, wIsX, wWhat, wBack, lo_lst, e_mulV, sizeL, sNil, sSeq, sPass, sBrk, sCont, sExpr, sRet, sRetN, sIf, sNever, sSet, sAug, gNm, gTp, gNil', gCons', gSb, sAsg, sPar, sFor, wVar_z, wVar_s, wC, wChn, wTru, sPar3, wRev, wCallK, permF, List.filterMap_cons, List.filterMap_nil, wBin, wUn, wTst, wNot, wAnd, wOr, wAndV, wOrV, wNotV, wIf, wNil, wCons, wTup, wLst, wLstL, wFz, wCall, wBi, wMt, wMt0, wSl, wSlL, wPart, wNoPart, wYes, wSeq, wRg1, wRg2, wEnum, wZip, wLc, wLcL, wLRg, wFld, sFldS, sFldA, gFld, wMeth, wMake, lvl2_s, onB, e_eqI, e_neI, e_eqB, e_neB, e_eqS, e_neS, e_eqN, e_tyLT, e_ty1, isTys, tyMem, tyN_non, tyN_bl, tyN_int, tyN_str, tyN_tup, tyN_lst, Bool.true_or, Bool.or_true, Bool.or_false, Bool.false_or, Bool.not_true, Bool.not_false, inn_non, inn_bl, inn_int, inn_str, inn_tup, inn_lst, inn_ptr, e_slT, e_slL, e_slN, isT_P, isT_L, isT_T, isT_N, e_sub, e_fdiv, e_mod, e_pow, e_lt, e_le, e_gt, e_ge, e_neg, e_add, e_addS, e_addT, e_addL, e_addPP, e_addPL, e_addLP, e_mul, e_mulL, e_mulT, e_augI, e_ixT, e_ixL, e_ixN, e_ixP, e_lenT, e_lenL, e_lenN, e_lenS, e_lenP, e_abs, e_intI, e_intB, e_max, e_min, e_tupL, e_tupT, e_listL, e_listT, e_listN, e_listLL, e_listLT, e_divmod, e_isNon, e_isntNon, e_isB, e_isntB, e_setIx, e_insert, e_append, e_isL, e_isLL, e_seqP, e_seqL, e_seqT, e_seqN, it_lst, it_fz, Option.bind_some, Option.isSome_some, ix10, ix20, ix21, ix30, ix32, dl1, dl2, dl3, List.eraseIdx_cons_zero, e_pop0, e_popAt, e_rev, e_clear, e_tupP, e_listP, e_neN, e_neIN, e_neNI, e_eqIN, e_eqNI, at0, at1, at2, at3, Cell.lst.injEq, Cell.obj.injEq, Option.some.injEq, exists_eq_left', decide_eq_true_eq, true_and, and_true, cup_same, cup_cup, wZipS, wZipB, List.flatten_nil, List.flatten_cons, enOf, endOf, excOf, List.map_cons, List.map_nil, List.length_cons, List.length_nil, List.replicate, Nat.reduceAdd, Nat.reduceSub, List.cons_append, List.nil_append, List.set_cons_zero, List.set_cons_succ, List.getElem?_cons_zero, List.getElem?_cons_succ, List.getElem_cons_zero, List.getElem_cons_succ, reduceCtorEq, if_true, if_false, Bool.false_eq_true, decide_true, decide_false, ne_eq, not_true, not_false_eq_true, Int.reduceEq, Nat.reduceMul, true_imp_iff, Int.reduceToNat, Int.reducePow, Nat.reducePow, Int.reduceLE, Int.reduceLT, Nat.reduceLT, and_self, Nat.reduceLeDiff, Int.reduceNeg, Int.reduceAdd, Int.reduceSub, Int.reduceMul, Int.cast_ofNat_Int, lvl_s]
      refine ⟨p1, g1, o, rfl, h1, fun g1' e1 => ?_, fun e1 g1' => ?_⟩
      · obtain ⟨t1, t2⟩ := tail (some g1') (cup c p1 (.obj C_Guess (guF g1'))) (by show (noMoreG g1 o).map some = _; rw [e1]; rfl) (fun g h => by cases h; exact cup_same) (fun g h => by rw [cup_ne (Ne.symm (h12 g1 g rfl h))]; exact hat.high g h) (Kp.refl p1 p2 c).put1
        cases b with
        | none =>
          try simp only [ptO, sRaise, sTry, wIsX, wWhat, wBack, lo_lst, e_mulV, sizeL, sNil, sSeq, sPass, sBrk, sCont, sExpr, sRet, sRetN, sIf, sNever, sSet, sAug, gNm, gTp, gNil', gCons', gSb, sAsg, sPar, sFor, wVar_z, wVar_s, wC, wChn, wTru, sPar3, wRev, wCallK, permF, List.filterMap_cons, List.filterMap_nil, wBin, wUn, wTst, wNot, wAnd, wOr, wAndV, wOrV, wNotV, wIf, wNil, wCons, wTup, wLst, wLstL, wFz, wCall, wBi, wMt, wMt0, wSl, wSlL, wPart, wNoPart, wYes, wSeq, wRg1, wRg2, wEnum, wZip, wLc, wLcL, wLRg, wFld, sFldS, sFldA, gFld, wMeth, wMake, lvl2_s, onB, e_eqI, e_neI, e_eqB, e_neB, e_eqS, e_neS, e_eqN, e_tyLT, e_ty1, isTys, tyMem, tyN_non, tyN_bl, tyN_int, tyN_str, tyN_tup, tyN_lst, Bool.true_or, Bool.or_true, Bool.or_false, Bool.false_or, Bool.not_true, Bool.not_false, inn_non, inn_bl, inn_int, inn_str, inn_tup, inn_lst, inn_ptr, e_slT, e_slL, e_slN, isT_P, isT_L, isT_T, isT_N, e_sub, e_fdiv, e_mod, e_pow, e_lt, e_le, e_gt, e_ge, e_neg, e_add, e_addS, e_addT, e_addL, e_addPP, e_addPL, e_addLP, e_mul, e_mulL, e_mulT, e_augI, e_ixT, e_ixL, e_ixN, e_ixP, e_lenT, e_lenL, e_lenN, e_lenS, e_lenP, e_abs, e_intI, e_intB, e_max, e_min, e_tupL, e_tupT, e_listL, e_listT, e_listN, e_listLL, e_listLT, e_divmod, e_isNon, e_isntNon, e_isB, e_isntB, e_setIx, e_insert, e_append, e_isL, e_isLL, e_seqP, e_seqL, e_seqT, e_seqN, it_lst, it_fz, Option.bind_some, Option.isSome_some, ix10, ix20, ix21, ix30, ix32, dl1, dl2, dl3, List.eraseIdx_cons_zero, e_pop0, e_popAt, e_rev, e_clear, e_tupP, e_listP, e_neN, e_neIN, e_neNI, e_eqIN, e_eqNI, at0, at1, at2, at3, Cell.lst.injEq, Cell.obj.injEq, Option.some.injEq, exists_eq_left', decide_eq_true_eq, true_and, and_true, cup_same, cup_cup, wZipS, wZipB, List.flatten_nil, List.flatten_cons, enOf, endOf, excOf, List.map_cons, List.map_nil, List.length_cons, List.length_nil, List.replicate, Nat.reduceAdd, Nat.reduceSub, List.cons_append, List.nil_append, List.set_cons_zero, List.set_cons_succ, List.getElem?_cons_zero, List.getElem?_cons_succ, List.getElem_cons_zero, List.getElem_cons_succ, reduceCtorEq, if_true, if_false, Bool.false_eq_true, decide_true, decide_false, ne_eq, not_true, not_false_eq_true, Int.reduceEq, Nat.reduceMul, true_imp_iff, Int.reduceToNat, Int.reducePow, Nat.reducePow, Int.reduceLE, Int.reduceLT, Nat.reduceLT, and_self, Nat.reduceLeDiff, Int.reduceNeg, Int.reduceAdd, Int.reduceSub, Int.reduceMul, Int.cast_ofNat_Int, lvl_s]
          exact ⟨_, CLe.refl _, t2 rfl⟩
        | some g2 =>
          have h2 : cup c p1 (.obj C_Guess (guF g1')) p2 = some (.obj C_Guess (guF g2)) := by rw [cup_ne (Ne.symm (h12 g1 g2 rfl rfl))]; exact hat.high g2 rfl
          try simp only [ptO, h2, gf_5, sRaise, sTry, wIsX, wWhat, wBack, lo_lst, e_mulV, sizeL, sNil, sSeq, sPass, sBrk, sCont, sExpr, sRet, sRetN, sIf, sNever, sSet, sAug, gNm, gTp, gNil', gCons', gSb, sAsg, sPar, sFor, wVar_z, wVar_s, wC, wChn, wTru, sPar3, wRev, wCallK, permF, List.filterMap_cons, List.filterMap_nil, wBin, wUn, wTst, wNot, wAnd, wOr, wAndV, wOrV, wNotV, wIf, wNil, wCons, wTup, wLst, wLstL, wFz, wCall, wBi, wMt, wMt0, wSl, wSlL, wPart, wNoPart, wYes, wSeq, wRg1, wRg2, wEnum, wZip, wLc, wLcL, wLRg, wFld, sFldS, sFldA, gFld, wMeth, wMake, lvl2_s, onB, e_eqI, e_neI, e_eqB, e_neB, e_eqS, e_neS, e_eqN, e_tyLT, e_ty1, isTys, tyMem, tyN_non, tyN_bl, tyN_int, tyN_str, tyN_tup, tyN_lst, Bool.true_or, Bool.or_true, Bool.or_false, Bool.false_or, Bool.not_true, Bool.not_false, inn_non, inn_bl, inn_int, inn_str, inn_tup, inn_lst, inn_ptr, e_slT, e_slL, e_slN, isT_P, isT_L, isT_T, isT_N, e_sub, e_fdiv, e_mod, e_pow, e_lt, e_le, e_gt, e_ge, e_neg, e_add, e_addS, e_addT, e_addL, e_addPP, e_addPL, e_addLP, e_mul, e_mulL, e_mulT, e_augI, e_ixT, e_ixL, e_ixN, e_ixP, e_lenT, e_lenL, e_lenN, e_lenS, e_lenP, e_abs, e_intI, e_intB, e_max, e_min, e_tupL, e_tupT, e_listL, e_listT, e_listN, e_listLL, e_listLT, e_divmod, e_isNon, e_isntNon, e_isB, e_isntB, e_setIx, e_insert, e_append, e_isL, e_isLL, e_seqP, e_seqL, e_seqT, e_seqN, it_lst, it_fz, Option.bind_some, Option.isSome_some, ix10, ix20, ix21, ix30, ix32, dl1, dl2, dl3, List.eraseIdx_cons_zero, e_pop0, e_popAt, e_rev, e_clear, e_tupP, e_listP, e_neN, e_neIN, e_neNI, e_eqIN, e_eqNI, at0, at1, at2, at3, Cell.lst.injEq, Cell.obj.injEq, Option.some.injEq, exists_eq_left', decide_eq_true_eq, true_and, and_true, cup_same, cup_cup, wZipS, wZipB, List.flatten_nil, List.flatten_cons, enOf, endOf, excOf, List.map_cons, List.map_nil, List.length_cons, List.length_nil, List.replicate, Nat.reduceAdd, Nat.reduceSub, List.cons_append, List.nil_append, List.set_cons_zero, List.set_cons_succ, List.getElem?_cons_zero, List.getElem?_cons_succ, List.getElem_cons_zero, List.getElem_cons_succ, reduceCtorEq, if_true, if_false, Bool.false_eq_true, decide_true, decide_false, ne_eq, not_true, not_false_eq_true, Int.reduceEq, Nat.reduceMul, true_imp_iff, Int.reduceToNat, Int.reducePow, Nat.reducePow, Int.reduceLE, Int.reduceLT, Nat.reduceLT, and_self, Nat.reduceLeDiff, Int.reduceNeg, Int.reduceAdd, Int.reduceSub, Int.reduceMul, Int.cast_ofNat_Int, lvl_s]
          exact t1 g2 rfl
      · try simp only [sRaise, sTry, wIsX, wWhat, wBack, lo_lst, e_mulV, sizeL, sNil, sSeq, sPass, sBrk, sCont, sExpr, sRet, sRetN, sIf, sNever, sSet, sAug, gNm, gTp, gNil', gCons', gSb, sAsg, sPar, sFor, wVar_z, wVar_s, wC, wChn, wTru, sPar3, wRev, wCallK, permF, List.filterMap_cons, List.filterMap_nil, wBin, wUn, wTst, wNot, wAnd, wOr, wAndV, wOrV, wNotV, wIf, wNil, wCons, wTup, wLst, wLstL, wFz, wCall, wBi, wMt, wMt0, wSl, wSlL, wPart, wNoPart, wYes, wSeq, wRg1, wRg2, wEnum, wZip, wLc, wLcL, wLRg, wFld, sFldS, sFldA, gFld, wMeth, wMake, lvl2_s, onB, e_eqI, e_neI, e_eqB, e_neB, e_eqS, e_neS, e_eqN, e_tyLT, e_ty1, isTys, tyMem, tyN_non, tyN_bl, tyN_int, tyN_str, tyN_tup, tyN_lst, Bool.true_or, Bool.or_true, Bool.or_false, Bool.false_or, Bool.not_true, Bool.not_false, inn_non, inn_bl, inn_int, inn_str, inn_tup, inn_lst, inn_ptr, e_slT, e_slL, e_slN, isT_P, isT_L, isT_T, isT_N, e_sub, e_fdiv, e_mod, e_pow, e_lt, e_le, e_gt, e_ge, e_neg, e_add, e_addS, e_addT, e_addL, e_addPP, e_addPL, e_addLP, e_mul, e_mulL, e_mulT, e_augI, e_ixT, e_ixL, e_ixN, e_ixP, e_lenT, e_lenL, e_lenN, e_lenS, e_lenP, e_abs, e_intI, e_intB, e_max, e_min, e_tupL, e_tupT, e_listL, e_listT, e_listN, e_listLL, e_listLT, e_divmod, e_isNon, e_isntNon, e_isB, e_isntB, e_setIx, e_insert, e_append, e_isL, e_isLL, e_seqP, e_seqL, e_seqT, e_seqN, it_lst, it_fz, Option.bind_some, Option.isSome_some, ix10, ix20, ix21, ix30, ix32, dl1, dl2, dl3, List.eraseIdx_cons_zero, e_pop0, e_popAt, e_rev, e_clear, e_tupP, e_listP, e_neN, e_neIN, e_neNI, e_eqIN, e_eqNI, at0, at1, at2, at3, Cell.lst.injEq, Cell.obj.injEq, Option.some.injEq, exists_eq_left', decide_eq_true_eq, true_and, and_true, cup_same, cup_cup, wZipS, wZipB, List.flatten_nil, List.flatten_cons, enOf, endOf, excOf, List.map_cons, List.map_nil, List.length_cons, List.length_nil, List.replicate, Nat.reduceAdd, Nat.reduceSub, List.cons_append, List.nil_append, List.set_cons_zero, List.set_cons_succ, List.getElem?_cons_zero, List.getElem?_cons_succ, List.getElem_cons_zero, List.getElem_cons_succ, reduceCtorEq, if_true, if_false, Bool.false_eq_true, decide_true, decide_false, ne_eq, not_true, not_false_eq_true, Int.reduceEq, Nat.reduceMul, true_imp_iff, Int.reduceToNat, Int.reducePow, Nat.reducePow, Int.reduceLE, Int.reduceLT, Nat.reduceLT, and_self, Nat.reduceLeDiff, Int.reduceNeg, Int.reduceAdd, Int.reduceSub, Int.reduceMul, Int.cast_ofNat_Int, lvl_s]
        exact ⟨_, CLe.refl _, q2 (by show (match (noMoreG g1 o).map some with | none => none | some a => _) = _; rw [e1]; rfl) _ (Kp.refl p1 p2 c).put1⟩
  · by_cases hlt : x < o
    · cases a with
      | none =>
        have hh : heardG (none, b) x o = none := by unfold heardG; rw [if_neg hxo, if_pos hlt]
        rw [hh] at q1 q2
        try simp only [w_is_heard, ptO, hxo, hlt, sRaise, sTry, wIsX, wWhat, wBack, lo_lst, e_mulV, sizeL, sNil, sSeq, sPass, sBrk, sCont, sExpr, sRet, sRetN, sIf, sNever, sSet, sAug, gNm, gTp, gNil', gCons', gSb, sAsg, sPar, sFor, wVar_z, wVar_s, wC, wChn, wTru, sPar3, wRev, wCallK, permF, List.filterMap_cons, List.filterMap_nil, wBin, wUn, wTst, wNot, wAnd, wOr, wAndV, wOrV, wNotV, wIf, wNil, wCons, wTup, wLst, wLstL, wFz, wCall, wBi, wMt, wMt0, wSl, wSlL, wPart, wNoPart, wYes, wSeq, wRg1, wRg2, wEnum, wZip, wLc, wLcL, wLRg, wFld, sFldS, sFldA, gFld, wMeth, wMake, lvl2_s, onB, e_eqI, e_neI, e_eqB, e_neB, e_eqS, e_neS, e_eqN, e_tyLT, e_ty1, isTys, tyMem, tyN_non, tyN_bl, tyN_int, tyN_str, tyN_tup, tyN_lst, Bool.true_or, Bool.or_true, Bool.or_false, Bool.false_or, Bool.not_true, Bool.not_false, inn_non, inn_bl, inn_int, inn_str, inn_tup, inn_lst, inn_ptr, e_slT, e_slL, e_slN, isT_P, isT_L, isT_T, isT_N, e_sub, e_fdiv, e_mod, e_pow, e_lt, e_le, e_gt, e_ge, e_neg, e_add, e_addS, e_addT, e_addL, e_addPP, e_addPL, e_addLP, e_mul, e_mulL, e_mulT, e_augI, e_ixT, e_ixL, e_ixN, e_ixP, e_lenT, e_lenL, e_lenN, e_lenS, e_lenP, e_abs, e_intI, e_intB, e_max, e_min, e_tupL, e_tupT, e_listL, e_listT, e_listN, e_listLL, e_listLT, e_divmod, e_isNon, e_isntNon, e_isB, e_isntB, e_setIx, e_insert, e_append, e_isL, e_isLL, e_seqP, e_seqL, e_seqT, e_seqN, it_lst, it_fz, Option.bind_some, Option.isSome_some, ix10, ix20, ix21, ix30, ix32, dl1, dl2, dl3, List.eraseIdx_cons_zero, e_pop0, e_popAt, e_rev, e_clear, e_tupP, e_listP, e_neN, e_neIN, e_neNI, e_eqIN, e_eqNI, at0, at1, at2, at3, Cell.lst.injEq, Cell.obj.injEq, Option.some.injEq, exists_eq_left', decide_eq_true_eq, true_and, and_true, cup_same, cup_cup, wZipS, wZipB, List.flatten_nil, List.flatten_cons, enOf, endOf, excOf, List.map_cons, List.map_nil, List.length_cons, List.length_nil, List.replicate, Nat.reduceAdd, Nat.reduceSub, List.cons_append, List.nil_append, List.set_cons_zero, List.set_cons_succ, List.getElem?_cons_zero, List.getElem?_cons_succ, List.getElem_cons_zero, List.getElem_cons_succ, reduceCtorEq, if_true, if_false, Bool.false_eq_true, decide_true, decide_false, ne_eq, not_true, not_false_eq_true, Int.reduceEq, Nat.reduceMul, true_imp_iff, Int.reduceToNat, Int.reducePow, Nat.reducePow, Int.reduceLE, Int.reduceLT, Nat.reduceLT, and_self, Nat.reduceLeDiff, Int.reduceNeg, Int.reduceAdd, Int.reduceSub, Int.reduceMul, Int.cast_ofNat_Int, lvl_s]
        exact ⟨_, CLe.refl _, q2 rfl _ (Kp.refl p1 p2 c)⟩
      | some g1 =>
        have hh : heardG (some g1, b) x o = match optG (noLessG · o) b with | none => none | some b => (metGu g1 o x).map fun a => (some a, b) := by unfold heardG; rw [if_neg hxo, if_pos hlt] <;> rfl
        rw [hh] at q1 q2
        clear hh
        have h1 := hat.low g1 rfl
        have tail : ∀ (b' : Option Gu) c1, optG (noLessG · o) b = some b' → c1 p1 = some (.obj C_Guess (guF g1)) → (∀ g, b' = some g → c1 p2 = some (.obj C_Guess (guF g))) → Kp p1 p2 c c1 → c_Gu_met C_Guess (k + 1) [.ptr p1, .int o, .int x] c1 (fun d c' => ∃ c0, CLe c0 c' ∧ Q d c0) (fun n d c3 => ∃ c0, CLe c0 c3 ∧ X0 n d c0) := fun b' c1 e1 k1 k2 kp => by
          simp only [e1] at q1 q2
          exact ⟨p1, g1, o, x, rfl, k1, ⟨fun g' e2 => ⟨_, CLe.refl _, q1 (some g', b') _ (by rw [e2]; rfl) ⟨fun g0 hg0 => by cases hg0; exact cup_same, fun g0 hg0 => by obtain ⟨gb, egb⟩ := opt_some (e1.trans (congrArg some (show _ = some g0 from hg0))); rw [cup_ne (Ne.symm (h12 g1 gb rfl egb))]; exact k2 g0 hg0⟩ kp.put1⟩, fun e2 g' => ⟨_, CLe.refl _, q2 (by rw [e2]; rfl) _ kp.put1⟩⟩, by omega⟩
        cases b with
        | none =>
          have t1 := tail none c rfl h1 (fun g h => by cases h) (Kp.refl p1 p2 c)
          try simp only [w_is_heard, ptO, hxo, hlt, h1, gf_6, sRaise, sTry, wIsX, wWhat, wBack, lo_lst, e_mulV, sizeL, sNil, sSeq, sPass, sBrk, sCont, sExpr, sRet, sRetN, sIf, sNever, sSet, sAug, gNm, gTp, gNil', gCons', gSb, sAsg, sPar, sFor, wVar_z, wVar_s, wC, wChn, wTru, sPar3, wRev, wCallK, permF, List.filterMap_cons, List.filterMap_nil, wBin, wUn, wTst, wNot, wAnd, wOr, wAndV, wOrV, wNotV, wIf, wNil, wCons, wTup, wLst, wLstL, wFz, wCall, wBi, wMt, wMt0, wSl, wSlL, wPart, wNoPart, wYes, wSeq, wRg1, wRg2, wEnum, wZip, wLc, wLcL, wLRg, wFld, sFldS, sFldA, gFld, wMeth, wMake, lvl2_s, onB, e_eqI, e_neI, e_eqB, e_neB, e_eqS, e_neS, e_eqN, e_tyLT, e_ty1, isTys, tyMem, tyN_non, tyN_bl, tyN_int, tyN_str, tyN_tup, tyN_lst, Bool.true_or, Bool.or_true, Bool.or_false, Bool.false_or, Bool.not_true, Bool.not_false, inn_non, inn_bl, inn_int, inn_str, inn_tup, inn_lst, inn_ptr, e_slT, e_slL, e_slN, isT_P, isT_L, isT_T, isT_N, e_sub, e_fdiv, e_mod, e_pow, e_lt, e_le, e_gt, e_ge, e_neg, e_add, e_addS, e_addT, e_addL, e_addPP, e_addPL, e_addLP, e_mul, e_mulL, e_mulT, e_augI, e_ixT, e_ixL, e_ixN, e_ixP, e_lenT, e_lenL, e_lenN, e_lenS, e_lenP, e_abs, e_intI, e_intB, e_max, e_min, e_tupL, e_tupT, e_listL, e_listT, e_listN, e_listLL, e_listLT, e_divmod, e_isNon, e_isntNon, e_isB, e_isntB, e_setIx, e_insert, e_append, e_isL, e_isLL, e_seqP, e_seqL, e_seqT, e_seqN, it_lst, it_fz, Option.bind_some, Option.isSome_some, ix10, ix20, ix21, ix30, ix32, dl1, dl2, dl3, List.eraseIdx_cons_zero, e_pop0, e_popAt, e_rev, e_clear, e_tupP, e_listP, e_neN, e_neIN, e_neNI, e_eqIN, e_eqNI, at0, at1, at2, at3, Cell.lst.injEq, Cell.obj.injEq, Option.some.injEq, exists_eq_left', decide_eq_true_eq, true_and, and_true, cup_same, cup_cup, wZipS, wZipB, List.flatten_nil, List.flatten_cons, enOf, endOf, excOf, List.map_cons, List.map_nil, List.length_cons, List.length_nil, List.replicate, Nat.reduceAdd, Nat.reduceSub, List.cons_append, List.nil_append, List.set_cons_zero, List.set_cons_succ, List.getElem?_cons_zero, List.getElem?_cons_succ, List.getElem_cons_zero, List.getElem_cons_succ, reduceCtorEq, if_true, if_false, Bool.false_eq_true, decide_true, decide_false, ne_eq, not_true, not_false_eq_true, Int.reduceEq, Nat.reduceMul, true_imp_iff, Int.reduceToNat, Int.reducePow, Nat.reducePow, Int.reduceLE, Int.reduceLT, Nat.reduceLT, and_self, Nat.reduceLeDiff, Int.reduceNeg, Int.reduceAdd, Int.reduceSub, Int.reduceMul, Int.cast_ofNat_Int, lvl_s]
          exact t1
        | some g2 =>
          have h2 := hat.high g2 rfl
          try simp only [w_is_heard, ptO, hxo, hlt, h2, gf_5, sRaise, sTry, wIsX, wWhat, wBack, lo_lst, e_mulV, sizeL, sNil, sSeq, sPass, sBrk, sCont, sExpr, sRet, sRetN, sIf, sNever, sSet, sAug, gNm, gTp, gNil', gCons', gSb, sAsg, sPar, sFor, wVar_z, wVar_s, wC, wChn, wTru, sPar3, wRev, wCallK, permF, List.filterMap_cons, List.filterMap_nil, wBin, wUn, wTst, wNot, wAnd, wOr, wAndV, wOrV, wNotV, wIf, wNil, wCons, wTup, wLst, wLstL, wFz, wCall, wBi, wMt, wMt0, wSl, wSlL, wPart, wNoPart, wYes, wSeq, wRg1, wRg2, wEnum, wZip, wLc, wLcL, wLRg, wFld, sFldS, sFldA, gFld, wMeth, wMake, lvl2_s, onB, e_eqI, e_neI, e_eqB, e_neB, e_eqS, e_neS, e_eqN, e_tyLT, e_ty1, isTys, tyMem, tyN_non, tyN_bl, tyN_int, tyN_str, tyN_tup, tyN_lst, Bool.true_or, Bool.or_true, Bool.or_false, Bool.false_or, Bool.not_true, Bool.not_false, inn_non, inn_bl, inn_int, inn_str, inn_tup, inn_lst, inn_ptr, e_slT, e_slL, e_slN, isT_P, isT_L, isT_T, isT_N, e_sub, e_fdiv, e_mod, e_pow, e_lt, e_le, e_gt, e_ge, e_neg, e_add, e_addS, e_addT, e_addL, e_addPP, e_addPL, e_addLP, e_mul, e_mulL, e_mulT, e_augI, e_ixT, e_ixL, e_ixN, e_ixP, e_lenT, e_lenL, e_lenN, e_lenS, e_lenP, e_abs, e_intI, e_intB, e_max, e_min, e_tupL, e_tupT, e_listL, e_listT, e_listN, e_listLL, e_listLT, e_divmod, e_isNon, e_isntNon, e_isB, e_isntB, e_setIx, e_insert, e_append, e_isL, e_isLL, e_seqP, e_seqL, e_seqT, e_seqN, it_lst, it_fz, Option.bind_some, Option.isSome_some, ix10, ix20, ix21, ix30, ix32, dl1, dl2, dl3, List.eraseIdx_cons_zero, e_pop0, e_popAt, e_rev, e_clear, e_tupP, e_listP, e_neN, e_neIN, e_neNI, e_eqIN, e_eqNI, at0, at1, at2, at3, Cell.lst.injEq, Cell.obj.injEq, Option.some.injEq, exists_eq_left', decide_eq_true_eq, true_and, and_true, cup_same, cup_cup, wZipS, wZipB, List.flatten_nil, List.flatten_cons, enOf, endOf, excOf, List.map_cons, List.map_nil, List.length_cons, List.length_nil, List.replicate, Nat.reduceAdd, Nat.reduceSub, List.cons_append, List.nil_append, List.set_cons_zero, List.set_cons_succ, List.getElem?_cons_zero, List.getElem?_cons_succ, List.getElem_cons_zero, List.getElem_cons_succ, reduceCtorEq, if_true, if_false, Bool.false_eq_true, decide_true, decide_false, ne_eq, not_true, not_false_eq_true, Int.reduceEq, Nat.reduceMul, true_imp_iff, Int.reduceToNat, Int.reducePow, Nat.reducePow, Int.reduceLE, Int.reduceLT, Nat.reduceLT, and_self, Nat.reduceLeDiff, Int.reduceNeg, Int.reduceAdd, Int.reduceSub, Int.reduceMul, Int.cast_ofNat_Int, lvl_s]
          refine ⟨p2, g2, o, rfl, h2, fun g2' e1 => ?_, fun e1 g2' => ?_⟩
          · have k1 : cup c p2 (.obj C_Guess (guF g2')) p1 = some (.obj C_Guess (guF g1)) := by rw [cup_ne (h12 g1 g2 rfl rfl)]; exact h1
            have t1 := tail (some g2') (cup c p2 (.obj C_Guess (guF g2'))) (by show (noLessG g2 o).map some = _; rw [e1]; rfl) k1 (fun g h => by cases h; exact cup_same) (Kp.refl p1 p2 c).put2
            try simp only [k1, gf_6, sRaise, sTry, wIsX, wWhat, wBack, lo_lst, e_mulV, sizeL, sNil, sSeq, sPass, sBrk, sCont, sExpr, sRet, sRetN, sIf, sNever, sSet, sAug, gNm, gTp, gNil', gCons', gSb, sAsg, sPar, sFor, wVar_z, wVar_s, wC, wChn, wTru, sPar3, wRev, wCallK, permF, List.filterMap_cons, List.filterMap_nil, wBin, wUn, wTst, wNot, wAnd, wOr, wAndV, wOrV, wNotV, wIf, wNil, wCons, wTup, wLst, wLstL, wFz, wCall, wBi, wMt, wMt0, wSl, wSlL, wPart, wNoPart, wYes, wSeq, wRg1, wRg2, wEnum, wZip, wLc, wLcL, wLRg, wFld, sFldS, sFldA, gFld, wMeth, wMake, lvl2_s, onB, e_eqI, e_neI, e_eqB, e_neB, e_eqS, e_neS, e_eqN, e_tyLT, e_ty1, isTys, tyMem, tyN_non, tyN_bl, tyN_int, tyN_str, tyN_tup, tyN_lst, Bool.true_or, Bool.or_true, Bool.or_false, Bool.false_or, Bool.not_true, Bool.not_false, inn_non, inn_bl, inn_int, inn_str, inn_tup, inn_lst, inn_ptr, e_slT, e_slL, e_slN, isT_P, isT_L, isT_T, isT_N, e_sub, e_fdiv, e_mod, e_pow, e_lt, e_le, e_gt, e_ge, e_neg, e_add, e_addS, e_addT, e_addL, e_addPP, e_addPL, e_addLP, e_mul, e_mulL, e_mulT, e_augI, e_ixT, e_ixL, e_ixN, e_ixP, e_lenT, e_lenL, e_lenN, e_lenS, e_lenP, e_abs, e_intI, e_intB, e_max, e_min, e_tupL, e_tupT, e_listL, e_listT, e_listN, e_listLL, e_listLT, e_divmod, e_isNon, e_isntNon, e_isB, e_isntB, e_setIx, e_insert, e_append, e_isL, e_isLL, e_seqP, e_seqL, e_seqT, e_seqN, it_lst, it_fz, Option.bind_some, Option.isSome_some, ix10, ix20, ix21, ix30, ix32, dl1, dl2, dl3, List.eraseIdx_cons_zero, e_pop0, e_popAt, e_rev, e_clear, e_tupP, e_listP, e_neN, e_neIN, e_neNI, e_eqIN, e_eqNI, at0, at1, at2, at3, Cell.lst.injEq, Cell.obj.injEq, Option.some.injEq, exists_eq_left', decide_eq_true_eq, true_and, and_true, cup_same, cup_cup, wZipS, wZipB, List.flatten_nil, List.flatten_cons, enOf, endOf, excOf, List.map_cons, List.map_nil, List.length_cons, List.length_nil, List.replicate, Nat.reduceAdd, Nat.reduceSub, List.cons_append, List.nil_append, List.set_cons_zero, List.set_cons_succ, List.getElem?_cons_zero, List.getElem?_cons_succ, List.getElem_cons_zero, List.getElem_cons_succ, reduceCtorEq, if_true, if_false, Bool.false_eq_true, decide_true, decide_false, ne_eq, not_true, not_false_eq_true, Int.reduceEq, Nat.reduceMul, true_imp_iff, Int.reduceToNat, Int.reducePow, Nat.reducePow, Int.reduceLE, Int.reduceLT, Nat.reduceLT, and_self, Nat.reduceLeDiff, Int.reduceNeg, Int.reduceAdd, Int.reduceSub, Int.reduceMul, Int.cast_ofNat_Int, lvl_s]
            exact t1
          · try simp only [sRaise, sTry, wIsX, wWhat, wBack, lo_lst, e_mulV, sizeL, sNil, sSeq, sPass, sBrk, sCont, sExpr, sRet, sRetN, sIf, sNever, sSet, sAug, gNm, gTp, gNil', gCons', gSb, sAsg, sPar, sFor, wVar_z, wVar_s, wC, wChn, wTru, sPar3, wRev, wCallK, permF, List.filterMap_cons, List.filterMap_nil, wBin, wUn, wTst, wNot, wAnd, wOr, wAndV, wOrV, wNotV, wIf, wNil, wCons, wTup, wLst, wLstL, wFz, wCall, wBi, wMt, wMt0, wSl, wSlL, wPart, wNoPart, wYes, wSeq, wRg1, wRg2, wEnum, wZip, wLc, wLcL, wLRg, wFld, sFldS, sFldA, gFld, wMeth, wMake, lvl2_s, onB, e_eqI, e_neI, e_eqB, e_neB, e_eqS, e_neS, e_eqN, e_tyLT, e_ty1, isTys, tyMem, tyN_non, tyN_bl, tyN_int, tyN_str, tyN_tup, tyN_lst, Bool.true_or, Bool.or_true, Bool.or_false, Bool.false_or, Bool.not_true, Bool.not_false, inn_non, inn_bl, inn_int, inn_str, inn_tup, inn_lst, inn_ptr, e_slT, e_slL, e_slN, isT_P, isT_L, isT_T, isT_N, e_sub, e_fdiv, e_mod, e_pow, e_lt, e_le, e_gt, e_ge, e_neg, e_add, e_addS, e_addT, e_addL, e_addPP, e_addPL, e_addLP, e_mul, e_mulL, e_mulT, e_augI, e_ixT, e_ixL, e_ixN, e_ixP, e_lenT, e_lenL, e_lenN, e_lenS, e_lenP, e_abs, e_intI, e_intB, e_max, e_min, e_tupL, e_tupT, e_listL, e_listT, e_listN, e_listLL, e_listLT, e_divmod, e_isNon, e_isntNon, e_isB, e_isntB, e_setIx, e_insert, e_append, e_isL, e_isLL, e_seqP, e_seqL, e_seqT, e_seqN, it_lst, it_fz, Option.bind_some, Option.isSome_some, ix10, ix20, ix21, ix30, ix32, dl1, dl2, dl3, List.eraseIdx_cons_zero, e_pop0, e_popAt, e_rev, e_clear, e_tupP, e_listP, e_neN, e_neIN, e_neNI, e_eqIN, e_eqNI, at0, at1, at2, at3, Cell.lst.injEq, Cell.obj.injEq, Option.some.injEq, exists_eq_left', decide_eq_true_eq, true_and, and_true, cup_same, cup_cup, wZipS, wZipB, List.flatten_nil, List.flatten_cons, enOf, endOf, excOf, List.map_cons, List.map_nil, List.length_cons, List.length_nil, List.replicate, Nat.reduceAdd, Nat.reduceSub, List.cons_append, List.nil_append, List.set_cons_zero, List.set_cons_succ, List.getElem?_cons_zero, List.getElem?_cons_succ, List.getElem_cons_zero, List.getElem_cons_succ, reduceCtorEq, if_true, if_false, Bool.false_eq_true, decide_true, decide_false, ne_eq, not_true, not_false_eq_true, Int.reduceEq, Nat.reduceMul, true_imp_iff, Int.reduceToNat, Int.reducePow, Nat.reducePow, Int.reduceLE, Int.reduceLT, Nat.reduceLT, and_self, Nat.reduceLeDiff, Int.reduceNeg, Int.reduceAdd, Int.reduceSub, Int.reduceMul, Int.cast_ofNat_Int, lvl_s]
            exact ⟨_, CLe.refl _, q2 (by show (match (noLessG g2 o).map some with | none => none | some b => _) = _; rw [e1]; rfl) _ (Kp.refl p1 p2 c).put2⟩
    · cases b with
      | none =>
        have hh : heardG (a, none) x o = none := by unfold heardG; rw [if_neg hxo, if_neg hlt]
        rw [hh] at q1 q2
        try simp only [w_is_heard, ptO, hxo, hlt, sRaise, sTry, wIsX, wWhat, wBack, lo_lst, e_mulV, sizeL, sNil, sSeq, sPass, sBrk, sCont, sExpr, sRet, sRetN, sIf, sNever, sSet, sAug, gNm, gTp, gNil', gCons', gSb, sAsg, sPar, sFor, wVar_z, wVar_s, wC, wChn, wTru, sPar3, wRev, wCallK, permF, List.filterMap_cons, List.filterMap_nil, wBin, wUn, wTst, wNot, wAnd, wOr, wAndV, wOrV, wNotV, wIf, wNil, wCons, wTup, wLst, wLstL, wFz, wCall, wBi, wMt, wMt0, wSl, wSlL, wPart, wNoPart, wYes, wSeq, wRg1, wRg2, wEnum, wZip, wLc, wLcL, wLRg, wFld, sFldS, sFldA, gFld, wMeth, wMake, lvl2_s, onB, e_eqI, e_neI, e_eqB, e_neB, e_eqS, e_neS, e_eqN, e_tyLT, e_ty1, isTys, tyMem, tyN_non, tyN_bl, tyN_int, tyN_str, tyN_tup, tyN_lst, Bool.true_or, Bool.or_true, Bool.or_false, Bool.false_or, Bool.not_true, Bool.not_false, inn_non, inn_bl, inn_int, inn_str, inn_tup, inn_lst, inn_ptr, e_slT, e_slL, e_slN, isT_P, isT_L, isT_T, isT_N, e_sub, e_fdiv, e_mod, e_pow, e_lt, e_le, e_gt, e_ge, e_neg, e_add, e_addS, e_addT, e_addL, e_addPP, e_addPL, e_addLP, e_mul, e_mulL, e_mulT, e_augI, e_ixT, e_ixL, e_ixN, e_ixP, e_lenT, e_lenL, e_lenN, e_lenS, e_lenP, e_abs, e_intI, e_intB, e_max, e_min, e_tupL, e_tupT, e_listL, e_listT, e_listN, e_listLL, e_listLT, e_divmod, e_isNon, e_isntNon, e_isB, e_isntB, e_setIx, e_insert, e_append, e_isL, e_isLL, e_seqP, e_seqL, e_seqT, e_seqN, it_lst, it_fz, Option.bind_some, Option.isSome_some, ix10, ix20, ix21, ix30, ix32, dl1, dl2, dl3, List.eraseIdx_cons_zero, e_pop0, e_popAt, e_rev, e_clear, e_tupP, e_listP, e_neN, e_neIN, e_neNI, e_eqIN, e_eqNI, at0, at1, at2, at3, Cell.lst.injEq, Cell.obj.injEq, Option.some.injEq, exists_eq_left', decide_eq_true_eq, true_and, and_true, cup_same, cup_cup, wZipS, wZipB, List.flatten_nil, List.flatten_cons, enOf, endOf, excOf, List.map_cons, List.map_nil, List.length_cons, List.length_nil, List.replicate, Nat.reduceAdd, Nat.reduceSub, List.cons_append, List.nil_append, List.set_cons_zero, List.set_cons_succ, List.getElem?_cons_zero, List.getElem?_cons_succ, List.getElem_cons_zero, List.getElem_cons_succ, reduceCtorEq, if_true, if_false, Bool.false_eq_true, decide_true, decide_false, ne_eq, not_true, not_false_eq_true, Int.reduceEq, Nat.reduceMul, true_imp_iff, Int.reduceToNat, Int.reducePow, Nat.reducePow, Int.reduceLE, Int.reduceLT, Nat.reduceLT, and_self, Nat.reduceLeDiff, Int.reduceNeg, Int.reduceAdd, Int.reduceSub, Int.reduceMul, Int.cast_ofNat_Int, lvl_s]
        exact ⟨_, CLe.refl _, q2 rfl _ (Kp.refl p1 p2 c)⟩
      | some g2 =>
        have hh : heardG (a, some g2) x o = match optG (noMoreG · o) a with | none => none | some a => (metGu g2 o x).map fun b => (a, some b) := by unfold heardG; rw [if_neg hxo, if_neg hlt] <;> rfl
        rw [hh] at q1 q2
        clear hh
        have h2 := hat.high g2 rfl
        have tail : ∀ (a' : Option Gu) c1, optG (noMoreG · o) a = some a' → c1 p2 = some (.obj C_Guess (guF g2)) → (∀ g, a' = some g → c1 p1 = some (.obj C_Guess (guF g))) → Kp p1 p2 c c1 → c_Gu_met C_Guess (k + 1) [.ptr p2, .int o, .int x] c1 (fun d c' => ∃ c0, CLe c0 c' ∧ Q d c0) (fun n d c3 => ∃ c0, CLe c0 c3 ∧ X0 n d c0) := fun a' c1 e1 k1 k2 kp => by
          simp only [e1] at q1 q2
          exact ⟨p2, g2, o, x, rfl, k1, ⟨fun g' e2 => ⟨_, CLe.refl _, q1 (a', some g') _ (by rw [e2]; rfl) ⟨fun g0 hg0 => by obtain ⟨ga, ega⟩ := opt_some (e1.trans (congrArg some (show _ = some g0 from hg0))); rw [cup_ne (h12 ga g2 ega rfl)]; exact k2 g0 hg0, fun g0 hg0 => by cases hg0; exact cup_same⟩ kp.put2⟩, fun e2 g' => ⟨_, CLe.refl _, q2 (by rw [e2]; rfl) _ kp.put2⟩⟩, by omega⟩
        cases a with
        | none =>
          have t1 := tail none c rfl h2 (fun g h => by cases h) (Kp.refl p1 p2 c)
          try simp only [w_is_heard, ptO, hxo, hlt, h2, gf_6, sRaise, sTry, wIsX, wWhat, wBack, lo_lst, e_mulV, sizeL, sNil, sSeq, sPass, sBrk, sCont, sExpr, sRet, sRetN, sIf, sNever, sSet, sAug, gNm, gTp, gNil', gCons', gSb, sAsg, sPar, sFor, wVar_z, wVar_s, wC, wChn, wTru, sPar3, wRev, wCallK, permF, List.filterMap_cons, List.filterMap_nil, wBin, wUn, wTst, wNot, wAnd, wOr, wAndV, wOrV, wNotV, wIf, wNil, wCons, wTup, wLst, wLstL, wFz, wCall, wBi, wMt, wMt0, wSl, wSlL, wPart, wNoPart, wYes, wSeq, wRg1, wRg2, wEnum, wZip, wLc, wLcL, wLRg, wFld, sFldS, sFldA, gFld, wMeth, wMake, lvl2_s, onB, e_eqI, e_neI, e_eqB, e_neB, e_eqS, e_neS, e_eqN, e_tyLT, e_ty1, isTys, tyMem, tyN_non, tyN_bl, tyN_int, tyN_str, tyN_tup, tyN_lst, Bool.true_or, Bool.or_true, Bool.or_false, Bool.false_or, Bool.not_true, Bool.not_false, inn_non, inn_bl, inn_int, inn_str, inn_tup, inn_lst, inn_ptr, e_slT, e_slL, e_slN, isT_P, isT_L, isT_T, isT_N, e_sub, e_fdiv, e_mod, e_pow, e_lt, e_le, e_gt, e_ge, e_neg, e_add, e_addS, e_addT, e_addL, e_addPP, e_addPL, e_addLP, e_mul, e_mulL, e_mulT, e_augI, e_ixT, e_ixL, e_ixN, e_ixP, e_lenT, e_lenL, e_lenN, e_lenS, e_lenP, e_abs, e_intI, e_intB, e_max, e_min, e_tupL, e_tupT, e_listL, e_listT, e_listN, e_listLL, e_listLT, e_divmod, e_isNon, e_isntNon, e_isB, e_isntB, e_setIx, e_insert, e_append, e_isL, e_isLL, e_seqP, e_seqL, e_seqT, e_seqN, it_lst, it_fz, Option.bind_some, Option.isSome_some, ix10, ix20, ix21, ix30, ix32, dl1, dl2, dl3, List.eraseIdx_cons_zero, e_pop0, e_popAt, e_rev, e_clear, e_tupP, e_listP, e_neN, e_neIN, e_neNI, e_eqIN, e_eqNI, at0, at1, at2, at3, Cell.lst.injEq, Cell.obj.injEq, Option.some.injEq, exists_eq_left', decide_eq_true_eq, true_and, and_true, cup_same, cup_cup, wZipS, wZipB, List.flatten_nil, List.flatten_cons, enOf, endOf, excOf, List.map_cons, List.map_nil, List.length_cons, List.length_nil, List.replicate, Nat.reduceAdd, Nat.reduceSub, List.cons_append, List.nil_append, List.set_cons_zero, List.set_cons_succ, List.getElem?_cons_zero, List.getElem?_cons_succ, List.getElem_cons_zero, List.getElem_cons_succ, reduceCtorEq, if_true, if_false, Bool.false_eq_true, decide_true, decide_false, ne_eq, not_true, not_false_eq_true, Int.reduceEq, Nat.reduceMul, true_imp_iff, Int.reduceToNat, Int.reducePow, Nat.reducePow, Int.reduceLE, Int.reduceLT, Nat.reduceLT, and_self, Nat.reduceLeDiff, Int.reduceNeg, Int.reduceAdd, Int.reduceSub, Int.reduceMul, Int.cast_ofNat_Int, lvl_s]
          exact t1
        | some g1 =>
          have h1 := hat.low g1 rfl
          try simp only [w_is_heard, ptO, hxo, hlt, h1, gf_4, sRaise, sTry, wIsX, wWhat, wBack, lo_lst, e_mulV, sizeL, sNil, sSeq, sPass, sBrk, sCont, sExpr, sRet, sRetN, sIf, sNever, sSet, sAug, gNm, gTp, gNil', gCons', gSb, sAsg, sPar, sFor, wVar_z, wVar_s, wC, wChn, wTru, sPar3, wRev, wCallK, permF, List.filterMap_cons, List.filterMap_nil, wBin, wUn, wTst, wNot, wAnd, wOr, wAndV, wOrV, wNotV, wIf, wNil, wCons, wTup, wLst, wLstL, wFz, wCall, wBi, wMt, wMt0, wSl, wSlL, wPart, wNoPart, wYes, wSeq, wRg1, wRg2, wEnum, wZip, wLc, wLcL, wLRg, wFld, sFldS, sFldA, gFld, wMeth, wMake, lvl2_s, onB, e_eqI, e_neI, e_eqB, e_neB, e_eqS, e_neS, e_eqN, e_tyLT, e_ty1, isTys, tyMem, tyN_non, tyN_bl, tyN_int, tyN_str, tyN_tup, tyN_lst, Bool.true_or, Bool.or_true, Bool.or_false, Bool.false_or, Bool.not_true, Bool.not_false, inn_non, inn_bl, inn_int, inn_str, inn_tup, inn_lst, inn_ptr, e_slT, e_slL, e_slN, isT_P, isT_L, isT_T, isT_N, e_sub, e_fdiv, e_mod, e_pow, e_lt, e_le, e_gt, e_ge, e_neg, e_add, e_addS, e_addT, e_addL, e_addPP, e_addPL, e_addLP, e_mul, e_mulL, e_mulT, e_augI, e_ixT, e_ixL, e_ixN, e_ixP, e_lenT, e_lenL, e_lenN, e_lenS, e_lenP, e_abs, e_intI, e_intB, e_max, e_min, e_tupL, e_tupT, e_listL, e_listT, e_listN, e_listLL, e_listLT, e_divmod, e_isNon, e_isntNon, e_isB, e_isntB, e_setIx, e_insert, e_append, e_isL, e_isLL, e_seqP, e_seqL, e_seqT, e_seqN, it_lst, it_fz, Option.bind_some, Option.isSome_some, ix10, ix20, ix21, ix30, ix32, dl1, dl2, dl3, List.eraseIdx_cons_zero, e_pop0, e_popAt, e_rev, e_clear, e_tupP, e_listP, e_neN, e_neIN, e_neNI, e_eqIN, e_eqNI, at0, at1, at2, at3, Cell.lst.injEq, Cell.obj.injEq, Option.some.injEq, exists_eq_left', decide_eq_true_eq, true_and, and_true, cup_same, cup_cup, wZipS, wZipB, List.flatten_nil, List.flatten_cons, enOf, endOf, excOf, List.map_cons, List.map_nil, List.length_cons, List.length_nil, List.replicate, Nat.reduceAdd, Nat.reduceSub, List.cons_append, List.nil_append, List.set_cons_zero, List.set_cons_succ, List.getElem?_cons_zero, List.getElem?_cons_succ, List.getElem_cons_zero, List.getElem_cons_succ, reduceCtorEq, if_true, if_false, Bool.false_eq_true, decide_true, decide_false, ne_eq, not_true, not_false_eq_true, Int.reduceEq, Nat.reduceMul, true_imp_iff, Int.reduceToNat, Int.reducePow, Nat.reducePow, Int.reduceLE, Int.reduceLT, Nat.reduceLT, and_self, Nat.reduceLeDiff, Int.reduceNeg, Int.reduceAdd, Int.reduceSub, Int.reduceMul, Int.cast_ofNat_Int, lvl_s]
          refine ⟨p1, g1, o, rfl, h1, fun g1' e1 => ?_, fun e1 g1' => ?_⟩
          · have k1 : cup c p1 (.obj C_Guess (guF g1')) p2 = some (.obj C_Guess (guF g2)) := by rw [cup_ne (Ne.symm (h12 g1 g2 rfl rfl))]; exact h2
            have t1 := tail (some g1') (cup c p1 (.obj C_Guess (guF g1'))) (by show (noMoreG g1 o).map some = _; rw [e1]; rfl) k1 (fun g h => by cases h; exact cup_same) (Kp.refl p1 p2 c).put1
            try simp only [k1, gf_6, sRaise, sTry, wIsX, wWhat, wBack, lo_lst, e_mulV, sizeL, sNil, sSeq, sPass, sBrk, sCont, sExpr, sRet, sRetN, sIf, sNever, sSet, sAug, gNm, gTp, gNil', gCons', gSb, sAsg, sPar, sFor, wVar_z, wVar_s, wC, wChn, wTru, sPar3, wRev, wCallK, permF, List.filterMap_cons, List.filterMap_nil, wBin, wUn, wTst, wNot, wAnd, wOr, wAndV, wOrV, wNotV, wIf, wNil, wCons, wTup, wLst, wLstL, wFz, wCall, wBi, wMt, wMt0, wSl, wSlL, wPart, wNoPart, wYes, wSeq, wRg1, wRg2, wEnum, wZip, wLc, wLcL, wLRg, wFld, sFldS, sFldA, gFld, wMeth, wMake, lvl2_s, onB, e_eqI, e_neI, e_eqB, e_neB, e_eqS, e_neS, e_eqN, e_tyLT, e_ty1, isTys, tyMem, tyN_non, tyN_bl, tyN_int, tyN_str, tyN_tup, tyN_lst, Bool.true_or, Bool.or_true, Bool.or_false, Bool.false_or, Bool.not_true, Bool.not_false, inn_non, inn_bl, inn_int, inn_str, inn_tup, inn_lst, inn_ptr, e_slT, e_slL, e_slN, isT_P, isT_L, isT_T, isT_N, e_sub, e_fdiv, e_mod, e_pow, e_lt, e_le, e_gt, e_ge, e_neg, e_add, e_addS, e_addT, e_addL, e_addPP, e_addPL, e_addLP, e_mul, e_mulL, e_mulT, e_augI, e_ixT, e_ixL, e_ixN, e_ixP, e_lenT, e_lenL, e_lenN, e_lenS, e_lenP, e_abs, e_intI, e_intB, e_max, e_min, e_tupL, e_tupT, e_listL, e_listT, e_listN, e_listLL, e_listLT, e_divmod, e_isNon, e_isntNon, e_isB, e_isntB, e_setIx, e_insert, e_append, e_isL, e_isLL, e_seqP, e_seqL, e_seqT, e_seqN, it_lst, it_fz, Option.bind_some, Option.isSome_some, ix10, ix20, ix21, ix30, ix32, dl1, dl2, dl3, List.eraseIdx_cons_zero, e_pop0, e_popAt, e_rev, e_clear, e_tupP, e_listP, e_neN, e_neIN, e_neNI, e_eqIN, e_eqNI, at0, at1, at2, at3, Cell.lst.injEq, Cell.obj.injEq, Option.some.injEq, exists_eq_left', decide_eq_true_eq, true_and, and_true, cup_same, cup_cup, wZipS, wZipB, List.flatten_nil, List.flatten_cons, enOf, endOf, excOf, List.map_cons, List.map_nil, List.length_cons, List.length_nil, List.replicate, Nat.reduceAdd, Nat.reduceSub, List.cons_append, List.nil_append, List.set_cons_zero, List.set_cons_succ, List.getElem?_cons_zero, List.getElem?_cons_succ, List.getElem_cons_zero, List.getElem_cons_succ, reduceCtorEq, if_true, if_false, Bool.false_eq_true, decide_true, decide_false, ne_eq, not_true, not_false_eq_true, Int.reduceEq, Nat.reduceMul, true_imp_iff, Int.reduceToNat, Int.reducePow, Nat.reducePow, Int.reduceLE, Int.reduceLT, Nat.reduceLT, and_self, Nat.reduceLeDiff, Int.reduceNeg, Int.reduceAdd, Int.reduceSub, Int.reduceMul, Int.cast_ofNat_Int, lvl_s]
            exact t1
          · try simp only [sRaise, sTry, wIsX, wWhat, wBack, lo_lst, e_mulV, sizeL, sNil, sSeq, sPass, sBrk, sCont, sExpr, sRet, sRetN, sIf, sNever, sSet, sAug, gNm, gTp, gNil', gCons', gSb, sAsg, sPar, sFor, wVar_z, wVar_s, wC, wChn, wTru, sPar3, wRev, wCallK, permF, List.filterMap_cons, List.filterMap_nil, wBin, wUn, wTst, wNot, wAnd, wOr, wAndV, wOrV, wNotV, wIf, wNil, wCons, wTup, wLst, wLstL, wFz, wCall, wBi, wMt, wMt0, wSl, wSlL, wPart, wNoPart, wYes, wSeq, wRg1, wRg2, wEnum, wZip, wLc, wLcL, wLRg, wFld, sFldS, sFldA, gFld, wMeth, wMake, lvl2_s, onB, e_eqI, e_neI, e_eqB, e_neB, e_eqS, e_neS, e_eqN, e_tyLT, e_ty1, isTys, tyMem, tyN_non, tyN_bl, tyN_int, tyN_str, tyN_tup, tyN_lst, Bool.true_or, Bool.or_true, Bool.or_false, Bool.false_or, Bool.not_true, Bool.not_false, inn_non, inn_bl, inn_int, inn_str, inn_tup, inn_lst, inn_ptr, e_slT, e_slL, e_slN, isT_P, isT_L, isT_T, isT_N, e_sub, e_fdiv, e_mod, e_pow, e_lt, e_le, e_gt, e_ge, e_neg, e_add, e_addS, e_addT, e_addL, e_addPP, e_addPL, e_addLP, e_mul, e_mulL, e_mulT, e_augI, e_ixT, e_ixL, e_ixN, e_ixP, e_lenT, e_lenL, e_lenN, e_lenS, e_lenP, e_abs, e_intI, e_intB, e_max, e_min, e_tupL, e_tupT, e_listL, e_listT, e_listN, e_listLL, e_listLT, e_divmod, e_isNon, e_isntNon, e_isB, e_isntB, e_setIx, e_insert, e_append, e_isL, e_isLL, e_seqP, e_seqL, e_seqT, e_seqN, it_lst, it_fz, Option.bind_some, Option.isSome_some, ix10, ix20, ix21, ix30, ix32, dl1, dl2, dl3, List.eraseIdx_cons_zero, e_pop0, e_popAt, e_rev, e_clear, e_tupP, e_listP, e_neN, e_neIN, e_neNI, e_eqIN, e_eqNI, at0, at1, at2, at3, Cell.lst.injEq, Cell.obj.injEq, Option.some.injEq, exists_eq_left', decide_eq_true_eq, true_and, and_true, cup_same, cup_cup, wZipS, wZipB, List.flatten_nil, List.flatten_cons, enOf, endOf, excOf, List.map_cons, List.map_nil, List.length_cons, List.length_nil, List.replicate, Nat.reduceAdd, Nat.reduceSub, List.cons_append, List.nil_append, List.set_cons_zero, List.set_cons_succ, List.getElem?_cons_zero, List.getElem?_cons_succ, List.getElem_cons_zero, List.getElem_cons_succ, reduceCtorEq, if_true, if_false, Bool.false_eq_true, decide_true, decide_false, ne_eq, not_true, not_false_eq_true, Int.reduceEq, Nat.reduceMul, true_imp_iff, Int.reduceToNat, Int.reducePow, Nat.reducePow, Int.reduceLE, Int.reduceLT, Nat.reduceLT, and_self, Nat.reduceLeDiff, Int.reduceNeg, Int.reduceAdd, Int.reduceSub, Int.reduceMul, Int.cast_ofNat_Int, lvl_s]
            exact ⟨_, CLe.refl _, q2 (by show (match (noMoreG g1 o).map some with | none => none | some a => _) = _; rw [e1]; rfl) _ (Kp.refl p1 p2 c).put1⟩
end VL
set_option maxHeartbeats 1000000
namespace VL
open PySem PySem.Spec PyProof.Rows L2
/-- which places a granary of a sort has -/
inductive Sort3 | low | high | both
def srtS : Sort3 → Str
  | .low => "low"
  | .high => "high"
  | .both => "both"
def gu0 : Gu := (none, none, none)
def s0 : Sort3 → Gus
  | .low => (some gu0, none)
  | .high => (none, some gu0)
  | .both => (some gu0, some gu0)
def gO : Option Gu → D
  | none => .non
  | some g => .tup [oD g.1, oD g.2.1]
def fitD : Option Gus → D
  | none => .non
  | some s => .tup [gO s.1, gO s.2]
theorem sd_11 : (("low" : Str) = "low") = True := by decide
theorem sd_12 : (("low" : Str) = "high") = False := by decide
theorem sd_21 : (("high" : Str) = "low") = False := by decide
theorem sd_22 : (("high" : Str) = "high") = True := by decide
theorem sd_31 : (("both" : Str) = "low") = False := by decide
theorem sd_32 : (("both" : Str) = "high") = False := by decide
theorem heard_sh {s s' : Gus} {x o : Int} (h : heardG s x o = some s') : s'.1.isSome = s.1.isSome ∧ s'.2.isSome = s.2.isSome := by
  obtain ⟨a, b⟩ := s
  have om : ∀ {f : Gu → Option Gu} {a a' : Option Gu}, optG f a = some a' → a'.isSome = a.isSome := fun {f a a'} h => by
    cases a with
    | none => cases h; rfl
    | some g => obtain ⟨g', _, rfl⟩ := Option.map_eq_some_iff.mp h; rfl
  unfold heardG at h
  split at h
  · cases e1 : optG (noMoreG · x) a with
    | none => simp only [e1] at h; cases h
    | some a' =>
      simp only [e1] at h
      obtain ⟨b', e2, rfl⟩ := Option.map_eq_some_iff.mp h
      exact ⟨om e1, om e2⟩
  · split at h
    · cases a with
      | none => cases h
      | some g =>
        simp only at h
        cases e1 : optG (noLessG · o) b with
        | none => simp only [e1] at h; cases h
        | some b' =>
          simp only [e1] at h
          obtain ⟨g', e2, rfl⟩ := Option.map_eq_some_iff.mp h
          exact ⟨rfl, om e1⟩
    · cases b with
      | none => cases h
      | some g =>
        simp only at h
        cases e1 : optG (noMoreG · o) a with
        | none => simp only [e1] at h; cases h
        | some a' =>
          simp only [e1] at h
          obtain ⟨g', e2, rfl⟩ := Option.map_eq_some_iff.mp h
          exact ⟨om e1, rfl⟩
theorem pt_sh {a b : Option Gu} {p : Addr} (h : b.isSome = a.isSome) : ptO b p = ptO a p := by cases a <;> cases b <;> first | rfl | cases h
theorem zip_prs90 (l m : List Int) : List.zipWith (fun x y => D.tup [x, y]) (l.map .int) (m.map .int) = (l.zip m).map fun p => D.tup [.int p.1, .int p.2] := by
  rw [List.zip, List.map_zipWith, List.zipWith_map]
def c_fits (C : Addr) (k : Nat) : Ctr := fun ds c Q _ => ∃ (t : Sort3) (xs os : List Int), ds = [.str (srtS t), .lst (xs.map .int), .lst (os.map .int)] ∧ xs.length = os.length ∧ xs.length ≤ 100 ∧ 4 ≤ k ∧ ∀ c', CLe c c' → Q (fitD (runG (s0 t) (xs.zip os))) c'
def w_fits (C_Guess : Addr) (k : Nat) : WS := (sSeq (sAsg (wLc (wSeq (wTup (wCons (wC (.str "high")) (wCons (wC (.str "low")) wNil)))) (.nm 7) wYes (wIf (wTst (wBin oNe (wVar 0) (wVar 7))) (wMake C_Guess 3 (c_Gu_init C_Guess) k (wCons (wC .non) (wCons (wC .non) wNil))) (wC .non)) [7]) (gTp 2 (gCons' (gNm 3) (gCons' (gNm 4) gNil')))) (sSeq (sFor (wZipS (wVar 1) (wVar 2)) (.tup [(.nm 5), (.nm 6)]) (sIf (wNot (wTst (wCall 4 (c_is_heard C_Guess) k (wCons (wVar 3) (wCons (wVar 4) (wCons (wVar 5) (wCons (wVar 6) wNil))))))) (sRet (wC .non)) sNil)) (sRet (wBi oTuple (wCons (wLc (wSeq (wTup (wCons (wVar 3) (wCons (wVar 4) wNil)))) (.nm 8) wYes (wIf (wTst (wBin oIs (wVar 8) (wC .non))) (wC .non) (wMeth C_Guess "stretch" 1 (c_Gu_stretch C_Guess) k (wVar 8) wNil)) [8]) wNil)))))
theorem p_fits (C_Guess : Addr) (k : Nat) (ds : List D) (c : Cs) (Q : DK) (X0 : XK0) (hlen0 : ds.length = 3) (h : c_fits C_Guess k ds c Q X0) : w_fits C_Guess k (endOf Q) (excOf X0) (enOf 9 ds) c := by
  obtain ⟨t, xs, os, rfl, hl, hz, hk, q⟩ := h
  obtain ⟨k, rfl⟩ : ∃ k', k = k' + 4 := ⟨k - 4, by omega⟩
  refine seq_gen fun D1 r1 _ _ n1 => ?_
  have main : ∀ (p1 p2 : Addr) c1, (∀ ga gb, (s0 t).1 = some ga → (s0 t).2 = some gb → p1 ≠ p2) → AtG C_Guess p1 p2 (s0 t) c1 → CLe c c1 → (∀ y, c p1 ≠ some y) → (∀ y, c p2 ≠ some y) → D1.nx [some (.str (srtS t)), some (.lst (xs.map .int)), some (.lst (os.map .int)), some (ptO (s0 t).1 p1), some (ptO (s0 t).2 p2), none, none, none, none] c1 := fun p1 p2 c1 h12 hat hc1 f1 f2 => by
    refine n1 _ _ (seq_gen fun D2 r2 _ _ n2 => ?_)
    try simp only [List.length_map, sRaise, sTry, wIsX, wWhat, wBack, lo_lst, e_mulV, sizeL, sNil, sSeq, sPass, sBrk, sCont, sExpr, sRet, sRetN, sIf, sNever, sSet, sAug, gNm, gTp, gNil', gCons', gSb, sAsg, sPar, sFor, wVar_z, wVar_s, wC, wChn, wTru, sPar3, wRev, wCallK, permF, List.filterMap_cons, List.filterMap_nil, wBin, wUn, wTst, wNot, wAnd, wOr, wAndV, wOrV, wNotV, wIf, wNil, wCons, wTup, wLst, wLstL, wFz, wCall, wBi, wMt, wMt0, wSl, wSlL, wPart, wNoPart, wYes, wSeq, wRg1, wRg2, wEnum, wZip, wLc, wLcL, wLRg, wFld, sFldS, sFldA, gFld, wMeth, wMake, lvl2_s, onB, e_eqI, e_neI, e_eqB, e_neB, e_eqS, e_neS, e_eqN, e_tyLT, e_ty1, isTys, tyMem, tyN_non, tyN_bl, tyN_int, tyN_str, tyN_tup, tyN_lst, Bool.true_or, Bool.or_true, Bool.or_false, Bool.false_or, Bool.not_true, Bool.not_false, inn_non, inn_bl, inn_int, inn_str, inn_tup, inn_lst, inn_ptr, e_slT, e_slL, e_slN, isT_P, isT_L, isT_T, isT_N, e_sub, e_fdiv, e_mod, e_pow, e_lt, e_le, e_gt, e_ge, e_neg, e_add, e_addS, e_addT, e_addL, e_addPP, e_addPL, e_addLP, e_mul, e_mulL, e_mulT, e_augI, e_ixT, e_ixL, e_ixN, e_ixP, e_lenT, e_lenL, e_lenN, e_lenS, e_lenP, e_abs, e_intI, e_intB, e_max, e_min, e_tupL, e_tupT, e_listL, e_listT, e_listN, e_listLL, e_listLT, e_divmod, e_isNon, e_isntNon, e_isB, e_isntB, e_setIx, e_insert, e_append, e_isL, e_isLL, e_seqP, e_seqL, e_seqT, e_seqN, it_lst, it_fz, Option.bind_some, Option.isSome_some, ix10, ix20, ix21, ix30, ix32, dl1, dl2, dl3, List.eraseIdx_cons_zero, e_pop0, e_popAt, e_rev, e_clear, e_tupP, e_listP, e_neN, e_neIN, e_neNI, e_eqIN, e_eqNI, at0, at1, at2, at3, Cell.lst.injEq, Cell.obj.injEq, Option.some.injEq, exists_eq_left', decide_eq_true_eq, true_and, and_true, cup_same, cup_cup, wZipS, wZipB, List.flatten_nil, List.flatten_cons, enOf, endOf, excOf, List.map_cons, List.map_nil, List.length_cons, List.length_nil, List.replicate, Nat.reduceAdd, Nat.reduceSub, List.cons_append, List.nil_append, List.set_cons_zero, List.set_cons_succ, List.getElem?_cons_zero, List.getElem?_cons_succ, List.getElem_cons_zero, List.getElem_cons_succ, reduceCtorEq, if_true, if_false, Bool.false_eq_true, decide_true, decide_false, ne_eq, not_true, not_false_eq_true, Int.reduceEq, Nat.reduceMul, true_imp_iff, Int.reduceToNat, Int.reducePow, Nat.reducePow, Int.reduceLE, Int.reduceLT, Nat.reduceLT, and_self, Nat.reduceLeDiff, Int.reduceNeg, Int.reduceAdd, Int.reduceSub, Int.reduceMul, Int.cast_ofNat_Int, lvl_s]
    refine ⟨hl, fun _ => ?_⟩
    rw [zip_prs90]
    have fr : ∀ c', Kp p1 p2 c1 c' → CLe c c' := fun c' kp q y e => by
      rw [kp q (fun z => f1 y (z ▸ e)) (fun z => f2 y (z ▸ e))]
      exact hc1 q y e
    refine loopP (fun p : Int × Int => D.tup [.int p.1, .int p.2]) (fun pre en c' => (∃ (s : Gus) (o5 o6 : Option D), en = [some (.str (srtS t)), some (.lst (xs.map .int)), some (.lst (os.map .int)), some (ptO (s0 t).1 p1), some (ptO (s0 t).2 p2), o5, o6, none, none] ∧ AtG C_Guess p1 p2 s c' ∧ runG (s0 t) (xs.zip os) = runG s ((xs.zip os).drop pre.length) ∧ s.1.isSome = (s0 t).1.isSome ∧ s.2.isSome = (s0 t).2.isSome) ∧ Kp p1 p2 c1 c') ⟨⟨s0 t, _, _, rfl, hat, rfl, rfl, rfl⟩, Kp.refl p1 p2 c1⟩ ?_ ?_
    · rintro pre ⟨x, o⟩ post en c2 hs ⟨⟨s, o5, o6, rfl, ha, hrun, sh1, sh2⟩, kp⟩
      refine ⟨by first | trivial | exact ⟨rfl, rfl⟩ | rfl, _, rfl, fun D3 st => ?_⟩
      have hd : (xs.zip os).drop pre.length = (x, o) :: post := by rw [hs]; simp
      rw [hd] at hrun
      try simp only [sRaise, sTry, wIsX, wWhat, wBack, lo_lst, e_mulV, sizeL, sNil, sSeq, sPass, sBrk, sCont, sExpr, sRet, sRetN, sIf, sNever, sSet, sAug, gNm, gTp, gNil', gCons', gSb, sAsg, sPar, sFor, wVar_z, wVar_s, wC, wChn, wTru, sPar3, wRev, wCallK, permF, List.filterMap_cons, List.filterMap_nil, wBin, wUn, wTst, wNot, wAnd, wOr, wAndV, wOrV, wNotV, wIf, wNil, wCons, wTup, wLst, wLstL, wFz, wCall, wBi, wMt, wMt0, wSl, wSlL, wPart, wNoPart, wYes, wSeq, wRg1, wRg2, wEnum, wZip, wLc, wLcL, wLRg, wFld, sFldS, sFldA, gFld, wMeth, wMake, lvl2_s, onB, e_eqI, e_neI, e_eqB, e_neB, e_eqS, e_neS, e_eqN, e_tyLT, e_ty1, isTys, tyMem, tyN_non, tyN_bl, tyN_int, tyN_str, tyN_tup, tyN_lst, Bool.true_or, Bool.or_true, Bool.or_false, Bool.false_or, Bool.not_true, Bool.not_false, inn_non, inn_bl, inn_int, inn_str, inn_tup, inn_lst, inn_ptr, e_slT, e_slL, e_slN, isT_P, isT_L, isT_T, isT_N, e_sub, e_fdiv, e_mod, e_pow, e_lt, e_le, e_gt, e_ge, e_neg, e_add, e_addS, e_addT, e_addL, e_addPP, e_addPL, e_addLP, e_mul, e_mulL, e_mulT, e_augI, e_ixT, e_ixL, e_ixN, e_ixP, e_lenT, e_lenL, e_lenN, e_lenS, e_lenP, e_abs, e_intI, e_intB, e_max, e_min, e_tupL, e_tupT, e_listL, e_listT, e_listN, e_listLL, e_listLT, e_divmod, e_isNon, e_isntNon, e_isB, e_isntB, e_setIx, e_insert, e_append, e_isL, e_isLL, e_seqP, e_seqL, e_seqT, e_seqN, it_lst, it_fz, Option.bind_some, Option.isSome_some, ix10, ix20, ix21, ix30, ix32, dl1, dl2, dl3, List.eraseIdx_cons_zero, e_pop0, e_popAt, e_rev, e_clear, e_tupP, e_listP, e_neN, e_neIN, e_neNI, e_eqIN, e_eqNI, at0, at1, at2, at3, Cell.lst.injEq, Cell.obj.injEq, Option.some.injEq, exists_eq_left', decide_eq_true_eq, true_and, and_true, cup_same, cup_cup, wZipS, wZipB, List.flatten_nil, List.flatten_cons, enOf, endOf, excOf, List.map_cons, List.map_nil, List.length_cons, List.length_nil, List.replicate, Nat.reduceAdd, Nat.reduceSub, List.cons_append, List.nil_append, List.set_cons_zero, List.set_cons_succ, List.getElem?_cons_zero, List.getElem?_cons_succ, List.getElem_cons_zero, List.getElem_cons_succ, reduceCtorEq, if_true, if_false, Bool.false_eq_true, decide_true, decide_false, ne_eq, not_true, not_false_eq_true, Int.reduceEq, Nat.reduceMul, true_imp_iff, Int.reduceToNat, Int.reducePow, Nat.reducePow, Int.reduceLE, Int.reduceLT, Nat.reduceLT, and_self, Nat.reduceLeDiff, Int.reduceNeg, Int.reduceAdd, Int.reduceSub, Int.reduceMul, Int.cast_ofNat_Int, lvl_s]
      refine ⟨p1, p2, s, x, o, by rw [pt_sh sh1, pt_sh sh2], fun ga gb e1 e2 => (by
        have z1 : (s0 t).1.isSome = true := by rw [← sh1, e1]; rfl
        have z2 : (s0 t).2.isSome = true := by rw [← sh2, e2]; rfl
        obtain ⟨y1, z1⟩ := Option.isSome_iff_exists.mp z1
        obtain ⟨y2, z2⟩ := Option.isSome_iff_exists.mp z2
        exact h12 y1 y2 z1 z2), ha, by omega, fun s' c3 hh ha' kp' => ?_, fun hh c3 kp' => ?_⟩
      · try simp only [sRaise, sTry, wIsX, wWhat, wBack, lo_lst, e_mulV, sizeL, sNil, sSeq, sPass, sBrk, sCont, sExpr, sRet, sRetN, sIf, sNever, sSet, sAug, gNm, gTp, gNil', gCons', gSb, sAsg, sPar, sFor, wVar_z, wVar_s, wC, wChn, wTru, sPar3, wRev, wCallK, permF, List.filterMap_cons, List.filterMap_nil, wBin, wUn, wTst, wNot, wAnd, wOr, wAndV, wOrV, wNotV, wIf, wNil, wCons, wTup, wLst, wLstL, wFz, wCall, wBi, wMt, wMt0, wSl, wSlL, wPart, wNoPart, wYes, wSeq, wRg1, wRg2, wEnum, wZip, wLc, wLcL, wLRg, wFld, sFldS, sFldA, gFld, wMeth, wMake, lvl2_s, onB, e_eqI, e_neI, e_eqB, e_neB, e_eqS, e_neS, e_eqN, e_tyLT, e_ty1, isTys, tyMem, tyN_non, tyN_bl, tyN_int, tyN_str, tyN_tup, tyN_lst, Bool.true_or, Bool.or_true, Bool.or_false, Bool.false_or, Bool.not_true, Bool.not_false, inn_non, inn_bl, inn_int, inn_str, inn_tup, inn_lst, inn_ptr, e_slT, e_slL, e_slN, isT_P, isT_L, isT_T, isT_N, e_sub, e_fdiv, e_mod, e_pow, e_lt, e_le, e_gt, e_ge, e_neg, e_add, e_addS, e_addT, e_addL, e_addPP, e_addPL, e_addLP, e_mul, e_mulL, e_mulT, e_augI, e_ixT, e_ixL, e_ixN, e_ixP, e_lenT, e_lenL, e_lenN, e_lenS, e_lenP, e_abs, e_intI, e_intB, e_max, e_min, e_tupL, e_tupT, e_listL, e_listT, e_listN, e_listLL, e_listLT, e_divmod, e_isNon, e_isntNon, e_isB, e_isntB, e_setIx, e_insert, e_append, e_isL, e_isLL, e_seqP, e_seqL, e_seqT, e_seqN, it_lst, it_fz, Option.bind_some, Option.isSome_some, ix10, ix20, ix21, ix30, ix32, dl1, dl2, dl3, List.eraseIdx_cons_zero, e_pop0, e_popAt, e_rev, e_clear, e_tupP, e_listP, e_neN, e_neIN, e_neNI, e_eqIN, e_eqNI, at0, at1, at2, at3, Cell.lst.injEq, Cell.obj.injEq, Option.some.injEq, exists_eq_left', decide_eq_true_eq, true_and, and_true, cup_same, cup_cup, wZipS, wZipB, List.flatten_nil, List.flatten_cons, enOf, endOf, excOf, List.map_cons, List.map_nil, List.length_cons, List.length_nil, List.replicate, Nat.reduceAdd, Nat.reduceSub, List.cons_append, List.nil_append, List.set_cons_zero, List.set_cons_succ, List.getElem?_cons_zero, List.getElem?_cons_succ, List.getElem_cons_zero, List.getElem_cons_succ, reduceCtorEq, if_true, if_false, Bool.false_eq_true, decide_true, decide_false, ne_eq, not_true, not_false_eq_true, Int.reduceEq, Nat.reduceMul, true_imp_iff, Int.reduceToNat, Int.reducePow, Nat.reducePow, Int.reduceLE, Int.reduceLT, Nat.reduceLT, and_self, Nat.reduceLeDiff, Int.reduceNeg, Int.reduceAdd, Int.reduceSub, Int.reduceMul, Int.cast_ofNat_Int, lvl_s]
        refine st.1 _ _ ⟨⟨s', _, _, rfl, ha', ?_, (heard_sh hh).1.trans sh1, (heard_sh hh).2.trans sh2⟩, kp.trans kp'⟩
        have e2 : (xs.zip os).drop (pre ++ [(x, o)]).length = post := by rw [hs]; simp
        rw [e2, hrun]
        show (match heardG s x o with | none => none | some s' => runG s' post) = _
        rw [hh]
      · try simp only [sRaise, sTry, wIsX, wWhat, wBack, lo_lst, e_mulV, sizeL, sNil, sSeq, sPass, sBrk, sCont, sExpr, sRet, sRetN, sIf, sNever, sSet, sAug, gNm, gTp, gNil', gCons', gSb, sAsg, sPar, sFor, wVar_z, wVar_s, wC, wChn, wTru, sPar3, wRev, wCallK, permF, List.filterMap_cons, List.filterMap_nil, wBin, wUn, wTst, wNot, wAnd, wOr, wAndV, wOrV, wNotV, wIf, wNil, wCons, wTup, wLst, wLstL, wFz, wCall, wBi, wMt, wMt0, wSl, wSlL, wPart, wNoPart, wYes, wSeq, wRg1, wRg2, wEnum, wZip, wLc, wLcL, wLRg, wFld, sFldS, sFldA, gFld, wMeth, wMake, lvl2_s, onB, e_eqI, e_neI, e_eqB, e_neB, e_eqS, e_neS, e_eqN, e_tyLT, e_ty1, isTys, tyMem, tyN_non, tyN_bl, tyN_int, tyN_str, tyN_tup, tyN_lst, Bool.true_or, Bool.or_true, Bool.or_false, Bool.false_or, Bool.not_true, Bool.not_false, inn_non, inn_bl, inn_int, inn_str, inn_tup, inn_lst, inn_ptr, e_slT, e_slL, e_slN, isT_P, isT_L, isT_T, isT_N, e_sub, e_fdiv, e_mod, e_pow, e_lt, e_le, e_gt, e_ge, e_neg, e_add, e_addS, e_addT, e_addL, e_addPP, e_addPL, e_addLP, e_mul, e_mulL, e_mulT, e_augI, e_ixT, e_ixL, e_ixN, e_ixP, e_lenT, e_lenL, e_lenN, e_lenS, e_lenP, e_abs, e_intI, e_intB, e_max, e_min, e_tupL, e_tupT, e_listL, e_listT, e_listN, e_listLL, e_listLT, e_divmod, e_isNon, e_isntNon, e_isB, e_isntB, e_setIx, e_insert, e_append, e_isL, e_isLL, e_seqP, e_seqL, e_seqT, e_seqN, it_lst, it_fz, Option.bind_some, Option.isSome_some, ix10, ix20, ix21, ix30, ix32, dl1, dl2, dl3, List.eraseIdx_cons_zero, e_pop0, e_popAt, e_rev, e_clear, e_tupP, e_listP, e_neN, e_neIN, e_neNI, e_eqIN, e_eqNI, at0, at1, at2, at3, Cell.lst.injEq, Cell.obj.injEq, Option.some.injEq, exists_eq_left', decide_eq_true_eq, true_and, and_true, cup_same, cup_cup, wZipS, wZipB, List.flatten_nil, List.flatten_cons, enOf, endOf, excOf, List.map_cons, List.map_nil, List.length_cons, List.length_nil, List.replicate, Nat.reduceAdd, Nat.reduceSub, List.cons_append, List.nil_append, List.set_cons_zero, List.set_cons_succ, List.getElem?_cons_zero, List.getElem?_cons_succ, List.getElem_cons_zero, List.getElem_cons_succ, reduceCtorEq, if_true, if_false, Bool.false_eq_true, decide_true, decide_false, ne_eq, not_true, not_false_eq_true, Int.reduceEq, Nat.reduceMul, true_imp_iff, Int.reduceToNat, Int.reducePow, Nat.reducePow, Int.reduceLE, Int.reduceLT, Nat.reduceLT, and_self, Nat.reduceLeDiff, Int.reduceNeg, Int.reduceAdd, Int.reduceSub, Int.reduceMul, Int.cast_ofNat_Int, lvl_s]
        have e : runG (s0 t) (xs.zip os) = none := by
          rw [hrun]
          show (match heardG s x o with | none => none | some s' => runG s' post) = _
          rw [hh]
        rw [e] at q
        rw [st.2.2.1, r2]
        exact ⟨_, CLe.refl _, q _ (fr _ (kp.trans kp'))⟩
    · rintro en c2 ⟨⟨s, o5, o6, rfl, ha, hrun, sh1, sh2⟩, kp⟩
      refine ⟨by first | trivial | exact ⟨rfl, rfl⟩ | rfl, n2 _ _ ?_⟩
      rw [List.drop_length] at hrun
      have e : runG (s0 t) (xs.zip os) = some s := hrun
      rw [e] at q
      have q := q c2 (fr _ kp)
      obtain ⟨a, b⟩ := s
      rw [← pt_sh sh1, ← pt_sh sh2]
      clear hat hrun e sh1 sh2
      try simp only [sRaise, sTry, wIsX, wWhat, wBack, lo_lst, e_mulV, sizeL, sNil, sSeq, sPass, sBrk, sCont, sExpr, sRet, sRetN, sIf, sNever, sSet, sAug, gNm, gTp, gNil', gCons', gSb, sAsg, sPar, sFor, wVar_z, wVar_s, wC, wChn, wTru, sPar3, wRev, wCallK, permF, List.filterMap_cons, List.filterMap_nil, wBin, wUn, wTst, wNot, wAnd, wOr, wAndV, wOrV, wNotV, wIf, wNil, wCons, wTup, wLst, wLstL, wFz, wCall, wBi, wMt, wMt0, wSl, wSlL, wPart, wNoPart, wYes, wSeq, wRg1, wRg2, wEnum, wZip, wLc, wLcL, wLRg, wFld, sFldS, sFldA, gFld, wMeth, wMake, lvl2_s, onB, e_eqI, e_neI, e_eqB, e_neB, e_eqS, e_neS, e_eqN, e_tyLT, e_ty1, isTys, tyMem, tyN_non, tyN_bl, tyN_int, tyN_str, tyN_tup, tyN_lst, Bool.true_or, Bool.or_true, Bool.or_false, Bool.false_or, Bool.not_true, Bool.not_false, inn_non, inn_bl, inn_int, inn_str, inn_tup, inn_lst, inn_ptr, e_slT, e_slL, e_slN, isT_P, isT_L, isT_T, isT_N, e_sub, e_fdiv, e_mod, e_pow, e_lt, e_le, e_gt, e_ge, e_neg, e_add, e_addS, e_addT, e_addL, e_addPP, e_addPL, e_addLP, e_mul, e_mulL, e_mulT, e_augI, e_ixT, e_ixL, e_ixN, e_ixP, e_lenT, e_lenL, e_lenN, e_lenS, e_lenP, e_abs, e_intI, e_intB, e_max, e_min, e_tupL, e_tupT, e_listL, e_listT, e_listN, e_listLL, e_listLT, e_divmod, e_isNon, e_isntNon, e_isB, e_isntB, e_setIx, e_insert, e_append, e_isL, e_isLL, e_seqP, e_seqL, e_seqT, e_seqN, it_lst, it_fz, Option.bind_some, Option.isSome_some, ix10, ix20, ix21, ix30, ix32, dl1, dl2, dl3, List.eraseIdx_cons_zero, e_pop0, e_popAt, e_rev, e_clear, e_tupP, e_listP, e_neN, e_neIN, e_neNI, e_eqIN, e_eqNI, at0, at1, at2, at3, Cell.lst.injEq, Cell.obj.injEq, Option.some.injEq, exists_eq_left', decide_eq_true_eq, true_and, and_true, cup_same, cup_cup, wZipS, wZipB, List.flatten_nil, List.flatten_cons, enOf, endOf, excOf, List.map_cons, List.map_nil, List.length_cons, List.length_nil, List.replicate, Nat.reduceAdd, Nat.reduceSub, List.cons_append, List.nil_append, List.set_cons_zero, List.set_cons_succ, List.getElem?_cons_zero, List.getElem?_cons_succ, List.getElem_cons_zero, List.getElem_cons_succ, reduceCtorEq, if_true, if_false, Bool.false_eq_true, decide_true, decide_false, ne_eq, not_true, not_false_eq_true, Int.reduceEq, Nat.reduceMul, true_imp_iff, Int.reduceToNat, Int.reducePow, Nat.reducePow, Int.reduceLE, Int.reduceLT, Nat.reduceLT, and_self, Nat.reduceLeDiff, Int.reduceNeg, Int.reduceAdd, Int.reduceSub, Int.reduceMul, Int.cast_ofNat_Int, lvl_s]
      refine lcM (fun e : Option Gu × Addr => ptO e.1 e.2) (as := [(a, p1), (b, p2)]) (fun e => gO e.1) (by first | trivial | rfl) (fun e he => ⟨_, rfl, fun Q' q' => ?_⟩) ?_
      · obtain ⟨e1, e2⟩ := e
        cases e1 with
        | none =>
          try simp only [ewipe, ptO, sRaise, sTry, wIsX, wWhat, wBack, lo_lst, e_mulV, sizeL, sNil, sSeq, sPass, sBrk, sCont, sExpr, sRet, sRetN, sIf, sNever, sSet, sAug, gNm, gTp, gNil', gCons', gSb, sAsg, sPar, sFor, wVar_z, wVar_s, wC, wChn, wTru, sPar3, wRev, wCallK, permF, List.filterMap_cons, List.filterMap_nil, wBin, wUn, wTst, wNot, wAnd, wOr, wAndV, wOrV, wNotV, wIf, wNil, wCons, wTup, wLst, wLstL, wFz, wCall, wBi, wMt, wMt0, wSl, wSlL, wPart, wNoPart, wYes, wSeq, wRg1, wRg2, wEnum, wZip, wLc, wLcL, wLRg, wFld, sFldS, sFldA, gFld, wMeth, wMake, lvl2_s, onB, e_eqI, e_neI, e_eqB, e_neB, e_eqS, e_neS, e_eqN, e_tyLT, e_ty1, isTys, tyMem, tyN_non, tyN_bl, tyN_int, tyN_str, tyN_tup, tyN_lst, Bool.true_or, Bool.or_true, Bool.or_false, Bool.false_or, Bool.not_true, Bool.not_false, inn_non, inn_bl, inn_int, inn_str, inn_tup, inn_lst, inn_ptr, e_slT, e_slL, e_slN, isT_P, isT_L, isT_T, isT_N, e_sub, e_fdiv, e_mod, e_pow, e_lt, e_le, e_gt, e_ge, e_neg, e_add, e_addS, e_addT, e_addL, e_addPP, e_addPL, e_addLP, e_mul, e_mulL, e_mulT, e_augI, e_ixT, e_ixL, e_ixN, e_ixP, e_lenT, e_lenL, e_lenN, e_lenS, e_lenP, e_abs, e_intI, e_intB, e_max, e_min, e_tupL, e_tupT, e_listL, e_listT, e_listN, e_listLL, e_listLT, e_divmod, e_isNon, e_isntNon, e_isB, e_isntB, e_setIx, e_insert, e_append, e_isL, e_isLL, e_seqP, e_seqL, e_seqT, e_seqN, it_lst, it_fz, Option.bind_some, Option.isSome_some, ix10, ix20, ix21, ix30, ix32, dl1, dl2, dl3, List.eraseIdx_cons_zero, e_pop0, e_popAt, e_rev, e_clear, e_tupP, e_listP, e_neN, e_neIN, e_neNI, e_eqIN, e_eqNI, at0, at1, at2, at3, Cell.lst.injEq, Cell.obj.injEq, Option.some.injEq, exists_eq_left', decide_eq_true_eq, true_and, and_true, cup_same, cup_cup, wZipS, wZipB, List.flatten_nil, List.flatten_cons, enOf, endOf, excOf, List.map_cons, List.map_nil, List.length_cons, List.length_nil, List.replicate, Nat.reduceAdd, Nat.reduceSub, List.cons_append, List.nil_append, List.set_cons_zero, List.set_cons_succ, List.getElem?_cons_zero, List.getElem?_cons_succ, List.getElem_cons_zero, List.getElem_cons_succ, reduceCtorEq, if_true, if_false, Bool.false_eq_true, decide_true, decide_false, ne_eq, not_true, not_false_eq_true, Int.reduceEq, Nat.reduceMul, true_imp_iff, Int.reduceToNat, Int.reducePow, Nat.reducePow, Int.reduceLE, Int.reduceLT, Nat.reduceLT, and_self, Nat.reduceLeDiff, Int.reduceNeg, Int.reduceAdd, Int.reduceSub, Int.reduceMul, Int.cast_ofNat_Int, lvl_s]
          exact q'
        | some g =>
          have hc : c2 e2 = some (.obj C_Guess (guF g)) := by
            simp only [List.mem_cons, List.not_mem_nil, or_false, Prod.mk.injEq] at he
            rcases he with ⟨h1, rfl⟩ | ⟨h1, rfl⟩
            · exact ha.low g h1.symm
            · exact ha.high g h1.symm
          try simp only [ewipe, ptO, hc, gf_7, sRaise, sTry, wIsX, wWhat, wBack, lo_lst, e_mulV, sizeL, sNil, sSeq, sPass, sBrk, sCont, sExpr, sRet, sRetN, sIf, sNever, sSet, sAug, gNm, gTp, gNil', gCons', gSb, sAsg, sPar, sFor, wVar_z, wVar_s, wC, wChn, wTru, sPar3, wRev, wCallK, permF, List.filterMap_cons, List.filterMap_nil, wBin, wUn, wTst, wNot, wAnd, wOr, wAndV, wOrV, wNotV, wIf, wNil, wCons, wTup, wLst, wLstL, wFz, wCall, wBi, wMt, wMt0, wSl, wSlL, wPart, wNoPart, wYes, wSeq, wRg1, wRg2, wEnum, wZip, wLc, wLcL, wLRg, wFld, sFldS, sFldA, gFld, wMeth, wMake, lvl2_s, onB, e_eqI, e_neI, e_eqB, e_neB, e_eqS, e_neS, e_eqN, e_tyLT, e_ty1, isTys, tyMem, tyN_non, tyN_bl, tyN_int, tyN_str, tyN_tup, tyN_lst, Bool.true_or, Bool.or_true, Bool.or_false, Bool.false_or, Bool.not_true, Bool.not_false, inn_non, inn_bl, inn_int, inn_str, inn_tup, inn_lst, inn_ptr, e_slT, e_slL, e_slN, isT_P, isT_L, isT_T, isT_N, e_sub, e_fdiv, e_mod, e_pow, e_lt, e_le, e_gt, e_ge, e_neg, e_add, e_addS, e_addT, e_addL, e_addPP, e_addPL, e_addLP, e_mul, e_mulL, e_mulT, e_augI, e_ixT, e_ixL, e_ixN, e_ixP, e_lenT, e_lenL, e_lenN, e_lenS, e_lenP, e_abs, e_intI, e_intB, e_max, e_min, e_tupL, e_tupT, e_listL, e_listT, e_listN, e_listLL, e_listLT, e_divmod, e_isNon, e_isntNon, e_isB, e_isntB, e_setIx, e_insert, e_append, e_isL, e_isLL, e_seqP, e_seqL, e_seqT, e_seqN, it_lst, it_fz, Option.bind_some, Option.isSome_some, ix10, ix20, ix21, ix30, ix32, dl1, dl2, dl3, List.eraseIdx_cons_zero, e_pop0, e_popAt, e_rev, e_clear, e_tupP, e_listP, e_neN, e_neIN, e_neNI, e_eqIN, e_eqNI, at0, at1, at2, at3, Cell.lst.injEq, Cell.obj.injEq, Option.some.injEq, exists_eq_left', decide_eq_true_eq, true_and, and_true, cup_same, cup_cup, wZipS, wZipB, List.flatten_nil, List.flatten_cons, enOf, endOf, excOf, List.map_cons, List.map_nil, List.length_cons, List.length_nil, List.replicate, Nat.reduceAdd, Nat.reduceSub, List.cons_append, List.nil_append, List.set_cons_zero, List.set_cons_succ, List.getElem?_cons_zero, List.getElem?_cons_succ, List.getElem_cons_zero, List.getElem_cons_succ, reduceCtorEq, if_true, if_false, Bool.false_eq_true, decide_true, decide_false, ne_eq, not_true, not_false_eq_true, Int.reduceEq, Nat.reduceMul, true_imp_iff, Int.reduceToNat, Int.reducePow, Nat.reducePow, Int.reduceLE, Int.reduceLT, Nat.reduceLT, and_self, Nat.reduceLeDiff, Int.reduceNeg, Int.reduceAdd, Int.reduceSub, Int.reduceMul, Int.cast_ofNat_Int, lvl_s]
          exact ⟨e2, g, rfl, hc, q'⟩
      · exact ⟨_, CLe.refl _, q⟩
  try simp only [w_fits, sRaise, sTry, wIsX, wWhat, wBack, lo_lst, e_mulV, sizeL, sNil, sSeq, sPass, sBrk, sCont, sExpr, sRet, sRetN, sIf, sNever, sSet, sAug, gNm, gTp, gNil', gCons', gSb, sAsg, sPar, sFor, wVar_z, wVar_s, wC, wChn, wTru, sPar3, wRev, wCallK, permF, List.filterMap_cons, List.filterMap_nil, wBin, wUn, wTst, wNot, wAnd, wOr, wAndV, wOrV, wNotV, wIf, wNil, wCons, wTup, wLst, wLstL, wFz, wCall, wBi, wMt, wMt0, wSl, wSlL, wPart, wNoPart, wYes, wSeq, wRg1, wRg2, wEnum, wZip, wLc, wLcL, wLRg, wFld, sFldS, sFldA, gFld, wMeth, wMake, lvl2_s, onB, e_eqI, e_neI, e_eqB, e_neB, e_eqS, e_neS, e_eqN, e_tyLT, e_ty1, isTys, tyMem, tyN_non, tyN_bl, tyN_int, tyN_str, tyN_tup, tyN_lst, Bool.true_or, Bool.or_true, Bool.or_false, Bool.false_or, Bool.not_true, Bool.not_false, inn_non, inn_bl, inn_int, inn_str, inn_tup, inn_lst, inn_ptr, e_slT, e_slL, e_slN, isT_P, isT_L, isT_T, isT_N, e_sub, e_fdiv, e_mod, e_pow, e_lt, e_le, e_gt, e_ge, e_neg, e_add, e_addS, e_addT, e_addL, e_addPP, e_addPL, e_addLP, e_mul, e_mulL, e_mulT, e_augI, e_ixT, e_ixL, e_ixN, e_ixP, e_lenT, e_lenL, e_lenN, e_lenS, e_lenP, e_abs, e_intI, e_intB, e_max, e_min, e_tupL, e_tupT, e_listL, e_listT, e_listN, e_listLL, e_listLT, e_divmod, e_isNon, e_isntNon, e_isB, e_isntB, e_setIx, e_insert, e_append, e_isL, e_isLL, e_seqP, e_seqL, e_seqT, e_seqN, it_lst, it_fz, Option.bind_some, Option.isSome_some, ix10, ix20, ix21, ix30, ix32, dl1, dl2, dl3, List.eraseIdx_cons_zero, e_pop0, e_popAt, e_rev, e_clear, e_tupP, e_listP, e_neN, e_neIN, e_neNI, e_eqIN, e_eqNI, at0, at1, at2, at3, Cell.lst.injEq, Cell.obj.injEq, Option.some.injEq, exists_eq_left', decide_eq_true_eq, true_and, and_true, cup_same, cup_cup, wZipS, wZipB, List.flatten_nil, List.flatten_cons, enOf, endOf, excOf, List.map_cons, List.map_nil, List.length_cons, List.length_nil, List.replicate, Nat.reduceAdd, Nat.reduceSub, List.cons_append, List.nil_append, List.set_cons_zero, List.set_cons_succ, List.getElem?_cons_zero, List.getElem?_cons_succ, List.getElem_cons_zero, List.getElem_cons_succ, reduceCtorEq, if_true, if_false, Bool.false_eq_true, decide_true, decide_false, ne_eq, not_true, not_false_eq_true, Int.reduceEq, Nat.reduceMul, true_imp_iff, Int.reduceToNat, Int.reducePow, Nat.reducePow, Int.reduceLE, Int.reduceLT, Nat.reduceLT, and_self, Nat.reduceLeDiff, Int.reduceNeg, Int.reduceAdd, Int.reduceSub, Int.reduceMul, Int.cast_ofNat_Int, lvl_s]
  have hcl : ∀ {p : Addr} {x : Cell}, c p = none → CLe c (cup (cup c p (.obj C_Guess [])) p x) := fun {p x} hp => by rw [cup_cup]; exact CLe.new hp (CLe.refl c)
  have nf : ∀ {p : Addr}, c p = none → ∀ y, c p ≠ some y := fun {p} hp y e => by rw [hp] at e; cases e
  cases t with
  | low =>
    simp only [srtS]
    try simp only [lcW, ewipe, bindT, sd_11, sd_12, sRaise, sTry, wIsX, wWhat, wBack, lo_lst, e_mulV, sizeL, sNil, sSeq, sPass, sBrk, sCont, sExpr, sRet, sRetN, sIf, sNever, sSet, sAug, gNm, gTp, gNil', gCons', gSb, sAsg, sPar, sFor, wVar_z, wVar_s, wC, wChn, wTru, sPar3, wRev, wCallK, permF, List.filterMap_cons, List.filterMap_nil, wBin, wUn, wTst, wNot, wAnd, wOr, wAndV, wOrV, wNotV, wIf, wNil, wCons, wTup, wLst, wLstL, wFz, wCall, wBi, wMt, wMt0, wSl, wSlL, wPart, wNoPart, wYes, wSeq, wRg1, wRg2, wEnum, wZip, wLc, wLcL, wLRg, wFld, sFldS, sFldA, gFld, wMeth, wMake, lvl2_s, onB, e_eqI, e_neI, e_eqB, e_neB, e_eqS, e_neS, e_eqN, e_tyLT, e_ty1, isTys, tyMem, tyN_non, tyN_bl, tyN_int, tyN_str, tyN_tup, tyN_lst, Bool.true_or, Bool.or_true, Bool.or_false, Bool.false_or, Bool.not_true, Bool.not_false, inn_non, inn_bl, inn_int, inn_str, inn_tup, inn_lst, inn_ptr, e_slT, e_slL, e_slN, isT_P, isT_L, isT_T, isT_N, e_sub, e_fdiv, e_mod, e_pow, e_lt, e_le, e_gt, e_ge, e_neg, e_add, e_addS, e_addT, e_addL, e_addPP, e_addPL, e_addLP, e_mul, e_mulL, e_mulT, e_augI, e_ixT, e_ixL, e_ixN, e_ixP, e_lenT, e_lenL, e_lenN, e_lenS, e_lenP, e_abs, e_intI, e_intB, e_max, e_min, e_tupL, e_tupT, e_listL, e_listT, e_listN, e_listLL, e_listLT, e_divmod, e_isNon, e_isntNon, e_isB, e_isntB, e_setIx, e_insert, e_append, e_isL, e_isLL, e_seqP, e_seqL, e_seqT, e_seqN, it_lst, it_fz, Option.bind_some, Option.isSome_some, ix10, ix20, ix21, ix30, ix32, dl1, dl2, dl3, List.eraseIdx_cons_zero, e_pop0, e_popAt, e_rev, e_clear, e_tupP, e_listP, e_neN, e_neIN, e_neNI, e_eqIN, e_eqNI, at0, at1, at2, at3, Cell.lst.injEq, Cell.obj.injEq, Option.some.injEq, exists_eq_left', decide_eq_true_eq, true_and, and_true, cup_same, cup_cup, wZipS, wZipB, List.flatten_nil, List.flatten_cons, enOf, endOf, excOf, List.map_cons, List.map_nil, List.length_cons, List.length_nil, List.replicate, Nat.reduceAdd, Nat.reduceSub, List.cons_append, List.nil_append, List.set_cons_zero, List.set_cons_succ, List.getElem?_cons_zero, List.getElem?_cons_succ, List.getElem_cons_zero, List.getElem_cons_succ, reduceCtorEq, if_true, if_false, Bool.false_eq_true, decide_true, decide_false, ne_eq, not_true, not_false_eq_true, Int.reduceEq, Nat.reduceMul, true_imp_iff, Int.reduceToNat, Int.reducePow, Nat.reducePow, Int.reduceLE, Int.reduceLT, Nat.reduceLT, and_self, Nat.reduceLeDiff, Int.reduceNeg, Int.reduceAdd, Int.reduceSub, Int.reduceMul, Int.cast_ofNat_Int, lvl_s]
    intro p hp
    refine ⟨p, rfl, cup_same, ?_⟩
    try simp only [lcW, ewipe, bindT, sd_11, sd_12, sRaise, sTry, wIsX, wWhat, wBack, lo_lst, e_mulV, sizeL, sNil, sSeq, sPass, sBrk, sCont, sExpr, sRet, sRetN, sIf, sNever, sSet, sAug, gNm, gTp, gNil', gCons', gSb, sAsg, sPar, sFor, wVar_z, wVar_s, wC, wChn, wTru, sPar3, wRev, wCallK, permF, List.filterMap_cons, List.filterMap_nil, wBin, wUn, wTst, wNot, wAnd, wOr, wAndV, wOrV, wNotV, wIf, wNil, wCons, wTup, wLst, wLstL, wFz, wCall, wBi, wMt, wMt0, wSl, wSlL, wPart, wNoPart, wYes, wSeq, wRg1, wRg2, wEnum, wZip, wLc, wLcL, wLRg, wFld, sFldS, sFldA, gFld, wMeth, wMake, lvl2_s, onB, e_eqI, e_neI, e_eqB, e_neB, e_eqS, e_neS, e_eqN, e_tyLT, e_ty1, isTys, tyMem, tyN_non, tyN_bl, tyN_int, tyN_str, tyN_tup, tyN_lst, Bool.true_or, Bool.or_true, Bool.or_false, Bool.false_or, Bool.not_true, Bool.not_false, inn_non, inn_bl, inn_int, inn_str, inn_tup, inn_lst, inn_ptr, e_slT, e_slL, e_slN, isT_P, isT_L, isT_T, isT_N, e_sub, e_fdiv, e_mod, e_pow, e_lt, e_le, e_gt, e_ge, e_neg, e_add, e_addS, e_addT, e_addL, e_addPP, e_addPL, e_addLP, e_mul, e_mulL, e_mulT, e_augI, e_ixT, e_ixL, e_ixN, e_ixP, e_lenT, e_lenL, e_lenN, e_lenS, e_lenP, e_abs, e_intI, e_intB, e_max, e_min, e_tupL, e_tupT, e_listL, e_listT, e_listN, e_listLL, e_listLT, e_divmod, e_isNon, e_isntNon, e_isB, e_isntB, e_setIx, e_insert, e_append, e_isL, e_isLL, e_seqP, e_seqL, e_seqT, e_seqN, it_lst, it_fz, Option.bind_some, Option.isSome_some, ix10, ix20, ix21, ix30, ix32, dl1, dl2, dl3, List.eraseIdx_cons_zero, e_pop0, e_popAt, e_rev, e_clear, e_tupP, e_listP, e_neN, e_neIN, e_neNI, e_eqIN, e_eqNI, at0, at1, at2, at3, Cell.lst.injEq, Cell.obj.injEq, Option.some.injEq, exists_eq_left', decide_eq_true_eq, true_and, and_true, cup_same, cup_cup, wZipS, wZipB, List.flatten_nil, List.flatten_cons, enOf, endOf, excOf, List.map_cons, List.map_nil, List.length_cons, List.length_nil, List.replicate, Nat.reduceAdd, Nat.reduceSub, List.cons_append, List.nil_append, List.set_cons_zero, List.set_cons_succ, List.getElem?_cons_zero, List.getElem?_cons_succ, List.getElem_cons_zero, List.getElem_cons_succ, reduceCtorEq, if_true, if_false, Bool.false_eq_true, decide_true, decide_false, ne_eq, not_true, not_false_eq_true, Int.reduceEq, Nat.reduceMul, true_imp_iff, Int.reduceToNat, Int.reducePow, Nat.reducePow, Int.reduceLE, Int.reduceLT, Nat.reduceLT, and_self, Nat.reduceLeDiff, Int.reduceNeg, Int.reduceAdd, Int.reduceSub, Int.reduceMul, Int.cast_ofNat_Int, lvl_s]
    exact main p p _ (fun ga gb _ h => (by cases h)) ⟨fun g h => (by cases h; exact cup_same), fun g h => (by cases h)⟩ (CLe.new hp (CLe.refl c)) (nf hp) (nf hp)
  | high =>
    simp only [srtS]
    try simp only [lcW, ewipe, bindT, sd_21, sd_22, sRaise, sTry, wIsX, wWhat, wBack, lo_lst, e_mulV, sizeL, sNil, sSeq, sPass, sBrk, sCont, sExpr, sRet, sRetN, sIf, sNever, sSet, sAug, gNm, gTp, gNil', gCons', gSb, sAsg, sPar, sFor, wVar_z, wVar_s, wC, wChn, wTru, sPar3, wRev, wCallK, permF, List.filterMap_cons, List.filterMap_nil, wBin, wUn, wTst, wNot, wAnd, wOr, wAndV, wOrV, wNotV, wIf, wNil, wCons, wTup, wLst, wLstL, wFz, wCall, wBi, wMt, wMt0, wSl, wSlL, wPart, wNoPart, wYes, wSeq, wRg1, wRg2, wEnum, wZip, wLc, wLcL, wLRg, wFld, sFldS, sFldA, gFld, wMeth, wMake, lvl2_s, onB, e_eqI, e_neI, e_eqB, e_neB, e_eqS, e_neS, e_eqN, e_tyLT, e_ty1, isTys, tyMem, tyN_non, tyN_bl, tyN_int, tyN_str, tyN_tup, tyN_lst, Bool.true_or, Bool.or_true, Bool.or_false, Bool.false_or, Bool.not_true, Bool.not_false, inn_non, inn_bl, inn_int, inn_str, inn_tup, inn_lst, inn_ptr, e_slT, e_slL, e_slN, isT_P, isT_L, isT_T, isT_N, e_sub, e_fdiv, e_mod, e_pow, e_lt, e_le, e_gt, e_ge, e_neg, e_add, e_addS, e_addT, e_addL, e_addPP, e_addPL, e_addLP, e_mul, e_mulL, e_mulT, e_augI, e_ixT, e_ixL, e_ixN, e_ixP, e_lenT, e_lenL, e_lenN, e_lenS, e_lenP, e_abs, e_intI, e_intB, e_max, e_min, e_tupL, e_tupT, e_listL, e_listT, e_listN, e_listLL, e_listLT, e_divmod, e_isNon, e_isntNon, e_isB, e_isntB, e_setIx, e_insert, e_append, e_isL, e_isLL, e_seqP, e_seqL, e_seqT, e_seqN, it_lst, it_fz, Option.bind_some, Option.isSome_some, ix10, ix20, ix21, ix30, ix32, dl1, dl2, dl3, List.eraseIdx_cons_zero, e_pop0, e_popAt, e_rev, e_clear, e_tupP, e_listP, e_neN, e_neIN, e_neNI, e_eqIN, e_eqNI, at0, at1, at2, at3, Cell.lst.injEq, Cell.obj.injEq, Option.some.injEq, exists_eq_left', decide_eq_true_eq, true_and, and_true, cup_same, cup_cup, wZipS, wZipB, List.flatten_nil, List.flatten_cons, enOf, endOf, excOf, List.map_cons, List.map_nil, List.length_cons, List.length_nil, List.replicate, Nat.reduceAdd, Nat.reduceSub, List.cons_append, List.nil_append, List.set_cons_zero, List.set_cons_succ, List.getElem?_cons_zero, List.getElem?_cons_succ, List.getElem_cons_zero, List.getElem_cons_succ, reduceCtorEq, if_true, if_false, Bool.false_eq_true, decide_true, decide_false, ne_eq, not_true, not_false_eq_true, Int.reduceEq, Nat.reduceMul, true_imp_iff, Int.reduceToNat, Int.reducePow, Nat.reducePow, Int.reduceLE, Int.reduceLT, Nat.reduceLT, and_self, Nat.reduceLeDiff, Int.reduceNeg, Int.reduceAdd, Int.reduceSub, Int.reduceMul, Int.cast_ofNat_Int, lvl_s]
    intro p hp
    refine ⟨p, rfl, cup_same, ?_⟩
    try simp only [lcW, ewipe, bindT, sd_21, sd_22, sRaise, sTry, wIsX, wWhat, wBack, lo_lst, e_mulV, sizeL, sNil, sSeq, sPass, sBrk, sCont, sExpr, sRet, sRetN, sIf, sNever, sSet, sAug, gNm, gTp, gNil', gCons', gSb, sAsg, sPar, sFor, wVar_z, wVar_s, wC, wChn, wTru, sPar3, wRev, wCallK, permF, List.filterMap_cons, List.filterMap_nil, wBin, wUn, wTst, wNot, wAnd, wOr, wAndV, wOrV, wNotV, wIf, wNil, wCons, wTup, wLst, wLstL, wFz, wCall, wBi, wMt, wMt0, wSl, wSlL, wPart, wNoPart, wYes, wSeq, wRg1, wRg2, wEnum, wZip, wLc, wLcL, wLRg, wFld, sFldS, sFldA, gFld, wMeth, wMake, lvl2_s, onB, e_eqI, e_neI, e_eqB, e_neB, e_eqS, e_neS, e_eqN, e_tyLT, e_ty1, isTys, tyMem, tyN_non, tyN_bl, tyN_int, tyN_str, tyN_tup, tyN_lst, Bool.true_or, Bool.or_true, Bool.or_false, Bool.false_or, Bool.not_true, Bool.not_false, inn_non, inn_bl, inn_int, inn_str, inn_tup, inn_lst, inn_ptr, e_slT, e_slL, e_slN, isT_P, isT_L, isT_T, isT_N, e_sub, e_fdiv, e_mod, e_pow, e_lt, e_le, e_gt, e_ge, e_neg, e_add, e_addS, e_addT, e_addL, e_addPP, e_addPL, e_addLP, e_mul, e_mulL, e_mulT, e_augI, e_ixT, e_ixL, e_ixN, e_ixP, e_lenT, e_lenL, e_lenN, e_lenS, e_lenP, e_abs, e_intI, e_intB, e_max, e_min, e_tupL, e_tupT, e_listL, e_listT, e_listN, e_listLL, e_listLT, e_divmod, e_isNon, e_isntNon, e_isB, e_isntB, e_setIx, e_insert, e_append, e_isL, e_isLL, e_seqP, e_seqL, e_seqT, e_seqN, it_lst, it_fz, Option.bind_some, Option.isSome_some, ix10, ix20, ix21, ix30, ix32, dl1, dl2, dl3, List.eraseIdx_cons_zero, e_pop0, e_popAt, e_rev, e_clear, e_tupP, e_listP, e_neN, e_neIN, e_neNI, e_eqIN, e_eqNI, at0, at1, at2, at3, Cell.lst.injEq, Cell.obj.injEq, Option.some.injEq, exists_eq_left', decide_eq_true_eq, true_and, and_true, cup_same, cup_cup, wZipS, wZipB, List.flatten_nil, List.flatten_cons, enOf, endOf, excOf, List.map_cons, List.map_nil, List.length_cons, List.length_nil, List.replicate, Nat.reduceAdd, Nat.reduceSub, List.cons_append, List.nil_append, List.set_cons_zero, List.set_cons_succ, List.getElem?_cons_zero, List.getElem?_cons_succ, List.getElem_cons_zero, List.getElem_cons_succ, reduceCtorEq, if_true, if_false, Bool.false_eq_true, decide_true, decide_false, ne_eq, not_true, not_false_eq_true, Int.reduceEq, Nat.reduceMul, true_imp_iff, Int.reduceToNat, Int.reducePow, Nat.reducePow, Int.reduceLE, Int.reduceLT, Nat.reduceLT, and_self, Nat.reduceLeDiff, Int.reduceNeg, Int.reduceAdd, Int.reduceSub, Int.reduceMul, Int.cast_ofNat_Int, lvl_s]
    exact main p p _ (fun ga gb h _ => (by cases h)) ⟨fun g h => (by cases h), fun g h => (by cases h; exact cup_same)⟩ (CLe.new hp (CLe.refl c)) (nf hp) (nf hp)
  | both =>
    simp only [srtS]
    try simp only [lcW, ewipe, bindT, sd_31, sd_32, sRaise, sTry, wIsX, wWhat, wBack, lo_lst, e_mulV, sizeL, sNil, sSeq, sPass, sBrk, sCont, sExpr, sRet, sRetN, sIf, sNever, sSet, sAug, gNm, gTp, gNil', gCons', gSb, sAsg, sPar, sFor, wVar_z, wVar_s, wC, wChn, wTru, sPar3, wRev, wCallK, permF, List.filterMap_cons, List.filterMap_nil, wBin, wUn, wTst, wNot, wAnd, wOr, wAndV, wOrV, wNotV, wIf, wNil, wCons, wTup, wLst, wLstL, wFz, wCall, wBi, wMt, wMt0, wSl, wSlL, wPart, wNoPart, wYes, wSeq, wRg1, wRg2, wEnum, wZip, wLc, wLcL, wLRg, wFld, sFldS, sFldA, gFld, wMeth, wMake, lvl2_s, onB, e_eqI, e_neI, e_eqB, e_neB, e_eqS, e_neS, e_eqN, e_tyLT, e_ty1, isTys, tyMem, tyN_non, tyN_bl, tyN_int, tyN_str, tyN_tup, tyN_lst, Bool.true_or, Bool.or_true, Bool.or_false, Bool.false_or, Bool.not_true, Bool.not_false, inn_non, inn_bl, inn_int, inn_str, inn_tup, inn_lst, inn_ptr, e_slT, e_slL, e_slN, isT_P, isT_L, isT_T, isT_N, e_sub, e_fdiv, e_mod, e_pow, e_lt, e_le, e_gt, e_ge, e_neg, e_add, e_addS, e_addT, e_addL, e_addPP, e_addPL, e_addLP, e_mul, e_mulL, e_mulT, e_augI, e_ixT, e_ixL, e_ixN, e_ixP, e_lenT, e_lenL, e_lenN, e_lenS, e_lenP, e_abs, e_intI, e_intB, e_max, e_min, e_tupL, e_tupT, e_listL, e_listT, e_listN, e_listLL, e_listLT, e_divmod, e_isNon, e_isntNon, e_isB, e_isntB, e_setIx, e_insert, e_append, e_isL, e_isLL, e_seqP, e_seqL, e_seqT, e_seqN, it_lst, it_fz, Option.bind_some, Option.isSome_some, ix10, ix20, ix21, ix30, ix32, dl1, dl2, dl3, List.eraseIdx_cons_zero, e_pop0, e_popAt, e_rev, e_clear, e_tupP, e_listP, e_neN, e_neIN, e_neNI, e_eqIN, e_eqNI, at0, at1, at2, at3, Cell.lst.injEq, Cell.obj.injEq, Option.some.injEq, exists_eq_left', decide_eq_true_eq, true_and, and_true, cup_same, cup_cup, wZipS, wZipB, List.flatten_nil, List.flatten_cons, enOf, endOf, excOf, List.map_cons, List.map_nil, List.length_cons, List.length_nil, List.replicate, Nat.reduceAdd, Nat.reduceSub, List.cons_append, List.nil_append, List.set_cons_zero, List.set_cons_succ, List.getElem?_cons_zero, List.getElem?_cons_succ, List.getElem_cons_zero, List.getElem_cons_succ, reduceCtorEq, if_true, if_false, Bool.false_eq_true, decide_true, decide_false, ne_eq, not_true, not_false_eq_true, Int.reduceEq, Nat.reduceMul, true_imp_iff, Int.reduceToNat, Int.reducePow, Nat.reducePow, Int.reduceLE, Int.reduceLT, Nat.reduceLT, and_self, Nat.reduceLeDiff, Int.reduceNeg, Int.reduceAdd, Int.reduceSub, Int.reduceMul, Int.cast_ofNat_Int, lvl_s]
    intro p hp
    refine ⟨p, rfl, cup_same, ?_⟩
    try simp only [lcW, ewipe, bindT, sd_31, sd_32, sRaise, sTry, wIsX, wWhat, wBack, lo_lst, e_mulV, sizeL, sNil, sSeq, sPass, sBrk, sCont, sExpr, sRet, sRetN, sIf, sNever, sSet, sAug, gNm, gTp, gNil', gCons', gSb, sAsg, sPar, sFor, wVar_z, wVar_s, wC, wChn, wTru, sPar3, wRev, wCallK, permF, List.filterMap_cons, List.filterMap_nil, wBin, wUn, wTst, wNot, wAnd, wOr, wAndV, wOrV, wNotV, wIf, wNil, wCons, wTup, wLst, wLstL, wFz, wCall, wBi, wMt, wMt0, wSl, wSlL, wPart, wNoPart, wYes, wSeq, wRg1, wRg2, wEnum, wZip, wLc, wLcL, wLRg, wFld, sFldS, sFldA, gFld, wMeth, wMake, lvl2_s, onB, e_eqI, e_neI, e_eqB, e_neB, e_eqS, e_neS, e_eqN, e_tyLT, e_ty1, isTys, tyMem, tyN_non, tyN_bl, tyN_int, tyN_str, tyN_tup, tyN_lst, Bool.true_or, Bool.or_true, Bool.or_false, Bool.false_or, Bool.not_true, Bool.not_false, inn_non, inn_bl, inn_int, inn_str, inn_tup, inn_lst, inn_ptr, e_slT, e_slL, e_slN, isT_P, isT_L, isT_T, isT_N, e_sub, e_fdiv, e_mod, e_pow, e_lt, e_le, e_gt, e_ge, e_neg, e_add, e_addS, e_addT, e_addL, e_addPP, e_addPL, e_addLP, e_mul, e_mulL, e_mulT, e_augI, e_ixT, e_ixL, e_ixN, e_ixP, e_lenT, e_lenL, e_lenN, e_lenS, e_lenP, e_abs, e_intI, e_intB, e_max, e_min, e_tupL, e_tupT, e_listL, e_listT, e_listN, e_listLL, e_listLT, e_divmod, e_isNon, e_isntNon, e_isB, e_isntB, e_setIx, e_insert, e_append, e_isL, e_isLL, e_seqP, e_seqL, e_seqT, e_seqN, it_lst, it_fz, Option.bind_some, Option.isSome_some, ix10, ix20, ix21, ix30, ix32, dl1, dl2, dl3, List.eraseIdx_cons_zero, e_pop0, e_popAt, e_rev, e_clear, e_tupP, e_listP, e_neN, e_neIN, e_neNI, e_eqIN, e_eqNI, at0, at1, at2, at3, Cell.lst.injEq, Cell.obj.injEq, Option.some.injEq, exists_eq_left', decide_eq_true_eq, true_and, and_true, cup_same, cup_cup, wZipS, wZipB, List.flatten_nil, List.flatten_cons, enOf, endOf, excOf, List.map_cons, List.map_nil, List.length_cons, List.length_nil, List.replicate, Nat.reduceAdd, Nat.reduceSub, List.cons_append, List.nil_append, List.set_cons_zero, List.set_cons_succ, List.getElem?_cons_zero, List.getElem?_cons_succ, List.getElem_cons_zero, List.getElem_cons_succ, reduceCtorEq, if_true, if_false, Bool.false_eq_true, decide_true, decide_false, ne_eq, not_true, not_false_eq_true, Int.reduceEq, Nat.reduceMul, true_imp_iff, Int.reduceToNat, Int.reducePow, Nat.reducePow, Int.reduceLE, Int.reduceLT, Nat.reduceLT, and_self, Nat.reduceLeDiff, Int.reduceNeg, Int.reduceAdd, Int.reduceSub, Int.reduceMul, Int.cast_ofNat_Int, lvl_s]
    intro p2 hp2
    have hne : p2 ≠ p := fun z => by rw [z, cup_same] at hp2; cases hp2
    have hp2' : c p2 = none := by rw [cup_ne hne] at hp2; exact hp2
    refine ⟨p2, rfl, cup_same, ?_⟩
    try simp only [lcW, ewipe, bindT, sd_31, sd_32, sRaise, sTry, wIsX, wWhat, wBack, lo_lst, e_mulV, sizeL, sNil, sSeq, sPass, sBrk, sCont, sExpr, sRet, sRetN, sIf, sNever, sSet, sAug, gNm, gTp, gNil', gCons', gSb, sAsg, sPar, sFor, wVar_z, wVar_s, wC, wChn, wTru, sPar3, wRev, wCallK, permF, List.filterMap_cons, List.filterMap_nil, wBin, wUn, wTst, wNot, wAnd, wOr, wAndV, wOrV, wNotV, wIf, wNil, wCons, wTup, wLst, wLstL, wFz, wCall, wBi, wMt, wMt0, wSl, wSlL, wPart, wNoPart, wYes, wSeq, wRg1, wRg2, wEnum, wZip, wLc, wLcL, wLRg, wFld, sFldS, sFldA, gFld, wMeth, wMake, lvl2_s, onB, e_eqI, e_neI, e_eqB, e_neB, e_eqS, e_neS, e_eqN, e_tyLT, e_ty1, isTys, tyMem, tyN_non, tyN_bl, tyN_int, tyN_str, tyN_tup, tyN_lst, Bool.true_or, Bool.or_true, Bool.or_false, Bool.false_or, Bool.not_true, Bool.not_false, inn_non, inn_bl, inn_int, inn_str, inn_tup, inn_lst, inn_ptr, e_slT, e_slL, e_slN, isT_P, isT_L, isT_T, isT_N, e_sub, e_fdiv, e_mod, e_pow, e_lt, e_le, e_gt, e_ge, e_neg, e_add, e_addS, e_addT, e_addL, e_addPP, e_addPL, e_addLP, e_mul, e_mulL, e_mulT, e_augI, e_ixT, e_ixL, e_ixN, e_ixP, e_lenT, e_lenL, e_lenN, e_lenS, e_lenP, e_abs, e_intI, e_intB, e_max, e_min, e_tupL, e_tupT, e_listL, e_listT, e_listN, e_listLL, e_listLT, e_divmod, e_isNon, e_isntNon, e_isB, e_isntB, e_setIx, e_insert, e_append, e_isL, e_isLL, e_seqP, e_seqL, e_seqT, e_seqN, it_lst, it_fz, Option.bind_some, Option.isSome_some, ix10, ix20, ix21, ix30, ix32, dl1, dl2, dl3, List.eraseIdx_cons_zero, e_pop0, e_popAt, e_rev, e_clear, e_tupP, e_listP, e_neN, e_neIN, e_neNI, e_eqIN, e_eqNI, at0, at1, at2, at3, Cell.lst.injEq, Cell.obj.injEq, Option.some.injEq, exists_eq_left', decide_eq_true_eq, true_and, and_true, cup_same, cup_cup, wZipS, wZipB, List.flatten_nil, List.flatten_cons, enOf, endOf, excOf, List.map_cons, List.map_nil, List.length_cons, List.length_nil, List.replicate, Nat.reduceAdd, Nat.reduceSub, List.cons_append, List.nil_append, List.set_cons_zero, List.set_cons_succ, List.getElem?_cons_zero, List.getElem?_cons_succ, List.getElem_cons_zero, List.getElem_cons_succ, reduceCtorEq, if_true, if_false, Bool.false_eq_true, decide_true, decide_false, ne_eq, not_true, not_false_eq_true, Int.reduceEq, Nat.reduceMul, true_imp_iff, Int.reduceToNat, Int.reducePow, Nat.reducePow, Int.reduceLE, Int.reduceLT, Nat.reduceLT, and_self, Nat.reduceLeDiff, Int.reduceNeg, Int.reduceAdd, Int.reduceSub, Int.reduceMul, Int.cast_ofNat_Int, lvl_s]
    exact main p p2 _ (fun ga gb _ _ => Ne.symm hne) ⟨fun g h => (by cases h; rw [cup_ne (Ne.symm hne)]; exact cup_same), fun g h => (by cases h; exact cup_same)⟩ (CLe.new hp2' (CLe.new hp (CLe.refl c))) (nf hp) (nf hp2')
end VL
set_option maxHeartbeats 1000000
set_option maxHeartbeats 1000000
namespace VL
open PySem PySem.Spec PyProof.Rows L2
def c_let_outP (k : Nat) : Ctr := fun ds c Q _ => ∃ (g : Gn) (gd th : D) (xs : List Int), ds = [gd, th] ∧ (gd = gD g ∨ gd = .lst [oD g.1, oD g.2]) ∧ (th = .lst (xs.map .int) ∨ th = .tup (xs.map .int)) ∧ xs.length ≤ 100000 ∧ 2 ≤ k ∧
  ∀ c', CLe c c' → Q (.lst ((outsG g xs).2.map .int)) c'
def w_let_outP (k : Nat) : WS := (sSeq (sAsg (wVar 0) (gTp 2 (gCons' (gNm 3) (gCons' (gNm 4) gNil')))) (sSeq (sPar 5 6 (wCons (wTup (wCons (wTup (wCons (wTup (wCons (wVar 3) (wCons (wVar 4) wNil))) wNil)) (wCons (wTup (wCons (wC (.int 0)) wNil)) wNil))) (wCons (wLstL wNil) wNil))) (sSeq (sFor (wSeq (wVar 1)) (.nm 2) (sSeq (sSet 5 (wTup (wCons (wBin oIx (wVar 5) (wC (.int 0))) (wCons (wTup (wCons (wVar 2) wNil)) wNil)))) (sSeq (sSet 7 (wCall 2 c_exchanged_word k (wCons (wBin oIx (wBin oIx (wVar 5) (wC (.int 0))) (wC (.int 0))) (wCons (wVar 2) wNil)))) (sSeq (sSet 5 (wIf (wTst (wBin oIs (wVar 7) (wC .non))) (wVar 5) (wCall 4 c_exchanged k (wCons (wVar 5) (wCons (wC (.int 0)) (wCons (wC (.int 0)) (wCons (wVar 7) wNil))))))) (sExpr (wMt oAppend (wVar 6) (wCons (wBin oIx (wBin oIx (wVar 5) (wC (.int 1))) (wC (.int 0))) wNil))))))) (sRet (wFz (wVar 6))))))
theorem p_let_outP (k : Nat) (ds : List D) (c : Cs) (Q : DK) (X0 : XK0) (hlen0 : ds.length = 2) (h : c_let_outP k ds c Q X0) : w_let_outP k (endOf Q) (excOf X0) (enOf 8 ds) c := by
  obtain ⟨g, gd, th, xs, rfl, hgd, hth, hxs, hk, q⟩ := h
  obtain ⟨k, rfl⟩ : ∃ k', k = k' + 2 := ⟨k - 2, by omega⟩
  have main : ∀ gd th : D, ∀ a, c a = none → loopW (fun _ => True) (Tg.nm 2) (sSeq (sSet 5 (wTup (wCons (wBin oIx (wVar 5) (wC (.int 0))) (wCons (wTup (wCons (wVar 2) wNil)) wNil)))) (sSeq (sSet 7 (wCall 2 c_exchanged_word (k + 2) (wCons (wBin oIx (wBin oIx (wVar 5) (wC (.int 0))) (wC (.int 0))) (wCons (wVar 2) wNil)))) (sSeq (sSet 5 (wIf (wTst (wBin oIs (wVar 7) (wC .non))) (wVar 5) (wCall 4 c_exchanged (k + 2) (wCons (wVar 5) (wCons (wC (.int 0)) (wCons (wC (.int 0)) (wCons (wVar 7) wNil))))))) (sExpr (wMt oAppend (wVar 6) (wCons (wBin oIx (wBin oIx (wVar 5) (wC (.int 1))) (wC (.int 0))) wNil))))))
      { nx := fun en c => sRet (wFz (wVar 6)) (endOf Q) (excOf X0) en c, rt := fun d c' => ∃ c0, CLe c0 c' ∧ Q d c0 } (excOf X0) (xs.map .int) [some gd, some th, none, some (oD g.1), some (oD g.2), some (.tup [.tup [.tup [oD g.1, oD g.2]], .tup [.int 0]]), some (.ptr a), none] (cup c a (.lst [])) := by
    intro gd th a ha
    refine loop_inv (fun i en c' => (∃ o2 o7 y, en = [some gd, some th, o2, some (oD g.1), some (oD g.2), some (wD ([(outsG g (xs.take i)).1], [y])), some (.ptr a), o7]) ∧ i ≤ xs.length ∧ c' = cup c a (.lst ((outsG g (xs.take i)).2.map .int))) ⟨⟨_, _, 0, rfl⟩, by omega, rfl⟩ ?_ ?_
    · rintro i en c' d hd ⟨⟨o2, o7, y, rfl⟩, hi, rfl⟩
      have hlt := (List.getElem?_eq_some_iff.mp hd).1
      rw [List.length_map] at hlt
      have hq : xs[i]? = some (xs[i]'(by omega)) := List.getElem?_eq_getElem (by omega)
      rw [List.getElem?_map, hq] at hd
      cases hd
      have nxt : xs.take (i + 1) = xs.take i ++ [xs[i]'(by omega)] := by rw [List.take_succ, hq]; rfl
      have tl : (outsG g (xs.take i)).2.length = i := by rw [outs_len, List.length_take]; omega
      generalize hg' : (outsG g (xs.take i)).1 = g'
      generalize hx : xs[i]'(by omega) = x at nxt
      have nx2 : outsG g (xs.take (i + 1)) = ((metG g' x).1, (outsG g (xs.take i)).2 ++ [(metG g' x).2]) := by rw [nxt, outs_snoc, hg']
      refine ⟨trivial, _, rfl, fun D1 h5 h6 h7 h8 => ?_⟩
      simp only [wD, gsD, sRaise, sTry, wIsX, wWhat, wBack, lo_lst, e_mulV, sizeL, sNil, sSeq, sPass, sBrk, sCont, sExpr, sRet, sRetN, sIf, sNever, sSet, sAug, gNm, gTp, gNil', gCons', gSb, sAsg, sPar, sFor, wVar_z, wVar_s, wC, wChn, wTru, sPar3, wRev, wCallK, permF, List.filterMap_cons, List.filterMap_nil, wBin, wUn, wTst, wNot, wAnd, wOr, wAndV, wOrV, wNotV, wIf, wNil, wCons, wTup, wLst, wLstL, wFz, wCall, wBi, wMt, wMt0, wSl, wSlL, wPart, wNoPart, wYes, wSeq, wRg1, wRg2, wEnum, wZip, wLc, wLcL, wLRg, wFld, sFldS, sFldA, gFld, wMeth, wMake, lvl2_s, onB, e_eqI, e_neI, e_eqB, e_neB, e_eqS, e_neS, e_eqN, e_tyLT, e_ty1, isTys, tyMem, tyN_non, tyN_bl, tyN_int, tyN_str, tyN_tup, tyN_lst, Bool.true_or, Bool.or_true, Bool.or_false, Bool.false_or, Bool.not_true, Bool.not_false, inn_non, inn_bl, inn_int, inn_str, inn_tup, inn_lst, inn_ptr, e_slT, e_slL, e_slN, isT_P, isT_L, isT_T, isT_N, e_sub, e_fdiv, e_mod, e_pow, e_lt, e_le, e_gt, e_ge, e_neg, e_add, e_addS, e_addT, e_addL, e_addPP, e_addPL, e_addLP, e_mul, e_mulL, e_mulT, e_augI, e_ixT, e_ixL, e_ixN, e_ixP, e_lenT, e_lenL, e_lenN, e_lenS, e_lenP, e_abs, e_intI, e_intB, e_max, e_min, e_tupL, e_tupT, e_listL, e_listT, e_listN, e_listLL, e_listLT, e_divmod, e_isNon, e_isntNon, e_isB, e_isntB, e_setIx, e_insert, e_append, e_isL, e_isLL, e_seqP, e_seqL, e_seqT, e_seqN, it_lst, it_fz, Option.bind_some, Option.isSome_some, ix10, ix20, ix21, ix30, ix32, dl1, dl2, dl3, List.eraseIdx_cons_zero, e_pop0, e_popAt, e_rev, e_clear, e_tupP, e_listP, e_neN, e_neIN, e_neNI, e_eqIN, e_eqNI, at0, at1, at2, at3, Cell.lst.injEq, Cell.obj.injEq, Option.some.injEq, exists_eq_left', decide_eq_true_eq, true_and, and_true, cup_same, cup_cup, wZipS, wZipB, List.flatten_nil, List.flatten_cons, enOf, endOf, excOf, List.map_cons, List.map_nil, List.length_cons, List.length_nil, List.replicate, Nat.reduceAdd, Nat.reduceSub, List.cons_append, List.nil_append, List.set_cons_zero, List.set_cons_succ, List.getElem?_cons_zero, List.getElem?_cons_succ, List.getElem_cons_zero, List.getElem_cons_succ, reduceCtorEq, if_true, if_false, Bool.false_eq_true, decide_true, decide_false, ne_eq, not_true, not_false_eq_true, Int.reduceEq, Nat.reduceMul, true_imp_iff, Int.reduceToNat, Int.reducePow, Nat.reducePow, Int.reduceLE, Int.reduceLT, Nat.reduceLT, and_self, Nat.reduceLeDiff, Int.reduceNeg, Int.reduceAdd, Int.reduceSub, Int.reduceMul, Int.cast_ofNat_Int, lvl_s]
      refine ⟨g', x, .inl rfl, ?_⟩
      have fin : ∀ o7, D1.nx [some gd, some th, some (.int x), some (oD g.1), some (oD g.2), some (wD ([(metG g' x).1], [(metG g' x).2])), some (.ptr a), o7] (cup c a (.lst ((outsG g (xs.take i)).2.map .int ++ [.int (metG g' x).2]))) := fun o7 => by
        refine h5 _ _ ⟨⟨some (.int x), o7, (metG g' x).2, ?_⟩, by omega, ?_⟩
        · rw [nx2]
        · rw [nx2, List.map_append]; rfl
      cases hw : wordOf g' x with
      | none =>
        have em : metG g' x = (g', x) := by unfold metG; rw [hw]
        rw [em] at fin
        simp only [wordD, sRaise, sTry, wIsX, wWhat, wBack, lo_lst, e_mulV, sizeL, sNil, sSeq, sPass, sBrk, sCont, sExpr, sRet, sRetN, sIf, sNever, sSet, sAug, gNm, gTp, gNil', gCons', gSb, sAsg, sPar, sFor, wVar_z, wVar_s, wC, wChn, wTru, sPar3, wRev, wCallK, permF, List.filterMap_cons, List.filterMap_nil, wBin, wUn, wTst, wNot, wAnd, wOr, wAndV, wOrV, wNotV, wIf, wNil, wCons, wTup, wLst, wLstL, wFz, wCall, wBi, wMt, wMt0, wSl, wSlL, wPart, wNoPart, wYes, wSeq, wRg1, wRg2, wEnum, wZip, wLc, wLcL, wLRg, wFld, sFldS, sFldA, gFld, wMeth, wMake, lvl2_s, onB, e_eqI, e_neI, e_eqB, e_neB, e_eqS, e_neS, e_eqN, e_tyLT, e_ty1, isTys, tyMem, tyN_non, tyN_bl, tyN_int, tyN_str, tyN_tup, tyN_lst, Bool.true_or, Bool.or_true, Bool.or_false, Bool.false_or, Bool.not_true, Bool.not_false, inn_non, inn_bl, inn_int, inn_str, inn_tup, inn_lst, inn_ptr, e_slT, e_slL, e_slN, isT_P, isT_L, isT_T, isT_N, e_sub, e_fdiv, e_mod, e_pow, e_lt, e_le, e_gt, e_ge, e_neg, e_add, e_addS, e_addT, e_addL, e_addPP, e_addPL, e_addLP, e_mul, e_mulL, e_mulT, e_augI, e_ixT, e_ixL, e_ixN, e_ixP, e_lenT, e_lenL, e_lenN, e_lenS, e_lenP, e_abs, e_intI, e_intB, e_max, e_min, e_tupL, e_tupT, e_listL, e_listT, e_listN, e_listLL, e_listLT, e_divmod, e_isNon, e_isntNon, e_isB, e_isntB, e_setIx, e_insert, e_append, e_isL, e_isLL, e_seqP, e_seqL, e_seqT, e_seqN, it_lst, it_fz, Option.bind_some, Option.isSome_some, ix10, ix20, ix21, ix30, ix32, dl1, dl2, dl3, List.eraseIdx_cons_zero, e_pop0, e_popAt, e_rev, e_clear, e_tupP, e_listP, e_neN, e_neIN, e_neNI, e_eqIN, e_eqNI, at0, at1, at2, at3, Cell.lst.injEq, Cell.obj.injEq, Option.some.injEq, exists_eq_left', decide_eq_true_eq, true_and, and_true, cup_same, cup_cup, wZipS, wZipB, List.flatten_nil, List.flatten_cons, enOf, endOf, excOf, List.map_cons, List.map_nil, List.length_cons, List.length_nil, List.replicate, Nat.reduceAdd, Nat.reduceSub, List.cons_append, List.nil_append, List.set_cons_zero, List.set_cons_succ, List.getElem?_cons_zero, List.getElem?_cons_succ, List.getElem_cons_zero, List.getElem_cons_succ, reduceCtorEq, if_true, if_false, Bool.false_eq_true, decide_true, decide_false, ne_eq, not_true, not_false_eq_true, Int.reduceEq, Nat.reduceMul, true_imp_iff, Int.reduceToNat, Int.reducePow, Nat.reducePow, Int.reduceLE, Int.reduceLT, Nat.reduceLT, and_self, Nat.reduceLeDiff, Int.reduceNeg, Int.reduceAdd, Int.reduceSub, Int.reduceMul, Int.cast_ofNat_Int, List.length_map]
        exact ⟨by omega, fin _⟩
      | some b =>
        have hs : (swapG g' x b).2.isSome = true := by
          obtain ⟨y, hy, _⟩ := word_some hw
          rw [hy]; rfl
        have em := met_exch hw
        cases b <;> simp only [wordD, sRaise, sTry, wIsX, wWhat, wBack, lo_lst, e_mulV, sizeL, sNil, sSeq, sPass, sBrk, sCont, sExpr, sRet, sRetN, sIf, sNever, sSet, sAug, gNm, gTp, gNil', gCons', gSb, sAsg, sPar, sFor, wVar_z, wVar_s, wC, wChn, wTru, sPar3, wRev, wCallK, permF, List.filterMap_cons, List.filterMap_nil, wBin, wUn, wTst, wNot, wAnd, wOr, wAndV, wOrV, wNotV, wIf, wNil, wCons, wTup, wLst, wLstL, wFz, wCall, wBi, wMt, wMt0, wSl, wSlL, wPart, wNoPart, wYes, wSeq, wRg1, wRg2, wEnum, wZip, wLc, wLcL, wLRg, wFld, sFldS, sFldA, gFld, wMeth, wMake, lvl2_s, onB, e_eqI, e_neI, e_eqB, e_neB, e_eqS, e_neS, e_eqN, e_tyLT, e_ty1, isTys, tyMem, tyN_non, tyN_bl, tyN_int, tyN_str, tyN_tup, tyN_lst, Bool.true_or, Bool.or_true, Bool.or_false, Bool.false_or, Bool.not_true, Bool.not_false, inn_non, inn_bl, inn_int, inn_str, inn_tup, inn_lst, inn_ptr, e_slT, e_slL, e_slN, isT_P, isT_L, isT_T, isT_N, e_sub, e_fdiv, e_mod, e_pow, e_lt, e_le, e_gt, e_ge, e_neg, e_add, e_addS, e_addT, e_addL, e_addPP, e_addPL, e_addLP, e_mul, e_mulL, e_mulT, e_augI, e_ixT, e_ixL, e_ixN, e_ixP, e_lenT, e_lenL, e_lenN, e_lenS, e_lenP, e_abs, e_intI, e_intB, e_max, e_min, e_tupL, e_tupT, e_listL, e_listT, e_listN, e_listLL, e_listLT, e_divmod, e_isNon, e_isntNon, e_isB, e_isntB, e_setIx, e_insert, e_append, e_isL, e_isLL, e_seqP, e_seqL, e_seqT, e_seqN, it_lst, it_fz, Option.bind_some, Option.isSome_some, ix10, ix20, ix21, ix30, ix32, dl1, dl2, dl3, List.eraseIdx_cons_zero, e_pop0, e_popAt, e_rev, e_clear, e_tupP, e_listP, e_neN, e_neIN, e_neNI, e_eqIN, e_eqNI, at0, at1, at2, at3, Cell.lst.injEq, Cell.obj.injEq, Option.some.injEq, exists_eq_left', decide_eq_true_eq, true_and, and_true, cup_same, cup_cup, wZipS, wZipB, List.flatten_nil, List.flatten_cons, enOf, endOf, excOf, List.map_cons, List.map_nil, List.length_cons, List.length_nil, List.replicate, Nat.reduceAdd, Nat.reduceSub, List.cons_append, List.nil_append, List.set_cons_zero, List.set_cons_succ, List.getElem?_cons_zero, List.getElem?_cons_succ, List.getElem_cons_zero, List.getElem_cons_succ, reduceCtorEq, if_true, if_false, Bool.false_eq_true, decide_true, decide_false, ne_eq, not_true, not_false_eq_true, Int.reduceEq, Nat.reduceMul, true_imp_iff, Int.reduceToNat, Int.reducePow, Nat.reducePow, Int.reduceLE, Int.reduceLT, Nat.reduceLT, and_self, Nat.reduceLeDiff, Int.reduceNeg, Int.reduceAdd, Int.reduceSub, Int.reduceMul, Int.cast_ofNat_Int]
        all_goals
          refine ⟨([g'], [x]), 0, 0, _, rfl, by simp, by simp, by simp, by simp, hs, ?_⟩
          rw [em]
          simp only [wD, gsD, sRaise, sTry, wIsX, wWhat, wBack, lo_lst, e_mulV, sizeL, sNil, sSeq, sPass, sBrk, sCont, sExpr, sRet, sRetN, sIf, sNever, sSet, sAug, gNm, gTp, gNil', gCons', gSb, sAsg, sPar, sFor, wVar_z, wVar_s, wC, wChn, wTru, sPar3, wRev, wCallK, permF, List.filterMap_cons, List.filterMap_nil, wBin, wUn, wTst, wNot, wAnd, wOr, wAndV, wOrV, wNotV, wIf, wNil, wCons, wTup, wLst, wLstL, wFz, wCall, wBi, wMt, wMt0, wSl, wSlL, wPart, wNoPart, wYes, wSeq, wRg1, wRg2, wEnum, wZip, wLc, wLcL, wLRg, wFld, sFldS, sFldA, gFld, wMeth, wMake, lvl2_s, onB, e_eqI, e_neI, e_eqB, e_neB, e_eqS, e_neS, e_eqN, e_tyLT, e_ty1, isTys, tyMem, tyN_non, tyN_bl, tyN_int, tyN_str, tyN_tup, tyN_lst, Bool.true_or, Bool.or_true, Bool.or_false, Bool.false_or, Bool.not_true, Bool.not_false, inn_non, inn_bl, inn_int, inn_str, inn_tup, inn_lst, inn_ptr, e_slT, e_slL, e_slN, isT_P, isT_L, isT_T, isT_N, e_sub, e_fdiv, e_mod, e_pow, e_lt, e_le, e_gt, e_ge, e_neg, e_add, e_addS, e_addT, e_addL, e_addPP, e_addPL, e_addLP, e_mul, e_mulL, e_mulT, e_augI, e_ixT, e_ixL, e_ixN, e_ixP, e_lenT, e_lenL, e_lenN, e_lenS, e_lenP, e_abs, e_intI, e_intB, e_max, e_min, e_tupL, e_tupT, e_listL, e_listT, e_listN, e_listLL, e_listLT, e_divmod, e_isNon, e_isntNon, e_isB, e_isntB, e_setIx, e_insert, e_append, e_isL, e_isLL, e_seqP, e_seqL, e_seqT, e_seqN, it_lst, it_fz, Option.bind_some, Option.isSome_some, ix10, ix20, ix21, ix30, ix32, dl1, dl2, dl3, List.eraseIdx_cons_zero, e_pop0, e_popAt, e_rev, e_clear, e_tupP, e_listP, e_neN, e_neIN, e_neNI, e_eqIN, e_eqNI, at0, at1, at2, at3, Cell.lst.injEq, Cell.obj.injEq, Option.some.injEq, exists_eq_left', decide_eq_true_eq, true_and, and_true, cup_same, cup_cup, wZipS, wZipB, List.flatten_nil, List.flatten_cons, enOf, endOf, excOf, List.map_cons, List.map_nil, List.length_cons, List.length_nil, List.replicate, Nat.reduceAdd, Nat.reduceSub, List.cons_append, List.nil_append, List.set_cons_zero, List.set_cons_succ, List.getElem?_cons_zero, List.getElem?_cons_succ, List.getElem_cons_zero, List.getElem_cons_succ, reduceCtorEq, if_true, if_false, Bool.false_eq_true, decide_true, decide_false, ne_eq, not_true, not_false_eq_true, Int.reduceEq, Nat.reduceMul, true_imp_iff, Int.reduceToNat, Int.reducePow, Nat.reducePow, Int.reduceLE, Int.reduceLT, Nat.reduceLT, and_self, Nat.reduceLeDiff, Int.reduceNeg, Int.reduceAdd, Int.reduceSub, Int.reduceMul, Int.cast_ofNat_Int, List.length_map]
          exact ⟨by omega, fin _⟩
    · rintro en c' ⟨⟨o2, o7, y, rfl⟩, hi, rfl⟩
      refine ⟨trivial, ?_⟩
      rw [List.length_map, List.take_length]
      simp only [sRaise, sTry, wIsX, wWhat, wBack, lo_lst, e_mulV, sizeL, sNil, sSeq, sPass, sBrk, sCont, sExpr, sRet, sRetN, sIf, sNever, sSet, sAug, gNm, gTp, gNil', gCons', gSb, sAsg, sPar, sFor, wVar_z, wVar_s, wC, wChn, wTru, sPar3, wRev, wCallK, permF, List.filterMap_cons, List.filterMap_nil, wBin, wUn, wTst, wNot, wAnd, wOr, wAndV, wOrV, wNotV, wIf, wNil, wCons, wTup, wLst, wLstL, wFz, wCall, wBi, wMt, wMt0, wSl, wSlL, wPart, wNoPart, wYes, wSeq, wRg1, wRg2, wEnum, wZip, wLc, wLcL, wLRg, wFld, sFldS, sFldA, gFld, wMeth, wMake, lvl2_s, onB, e_eqI, e_neI, e_eqB, e_neB, e_eqS, e_neS, e_eqN, e_tyLT, e_ty1, isTys, tyMem, tyN_non, tyN_bl, tyN_int, tyN_str, tyN_tup, tyN_lst, Bool.true_or, Bool.or_true, Bool.or_false, Bool.false_or, Bool.not_true, Bool.not_false, inn_non, inn_bl, inn_int, inn_str, inn_tup, inn_lst, inn_ptr, e_slT, e_slL, e_slN, isT_P, isT_L, isT_T, isT_N, e_sub, e_fdiv, e_mod, e_pow, e_lt, e_le, e_gt, e_ge, e_neg, e_add, e_addS, e_addT, e_addL, e_addPP, e_addPL, e_addLP, e_mul, e_mulL, e_mulT, e_augI, e_ixT, e_ixL, e_ixN, e_ixP, e_lenT, e_lenL, e_lenN, e_lenS, e_lenP, e_abs, e_intI, e_intB, e_max, e_min, e_tupL, e_tupT, e_listL, e_listT, e_listN, e_listLL, e_listLT, e_divmod, e_isNon, e_isntNon, e_isB, e_isntB, e_setIx, e_insert, e_append, e_isL, e_isLL, e_seqP, e_seqL, e_seqT, e_seqN, it_lst, it_fz, Option.bind_some, Option.isSome_some, ix10, ix20, ix21, ix30, ix32, dl1, dl2, dl3, List.eraseIdx_cons_zero, e_pop0, e_popAt, e_rev, e_clear, e_tupP, e_listP, e_neN, e_neIN, e_neNI, e_eqIN, e_eqNI, at0, at1, at2, at3, Cell.lst.injEq, Cell.obj.injEq, Option.some.injEq, exists_eq_left', decide_eq_true_eq, true_and, and_true, cup_same, cup_cup, wZipS, wZipB, List.flatten_nil, List.flatten_cons, enOf, endOf, excOf, List.map_cons, List.map_nil, List.length_cons, List.length_nil, List.replicate, Nat.reduceAdd, Nat.reduceSub, List.cons_append, List.nil_append, List.set_cons_zero, List.set_cons_succ, List.getElem?_cons_zero, List.getElem?_cons_succ, List.getElem_cons_zero, List.getElem_cons_succ, reduceCtorEq, if_true, if_false, Bool.false_eq_true, decide_true, decide_false, ne_eq, not_true, not_false_eq_true, Int.reduceEq, Nat.reduceMul, true_imp_iff, Int.reduceToNat, Int.reducePow, Nat.reducePow, Int.reduceLE, Int.reduceLT, Nat.reduceLT, and_self, Nat.reduceLeDiff, Int.reduceNeg, Int.reduceAdd, Int.reduceSub, Int.reduceMul, Int.cast_ofNat_Int]
      exact ⟨_, CLe.refl _, q _ (CLe.cup_new ha)⟩
  rcases hgd with rfl | rfl <;> rcases hth with rfl | rfl <;> simp only [w_let_outP, gD, sRaise, sTry, wIsX, wWhat, wBack, lo_lst, e_mulV, sizeL, sNil, sSeq, sPass, sBrk, sCont, sExpr, sRet, sRetN, sIf, sNever, sSet, sAug, gNm, gTp, gNil', gCons', gSb, sAsg, sPar, sFor, wVar_z, wVar_s, wC, wChn, wTru, sPar3, wRev, wCallK, permF, List.filterMap_cons, List.filterMap_nil, wBin, wUn, wTst, wNot, wAnd, wOr, wAndV, wOrV, wNotV, wIf, wNil, wCons, wTup, wLst, wLstL, wFz, wCall, wBi, wMt, wMt0, wSl, wSlL, wPart, wNoPart, wYes, wSeq, wRg1, wRg2, wEnum, wZip, wLc, wLcL, wLRg, wFld, sFldS, sFldA, gFld, wMeth, wMake, lvl2_s, onB, e_eqI, e_neI, e_eqB, e_neB, e_eqS, e_neS, e_eqN, e_tyLT, e_ty1, isTys, tyMem, tyN_non, tyN_bl, tyN_int, tyN_str, tyN_tup, tyN_lst, Bool.true_or, Bool.or_true, Bool.or_false, Bool.false_or, Bool.not_true, Bool.not_false, inn_non, inn_bl, inn_int, inn_str, inn_tup, inn_lst, inn_ptr, e_slT, e_slL, e_slN, isT_P, isT_L, isT_T, isT_N, e_sub, e_fdiv, e_mod, e_pow, e_lt, e_le, e_gt, e_ge, e_neg, e_add, e_addS, e_addT, e_addL, e_addPP, e_addPL, e_addLP, e_mul, e_mulL, e_mulT, e_augI, e_ixT, e_ixL, e_ixN, e_ixP, e_lenT, e_lenL, e_lenN, e_lenS, e_lenP, e_abs, e_intI, e_intB, e_max, e_min, e_tupL, e_tupT, e_listL, e_listT, e_listN, e_listLL, e_listLT, e_divmod, e_isNon, e_isntNon, e_isB, e_isntB, e_setIx, e_insert, e_append, e_isL, e_isLL, e_seqP, e_seqL, e_seqT, e_seqN, it_lst, it_fz, Option.bind_some, Option.isSome_some, ix10, ix20, ix21, ix30, ix32, dl1, dl2, dl3, List.eraseIdx_cons_zero, e_pop0, e_popAt, e_rev, e_clear, e_tupP, e_listP, e_neN, e_neIN, e_neNI, e_eqIN, e_eqNI, at0, at1, at2, at3, Cell.lst.injEq, Cell.obj.injEq, Option.some.injEq, exists_eq_left', decide_eq_true_eq, true_and, and_true, cup_same, cup_cup, wZipS, wZipB, List.flatten_nil, List.flatten_cons, enOf, endOf, excOf, List.map_cons, List.map_nil, List.length_cons, List.length_nil, List.replicate, Nat.reduceAdd, Nat.reduceSub, List.cons_append, List.nil_append, List.set_cons_zero, List.set_cons_succ, List.getElem?_cons_zero, List.getElem?_cons_succ, List.getElem_cons_zero, List.getElem_cons_succ, reduceCtorEq, if_true, if_false, Bool.false_eq_true, decide_true, decide_false, ne_eq, not_true, not_false_eq_true, Int.reduceEq, Nat.reduceMul, true_imp_iff, Int.reduceToNat, Int.reducePow, Nat.reducePow, Int.reduceLE, Int.reduceLT, Nat.reduceLT, and_self, Nat.reduceLeDiff, Int.reduceNeg, Int.reduceAdd, Int.reduceSub, Int.reduceMul, Int.cast_ofNat_Int] <;> exact fun a ha _ => main _ _ a ha
end VL
set_option maxHeartbeats 1000000
namespace VL
open PySem PySem.Spec PyProof.Rows L2
def bdI (B x : Int) : Prop := -B ≤ x ∧ x ≤ B
/-- within bounds, in order -/
structure GB (B : Int) (g : Gu) : Prop where
  low : ∀ a, g.1 = some a → bdI B a
  high : ∀ b, g.2.1 = some b → bdI B b
  ord : okGu g
theorem GB.more {B x : Int} {g g' : Gu} (h : GB B g) (hx : bdI B x) (e : noMoreG g x = some g') : GB B g' ∧ g'.1 = g.1 ∧ ∀ b, g.2.1 = some b → ∃ b', g'.2.1 = some b' ∧ b' ≤ b := by
  obtain ⟨a, b, n⟩ := g
  unfold noMoreG at e
  cases n with
  | some n =>
    simp only at e
    split at e
    · cases e; exact ⟨h, rfl, fun b hb => ⟨b, hb, Int.le_refl _⟩⟩
    · cases e
  | none =>
    simp only at e
    split at e
    · rename_i hl
      cases e
      have hm : ∀ m, mostG (a, b, none) x = some m → bdI B m := fun m hm => by
        unfold mostG at hm
        cases b with
        | none => cases hm; exact hx
        | some b =>
          simp only at hm
          split at hm
          · cases hm; exact hx
          · cases hm; exact h.high _ rfl
      refine ⟨⟨h.low, hm, fun a' b' ha hb => ?_⟩, rfl, fun b' hb => ?_⟩
      · simp only at ha hb
        rw [hb, ha] at hl
        simpa [leO] using hl
      · simp only at hb
        subst hb
        unfold mostG
        simp only
        split
        · exact ⟨x, rfl, by omega⟩
        · exact ⟨b', rfl, Int.le_refl _⟩
    · cases e
theorem GB.less {B x : Int} {g g' : Gu} (h : GB B g) (hx : bdI B x) (e : noLessG g x = some g') : GB B g' ∧ g'.2.1 = g.2.1 ∧ ∀ a, g.1 = some a → ∃ a', g'.1 = some a' ∧ a ≤ a' := by
  obtain ⟨a, b, n⟩ := g
  unfold noLessG at e
  cases n with
  | some n =>
    simp only at e
    split at e
    · cases e; exact ⟨h, rfl, fun b hb => ⟨b, hb, Int.le_refl _⟩⟩
    · cases e
  | none =>
    simp only at e
    split at e
    · rename_i hl
      cases e
      have hm : ∀ m, leastG (a, b, none) x = some m → bdI B m := fun m hm => by
        unfold leastG at hm
        cases a with
        | none => cases hm; exact hx
        | some a =>
          simp only at hm
          split at hm
          · cases hm; exact hx
          · cases hm; exact h.low _ rfl
      refine ⟨⟨hm, h.high, fun a' b' ha hb => ?_⟩, rfl, fun a' ha => ?_⟩
      · simp only at ha hb
        rw [ha, hb] at hl
        simpa [leO] using hl
      · simp only at ha
        subst ha
        unfold leastG
        simp only
        split
        · exact ⟨x, rfl, by omega⟩
        · exact ⟨a', rfl, Int.le_refl _⟩
    · cases e
/-- what is told grows narrower -/
structure Nar (g g' : Gu) : Prop where
  low : ∀ a, g.1 = some a → ∃ a', g'.1 = some a' ∧ a ≤ a'
  high : ∀ b, g.2.1 = some b → ∃ b', g'.2.1 = some b' ∧ b' ≤ b
theorem Nar.trans {g h k : Gu} (a : Nar g h) (b : Nar h k) : Nar g k := by
  refine ⟨fun x e => ?_, fun x e => ?_⟩
  · obtain ⟨y, e1, l1⟩ := a.low x e
    obtain ⟨z, e2, l2⟩ := b.low y e1
    exact ⟨z, e2, by omega⟩
  · obtain ⟨y, e1, l1⟩ := a.high x e
    obtain ⟨z, e2, l2⟩ := b.high y e1
    exact ⟨z, e2, by omega⟩
end VL
set_option maxHeartbeats 1000000
set_option maxHeartbeats 1000000
set_option maxHeartbeats 1000000
set_option maxHeartbeats 1000000
set_option maxHeartbeats 1000000
set_option maxHeartbeats 1000000
namespace VL
open PySem PySem.Spec PyProof.Rows L2
def mGu (f : Int → Int) (g : Gu) : Gu := (g.1.map f, g.2.1.map f, g.2.2.map f)
def mGus (f : Int → Int) (s : Gus) : Gus := (s.1.map (mGu f), s.2.map (mGu f))
section
variable {f : Int → Int} (hf : ∀ a b, f a < f b ↔ a < b)
include hf
theorem ri_le (a b : Int) : f a ≤ f b ↔ a ≤ b := by
  have := hf b a
  omega
theorem ri_eq (a b : Int) : f a = f b ↔ a = b := by
  have h1 := ri_le hf a b
  have h2 := ri_le hf b a
  omega
theorem leO_map (a b : Option Int) : leO (a.map f) (b.map f) = leO a b := by
  cases a <;> cases b <;> simp [leO, ri_le hf]
theorem most_map (g : Gu) (x : Int) : mostG (mGu f g) (f x) = (mostG g x).map f := by
  obtain ⟨a, b, n⟩ := g
  cases b with
  | none => rfl
  | some m => by_cases h : x < m <;> simp [mostG, mGu, hf, h]
theorem least_map (g : Gu) (x : Int) : leastG (mGu f g) (f x) = (leastG g x).map f := by
  obtain ⟨a, b, n⟩ := g
  cases a with
  | none => rfl
  | some m => by_cases h : m < x <;> simp [leastG, mGu, hf, h]
theorem noMore_map (g : Gu) (x : Int) : noMoreG (mGu f g) (f x) = (noMoreG g x).map (mGu f) := by
  have h1 := most_map hf g x
  obtain ⟨a, b, n⟩ := g
  cases n with
  | some n =>
    by_cases h : n ≤ x <;> simp [noMoreG, mGu, ri_le hf, h]
  | none =>
    have h2 := leO_map hf a (mostG (a, b, none) x)
    show (if leO (a.map f) (mostG (mGu f (a, b, none)) (f x)) = true then some (a.map f, mostG (mGu f (a, b, none)) (f x), none) else none) = (if leO a (mostG (a, b, none) x) = true then some (a, mostG (a, b, none) x, none) else none).map (mGu f)
    rw [h1, h2]
    split <;> rfl
theorem noLess_map (g : Gu) (x : Int) : noLessG (mGu f g) (f x) = (noLessG g x).map (mGu f) := by
  have h1 := least_map hf g x
  obtain ⟨a, b, n⟩ := g
  cases n with
  | some n =>
    by_cases h : x ≤ n <;> simp [noLessG, mGu, ri_le hf, h]
  | none =>
    have h2 := leO_map hf (leastG (a, b, none) x) b
    show (if leO (leastG (mGu f (a, b, none)) (f x)) (b.map f) = true then some (leastG (mGu f (a, b, none)) (f x), b.map f, none) else none) = (if leO (leastG (a, b, none) x) b = true then some (leastG (a, b, none) x, b, none) else none).map (mGu f)
    rw [h1, h2]
    split <;> rfl
theorem met_mapG (g : Gu) (x y : Int) : metGu (mGu f g) (f x) (f y) = (metGu g x y).map (mGu f) := by
  unfold metGu
  rw [noMore_map hf]
  cases noMoreG g x with
  | none => rfl
  | some g1 =>
    simp only [Option.map_some]
    rw [noLess_map hf]
    cases noLessG g1 x <;> rfl
theorem opt_map {F F' : Gu → Option Gu} (h : ∀ g, F' (mGu f g) = (F g).map (mGu f)) (a : Option Gu) : optG F' (a.map (mGu f)) = (optG F a).map fun b => b.map (mGu f) := by
  cases a with
  | none => rfl
  | some g =>
    simp only [optG, Option.map_some]
    rw [h]
    cases F g <;> rfl
theorem heard_map (s : Gus) (x o : Int) : heardG (mGus f s) (f x) (f o) = (heardG s x o).map (mGus f) := by
  obtain ⟨a, b⟩ := s
  unfold heardG mGus
  simp only
  by_cases h1 : o = x
  · rw [if_pos h1, if_pos (by rw [h1]), opt_map hf (fun g => noMore_map hf g x), opt_map hf (fun g => noLess_map hf g x)]
    cases optG (noMoreG · x) a with
    | none => rfl
    | some a1 =>
      simp only [Option.map_some]
      cases optG (noLessG · x) b <;> rfl
  · rw [if_neg h1, if_neg (fun z => h1 ((ri_eq hf _ _).mp z))]
    by_cases h2 : x < o
    · rw [if_pos h2, if_pos ((hf _ _).mpr h2)]
      cases a with
      | none => rfl
      | some g =>
        simp only [Option.map_some]
        rw [opt_map hf (fun g => noLess_map hf g o)]
        cases optG (noLessG · o) b with
        | none => rfl
        | some b1 =>
          simp only [Option.map_some]
          rw [met_mapG hf]
          cases metGu g o x <;> rfl
    · rw [if_neg h2, if_neg (fun z => h2 ((hf _ _).mp z))]
      cases b with
      | none => rfl
      | some g =>
        simp only [Option.map_some]
        rw [opt_map hf (fun g => noMore_map hf g o)]
        cases optG (noMoreG · o) a with
        | none => rfl
        | some b1 =>
          simp only [Option.map_some]
          rw [met_mapG hf]
          cases metGu g o x <;> rfl
theorem run_map : ∀ (l : List (Int × Int)) (s : Gus), runG (mGus f s) (l.map fun e => (f e.1, f e.2)) = (runG s l).map (mGus f)
  | [], s => rfl
  | (x, o) :: l, s => by
    simp only [List.map_cons, runG]
    rw [heard_map hf]
    cases heardG s x o with
    | none => rfl
    | some s1 => exact run_map l s1
end
theorem s0_map (f : Int → Int) (t : Sort3) : mGus f (s0 t) = s0 t := by cases t <;> rfl
abbrev PrO := Option (Option Int × Option Int)
abbrev Wh := Option (PrO × PrO)
def whG (r : Option Gus) : Wh := r.map fun s => (s.1.map fun g => (g.1, g.2.1), s.2.map fun g => (g.1, g.2.1))
def prO : PrO → D
  | none => .non
  | some e => .tup [oD e.1, oD e.2]
def whD : Wh → D
  | none => .non
  | some e => .tup [prO e.1, prO e.2]
theorem fit_wh (r : Option Gus) : fitD r = whD (whG r) := by
  cases r with
  | none => rfl
  | some s => obtain ⟨a, b⟩ := s; cases a <;> cases b <;> rfl
def mPr (f : Int → Int) (e : PrO) : PrO := e.map fun p => (p.1.map f, p.2.map f)
def mWh (f : Int → Int) (e : Wh) : Wh := e.map fun p => (mPr f p.1, mPr f p.2)
theorem wh_map (f : Int → Int) (r : Option Gus) : whG (r.map (mGus f)) = mWh f (whG r) := by
  cases r with
  | none => rfl
  | some s => obtain ⟨a, b⟩ := s; cases a <;> cases b <;> rfl
/-- upside down -/
def bPr (e : PrO) : PrO := e.map fun p => (p.2.map (- ·), p.1.map (- ·))
def bWh (e : Wh) : Wh := e.map fun p => (bPr p.2, bPr p.1)
def otS : Sort3 → Sort3
  | .low => .high
  | .high => .low
  | .both => .both
def rows42 : List (Sort3 × List Int × List Int × Wh) := [(.low, [3, 1, 2], [5, 3, 2], some (some (some 5, some 5), none)), (.low, [3, 1, 4], [5, 3, 4], some (some (some 5, some 5), none)), (.low, [7, 9], [7, 9], some (some (none, some 7), none)), (.low, [7], [3], none),
  (.low, [3, 4], [5, 2], none), (.high, [7, 9, 8], [5, 7, 8], some (none, some (some 5, some 5))), (.high, [4, 2], [4, 2], some (none, some (some 4, none))), (.high, [3], [4], none), (.both, [1], [5], some (some (some 5, some 5), some (some 5, none))),
  (.both, [], [], some (some (none, none), some (none, none))), (.both, [9], [5], some (some (none, some 5), some (some 5, some 5))), (.both, [1, 9], [5, 6], some (some (some 5, some 5), some (some 6, some 6))), (.both, [4, 6], [4, 6], some (some (none, some 4), some (some 6, none))),
  (.both, [9, 1], [3, 4], none), (.both, [9, 1, 8], [5, 2, 8], some (some (some 2, some 2), some (some 5, some 5))), (.both, [1, 3], [1, 2], some (some (none, some 1), some (some 2, some 2))), (.both, [5, 5, 5], [5, 5, 5], some (some (none, some 5), some (some 5, none))),
  (.both, [2, 1, 2], [3, 2, 2], some (some (some 3, some 3), some (some 3, none)))]
def rowD42 (r : Sort3 × List Int × List Int × Wh) : D := .tup [.str (srtS r.1), .lst (r.2.1.map .int), .lst (r.2.2.1.map .int), whD r.2.2.2]
def okI9 (x : Int) : Bool := decide (0 ≤ x ∧ x ≤ 9)
def okO9 : Option Int → Bool
  | none => true
  | some x => okI9 x
def okP9 : PrO → Bool
  | none => true
  | some e => okO9 e.1 && okO9 e.2
def okW9 : Wh → Bool
  | none => true
  | some e => okP9 e.1 && okP9 e.2
def rowOk (r : Sort3 × List Int × List Int × Wh) : Bool := decide (whG (runG (s0 r.1) (r.2.1.zip r.2.2.1)) = r.2.2.2) && decide (whG (runG (s0 (otS r.1)) ((r.2.1.map (- ·)).zip (r.2.2.1.map (- ·)))) = bWh r.2.2.2) &&
  decide (r.2.1.length = r.2.2.1.length) && decide (r.2.1.length ≤ 3) && (r.2.1 ++ r.2.2.1).all okI9 && okW9 r.2.2.2
theorem rows_ok : rows42.all rowOk = true := by decide +kernel
end VL
set_option maxHeartbeats 1000000
namespace VL
open PySem PySem.Spec PyProof.Rows L2
def byF (b m : Int) (x : Int) : Int := b * x + m
def c_l_end42 (k : Nat) : Ctr := fun ds c Q _ => ∃ (e : PrO) (b m : Int), ds = [prO e, .int b, .int m] ∧ okP9 e = true ∧ 1 ≤ b ∧ b ≤ 1000001 ∧ Q (prO (mPr (byF b m) e)) c
def w_l_end42 (k : Nat) : WS := (sSeq (sIf (wTst (wBin oIs (wVar 0) (wC .non))) (sRet (wC .non)) sNil) (sRet (wBi oTuple (wCons (wLc (wSeq (wVar 0)) (.nm 3) wYes (wIf (wTst (wBin oIs (wVar 3) (wC .non))) (wC .non) (wBin oAdd (wBin oMul (wVar 1) (wVar 3)) (wVar 2))) [3]) wNil))))
theorem p_l_end42 (k : Nat) (ds : List D) (c : Cs) (Q : DK) (X0 : XK0) (hlen0 : ds.length = 3) (h : c_l_end42 k ds c Q X0) : w_l_end42 k (endOf Q) (excOf X0) (enOf 4 ds) c := by
  obtain ⟨e, b, m, rfl, he, hb1, hb2, q⟩ := h
  cases e with
  | none =>
    try simp only [w_l_end42, prO, isNon, sRaise, sTry, wIsX, wWhat, wBack, lo_lst, e_mulV, sizeL, sNil, sSeq, sPass, sBrk, sCont, sExpr, sRet, sRetN, sIf, sNever, sSet, sAug, gNm, gTp, gNil', gCons', gSb, sAsg, sPar, sFor, wVar_z, wVar_s, wC, wChn, wTru, sPar3, wRev, wCallK, permF, List.filterMap_cons, List.filterMap_nil, wBin, wUn, wTst, wNot, wAnd, wOr, wAndV, wOrV, wNotV, wIf, wNil, wCons, wTup, wLst, wLstL, wFz, wCall, wBi, wMt, wMt0, wSl, wSlL, wPart, wNoPart, wYes, wSeq, wRg1, wRg2, wEnum, wZip, wLc, wLcL, wLRg, wFld, sFldS, sFldA, gFld, wMeth, wMake, lvl2_s, onB, e_eqI, e_neI, e_eqB, e_neB, e_eqS, e_neS, e_eqN, e_tyLT, e_ty1, isTys, tyMem, tyN_non, tyN_bl, tyN_int, tyN_str, tyN_tup, tyN_lst, Bool.true_or, Bool.or_true, Bool.or_false, Bool.false_or, Bool.not_true, Bool.not_false, inn_non, inn_bl, inn_int, inn_str, inn_tup, inn_lst, inn_ptr, e_slT, e_slL, e_slN, isT_P, isT_L, isT_T, isT_N, e_sub, e_fdiv, e_mod, e_pow, e_lt, e_le, e_gt, e_ge, e_neg, e_add, e_addS, e_addT, e_addL, e_addPP, e_addPL, e_addLP, e_mul, e_mulL, e_mulT, e_augI, e_ixT, e_ixL, e_ixN, e_ixP, e_lenT, e_lenL, e_lenN, e_lenS, e_lenP, e_abs, e_intI, e_intB, e_max, e_min, e_tupL, e_tupT, e_listL, e_listT, e_listN, e_listLL, e_listLT, e_divmod, e_isNon, e_isntNon, e_isB, e_isntB, e_setIx, e_insert, e_append, e_isL, e_isLL, e_seqP, e_seqL, e_seqT, e_seqN, it_lst, it_fz, Option.bind_some, Option.isSome_some, ix10, ix20, ix21, ix30, ix32, dl1, dl2, dl3, List.eraseIdx_cons_zero, e_pop0, e_popAt, e_rev, e_clear, e_tupP, e_listP, e_neN, e_neIN, e_neNI, e_eqIN, e_eqNI, at0, at1, at2, at3, Cell.lst.injEq, Cell.obj.injEq, Option.some.injEq, exists_eq_left', decide_eq_true_eq, true_and, and_true, cup_same, cup_cup, wSrtIt, wZipS, wZipB, wBackT, List.flatten_nil, List.flatten_cons, enOf, endOf, excOf, List.map_cons, List.map_nil, List.length_cons, List.length_nil, List.replicate, Nat.reduceAdd, Nat.reduceSub, List.cons_append, List.nil_append, List.set_cons_zero, List.set_cons_succ, List.getElem?_cons_zero, List.getElem?_cons_succ, List.getElem_cons_zero, List.getElem_cons_succ, reduceCtorEq, if_true, if_false, Bool.false_eq_true, decide_true, decide_false, ne_eq, not_true, not_false_eq_true, Int.reduceEq, Nat.reduceMul, true_imp_iff, Int.reduceToNat, Int.reducePow, Nat.reducePow, Int.reduceLE, Int.reduceLT, Nat.reduceLT, and_self, Nat.reduceLeDiff, Int.reduceNeg, Int.reduceAdd, Int.reduceSub, Int.reduceMul, Int.cast_ofNat_Int, lvl_s]
    exact ⟨_, CLe.refl _, q⟩
  | some e =>
    obtain ⟨x, y⟩ := e
    try simp only [w_l_end42, prO, isNon, sRaise, sTry, wIsX, wWhat, wBack, lo_lst, e_mulV, sizeL, sNil, sSeq, sPass, sBrk, sCont, sExpr, sRet, sRetN, sIf, sNever, sSet, sAug, gNm, gTp, gNil', gCons', gSb, sAsg, sPar, sFor, wVar_z, wVar_s, wC, wChn, wTru, sPar3, wRev, wCallK, permF, List.filterMap_cons, List.filterMap_nil, wBin, wUn, wTst, wNot, wAnd, wOr, wAndV, wOrV, wNotV, wIf, wNil, wCons, wTup, wLst, wLstL, wFz, wCall, wBi, wMt, wMt0, wSl, wSlL, wPart, wNoPart, wYes, wSeq, wRg1, wRg2, wEnum, wZip, wLc, wLcL, wLRg, wFld, sFldS, sFldA, gFld, wMeth, wMake, lvl2_s, onB, e_eqI, e_neI, e_eqB, e_neB, e_eqS, e_neS, e_eqN, e_tyLT, e_ty1, isTys, tyMem, tyN_non, tyN_bl, tyN_int, tyN_str, tyN_tup, tyN_lst, Bool.true_or, Bool.or_true, Bool.or_false, Bool.false_or, Bool.not_true, Bool.not_false, inn_non, inn_bl, inn_int, inn_str, inn_tup, inn_lst, inn_ptr, e_slT, e_slL, e_slN, isT_P, isT_L, isT_T, isT_N, e_sub, e_fdiv, e_mod, e_pow, e_lt, e_le, e_gt, e_ge, e_neg, e_add, e_addS, e_addT, e_addL, e_addPP, e_addPL, e_addLP, e_mul, e_mulL, e_mulT, e_augI, e_ixT, e_ixL, e_ixN, e_ixP, e_lenT, e_lenL, e_lenN, e_lenS, e_lenP, e_abs, e_intI, e_intB, e_max, e_min, e_tupL, e_tupT, e_listL, e_listT, e_listN, e_listLL, e_listLT, e_divmod, e_isNon, e_isntNon, e_isB, e_isntB, e_setIx, e_insert, e_append, e_isL, e_isLL, e_seqP, e_seqL, e_seqT, e_seqN, it_lst, it_fz, Option.bind_some, Option.isSome_some, ix10, ix20, ix21, ix30, ix32, dl1, dl2, dl3, List.eraseIdx_cons_zero, e_pop0, e_popAt, e_rev, e_clear, e_tupP, e_listP, e_neN, e_neIN, e_neNI, e_eqIN, e_eqNI, at0, at1, at2, at3, Cell.lst.injEq, Cell.obj.injEq, Option.some.injEq, exists_eq_left', decide_eq_true_eq, true_and, and_true, cup_same, cup_cup, wSrtIt, wZipS, wZipB, wBackT, List.flatten_nil, List.flatten_cons, enOf, endOf, excOf, List.map_cons, List.map_nil, List.length_cons, List.length_nil, List.replicate, Nat.reduceAdd, Nat.reduceSub, List.cons_append, List.nil_append, List.set_cons_zero, List.set_cons_succ, List.getElem?_cons_zero, List.getElem?_cons_succ, List.getElem_cons_zero, List.getElem_cons_succ, reduceCtorEq, if_true, if_false, Bool.false_eq_true, decide_true, decide_false, ne_eq, not_true, not_false_eq_true, Int.reduceEq, Nat.reduceMul, true_imp_iff, Int.reduceToNat, Int.reducePow, Nat.reducePow, Int.reduceLE, Int.reduceLT, Nat.reduceLT, and_self, Nat.reduceLeDiff, Int.reduceNeg, Int.reduceAdd, Int.reduceSub, Int.reduceMul, Int.cast_ofNat_Int, lvl_s]
    have e1 : [oD x, oD y] = [x, y].map oD := rfl
    rw [e1]
    refine lcM oD (fun z => oD (z.map (byF b m))) trivial (fun z hz => ⟨_, rfl, fun Q' q' => ?_⟩) ⟨_, CLe.refl _, q⟩
    cases z with
    | none =>
      try simp only [ewipe, oD, isNon, sRaise, sTry, wIsX, wWhat, wBack, lo_lst, e_mulV, sizeL, sNil, sSeq, sPass, sBrk, sCont, sExpr, sRet, sRetN, sIf, sNever, sSet, sAug, gNm, gTp, gNil', gCons', gSb, sAsg, sPar, sFor, wVar_z, wVar_s, wC, wChn, wTru, sPar3, wRev, wCallK, permF, List.filterMap_cons, List.filterMap_nil, wBin, wUn, wTst, wNot, wAnd, wOr, wAndV, wOrV, wNotV, wIf, wNil, wCons, wTup, wLst, wLstL, wFz, wCall, wBi, wMt, wMt0, wSl, wSlL, wPart, wNoPart, wYes, wSeq, wRg1, wRg2, wEnum, wZip, wLc, wLcL, wLRg, wFld, sFldS, sFldA, gFld, wMeth, wMake, lvl2_s, onB, e_eqI, e_neI, e_eqB, e_neB, e_eqS, e_neS, e_eqN, e_tyLT, e_ty1, isTys, tyMem, tyN_non, tyN_bl, tyN_int, tyN_str, tyN_tup, tyN_lst, Bool.true_or, Bool.or_true, Bool.or_false, Bool.false_or, Bool.not_true, Bool.not_false, inn_non, inn_bl, inn_int, inn_str, inn_tup, inn_lst, inn_ptr, e_slT, e_slL, e_slN, isT_P, isT_L, isT_T, isT_N, e_sub, e_fdiv, e_mod, e_pow, e_lt, e_le, e_gt, e_ge, e_neg, e_add, e_addS, e_addT, e_addL, e_addPP, e_addPL, e_addLP, e_mul, e_mulL, e_mulT, e_augI, e_ixT, e_ixL, e_ixN, e_ixP, e_lenT, e_lenL, e_lenN, e_lenS, e_lenP, e_abs, e_intI, e_intB, e_max, e_min, e_tupL, e_tupT, e_listL, e_listT, e_listN, e_listLL, e_listLT, e_divmod, e_isNon, e_isntNon, e_isB, e_isntB, e_setIx, e_insert, e_append, e_isL, e_isLL, e_seqP, e_seqL, e_seqT, e_seqN, it_lst, it_fz, Option.bind_some, Option.isSome_some, ix10, ix20, ix21, ix30, ix32, dl1, dl2, dl3, List.eraseIdx_cons_zero, e_pop0, e_popAt, e_rev, e_clear, e_tupP, e_listP, e_neN, e_neIN, e_neNI, e_eqIN, e_eqNI, at0, at1, at2, at3, Cell.lst.injEq, Cell.obj.injEq, Option.some.injEq, exists_eq_left', decide_eq_true_eq, true_and, and_true, cup_same, cup_cup, wSrtIt, wZipS, wZipB, wBackT, List.flatten_nil, List.flatten_cons, enOf, endOf, excOf, List.map_cons, List.map_nil, List.length_cons, List.length_nil, List.replicate, Nat.reduceAdd, Nat.reduceSub, List.cons_append, List.nil_append, List.set_cons_zero, List.set_cons_succ, List.getElem?_cons_zero, List.getElem?_cons_succ, List.getElem_cons_zero, List.getElem_cons_succ, reduceCtorEq, if_true, if_false, Bool.false_eq_true, decide_true, decide_false, ne_eq, not_true, not_false_eq_true, Int.reduceEq, Nat.reduceMul, true_imp_iff, Int.reduceToNat, Int.reducePow, Nat.reducePow, Int.reduceLE, Int.reduceLT, Nat.reduceLT, and_self, Nat.reduceLeDiff, Int.reduceNeg, Int.reduceAdd, Int.reduceSub, Int.reduceMul, Int.cast_ofNat_Int, lvl_s]
      exact q'
    | some z =>
      try simp only [ewipe, oD, isNon, sRaise, sTry, wIsX, wWhat, wBack, lo_lst, e_mulV, sizeL, sNil, sSeq, sPass, sBrk, sCont, sExpr, sRet, sRetN, sIf, sNever, sSet, sAug, gNm, gTp, gNil', gCons', gSb, sAsg, sPar, sFor, wVar_z, wVar_s, wC, wChn, wTru, sPar3, wRev, wCallK, permF, List.filterMap_cons, List.filterMap_nil, wBin, wUn, wTst, wNot, wAnd, wOr, wAndV, wOrV, wNotV, wIf, wNil, wCons, wTup, wLst, wLstL, wFz, wCall, wBi, wMt, wMt0, wSl, wSlL, wPart, wNoPart, wYes, wSeq, wRg1, wRg2, wEnum, wZip, wLc, wLcL, wLRg, wFld, sFldS, sFldA, gFld, wMeth, wMake, lvl2_s, onB, e_eqI, e_neI, e_eqB, e_neB, e_eqS, e_neS, e_eqN, e_tyLT, e_ty1, isTys, tyMem, tyN_non, tyN_bl, tyN_int, tyN_str, tyN_tup, tyN_lst, Bool.true_or, Bool.or_true, Bool.or_false, Bool.false_or, Bool.not_true, Bool.not_false, inn_non, inn_bl, inn_int, inn_str, inn_tup, inn_lst, inn_ptr, e_slT, e_slL, e_slN, isT_P, isT_L, isT_T, isT_N, e_sub, e_fdiv, e_mod, e_pow, e_lt, e_le, e_gt, e_ge, e_neg, e_add, e_addS, e_addT, e_addL, e_addPP, e_addPL, e_addLP, e_mul, e_mulL, e_mulT, e_augI, e_ixT, e_ixL, e_ixN, e_ixP, e_lenT, e_lenL, e_lenN, e_lenS, e_lenP, e_abs, e_intI, e_intB, e_max, e_min, e_tupL, e_tupT, e_listL, e_listT, e_listN, e_listLL, e_listLT, e_divmod, e_isNon, e_isntNon, e_isB, e_isntB, e_setIx, e_insert, e_append, e_isL, e_isLL, e_seqP, e_seqL, e_seqT, e_seqN, it_lst, it_fz, Option.bind_some, Option.isSome_some, ix10, ix20, ix21, ix30, ix32, dl1, dl2, dl3, List.eraseIdx_cons_zero, e_pop0, e_popAt, e_rev, e_clear, e_tupP, e_listP, e_neN, e_neIN, e_neNI, e_eqIN, e_eqNI, at0, at1, at2, at3, Cell.lst.injEq, Cell.obj.injEq, Option.some.injEq, exists_eq_left', decide_eq_true_eq, true_and, and_true, cup_same, cup_cup, wSrtIt, wZipS, wZipB, wBackT, List.flatten_nil, List.flatten_cons, enOf, endOf, excOf, List.map_cons, List.map_nil, List.length_cons, List.length_nil, List.replicate, Nat.reduceAdd, Nat.reduceSub, List.cons_append, List.nil_append, List.set_cons_zero, List.set_cons_succ, List.getElem?_cons_zero, List.getElem?_cons_succ, List.getElem_cons_zero, List.getElem_cons_succ, reduceCtorEq, if_true, if_false, Bool.false_eq_true, decide_true, decide_false, ne_eq, not_true, not_false_eq_true, Int.reduceEq, Nat.reduceMul, true_imp_iff, Int.reduceToNat, Int.reducePow, Nat.reducePow, Int.reduceLE, Int.reduceLT, Nat.reduceLT, and_self, Nat.reduceLeDiff, Int.reduceNeg, Int.reduceAdd, Int.reduceSub, Int.reduceMul, Int.cast_ofNat_Int, lvl_s]
      exact ⟨mul64 (by omega) (by omega), q'⟩
def c_l_back42 (k : Nat) : Ctr := fun ds c Q _ => ∃ (e : PrO), ds = [prO e] ∧ Q (prO (bPr e)) c
def w_l_back42 (k : Nat) : WS := (sSeq (sIf (wTst (wBin oIs (wVar 0) (wC .non))) (sRet (wC .non)) sNil) (sRet (wBi oTuple (wCons (wLc (wSeq (wBackT (wVar 0))) (.nm 1) wYes (wIf (wTst (wBin oIs (wVar 1) (wC .non))) (wC .non) (wUn oNeg (wVar 1))) [1]) wNil))))
theorem p_l_back42 (k : Nat) (ds : List D) (c : Cs) (Q : DK) (X0 : XK0) (hlen0 : ds.length = 1) (h : c_l_back42 k ds c Q X0) : w_l_back42 k (endOf Q) (excOf X0) (enOf 2 ds) c := by
  obtain ⟨e, rfl, q⟩ := h
  cases e with
  | none =>
    try simp only [w_l_back42, prO, isNon, sRaise, sTry, wIsX, wWhat, wBack, lo_lst, e_mulV, sizeL, sNil, sSeq, sPass, sBrk, sCont, sExpr, sRet, sRetN, sIf, sNever, sSet, sAug, gNm, gTp, gNil', gCons', gSb, sAsg, sPar, sFor, wVar_z, wVar_s, wC, wChn, wTru, sPar3, wRev, wCallK, permF, List.filterMap_cons, List.filterMap_nil, wBin, wUn, wTst, wNot, wAnd, wOr, wAndV, wOrV, wNotV, wIf, wNil, wCons, wTup, wLst, wLstL, wFz, wCall, wBi, wMt, wMt0, wSl, wSlL, wPart, wNoPart, wYes, wSeq, wRg1, wRg2, wEnum, wZip, wLc, wLcL, wLRg, wFld, sFldS, sFldA, gFld, wMeth, wMake, lvl2_s, onB, e_eqI, e_neI, e_eqB, e_neB, e_eqS, e_neS, e_eqN, e_tyLT, e_ty1, isTys, tyMem, tyN_non, tyN_bl, tyN_int, tyN_str, tyN_tup, tyN_lst, Bool.true_or, Bool.or_true, Bool.or_false, Bool.false_or, Bool.not_true, Bool.not_false, inn_non, inn_bl, inn_int, inn_str, inn_tup, inn_lst, inn_ptr, e_slT, e_slL, e_slN, isT_P, isT_L, isT_T, isT_N, e_sub, e_fdiv, e_mod, e_pow, e_lt, e_le, e_gt, e_ge, e_neg, e_add, e_addS, e_addT, e_addL, e_addPP, e_addPL, e_addLP, e_mul, e_mulL, e_mulT, e_augI, e_ixT, e_ixL, e_ixN, e_ixP, e_lenT, e_lenL, e_lenN, e_lenS, e_lenP, e_abs, e_intI, e_intB, e_max, e_min, e_tupL, e_tupT, e_listL, e_listT, e_listN, e_listLL, e_listLT, e_divmod, e_isNon, e_isntNon, e_isB, e_isntB, e_setIx, e_insert, e_append, e_isL, e_isLL, e_seqP, e_seqL, e_seqT, e_seqN, it_lst, it_fz, Option.bind_some, Option.isSome_some, ix10, ix20, ix21, ix30, ix32, dl1, dl2, dl3, List.eraseIdx_cons_zero, e_pop0, e_popAt, e_rev, e_clear, e_tupP, e_listP, e_neN, e_neIN, e_neNI, e_eqIN, e_eqNI, at0, at1, at2, at3, Cell.lst.injEq, Cell.obj.injEq, Option.some.injEq, exists_eq_left', decide_eq_true_eq, true_and, and_true, cup_same, cup_cup, wSrtIt, wZipS, wZipB, wBackT, List.flatten_nil, List.flatten_cons, enOf, endOf, excOf, List.map_cons, List.map_nil, List.length_cons, List.length_nil, List.replicate, Nat.reduceAdd, Nat.reduceSub, List.cons_append, List.nil_append, List.set_cons_zero, List.set_cons_succ, List.getElem?_cons_zero, List.getElem?_cons_succ, List.getElem_cons_zero, List.getElem_cons_succ, reduceCtorEq, if_true, if_false, Bool.false_eq_true, decide_true, decide_false, ne_eq, not_true, not_false_eq_true, Int.reduceEq, Nat.reduceMul, true_imp_iff, Int.reduceToNat, Int.reducePow, Nat.reducePow, Int.reduceLE, Int.reduceLT, Nat.reduceLT, and_self, Nat.reduceLeDiff, Int.reduceNeg, Int.reduceAdd, Int.reduceSub, Int.reduceMul, Int.cast_ofNat_Int, lvl_s]
    exact ⟨_, CLe.refl _, q⟩
  | some e =>
    obtain ⟨x, y⟩ := e
    try simp only [w_l_back42, prO, isNon, sRaise, sTry, wIsX, wWhat, wBack, lo_lst, e_mulV, sizeL, sNil, sSeq, sPass, sBrk, sCont, sExpr, sRet, sRetN, sIf, sNever, sSet, sAug, gNm, gTp, gNil', gCons', gSb, sAsg, sPar, sFor, wVar_z, wVar_s, wC, wChn, wTru, sPar3, wRev, wCallK, permF, List.filterMap_cons, List.filterMap_nil, wBin, wUn, wTst, wNot, wAnd, wOr, wAndV, wOrV, wNotV, wIf, wNil, wCons, wTup, wLst, wLstL, wFz, wCall, wBi, wMt, wMt0, wSl, wSlL, wPart, wNoPart, wYes, wSeq, wRg1, wRg2, wEnum, wZip, wLc, wLcL, wLRg, wFld, sFldS, sFldA, gFld, wMeth, wMake, lvl2_s, onB, e_eqI, e_neI, e_eqB, e_neB, e_eqS, e_neS, e_eqN, e_tyLT, e_ty1, isTys, tyMem, tyN_non, tyN_bl, tyN_int, tyN_str, tyN_tup, tyN_lst, Bool.true_or, Bool.or_true, Bool.or_false, Bool.false_or, Bool.not_true, Bool.not_false, inn_non, inn_bl, inn_int, inn_str, inn_tup, inn_lst, inn_ptr, e_slT, e_slL, e_slN, isT_P, isT_L, isT_T, isT_N, e_sub, e_fdiv, e_mod, e_pow, e_lt, e_le, e_gt, e_ge, e_neg, e_add, e_addS, e_addT, e_addL, e_addPP, e_addPL, e_addLP, e_mul, e_mulL, e_mulT, e_augI, e_ixT, e_ixL, e_ixN, e_ixP, e_lenT, e_lenL, e_lenN, e_lenS, e_lenP, e_abs, e_intI, e_intB, e_max, e_min, e_tupL, e_tupT, e_listL, e_listT, e_listN, e_listLL, e_listLT, e_divmod, e_isNon, e_isntNon, e_isB, e_isntB, e_setIx, e_insert, e_append, e_isL, e_isLL, e_seqP, e_seqL, e_seqT, e_seqN, it_lst, it_fz, Option.bind_some, Option.isSome_some, ix10, ix20, ix21, ix30, ix32, dl1, dl2, dl3, List.eraseIdx_cons_zero, e_pop0, e_popAt, e_rev, e_clear, e_tupP, e_listP, e_neN, e_neIN, e_neNI, e_eqIN, e_eqNI, at0, at1, at2, at3, Cell.lst.injEq, Cell.obj.injEq, Option.some.injEq, exists_eq_left', decide_eq_true_eq, true_and, and_true, cup_same, cup_cup, wSrtIt, wZipS, wZipB, wBackT, List.flatten_nil, List.flatten_cons, enOf, endOf, excOf, List.map_cons, List.map_nil, List.length_cons, List.length_nil, List.replicate, Nat.reduceAdd, Nat.reduceSub, List.cons_append, List.nil_append, List.set_cons_zero, List.set_cons_succ, List.getElem?_cons_zero, List.getElem?_cons_succ, List.getElem_cons_zero, List.getElem_cons_succ, reduceCtorEq, if_true, if_false, Bool.false_eq_true, decide_true, decide_false, ne_eq, not_true, not_false_eq_true, Int.reduceEq, Nat.reduceMul, true_imp_iff, Int.reduceToNat, Int.reducePow, Nat.reducePow, Int.reduceLE, Int.reduceLT, Nat.reduceLT, and_self, Nat.reduceLeDiff, Int.reduceNeg, Int.reduceAdd, Int.reduceSub, Int.reduceMul, Int.cast_ofNat_Int, lvl_s]
    have e1 : [oD x, oD y].reverse = [y, x].map oD := rfl
    rw [e1]
    refine fun hz => ⟨hz, lcM oD (fun z => oD (z.map (- ·))) trivial (fun z hz => ⟨_, rfl, fun Q' q' => ?_⟩) ⟨_, CLe.refl _, q⟩⟩
    cases z with
    | none =>
      try simp only [ewipe, oD, isNon, sRaise, sTry, wIsX, wWhat, wBack, lo_lst, e_mulV, sizeL, sNil, sSeq, sPass, sBrk, sCont, sExpr, sRet, sRetN, sIf, sNever, sSet, sAug, gNm, gTp, gNil', gCons', gSb, sAsg, sPar, sFor, wVar_z, wVar_s, wC, wChn, wTru, sPar3, wRev, wCallK, permF, List.filterMap_cons, List.filterMap_nil, wBin, wUn, wTst, wNot, wAnd, wOr, wAndV, wOrV, wNotV, wIf, wNil, wCons, wTup, wLst, wLstL, wFz, wCall, wBi, wMt, wMt0, wSl, wSlL, wPart, wNoPart, wYes, wSeq, wRg1, wRg2, wEnum, wZip, wLc, wLcL, wLRg, wFld, sFldS, sFldA, gFld, wMeth, wMake, lvl2_s, onB, e_eqI, e_neI, e_eqB, e_neB, e_eqS, e_neS, e_eqN, e_tyLT, e_ty1, isTys, tyMem, tyN_non, tyN_bl, tyN_int, tyN_str, tyN_tup, tyN_lst, Bool.true_or, Bool.or_true, Bool.or_false, Bool.false_or, Bool.not_true, Bool.not_false, inn_non, inn_bl, inn_int, inn_str, inn_tup, inn_lst, inn_ptr, e_slT, e_slL, e_slN, isT_P, isT_L, isT_T, isT_N, e_sub, e_fdiv, e_mod, e_pow, e_lt, e_le, e_gt, e_ge, e_neg, e_add, e_addS, e_addT, e_addL, e_addPP, e_addPL, e_addLP, e_mul, e_mulL, e_mulT, e_augI, e_ixT, e_ixL, e_ixN, e_ixP, e_lenT, e_lenL, e_lenN, e_lenS, e_lenP, e_abs, e_intI, e_intB, e_max, e_min, e_tupL, e_tupT, e_listL, e_listT, e_listN, e_listLL, e_listLT, e_divmod, e_isNon, e_isntNon, e_isB, e_isntB, e_setIx, e_insert, e_append, e_isL, e_isLL, e_seqP, e_seqL, e_seqT, e_seqN, it_lst, it_fz, Option.bind_some, Option.isSome_some, ix10, ix20, ix21, ix30, ix32, dl1, dl2, dl3, List.eraseIdx_cons_zero, e_pop0, e_popAt, e_rev, e_clear, e_tupP, e_listP, e_neN, e_neIN, e_neNI, e_eqIN, e_eqNI, at0, at1, at2, at3, Cell.lst.injEq, Cell.obj.injEq, Option.some.injEq, exists_eq_left', decide_eq_true_eq, true_and, and_true, cup_same, cup_cup, wSrtIt, wZipS, wZipB, wBackT, List.flatten_nil, List.flatten_cons, enOf, endOf, excOf, List.map_cons, List.map_nil, List.length_cons, List.length_nil, List.replicate, Nat.reduceAdd, Nat.reduceSub, List.cons_append, List.nil_append, List.set_cons_zero, List.set_cons_succ, List.getElem?_cons_zero, List.getElem?_cons_succ, List.getElem_cons_zero, List.getElem_cons_succ, reduceCtorEq, if_true, if_false, Bool.false_eq_true, decide_true, decide_false, ne_eq, not_true, not_false_eq_true, Int.reduceEq, Nat.reduceMul, true_imp_iff, Int.reduceToNat, Int.reducePow, Nat.reducePow, Int.reduceLE, Int.reduceLT, Nat.reduceLT, and_self, Nat.reduceLeDiff, Int.reduceNeg, Int.reduceAdd, Int.reduceSub, Int.reduceMul, Int.cast_ofNat_Int, lvl_s]
      exact q'
    | some z =>
      try simp only [ewipe, oD, isNon, sRaise, sTry, wIsX, wWhat, wBack, lo_lst, e_mulV, sizeL, sNil, sSeq, sPass, sBrk, sCont, sExpr, sRet, sRetN, sIf, sNever, sSet, sAug, gNm, gTp, gNil', gCons', gSb, sAsg, sPar, sFor, wVar_z, wVar_s, wC, wChn, wTru, sPar3, wRev, wCallK, permF, List.filterMap_cons, List.filterMap_nil, wBin, wUn, wTst, wNot, wAnd, wOr, wAndV, wOrV, wNotV, wIf, wNil, wCons, wTup, wLst, wLstL, wFz, wCall, wBi, wMt, wMt0, wSl, wSlL, wPart, wNoPart, wYes, wSeq, wRg1, wRg2, wEnum, wZip, wLc, wLcL, wLRg, wFld, sFldS, sFldA, gFld, wMeth, wMake, lvl2_s, onB, e_eqI, e_neI, e_eqB, e_neB, e_eqS, e_neS, e_eqN, e_tyLT, e_ty1, isTys, tyMem, tyN_non, tyN_bl, tyN_int, tyN_str, tyN_tup, tyN_lst, Bool.true_or, Bool.or_true, Bool.or_false, Bool.false_or, Bool.not_true, Bool.not_false, inn_non, inn_bl, inn_int, inn_str, inn_tup, inn_lst, inn_ptr, e_slT, e_slL, e_slN, isT_P, isT_L, isT_T, isT_N, e_sub, e_fdiv, e_mod, e_pow, e_lt, e_le, e_gt, e_ge, e_neg, e_add, e_addS, e_addT, e_addL, e_addPP, e_addPL, e_addLP, e_mul, e_mulL, e_mulT, e_augI, e_ixT, e_ixL, e_ixN, e_ixP, e_lenT, e_lenL, e_lenN, e_lenS, e_lenP, e_abs, e_intI, e_intB, e_max, e_min, e_tupL, e_tupT, e_listL, e_listT, e_listN, e_listLL, e_listLT, e_divmod, e_isNon, e_isntNon, e_isB, e_isntB, e_setIx, e_insert, e_append, e_isL, e_isLL, e_seqP, e_seqL, e_seqT, e_seqN, it_lst, it_fz, Option.bind_some, Option.isSome_some, ix10, ix20, ix21, ix30, ix32, dl1, dl2, dl3, List.eraseIdx_cons_zero, e_pop0, e_popAt, e_rev, e_clear, e_tupP, e_listP, e_neN, e_neIN, e_neNI, e_eqIN, e_eqNI, at0, at1, at2, at3, Cell.lst.injEq, Cell.obj.injEq, Option.some.injEq, exists_eq_left', decide_eq_true_eq, true_and, and_true, cup_same, cup_cup, wSrtIt, wZipS, wZipB, wBackT, List.flatten_nil, List.flatten_cons, enOf, endOf, excOf, List.map_cons, List.map_nil, List.length_cons, List.length_nil, List.replicate, Nat.reduceAdd, Nat.reduceSub, List.cons_append, List.nil_append, List.set_cons_zero, List.set_cons_succ, List.getElem?_cons_zero, List.getElem?_cons_succ, List.getElem_cons_zero, List.getElem_cons_succ, reduceCtorEq, if_true, if_false, Bool.false_eq_true, decide_true, decide_false, ne_eq, not_true, not_false_eq_true, Int.reduceEq, Nat.reduceMul, true_imp_iff, Int.reduceToNat, Int.reducePow, Nat.reducePow, Int.reduceLE, Int.reduceLT, Nat.reduceLT, and_self, Nat.reduceLeDiff, Int.reduceNeg, Int.reduceAdd, Int.reduceSub, Int.reduceMul, Int.cast_ofNat_Int, lvl_s]
      exact q'
end VL
set_option maxHeartbeats 1000000
namespace VL
open PySem PySem.Spec PyProof.Rows L2
theorem st_addk {E : EndD} {X : XD} {en : En} {c : Cs} {A B : List D} (h : en[2]? = some (some (.lst A))) (hz : A.length + B.length ≤ sizeLine) (q : E.nx (en.set 2 (some (.lst (A ++ B)))) c) : (sSet 2 (wBin oAdd (wVar 2) (wC (.lst B)))) E X en c := by
  simp only [sRaise, sTry, wIsX, wWhat, wBack, lo_lst, e_mulV, sizeL, sNil, sSeq, sPass, sBrk, sCont, sExpr, sRet, sRetN, sIf, sNever, sSet, sAug, gNm, gTp, gNil', gCons', gSb, sAsg, sPar, sFor, wVar_z, wVar_s, wC, wChn, wTru, sPar3, wRev, wCallK, permF, List.filterMap_cons, List.filterMap_nil, wBin, wUn, wTst, wNot, wAnd, wOr, wAndV, wOrV, wNotV, wIf, wNil, wCons, wTup, wLst, wLstL, wFz, wCall, wBi, wMt, wMt0, wSl, wSlL, wPart, wNoPart, wYes, wSeq, wRg1, wRg2, wEnum, wZip, wLc, wLcL, wLRg, wFld, sFldS, sFldA, gFld, wMeth, wMake, lvl2_s, onB, e_eqI, e_neI, e_eqB, e_neB, e_eqS, e_neS, e_eqN, e_tyLT, e_ty1, isTys, tyMem, tyN_non, tyN_bl, tyN_int, tyN_str, tyN_tup, tyN_lst, Bool.true_or, Bool.or_true, Bool.or_false, Bool.false_or, Bool.not_true, Bool.not_false, inn_non, inn_bl, inn_int, inn_str, inn_tup, inn_lst, inn_ptr, e_slT, e_slL, e_slN, isT_P, isT_L, isT_T, isT_N, e_sub, e_fdiv, e_mod, e_pow, e_lt, e_le, e_gt, e_ge, e_neg, e_add, e_addS, e_addT, e_addL, e_addPP, e_addPL, e_addLP, e_mul, e_mulL, e_mulT, e_augI, e_ixT, e_ixL, e_ixN, e_ixP, e_lenT, e_lenL, e_lenN, e_lenS, e_lenP, e_abs, e_intI, e_intB, e_max, e_min, e_tupL, e_tupT, e_listL, e_listT, e_listN, e_listLL, e_listLT, e_divmod, e_isNon, e_isntNon, e_isB, e_isntB, e_setIx, e_insert, e_append, e_isL, e_isLL, e_seqP, e_seqL, e_seqT, e_seqN, it_lst, it_fz, Option.bind_some, Option.isSome_some, ix10, ix20, ix21, ix30, ix32, dl1, dl2, dl3, List.eraseIdx_cons_zero, e_pop0, e_popAt, e_rev, e_clear, e_tupP, e_listP, e_neN, e_neIN, e_neNI, e_eqIN, e_eqNI, at0, at1, at2, at3, Cell.lst.injEq, Cell.obj.injEq, Option.some.injEq, exists_eq_left', decide_eq_true_eq, true_and, and_true, cup_same, cup_cup, wSrtIt, wZipS, wZipB, wBackT]
  unfold wVar
  rw [h]
  exact ⟨hz, q⟩
theorem oD_pl (o : Option Int) : pl (oD o) = true ∧ dep (oD o) = 0 := by cases o <;> exact ⟨rfl, rfl⟩
theorem pr_pl (e : PrO) : pl (prO e) = true ∧ dep (prO e) ≤ 1 := by
  cases e with
  | none => exact ⟨rfl, by simp [prO, dep]⟩
  | some p => exact ⟨by simp [prO, pl, pls, (oD_pl p.1).1, (oD_pl p.2).1], by simp [prO, dep, deps, (oD_pl p.1).2, (oD_pl p.2).2]⟩
theorem wh_pl (e : Wh) : pl (whD e) = true := by
  cases e with
  | none => rfl
  | some p => simp [whD, pl, pls, (pr_pl p.1).1, (pr_pl p.2).1]
theorem wh_dep (e : Wh) : dep (whD e) ≤ 2 := by
  cases e with
  | none => simp [whD, dep]
  | some p =>
    have h1 := (pr_pl p.1).2
    have h2 := (pr_pl p.2).2
    simp only [whD, dep, deps]
    omega
theorem CLe.cupn {c c' : Cs} {p : Addr} {x : Cell} (h : CLe c c') (hp : c p = none) : CLe c (cup c' p x) := fun a y e => by
  rw [cup_ne (fun z => by rw [z, hp] at e; cases e)]
  exact h _ _ e
def c_known42 (C : Addr) (k : Nat) : Ctr := fun ds c Q _ => ∃ (b m : Int), ds = [.int b, .int m] ∧ 1 ≤ b ∧ b ≤ 1000001 ∧ 12 ≤ k ∧ ∀ c', CLe c c' → Q (.bl true) c'
def w_known42 (C_Guess : Addr) (k : Nat) : WS := (sSeq (sSet 2 (wC (.lst [(.tup [(.str "low"), (.lst [(.int 3), (.int 1), (.int 2)]), (.lst [(.int 5), (.int 3), (.int 2)]), (.tup [(.tup [(.int 5), (.int 5)]), .non])]), (.tup [(.str "low"), (.lst [(.int 3), (.int 1), (.int 4)]), (.lst [(.int 5), (.int 3), (.int 4)]), (.tup [(.tup [(.int 5), (.int 5)]), .non])])]))) (sSeq (sSet 2 (wBin oAdd (wVar 2) (wC (.lst [(.tup [(.str "low"), (.lst [(.int 7), (.int 9)]), (.lst [(.int 7), (.int 9)]), (.tup [(.tup [.non, (.int 7)]), .non])]), (.tup [(.str "low"), (.lst [(.int 7)]), (.lst [(.int 3)]), .non]), (.tup [(.str "low"), (.lst [(.int 3), (.int 4)]), (.lst [(.int 5), (.int 2)]), .non])])))) (sSeq (sSet 2 (wBin oAdd (wVar 2) (wC (.lst [(.tup [(.str "high"), (.lst [(.int 7), (.int 9), (.int 8)]), (.lst [(.int 5), (.int 7), (.int 8)]), (.tup [.non, (.tup [(.int 5), (.int 5)])])]), (.tup [(.str "high"), (.lst [(.int 4), (.int 2)]), (.lst [(.int 4), (.int 2)]), (.tup [.non, (.tup [(.int 4), .non])])])])))) (sSeq (sSet 2 (wBin oAdd (wVar 2) (wC (.lst [(.tup [(.str "high"), (.lst [(.int 3)]), (.lst [(.int 4)]), .non]), (.tup [(.str "both"), (.lst [(.int 1)]), (.lst [(.int 5)]), (.tup [(.tup [(.int 5), (.int 5)]), (.tup [(.int 5), .non])])])])))) (sSeq (sSet 2 (wBin oAdd (wVar 2) (wLst (wCons (wTup (wCons (wC (.str "both")) (wCons (wLst wNil) (wCons (wLst wNil) (wCons (wTup (wCons (wTup (wCons (wC .non) (wCons (wC .non) wNil))) (wCons (wTup (wCons (wC .non) (wCons (wC .non) wNil))) wNil))) wNil))))) wNil)))) (sSeq (sSet 2 (wBin oAdd (wVar 2) (wC (.lst [(.tup [(.str "both"), (.lst [(.int 9)]), (.lst [(.int 5)]), (.tup [(.tup [.non, (.int 5)]), (.tup [(.int 5), (.int 5)])])]), (.tup [(.str "both"), (.lst [(.int 1), (.int 9)]), (.lst [(.int 5), (.int 6)]), (.tup [(.tup [(.int 5), (.int 5)]), (.tup [(.int 6), (.int 6)])])])])))) (sSeq (sSet 2 (wBin oAdd (wVar 2) (wC (.lst [(.tup [(.str "both"), (.lst [(.int 4), (.int 6)]), (.lst [(.int 4), (.int 6)]), (.tup [(.tup [.non, (.int 4)]), (.tup [(.int 6), .non])])]), (.tup [(.str "both"), (.lst [(.int 9), (.int 1)]), (.lst [(.int 3), (.int 4)]), .non])])))) (sSeq (sSet 2 (wBin oAdd (wVar 2) (wC (.lst [(.tup [(.str "both"), (.lst [(.int 9), (.int 1), (.int 8)]), (.lst [(.int 5), (.int 2), (.int 8)]), (.tup [(.tup [(.int 2), (.int 2)]), (.tup [(.int 5), (.int 5)])])]), (.tup [(.str "both"), (.lst [(.int 1), (.int 3)]), (.lst [(.int 1), (.int 2)]), (.tup [(.tup [.non, (.int 1)]), (.tup [(.int 2), (.int 2)])])])])))) (sSeq (sSet 2 (wBin oAdd (wVar 2) (wC (.lst [(.tup [(.str "both"), (.lst [(.int 5), (.int 5), (.int 5)]), (.lst [(.int 5), (.int 5), (.int 5)]), (.tup [(.tup [.non, (.int 5)]), (.tup [(.int 5), .non])])])])))) (sSeq (sSet 2 (wBin oAdd (wVar 2) (wC (.lst [(.tup [(.str "both"), (.lst [(.int 2), (.int 1), (.int 2)]), (.lst [(.int 3), (.int 2), (.int 2)]), (.tup [(.tup [(.int 3), (.int 3)]), (.tup [(.int 3), .non])])])])))) (sSeq (sFor (wSeq (wVar 2)) (.tup [(.nm 3), (.nm 4), (.nm 5), (.nm 6)]) (sSeq (sPar 10 11 (wCons (wLc (wSeq (wVar 4)) (.nm 12) wYes (wBin oAdd (wBin oMul (wVar 0) (wVar 12)) (wVar 1)) [12]) (wCons (wLc (wSeq (wVar 5)) (.nm 12) wYes (wBin oAdd (wBin oMul (wVar 0) (wVar 12)) (wVar 1)) [12]) wNil))) (sSeq (sSet 7 (wVar 6)) (sSeq (sIf (wTst (wBin oIsNot (wVar 6) (wC .non))) (sSet 7 (wTup (wCons (wCall 3 c_l_end42 k (wCons (wBin oIx (wVar 6) (wC (.int 0))) (wCons (wVar 0) (wCons (wVar 1) wNil)))) (wCons (wCall 3 c_l_end42 k (wCons (wBin oIx (wVar 6) (wC (.int 1))) (wCons (wVar 0) (wCons (wVar 1) wNil)))) wNil)))) sNil) (sSeq (sIf (wNot (wTst (wCall 2 c_l_same k (wCons (wCall 3 (c_fits C_Guess) k (wCons (wVar 3) (wCons (wVar 10) (wCons (wVar 11) wNil)))) (wCons (wVar 7) wNil))))) (sRet (wC (.bl false))) sNil) (sSeq (sSet 8 (wBin oDGet (wDisp (wPrC (wC (.str "low")) (wC (.str "high")) (wPrC (wC (.str "high")) (wC (.str "low")) (wPrC (wC (.str "both")) (wC (.str "both")) wPrN)))) (wVar 3))) (sSeq (sSet 9 (wVar 7)) (sSeq (sIf (wTst (wBin oIsNot (wVar 7) (wC .non))) (sSet 9 (wTup (wCons (wCall 1 c_l_back42 k (wCons (wBin oIx (wVar 7) (wC (.int 1))) wNil)) (wCons (wCall 1 c_l_back42 k (wCons (wBin oIx (wVar 7) (wC (.int 0))) wNil)) wNil)))) sNil) (sIf (wNot (wTst (wCall 2 c_l_same k (wCons (wCall 3 (c_fits C_Guess) k (wCons (wVar 8) (wCons (wLc (wSeq (wVar 10)) (.nm 12) wYes (wUn oNeg (wVar 12)) [12]) (wCons (wLc (wSeq (wVar 11)) (.nm 12) wYes (wUn oNeg (wVar 12)) [12]) wNil)))) (wCons (wVar 9) wNil))))) (sRet (wC (.bl false))) sNil))))))))) (sRet (wC (.bl true))))))))))))))
theorem p_known42 (C_Guess : Addr) (k : Nat) (ds : List D) (c : Cs) (Q : DK) (X0 : XK0) (hlen0 : ds.length = 2) (h : c_known42 C_Guess k ds c Q X0) : w_known42 C_Guess k (endOf Q) (excOf X0) (enOf 13 ds) c := by
  obtain ⟨b, m, rfl, hb1, hb2, hk, q⟩ := h
  obtain ⟨k, rfl⟩ : ∃ k', k = k' + 12 := ⟨k - 12, by omega⟩
  refine seq_gen fun D1 r1 _ _ n1 => ?_
  try simp only [w_known42, sRaise, sTry, wIsX, wWhat, wBack, lo_lst, e_mulV, sizeL, sNil, sSeq, sPass, sBrk, sCont, sExpr, sRet, sRetN, sIf, sNever, sSet, sAug, gNm, gTp, gNil', gCons', gSb, sAsg, sPar, sFor, wVar_z, wVar_s, wC, wChn, wTru, sPar3, wRev, wCallK, permF, List.filterMap_cons, List.filterMap_nil, wBin, wUn, wTst, wNot, wAnd, wOr, wAndV, wOrV, wNotV, wIf, wNil, wCons, wTup, wLst, wLstL, wFz, wCall, wBi, wMt, wMt0, wSl, wSlL, wPart, wNoPart, wYes, wSeq, wRg1, wRg2, wEnum, wZip, wLc, wLcL, wLRg, wFld, sFldS, sFldA, gFld, wMeth, wMake, lvl2_s, onB, e_eqI, e_neI, e_eqB, e_neB, e_eqS, e_neS, e_eqN, e_tyLT, e_ty1, isTys, tyMem, tyN_non, tyN_bl, tyN_int, tyN_str, tyN_tup, tyN_lst, Bool.true_or, Bool.or_true, Bool.or_false, Bool.false_or, Bool.not_true, Bool.not_false, inn_non, inn_bl, inn_int, inn_str, inn_tup, inn_lst, inn_ptr, e_slT, e_slL, e_slN, isT_P, isT_L, isT_T, isT_N, e_sub, e_fdiv, e_mod, e_pow, e_lt, e_le, e_gt, e_ge, e_neg, e_add, e_addS, e_addT, e_addL, e_addPP, e_addPL, e_addLP, e_mul, e_mulL, e_mulT, e_augI, e_ixT, e_ixL, e_ixN, e_ixP, e_lenT, e_lenL, e_lenN, e_lenS, e_lenP, e_abs, e_intI, e_intB, e_max, e_min, e_tupL, e_tupT, e_listL, e_listT, e_listN, e_listLL, e_listLT, e_divmod, e_isNon, e_isntNon, e_isB, e_isntB, e_setIx, e_insert, e_append, e_isL, e_isLL, e_seqP, e_seqL, e_seqT, e_seqN, it_lst, it_fz, Option.bind_some, Option.isSome_some, ix10, ix20, ix21, ix30, ix32, dl1, dl2, dl3, List.eraseIdx_cons_zero, e_pop0, e_popAt, e_rev, e_clear, e_tupP, e_listP, e_neN, e_neIN, e_neNI, e_eqIN, e_eqNI, at0, at1, at2, at3, Cell.lst.injEq, Cell.obj.injEq, Option.some.injEq, exists_eq_left', decide_eq_true_eq, true_and, and_true, cup_same, cup_cup, wSrtIt, wZipS, wZipB, wBackT, List.flatten_nil, List.flatten_cons, enOf, endOf, excOf, List.map_cons, List.map_nil, List.length_cons, List.length_nil, List.replicate, Nat.reduceAdd, Nat.reduceSub, List.cons_append, List.nil_append, List.set_cons_zero, List.set_cons_succ, List.getElem?_cons_zero, List.getElem?_cons_succ, List.getElem_cons_zero, List.getElem_cons_succ, reduceCtorEq, if_true, if_false, Bool.false_eq_true, decide_true, decide_false, ne_eq, not_true, not_false_eq_true, Int.reduceEq, Nat.reduceMul, true_imp_iff, Int.reduceToNat, Int.reducePow, Nat.reducePow, Int.reduceLE, Int.reduceLT, Nat.reduceLT, and_self, Nat.reduceLeDiff, Int.reduceNeg, Int.reduceAdd, Int.reduceSub, Int.reduceMul, Int.cast_ofNat_Int, lvl_s]
  refine n1 _ _ (seq_gen fun D2 r2 _ _ n2 => ?_)
  refine st_addk rfl (by decide) (n2 _ _ (seq_gen fun D3 r3 _ _ n3 => ?_))
  refine st_addk rfl (by decide) (n3 _ _ (seq_gen fun D4 r4 _ _ n4 => ?_))
  refine st_addk rfl (by decide) (n4 _ _ (seq_gen fun D5 r5 _ _ n5 => ?_))
  clear n1 n2 n3 n4
  have dis : ∀ (E : EndD) (A : List D) (X1 : XD), A.length ≤ 100 → E.nx [some (.int b), some (.int m), some (.lst (A ++ [rowD42 (.both, [], [], some (some (none, none), some (none, none)))])), none, none, none, none, none, none, none, none, none, none] c → (sSet 2
      (wBin oAdd (wVar 2) (wLst (wCons (wTup (wCons (wC (.str "both")) (wCons (wLst wNil) (wCons (wLst wNil) (wCons (wTup (wCons (wTup (wCons (wC .non) (wCons (wC .non) wNil))) (wCons (wTup (wCons (wC .non) (wCons (wC .non) wNil))) wNil))) wNil))))) wNil)))) E X1
      [some (.int b), some (.int m), some (.lst A), none, none, none, none, none, none, none, none, none, none] c := fun E A X1 hA qq => by
    try simp only [sRaise, sTry, wIsX, wWhat, wBack, lo_lst, e_mulV, sizeL, sNil, sSeq, sPass, sBrk, sCont, sExpr, sRet, sRetN, sIf, sNever, sSet, sAug, gNm, gTp, gNil', gCons', gSb, sAsg, sPar, sFor, wVar_z, wVar_s, wC, wChn, wTru, sPar3, wRev, wCallK, permF, List.filterMap_cons, List.filterMap_nil, wBin, wUn, wTst, wNot, wAnd, wOr, wAndV, wOrV, wNotV, wIf, wNil, wCons, wTup, wLst, wLstL, wFz, wCall, wBi, wMt, wMt0, wSl, wSlL, wPart, wNoPart, wYes, wSeq, wRg1, wRg2, wEnum, wZip, wLc, wLcL, wLRg, wFld, sFldS, sFldA, gFld, wMeth, wMake, lvl2_s, onB, e_eqI, e_neI, e_eqB, e_neB, e_eqS, e_neS, e_eqN, e_tyLT, e_ty1, isTys, tyMem, tyN_non, tyN_bl, tyN_int, tyN_str, tyN_tup, tyN_lst, Bool.true_or, Bool.or_true, Bool.or_false, Bool.false_or, Bool.not_true, Bool.not_false, inn_non, inn_bl, inn_int, inn_str, inn_tup, inn_lst, inn_ptr, e_slT, e_slL, e_slN, isT_P, isT_L, isT_T, isT_N, e_sub, e_fdiv, e_mod, e_pow, e_lt, e_le, e_gt, e_ge, e_neg, e_add, e_addS, e_addT, e_addL, e_addPP, e_addPL, e_addLP, e_mul, e_mulL, e_mulT, e_augI, e_ixT, e_ixL, e_ixN, e_ixP, e_lenT, e_lenL, e_lenN, e_lenS, e_lenP, e_abs, e_intI, e_intB, e_max, e_min, e_tupL, e_tupT, e_listL, e_listT, e_listN, e_listLL, e_listLT, e_divmod, e_isNon, e_isntNon, e_isB, e_isntB, e_setIx, e_insert, e_append, e_isL, e_isLL, e_seqP, e_seqL, e_seqT, e_seqN, it_lst, it_fz, Option.bind_some, Option.isSome_some, ix10, ix20, ix21, ix30, ix32, dl1, dl2, dl3, List.eraseIdx_cons_zero, e_pop0, e_popAt, e_rev, e_clear, e_tupP, e_listP, e_neN, e_neIN, e_neNI, e_eqIN, e_eqNI, at0, at1, at2, at3, Cell.lst.injEq, Cell.obj.injEq, Option.some.injEq, exists_eq_left', decide_eq_true_eq, true_and, and_true, cup_same, cup_cup, wSrtIt, wZipS, wZipB, wBackT, List.flatten_nil, List.flatten_cons, enOf, endOf, excOf, List.map_cons, List.map_nil, List.length_cons, List.length_nil, List.replicate, Nat.reduceAdd, Nat.reduceSub, List.cons_append, List.nil_append, List.set_cons_zero, List.set_cons_succ, List.getElem?_cons_zero, List.getElem?_cons_succ, List.getElem_cons_zero, List.getElem_cons_succ, reduceCtorEq, if_true, if_false, Bool.false_eq_true, decide_true, decide_false, ne_eq, not_true, not_false_eq_true, Int.reduceEq, Nat.reduceMul, true_imp_iff, Int.reduceToNat, Int.reducePow, Nat.reducePow, Int.reduceLE, Int.reduceLT, Nat.reduceLT, and_self, Nat.reduceLeDiff, Int.reduceNeg, Int.reduceAdd, Int.reduceSub, Int.reduceMul, Int.cast_ofNat_Int, lvl_s]
    exact ⟨by omega, qq⟩
  refine dis _ _ _ (by decide) (n5 _ _ (seq_gen fun D6 r6 _ _ n6 => ?_))
  clear dis
  refine st_addk rfl (by decide) (n6 _ _ (seq_gen fun D7 r7 _ _ n7 => ?_))
  refine st_addk rfl (by decide) (n7 _ _ (seq_gen fun D8 r8 _ _ n8 => ?_))
  refine st_addk rfl (by decide) (n8 _ _ (seq_gen fun D9 r9 _ _ n9 => ?_))
  refine st_addk rfl (by decide) (n9 _ _ (seq_gen fun D10 r10 _ _ n10 => ?_))
  refine st_addk rfl (by decide) (n10 _ _ (seq_gen fun D11 r11 _ _ n11 => ?_))
  clear n6 n7 n8 n9 n10
  refine Eq.mpr (congrArg (fun A => (sFor _ _ _ : WS) D11 (excOf X0) [some (.int b), some (.int m), some (.lst A), none, none, none, none, none, none, none, none, none, none] c) (show (_ : List D) = rows42.map rowD42 from rfl)) ?_
  have hfr : ∀ x y : Int, byF b m x < byF b m y ↔ x < y := fun x y => by
    unfold byF
    have h1 : b * x < b * y ↔ x < y := ⟨fun h => Int.lt_of_mul_lt_mul_left h (by omega), fun h => Int.mul_lt_mul_of_pos_left h (by omega)⟩
    omega
  have hfr2 : ∀ x y : Int, byF b (-m) x < byF b (-m) y ↔ x < y := fun x y => by
    unfold byF
    have h1 : b * x < b * y ↔ x < y := ⟨fun h => Int.lt_of_mul_lt_mul_left h (by omega), fun h => Int.mul_lt_mul_of_pos_left h (by omega)⟩
    omega
  have hneg : ∀ x : Int, -(byF b m x) = byF b (-m) (-x) := fun x => by
    unfold byF
    rw [Int.mul_neg]
    omega
  try simp only [sRaise, sTry, wIsX, wWhat, wBack, lo_lst, e_mulV, sizeL, sNil, sSeq, sPass, sBrk, sCont, sExpr, sRet, sRetN, sIf, sNever, sSet, sAug, gNm, gTp, gNil', gCons', gSb, sAsg, sPar, sFor, wVar_z, wVar_s, wC, wChn, wTru, sPar3, wRev, wCallK, permF, List.filterMap_cons, List.filterMap_nil, wBin, wUn, wTst, wNot, wAnd, wOr, wAndV, wOrV, wNotV, wIf, wNil, wCons, wTup, wLst, wLstL, wFz, wCall, wBi, wMt, wMt0, wSl, wSlL, wPart, wNoPart, wYes, wSeq, wRg1, wRg2, wEnum, wZip, wLc, wLcL, wLRg, wFld, sFldS, sFldA, gFld, wMeth, wMake, lvl2_s, onB, e_eqI, e_neI, e_eqB, e_neB, e_eqS, e_neS, e_eqN, e_tyLT, e_ty1, isTys, tyMem, tyN_non, tyN_bl, tyN_int, tyN_str, tyN_tup, tyN_lst, Bool.true_or, Bool.or_true, Bool.or_false, Bool.false_or, Bool.not_true, Bool.not_false, inn_non, inn_bl, inn_int, inn_str, inn_tup, inn_lst, inn_ptr, e_slT, e_slL, e_slN, isT_P, isT_L, isT_T, isT_N, e_sub, e_fdiv, e_mod, e_pow, e_lt, e_le, e_gt, e_ge, e_neg, e_add, e_addS, e_addT, e_addL, e_addPP, e_addPL, e_addLP, e_mul, e_mulL, e_mulT, e_augI, e_ixT, e_ixL, e_ixN, e_ixP, e_lenT, e_lenL, e_lenN, e_lenS, e_lenP, e_abs, e_intI, e_intB, e_max, e_min, e_tupL, e_tupT, e_listL, e_listT, e_listN, e_listLL, e_listLT, e_divmod, e_isNon, e_isntNon, e_isB, e_isntB, e_setIx, e_insert, e_append, e_isL, e_isLL, e_seqP, e_seqL, e_seqT, e_seqN, it_lst, it_fz, Option.bind_some, Option.isSome_some, ix10, ix20, ix21, ix30, ix32, dl1, dl2, dl3, List.eraseIdx_cons_zero, e_pop0, e_popAt, e_rev, e_clear, e_tupP, e_listP, e_neN, e_neIN, e_neNI, e_eqIN, e_eqNI, at0, at1, at2, at3, Cell.lst.injEq, Cell.obj.injEq, Option.some.injEq, exists_eq_left', decide_eq_true_eq, true_and, and_true, cup_same, cup_cup, wSrtIt, wZipS, wZipB, wBackT, List.flatten_nil, List.flatten_cons, enOf, endOf, excOf, List.map_cons, List.map_nil, List.length_cons, List.length_nil, List.replicate, Nat.reduceAdd, Nat.reduceSub, List.cons_append, List.nil_append, List.set_cons_zero, List.set_cons_succ, List.getElem?_cons_zero, List.getElem?_cons_succ, List.getElem_cons_zero, List.getElem_cons_succ, reduceCtorEq, if_true, if_false, Bool.false_eq_true, decide_true, decide_false, ne_eq, not_true, not_false_eq_true, Int.reduceEq, Nat.reduceMul, true_imp_iff, Int.reduceToNat, Int.reducePow, Nat.reducePow, Int.reduceLE, Int.reduceLT, Nat.reduceLT, and_self, Nat.reduceLeDiff, Int.reduceNeg, Int.reduceAdd, Int.reduceSub, Int.reduceMul, Int.cast_ofNat_Int, lvl_s]
  intro _
  refine loopP rowD42 (fun pre en c' => (∃ o3 o4 o5 o6 o7 o8 o9 o10 o11, en = [some (.int b), some (.int m), some (.lst (rows42.map rowD42)), o3, o4, o5, o6, o7, o8, o9, o10, o11, none]) ∧ CLe c c') ⟨⟨_, _, _, _, _, _, _, _, _, rfl⟩, CLe.refl _⟩ ?_ ?_
  · rintro pre r post en c' hs ⟨⟨o3, o4, o5, o6, o7, o8, o9, o10, o11, rfl⟩, l1⟩
    have hr : rowOk r = true := List.all_eq_true.mp rows_ok r (by rw [hs]; simp)
    obtain ⟨t, xs, os, wh⟩ := r
    unfold rowOk at hr
    simp only [Bool.and_eq_true, decide_eq_true_eq] at hr
    obtain ⟨⟨⟨⟨⟨h1, h2⟩, h3⟩, h4⟩, h5⟩, h6⟩ := hr
    refine ⟨trivial, _, rfl, fun D12 st => ?_⟩
    refine seq_gen fun D13 r13 _ _ n13 => ?_
    have cast : ∀ (l : List Int) (o7 o8 o9 o10 o11 : Option D) (j : Nat) (fin : List D → Cs → Prop) (c2 : Cs), fin ((l.map (byF b m)).map .int) c2 → lcW (fun _ => True) (.nm 12) wYes (wBin oAdd (wBin oMul (wVar 0) (wVar 12)) (wVar 1)) [12]
        [some (.int b), some (.int m), some (.lst (rows42.map rowD42)), some (.str (srtS t)), some (.lst (xs.map .int)), some (.lst (os.map .int)), some (whD wh), o7, o8, o9, o10, o11, none] fin (l.map .int) [] c2 := fun l o7 o8 o9 o10 o11 j fin c2 hf => by
      refine lcM D.int (fun x => .int (byF b m x)) trivial (fun x hx => ⟨_, rfl, fun Q' q' => ?_⟩) (by rw [List.map_map] at hf; exact hf)
      try simp only [ewipe, sRaise, sTry, wIsX, wWhat, wBack, lo_lst, e_mulV, sizeL, sNil, sSeq, sPass, sBrk, sCont, sExpr, sRet, sRetN, sIf, sNever, sSet, sAug, gNm, gTp, gNil', gCons', gSb, sAsg, sPar, sFor, wVar_z, wVar_s, wC, wChn, wTru, sPar3, wRev, wCallK, permF, List.filterMap_cons, List.filterMap_nil, wBin, wUn, wTst, wNot, wAnd, wOr, wAndV, wOrV, wNotV, wIf, wNil, wCons, wTup, wLst, wLstL, wFz, wCall, wBi, wMt, wMt0, wSl, wSlL, wPart, wNoPart, wYes, wSeq, wRg1, wRg2, wEnum, wZip, wLc, wLcL, wLRg, wFld, sFldS, sFldA, gFld, wMeth, wMake, lvl2_s, onB, e_eqI, e_neI, e_eqB, e_neB, e_eqS, e_neS, e_eqN, e_tyLT, e_ty1, isTys, tyMem, tyN_non, tyN_bl, tyN_int, tyN_str, tyN_tup, tyN_lst, Bool.true_or, Bool.or_true, Bool.or_false, Bool.false_or, Bool.not_true, Bool.not_false, inn_non, inn_bl, inn_int, inn_str, inn_tup, inn_lst, inn_ptr, e_slT, e_slL, e_slN, isT_P, isT_L, isT_T, isT_N, e_sub, e_fdiv, e_mod, e_pow, e_lt, e_le, e_gt, e_ge, e_neg, e_add, e_addS, e_addT, e_addL, e_addPP, e_addPL, e_addLP, e_mul, e_mulL, e_mulT, e_augI, e_ixT, e_ixL, e_ixN, e_ixP, e_lenT, e_lenL, e_lenN, e_lenS, e_lenP, e_abs, e_intI, e_intB, e_max, e_min, e_tupL, e_tupT, e_listL, e_listT, e_listN, e_listLL, e_listLT, e_divmod, e_isNon, e_isntNon, e_isB, e_isntB, e_setIx, e_insert, e_append, e_isL, e_isLL, e_seqP, e_seqL, e_seqT, e_seqN, it_lst, it_fz, Option.bind_some, Option.isSome_some, ix10, ix20, ix21, ix30, ix32, dl1, dl2, dl3, List.eraseIdx_cons_zero, e_pop0, e_popAt, e_rev, e_clear, e_tupP, e_listP, e_neN, e_neIN, e_neNI, e_eqIN, e_eqNI, at0, at1, at2, at3, Cell.lst.injEq, Cell.obj.injEq, Option.some.injEq, exists_eq_left', decide_eq_true_eq, true_and, and_true, cup_same, cup_cup, wSrtIt, wZipS, wZipB, wBackT, List.flatten_nil, List.flatten_cons, enOf, endOf, excOf, List.map_cons, List.map_nil, List.length_cons, List.length_nil, List.replicate, Nat.reduceAdd, Nat.reduceSub, List.cons_append, List.nil_append, List.set_cons_zero, List.set_cons_succ, List.getElem?_cons_zero, List.getElem?_cons_succ, List.getElem_cons_zero, List.getElem_cons_succ, reduceCtorEq, if_true, if_false, Bool.false_eq_true, decide_true, decide_false, ne_eq, not_true, not_false_eq_true, Int.reduceEq, Nat.reduceMul, true_imp_iff, Int.reduceToNat, Int.reducePow, Nat.reducePow, Int.reduceLE, Int.reduceLT, Nat.reduceLT, and_self, Nat.reduceLeDiff, Int.reduceNeg, Int.reduceAdd, Int.reduceSub, Int.reduceMul, Int.cast_ofNat_Int, lvl_s]
      exact ⟨mul64 (by omega) (by omega), q'⟩
    try simp only [sRaise, sTry, wIsX, wWhat, wBack, lo_lst, e_mulV, sizeL, sNil, sSeq, sPass, sBrk, sCont, sExpr, sRet, sRetN, sIf, sNever, sSet, sAug, gNm, gTp, gNil', gCons', gSb, sAsg, sPar, sFor, wVar_z, wVar_s, wC, wChn, wTru, sPar3, wRev, wCallK, permF, List.filterMap_cons, List.filterMap_nil, wBin, wUn, wTst, wNot, wAnd, wOr, wAndV, wOrV, wNotV, wIf, wNil, wCons, wTup, wLst, wLstL, wFz, wCall, wBi, wMt, wMt0, wSl, wSlL, wPart, wNoPart, wYes, wSeq, wRg1, wRg2, wEnum, wZip, wLc, wLcL, wLRg, wFld, sFldS, sFldA, gFld, wMeth, wMake, lvl2_s, onB, e_eqI, e_neI, e_eqB, e_neB, e_eqS, e_neS, e_eqN, e_tyLT, e_ty1, isTys, tyMem, tyN_non, tyN_bl, tyN_int, tyN_str, tyN_tup, tyN_lst, Bool.true_or, Bool.or_true, Bool.or_false, Bool.false_or, Bool.not_true, Bool.not_false, inn_non, inn_bl, inn_int, inn_str, inn_tup, inn_lst, inn_ptr, e_slT, e_slL, e_slN, isT_P, isT_L, isT_T, isT_N, e_sub, e_fdiv, e_mod, e_pow, e_lt, e_le, e_gt, e_ge, e_neg, e_add, e_addS, e_addT, e_addL, e_addPP, e_addPL, e_addLP, e_mul, e_mulL, e_mulT, e_augI, e_ixT, e_ixL, e_ixN, e_ixP, e_lenT, e_lenL, e_lenN, e_lenS, e_lenP, e_abs, e_intI, e_intB, e_max, e_min, e_tupL, e_tupT, e_listL, e_listT, e_listN, e_listLL, e_listLT, e_divmod, e_isNon, e_isntNon, e_isB, e_isntB, e_setIx, e_insert, e_append, e_isL, e_isLL, e_seqP, e_seqL, e_seqT, e_seqN, it_lst, it_fz, Option.bind_some, Option.isSome_some, ix10, ix20, ix21, ix30, ix32, dl1, dl2, dl3, List.eraseIdx_cons_zero, e_pop0, e_popAt, e_rev, e_clear, e_tupP, e_listP, e_neN, e_neIN, e_neNI, e_eqIN, e_eqNI, at0, at1, at2, at3, Cell.lst.injEq, Cell.obj.injEq, Option.some.injEq, exists_eq_left', decide_eq_true_eq, true_and, and_true, cup_same, cup_cup, wSrtIt, wZipS, wZipB, wBackT, List.flatten_nil, List.flatten_cons, enOf, endOf, excOf, List.map_cons, List.map_nil, List.length_cons, List.length_nil, List.replicate, Nat.reduceAdd, Nat.reduceSub, List.cons_append, List.nil_append, List.set_cons_zero, List.set_cons_succ, List.getElem?_cons_zero, List.getElem?_cons_succ, List.getElem_cons_zero, List.getElem_cons_succ, reduceCtorEq, if_true, if_false, Bool.false_eq_true, decide_true, decide_false, ne_eq, not_true, not_false_eq_true, Int.reduceEq, Nat.reduceMul, true_imp_iff, Int.reduceToNat, Int.reducePow, Nat.reducePow, Int.reduceLE, Int.reduceLT, Nat.reduceLT, and_self, Nat.reduceLeDiff, Int.reduceNeg, Int.reduceAdd, Int.reduceSub, Int.reduceMul, Int.cast_ofNat_Int, lvl_s]
    intro hz1
    refine ⟨hz1, cast _ _ _ _ _ _ 0 _ _ ?_⟩
    intro hz2
    refine ⟨hz2, cast _ _ _ _ _ _ 0 _ _ ?_⟩
    refine n13 _ _ (seq_gen fun D14 r14 _ _ n14 => ?_)
    clear n13
    try simp only [sRaise, sTry, wIsX, wWhat, wBack, lo_lst, e_mulV, sizeL, sNil, sSeq, sPass, sBrk, sCont, sExpr, sRet, sRetN, sIf, sNever, sSet, sAug, gNm, gTp, gNil', gCons', gSb, sAsg, sPar, sFor, wVar_z, wVar_s, wC, wChn, wTru, sPar3, wRev, wCallK, permF, List.filterMap_cons, List.filterMap_nil, wBin, wUn, wTst, wNot, wAnd, wOr, wAndV, wOrV, wNotV, wIf, wNil, wCons, wTup, wLst, wLstL, wFz, wCall, wBi, wMt, wMt0, wSl, wSlL, wPart, wNoPart, wYes, wSeq, wRg1, wRg2, wEnum, wZip, wLc, wLcL, wLRg, wFld, sFldS, sFldA, gFld, wMeth, wMake, lvl2_s, onB, e_eqI, e_neI, e_eqB, e_neB, e_eqS, e_neS, e_eqN, e_tyLT, e_ty1, isTys, tyMem, tyN_non, tyN_bl, tyN_int, tyN_str, tyN_tup, tyN_lst, Bool.true_or, Bool.or_true, Bool.or_false, Bool.false_or, Bool.not_true, Bool.not_false, inn_non, inn_bl, inn_int, inn_str, inn_tup, inn_lst, inn_ptr, e_slT, e_slL, e_slN, isT_P, isT_L, isT_T, isT_N, e_sub, e_fdiv, e_mod, e_pow, e_lt, e_le, e_gt, e_ge, e_neg, e_add, e_addS, e_addT, e_addL, e_addPP, e_addPL, e_addLP, e_mul, e_mulL, e_mulT, e_augI, e_ixT, e_ixL, e_ixN, e_ixP, e_lenT, e_lenL, e_lenN, e_lenS, e_lenP, e_abs, e_intI, e_intB, e_max, e_min, e_tupL, e_tupT, e_listL, e_listT, e_listN, e_listLL, e_listLT, e_divmod, e_isNon, e_isntNon, e_isB, e_isntB, e_setIx, e_insert, e_append, e_isL, e_isLL, e_seqP, e_seqL, e_seqT, e_seqN, it_lst, it_fz, Option.bind_some, Option.isSome_some, ix10, ix20, ix21, ix30, ix32, dl1, dl2, dl3, List.eraseIdx_cons_zero, e_pop0, e_popAt, e_rev, e_clear, e_tupP, e_listP, e_neN, e_neIN, e_neNI, e_eqIN, e_eqNI, at0, at1, at2, at3, Cell.lst.injEq, Cell.obj.injEq, Option.some.injEq, exists_eq_left', decide_eq_true_eq, true_and, and_true, cup_same, cup_cup, wSrtIt, wZipS, wZipB, wBackT, List.flatten_nil, List.flatten_cons, enOf, endOf, excOf, List.map_cons, List.map_nil, List.length_cons, List.length_nil, List.replicate, Nat.reduceAdd, Nat.reduceSub, List.cons_append, List.nil_append, List.set_cons_zero, List.set_cons_succ, List.getElem?_cons_zero, List.getElem?_cons_succ, List.getElem_cons_zero, List.getElem_cons_succ, reduceCtorEq, if_true, if_false, Bool.false_eq_true, decide_true, decide_false, ne_eq, not_true, not_false_eq_true, Int.reduceEq, Nat.reduceMul, true_imp_iff, Int.reduceToNat, Int.reducePow, Nat.reducePow, Int.reduceLE, Int.reduceLT, Nat.reduceLT, and_self, Nat.reduceLeDiff, Int.reduceNeg, Int.reduceAdd, Int.reduceSub, Int.reduceMul, Int.cast_ofNat_Int, lvl_s]
    refine n14 _ _ (seq_gen fun D15 r15 _ _ n15 => ?_)
    clear n14
    -- what is to be told
    have right : ∀ (E : EndD) (X1 : XD), E.nx [some (.int b), some (.int m), some (.lst (rows42.map rowD42)), some (.str (srtS t)), some (.lst (xs.map .int)), some (.lst (os.map .int)), some (whD wh), some (whD (mWh (byF b m) wh)), o8, o9, some (.lst ((xs.map (byF b m)).map .int)), some (.lst ((os.map (byF b m)).map .int)), none] c' → (sIf (wTst (wBin oIsNot (wVar 6) (wC .non))) (sSet 7 (wTup (wCons (wCall 3 c_l_end42 (k + 12) (wCons (wBin oIx (wVar 6) (wC (.int 0))) (wCons (wVar 0) (wCons (wVar 1) wNil)))) (wCons (wCall 3 c_l_end42 (k + 12) (wCons (wBin oIx (wVar 6) (wC (.int 1))) (wCons (wVar 0) (wCons (wVar 1) wNil)))) wNil)))) sNil) E X1
        [some (.int b), some (.int m), some (.lst (rows42.map rowD42)), some (.str (srtS t)), some (.lst (xs.map .int)), some (.lst (os.map .int)), some (whD wh), some (whD wh), o8, o9, some (.lst ((xs.map (byF b m)).map .int)), some (.lst ((os.map (byF b m)).map .int)), none] c' := fun E X1 qq => by
      cases wh with
      | none =>
        try simp only [whD, isNon, sRaise, sTry, wIsX, wWhat, wBack, lo_lst, e_mulV, sizeL, sNil, sSeq, sPass, sBrk, sCont, sExpr, sRet, sRetN, sIf, sNever, sSet, sAug, gNm, gTp, gNil', gCons', gSb, sAsg, sPar, sFor, wVar_z, wVar_s, wC, wChn, wTru, sPar3, wRev, wCallK, permF, List.filterMap_cons, List.filterMap_nil, wBin, wUn, wTst, wNot, wAnd, wOr, wAndV, wOrV, wNotV, wIf, wNil, wCons, wTup, wLst, wLstL, wFz, wCall, wBi, wMt, wMt0, wSl, wSlL, wPart, wNoPart, wYes, wSeq, wRg1, wRg2, wEnum, wZip, wLc, wLcL, wLRg, wFld, sFldS, sFldA, gFld, wMeth, wMake, lvl2_s, onB, e_eqI, e_neI, e_eqB, e_neB, e_eqS, e_neS, e_eqN, e_tyLT, e_ty1, isTys, tyMem, tyN_non, tyN_bl, tyN_int, tyN_str, tyN_tup, tyN_lst, Bool.true_or, Bool.or_true, Bool.or_false, Bool.false_or, Bool.not_true, Bool.not_false, inn_non, inn_bl, inn_int, inn_str, inn_tup, inn_lst, inn_ptr, e_slT, e_slL, e_slN, isT_P, isT_L, isT_T, isT_N, e_sub, e_fdiv, e_mod, e_pow, e_lt, e_le, e_gt, e_ge, e_neg, e_add, e_addS, e_addT, e_addL, e_addPP, e_addPL, e_addLP, e_mul, e_mulL, e_mulT, e_augI, e_ixT, e_ixL, e_ixN, e_ixP, e_lenT, e_lenL, e_lenN, e_lenS, e_lenP, e_abs, e_intI, e_intB, e_max, e_min, e_tupL, e_tupT, e_listL, e_listT, e_listN, e_listLL, e_listLT, e_divmod, e_isNon, e_isntNon, e_isB, e_isntB, e_setIx, e_insert, e_append, e_isL, e_isLL, e_seqP, e_seqL, e_seqT, e_seqN, it_lst, it_fz, Option.bind_some, Option.isSome_some, ix10, ix20, ix21, ix30, ix32, dl1, dl2, dl3, List.eraseIdx_cons_zero, e_pop0, e_popAt, e_rev, e_clear, e_tupP, e_listP, e_neN, e_neIN, e_neNI, e_eqIN, e_eqNI, at0, at1, at2, at3, Cell.lst.injEq, Cell.obj.injEq, Option.some.injEq, exists_eq_left', decide_eq_true_eq, true_and, and_true, cup_same, cup_cup, wSrtIt, wZipS, wZipB, wBackT, List.flatten_nil, List.flatten_cons, enOf, endOf, excOf, List.map_cons, List.map_nil, List.length_cons, List.length_nil, List.replicate, Nat.reduceAdd, Nat.reduceSub, List.cons_append, List.nil_append, List.set_cons_zero, List.set_cons_succ, List.getElem?_cons_zero, List.getElem?_cons_succ, List.getElem_cons_zero, List.getElem_cons_succ, reduceCtorEq, if_true, if_false, Bool.false_eq_true, decide_true, decide_false, ne_eq, not_true, not_false_eq_true, Int.reduceEq, Nat.reduceMul, true_imp_iff, Int.reduceToNat, Int.reducePow, Nat.reducePow, Int.reduceLE, Int.reduceLT, Nat.reduceLT, and_self, Nat.reduceLeDiff, Int.reduceNeg, Int.reduceAdd, Int.reduceSub, Int.reduceMul, Int.cast_ofNat_Int, lvl_s]
        exact qq
      | some e =>
        obtain ⟨e1, e2⟩ := e
        have h6' : (okP9 e1 && okP9 e2) = true := h6
        simp only [Bool.and_eq_true] at h6'
        try simp only [whD, isNon, sRaise, sTry, wIsX, wWhat, wBack, lo_lst, e_mulV, sizeL, sNil, sSeq, sPass, sBrk, sCont, sExpr, sRet, sRetN, sIf, sNever, sSet, sAug, gNm, gTp, gNil', gCons', gSb, sAsg, sPar, sFor, wVar_z, wVar_s, wC, wChn, wTru, sPar3, wRev, wCallK, permF, List.filterMap_cons, List.filterMap_nil, wBin, wUn, wTst, wNot, wAnd, wOr, wAndV, wOrV, wNotV, wIf, wNil, wCons, wTup, wLst, wLstL, wFz, wCall, wBi, wMt, wMt0, wSl, wSlL, wPart, wNoPart, wYes, wSeq, wRg1, wRg2, wEnum, wZip, wLc, wLcL, wLRg, wFld, sFldS, sFldA, gFld, wMeth, wMake, lvl2_s, onB, e_eqI, e_neI, e_eqB, e_neB, e_eqS, e_neS, e_eqN, e_tyLT, e_ty1, isTys, tyMem, tyN_non, tyN_bl, tyN_int, tyN_str, tyN_tup, tyN_lst, Bool.true_or, Bool.or_true, Bool.or_false, Bool.false_or, Bool.not_true, Bool.not_false, inn_non, inn_bl, inn_int, inn_str, inn_tup, inn_lst, inn_ptr, e_slT, e_slL, e_slN, isT_P, isT_L, isT_T, isT_N, e_sub, e_fdiv, e_mod, e_pow, e_lt, e_le, e_gt, e_ge, e_neg, e_add, e_addS, e_addT, e_addL, e_addPP, e_addPL, e_addLP, e_mul, e_mulL, e_mulT, e_augI, e_ixT, e_ixL, e_ixN, e_ixP, e_lenT, e_lenL, e_lenN, e_lenS, e_lenP, e_abs, e_intI, e_intB, e_max, e_min, e_tupL, e_tupT, e_listL, e_listT, e_listN, e_listLL, e_listLT, e_divmod, e_isNon, e_isntNon, e_isB, e_isntB, e_setIx, e_insert, e_append, e_isL, e_isLL, e_seqP, e_seqL, e_seqT, e_seqN, it_lst, it_fz, Option.bind_some, Option.isSome_some, ix10, ix20, ix21, ix30, ix32, dl1, dl2, dl3, List.eraseIdx_cons_zero, e_pop0, e_popAt, e_rev, e_clear, e_tupP, e_listP, e_neN, e_neIN, e_neNI, e_eqIN, e_eqNI, at0, at1, at2, at3, Cell.lst.injEq, Cell.obj.injEq, Option.some.injEq, exists_eq_left', decide_eq_true_eq, true_and, and_true, cup_same, cup_cup, wSrtIt, wZipS, wZipB, wBackT, List.flatten_nil, List.flatten_cons, enOf, endOf, excOf, List.map_cons, List.map_nil, List.length_cons, List.length_nil, List.replicate, Nat.reduceAdd, Nat.reduceSub, List.cons_append, List.nil_append, List.set_cons_zero, List.set_cons_succ, List.getElem?_cons_zero, List.getElem?_cons_succ, List.getElem_cons_zero, List.getElem_cons_succ, reduceCtorEq, if_true, if_false, Bool.false_eq_true, decide_true, decide_false, ne_eq, not_true, not_false_eq_true, Int.reduceEq, Nat.reduceMul, true_imp_iff, Int.reduceToNat, Int.reducePow, Nat.reducePow, Int.reduceLE, Int.reduceLT, Nat.reduceLT, and_self, Nat.reduceLeDiff, Int.reduceNeg, Int.reduceAdd, Int.reduceSub, Int.reduceMul, Int.cast_ofNat_Int, lvl_s]
        refine ⟨e1, b, m, rfl, h6'.1, hb1, hb2, ?_⟩
        refine ⟨e2, b, m, rfl, h6'.2, hb1, hb2, ?_⟩
        exact qq
    refine right _ _ (n15 _ _ (seq_gen fun D16 r16 _ _ n16 => ?_))
    clear n15 right cast
    try simp only [sRaise, sTry, wIsX, wWhat, wBack, lo_lst, e_mulV, sizeL, sNil, sSeq, sPass, sBrk, sCont, sExpr, sRet, sRetN, sIf, sNever, sSet, sAug, gNm, gTp, gNil', gCons', gSb, sAsg, sPar, sFor, wVar_z, wVar_s, wC, wChn, wTru, sPar3, wRev, wCallK, permF, List.filterMap_cons, List.filterMap_nil, wBin, wUn, wTst, wNot, wAnd, wOr, wAndV, wOrV, wNotV, wIf, wNil, wCons, wTup, wLst, wLstL, wFz, wCall, wBi, wMt, wMt0, wSl, wSlL, wPart, wNoPart, wYes, wSeq, wRg1, wRg2, wEnum, wZip, wLc, wLcL, wLRg, wFld, sFldS, sFldA, gFld, wMeth, wMake, lvl2_s, onB, e_eqI, e_neI, e_eqB, e_neB, e_eqS, e_neS, e_eqN, e_tyLT, e_ty1, isTys, tyMem, tyN_non, tyN_bl, tyN_int, tyN_str, tyN_tup, tyN_lst, Bool.true_or, Bool.or_true, Bool.or_false, Bool.false_or, Bool.not_true, Bool.not_false, inn_non, inn_bl, inn_int, inn_str, inn_tup, inn_lst, inn_ptr, e_slT, e_slL, e_slN, isT_P, isT_L, isT_T, isT_N, e_sub, e_fdiv, e_mod, e_pow, e_lt, e_le, e_gt, e_ge, e_neg, e_add, e_addS, e_addT, e_addL, e_addPP, e_addPL, e_addLP, e_mul, e_mulL, e_mulT, e_augI, e_ixT, e_ixL, e_ixN, e_ixP, e_lenT, e_lenL, e_lenN, e_lenS, e_lenP, e_abs, e_intI, e_intB, e_max, e_min, e_tupL, e_tupT, e_listL, e_listT, e_listN, e_listLL, e_listLT, e_divmod, e_isNon, e_isntNon, e_isB, e_isntB, e_setIx, e_insert, e_append, e_isL, e_isLL, e_seqP, e_seqL, e_seqT, e_seqN, it_lst, it_fz, Option.bind_some, Option.isSome_some, ix10, ix20, ix21, ix30, ix32, dl1, dl2, dl3, List.eraseIdx_cons_zero, e_pop0, e_popAt, e_rev, e_clear, e_tupP, e_listP, e_neN, e_neIN, e_neNI, e_eqIN, e_eqNI, at0, at1, at2, at3, Cell.lst.injEq, Cell.obj.injEq, Option.some.injEq, exists_eq_left', decide_eq_true_eq, true_and, and_true, cup_same, cup_cup, wSrtIt, wZipS, wZipB, wBackT, List.flatten_nil, List.flatten_cons, enOf, endOf, excOf, List.map_cons, List.map_nil, List.length_cons, List.length_nil, List.replicate, Nat.reduceAdd, Nat.reduceSub, List.cons_append, List.nil_append, List.set_cons_zero, List.set_cons_succ, List.getElem?_cons_zero, List.getElem?_cons_succ, List.getElem_cons_zero, List.getElem_cons_succ, reduceCtorEq, if_true, if_false, Bool.false_eq_true, decide_true, decide_false, ne_eq, not_true, not_false_eq_true, Int.reduceEq, Nat.reduceMul, true_imp_iff, Int.reduceToNat, Int.reducePow, Nat.reducePow, Int.reduceLE, Int.reduceLT, Nat.reduceLT, and_self, Nat.reduceLeDiff, Int.reduceNeg, Int.reduceAdd, Int.reduceSub, Int.reduceMul, Int.cast_ofNat_Int, lvl_s]
    refine ⟨t, xs.map (byF b m), os.map (byF b m), rfl, by simp [h3], by simp; omega, by omega, fun c2 l2 => ?_⟩
    have hfit : fitD (runG (s0 t) ((xs.map (byF b m)).zip (os.map (byF b m)))) = whD (mWh (byF b m) wh) := by
      have e : (xs.map (byF b m)).zip (os.map (byF b m)) = (xs.zip os).map fun e => (byF b m e.1, byF b m e.2) := by rw [List.zip_map]; rfl
      rw [e, fit_wh, ← s0_map (byF b m) t, run_map hfr, wh_map, h1]
    rw [hfit]
    refine same_of (wh_pl _) (Nat.le_trans (wh_dep _) (by omega)) ?_
    try simp only [sRaise, sTry, wIsX, wWhat, wBack, lo_lst, e_mulV, sizeL, sNil, sSeq, sPass, sBrk, sCont, sExpr, sRet, sRetN, sIf, sNever, sSet, sAug, gNm, gTp, gNil', gCons', gSb, sAsg, sPar, sFor, wVar_z, wVar_s, wC, wChn, wTru, sPar3, wRev, wCallK, permF, List.filterMap_cons, List.filterMap_nil, wBin, wUn, wTst, wNot, wAnd, wOr, wAndV, wOrV, wNotV, wIf, wNil, wCons, wTup, wLst, wLstL, wFz, wCall, wBi, wMt, wMt0, wSl, wSlL, wPart, wNoPart, wYes, wSeq, wRg1, wRg2, wEnum, wZip, wLc, wLcL, wLRg, wFld, sFldS, sFldA, gFld, wMeth, wMake, lvl2_s, onB, e_eqI, e_neI, e_eqB, e_neB, e_eqS, e_neS, e_eqN, e_tyLT, e_ty1, isTys, tyMem, tyN_non, tyN_bl, tyN_int, tyN_str, tyN_tup, tyN_lst, Bool.true_or, Bool.or_true, Bool.or_false, Bool.false_or, Bool.not_true, Bool.not_false, inn_non, inn_bl, inn_int, inn_str, inn_tup, inn_lst, inn_ptr, e_slT, e_slL, e_slN, isT_P, isT_L, isT_T, isT_N, e_sub, e_fdiv, e_mod, e_pow, e_lt, e_le, e_gt, e_ge, e_neg, e_add, e_addS, e_addT, e_addL, e_addPP, e_addPL, e_addLP, e_mul, e_mulL, e_mulT, e_augI, e_ixT, e_ixL, e_ixN, e_ixP, e_lenT, e_lenL, e_lenN, e_lenS, e_lenP, e_abs, e_intI, e_intB, e_max, e_min, e_tupL, e_tupT, e_listL, e_listT, e_listN, e_listLL, e_listLT, e_divmod, e_isNon, e_isntNon, e_isB, e_isntB, e_setIx, e_insert, e_append, e_isL, e_isLL, e_seqP, e_seqL, e_seqT, e_seqN, it_lst, it_fz, Option.bind_some, Option.isSome_some, ix10, ix20, ix21, ix30, ix32, dl1, dl2, dl3, List.eraseIdx_cons_zero, e_pop0, e_popAt, e_rev, e_clear, e_tupP, e_listP, e_neN, e_neIN, e_neNI, e_eqIN, e_eqNI, at0, at1, at2, at3, Cell.lst.injEq, Cell.obj.injEq, Option.some.injEq, exists_eq_left', decide_eq_true_eq, true_and, and_true, cup_same, cup_cup, wSrtIt, wZipS, wZipB, wBackT, List.flatten_nil, List.flatten_cons, enOf, endOf, excOf, List.map_cons, List.map_nil, List.length_cons, List.length_nil, List.replicate, Nat.reduceAdd, Nat.reduceSub, List.cons_append, List.nil_append, List.set_cons_zero, List.set_cons_succ, List.getElem?_cons_zero, List.getElem?_cons_succ, List.getElem_cons_zero, List.getElem_cons_succ, reduceCtorEq, if_true, if_false, Bool.false_eq_true, decide_true, decide_false, ne_eq, not_true, not_false_eq_true, Int.reduceEq, Nat.reduceMul, true_imp_iff, Int.reduceToNat, Int.reducePow, Nat.reducePow, Int.reduceLE, Int.reduceLT, Nat.reduceLT, and_self, Nat.reduceLeDiff, Int.reduceNeg, Int.reduceAdd, Int.reduceSub, Int.reduceMul, Int.cast_ofNat_Int, lvl_s]
    refine n16 _ _ (seq_gen fun D17 r17 _ _ n17 => ?_)
    clear n16
    have disp : ∀ (E : EndD) (X1 : XD), (∀ c3, CLe c2 c3 → E.nx [some (.int b), some (.int m), some (.lst (rows42.map rowD42)), some (.str (srtS t)), some (.lst (xs.map .int)), some (.lst (os.map .int)), some (whD wh), some (whD (mWh (byF b m) wh)), some (.str (srtS (otS t))), o9, some (.lst ((xs.map (byF b m)).map .int)), some (.lst ((os.map (byF b m)).map .int)), none] c3) → (sSet 8 (wBin oDGet (wDisp (wPrC (wC (.str "low")) (wC (.str "high")) (wPrC (wC (.str "high")) (wC (.str "low")) (wPrC (wC (.str "both")) (wC (.str "both")) wPrN)))) (wVar 3))) E X1
        [some (.int b), some (.int m), some (.lst (rows42.map rowD42)), some (.str (srtS t)), some (.lst (xs.map .int)), some (.lst (os.map .int)), some (whD wh), some (whD (mWh (byF b m) wh)), o8, o9, some (.lst ((xs.map (byF b m)).map .int)), some (.lst ((os.map (byF b m)).map .int)), none] c2 := fun E X1 qq => by
      try simp only [wDisp, wPrC, wPrN, sRaise, sTry, wIsX, wWhat, wBack, lo_lst, e_mulV, sizeL, sNil, sSeq, sPass, sBrk, sCont, sExpr, sRet, sRetN, sIf, sNever, sSet, sAug, gNm, gTp, gNil', gCons', gSb, sAsg, sPar, sFor, wVar_z, wVar_s, wC, wChn, wTru, sPar3, wRev, wCallK, permF, List.filterMap_cons, List.filterMap_nil, wBin, wUn, wTst, wNot, wAnd, wOr, wAndV, wOrV, wNotV, wIf, wNil, wCons, wTup, wLst, wLstL, wFz, wCall, wBi, wMt, wMt0, wSl, wSlL, wPart, wNoPart, wYes, wSeq, wRg1, wRg2, wEnum, wZip, wLc, wLcL, wLRg, wFld, sFldS, sFldA, gFld, wMeth, wMake, lvl2_s, onB, e_eqI, e_neI, e_eqB, e_neB, e_eqS, e_neS, e_eqN, e_tyLT, e_ty1, isTys, tyMem, tyN_non, tyN_bl, tyN_int, tyN_str, tyN_tup, tyN_lst, Bool.true_or, Bool.or_true, Bool.or_false, Bool.false_or, Bool.not_true, Bool.not_false, inn_non, inn_bl, inn_int, inn_str, inn_tup, inn_lst, inn_ptr, e_slT, e_slL, e_slN, isT_P, isT_L, isT_T, isT_N, e_sub, e_fdiv, e_mod, e_pow, e_lt, e_le, e_gt, e_ge, e_neg, e_add, e_addS, e_addT, e_addL, e_addPP, e_addPL, e_addLP, e_mul, e_mulL, e_mulT, e_augI, e_ixT, e_ixL, e_ixN, e_ixP, e_lenT, e_lenL, e_lenN, e_lenS, e_lenP, e_abs, e_intI, e_intB, e_max, e_min, e_tupL, e_tupT, e_listL, e_listT, e_listN, e_listLL, e_listLT, e_divmod, e_isNon, e_isntNon, e_isB, e_isntB, e_setIx, e_insert, e_append, e_isL, e_isLL, e_seqP, e_seqL, e_seqT, e_seqN, it_lst, it_fz, Option.bind_some, Option.isSome_some, ix10, ix20, ix21, ix30, ix32, dl1, dl2, dl3, List.eraseIdx_cons_zero, e_pop0, e_popAt, e_rev, e_clear, e_tupP, e_listP, e_neN, e_neIN, e_neNI, e_eqIN, e_eqNI, at0, at1, at2, at3, Cell.lst.injEq, Cell.obj.injEq, Option.some.injEq, exists_eq_left', decide_eq_true_eq, true_and, and_true, cup_same, cup_cup, wSrtIt, wZipS, wZipB, wBackT, List.flatten_nil, List.flatten_cons, enOf, endOf, excOf, List.map_cons, List.map_nil, List.length_cons, List.length_nil, List.replicate, Nat.reduceAdd, Nat.reduceSub, List.cons_append, List.nil_append, List.set_cons_zero, List.set_cons_succ, List.getElem?_cons_zero, List.getElem?_cons_succ, List.getElem_cons_zero, List.getElem_cons_succ, reduceCtorEq, if_true, if_false, Bool.false_eq_true, decide_true, decide_false, ne_eq, not_true, not_false_eq_true, Int.reduceEq, Nat.reduceMul, true_imp_iff, Int.reduceToNat, Int.reducePow, Nat.reducePow, Int.reduceLE, Int.reduceLT, Nat.reduceLT, and_self, Nat.reduceLeDiff, Int.reduceNeg, Int.reduceAdd, Int.reduceSub, Int.reduceMul, Int.cast_ofNat_Int, lvl_s]
      refine ⟨_, rfl, by decide, fun p hp => ⟨.str (srtS (otS t)), ?_, qq _ ((CLe.refl _).cupn hp)⟩⟩
      unfold dGet
      dsimp only
      rw [cup_same]
      cases t <;> rfl
    refine disp _ _ fun c3 l3 => n17 _ _ (seq_gen fun D18 r18 _ _ n18 => ?_)
    clear n17 disp
    try simp only [sRaise, sTry, wIsX, wWhat, wBack, lo_lst, e_mulV, sizeL, sNil, sSeq, sPass, sBrk, sCont, sExpr, sRet, sRetN, sIf, sNever, sSet, sAug, gNm, gTp, gNil', gCons', gSb, sAsg, sPar, sFor, wVar_z, wVar_s, wC, wChn, wTru, sPar3, wRev, wCallK, permF, List.filterMap_cons, List.filterMap_nil, wBin, wUn, wTst, wNot, wAnd, wOr, wAndV, wOrV, wNotV, wIf, wNil, wCons, wTup, wLst, wLstL, wFz, wCall, wBi, wMt, wMt0, wSl, wSlL, wPart, wNoPart, wYes, wSeq, wRg1, wRg2, wEnum, wZip, wLc, wLcL, wLRg, wFld, sFldS, sFldA, gFld, wMeth, wMake, lvl2_s, onB, e_eqI, e_neI, e_eqB, e_neB, e_eqS, e_neS, e_eqN, e_tyLT, e_ty1, isTys, tyMem, tyN_non, tyN_bl, tyN_int, tyN_str, tyN_tup, tyN_lst, Bool.true_or, Bool.or_true, Bool.or_false, Bool.false_or, Bool.not_true, Bool.not_false, inn_non, inn_bl, inn_int, inn_str, inn_tup, inn_lst, inn_ptr, e_slT, e_slL, e_slN, isT_P, isT_L, isT_T, isT_N, e_sub, e_fdiv, e_mod, e_pow, e_lt, e_le, e_gt, e_ge, e_neg, e_add, e_addS, e_addT, e_addL, e_addPP, e_addPL, e_addLP, e_mul, e_mulL, e_mulT, e_augI, e_ixT, e_ixL, e_ixN, e_ixP, e_lenT, e_lenL, e_lenN, e_lenS, e_lenP, e_abs, e_intI, e_intB, e_max, e_min, e_tupL, e_tupT, e_listL, e_listT, e_listN, e_listLL, e_listLT, e_divmod, e_isNon, e_isntNon, e_isB, e_isntB, e_setIx, e_insert, e_append, e_isL, e_isLL, e_seqP, e_seqL, e_seqT, e_seqN, it_lst, it_fz, Option.bind_some, Option.isSome_some, ix10, ix20, ix21, ix30, ix32, dl1, dl2, dl3, List.eraseIdx_cons_zero, e_pop0, e_popAt, e_rev, e_clear, e_tupP, e_listP, e_neN, e_neIN, e_neNI, e_eqIN, e_eqNI, at0, at1, at2, at3, Cell.lst.injEq, Cell.obj.injEq, Option.some.injEq, exists_eq_left', decide_eq_true_eq, true_and, and_true, cup_same, cup_cup, wSrtIt, wZipS, wZipB, wBackT, List.flatten_nil, List.flatten_cons, enOf, endOf, excOf, List.map_cons, List.map_nil, List.length_cons, List.length_nil, List.replicate, Nat.reduceAdd, Nat.reduceSub, List.cons_append, List.nil_append, List.set_cons_zero, List.set_cons_succ, List.getElem?_cons_zero, List.getElem?_cons_succ, List.getElem_cons_zero, List.getElem_cons_succ, reduceCtorEq, if_true, if_false, Bool.false_eq_true, decide_true, decide_false, ne_eq, not_true, not_false_eq_true, Int.reduceEq, Nat.reduceMul, true_imp_iff, Int.reduceToNat, Int.reducePow, Nat.reducePow, Int.reduceLE, Int.reduceLT, Nat.reduceLT, and_self, Nat.reduceLeDiff, Int.reduceNeg, Int.reduceAdd, Int.reduceSub, Int.reduceMul, Int.cast_ofNat_Int, lvl_s]
    refine n18 _ _ (seq_gen fun D19 r19 _ _ n19 => ?_)
    clear n18
    have right2 : ∀ (E : EndD) (X1 : XD), E.nx [some (.int b), some (.int m), some (.lst (rows42.map rowD42)), some (.str (srtS t)), some (.lst (xs.map .int)), some (.lst (os.map .int)), some (whD wh), some (whD (mWh (byF b m) wh)), some (.str (srtS (otS t))), some (whD (bWh (mWh (byF b m) wh))), some (.lst ((xs.map (byF b m)).map .int)), some (.lst ((os.map (byF b m)).map .int)), none] c3 → (sIf (wTst (wBin oIsNot (wVar 7) (wC .non))) (sSet 9 (wTup (wCons (wCall 1 c_l_back42 (k + 12) (wCons (wBin oIx (wVar 7) (wC (.int 1))) wNil)) (wCons (wCall 1 c_l_back42 (k + 12) (wCons (wBin oIx (wVar 7) (wC (.int 0))) wNil)) wNil)))) sNil) E X1
        [some (.int b), some (.int m), some (.lst (rows42.map rowD42)), some (.str (srtS t)), some (.lst (xs.map .int)), some (.lst (os.map .int)), some (whD wh), some (whD (mWh (byF b m) wh)), some (.str (srtS (otS t))), some (whD (mWh (byF b m) wh)), some (.lst ((xs.map (byF b m)).map .int)), some (.lst ((os.map (byF b m)).map .int)), none] c3 := fun E X1 qq => by
      cases wh with
      | none =>
        try simp only [whD, mWh, Option.map_none, isNon, sRaise, sTry, wIsX, wWhat, wBack, lo_lst, e_mulV, sizeL, sNil, sSeq, sPass, sBrk, sCont, sExpr, sRet, sRetN, sIf, sNever, sSet, sAug, gNm, gTp, gNil', gCons', gSb, sAsg, sPar, sFor, wVar_z, wVar_s, wC, wChn, wTru, sPar3, wRev, wCallK, permF, List.filterMap_cons, List.filterMap_nil, wBin, wUn, wTst, wNot, wAnd, wOr, wAndV, wOrV, wNotV, wIf, wNil, wCons, wTup, wLst, wLstL, wFz, wCall, wBi, wMt, wMt0, wSl, wSlL, wPart, wNoPart, wYes, wSeq, wRg1, wRg2, wEnum, wZip, wLc, wLcL, wLRg, wFld, sFldS, sFldA, gFld, wMeth, wMake, lvl2_s, onB, e_eqI, e_neI, e_eqB, e_neB, e_eqS, e_neS, e_eqN, e_tyLT, e_ty1, isTys, tyMem, tyN_non, tyN_bl, tyN_int, tyN_str, tyN_tup, tyN_lst, Bool.true_or, Bool.or_true, Bool.or_false, Bool.false_or, Bool.not_true, Bool.not_false, inn_non, inn_bl, inn_int, inn_str, inn_tup, inn_lst, inn_ptr, e_slT, e_slL, e_slN, isT_P, isT_L, isT_T, isT_N, e_sub, e_fdiv, e_mod, e_pow, e_lt, e_le, e_gt, e_ge, e_neg, e_add, e_addS, e_addT, e_addL, e_addPP, e_addPL, e_addLP, e_mul, e_mulL, e_mulT, e_augI, e_ixT, e_ixL, e_ixN, e_ixP, e_lenT, e_lenL, e_lenN, e_lenS, e_lenP, e_abs, e_intI, e_intB, e_max, e_min, e_tupL, e_tupT, e_listL, e_listT, e_listN, e_listLL, e_listLT, e_divmod, e_isNon, e_isntNon, e_isB, e_isntB, e_setIx, e_insert, e_append, e_isL, e_isLL, e_seqP, e_seqL, e_seqT, e_seqN, it_lst, it_fz, Option.bind_some, Option.isSome_some, ix10, ix20, ix21, ix30, ix32, dl1, dl2, dl3, List.eraseIdx_cons_zero, e_pop0, e_popAt, e_rev, e_clear, e_tupP, e_listP, e_neN, e_neIN, e_neNI, e_eqIN, e_eqNI, at0, at1, at2, at3, Cell.lst.injEq, Cell.obj.injEq, Option.some.injEq, exists_eq_left', decide_eq_true_eq, true_and, and_true, cup_same, cup_cup, wSrtIt, wZipS, wZipB, wBackT, List.flatten_nil, List.flatten_cons, enOf, endOf, excOf, List.map_cons, List.map_nil, List.length_cons, List.length_nil, List.replicate, Nat.reduceAdd, Nat.reduceSub, List.cons_append, List.nil_append, List.set_cons_zero, List.set_cons_succ, List.getElem?_cons_zero, List.getElem?_cons_succ, List.getElem_cons_zero, List.getElem_cons_succ, reduceCtorEq, if_true, if_false, Bool.false_eq_true, decide_true, decide_false, ne_eq, not_true, not_false_eq_true, Int.reduceEq, Nat.reduceMul, true_imp_iff, Int.reduceToNat, Int.reducePow, Nat.reducePow, Int.reduceLE, Int.reduceLT, Nat.reduceLT, and_self, Nat.reduceLeDiff, Int.reduceNeg, Int.reduceAdd, Int.reduceSub, Int.reduceMul, Int.cast_ofNat_Int, lvl_s]
        exact qq
      | some e =>
        obtain ⟨e1, e2⟩ := e
        try simp only [whD, mWh, Option.map_some, isNon, sRaise, sTry, wIsX, wWhat, wBack, lo_lst, e_mulV, sizeL, sNil, sSeq, sPass, sBrk, sCont, sExpr, sRet, sRetN, sIf, sNever, sSet, sAug, gNm, gTp, gNil', gCons', gSb, sAsg, sPar, sFor, wVar_z, wVar_s, wC, wChn, wTru, sPar3, wRev, wCallK, permF, List.filterMap_cons, List.filterMap_nil, wBin, wUn, wTst, wNot, wAnd, wOr, wAndV, wOrV, wNotV, wIf, wNil, wCons, wTup, wLst, wLstL, wFz, wCall, wBi, wMt, wMt0, wSl, wSlL, wPart, wNoPart, wYes, wSeq, wRg1, wRg2, wEnum, wZip, wLc, wLcL, wLRg, wFld, sFldS, sFldA, gFld, wMeth, wMake, lvl2_s, onB, e_eqI, e_neI, e_eqB, e_neB, e_eqS, e_neS, e_eqN, e_tyLT, e_ty1, isTys, tyMem, tyN_non, tyN_bl, tyN_int, tyN_str, tyN_tup, tyN_lst, Bool.true_or, Bool.or_true, Bool.or_false, Bool.false_or, Bool.not_true, Bool.not_false, inn_non, inn_bl, inn_int, inn_str, inn_tup, inn_lst, inn_ptr, e_slT, e_slL, e_slN, isT_P, isT_L, isT_T, isT_N, e_sub, e_fdiv, e_mod, e_pow, e_lt, e_le, e_gt, e_ge, e_neg, e_add, e_addS, e_addT, e_addL, e_addPP, e_addPL, e_addLP, e_mul, e_mulL, e_mulT, e_augI, e_ixT, e_ixL, e_ixN, e_ixP, e_lenT, e_lenL, e_lenN, e_lenS, e_lenP, e_abs, e_intI, e_intB, e_max, e_min, e_tupL, e_tupT, e_listL, e_listT, e_listN, e_listLL, e_listLT, e_divmod, e_isNon, e_isntNon, e_isB, e_isntB, e_setIx, e_insert, e_append, e_isL, e_isLL, e_seqP, e_seqL, e_seqT, e_seqN, it_lst, it_fz, Option.bind_some, Option.isSome_some, ix10, ix20, ix21, ix30, ix32, dl1, dl2, dl3, List.eraseIdx_cons_zero, e_pop0, e_popAt, e_rev, e_clear, e_tupP, e_listP, e_neN, e_neIN, e_neNI, e_eqIN, e_eqNI, at0, at1, at2, at3, Cell.lst.injEq, Cell.obj.injEq, Option.some.injEq, exists_eq_left', decide_eq_true_eq, true_and, and_true, cup_same, cup_cup, wSrtIt, wZipS, wZipB, wBackT, List.flatten_nil, List.flatten_cons, enOf, endOf, excOf, List.map_cons, List.map_nil, List.length_cons, List.length_nil, List.replicate, Nat.reduceAdd, Nat.reduceSub, List.cons_append, List.nil_append, List.set_cons_zero, List.set_cons_succ, List.getElem?_cons_zero, List.getElem?_cons_succ, List.getElem_cons_zero, List.getElem_cons_succ, reduceCtorEq, if_true, if_false, Bool.false_eq_true, decide_true, decide_false, ne_eq, not_true, not_false_eq_true, Int.reduceEq, Nat.reduceMul, true_imp_iff, Int.reduceToNat, Int.reducePow, Nat.reducePow, Int.reduceLE, Int.reduceLT, Nat.reduceLT, and_self, Nat.reduceLeDiff, Int.reduceNeg, Int.reduceAdd, Int.reduceSub, Int.reduceMul, Int.cast_ofNat_Int, lvl_s]
        refine ⟨_, rfl, ?_⟩
        refine ⟨_, rfl, ?_⟩
        exact qq
    refine right2 _ _ (n19 _ _ ?_)
    clear n19 right2
    try simp only [sRaise, sTry, wIsX, wWhat, wBack, lo_lst, e_mulV, sizeL, sNil, sSeq, sPass, sBrk, sCont, sExpr, sRet, sRetN, sIf, sNever, sSet, sAug, gNm, gTp, gNil', gCons', gSb, sAsg, sPar, sFor, wVar_z, wVar_s, wC, wChn, wTru, sPar3, wRev, wCallK, permF, List.filterMap_cons, List.filterMap_nil, wBin, wUn, wTst, wNot, wAnd, wOr, wAndV, wOrV, wNotV, wIf, wNil, wCons, wTup, wLst, wLstL, wFz, wCall, wBi, wMt, wMt0, wSl, wSlL, wPart, wNoPart, wYes, wSeq, wRg1, wRg2, wEnum, wZip, wLc, wLcL, wLRg, wFld, sFldS, sFldA, gFld, wMeth, wMake, lvl2_s, onB, e_eqI, e_neI, e_eqB, e_neB, e_eqS, e_neS, e_eqN, e_tyLT, e_ty1, isTys, tyMem, tyN_non, tyN_bl, tyN_int, tyN_str, tyN_tup, tyN_lst, Bool.true_or, Bool.or_true, Bool.or_false, Bool.false_or, Bool.not_true, Bool.not_false, inn_non, inn_bl, inn_int, inn_str, inn_tup, inn_lst, inn_ptr, e_slT, e_slL, e_slN, isT_P, isT_L, isT_T, isT_N, e_sub, e_fdiv, e_mod, e_pow, e_lt, e_le, e_gt, e_ge, e_neg, e_add, e_addS, e_addT, e_addL, e_addPP, e_addPL, e_addLP, e_mul, e_mulL, e_mulT, e_augI, e_ixT, e_ixL, e_ixN, e_ixP, e_lenT, e_lenL, e_lenN, e_lenS, e_lenP, e_abs, e_intI, e_intB, e_max, e_min, e_tupL, e_tupT, e_listL, e_listT, e_listN, e_listLL, e_listLT, e_divmod, e_isNon, e_isntNon, e_isB, e_isntB, e_setIx, e_insert, e_append, e_isL, e_isLL, e_seqP, e_seqL, e_seqT, e_seqN, it_lst, it_fz, Option.bind_some, Option.isSome_some, ix10, ix20, ix21, ix30, ix32, dl1, dl2, dl3, List.eraseIdx_cons_zero, e_pop0, e_popAt, e_rev, e_clear, e_tupP, e_listP, e_neN, e_neIN, e_neNI, e_eqIN, e_eqNI, at0, at1, at2, at3, Cell.lst.injEq, Cell.obj.injEq, Option.some.injEq, exists_eq_left', decide_eq_true_eq, true_and, and_true, cup_same, cup_cup, wSrtIt, wZipS, wZipB, wBackT, List.flatten_nil, List.flatten_cons, enOf, endOf, excOf, List.map_cons, List.map_nil, List.length_cons, List.length_nil, List.replicate, Nat.reduceAdd, Nat.reduceSub, List.cons_append, List.nil_append, List.set_cons_zero, List.set_cons_succ, List.getElem?_cons_zero, List.getElem?_cons_succ, List.getElem_cons_zero, List.getElem_cons_succ, reduceCtorEq, if_true, if_false, Bool.false_eq_true, decide_true, decide_false, ne_eq, not_true, not_false_eq_true, Int.reduceEq, Nat.reduceMul, true_imp_iff, Int.reduceToNat, Int.reducePow, Nat.reducePow, Int.reduceLE, Int.reduceLT, Nat.reduceLT, and_self, Nat.reduceLeDiff, Int.reduceNeg, Int.reduceAdd, Int.reduceSub, Int.reduceMul, Int.cast_ofNat_Int, lvl_s]
    have neg : ∀ (l : List Int) (fin : List D → Cs → Prop) (c4 : Cs), fin ((l.map fun x => -x).map .int) c4 → lcW (fun _ => True) (.nm 12) wYes (wUn oNeg (wVar 12)) [12]
        [some (.int b), some (.int m), some (.lst (rows42.map rowD42)), some (.str (srtS t)), some (.lst (xs.map .int)), some (.lst (os.map .int)), some (whD wh), some (whD (mWh (byF b m) wh)), some (.str (srtS (otS t))), some (whD (bWh (mWh (byF b m) wh))), some (.lst ((xs.map (byF b m)).map .int)), some (.lst ((os.map (byF b m)).map .int)), none] fin (l.map .int) [] c4 := fun l fin c4 hf => by
      refine lcM D.int (fun x => .int (-x)) trivial (fun x hx => ⟨_, rfl, fun Q' q' => ?_⟩) (by rw [List.map_map] at hf; exact hf)
      try simp only [ewipe, sRaise, sTry, wIsX, wWhat, wBack, lo_lst, e_mulV, sizeL, sNil, sSeq, sPass, sBrk, sCont, sExpr, sRet, sRetN, sIf, sNever, sSet, sAug, gNm, gTp, gNil', gCons', gSb, sAsg, sPar, sFor, wVar_z, wVar_s, wC, wChn, wTru, sPar3, wRev, wCallK, permF, List.filterMap_cons, List.filterMap_nil, wBin, wUn, wTst, wNot, wAnd, wOr, wAndV, wOrV, wNotV, wIf, wNil, wCons, wTup, wLst, wLstL, wFz, wCall, wBi, wMt, wMt0, wSl, wSlL, wPart, wNoPart, wYes, wSeq, wRg1, wRg2, wEnum, wZip, wLc, wLcL, wLRg, wFld, sFldS, sFldA, gFld, wMeth, wMake, lvl2_s, onB, e_eqI, e_neI, e_eqB, e_neB, e_eqS, e_neS, e_eqN, e_tyLT, e_ty1, isTys, tyMem, tyN_non, tyN_bl, tyN_int, tyN_str, tyN_tup, tyN_lst, Bool.true_or, Bool.or_true, Bool.or_false, Bool.false_or, Bool.not_true, Bool.not_false, inn_non, inn_bl, inn_int, inn_str, inn_tup, inn_lst, inn_ptr, e_slT, e_slL, e_slN, isT_P, isT_L, isT_T, isT_N, e_sub, e_fdiv, e_mod, e_pow, e_lt, e_le, e_gt, e_ge, e_neg, e_add, e_addS, e_addT, e_addL, e_addPP, e_addPL, e_addLP, e_mul, e_mulL, e_mulT, e_augI, e_ixT, e_ixL, e_ixN, e_ixP, e_lenT, e_lenL, e_lenN, e_lenS, e_lenP, e_abs, e_intI, e_intB, e_max, e_min, e_tupL, e_tupT, e_listL, e_listT, e_listN, e_listLL, e_listLT, e_divmod, e_isNon, e_isntNon, e_isB, e_isntB, e_setIx, e_insert, e_append, e_isL, e_isLL, e_seqP, e_seqL, e_seqT, e_seqN, it_lst, it_fz, Option.bind_some, Option.isSome_some, ix10, ix20, ix21, ix30, ix32, dl1, dl2, dl3, List.eraseIdx_cons_zero, e_pop0, e_popAt, e_rev, e_clear, e_tupP, e_listP, e_neN, e_neIN, e_neNI, e_eqIN, e_eqNI, at0, at1, at2, at3, Cell.lst.injEq, Cell.obj.injEq, Option.some.injEq, exists_eq_left', decide_eq_true_eq, true_and, and_true, cup_same, cup_cup, wSrtIt, wZipS, wZipB, wBackT, List.flatten_nil, List.flatten_cons, enOf, endOf, excOf, List.map_cons, List.map_nil, List.length_cons, List.length_nil, List.replicate, Nat.reduceAdd, Nat.reduceSub, List.cons_append, List.nil_append, List.set_cons_zero, List.set_cons_succ, List.getElem?_cons_zero, List.getElem?_cons_succ, List.getElem_cons_zero, List.getElem_cons_succ, reduceCtorEq, if_true, if_false, Bool.false_eq_true, decide_true, decide_false, ne_eq, not_true, not_false_eq_true, Int.reduceEq, Nat.reduceMul, true_imp_iff, Int.reduceToNat, Int.reducePow, Nat.reducePow, Int.reduceLE, Int.reduceLT, Nat.reduceLT, and_self, Nat.reduceLeDiff, Int.reduceNeg, Int.reduceAdd, Int.reduceSub, Int.reduceMul, Int.cast_ofNat_Int, lvl_s]
      exact q'
    intro hz3
    refine ⟨hz3, neg _ _ _ ?_⟩
    intro hz4
    refine ⟨hz4, neg _ _ _ ?_⟩
    refine ⟨otS t, _, _, rfl, by simp [h3], by simp; omega, by omega, fun c4 l4 => ?_⟩
    have hfit2 : fitD (runG (s0 (otS t)) (((xs.map (byF b m)).map fun x => -x).zip ((os.map (byF b m)).map fun x => -x))) = whD (bWh (mWh (byF b m) wh)) := by
      have e : ((xs.map (byF b m)).map fun x => -x).zip ((os.map (byF b m)).map fun x => -x) = ((xs.map (- ·)).zip (os.map (- ·))).map fun e => (byF b (-m) e.1, byF b (-m) e.2) := by
        rw [List.zip_map, List.zip_map, List.zip_map, List.map_map, List.map_map]
        refine List.map_congr_left fun e _ => ?_
        show (-(byF b m e.1), -(byF b m e.2)) = (byF b (-m) (-e.1), byF b (-m) (-e.2))
        rw [hneg, hneg]
      rw [e, fit_wh, ← s0_map (byF b (-m)) (otS t), run_map hfr2, wh_map, h2]
      congr 1
      have key : ∀ p : PrO, mPr (byF b (-m)) (bPr p) = bPr (mPr (byF b m) p) := fun p => by
        cases p with
        | none => rfl
        | some p =>
          obtain ⟨u, v⟩ := p
          cases u <;> cases v <;> simp [mPr, bPr, hneg]
      cases wh with
      | none => rfl
      | some e => simp [mWh, bWh, key]
    rw [hfit2]
    refine same_of (wh_pl _) (Nat.le_trans (wh_dep _) (by omega)) ?_
    try simp only [sRaise, sTry, wIsX, wWhat, wBack, lo_lst, e_mulV, sizeL, sNil, sSeq, sPass, sBrk, sCont, sExpr, sRet, sRetN, sIf, sNever, sSet, sAug, gNm, gTp, gNil', gCons', gSb, sAsg, sPar, sFor, wVar_z, wVar_s, wC, wChn, wTru, sPar3, wRev, wCallK, permF, List.filterMap_cons, List.filterMap_nil, wBin, wUn, wTst, wNot, wAnd, wOr, wAndV, wOrV, wNotV, wIf, wNil, wCons, wTup, wLst, wLstL, wFz, wCall, wBi, wMt, wMt0, wSl, wSlL, wPart, wNoPart, wYes, wSeq, wRg1, wRg2, wEnum, wZip, wLc, wLcL, wLRg, wFld, sFldS, sFldA, gFld, wMeth, wMake, lvl2_s, onB, e_eqI, e_neI, e_eqB, e_neB, e_eqS, e_neS, e_eqN, e_tyLT, e_ty1, isTys, tyMem, tyN_non, tyN_bl, tyN_int, tyN_str, tyN_tup, tyN_lst, Bool.true_or, Bool.or_true, Bool.or_false, Bool.false_or, Bool.not_true, Bool.not_false, inn_non, inn_bl, inn_int, inn_str, inn_tup, inn_lst, inn_ptr, e_slT, e_slL, e_slN, isT_P, isT_L, isT_T, isT_N, e_sub, e_fdiv, e_mod, e_pow, e_lt, e_le, e_gt, e_ge, e_neg, e_add, e_addS, e_addT, e_addL, e_addPP, e_addPL, e_addLP, e_mul, e_mulL, e_mulT, e_augI, e_ixT, e_ixL, e_ixN, e_ixP, e_lenT, e_lenL, e_lenN, e_lenS, e_lenP, e_abs, e_intI, e_intB, e_max, e_min, e_tupL, e_tupT, e_listL, e_listT, e_listN, e_listLL, e_listLT, e_divmod, e_isNon, e_isntNon, e_isB, e_isntB, e_setIx, e_insert, e_append, e_isL, e_isLL, e_seqP, e_seqL, e_seqT, e_seqN, it_lst, it_fz, Option.bind_some, Option.isSome_some, ix10, ix20, ix21, ix30, ix32, dl1, dl2, dl3, List.eraseIdx_cons_zero, e_pop0, e_popAt, e_rev, e_clear, e_tupP, e_listP, e_neN, e_neIN, e_neNI, e_eqIN, e_eqNI, at0, at1, at2, at3, Cell.lst.injEq, Cell.obj.injEq, Option.some.injEq, exists_eq_left', decide_eq_true_eq, true_and, and_true, cup_same, cup_cup, wSrtIt, wZipS, wZipB, wBackT, List.flatten_nil, List.flatten_cons, enOf, endOf, excOf, List.map_cons, List.map_nil, List.length_cons, List.length_nil, List.replicate, Nat.reduceAdd, Nat.reduceSub, List.cons_append, List.nil_append, List.set_cons_zero, List.set_cons_succ, List.getElem?_cons_zero, List.getElem?_cons_succ, List.getElem_cons_zero, List.getElem_cons_succ, reduceCtorEq, if_true, if_false, Bool.false_eq_true, decide_true, decide_false, ne_eq, not_true, not_false_eq_true, Int.reduceEq, Nat.reduceMul, true_imp_iff, Int.reduceToNat, Int.reducePow, Nat.reducePow, Int.reduceLE, Int.reduceLT, Nat.reduceLT, and_self, Nat.reduceLeDiff, Int.reduceNeg, Int.reduceAdd, Int.reduceSub, Int.reduceMul, Int.cast_ofNat_Int, lvl_s]
    exact st.1 _ _ ⟨⟨_, _, _, _, _, _, _, _, _, rfl⟩, ((l1.trans l2).trans l3).trans l4⟩
  · rintro en c' ⟨⟨o3, o4, o5, o6, o7, o8, o9, o10, o11, rfl⟩, l1⟩
    refine ⟨trivial, n11 _ _ ?_⟩
    try simp only [sRaise, sTry, wIsX, wWhat, wBack, lo_lst, e_mulV, sizeL, sNil, sSeq, sPass, sBrk, sCont, sExpr, sRet, sRetN, sIf, sNever, sSet, sAug, gNm, gTp, gNil', gCons', gSb, sAsg, sPar, sFor, wVar_z, wVar_s, wC, wChn, wTru, sPar3, wRev, wCallK, permF, List.filterMap_cons, List.filterMap_nil, wBin, wUn, wTst, wNot, wAnd, wOr, wAndV, wOrV, wNotV, wIf, wNil, wCons, wTup, wLst, wLstL, wFz, wCall, wBi, wMt, wMt0, wSl, wSlL, wPart, wNoPart, wYes, wSeq, wRg1, wRg2, wEnum, wZip, wLc, wLcL, wLRg, wFld, sFldS, sFldA, gFld, wMeth, wMake, lvl2_s, onB, e_eqI, e_neI, e_eqB, e_neB, e_eqS, e_neS, e_eqN, e_tyLT, e_ty1, isTys, tyMem, tyN_non, tyN_bl, tyN_int, tyN_str, tyN_tup, tyN_lst, Bool.true_or, Bool.or_true, Bool.or_false, Bool.false_or, Bool.not_true, Bool.not_false, inn_non, inn_bl, inn_int, inn_str, inn_tup, inn_lst, inn_ptr, e_slT, e_slL, e_slN, isT_P, isT_L, isT_T, isT_N, e_sub, e_fdiv, e_mod, e_pow, e_lt, e_le, e_gt, e_ge, e_neg, e_add, e_addS, e_addT, e_addL, e_addPP, e_addPL, e_addLP, e_mul, e_mulL, e_mulT, e_augI, e_ixT, e_ixL, e_ixN, e_ixP, e_lenT, e_lenL, e_lenN, e_lenS, e_lenP, e_abs, e_intI, e_intB, e_max, e_min, e_tupL, e_tupT, e_listL, e_listT, e_listN, e_listLL, e_listLT, e_divmod, e_isNon, e_isntNon, e_isB, e_isntB, e_setIx, e_insert, e_append, e_isL, e_isLL, e_seqP, e_seqL, e_seqT, e_seqN, it_lst, it_fz, Option.bind_some, Option.isSome_some, ix10, ix20, ix21, ix30, ix32, dl1, dl2, dl3, List.eraseIdx_cons_zero, e_pop0, e_popAt, e_rev, e_clear, e_tupP, e_listP, e_neN, e_neIN, e_neNI, e_eqIN, e_eqNI, at0, at1, at2, at3, Cell.lst.injEq, Cell.obj.injEq, Option.some.injEq, exists_eq_left', decide_eq_true_eq, true_and, and_true, cup_same, cup_cup, wSrtIt, wZipS, wZipB, wBackT, List.flatten_nil, List.flatten_cons, enOf, endOf, excOf, List.map_cons, List.map_nil, List.length_cons, List.length_nil, List.replicate, Nat.reduceAdd, Nat.reduceSub, List.cons_append, List.nil_append, List.set_cons_zero, List.set_cons_succ, List.getElem?_cons_zero, List.getElem?_cons_succ, List.getElem_cons_zero, List.getElem_cons_succ, reduceCtorEq, if_true, if_false, Bool.false_eq_true, decide_true, decide_false, ne_eq, not_true, not_false_eq_true, Int.reduceEq, Nat.reduceMul, true_imp_iff, Int.reduceToNat, Int.reducePow, Nat.reducePow, Int.reduceLE, Int.reduceLT, Nat.reduceLT, and_self, Nat.reduceLeDiff, Int.reduceNeg, Int.reduceAdd, Int.reduceSub, Int.reduceMul, Int.cast_ofNat_Int, lvl_s]
    exact ⟨_, CLe.refl _, q _ l1⟩
end VL
set_option maxHeartbeats 1000000
namespace VL
open PySem PySem.Spec PyProof.Rows L2
def rowsS42 : List (Gn × List Int × List Int) := [((some 5, none), [6, 4, 4, 1], [6, 5, 4, 4]), ((none, some 5), [4, 6, 9, 7], [4, 5, 6, 7]), ((some 3, some 8), [5, 1, 9, 0], [5, 3, 8, 1])]
def rowDS42 (r : Gn × List Int × List Int) : D := .tup [gD r.1, .lst (r.2.1.map .int), .lst (r.2.2.map .int)]
theorem rowsS_ok : rowsS42.all (fun r => decide ((outsG r.1 r.2.1).2 = r.2.2) && decide (r.2.1.length = 4)) = true := by decide +kernel
def c_sent42 (k : Nat) : Ctr := fun ds c Q _ => ∃ (b m : Int), ds = [.int b, .int m] ∧ 1 ≤ b ∧ b ≤ 1000001 ∧ 12 ≤ k ∧ ∀ c', CLe c c' → Q (.bl true) c'
def w_sent42 (k : Nat) : WS := (sSeq (sSet 2 (wC (.lst [(.tup [(.tup [(.int 5), .non]), (.lst [(.int 6), (.int 4), (.int 4), (.int 1)]), (.lst [(.int 6), (.int 5), (.int 4), (.int 4)])]), (.tup [(.tup [.non, (.int 5)]), (.lst [(.int 4), (.int 6), (.int 9), (.int 7)]), (.lst [(.int 4), (.int 5), (.int 6), (.int 7)])])]))) (sSeq (sSet 2 (wBin oAdd (wVar 2) (wC (.lst [(.tup [(.tup [(.int 3), (.int 8)]), (.lst [(.int 5), (.int 1), (.int 9), (.int 0)]), (.lst [(.int 5), (.int 3), (.int 8), (.int 1)])])])))) (sSeq (sFor (wSeq (wVar 2)) (.tup [(.nm 3), (.nm 4), (.nm 5)]) (sSeq (sSet 6 (wBi oTuple (wCons (wLc (wSeq (wVar 3)) (.nm 8) wYes (wIf (wTst (wBin oIs (wVar 8) (wC .non))) (wC .non) (wBin oAdd (wBin oMul (wVar 0) (wVar 8)) (wVar 1))) [8]) wNil))) (sSeq (sSet 7 (wCall 2 c_let_outP k (wCons (wVar 6) (wCons (wLc (wSeq (wVar 4)) (.nm 8) wYes (wBin oAdd (wBin oMul (wVar 0) (wVar 8)) (wVar 1)) [8]) wNil)))) (sIf (wNot (wTst (wCall 2 c_l_same k (wCons (wVar 7) (wCons (wLc (wSeq (wVar 5)) (.nm 8) wYes (wBin oAdd (wBin oMul (wVar 0) (wVar 8)) (wVar 1)) [8]) wNil))))) (sRet (wC (.bl false))) sNil)))) (sRet (wC (.bl true))))))
theorem p_sent42 (k : Nat) (ds : List D) (c : Cs) (Q : DK) (X0 : XK0) (hlen0 : ds.length = 2) (h : c_sent42 k ds c Q X0) : w_sent42 k (endOf Q) (excOf X0) (enOf 9 ds) c := by
  obtain ⟨b, m, rfl, hb1, hb2, hk, q⟩ := h
  obtain ⟨k, rfl⟩ : ∃ k', k = k' + 12 := ⟨k - 12, by omega⟩
  refine seq_gen fun D1 r1 _ _ n1 => ?_
  try simp only [w_sent42, sRaise, sTry, wIsX, wWhat, wBack, lo_lst, e_mulV, sizeL, sNil, sSeq, sPass, sBrk, sCont, sExpr, sRet, sRetN, sIf, sNever, sSet, sAug, gNm, gTp, gNil', gCons', gSb, sAsg, sPar, sFor, wVar_z, wVar_s, wC, wChn, wTru, sPar3, wRev, wCallK, permF, List.filterMap_cons, List.filterMap_nil, wBin, wUn, wTst, wNot, wAnd, wOr, wAndV, wOrV, wNotV, wIf, wNil, wCons, wTup, wLst, wLstL, wFz, wCall, wBi, wMt, wMt0, wSl, wSlL, wPart, wNoPart, wYes, wSeq, wRg1, wRg2, wEnum, wZip, wLc, wLcL, wLRg, wFld, sFldS, sFldA, gFld, wMeth, wMake, lvl2_s, onB, e_eqI, e_neI, e_eqB, e_neB, e_eqS, e_neS, e_eqN, e_tyLT, e_ty1, isTys, tyMem, tyN_non, tyN_bl, tyN_int, tyN_str, tyN_tup, tyN_lst, Bool.true_or, Bool.or_true, Bool.or_false, Bool.false_or, Bool.not_true, Bool.not_false, inn_non, inn_bl, inn_int, inn_str, inn_tup, inn_lst, inn_ptr, e_slT, e_slL, e_slN, isT_P, isT_L, isT_T, isT_N, e_sub, e_fdiv, e_mod, e_pow, e_lt, e_le, e_gt, e_ge, e_neg, e_add, e_addS, e_addT, e_addL, e_addPP, e_addPL, e_addLP, e_mul, e_mulL, e_mulT, e_augI, e_ixT, e_ixL, e_ixN, e_ixP, e_lenT, e_lenL, e_lenN, e_lenS, e_lenP, e_abs, e_intI, e_intB, e_max, e_min, e_tupL, e_tupT, e_listL, e_listT, e_listN, e_listLL, e_listLT, e_divmod, e_isNon, e_isntNon, e_isB, e_isntB, e_setIx, e_insert, e_append, e_isL, e_isLL, e_seqP, e_seqL, e_seqT, e_seqN, it_lst, it_fz, Option.bind_some, Option.isSome_some, ix10, ix20, ix21, ix30, ix32, dl1, dl2, dl3, List.eraseIdx_cons_zero, e_pop0, e_popAt, e_rev, e_clear, e_tupP, e_listP, e_neN, e_neIN, e_neNI, e_eqIN, e_eqNI, at0, at1, at2, at3, Cell.lst.injEq, Cell.obj.injEq, Option.some.injEq, exists_eq_left', decide_eq_true_eq, true_and, and_true, cup_same, cup_cup, wSrtIt, wZipS, wZipB, wBackT, List.flatten_nil, List.flatten_cons, enOf, endOf, excOf, List.map_cons, List.map_nil, List.length_cons, List.length_nil, List.replicate, Nat.reduceAdd, Nat.reduceSub, List.cons_append, List.nil_append, List.set_cons_zero, List.set_cons_succ, List.getElem?_cons_zero, List.getElem?_cons_succ, List.getElem_cons_zero, List.getElem_cons_succ, reduceCtorEq, if_true, if_false, Bool.false_eq_true, decide_true, decide_false, ne_eq, not_true, not_false_eq_true, Int.reduceEq, Nat.reduceMul, true_imp_iff, Int.reduceToNat, Int.reducePow, Nat.reducePow, Int.reduceLE, Int.reduceLT, Nat.reduceLT, and_self, Nat.reduceLeDiff, Int.reduceNeg, Int.reduceAdd, Int.reduceSub, Int.reduceMul, Int.cast_ofNat_Int, lvl_s]
  refine n1 _ _ (seq_gen fun D2 r2 _ _ n2 => ?_)
  refine st_addk rfl (by decide) (n2 _ _ (seq_gen fun D3 r3 _ _ n3 => ?_))
  clear n1 n2
  refine Eq.mpr (congrArg (fun A => (sFor _ _ _ : WS) D3 (excOf X0) [some (.int b), some (.int m), some (.lst A), none, none, none, none, none, none] c) (show (_ : List D) = rowsS42.map rowDS42 from rfl)) ?_
  have hfr : ∀ x y : Int, byF b m x < byF b m y ↔ x < y := fun x y => by
    unfold byF
    have h1 : b * x < b * y ↔ x < y := ⟨fun h => Int.lt_of_mul_lt_mul_left h (by omega), fun h => Int.mul_lt_mul_of_pos_left h (by omega)⟩
    omega
  try simp only [sRaise, sTry, wIsX, wWhat, wBack, lo_lst, e_mulV, sizeL, sNil, sSeq, sPass, sBrk, sCont, sExpr, sRet, sRetN, sIf, sNever, sSet, sAug, gNm, gTp, gNil', gCons', gSb, sAsg, sPar, sFor, wVar_z, wVar_s, wC, wChn, wTru, sPar3, wRev, wCallK, permF, List.filterMap_cons, List.filterMap_nil, wBin, wUn, wTst, wNot, wAnd, wOr, wAndV, wOrV, wNotV, wIf, wNil, wCons, wTup, wLst, wLstL, wFz, wCall, wBi, wMt, wMt0, wSl, wSlL, wPart, wNoPart, wYes, wSeq, wRg1, wRg2, wEnum, wZip, wLc, wLcL, wLRg, wFld, sFldS, sFldA, gFld, wMeth, wMake, lvl2_s, onB, e_eqI, e_neI, e_eqB, e_neB, e_eqS, e_neS, e_eqN, e_tyLT, e_ty1, isTys, tyMem, tyN_non, tyN_bl, tyN_int, tyN_str, tyN_tup, tyN_lst, Bool.true_or, Bool.or_true, Bool.or_false, Bool.false_or, Bool.not_true, Bool.not_false, inn_non, inn_bl, inn_int, inn_str, inn_tup, inn_lst, inn_ptr, e_slT, e_slL, e_slN, isT_P, isT_L, isT_T, isT_N, e_sub, e_fdiv, e_mod, e_pow, e_lt, e_le, e_gt, e_ge, e_neg, e_add, e_addS, e_addT, e_addL, e_addPP, e_addPL, e_addLP, e_mul, e_mulL, e_mulT, e_augI, e_ixT, e_ixL, e_ixN, e_ixP, e_lenT, e_lenL, e_lenN, e_lenS, e_lenP, e_abs, e_intI, e_intB, e_max, e_min, e_tupL, e_tupT, e_listL, e_listT, e_listN, e_listLL, e_listLT, e_divmod, e_isNon, e_isntNon, e_isB, e_isntB, e_setIx, e_insert, e_append, e_isL, e_isLL, e_seqP, e_seqL, e_seqT, e_seqN, it_lst, it_fz, Option.bind_some, Option.isSome_some, ix10, ix20, ix21, ix30, ix32, dl1, dl2, dl3, List.eraseIdx_cons_zero, e_pop0, e_popAt, e_rev, e_clear, e_tupP, e_listP, e_neN, e_neIN, e_neNI, e_eqIN, e_eqNI, at0, at1, at2, at3, Cell.lst.injEq, Cell.obj.injEq, Option.some.injEq, exists_eq_left', decide_eq_true_eq, true_and, and_true, cup_same, cup_cup, wSrtIt, wZipS, wZipB, wBackT, List.flatten_nil, List.flatten_cons, enOf, endOf, excOf, List.map_cons, List.map_nil, List.length_cons, List.length_nil, List.replicate, Nat.reduceAdd, Nat.reduceSub, List.cons_append, List.nil_append, List.set_cons_zero, List.set_cons_succ, List.getElem?_cons_zero, List.getElem?_cons_succ, List.getElem_cons_zero, List.getElem_cons_succ, reduceCtorEq, if_true, if_false, Bool.false_eq_true, decide_true, decide_false, ne_eq, not_true, not_false_eq_true, Int.reduceEq, Nat.reduceMul, true_imp_iff, Int.reduceToNat, Int.reducePow, Nat.reducePow, Int.reduceLE, Int.reduceLT, Nat.reduceLT, and_self, Nat.reduceLeDiff, Int.reduceNeg, Int.reduceAdd, Int.reduceSub, Int.reduceMul, Int.cast_ofNat_Int, lvl_s]
  intro _
  refine loopP rowDS42 (fun pre en c' => (∃ o3 o4 o5 o6 o7, en = [some (.int b), some (.int m), some (.lst (rowsS42.map rowDS42)), o3, o4, o5, o6, o7, none]) ∧ CLe c c') ⟨⟨_, _, _, _, _, rfl⟩, CLe.refl _⟩ ?_ ?_
  · rintro pre r post en c' hs ⟨⟨o3, o4, o5, o6, o7, rfl⟩, l1⟩
    have hr := List.all_eq_true.mp rowsS_ok r (by rw [hs]; simp)
    obtain ⟨g, xs, os⟩ := r
    simp only [Bool.and_eq_true, decide_eq_true_eq] at hr
    obtain ⟨h1, h2⟩ := hr
    refine ⟨trivial, _, rfl, fun D12 st => ?_⟩
    refine seq_gen fun D13 r13 _ _ n13 => ?_
    have cast : ∀ (l : List Int) (o6 o7 : Option D) (fin : List D → Cs → Prop) (c2 : Cs), fin ((l.map (byF b m)).map .int) c2 → lcW (fun _ => True) (.nm 8) wYes (wBin oAdd (wBin oMul (wVar 0) (wVar 8)) (wVar 1)) [8]
        [some (.int b), some (.int m), some (.lst (rowsS42.map rowDS42)), some (gD g), some (.lst (xs.map .int)), some (.lst (os.map .int)), o6, o7, none] fin (l.map .int) [] c2 := fun l o6 o7 fin c2 hf => by
      refine lcM D.int (fun x => .int (byF b m x)) trivial (fun x hx => ⟨_, rfl, fun Q' q' => ?_⟩) (by rw [List.map_map] at hf; exact hf)
      try simp only [ewipe, sRaise, sTry, wIsX, wWhat, wBack, lo_lst, e_mulV, sizeL, sNil, sSeq, sPass, sBrk, sCont, sExpr, sRet, sRetN, sIf, sNever, sSet, sAug, gNm, gTp, gNil', gCons', gSb, sAsg, sPar, sFor, wVar_z, wVar_s, wC, wChn, wTru, sPar3, wRev, wCallK, permF, List.filterMap_cons, List.filterMap_nil, wBin, wUn, wTst, wNot, wAnd, wOr, wAndV, wOrV, wNotV, wIf, wNil, wCons, wTup, wLst, wLstL, wFz, wCall, wBi, wMt, wMt0, wSl, wSlL, wPart, wNoPart, wYes, wSeq, wRg1, wRg2, wEnum, wZip, wLc, wLcL, wLRg, wFld, sFldS, sFldA, gFld, wMeth, wMake, lvl2_s, onB, e_eqI, e_neI, e_eqB, e_neB, e_eqS, e_neS, e_eqN, e_tyLT, e_ty1, isTys, tyMem, tyN_non, tyN_bl, tyN_int, tyN_str, tyN_tup, tyN_lst, Bool.true_or, Bool.or_true, Bool.or_false, Bool.false_or, Bool.not_true, Bool.not_false, inn_non, inn_bl, inn_int, inn_str, inn_tup, inn_lst, inn_ptr, e_slT, e_slL, e_slN, isT_P, isT_L, isT_T, isT_N, e_sub, e_fdiv, e_mod, e_pow, e_lt, e_le, e_gt, e_ge, e_neg, e_add, e_addS, e_addT, e_addL, e_addPP, e_addPL, e_addLP, e_mul, e_mulL, e_mulT, e_augI, e_ixT, e_ixL, e_ixN, e_ixP, e_lenT, e_lenL, e_lenN, e_lenS, e_lenP, e_abs, e_intI, e_intB, e_max, e_min, e_tupL, e_tupT, e_listL, e_listT, e_listN, e_listLL, e_listLT, e_divmod, e_isNon, e_isntNon, e_isB, e_isntB, e_setIx, e_insert, e_append, e_isL, e_isLL, e_seqP, e_seqL, e_seqT, e_seqN, it_lst, it_fz, Option.bind_some, Option.isSome_some, ix10, ix20, ix21, ix30, ix32, dl1, dl2, dl3, List.eraseIdx_cons_zero, e_pop0, e_popAt, e_rev, e_clear, e_tupP, e_listP, e_neN, e_neIN, e_neNI, e_eqIN, e_eqNI, at0, at1, at2, at3, Cell.lst.injEq, Cell.obj.injEq, Option.some.injEq, exists_eq_left', decide_eq_true_eq, true_and, and_true, cup_same, cup_cup, wSrtIt, wZipS, wZipB, wBackT, List.flatten_nil, List.flatten_cons, enOf, endOf, excOf, List.map_cons, List.map_nil, List.length_cons, List.length_nil, List.replicate, Nat.reduceAdd, Nat.reduceSub, List.cons_append, List.nil_append, List.set_cons_zero, List.set_cons_succ, List.getElem?_cons_zero, List.getElem?_cons_succ, List.getElem_cons_zero, List.getElem_cons_succ, reduceCtorEq, if_true, if_false, Bool.false_eq_true, decide_true, decide_false, ne_eq, not_true, not_false_eq_true, Int.reduceEq, Nat.reduceMul, true_imp_iff, Int.reduceToNat, Int.reducePow, Nat.reducePow, Int.reduceLE, Int.reduceLT, Nat.reduceLT, and_self, Nat.reduceLeDiff, Int.reduceNeg, Int.reduceAdd, Int.reduceSub, Int.reduceMul, Int.cast_ofNat_Int, lvl_s]
      exact ⟨mul64 (by omega) (by omega), q'⟩
    try simp only [gD, sRaise, sTry, wIsX, wWhat, wBack, lo_lst, e_mulV, sizeL, sNil, sSeq, sPass, sBrk, sCont, sExpr, sRet, sRetN, sIf, sNever, sSet, sAug, gNm, gTp, gNil', gCons', gSb, sAsg, sPar, sFor, wVar_z, wVar_s, wC, wChn, wTru, sPar3, wRev, wCallK, permF, List.filterMap_cons, List.filterMap_nil, wBin, wUn, wTst, wNot, wAnd, wOr, wAndV, wOrV, wNotV, wIf, wNil, wCons, wTup, wLst, wLstL, wFz, wCall, wBi, wMt, wMt0, wSl, wSlL, wPart, wNoPart, wYes, wSeq, wRg1, wRg2, wEnum, wZip, wLc, wLcL, wLRg, wFld, sFldS, sFldA, gFld, wMeth, wMake, lvl2_s, onB, e_eqI, e_neI, e_eqB, e_neB, e_eqS, e_neS, e_eqN, e_tyLT, e_ty1, isTys, tyMem, tyN_non, tyN_bl, tyN_int, tyN_str, tyN_tup, tyN_lst, Bool.true_or, Bool.or_true, Bool.or_false, Bool.false_or, Bool.not_true, Bool.not_false, inn_non, inn_bl, inn_int, inn_str, inn_tup, inn_lst, inn_ptr, e_slT, e_slL, e_slN, isT_P, isT_L, isT_T, isT_N, e_sub, e_fdiv, e_mod, e_pow, e_lt, e_le, e_gt, e_ge, e_neg, e_add, e_addS, e_addT, e_addL, e_addPP, e_addPL, e_addLP, e_mul, e_mulL, e_mulT, e_augI, e_ixT, e_ixL, e_ixN, e_ixP, e_lenT, e_lenL, e_lenN, e_lenS, e_lenP, e_abs, e_intI, e_intB, e_max, e_min, e_tupL, e_tupT, e_listL, e_listT, e_listN, e_listLL, e_listLT, e_divmod, e_isNon, e_isntNon, e_isB, e_isntB, e_setIx, e_insert, e_append, e_isL, e_isLL, e_seqP, e_seqL, e_seqT, e_seqN, it_lst, it_fz, Option.bind_some, Option.isSome_some, ix10, ix20, ix21, ix30, ix32, dl1, dl2, dl3, List.eraseIdx_cons_zero, e_pop0, e_popAt, e_rev, e_clear, e_tupP, e_listP, e_neN, e_neIN, e_neNI, e_eqIN, e_eqNI, at0, at1, at2, at3, Cell.lst.injEq, Cell.obj.injEq, Option.some.injEq, exists_eq_left', decide_eq_true_eq, true_and, and_true, cup_same, cup_cup, wSrtIt, wZipS, wZipB, wBackT, List.flatten_nil, List.flatten_cons, enOf, endOf, excOf, List.map_cons, List.map_nil, List.length_cons, List.length_nil, List.replicate, Nat.reduceAdd, Nat.reduceSub, List.cons_append, List.nil_append, List.set_cons_zero, List.set_cons_succ, List.getElem?_cons_zero, List.getElem?_cons_succ, List.getElem_cons_zero, List.getElem_cons_succ, reduceCtorEq, if_true, if_false, Bool.false_eq_true, decide_true, decide_false, ne_eq, not_true, not_false_eq_true, Int.reduceEq, Nat.reduceMul, true_imp_iff, Int.reduceToNat, Int.reducePow, Nat.reducePow, Int.reduceLE, Int.reduceLT, Nat.reduceLT, and_self, Nat.reduceLeDiff, Int.reduceNeg, Int.reduceAdd, Int.reduceSub, Int.reduceMul, Int.cast_ofNat_Int, lvl_s]
    have e1 : [oD g.1, oD g.2] = [g.1, g.2].map oD := rfl
    rw [e1]
    refine lcM oD (fun z => oD (z.map (byF b m))) trivial (fun z hz => ⟨_, rfl, fun Q' q' => ?_⟩) ?_
    · cases z with
      | none =>
        try simp only [ewipe, oD, isNon, sRaise, sTry, wIsX, wWhat, wBack, lo_lst, e_mulV, sizeL, sNil, sSeq, sPass, sBrk, sCont, sExpr, sRet, sRetN, sIf, sNever, sSet, sAug, gNm, gTp, gNil', gCons', gSb, sAsg, sPar, sFor, wVar_z, wVar_s, wC, wChn, wTru, sPar3, wRev, wCallK, permF, List.filterMap_cons, List.filterMap_nil, wBin, wUn, wTst, wNot, wAnd, wOr, wAndV, wOrV, wNotV, wIf, wNil, wCons, wTup, wLst, wLstL, wFz, wCall, wBi, wMt, wMt0, wSl, wSlL, wPart, wNoPart, wYes, wSeq, wRg1, wRg2, wEnum, wZip, wLc, wLcL, wLRg, wFld, sFldS, sFldA, gFld, wMeth, wMake, lvl2_s, onB, e_eqI, e_neI, e_eqB, e_neB, e_eqS, e_neS, e_eqN, e_tyLT, e_ty1, isTys, tyMem, tyN_non, tyN_bl, tyN_int, tyN_str, tyN_tup, tyN_lst, Bool.true_or, Bool.or_true, Bool.or_false, Bool.false_or, Bool.not_true, Bool.not_false, inn_non, inn_bl, inn_int, inn_str, inn_tup, inn_lst, inn_ptr, e_slT, e_slL, e_slN, isT_P, isT_L, isT_T, isT_N, e_sub, e_fdiv, e_mod, e_pow, e_lt, e_le, e_gt, e_ge, e_neg, e_add, e_addS, e_addT, e_addL, e_addPP, e_addPL, e_addLP, e_mul, e_mulL, e_mulT, e_augI, e_ixT, e_ixL, e_ixN, e_ixP, e_lenT, e_lenL, e_lenN, e_lenS, e_lenP, e_abs, e_intI, e_intB, e_max, e_min, e_tupL, e_tupT, e_listL, e_listT, e_listN, e_listLL, e_listLT, e_divmod, e_isNon, e_isntNon, e_isB, e_isntB, e_setIx, e_insert, e_append, e_isL, e_isLL, e_seqP, e_seqL, e_seqT, e_seqN, it_lst, it_fz, Option.bind_some, Option.isSome_some, ix10, ix20, ix21, ix30, ix32, dl1, dl2, dl3, List.eraseIdx_cons_zero, e_pop0, e_popAt, e_rev, e_clear, e_tupP, e_listP, e_neN, e_neIN, e_neNI, e_eqIN, e_eqNI, at0, at1, at2, at3, Cell.lst.injEq, Cell.obj.injEq, Option.some.injEq, exists_eq_left', decide_eq_true_eq, true_and, and_true, cup_same, cup_cup, wSrtIt, wZipS, wZipB, wBackT, List.flatten_nil, List.flatten_cons, enOf, endOf, excOf, List.map_cons, List.map_nil, List.length_cons, List.length_nil, List.replicate, Nat.reduceAdd, Nat.reduceSub, List.cons_append, List.nil_append, List.set_cons_zero, List.set_cons_succ, List.getElem?_cons_zero, List.getElem?_cons_succ, List.getElem_cons_zero, List.getElem_cons_succ, reduceCtorEq, if_true, if_false, Bool.false_eq_true, decide_true, decide_false, ne_eq, not_true, not_false_eq_true, Int.reduceEq, Nat.reduceMul, true_imp_iff, Int.reduceToNat, Int.reducePow, Nat.reducePow, Int.reduceLE, Int.reduceLT, Nat.reduceLT, and_self, Nat.reduceLeDiff, Int.reduceNeg, Int.reduceAdd, Int.reduceSub, Int.reduceMul, Int.cast_ofNat_Int, lvl_s]
        exact q'
      | some z =>
        try simp only [ewipe, oD, isNon, sRaise, sTry, wIsX, wWhat, wBack, lo_lst, e_mulV, sizeL, sNil, sSeq, sPass, sBrk, sCont, sExpr, sRet, sRetN, sIf, sNever, sSet, sAug, gNm, gTp, gNil', gCons', gSb, sAsg, sPar, sFor, wVar_z, wVar_s, wC, wChn, wTru, sPar3, wRev, wCallK, permF, List.filterMap_cons, List.filterMap_nil, wBin, wUn, wTst, wNot, wAnd, wOr, wAndV, wOrV, wNotV, wIf, wNil, wCons, wTup, wLst, wLstL, wFz, wCall, wBi, wMt, wMt0, wSl, wSlL, wPart, wNoPart, wYes, wSeq, wRg1, wRg2, wEnum, wZip, wLc, wLcL, wLRg, wFld, sFldS, sFldA, gFld, wMeth, wMake, lvl2_s, onB, e_eqI, e_neI, e_eqB, e_neB, e_eqS, e_neS, e_eqN, e_tyLT, e_ty1, isTys, tyMem, tyN_non, tyN_bl, tyN_int, tyN_str, tyN_tup, tyN_lst, Bool.true_or, Bool.or_true, Bool.or_false, Bool.false_or, Bool.not_true, Bool.not_false, inn_non, inn_bl, inn_int, inn_str, inn_tup, inn_lst, inn_ptr, e_slT, e_slL, e_slN, isT_P, isT_L, isT_T, isT_N, e_sub, e_fdiv, e_mod, e_pow, e_lt, e_le, e_gt, e_ge, e_neg, e_add, e_addS, e_addT, e_addL, e_addPP, e_addPL, e_addLP, e_mul, e_mulL, e_mulT, e_augI, e_ixT, e_ixL, e_ixN, e_ixP, e_lenT, e_lenL, e_lenN, e_lenS, e_lenP, e_abs, e_intI, e_intB, e_max, e_min, e_tupL, e_tupT, e_listL, e_listT, e_listN, e_listLL, e_listLT, e_divmod, e_isNon, e_isntNon, e_isB, e_isntB, e_setIx, e_insert, e_append, e_isL, e_isLL, e_seqP, e_seqL, e_seqT, e_seqN, it_lst, it_fz, Option.bind_some, Option.isSome_some, ix10, ix20, ix21, ix30, ix32, dl1, dl2, dl3, List.eraseIdx_cons_zero, e_pop0, e_popAt, e_rev, e_clear, e_tupP, e_listP, e_neN, e_neIN, e_neNI, e_eqIN, e_eqNI, at0, at1, at2, at3, Cell.lst.injEq, Cell.obj.injEq, Option.some.injEq, exists_eq_left', decide_eq_true_eq, true_and, and_true, cup_same, cup_cup, wSrtIt, wZipS, wZipB, wBackT, List.flatten_nil, List.flatten_cons, enOf, endOf, excOf, List.map_cons, List.map_nil, List.length_cons, List.length_nil, List.replicate, Nat.reduceAdd, Nat.reduceSub, List.cons_append, List.nil_append, List.set_cons_zero, List.set_cons_succ, List.getElem?_cons_zero, List.getElem?_cons_succ, List.getElem_cons_zero, List.getElem_cons_succ, reduceCtorEq, if_true, if_false, Bool.false_eq_true, decide_true, decide_false, ne_eq, not_true, not_false_eq_true, Int.reduceEq, Nat.reduceMul, true_imp_iff, Int.reduceToNat, Int.reducePow, Nat.reducePow, Int.reduceLE, Int.reduceLT, Nat.reduceLT, and_self, Nat.reduceLeDiff, Int.reduceNeg, Int.reduceAdd, Int.reduceSub, Int.reduceMul, Int.cast_ofNat_Int, lvl_s]
        exact ⟨mul64 (by omega) (by omega), q'⟩
    refine n13 _ _ (seq_gen fun D14 r14 _ _ n14 => ?_)
    clear n13
    try simp only [sRaise, sTry, wIsX, wWhat, wBack, lo_lst, e_mulV, sizeL, sNil, sSeq, sPass, sBrk, sCont, sExpr, sRet, sRetN, sIf, sNever, sSet, sAug, gNm, gTp, gNil', gCons', gSb, sAsg, sPar, sFor, wVar_z, wVar_s, wC, wChn, wTru, sPar3, wRev, wCallK, permF, List.filterMap_cons, List.filterMap_nil, wBin, wUn, wTst, wNot, wAnd, wOr, wAndV, wOrV, wNotV, wIf, wNil, wCons, wTup, wLst, wLstL, wFz, wCall, wBi, wMt, wMt0, wSl, wSlL, wPart, wNoPart, wYes, wSeq, wRg1, wRg2, wEnum, wZip, wLc, wLcL, wLRg, wFld, sFldS, sFldA, gFld, wMeth, wMake, lvl2_s, onB, e_eqI, e_neI, e_eqB, e_neB, e_eqS, e_neS, e_eqN, e_tyLT, e_ty1, isTys, tyMem, tyN_non, tyN_bl, tyN_int, tyN_str, tyN_tup, tyN_lst, Bool.true_or, Bool.or_true, Bool.or_false, Bool.false_or, Bool.not_true, Bool.not_false, inn_non, inn_bl, inn_int, inn_str, inn_tup, inn_lst, inn_ptr, e_slT, e_slL, e_slN, isT_P, isT_L, isT_T, isT_N, e_sub, e_fdiv, e_mod, e_pow, e_lt, e_le, e_gt, e_ge, e_neg, e_add, e_addS, e_addT, e_addL, e_addPP, e_addPL, e_addLP, e_mul, e_mulL, e_mulT, e_augI, e_ixT, e_ixL, e_ixN, e_ixP, e_lenT, e_lenL, e_lenN, e_lenS, e_lenP, e_abs, e_intI, e_intB, e_max, e_min, e_tupL, e_tupT, e_listL, e_listT, e_listN, e_listLL, e_listLT, e_divmod, e_isNon, e_isntNon, e_isB, e_isntB, e_setIx, e_insert, e_append, e_isL, e_isLL, e_seqP, e_seqL, e_seqT, e_seqN, it_lst, it_fz, Option.bind_some, Option.isSome_some, ix10, ix20, ix21, ix30, ix32, dl1, dl2, dl3, List.eraseIdx_cons_zero, e_pop0, e_popAt, e_rev, e_clear, e_tupP, e_listP, e_neN, e_neIN, e_neNI, e_eqIN, e_eqNI, at0, at1, at2, at3, Cell.lst.injEq, Cell.obj.injEq, Option.some.injEq, exists_eq_left', decide_eq_true_eq, true_and, and_true, cup_same, cup_cup, wSrtIt, wZipS, wZipB, wBackT, List.flatten_nil, List.flatten_cons, enOf, endOf, excOf, List.map_cons, List.map_nil, List.length_cons, List.length_nil, List.replicate, Nat.reduceAdd, Nat.reduceSub, List.cons_append, List.nil_append, List.set_cons_zero, List.set_cons_succ, List.getElem?_cons_zero, List.getElem?_cons_succ, List.getElem_cons_zero, List.getElem_cons_succ, reduceCtorEq, if_true, if_false, Bool.false_eq_true, decide_true, decide_false, ne_eq, not_true, not_false_eq_true, Int.reduceEq, Nat.reduceMul, true_imp_iff, Int.reduceToNat, Int.reducePow, Nat.reducePow, Int.reduceLE, Int.reduceLT, Nat.reduceLT, and_self, Nat.reduceLeDiff, Int.reduceNeg, Int.reduceAdd, Int.reduceSub, Int.reduceMul, Int.cast_ofNat_Int, lvl_s]
    intro hz
    refine ⟨hz, cast _ _ _ _ _ ?_⟩
    refine ⟨mapG (byF b m) g, _, _, xs.map (byF b m), rfl, .inl rfl, .inl rfl, by rw [List.length_map]; omega, by omega, fun c2 l2 => ?_⟩
    rw [outs_map hfr, h1]
    refine n14 _ _ ?_
    clear n14
    try simp only [sRaise, sTry, wIsX, wWhat, wBack, lo_lst, e_mulV, sizeL, sNil, sSeq, sPass, sBrk, sCont, sExpr, sRet, sRetN, sIf, sNever, sSet, sAug, gNm, gTp, gNil', gCons', gSb, sAsg, sPar, sFor, wVar_z, wVar_s, wC, wChn, wTru, sPar3, wRev, wCallK, permF, List.filterMap_cons, List.filterMap_nil, wBin, wUn, wTst, wNot, wAnd, wOr, wAndV, wOrV, wNotV, wIf, wNil, wCons, wTup, wLst, wLstL, wFz, wCall, wBi, wMt, wMt0, wSl, wSlL, wPart, wNoPart, wYes, wSeq, wRg1, wRg2, wEnum, wZip, wLc, wLcL, wLRg, wFld, sFldS, sFldA, gFld, wMeth, wMake, lvl2_s, onB, e_eqI, e_neI, e_eqB, e_neB, e_eqS, e_neS, e_eqN, e_tyLT, e_ty1, isTys, tyMem, tyN_non, tyN_bl, tyN_int, tyN_str, tyN_tup, tyN_lst, Bool.true_or, Bool.or_true, Bool.or_false, Bool.false_or, Bool.not_true, Bool.not_false, inn_non, inn_bl, inn_int, inn_str, inn_tup, inn_lst, inn_ptr, e_slT, e_slL, e_slN, isT_P, isT_L, isT_T, isT_N, e_sub, e_fdiv, e_mod, e_pow, e_lt, e_le, e_gt, e_ge, e_neg, e_add, e_addS, e_addT, e_addL, e_addPP, e_addPL, e_addLP, e_mul, e_mulL, e_mulT, e_augI, e_ixT, e_ixL, e_ixN, e_ixP, e_lenT, e_lenL, e_lenN, e_lenS, e_lenP, e_abs, e_intI, e_intB, e_max, e_min, e_tupL, e_tupT, e_listL, e_listT, e_listN, e_listLL, e_listLT, e_divmod, e_isNon, e_isntNon, e_isB, e_isntB, e_setIx, e_insert, e_append, e_isL, e_isLL, e_seqP, e_seqL, e_seqT, e_seqN, it_lst, it_fz, Option.bind_some, Option.isSome_some, ix10, ix20, ix21, ix30, ix32, dl1, dl2, dl3, List.eraseIdx_cons_zero, e_pop0, e_popAt, e_rev, e_clear, e_tupP, e_listP, e_neN, e_neIN, e_neNI, e_eqIN, e_eqNI, at0, at1, at2, at3, Cell.lst.injEq, Cell.obj.injEq, Option.some.injEq, exists_eq_left', decide_eq_true_eq, true_and, and_true, cup_same, cup_cup, wSrtIt, wZipS, wZipB, wBackT, List.flatten_nil, List.flatten_cons, enOf, endOf, excOf, List.map_cons, List.map_nil, List.length_cons, List.length_nil, List.replicate, Nat.reduceAdd, Nat.reduceSub, List.cons_append, List.nil_append, List.set_cons_zero, List.set_cons_succ, List.getElem?_cons_zero, List.getElem?_cons_succ, List.getElem_cons_zero, List.getElem_cons_succ, reduceCtorEq, if_true, if_false, Bool.false_eq_true, decide_true, decide_false, ne_eq, not_true, not_false_eq_true, Int.reduceEq, Nat.reduceMul, true_imp_iff, Int.reduceToNat, Int.reducePow, Nat.reducePow, Int.reduceLE, Int.reduceLT, Nat.reduceLT, and_self, Nat.reduceLeDiff, Int.reduceNeg, Int.reduceAdd, Int.reduceSub, Int.reduceMul, Int.cast_ofNat_Int, lvl_s]
    intro hz2
    refine ⟨hz2, cast _ _ _ _ _ ?_⟩
    refine same_of (show pls _ = true from pls_ints _) (by simp only [dep]; rw [show deps (((os.map (byF b m))).map D.int) = 0 from deps_ints _]; omega) ?_
    try simp only [sRaise, sTry, wIsX, wWhat, wBack, lo_lst, e_mulV, sizeL, sNil, sSeq, sPass, sBrk, sCont, sExpr, sRet, sRetN, sIf, sNever, sSet, sAug, gNm, gTp, gNil', gCons', gSb, sAsg, sPar, sFor, wVar_z, wVar_s, wC, wChn, wTru, sPar3, wRev, wCallK, permF, List.filterMap_cons, List.filterMap_nil, wBin, wUn, wTst, wNot, wAnd, wOr, wAndV, wOrV, wNotV, wIf, wNil, wCons, wTup, wLst, wLstL, wFz, wCall, wBi, wMt, wMt0, wSl, wSlL, wPart, wNoPart, wYes, wSeq, wRg1, wRg2, wEnum, wZip, wLc, wLcL, wLRg, wFld, sFldS, sFldA, gFld, wMeth, wMake, lvl2_s, onB, e_eqI, e_neI, e_eqB, e_neB, e_eqS, e_neS, e_eqN, e_tyLT, e_ty1, isTys, tyMem, tyN_non, tyN_bl, tyN_int, tyN_str, tyN_tup, tyN_lst, Bool.true_or, Bool.or_true, Bool.or_false, Bool.false_or, Bool.not_true, Bool.not_false, inn_non, inn_bl, inn_int, inn_str, inn_tup, inn_lst, inn_ptr, e_slT, e_slL, e_slN, isT_P, isT_L, isT_T, isT_N, e_sub, e_fdiv, e_mod, e_pow, e_lt, e_le, e_gt, e_ge, e_neg, e_add, e_addS, e_addT, e_addL, e_addPP, e_addPL, e_addLP, e_mul, e_mulL, e_mulT, e_augI, e_ixT, e_ixL, e_ixN, e_ixP, e_lenT, e_lenL, e_lenN, e_lenS, e_lenP, e_abs, e_intI, e_intB, e_max, e_min, e_tupL, e_tupT, e_listL, e_listT, e_listN, e_listLL, e_listLT, e_divmod, e_isNon, e_isntNon, e_isB, e_isntB, e_setIx, e_insert, e_append, e_isL, e_isLL, e_seqP, e_seqL, e_seqT, e_seqN, it_lst, it_fz, Option.bind_some, Option.isSome_some, ix10, ix20, ix21, ix30, ix32, dl1, dl2, dl3, List.eraseIdx_cons_zero, e_pop0, e_popAt, e_rev, e_clear, e_tupP, e_listP, e_neN, e_neIN, e_neNI, e_eqIN, e_eqNI, at0, at1, at2, at3, Cell.lst.injEq, Cell.obj.injEq, Option.some.injEq, exists_eq_left', decide_eq_true_eq, true_and, and_true, cup_same, cup_cup, wSrtIt, wZipS, wZipB, wBackT, List.flatten_nil, List.flatten_cons, enOf, endOf, excOf, List.map_cons, List.map_nil, List.length_cons, List.length_nil, List.replicate, Nat.reduceAdd, Nat.reduceSub, List.cons_append, List.nil_append, List.set_cons_zero, List.set_cons_succ, List.getElem?_cons_zero, List.getElem?_cons_succ, List.getElem_cons_zero, List.getElem_cons_succ, reduceCtorEq, if_true, if_false, Bool.false_eq_true, decide_true, decide_false, ne_eq, not_true, not_false_eq_true, Int.reduceEq, Nat.reduceMul, true_imp_iff, Int.reduceToNat, Int.reducePow, Nat.reducePow, Int.reduceLE, Int.reduceLT, Nat.reduceLT, and_self, Nat.reduceLeDiff, Int.reduceNeg, Int.reduceAdd, Int.reduceSub, Int.reduceMul, Int.cast_ofNat_Int, lvl_s]
    exact st.1 _ _ ⟨⟨_, _, _, _, _, rfl⟩, l1.trans l2⟩
  · rintro en c' ⟨⟨o3, o4, o5, o6, o7, rfl⟩, l1⟩
    refine ⟨trivial, n3 _ _ ?_⟩
    try simp only [sRaise, sTry, wIsX, wWhat, wBack, lo_lst, e_mulV, sizeL, sNil, sSeq, sPass, sBrk, sCont, sExpr, sRet, sRetN, sIf, sNever, sSet, sAug, gNm, gTp, gNil', gCons', gSb, sAsg, sPar, sFor, wVar_z, wVar_s, wC, wChn, wTru, sPar3, wRev, wCallK, permF, List.filterMap_cons, List.filterMap_nil, wBin, wUn, wTst, wNot, wAnd, wOr, wAndV, wOrV, wNotV, wIf, wNil, wCons, wTup, wLst, wLstL, wFz, wCall, wBi, wMt, wMt0, wSl, wSlL, wPart, wNoPart, wYes, wSeq, wRg1, wRg2, wEnum, wZip, wLc, wLcL, wLRg, wFld, sFldS, sFldA, gFld, wMeth, wMake, lvl2_s, onB, e_eqI, e_neI, e_eqB, e_neB, e_eqS, e_neS, e_eqN, e_tyLT, e_ty1, isTys, tyMem, tyN_non, tyN_bl, tyN_int, tyN_str, tyN_tup, tyN_lst, Bool.true_or, Bool.or_true, Bool.or_false, Bool.false_or, Bool.not_true, Bool.not_false, inn_non, inn_bl, inn_int, inn_str, inn_tup, inn_lst, inn_ptr, e_slT, e_slL, e_slN, isT_P, isT_L, isT_T, isT_N, e_sub, e_fdiv, e_mod, e_pow, e_lt, e_le, e_gt, e_ge, e_neg, e_add, e_addS, e_addT, e_addL, e_addPP, e_addPL, e_addLP, e_mul, e_mulL, e_mulT, e_augI, e_ixT, e_ixL, e_ixN, e_ixP, e_lenT, e_lenL, e_lenN, e_lenS, e_lenP, e_abs, e_intI, e_intB, e_max, e_min, e_tupL, e_tupT, e_listL, e_listT, e_listN, e_listLL, e_listLT, e_divmod, e_isNon, e_isntNon, e_isB, e_isntB, e_setIx, e_insert, e_append, e_isL, e_isLL, e_seqP, e_seqL, e_seqT, e_seqN, it_lst, it_fz, Option.bind_some, Option.isSome_some, ix10, ix20, ix21, ix30, ix32, dl1, dl2, dl3, List.eraseIdx_cons_zero, e_pop0, e_popAt, e_rev, e_clear, e_tupP, e_listP, e_neN, e_neIN, e_neNI, e_eqIN, e_eqNI, at0, at1, at2, at3, Cell.lst.injEq, Cell.obj.injEq, Option.some.injEq, exists_eq_left', decide_eq_true_eq, true_and, and_true, cup_same, cup_cup, wSrtIt, wZipS, wZipB, wBackT, List.flatten_nil, List.flatten_cons, enOf, endOf, excOf, List.map_cons, List.map_nil, List.length_cons, List.length_nil, List.replicate, Nat.reduceAdd, Nat.reduceSub, List.cons_append, List.nil_append, List.set_cons_zero, List.set_cons_succ, List.getElem?_cons_zero, List.getElem?_cons_succ, List.getElem_cons_zero, List.getElem_cons_succ, reduceCtorEq, if_true, if_false, Bool.false_eq_true, decide_true, decide_false, ne_eq, not_true, not_false_eq_true, Int.reduceEq, Nat.reduceMul, true_imp_iff, Int.reduceToNat, Int.reducePow, Nat.reducePow, Int.reduceLE, Int.reduceLT, Nat.reduceLT, and_self, Nat.reduceLeDiff, Int.reduceNeg, Int.reduceAdd, Int.reduceSub, Int.reduceMul, Int.cast_ofNat_Int, lvl_s]
    exact ⟨_, CLe.refl _, q _ l1⟩
def w_k42_law (C_Guess : Addr) (k : Nat) : WS := (sSeq (sSet 1 (wCall 2 c_l_folded k (wCons (wVar 0) (wCons (wC (.int 5)) wNil)))) (sSeq (sFor (wRg1 (wBi oMax (wCons (wC (.int 1)) (wCons (wBi oLen (wCons (wVar 1) wNil)) wNil)))) (.nm 2) (sSeq (sSet 3 (wCall 2 c_l_box k (wCons (wVar 1) (wCons (wVar 2) wNil)))) (sSeq (sPar 4 5 (wCons (wBin oAdd (wC (.int 1)) (wCall 2 c_l_take k (wCons (wVar 3) (wCons (wBin oIx (wLst (wCons (wC (.int 9)) (wCons (wBin oPow (wC (.int 10)) (wC (.int 6))) wNil))) (wCall 2 c_l_take k (wCons (wVar 3) (wCons (wC (.int 2)) wNil)))) wNil)))) (wCons (wBin oSub (wCall 2 c_l_take k (wCons (wVar 3) (wCons (wC (.int 2001)) wNil))) (wC (.int 1000))) wNil))) (sIf (wOr (wNot (wTst (wCall 2 (c_known42 C_Guess) k (wCons (wVar 4) (wCons (wVar 5) wNil))))) (wNot (wTst (wCall 2 c_sent42 k (wCons (wVar 4) (wCons (wVar 5) wNil)))))) (sRet (wC (.bl false))) sNil)))) (sRet (wC (.bl true)))))
def c_k42_law := c_lawOf
theorem p_k42_law (C_Guess : Addr) (k : Nat) (ds : List D) (c : Cs) (Q : DK) (X0 : XK0) (hlen0 : ds.length = 1) (h : c_k42_law k ds c Q X0) : w_k42_law C_Guess k (endOf Q) (excOf X0) (enOf 6 ds) c := by
  obtain ⟨ns, rfl, h63, hk, q⟩ := h
  obtain ⟨k, rfl⟩ : ∃ k', k = k' + 30 := ⟨k - 30, by omega⟩
  simp only [w_k42_law, sRaise, sTry, wIsX, wWhat, wBack, lo_lst, e_mulV, sizeL, sNil, sSeq, sPass, sBrk, sCont, sExpr, sRet, sRetN, sIf, sNever, sSet, sAug, gNm, gTp, gNil', gCons', gSb, sAsg, sPar, sFor, wVar_z, wVar_s, wC, wChn, wTru, sPar3, wRev, wCallK, permF, List.filterMap_cons, List.filterMap_nil, wBin, wUn, wTst, wNot, wAnd, wOr, wAndV, wOrV, wNotV, wIf, wNil, wCons, wTup, wLst, wLstL, wFz, wCall, wBi, wMt, wMt0, wSl, wSlL, wPart, wNoPart, wYes, wSeq, wRg1, wRg2, wEnum, wZip, wLc, wLcL, wLRg, wFld, sFldS, sFldA, gFld, wMeth, wMake, lvl2_s, onB, e_eqI, e_neI, e_eqB, e_neB, e_eqS, e_neS, e_eqN, e_tyLT, e_ty1, isTys, tyMem, tyN_non, tyN_bl, tyN_int, tyN_str, tyN_tup, tyN_lst, Bool.true_or, Bool.or_true, Bool.or_false, Bool.false_or, Bool.not_true, Bool.not_false, inn_non, inn_bl, inn_int, inn_str, inn_tup, inn_lst, inn_ptr, e_slT, e_slL, e_slN, isT_P, isT_L, isT_T, isT_N, e_sub, e_fdiv, e_mod, e_pow, e_lt, e_le, e_gt, e_ge, e_neg, e_add, e_addS, e_addT, e_addL, e_addPP, e_addPL, e_addLP, e_mul, e_mulL, e_mulT, e_augI, e_ixT, e_ixL, e_ixN, e_ixP, e_lenT, e_lenL, e_lenN, e_lenS, e_lenP, e_abs, e_intI, e_intB, e_max, e_min, e_tupL, e_tupT, e_listL, e_listT, e_listN, e_listLL, e_listLT, e_divmod, e_isNon, e_isntNon, e_isB, e_isntB, e_setIx, e_insert, e_append, e_isL, e_isLL, e_seqP, e_seqL, e_seqT, e_seqN, it_lst, it_fz, Option.bind_some, Option.isSome_some, ix10, ix20, ix21, ix30, ix32, dl1, dl2, dl3, List.eraseIdx_cons_zero, e_pop0, e_popAt, e_rev, e_clear, e_tupP, e_listP, e_neN, e_neIN, e_neNI, e_eqIN, e_eqNI, at0, at1, at2, at3, Cell.lst.injEq, Cell.obj.injEq, Option.some.injEq, exists_eq_left', decide_eq_true_eq, true_and, and_true, cup_same, cup_cup, wSrtIt, wZipS, wZipB, wBackT, List.flatten_nil, List.flatten_cons, enOf, endOf, excOf, List.map_cons, List.map_nil, List.length_cons, List.length_nil, List.replicate, Nat.reduceAdd, Nat.reduceSub, List.cons_append, List.nil_append, List.set_cons_zero, List.set_cons_succ, List.getElem?_cons_zero, List.getElem?_cons_succ, List.getElem_cons_zero, List.getElem_cons_succ, reduceCtorEq, if_true, if_false, Bool.false_eq_true, decide_true, decide_false, ne_eq, not_true, not_false_eq_true, Int.reduceEq, Nat.reduceMul, true_imp_iff, Int.reduceToNat, Int.reducePow, Nat.reducePow, Int.reduceLE, Int.reduceLT, Nat.reduceLT, and_self, Nat.reduceLeDiff, Int.reduceNeg, Int.reduceAdd, Int.reduceSub, Int.reduceMul, Int.cast_ofNat_Int, lvl_s]
  refine ⟨ns, 5, rfl, h63, by omega, by omega, fun ms hms => ?_⟩
  have hc := cells_le hms
  simp only [sRaise, sTry, wIsX, wWhat, wBack, lo_lst, e_mulV, sizeL, sNil, sSeq, sPass, sBrk, sCont, sExpr, sRet, sRetN, sIf, sNever, sSet, sAug, gNm, gTp, gNil', gCons', gSb, sAsg, sPar, sFor, wVar_z, wVar_s, wC, wChn, wTru, sPar3, wRev, wCallK, permF, List.filterMap_cons, List.filterMap_nil, wBin, wUn, wTst, wNot, wAnd, wOr, wAndV, wOrV, wNotV, wIf, wNil, wCons, wTup, wLst, wLstL, wFz, wCall, wBi, wMt, wMt0, wSl, wSlL, wPart, wNoPart, wYes, wSeq, wRg1, wRg2, wEnum, wZip, wLc, wLcL, wLRg, wFld, sFldS, sFldA, gFld, wMeth, wMake, lvl2_s, onB, e_eqI, e_neI, e_eqB, e_neB, e_eqS, e_neS, e_eqN, e_tyLT, e_ty1, isTys, tyMem, tyN_non, tyN_bl, tyN_int, tyN_str, tyN_tup, tyN_lst, Bool.true_or, Bool.or_true, Bool.or_false, Bool.false_or, Bool.not_true, Bool.not_false, inn_non, inn_bl, inn_int, inn_str, inn_tup, inn_lst, inn_ptr, e_slT, e_slL, e_slN, isT_P, isT_L, isT_T, isT_N, e_sub, e_fdiv, e_mod, e_pow, e_lt, e_le, e_gt, e_ge, e_neg, e_add, e_addS, e_addT, e_addL, e_addPP, e_addPL, e_addLP, e_mul, e_mulL, e_mulT, e_augI, e_ixT, e_ixL, e_ixN, e_ixP, e_lenT, e_lenL, e_lenN, e_lenS, e_lenP, e_abs, e_intI, e_intB, e_max, e_min, e_tupL, e_tupT, e_listL, e_listT, e_listN, e_listLL, e_listLT, e_divmod, e_isNon, e_isntNon, e_isB, e_isntB, e_setIx, e_insert, e_append, e_isL, e_isLL, e_seqP, e_seqL, e_seqT, e_seqN, it_lst, it_fz, Option.bind_some, Option.isSome_some, ix10, ix20, ix21, ix30, ix32, dl1, dl2, dl3, List.eraseIdx_cons_zero, e_pop0, e_popAt, e_rev, e_clear, e_tupP, e_listP, e_neN, e_neIN, e_neNI, e_eqIN, e_eqNI, at0, at1, at2, at3, Cell.lst.injEq, Cell.obj.injEq, Option.some.injEq, exists_eq_left', decide_eq_true_eq, true_and, and_true, cup_same, cup_cup, wSrtIt, wZipS, wZipB, wBackT, List.flatten_nil, List.flatten_cons, enOf, endOf, excOf, List.map_cons, List.map_nil, List.length_cons, List.length_nil, List.replicate, Nat.reduceAdd, Nat.reduceSub, List.cons_append, List.nil_append, List.set_cons_zero, List.set_cons_succ, List.getElem?_cons_zero, List.getElem?_cons_succ, List.getElem_cons_zero, List.getElem_cons_succ, reduceCtorEq, if_true, if_false, Bool.false_eq_true, decide_true, decide_false, ne_eq, not_true, not_false_eq_true, Int.reduceEq, Nat.reduceMul, true_imp_iff, Int.reduceToNat, Int.reducePow, Nat.reducePow, Int.reduceLE, Int.reduceLT, Nat.reduceLT, and_self, Nat.reduceLeDiff, Int.reduceNeg, Int.reduceAdd, Int.reduceSub, Int.reduceMul, Int.cast_ofNat_Int, lvl_s]
  generalize (if ((ms.map D.int).length : Int) > 1 then ((ms.map D.int).length : Int) else 1) = mx at hc ⊢
  refine ⟨by omega, by omega, ?_⟩
  refine loop_inv (fun i en c' => ∃ o2 o3 o4 o5, en = [some (.scr ns), some (.lst (ms.map .int)), o2, o3, o4, o5]) ⟨_, _, _, _, rfl⟩ ?_ ?_
  · rintro i en c' d hd ⟨o2, o3, o4, o5, rfl⟩
    obtain ⟨j, rfl, hj0, hj1⟩ := rgD0_mem (List.mem_of_getElem? hd)
    refine ⟨trivial, _, rfl, fun D1 h5 h6 h7 h8 => ?_⟩
    refine seq_gen fun D2 r2 _ _ n2 => ?_
    try simp only [sRaise, sTry, wIsX, wWhat, wBack, lo_lst, e_mulV, sizeL, sNil, sSeq, sPass, sBrk, sCont, sExpr, sRet, sRetN, sIf, sNever, sSet, sAug, gNm, gTp, gNil', gCons', gSb, sAsg, sPar, sFor, wVar_z, wVar_s, wC, wChn, wTru, sPar3, wRev, wCallK, permF, List.filterMap_cons, List.filterMap_nil, wBin, wUn, wTst, wNot, wAnd, wOr, wAndV, wOrV, wNotV, wIf, wNil, wCons, wTup, wLst, wLstL, wFz, wCall, wBi, wMt, wMt0, wSl, wSlL, wPart, wNoPart, wYes, wSeq, wRg1, wRg2, wEnum, wZip, wLc, wLcL, wLRg, wFld, sFldS, sFldA, gFld, wMeth, wMake, lvl2_s, onB, e_eqI, e_neI, e_eqB, e_neB, e_eqS, e_neS, e_eqN, e_tyLT, e_ty1, isTys, tyMem, tyN_non, tyN_bl, tyN_int, tyN_str, tyN_tup, tyN_lst, Bool.true_or, Bool.or_true, Bool.or_false, Bool.false_or, Bool.not_true, Bool.not_false, inn_non, inn_bl, inn_int, inn_str, inn_tup, inn_lst, inn_ptr, e_slT, e_slL, e_slN, isT_P, isT_L, isT_T, isT_N, e_sub, e_fdiv, e_mod, e_pow, e_lt, e_le, e_gt, e_ge, e_neg, e_add, e_addS, e_addT, e_addL, e_addPP, e_addPL, e_addLP, e_mul, e_mulL, e_mulT, e_augI, e_ixT, e_ixL, e_ixN, e_ixP, e_lenT, e_lenL, e_lenN, e_lenS, e_lenP, e_abs, e_intI, e_intB, e_max, e_min, e_tupL, e_tupT, e_listL, e_listT, e_listN, e_listLL, e_listLT, e_divmod, e_isNon, e_isntNon, e_isB, e_isntB, e_setIx, e_insert, e_append, e_isL, e_isLL, e_seqP, e_seqL, e_seqT, e_seqN, it_lst, it_fz, Option.bind_some, Option.isSome_some, ix10, ix20, ix21, ix30, ix32, dl1, dl2, dl3, List.eraseIdx_cons_zero, e_pop0, e_popAt, e_rev, e_clear, e_tupP, e_listP, e_neN, e_neIN, e_neNI, e_eqIN, e_eqNI, at0, at1, at2, at3, Cell.lst.injEq, Cell.obj.injEq, Option.some.injEq, exists_eq_left', decide_eq_true_eq, true_and, and_true, cup_same, cup_cup, wSrtIt, wZipS, wZipB, wBackT, List.flatten_nil, List.flatten_cons, enOf, endOf, excOf, List.map_cons, List.map_nil, List.length_cons, List.length_nil, List.replicate, Nat.reduceAdd, Nat.reduceSub, List.cons_append, List.nil_append, List.set_cons_zero, List.set_cons_succ, List.getElem?_cons_zero, List.getElem?_cons_succ, List.getElem_cons_zero, List.getElem_cons_succ, reduceCtorEq, if_true, if_false, Bool.false_eq_true, decide_true, decide_false, ne_eq, not_true, not_false_eq_true, Int.reduceEq, Nat.reduceMul, true_imp_iff, Int.reduceToNat, Int.reducePow, Nat.reducePow, Int.reduceLE, Int.reduceLT, Nat.reduceLT, and_self, Nat.reduceLeDiff, Int.reduceNeg, Int.reduceAdd, Int.reduceSub, Int.reduceMul, Int.cast_ofNat_Int, lvl_s]
    refine ⟨ms, j, rfl, hj0, by omega, fun p c1 hp u => ?_⟩
    refine n2 _ _ (seq_gen fun D3 r3 _ _ n3 => ?_)
    try simp only [sRaise, sTry, wIsX, wWhat, wBack, lo_lst, e_mulV, sizeL, sNil, sSeq, sPass, sBrk, sCont, sExpr, sRet, sRetN, sIf, sNever, sSet, sAug, gNm, gTp, gNil', gCons', gSb, sAsg, sPar, sFor, wVar_z, wVar_s, wC, wChn, wTru, sPar3, wRev, wCallK, permF, List.filterMap_cons, List.filterMap_nil, wBin, wUn, wTst, wNot, wAnd, wOr, wAndV, wOrV, wNotV, wIf, wNil, wCons, wTup, wLst, wLstL, wFz, wCall, wBi, wMt, wMt0, wSl, wSlL, wPart, wNoPart, wYes, wSeq, wRg1, wRg2, wEnum, wZip, wLc, wLcL, wLRg, wFld, sFldS, sFldA, gFld, wMeth, wMake, lvl2_s, onB, e_eqI, e_neI, e_eqB, e_neB, e_eqS, e_neS, e_eqN, e_tyLT, e_ty1, isTys, tyMem, tyN_non, tyN_bl, tyN_int, tyN_str, tyN_tup, tyN_lst, Bool.true_or, Bool.or_true, Bool.or_false, Bool.false_or, Bool.not_true, Bool.not_false, inn_non, inn_bl, inn_int, inn_str, inn_tup, inn_lst, inn_ptr, e_slT, e_slL, e_slN, isT_P, isT_L, isT_T, isT_N, e_sub, e_fdiv, e_mod, e_pow, e_lt, e_le, e_gt, e_ge, e_neg, e_add, e_addS, e_addT, e_addL, e_addPP, e_addPL, e_addLP, e_mul, e_mulL, e_mulT, e_augI, e_ixT, e_ixL, e_ixN, e_ixP, e_lenT, e_lenL, e_lenN, e_lenS, e_lenP, e_abs, e_intI, e_intB, e_max, e_min, e_tupL, e_tupT, e_listL, e_listT, e_listN, e_listLL, e_listLT, e_divmod, e_isNon, e_isntNon, e_isB, e_isntB, e_setIx, e_insert, e_append, e_isL, e_isLL, e_seqP, e_seqL, e_seqT, e_seqN, it_lst, it_fz, Option.bind_some, Option.isSome_some, ix10, ix20, ix21, ix30, ix32, dl1, dl2, dl3, List.eraseIdx_cons_zero, e_pop0, e_popAt, e_rev, e_clear, e_tupP, e_listP, e_neN, e_neIN, e_neNI, e_eqIN, e_eqNI, at0, at1, at2, at3, Cell.lst.injEq, Cell.obj.injEq, Option.some.injEq, exists_eq_left', decide_eq_true_eq, true_and, and_true, cup_same, cup_cup, wSrtIt, wZipS, wZipB, wBackT, List.flatten_nil, List.flatten_cons, enOf, endOf, excOf, List.map_cons, List.map_nil, List.length_cons, List.length_nil, List.replicate, Nat.reduceAdd, Nat.reduceSub, List.cons_append, List.nil_append, List.set_cons_zero, List.set_cons_succ, List.getElem?_cons_zero, List.getElem?_cons_succ, List.getElem_cons_zero, List.getElem_cons_succ, reduceCtorEq, if_true, if_false, Bool.false_eq_true, decide_true, decide_false, ne_eq, not_true, not_false_eq_true, Int.reduceEq, Nat.reduceMul, true_imp_iff, Int.reduceToNat, Int.reducePow, Nat.reducePow, Int.reduceLE, Int.reduceLT, Nat.reduceLT, and_self, Nat.reduceLeDiff, Int.reduceNeg, Int.reduceAdd, Int.reduceSub, Int.reduceMul, Int.cast_ofNat_Int, lvl_s]
    refine take_us (by omega) (by omega) (by omega) u.1 (by omega) fun r c2 g0 g1 u1 => ?_
    obtain ⟨n, hn1, hn2, hn3⟩ : ∃ n : Int, atI [D.int 9, D.int 1000000] r = some (.int n) ∧ 9 ≤ n ∧ n ≤ 1000000 := by
      have : r = 0 ∨ r = 1 := by omega
      rcases this with rfl | rfl
      · exact ⟨9, at0, by omega, by omega⟩
      · exact ⟨1000000, at1, by omega, by omega⟩
    try simp only [sRaise, sTry, wIsX, wWhat, wBack, lo_lst, e_mulV, sizeL, sNil, sSeq, sPass, sBrk, sCont, sExpr, sRet, sRetN, sIf, sNever, sSet, sAug, gNm, gTp, gNil', gCons', gSb, sAsg, sPar, sFor, wVar_z, wVar_s, wC, wChn, wTru, sPar3, wRev, wCallK, permF, List.filterMap_cons, List.filterMap_nil, wBin, wUn, wTst, wNot, wAnd, wOr, wAndV, wOrV, wNotV, wIf, wNil, wCons, wTup, wLst, wLstL, wFz, wCall, wBi, wMt, wMt0, wSl, wSlL, wPart, wNoPart, wYes, wSeq, wRg1, wRg2, wEnum, wZip, wLc, wLcL, wLRg, wFld, sFldS, sFldA, gFld, wMeth, wMake, lvl2_s, onB, e_eqI, e_neI, e_eqB, e_neB, e_eqS, e_neS, e_eqN, e_tyLT, e_ty1, isTys, tyMem, tyN_non, tyN_bl, tyN_int, tyN_str, tyN_tup, tyN_lst, Bool.true_or, Bool.or_true, Bool.or_false, Bool.false_or, Bool.not_true, Bool.not_false, inn_non, inn_bl, inn_int, inn_str, inn_tup, inn_lst, inn_ptr, e_slT, e_slL, e_slN, isT_P, isT_L, isT_T, isT_N, e_sub, e_fdiv, e_mod, e_pow, e_lt, e_le, e_gt, e_ge, e_neg, e_add, e_addS, e_addT, e_addL, e_addPP, e_addPL, e_addLP, e_mul, e_mulL, e_mulT, e_augI, e_ixT, e_ixL, e_ixN, e_ixP, e_lenT, e_lenL, e_lenN, e_lenS, e_lenP, e_abs, e_intI, e_intB, e_max, e_min, e_tupL, e_tupT, e_listL, e_listT, e_listN, e_listLL, e_listLT, e_divmod, e_isNon, e_isntNon, e_isB, e_isntB, e_setIx, e_insert, e_append, e_isL, e_isLL, e_seqP, e_seqL, e_seqT, e_seqN, it_lst, it_fz, Option.bind_some, Option.isSome_some, ix10, ix20, ix21, ix30, ix32, dl1, dl2, dl3, List.eraseIdx_cons_zero, e_pop0, e_popAt, e_rev, e_clear, e_tupP, e_listP, e_neN, e_neIN, e_neNI, e_eqIN, e_eqNI, at0, at1, at2, at3, Cell.lst.injEq, Cell.obj.injEq, Option.some.injEq, exists_eq_left', decide_eq_true_eq, true_and, and_true, cup_same, cup_cup, wSrtIt, wZipS, wZipB, wBackT, List.flatten_nil, List.flatten_cons, enOf, endOf, excOf, List.map_cons, List.map_nil, List.length_cons, List.length_nil, List.replicate, Nat.reduceAdd, Nat.reduceSub, List.cons_append, List.nil_append, List.set_cons_zero, List.set_cons_succ, List.getElem?_cons_zero, List.getElem?_cons_succ, List.getElem_cons_zero, List.getElem_cons_succ, reduceCtorEq, if_true, if_false, Bool.false_eq_true, decide_true, decide_false, ne_eq, not_true, not_false_eq_true, Int.reduceEq, Nat.reduceMul, true_imp_iff, Int.reduceToNat, Int.reducePow, Nat.reducePow, Int.reduceLE, Int.reduceLT, Nat.reduceLT, and_self, Nat.reduceLeDiff, Int.reduceNeg, Int.reduceAdd, Int.reduceSub, Int.reduceMul, Int.cast_ofNat_Int, lvl_s]
    refine ⟨_, hn1, ?_⟩
    refine take_us (by omega) (by omega) (by omega) u1.1 (by omega) fun x c3 g0' g1' u2 => ?_
    try simp only [sRaise, sTry, wIsX, wWhat, wBack, lo_lst, e_mulV, sizeL, sNil, sSeq, sPass, sBrk, sCont, sExpr, sRet, sRetN, sIf, sNever, sSet, sAug, gNm, gTp, gNil', gCons', gSb, sAsg, sPar, sFor, wVar_z, wVar_s, wC, wChn, wTru, sPar3, wRev, wCallK, permF, List.filterMap_cons, List.filterMap_nil, wBin, wUn, wTst, wNot, wAnd, wOr, wAndV, wOrV, wNotV, wIf, wNil, wCons, wTup, wLst, wLstL, wFz, wCall, wBi, wMt, wMt0, wSl, wSlL, wPart, wNoPart, wYes, wSeq, wRg1, wRg2, wEnum, wZip, wLc, wLcL, wLRg, wFld, sFldS, sFldA, gFld, wMeth, wMake, lvl2_s, onB, e_eqI, e_neI, e_eqB, e_neB, e_eqS, e_neS, e_eqN, e_tyLT, e_ty1, isTys, tyMem, tyN_non, tyN_bl, tyN_int, tyN_str, tyN_tup, tyN_lst, Bool.true_or, Bool.or_true, Bool.or_false, Bool.false_or, Bool.not_true, Bool.not_false, inn_non, inn_bl, inn_int, inn_str, inn_tup, inn_lst, inn_ptr, e_slT, e_slL, e_slN, isT_P, isT_L, isT_T, isT_N, e_sub, e_fdiv, e_mod, e_pow, e_lt, e_le, e_gt, e_ge, e_neg, e_add, e_addS, e_addT, e_addL, e_addPP, e_addPL, e_addLP, e_mul, e_mulL, e_mulT, e_augI, e_ixT, e_ixL, e_ixN, e_ixP, e_lenT, e_lenL, e_lenN, e_lenS, e_lenP, e_abs, e_intI, e_intB, e_max, e_min, e_tupL, e_tupT, e_listL, e_listT, e_listN, e_listLL, e_listLT, e_divmod, e_isNon, e_isntNon, e_isB, e_isntB, e_setIx, e_insert, e_append, e_isL, e_isLL, e_seqP, e_seqL, e_seqT, e_seqN, it_lst, it_fz, Option.bind_some, Option.isSome_some, ix10, ix20, ix21, ix30, ix32, dl1, dl2, dl3, List.eraseIdx_cons_zero, e_pop0, e_popAt, e_rev, e_clear, e_tupP, e_listP, e_neN, e_neIN, e_neNI, e_eqIN, e_eqNI, at0, at1, at2, at3, Cell.lst.injEq, Cell.obj.injEq, Option.some.injEq, exists_eq_left', decide_eq_true_eq, true_and, and_true, cup_same, cup_cup, wSrtIt, wZipS, wZipB, wBackT, List.flatten_nil, List.flatten_cons, enOf, endOf, excOf, List.map_cons, List.map_nil, List.length_cons, List.length_nil, List.replicate, Nat.reduceAdd, Nat.reduceSub, List.cons_append, List.nil_append, List.set_cons_zero, List.set_cons_succ, List.getElem?_cons_zero, List.getElem?_cons_succ, List.getElem_cons_zero, List.getElem_cons_succ, reduceCtorEq, if_true, if_false, Bool.false_eq_true, decide_true, decide_false, ne_eq, not_true, not_false_eq_true, Int.reduceEq, Nat.reduceMul, true_imp_iff, Int.reduceToNat, Int.reducePow, Nat.reducePow, Int.reduceLE, Int.reduceLT, Nat.reduceLT, and_self, Nat.reduceLeDiff, Int.reduceNeg, Int.reduceAdd, Int.reduceSub, Int.reduceMul, Int.cast_ofNat_Int, lvl_s]
    refine take_us (by omega) (by omega) (by omega) u2.1 (by omega) fun y c4 g0'' g1'' u3 => ?_
    try simp only [sRaise, sTry, wIsX, wWhat, wBack, lo_lst, e_mulV, sizeL, sNil, sSeq, sPass, sBrk, sCont, sExpr, sRet, sRetN, sIf, sNever, sSet, sAug, gNm, gTp, gNil', gCons', gSb, sAsg, sPar, sFor, wVar_z, wVar_s, wC, wChn, wTru, sPar3, wRev, wCallK, permF, List.filterMap_cons, List.filterMap_nil, wBin, wUn, wTst, wNot, wAnd, wOr, wAndV, wOrV, wNotV, wIf, wNil, wCons, wTup, wLst, wLstL, wFz, wCall, wBi, wMt, wMt0, wSl, wSlL, wPart, wNoPart, wYes, wSeq, wRg1, wRg2, wEnum, wZip, wLc, wLcL, wLRg, wFld, sFldS, sFldA, gFld, wMeth, wMake, lvl2_s, onB, e_eqI, e_neI, e_eqB, e_neB, e_eqS, e_neS, e_eqN, e_tyLT, e_ty1, isTys, tyMem, tyN_non, tyN_bl, tyN_int, tyN_str, tyN_tup, tyN_lst, Bool.true_or, Bool.or_true, Bool.or_false, Bool.false_or, Bool.not_true, Bool.not_false, inn_non, inn_bl, inn_int, inn_str, inn_tup, inn_lst, inn_ptr, e_slT, e_slL, e_slN, isT_P, isT_L, isT_T, isT_N, e_sub, e_fdiv, e_mod, e_pow, e_lt, e_le, e_gt, e_ge, e_neg, e_add, e_addS, e_addT, e_addL, e_addPP, e_addPL, e_addLP, e_mul, e_mulL, e_mulT, e_augI, e_ixT, e_ixL, e_ixN, e_ixP, e_lenT, e_lenL, e_lenN, e_lenS, e_lenP, e_abs, e_intI, e_intB, e_max, e_min, e_tupL, e_tupT, e_listL, e_listT, e_listN, e_listLL, e_listLT, e_divmod, e_isNon, e_isntNon, e_isB, e_isntB, e_setIx, e_insert, e_append, e_isL, e_isLL, e_seqP, e_seqL, e_seqT, e_seqN, it_lst, it_fz, Option.bind_some, Option.isSome_some, ix10, ix20, ix21, ix30, ix32, dl1, dl2, dl3, List.eraseIdx_cons_zero, e_pop0, e_popAt, e_rev, e_clear, e_tupP, e_listP, e_neN, e_neIN, e_neNI, e_eqIN, e_eqNI, at0, at1, at2, at3, Cell.lst.injEq, Cell.obj.injEq, Option.some.injEq, exists_eq_left', decide_eq_true_eq, true_and, and_true, cup_same, cup_cup, wSrtIt, wZipS, wZipB, wBackT, List.flatten_nil, List.flatten_cons, enOf, endOf, excOf, List.map_cons, List.map_nil, List.length_cons, List.length_nil, List.replicate, Nat.reduceAdd, Nat.reduceSub, List.cons_append, List.nil_append, List.set_cons_zero, List.set_cons_succ, List.getElem?_cons_zero, List.getElem?_cons_succ, List.getElem_cons_zero, List.getElem_cons_succ, reduceCtorEq, if_true, if_false, Bool.false_eq_true, decide_true, decide_false, ne_eq, not_true, not_false_eq_true, Int.reduceEq, Nat.reduceMul, true_imp_iff, Int.reduceToNat, Int.reducePow, Nat.reducePow, Int.reduceLE, Int.reduceLT, Nat.reduceLT, and_self, Nat.reduceLeDiff, Int.reduceNeg, Int.reduceAdd, Int.reduceSub, Int.reduceMul, Int.cast_ofNat_Int, lvl_s]
    refine n3 _ _ ?_
    try simp only [sRaise, sTry, wIsX, wWhat, wBack, lo_lst, e_mulV, sizeL, sNil, sSeq, sPass, sBrk, sCont, sExpr, sRet, sRetN, sIf, sNever, sSet, sAug, gNm, gTp, gNil', gCons', gSb, sAsg, sPar, sFor, wVar_z, wVar_s, wC, wChn, wTru, sPar3, wRev, wCallK, permF, List.filterMap_cons, List.filterMap_nil, wBin, wUn, wTst, wNot, wAnd, wOr, wAndV, wOrV, wNotV, wIf, wNil, wCons, wTup, wLst, wLstL, wFz, wCall, wBi, wMt, wMt0, wSl, wSlL, wPart, wNoPart, wYes, wSeq, wRg1, wRg2, wEnum, wZip, wLc, wLcL, wLRg, wFld, sFldS, sFldA, gFld, wMeth, wMake, lvl2_s, onB, e_eqI, e_neI, e_eqB, e_neB, e_eqS, e_neS, e_eqN, e_tyLT, e_ty1, isTys, tyMem, tyN_non, tyN_bl, tyN_int, tyN_str, tyN_tup, tyN_lst, Bool.true_or, Bool.or_true, Bool.or_false, Bool.false_or, Bool.not_true, Bool.not_false, inn_non, inn_bl, inn_int, inn_str, inn_tup, inn_lst, inn_ptr, e_slT, e_slL, e_slN, isT_P, isT_L, isT_T, isT_N, e_sub, e_fdiv, e_mod, e_pow, e_lt, e_le, e_gt, e_ge, e_neg, e_add, e_addS, e_addT, e_addL, e_addPP, e_addPL, e_addLP, e_mul, e_mulL, e_mulT, e_augI, e_ixT, e_ixL, e_ixN, e_ixP, e_lenT, e_lenL, e_lenN, e_lenS, e_lenP, e_abs, e_intI, e_intB, e_max, e_min, e_tupL, e_tupT, e_listL, e_listT, e_listN, e_listLL, e_listLT, e_divmod, e_isNon, e_isntNon, e_isB, e_isntB, e_setIx, e_insert, e_append, e_isL, e_isLL, e_seqP, e_seqL, e_seqT, e_seqN, it_lst, it_fz, Option.bind_some, Option.isSome_some, ix10, ix20, ix21, ix30, ix32, dl1, dl2, dl3, List.eraseIdx_cons_zero, e_pop0, e_popAt, e_rev, e_clear, e_tupP, e_listP, e_neN, e_neIN, e_neNI, e_eqIN, e_eqNI, at0, at1, at2, at3, Cell.lst.injEq, Cell.obj.injEq, Option.some.injEq, exists_eq_left', decide_eq_true_eq, true_and, and_true, cup_same, cup_cup, wSrtIt, wZipS, wZipB, wBackT, List.flatten_nil, List.flatten_cons, enOf, endOf, excOf, List.map_cons, List.map_nil, List.length_cons, List.length_nil, List.replicate, Nat.reduceAdd, Nat.reduceSub, List.cons_append, List.nil_append, List.set_cons_zero, List.set_cons_succ, List.getElem?_cons_zero, List.getElem?_cons_succ, List.getElem_cons_zero, List.getElem_cons_succ, reduceCtorEq, if_true, if_false, Bool.false_eq_true, decide_true, decide_false, ne_eq, not_true, not_false_eq_true, Int.reduceEq, Nat.reduceMul, true_imp_iff, Int.reduceToNat, Int.reducePow, Nat.reducePow, Int.reduceLE, Int.reduceLT, Nat.reduceLT, and_self, Nat.reduceLeDiff, Int.reduceNeg, Int.reduceAdd, Int.reduceSub, Int.reduceMul, Int.cast_ofNat_Int, lvl_s]
    refine ⟨1 + x, y - 1000, rfl, by omega, by omega, by omega, fun c5 l5 => ?_⟩
    try simp only [sRaise, sTry, wIsX, wWhat, wBack, lo_lst, e_mulV, sizeL, sNil, sSeq, sPass, sBrk, sCont, sExpr, sRet, sRetN, sIf, sNever, sSet, sAug, gNm, gTp, gNil', gCons', gSb, sAsg, sPar, sFor, wVar_z, wVar_s, wC, wChn, wTru, sPar3, wRev, wCallK, permF, List.filterMap_cons, List.filterMap_nil, wBin, wUn, wTst, wNot, wAnd, wOr, wAndV, wOrV, wNotV, wIf, wNil, wCons, wTup, wLst, wLstL, wFz, wCall, wBi, wMt, wMt0, wSl, wSlL, wPart, wNoPart, wYes, wSeq, wRg1, wRg2, wEnum, wZip, wLc, wLcL, wLRg, wFld, sFldS, sFldA, gFld, wMeth, wMake, lvl2_s, onB, e_eqI, e_neI, e_eqB, e_neB, e_eqS, e_neS, e_eqN, e_tyLT, e_ty1, isTys, tyMem, tyN_non, tyN_bl, tyN_int, tyN_str, tyN_tup, tyN_lst, Bool.true_or, Bool.or_true, Bool.or_false, Bool.false_or, Bool.not_true, Bool.not_false, inn_non, inn_bl, inn_int, inn_str, inn_tup, inn_lst, inn_ptr, e_slT, e_slL, e_slN, isT_P, isT_L, isT_T, isT_N, e_sub, e_fdiv, e_mod, e_pow, e_lt, e_le, e_gt, e_ge, e_neg, e_add, e_addS, e_addT, e_addL, e_addPP, e_addPL, e_addLP, e_mul, e_mulL, e_mulT, e_augI, e_ixT, e_ixL, e_ixN, e_ixP, e_lenT, e_lenL, e_lenN, e_lenS, e_lenP, e_abs, e_intI, e_intB, e_max, e_min, e_tupL, e_tupT, e_listL, e_listT, e_listN, e_listLL, e_listLT, e_divmod, e_isNon, e_isntNon, e_isB, e_isntB, e_setIx, e_insert, e_append, e_isL, e_isLL, e_seqP, e_seqL, e_seqT, e_seqN, it_lst, it_fz, Option.bind_some, Option.isSome_some, ix10, ix20, ix21, ix30, ix32, dl1, dl2, dl3, List.eraseIdx_cons_zero, e_pop0, e_popAt, e_rev, e_clear, e_tupP, e_listP, e_neN, e_neIN, e_neNI, e_eqIN, e_eqNI, at0, at1, at2, at3, Cell.lst.injEq, Cell.obj.injEq, Option.some.injEq, exists_eq_left', decide_eq_true_eq, true_and, and_true, cup_same, cup_cup, wSrtIt, wZipS, wZipB, wBackT, List.flatten_nil, List.flatten_cons, enOf, endOf, excOf, List.map_cons, List.map_nil, List.length_cons, List.length_nil, List.replicate, Nat.reduceAdd, Nat.reduceSub, List.cons_append, List.nil_append, List.set_cons_zero, List.set_cons_succ, List.getElem?_cons_zero, List.getElem?_cons_succ, List.getElem_cons_zero, List.getElem_cons_succ, reduceCtorEq, if_true, if_false, Bool.false_eq_true, decide_true, decide_false, ne_eq, not_true, not_false_eq_true, Int.reduceEq, Nat.reduceMul, true_imp_iff, Int.reduceToNat, Int.reducePow, Nat.reducePow, Int.reduceLE, Int.reduceLT, Nat.reduceLT, and_self, Nat.reduceLeDiff, Int.reduceNeg, Int.reduceAdd, Int.reduceSub, Int.reduceMul, Int.cast_ofNat_Int, lvl_s]
    refine ⟨1 + x, y - 1000, rfl, by omega, by omega, by omega, fun c6 l6 => ?_⟩
    try simp only [sRaise, sTry, wIsX, wWhat, wBack, lo_lst, e_mulV, sizeL, sNil, sSeq, sPass, sBrk, sCont, sExpr, sRet, sRetN, sIf, sNever, sSet, sAug, gNm, gTp, gNil', gCons', gSb, sAsg, sPar, sFor, wVar_z, wVar_s, wC, wChn, wTru, sPar3, wRev, wCallK, permF, List.filterMap_cons, List.filterMap_nil, wBin, wUn, wTst, wNot, wAnd, wOr, wAndV, wOrV, wNotV, wIf, wNil, wCons, wTup, wLst, wLstL, wFz, wCall, wBi, wMt, wMt0, wSl, wSlL, wPart, wNoPart, wYes, wSeq, wRg1, wRg2, wEnum, wZip, wLc, wLcL, wLRg, wFld, sFldS, sFldA, gFld, wMeth, wMake, lvl2_s, onB, e_eqI, e_neI, e_eqB, e_neB, e_eqS, e_neS, e_eqN, e_tyLT, e_ty1, isTys, tyMem, tyN_non, tyN_bl, tyN_int, tyN_str, tyN_tup, tyN_lst, Bool.true_or, Bool.or_true, Bool.or_false, Bool.false_or, Bool.not_true, Bool.not_false, inn_non, inn_bl, inn_int, inn_str, inn_tup, inn_lst, inn_ptr, e_slT, e_slL, e_slN, isT_P, isT_L, isT_T, isT_N, e_sub, e_fdiv, e_mod, e_pow, e_lt, e_le, e_gt, e_ge, e_neg, e_add, e_addS, e_addT, e_addL, e_addPP, e_addPL, e_addLP, e_mul, e_mulL, e_mulT, e_augI, e_ixT, e_ixL, e_ixN, e_ixP, e_lenT, e_lenL, e_lenN, e_lenS, e_lenP, e_abs, e_intI, e_intB, e_max, e_min, e_tupL, e_tupT, e_listL, e_listT, e_listN, e_listLL, e_listLT, e_divmod, e_isNon, e_isntNon, e_isB, e_isntB, e_setIx, e_insert, e_append, e_isL, e_isLL, e_seqP, e_seqL, e_seqT, e_seqN, it_lst, it_fz, Option.bind_some, Option.isSome_some, ix10, ix20, ix21, ix30, ix32, dl1, dl2, dl3, List.eraseIdx_cons_zero, e_pop0, e_popAt, e_rev, e_clear, e_tupP, e_listP, e_neN, e_neIN, e_neNI, e_eqIN, e_eqNI, at0, at1, at2, at3, Cell.lst.injEq, Cell.obj.injEq, Option.some.injEq, exists_eq_left', decide_eq_true_eq, true_and, and_true, cup_same, cup_cup, wSrtIt, wZipS, wZipB, wBackT, List.flatten_nil, List.flatten_cons, enOf, endOf, excOf, List.map_cons, List.map_nil, List.length_cons, List.length_nil, List.replicate, Nat.reduceAdd, Nat.reduceSub, List.cons_append, List.nil_append, List.set_cons_zero, List.set_cons_succ, List.getElem?_cons_zero, List.getElem?_cons_succ, List.getElem_cons_zero, List.getElem_cons_succ, reduceCtorEq, if_true, if_false, Bool.false_eq_true, decide_true, decide_false, ne_eq, not_true, not_false_eq_true, Int.reduceEq, Nat.reduceMul, true_imp_iff, Int.reduceToNat, Int.reducePow, Nat.reducePow, Int.reduceLE, Int.reduceLT, Nat.reduceLT, and_self, Nat.reduceLeDiff, Int.reduceNeg, Int.reduceAdd, Int.reduceSub, Int.reduceMul, Int.cast_ofNat_Int, lvl_s]
    exact h5 _ _ ⟨_, _, _, _, rfl⟩
  · rintro en c' ⟨o2, o3, o4, o5, rfl⟩
    refine ⟨trivial, ?_⟩
    try simp only [sRaise, sTry, wIsX, wWhat, wBack, lo_lst, e_mulV, sizeL, sNil, sSeq, sPass, sBrk, sCont, sExpr, sRet, sRetN, sIf, sNever, sSet, sAug, gNm, gTp, gNil', gCons', gSb, sAsg, sPar, sFor, wVar_z, wVar_s, wC, wChn, wTru, sPar3, wRev, wCallK, permF, List.filterMap_cons, List.filterMap_nil, wBin, wUn, wTst, wNot, wAnd, wOr, wAndV, wOrV, wNotV, wIf, wNil, wCons, wTup, wLst, wLstL, wFz, wCall, wBi, wMt, wMt0, wSl, wSlL, wPart, wNoPart, wYes, wSeq, wRg1, wRg2, wEnum, wZip, wLc, wLcL, wLRg, wFld, sFldS, sFldA, gFld, wMeth, wMake, lvl2_s, onB, e_eqI, e_neI, e_eqB, e_neB, e_eqS, e_neS, e_eqN, e_tyLT, e_ty1, isTys, tyMem, tyN_non, tyN_bl, tyN_int, tyN_str, tyN_tup, tyN_lst, Bool.true_or, Bool.or_true, Bool.or_false, Bool.false_or, Bool.not_true, Bool.not_false, inn_non, inn_bl, inn_int, inn_str, inn_tup, inn_lst, inn_ptr, e_slT, e_slL, e_slN, isT_P, isT_L, isT_T, isT_N, e_sub, e_fdiv, e_mod, e_pow, e_lt, e_le, e_gt, e_ge, e_neg, e_add, e_addS, e_addT, e_addL, e_addPP, e_addPL, e_addLP, e_mul, e_mulL, e_mulT, e_augI, e_ixT, e_ixL, e_ixN, e_ixP, e_lenT, e_lenL, e_lenN, e_lenS, e_lenP, e_abs, e_intI, e_intB, e_max, e_min, e_tupL, e_tupT, e_listL, e_listT, e_listN, e_listLL, e_listLT, e_divmod, e_isNon, e_isntNon, e_isB, e_isntB, e_setIx, e_insert, e_append, e_isL, e_isLL, e_seqP, e_seqL, e_seqT, e_seqN, it_lst, it_fz, Option.bind_some, Option.isSome_some, ix10, ix20, ix21, ix30, ix32, dl1, dl2, dl3, List.eraseIdx_cons_zero, e_pop0, e_popAt, e_rev, e_clear, e_tupP, e_listP, e_neN, e_neIN, e_neNI, e_eqIN, e_eqNI, at0, at1, at2, at3, Cell.lst.injEq, Cell.obj.injEq, Option.some.injEq, exists_eq_left', decide_eq_true_eq, true_and, and_true, cup_same, cup_cup, wSrtIt, wZipS, wZipB, wBackT, List.flatten_nil, List.flatten_cons, enOf, endOf, excOf, List.map_cons, List.map_nil, List.length_cons, List.length_nil, List.replicate, Nat.reduceAdd, Nat.reduceSub, List.cons_append, List.nil_append, List.set_cons_zero, List.set_cons_succ, List.getElem?_cons_zero, List.getElem?_cons_succ, List.getElem_cons_zero, List.getElem_cons_succ, reduceCtorEq, if_true, if_false, Bool.false_eq_true, decide_true, decide_false, ne_eq, not_true, not_false_eq_true, Int.reduceEq, Nat.reduceMul, true_imp_iff, Int.reduceToNat, Int.reducePow, Nat.reducePow, Int.reduceLE, Int.reduceLT, Nat.reduceLT, and_self, Nat.reduceLeDiff, Int.reduceNeg, Int.reduceAdd, Int.reduceSub, Int.reduceMul, Int.cast_ofNat_Int, lvl_s]
    exact ⟨c', CLe.refl _, q _⟩
theorem k42_ct (ns : List Int) (h : ns.length ≤ 63) : c_k42_law 40 [.scr ns] (fun _ => none) (fun d _ => d = .bl true) (fun _ _ _ => False) := ⟨ns, rfl, h, by omega, fun _ => rfl⟩
end VL
namespace VL
open PySem PySem.Spec PyProof.Rows L2
def topS (i : Nat) : Stmt := PySem.Challenge.pw_midcarts_k42_known_from_outside.main.body.getD i (.Pass ⟨0, 0, 0, 0⟩)
abbrev s_exchanged_word : Stmt := topS 3
theorem sc_exchanged_word : FnScope ["granary", "load", "low", "high"] ["granary", "load"] (defScope s_exchanged_word) := ⟨rfl, rfl, rfl, by decide +kernel, rfl, by decide +kernel, by decide +kernel⟩
abbrev s_exchanged : Stmt := topS 4
theorem sc_exchanged : FnScope ["world", "cart", "granary", "word", "load", "granaries", "carts", "low", "high", "pair", "out"] ["world", "cart", "granary", "word"] (defScope s_exchanged) := ⟨rfl, rfl, rfl, by decide +kernel, rfl, by decide +kernel, by decide +kernel⟩
abbrev s_Guess___init__ : Stmt := inClass (topS 6) 0
theorem sc_Guess___init__ : FnScope ["self", "least", "most"] ["self", "least", "most"] (defScope s_Guess___init__) := ⟨rfl, rfl, rfl, by decide +kernel, rfl, by decide +kernel, by decide +kernel⟩
abbrev s_Guess_no_more : Stmt := inClass (topS 6) 1
theorem sc_Guess_no_more : FnScope ["self", "load"] ["self", "load"] (defScope s_Guess_no_more) := ⟨rfl, rfl, rfl, by decide +kernel, rfl, by decide +kernel, by decide +kernel⟩
abbrev s_Guess_no_less : Stmt := inClass (topS 6) 2
theorem sc_Guess_no_less : FnScope ["self", "load"] ["self", "load"] (defScope s_Guess_no_less) := ⟨rfl, rfl, rfl, by decide +kernel, rfl, by decide +kernel, by decide +kernel⟩
abbrev s_Guess_met : Stmt := inClass (topS 6) 3
theorem sc_Guess_met : FnScope ["self", "load", "behind", "fine"] ["self", "load", "behind"] (defScope s_Guess_met) := ⟨rfl, rfl, rfl, by decide +kernel, rfl, by decide +kernel, by decide +kernel⟩
abbrev s_Guess_stretch : Stmt := inClass (topS 6) 4
theorem sc_Guess_stretch : FnScope ["self"] ["self"] (defScope s_Guess_stretch) := ⟨rfl, rfl, rfl, by decide +kernel, rfl, by decide +kernel, by decide +kernel⟩
abbrev s_let_out : Stmt := topS 7
theorem sc_let_out : FnScope ["granary", "loads", "load", "low", "high", "here", "found", "word"] ["granary", "loads"] (defScope s_let_out) := ⟨rfl, rfl, rfl, by decide +kernel, rfl, by decide +kernel, by decide +kernel⟩
abbrev s_is_heard : Stmt := topS 8
theorem sc_is_heard : FnScope ["low", "high", "load", "out"] ["low", "high", "load", "out"] (defScope s_is_heard) := ⟨rfl, rfl, rfl, by decide +kernel, rfl, by decide +kernel, by decide +kernel⟩
abbrev s_fits : Stmt := topS 9
theorem sc_fits : FnScope ["sort", "sent", "heard", "low", "high", "load", "out", "other", "guess"] ["sort", "sent", "heard"] (defScope s_fits) := ⟨rfl, rfl, rfl, by decide +kernel, rfl, by decide +kernel, by decide +kernel⟩
abbrev s_l_box : Stmt := topS 11
theorem sc_l_box : FnScope ["_law_script", "_law_k", "_law_cell"] ["_law_script", "_law_k"] (defScope s_l_box) := ⟨rfl, rfl, rfl, by decide +kernel, rfl, by decide +kernel, by decide +kernel⟩
abbrev s_l_take : Stmt := topS 12
theorem sc_l_take : FnScope ["_law_box_here", "_law_size", "_law_step", "_law_once", "_law_twice", "_law_found"] ["_law_box_here", "_law_size"] (defScope s_l_take) := ⟨rfl, rfl, rfl, by decide +kernel, rfl, by decide +kernel, by decide +kernel⟩
abbrev s_l_folded : Stmt := topS 13
theorem sc_l_folded : FnScope ["_law_script", "_law_size", "_law_cells", "_law_k", "_law_cell"] ["_law_script", "_law_size"] (defScope s_l_folded) := ⟨rfl, rfl, rfl, by decide +kernel, rfl, by decide +kernel, by decide +kernel⟩
abbrev s_l_same : Stmt := topS 14
theorem sc_l_same : FnScope ["_law_found", "_law_wanted", "_law_one", "_law_other"] ["_law_found", "_law_wanted"] (defScope s_l_same) := ⟨rfl, rfl, rfl, by decide +kernel, rfl, by decide +kernel, by decide +kernel⟩
abbrev s_l_end : Stmt := topS 15
theorem sc_l_end : FnScope ["_law_pair", "_law_by", "_law_more", "_law_load"] ["_law_pair", "_law_by", "_law_more"] (defScope s_l_end) := ⟨rfl, rfl, rfl, by decide +kernel, rfl, by decide +kernel, by decide +kernel⟩
abbrev s_l_back : Stmt := topS 16
theorem sc_l_back : FnScope ["_law_pair", "_law_load"] ["_law_pair"] (defScope s_l_back) := ⟨rfl, rfl, rfl, by decide +kernel, rfl, by decide +kernel, by decide +kernel⟩
abbrev s_l_known_right : Stmt := topS 17
theorem sc_l_known_right : FnScope ["_law_by", "_law_more", "_law_rows", "_law_sort", "_law_sent", "_law_heard", "_law_what", "_law_right", "_law_other", "_law_wanted", "_law_first", "_law_last", "_law_load"] ["_law_by", "_law_more"] (defScope s_l_known_right) := ⟨rfl, rfl, rfl, by decide +kernel, rfl, by decide +kernel, by decide +kernel⟩
abbrev s_l_sent_right : Stmt := topS 18
theorem sc_l_sent_right : FnScope ["_law_by", "_law_more", "_law_rows", "_law_pair", "_law_sent", "_law_heard", "_law_granary", "_law_told", "_law_load"] ["_law_by", "_law_more"] (defScope s_l_sent_right) := ⟨rfl, rfl, rfl, by decide +kernel, rfl, by decide +kernel, by decide +kernel⟩
abbrev s_law : Stmt := topS 19
theorem sc_law : FnScope ["_law_script", "_law_cells", "_law_k", "_law_box_here", "_law_by", "_law_more"] ["_law_script"] (defScope s_law) := ⟨rfl, rfl, rfl, by decide +kernel, rfl, by decide +kernel, by decide +kernel⟩
section
variable {P : Program} {w : World} {K : PySem.W.Frag} {mg : Str → Option Value} {base : Heap} {k : Nat} {C_Guess : Addr}
theorem d_exchanged_word (k_LOW : ∃ t, mg "LOW" = some (.str "low" t)) (k_HIGH : ∃ t, mg "HIGH" = some (.str "high" t)) (f : Addr) (cdv : Value) (A : Around) (outer : List PySem.Env) (s : Shared) (H : Hp) (E : XK) (hr : Room k (A.deeper (envOfC "exchanged_word" (defScope s_exchanged_word) s.heap.objs.size f cdv))) (hg : A.guards = some []) :
    JSs (cxOf (L2.CX P w) P w K mg base ["granary", "load", "low", "high"] "exchanged_word" (defScope s_exchanged_word) f cdv A outer s H E) (WXE E) (defBody s_exchanged_word) (w_exchanged_word k) := by
  have S := sc_exchanged_word
  have tk : Takes (cxOf (L2.CX P w) P w K mg base ["granary", "load", "low", "high"] "exchanged_word" (defScope s_exchanged_word) f cdv A outer s H E) (WXE E) := takes_of rfl rfl rfl rfl
  exact (jss_cons (js_asg (je_var 0) (jg_tp rfl (jgs_cons (jg_nm 2 S.nd) (jgs_cons (jg_nm 3 S.nd) jgs_nil)))) (jss_cons (js_if (JW.jt (jw_and (jt_cmp r_isnot (je_var 2) je_non) (jw_and1 (jt_cmp r_lt (je_var 1) (je_var 2))))) (jss_one (js_ret (je_gs k_LOW))) jss_nil) (jss_one (js_ret (je_ifx (JW.jt (jw_and (jt_cmp r_isnot (je_var 3) je_non) (jw_and1 (jt_cmp r_gt (je_var 1) (je_var 3))))) (je_gs k_HIGH) je_non)))))
theorem d_exchanged (k_LOW : ∃ t, mg "LOW" = some (.str "low" t)) (f : Addr) (cdv : Value) (A : Around) (outer : List PySem.Env) (s : Shared) (H : Hp) (E : XK) (hr : Room k (A.deeper (envOfC "exchanged" (defScope s_exchanged) s.heap.objs.size f cdv))) (hg : A.guards = some []) :
    JSs (cxOf (L2.CX P w) P w K mg base ["world", "cart", "granary", "word", "load", "granaries", "carts", "low", "high", "pair", "out"] "exchanged" (defScope s_exchanged) f cdv A outer s H E) (WXE E) (defBody s_exchanged) (w_exchanged k) := by
  have S := sc_exchanged
  have tk : Takes (cxOf (L2.CX P w) P w K mg base ["world", "cart", "granary", "word", "load", "granaries", "carts", "low", "high", "pair", "out"] "exchanged" (defScope s_exchanged) f cdv A outer s H E) (WXE E) := takes_of rfl rfl rfl rfl
  exact (jss_cons (js_asg (je_var 0) (jg_tp rfl (jgs_cons (jg_nm 5 S.nd) (jgs_cons (jg_nm 6 S.nd) jgs_nil)))) (jss_cons (js_asg (je_ix (je_var 5) (je_var 2)) (jg_tp rfl (jgs_cons (jg_nm 7 S.nd) (jgs_cons (jg_nm 8 S.nd) jgs_nil)))) (jss_cons (js_set 4 S.nd (je_ix (je_var 6) (je_var 1))) (jss_cons (js_asg (je_ifx (jt_cmp (r_eq hr) (je_var 3) (je_gs k_LOW)) (je_tup (ja_cons (je_tup (ja_cons (je_var 4) (ja_cons (je_var 8) ja_nil))) (ja_cons (je_var 7) ja_nil))) (je_tup (ja_cons (je_tup (ja_cons (je_var 7) (ja_cons (je_var 4) ja_nil))) (ja_cons (je_var 8) ja_nil)))) (jg_tp rfl (jgs_cons (jg_nm 9 S.nd) (jgs_cons (jg_nm 10 S.nd) jgs_nil)))) (jss_one (js_ret (je_tup (ja_cons (je_bin r_add (je_bin r_add (je_sl (je_var 5) jo_none (jo_some (je_var 2))) (je_tup (ja_cons (je_var 9) ja_nil))) (je_sl (je_var 5) (jo_some (je_bin r_add (je_var 2) je_int)) jo_none)) (ja_cons (je_bin r_add (je_bin r_add (je_sl (je_var 6) jo_none (jo_some (je_var 1))) (je_tup (ja_cons (je_var 10) ja_nil))) (je_sl (je_var 6) (jo_some (je_bin r_add (je_var 1) je_int)) jo_none)) ja_nil)))))))))
theorem d_Guess___init__ (cl_Guess : Cls K C_Guess) (na_Guess_own_least : NoAttr K C_Guess "own_least") (na_Guess_own_most : NoAttr K C_Guess "own_most") (na_Guess_own_now : NoAttr K C_Guess "own_now") (f : Addr) (cdv : Value) (A : Around) (outer : List PySem.Env) (s : Shared) (H : Hp) (E : XK) (hr : Room k (A.deeper (envOfC "Guess.__init__" (defScope s_Guess___init__) s.heap.objs.size f cdv))) (hg : A.guards = some []) :
    JSs (cxOf (L2.CX P w) P w K mg base ["self", "least", "most"] "Guess.__init__" (defScope s_Guess___init__) f cdv A outer s H E) (WXE E) (defBody s_Guess___init__) (w_Gu_init C_Guess k) := by
  have S := sc_Guess___init__
  have tk : Takes (cxOf (L2.CX P w) P w K mg base ["self", "least", "most"] "Guess.__init__" (defScope s_Guess___init__) f cdv A outer s H E) (WXE E) := takes_of rfl rfl rfl rfl
  exact (jss_cons (js_fld cl_Guess na_Guess_own_least (je_var 0) (je_var 1)) (jss_cons (js_fld cl_Guess na_Guess_own_most (je_var 0) (je_var 2)) (jss_one (js_fld cl_Guess na_Guess_own_now (je_var 0) je_non))))
theorem d_Guess_no_more (cl_Guess : Cls K C_Guess) (na_Guess_own_now : NoAttr K C_Guess "own_now") (na_Guess_own_most : NoAttr K C_Guess "own_most") (na_Guess_own_least : NoAttr K C_Guess "own_least") (f : Addr) (cdv : Value) (A : Around) (outer : List PySem.Env) (s : Shared) (H : Hp) (E : XK) (hr : Room k (A.deeper (envOfC "Guess.no_more" (defScope s_Guess_no_more) s.heap.objs.size f cdv))) (hg : A.guards = some []) :
    JSs (cxOf (L2.CX P w) P w K mg base ["self", "load"] "Guess.no_more" (defScope s_Guess_no_more) f cdv A outer s H E) (WXE E) (defBody s_Guess_no_more) (w_Gu_more C_Guess k) := by
  have S := sc_Guess_no_more
  have tk : Takes (cxOf (L2.CX P w) P w K mg base ["self", "load"] "Guess.no_more" (defScope s_Guess_no_more) f cdv A outer s H E) (WXE E) := takes_of rfl rfl rfl rfl
  exact (jss_cons (js_if (jt_cmp r_isnot (je_fld cl_Guess na_Guess_own_now (je_var 0)) je_non) (jss_one (js_ret (je_cmp r_le (je_fld cl_Guess na_Guess_own_now (je_var 0)) (je_var 1)))) jss_nil) (jss_cons (js_if (JW.jt (jw_or (jt_cmp r_is (je_fld cl_Guess na_Guess_own_most (je_var 0)) je_non) (jw_or1 (jt_cmp r_lt (je_var 1) (je_fld cl_Guess na_Guess_own_most (je_var 0)))))) (jss_one (js_fld cl_Guess na_Guess_own_most (je_var 0) (je_var 1))) jss_nil) (jss_one (js_ret (je_or (je_cmp r_is (je_fld cl_Guess na_Guess_own_least (je_var 0)) je_non) (je_one (je_cmp r_le (je_fld cl_Guess na_Guess_own_least (je_var 0)) (je_fld cl_Guess na_Guess_own_most (je_var 0)))))))))
theorem d_Guess_no_less (cl_Guess : Cls K C_Guess) (na_Guess_own_now : NoAttr K C_Guess "own_now") (na_Guess_own_least : NoAttr K C_Guess "own_least") (na_Guess_own_most : NoAttr K C_Guess "own_most") (f : Addr) (cdv : Value) (A : Around) (outer : List PySem.Env) (s : Shared) (H : Hp) (E : XK) (hr : Room k (A.deeper (envOfC "Guess.no_less" (defScope s_Guess_no_less) s.heap.objs.size f cdv))) (hg : A.guards = some []) :
    JSs (cxOf (L2.CX P w) P w K mg base ["self", "load"] "Guess.no_less" (defScope s_Guess_no_less) f cdv A outer s H E) (WXE E) (defBody s_Guess_no_less) (w_Gu_less C_Guess k) := by
  have S := sc_Guess_no_less
  have tk : Takes (cxOf (L2.CX P w) P w K mg base ["self", "load"] "Guess.no_less" (defScope s_Guess_no_less) f cdv A outer s H E) (WXE E) := takes_of rfl rfl rfl rfl
  exact (jss_cons (js_if (jt_cmp r_isnot (je_fld cl_Guess na_Guess_own_now (je_var 0)) je_non) (jss_one (js_ret (je_cmp r_ge (je_fld cl_Guess na_Guess_own_now (je_var 0)) (je_var 1)))) jss_nil) (jss_cons (js_if (JW.jt (jw_or (jt_cmp r_is (je_fld cl_Guess na_Guess_own_least (je_var 0)) je_non) (jw_or1 (jt_cmp r_gt (je_var 1) (je_fld cl_Guess na_Guess_own_least (je_var 0)))))) (jss_one (js_fld cl_Guess na_Guess_own_least (je_var 0) (je_var 1))) jss_nil) (jss_one (js_ret (je_or (je_cmp r_is (je_fld cl_Guess na_Guess_own_most (je_var 0)) je_non) (je_one (je_cmp r_le (je_fld cl_Guess na_Guess_own_least (je_var 0)) (je_fld cl_Guess na_Guess_own_most (je_var 0)))))))))
theorem d_Guess_met (cl_Guess : Cls K C_Guess) (na_Guess_own_now : NoAttr K C_Guess "own_now") (M_Guess_no_more : CalM P w K mg base k C_Guess "no_more" 2 (c_Gu_more C_Guess)) (M_Guess_no_less : CalM P w K mg base k C_Guess "no_less" 2 (c_Gu_less C_Guess)) (f : Addr) (cdv : Value) (A : Around) (outer : List PySem.Env) (s : Shared) (H : Hp) (E : XK) (hr : Room k (A.deeper (envOfC "Guess.met" (defScope s_Guess_met) s.heap.objs.size f cdv))) (hg : A.guards = some []) :
    JSs (cxOf (L2.CX P w) P w K mg base ["self", "load", "behind", "fine"] "Guess.met" (defScope s_Guess_met) f cdv A outer s H E) (WXE E) (defBody s_Guess_met) (w_Gu_met C_Guess k) := by
  have S := sc_Guess_met
  have tk : Takes (cxOf (L2.CX P w) P w K mg base ["self", "load", "behind", "fine"] "Guess.met" (defScope s_Guess_met) f cdv A outer s H E) (WXE E) := takes_of rfl rfl rfl rfl
  exact (jss_cons (js_set 3 S.nd (je_and (je_meth cl_Guess M_Guess_no_more hr hg tk (je_var 0) (ja_cons (je_var 1) ja_nil)) (je_one (je_meth cl_Guess M_Guess_no_less hr hg tk (je_var 0) (ja_cons (je_var 1) ja_nil))))) (jss_cons (js_fld cl_Guess na_Guess_own_now (je_var 0) (je_var 2)) (jss_one (js_ret (je_var 3)))))
theorem d_Guess_stretch (cl_Guess : Cls K C_Guess) (na_Guess_own_least : NoAttr K C_Guess "own_least") (na_Guess_own_most : NoAttr K C_Guess "own_most") (f : Addr) (cdv : Value) (A : Around) (outer : List PySem.Env) (s : Shared) (H : Hp) (E : XK) (hr : Room k (A.deeper (envOfC "Guess.stretch" (defScope s_Guess_stretch) s.heap.objs.size f cdv))) (hg : A.guards = some []) :
    JSs (cxOf (L2.CX P w) P w K mg base ["self"] "Guess.stretch" (defScope s_Guess_stretch) f cdv A outer s H E) (WXE E) (defBody s_Guess_stretch) (w_Gu_stretch C_Guess k) := by
  have S := sc_Guess_stretch
  have tk : Takes (cxOf (L2.CX P w) P w K mg base ["self"] "Guess.stretch" (defScope s_Guess_stretch) f cdv A outer s H E) (WXE E) := takes_of rfl rfl rfl rfl
  exact (jss_one (js_ret (je_tup (ja_cons (je_fld cl_Guess na_Guess_own_least (je_var 0)) (ja_cons (je_fld cl_Guess na_Guess_own_most (je_var 0)) ja_nil)))))
theorem d_let_out (C_exchanged_word : Cal P w K mg base k "exchanged_word" 2 c_exchanged_word) (C_exchanged : Cal P w K mg base k "exchanged" 4 c_exchanged) (f : Addr) (cdv : Value) (A : Around) (outer : List PySem.Env) (s : Shared) (H : Hp) (E : XK) (hr : Room k (A.deeper (envOfC "let_out" (defScope s_let_out) s.heap.objs.size f cdv))) (hg : A.guards = some []) :
    JSs (cxOf (L2.CX P w) P w K mg base ["granary", "loads", "load", "low", "high", "here", "found", "word"] "let_out" (defScope s_let_out) f cdv A outer s H E) (WXE E) (defBody s_let_out) (w_let_outP k) := by
  have S := sc_let_out
  have tk : Takes (cxOf (L2.CX P w) P w K mg base ["granary", "loads", "load", "low", "high", "here", "found", "word"] "let_out" (defScope s_let_out) f cdv A outer s H E) (WXE E) := takes_of rfl rfl rfl rfl
  exact (jss_cons (js_asg (je_var 0) (jg_tp rfl (jgs_cons (jg_nm 3 S.nd) (jgs_cons (jg_nm 4 S.nd) jgs_nil)))) (jss_cons (js_par 5 6 rfl S.nd (ja_cons (je_tup (ja_cons (je_tup (ja_cons (je_tup (ja_cons (je_var 3) (ja_cons (je_var 4) ja_nil))) ja_nil)) (ja_cons (je_tup (ja_cons je_int ja_nil)) ja_nil))) (ja_cons (je_lstL ja_nil) ja_nil))) (jss_cons (js_for (passes_of rfl) rfl (ji_seq (je_var 1)) (jt_nm 2 S.nd) (jss_cons (js_set 5 S.nd (je_tup (ja_cons (je_ix (je_var 5) je_int) (ja_cons (je_tup (ja_cons (je_var 2) ja_nil)) ja_nil)))) (jss_cons (js_set 7 S.nd (je_call C_exchanged_word hr hg tk (ja_cons (je_ix (je_ix (je_var 5) je_int) je_int) (ja_cons (je_var 2) ja_nil)))) (jss_cons (js_set 5 S.nd (je_ifx (jt_cmp r_is (je_var 7) je_non) (je_var 5) (je_call C_exchanged hr hg tk (ja_cons (je_var 5) (ja_cons je_int (ja_cons je_int (ja_cons (je_var 7) ja_nil))))))) (jss_one (js_expr (je_mt m_append PySem.F.plainAttrs_list PySem.F.slot_list_append PySem.F.type_list_append (je_var 6) (ja_cons (je_ix (je_ix (je_var 5) je_int) je_int) ja_nil)))))))) (jss_one (js_ret (je_fz (je_var 6)))))))
theorem d_is_heard (cl_Guess : Cls K C_Guess) (M_Guess_no_more : CalM P w K mg base k C_Guess "no_more" 2 (c_Gu_more C_Guess)) (M_Guess_no_less : CalM P w K mg base k C_Guess "no_less" 2 (c_Gu_less C_Guess)) (M_Guess_met : CalM P w K mg base k C_Guess "met" 3 (c_Gu_met C_Guess)) (f : Addr) (cdv : Value) (A : Around) (outer : List PySem.Env) (s : Shared) (H : Hp) (E : XK) (hr : Room k (A.deeper (envOfC "is_heard" (defScope s_is_heard) s.heap.objs.size f cdv))) (hg : A.guards = some []) :
    JSs (cxOf (L2.CX P w) P w K mg base ["low", "high", "load", "out"] "is_heard" (defScope s_is_heard) f cdv A outer s H E) (WXE E) (defBody s_is_heard) (w_is_heard C_Guess k) := by
  have S := sc_is_heard
  have tk : Takes (cxOf (L2.CX P w) P w K mg base ["low", "high", "load", "out"] "is_heard" (defScope s_is_heard) f cdv A outer s H E) (WXE E) := takes_of rfl rfl rfl rfl
  exact (jss_cons (js_if (jt_cmp (r_eq hr) (je_var 3) (je_var 2)) (jss_one (js_ret (je_and (je_or (je_cmp r_is (je_var 0) je_non) (je_one (je_meth cl_Guess M_Guess_no_more hr hg tk (je_var 0) (ja_cons (je_var 2) ja_nil)))) (je_one (je_or (je_cmp r_is (je_var 1) je_non) (je_one (je_meth cl_Guess M_Guess_no_less hr hg tk (je_var 1) (ja_cons (je_var 2) ja_nil)))))))) jss_nil) (jss_cons (js_if (jt_cmp r_gt (je_var 3) (je_var 2)) (jss_one (js_ret (je_and (je_cmp r_isnot (je_var 0) je_non) (je_and (je_or (je_cmp r_is (je_var 1) je_non) (je_one (je_meth cl_Guess M_Guess_no_less hr hg tk (je_var 1) (ja_cons (je_var 3) ja_nil)))) (je_one (je_meth cl_Guess M_Guess_met hr hg tk (je_var 0) (ja_cons (je_var 3) (ja_cons (je_var 2) ja_nil)))))))) jss_nil) (jss_one (js_ret (je_and (je_cmp r_isnot (je_var 1) je_non) (je_and (je_or (je_cmp r_is (je_var 0) je_non) (je_one (je_meth cl_Guess M_Guess_no_more hr hg tk (je_var 0) (ja_cons (je_var 3) ja_nil)))) (je_one (je_meth cl_Guess M_Guess_met hr hg tk (je_var 1) (ja_cons (je_var 3) (ja_cons (je_var 2) ja_nil))))))))))
theorem d_fits (b_zip : mg "zip" = none) (b_tuple : mg "tuple" = none) (k_HIGH : ∃ t, mg "HIGH" = some (.str "high" t)) (k_LOW : ∃ t, mg "LOW" = some (.str "low" t)) (C_is_heard : Cal P w K mg base k "is_heard" 4 (c_is_heard C_Guess)) (cl_Guess : Cls K C_Guess) (mk_Guess : MkF K mg "Guess" C_Guess) (I_Guess : CalM P w K mg base (k - 1) C_Guess "__init__" 3 (c_Gu_init C_Guess)) (M_Guess_stretch : CalM P w K mg base k C_Guess "stretch" 1 (c_Gu_stretch C_Guess)) (f : Addr) (cdv : Value) (A : Around) (outer : List PySem.Env) (s : Shared) (H : Hp) (E : XK) (hr : Room k (A.deeper (envOfC "fits" (defScope s_fits) s.heap.objs.size f cdv))) (hg : A.guards = some []) :
    JSs (cxOf (L2.CX P w) P w K mg base ["sort", "sent", "heard", "low", "high", "load", "out", "other", "guess"] "fits" (defScope s_fits) f cdv A outer s H E) (WXE E) (defBody s_fits) (w_fits C_Guess k) := by
  have S := sc_fits
  have tk : Takes (cxOf (L2.CX P w) P w K mg base ["sort", "sent", "heard", "low", "high", "load", "out", "other", "guess"] "fits" (defScope s_fits) f cdv A outer s H E) (WXE E) := takes_of rfl rfl rfl rfl
  exact (jss_cons (js_asg (je_lc (own := [("other", 7)]) rfl S.nd (ji_seq (je_tup (ja_cons (je_gs k_HIGH) (ja_cons (je_gs k_LOW) ja_nil)))) (blkOk_by rfl) (fun _ _ _ _ _ => (jt_nm 7 S.nd)) (fun _ _ _ _ _ => jts_nil) (fun _ _ _ _ _ => (je_ifx (jt_cmp (r_ne hr) (je_var 0) (je_var 7)) (je_make mk_Guess I_Guess hr hg takes0 (ja_cons je_non (ja_cons je_non ja_nil))) je_non))) (jg_tp rfl (jgs_cons (jg_nm 3 S.nd) (jgs_cons (jg_nm 4 S.nd) jgs_nil)))) (jss_cons (js_for (passes_of rfl) rfl (ji_zipS b_zip (je_var 1) (je_var 2)) (jt_tp rfl (jtgs_cons (jt_nm 5 S.nd) (jtgs_cons (jt_nm 6 S.nd) jtgs_nil))) (jss_one (js_if (jt_not (jt_val (je_call C_is_heard hr hg tk (ja_cons (je_var 3) (ja_cons (je_var 4) (ja_cons (je_var 5) (ja_cons (je_var 6) ja_nil))))))) (jss_one (js_ret je_non)) jss_nil))) (jss_one (js_ret (je_bt c_tuple b_tuple PyProof.Rows.boot_tuple (ja_cons (je_lc (own := [("guess", 8)]) rfl S.nd (ji_seq (je_tup (ja_cons (je_var 3) (ja_cons (je_var 4) ja_nil)))) (blkOk_by rfl) (fun _ _ _ _ _ => (jt_nm 8 S.nd)) (fun _ _ _ _ _ => jts_nil) (fun _ _ _ _ _ => (je_ifx (jt_cmp r_is (je_var 8) je_non) je_non (je_meth0 cl_Guess M_Guess_stretch hr hg takes0 (je_var 8))))) ja_nil))))))
theorem d_l_box (b_len : mg "len" = none) (b_abs : mg "abs" = none) (b_int : mg "int" = none) (f : Addr) (cdv : Value) (A : Around) (outer : List PySem.Env) (s : Shared) (H : Hp) (E : XK) (hr : Room k (A.deeper (envOfC "_law_box" (defScope s_l_box) s.heap.objs.size f cdv))) (hg : A.guards = some []) :
    JSs (cxOf (L2.CX P w) P w K mg base ["_law_script", "_law_k", "_law_cell"] "_law_box" (defScope s_l_box) f cdv A outer s H E) (WXE E) (defBody s_l_box) (w_l_box k) := by
  have S := sc_l_box
  have tk : Takes (cxOf (L2.CX P w) P w K mg base ["_law_script", "_law_k", "_law_cell"] "_law_box" (defScope s_l_box) f cdv A outer s H E) (WXE E) := takes_of rfl rfl rfl rfl
  exact (jss_cons (js_set 2 S.nd (je_ifx (jt_cmp r_lt (je_var 1) (je_bi c_len b_len PySem.boot_len (ja_cons (je_var 0) ja_nil))) (je_ix (je_var 0) (je_var 1)) je_int)) (jss_one (js_ret (je_lstL (ja_cons (je_bin r_mul (je_bi c_abs b_abs PyProof.Rows.boot_abs (ja_cons (je_var 2) ja_nil)) (je_bt c_int b_int PyProof.Rows.boot_int (ja_cons (je_cmp r_ge (je_bi c_abs b_abs PyProof.Rows.boot_abs (ja_cons (je_var 2) ja_nil)) (je_bin r_pow je_int je_int)) ja_nil))) (ja_cons (je_bin r_mod (je_bin r_mul (je_bin r_add (je_bin r_add (je_bin r_mod (je_var 2) je_int) (je_bin r_mul je_int (je_var 1))) je_int) je_int) je_int) (ja_cons je_int ja_nil)))))))
theorem d_l_take (b_divmod : mg "divmod" = none) (C_l_take : Cal P w K mg base k "_law_take" 2 c_l_take) (f : Addr) (cdv : Value) (A : Around) (outer : List PySem.Env) (s : Shared) (H : Hp) (E : XK) (hr : Room k (A.deeper (envOfC "_law_take" (defScope s_l_take) s.heap.objs.size f cdv))) (hg : A.guards = some []) :
    JSs (cxOf (L2.CX P w) P w K mg base ["_law_box_here", "_law_size", "_law_step", "_law_once", "_law_twice", "_law_found"] "_law_take" (defScope s_l_take) f cdv A outer s H E) (WXE E) (defBody s_l_take) (w_l_take k) := by
  have S := sc_l_take
  have tk : Takes (cxOf (L2.CX P w) P w K mg base ["_law_box_here", "_law_size", "_law_step", "_law_once", "_law_twice", "_law_found"] "_law_take" (defScope s_l_take) f cdv A outer s H E) (WXE E) := takes_of rfl rfl rfl rfl
  exact (jss_cons (js_if (jt_cmp r_gt (je_ix (je_var 0) je_int) je_int) (jss_cons (js_asg (je_bi c_divmod b_divmod PyProof.Rows.boot_divmod (ja_cons (je_ix (je_var 0) je_int) (ja_cons (je_var 1) ja_nil))) (jg_tp rfl (jgs_cons (jg_sb (je_var 0) je_int) (jgs_cons (jg_nm 5 S.nd) jgs_nil)))) (jss_one (js_ret (je_var 5)))) jss_nil) (jss_cons (js_if (jt_cmp r_gt (je_var 1) (je_bin r_pow je_int je_int)) (jss_one (js_ret (je_bin r_mod (je_bin r_add (je_call C_l_take hr hg tk (ja_cons (je_var 0) (ja_cons (je_bin r_pow je_int je_int) ja_nil))) (je_bin r_mul (je_bin r_pow je_int je_int) (je_call C_l_take hr hg tk (ja_cons (je_var 0) (ja_cons (je_bin r_add (je_bin r_fdiv (je_bin r_sub (je_var 1) je_int) (je_bin r_pow je_int je_int)) je_int) ja_nil))))) (je_var 1)))) jss_nil) (jss_cons (js_asg (je_bin r_add (je_ix (je_var 0) je_int) je_int) (jg_sb (je_var 0) je_int)) (jss_cons (js_set 2 S.nd (je_bin r_add je_int (je_bin r_mul (je_ix (je_var 0) je_int) (je_ix (je_var 0) je_int)))) (jss_cons (js_set 3 S.nd (je_bin r_mod (je_bin r_mul (je_bin r_add (je_ix (je_var 0) je_int) (je_bin r_mul je_int (je_ix (je_var 0) je_int))) (je_var 2)) je_int)) (jss_cons (js_set 4 S.nd (je_bin r_mod (je_bin r_add (je_bin r_mul (je_var 3) (je_bin r_add (je_bin r_mod (je_var 3) je_int) je_int)) (je_ix (je_var 0) je_int)) je_int)) (jss_one (js_ret (je_bin r_mod (je_bin r_fdiv (je_bin r_mod (je_bin r_mul (je_var 4) (je_bin r_add (je_bin r_mod (je_var 4) je_int) je_int)) je_int) je_int) (je_var 1))))))))))
theorem d_l_folded (b_list : mg "list" = none) (b_enumerate : mg "enumerate" = none) (f : Addr) (cdv : Value) (A : Around) (outer : List PySem.Env) (s : Shared) (H : Hp) (E : XK) (hr : Room k (A.deeper (envOfC "_law_folded" (defScope s_l_folded) s.heap.objs.size f cdv))) (hg : A.guards = some []) :
    JSs (cxOf (L2.CX P w) P w K mg base ["_law_script", "_law_size", "_law_cells", "_law_k", "_law_cell"] "_law_folded" (defScope s_l_folded) f cdv A outer s H E) (WXE E) (defBody s_l_folded) (w_l_folded k) := by
  have S := sc_l_folded
  have tk : Takes (cxOf (L2.CX P w) P w K mg base ["_law_script", "_law_size", "_law_cells", "_law_k", "_law_cell"] "_law_folded" (defScope s_l_folded) f cdv A outer s H E) (WXE E) := takes_of rfl rfl rfl rfl
  exact (jss_cons (js_set 2 S.nd (je_bt c_listL b_list PyProof.Rows.boot_list (ja_cons (je_sl (je_var 0) jo_none (jo_some (je_var 1))) ja_nil))) (jss_cons (js_for (passes_of rfl) rfl (ji_enum b_enumerate (je_sl (je_var 0) (jo_some (je_var 1)) (jo_some je_int))) (jt_tp rfl (jtgs_cons (jt_nm 3 S.nd) (jtgs_cons (jt_nm 4 S.nd) jtgs_nil))) (jss_one (js_asg (je_bin r_add (je_ix (je_var 2) (je_bin r_mod (je_var 3) (je_var 1))) (je_bin r_mul (je_var 4) (je_bin r_add (je_var 3) je_int))) (jg_sb (je_var 2) (je_bin r_mod (je_var 3) (je_var 1)))))) (jss_one (js_ret (je_fz (je_var 2))))))
theorem d_l_same (b_list : mg "list" = none) (b_tuple : mg "tuple" = none) (b_isinstance : mg "isinstance" = none) (b_len : mg "len" = none) (b_zip : mg "zip" = none) (b_all : mg "all" = none) (b_str : mg "str" = none) (b_int : mg "int" = none) (b_bool : mg "bool" = none) (C_l_same : Cal P w K mg base k "_law_same" 2 c_l_same) (f : Addr) (cdv : Value) (A : Around) (outer : List PySem.Env) (s : Shared) (H : Hp) (E : XK) (hr : Room k (A.deeper (envOfC "_law_same" (defScope s_l_same) s.heap.objs.size f cdv))) (hg : A.guards = some []) :
    JSs (cxOf (L2.CX P w) P w K mg base ["_law_found", "_law_wanted", "_law_one", "_law_other"] "_law_same" (defScope s_l_same) f cdv A outer s H E) (WXE E) (defBody s_l_same) (w_l_same k) := by
  have S := sc_l_same
  have tk : Takes (cxOf (L2.CX P w) P w K mg base ["_law_found", "_law_wanted", "_law_one", "_law_other"] "_law_same" (defScope s_l_same) f cdv A outer s H E) (WXE E) := takes_of rfl rfl rfl rfl
  exact (jss_cons (js_if (jt_val (je_bi c_isi b_isinstance PyProof.Rows.boot_isinstance (ja_cons (je_var 1) (ja_cons (je_tup (ja_cons (je_ty (n := "list") b_list PyProof.Rows.boot_list) (ja_cons (je_ty (n := "tuple") b_tuple PyProof.Rows.boot_tuple) ja_nil))) ja_nil)))) (jss_cons (js_if (JW.jt (jw_or (jt_cmp (r_ne hr) (je_bi c_isi b_isinstance PyProof.Rows.boot_isinstance (ja_cons (je_var 0) (ja_cons (je_ty (n := "list") b_list PyProof.Rows.boot_list) ja_nil))) (je_bi c_isi b_isinstance PyProof.Rows.boot_isinstance (ja_cons (je_var 1) (ja_cons (je_ty (n := "list") b_list PyProof.Rows.boot_list) ja_nil)))) (jw_or1 (jt_cmp (r_ne hr) (je_bi c_isi b_isinstance PyProof.Rows.boot_isinstance (ja_cons (je_var 0) (ja_cons (je_ty (n := "tuple") b_tuple PyProof.Rows.boot_tuple) ja_nil))) (je_bi c_isi b_isinstance PyProof.Rows.boot_isinstance (ja_cons (je_var 1) (ja_cons (je_ty (n := "tuple") b_tuple PyProof.Rows.boot_tuple) ja_nil))))))) (jss_one (js_ret je_bl)) jss_nil) (jss_one (js_ret (je_and (je_cmp (r_eq hr) (je_bi c_len b_len PySem.boot_len (ja_cons (je_var 0) ja_nil)) (je_bi c_len b_len PySem.boot_len (ja_cons (je_var 1) ja_nil))) (je_one (je_bi (c_all rfl) b_all PyProof.Rows.boot_all (ja_cons (je_lc (own := [("_law_one", 2), ("_law_other", 3)]) rfl S.nd (ji_zip b_zip (je_var 0) (je_var 1)) (blkOk_by rfl) (fun _ _ _ _ _ => (jt_tp rfl (jtgs_cons (jt_nm 2 S.nd) (jtgs_cons (jt_nm 3 S.nd) jtgs_nil)))) (fun _ _ _ _ _ => jts_nil) (fun _ _ _ _ _ => (je_call C_l_same hr hg takes0 (ja_cons (je_var 2) (ja_cons (je_var 3) ja_nil))))) ja_nil))))))) jss_nil) (jss_cons (js_if (JW.jt (jw_or (jt_cmp r_is (je_var 1) je_non) (jw_or1 (jt_val (je_bi c_isi b_isinstance PyProof.Rows.boot_isinstance (ja_cons (je_var 1) (ja_cons (je_ty (n := "str") b_str (by decide +kernel)) ja_nil))))))) (jss_one (js_ret (je_and (je_cmp (r_eq hr) (je_var 0) (je_var 1)) (je_one (je_cmp (r_eq hr) (je_bi c_isi b_isinstance PyProof.Rows.boot_isinstance (ja_cons (je_var 0) (ja_cons (je_ty (n := "str") b_str (by decide +kernel)) ja_nil))) (je_bi c_isi b_isinstance PyProof.Rows.boot_isinstance (ja_cons (je_var 1) (ja_cons (je_ty (n := "str") b_str (by decide +kernel)) ja_nil)))))))) jss_nil) (jss_one (js_ret (je_and (je_bi c_isi b_isinstance PyProof.Rows.boot_isinstance (ja_cons (je_var 0) (ja_cons (je_ty (n := "int") b_int PyProof.Rows.boot_int) ja_nil))) (je_and (je_cmp (r_eq hr) (je_bi c_isi b_isinstance PyProof.Rows.boot_isinstance (ja_cons (je_var 0) (ja_cons (je_ty (n := "bool") b_bool (by decide +kernel)) ja_nil))) (je_bi c_isi b_isinstance PyProof.Rows.boot_isinstance (ja_cons (je_var 1) (ja_cons (je_ty (n := "bool") b_bool (by decide +kernel)) ja_nil)))) (je_one (je_cmp (r_eq hr) (je_var 0) (je_var 1)))))))))
theorem d_l_end (b_tuple : mg "tuple" = none) (f : Addr) (cdv : Value) (A : Around) (outer : List PySem.Env) (s : Shared) (H : Hp) (E : XK) (hr : Room k (A.deeper (envOfC "_law_end" (defScope s_l_end) s.heap.objs.size f cdv))) (hg : A.guards = some []) :
    JSs (cxOf (L2.CX P w) P w K mg base ["_law_pair", "_law_by", "_law_more", "_law_load"] "_law_end" (defScope s_l_end) f cdv A outer s H E) (WXE E) (defBody s_l_end) (w_l_end42 k) := by
  have S := sc_l_end
  have tk : Takes (cxOf (L2.CX P w) P w K mg base ["_law_pair", "_law_by", "_law_more", "_law_load"] "_law_end" (defScope s_l_end) f cdv A outer s H E) (WXE E) := takes_of rfl rfl rfl rfl
  exact (jss_cons (js_if (jt_cmp r_is (je_var 0) je_non) (jss_one (js_ret je_non)) jss_nil) (jss_one (js_ret (je_bt c_tuple b_tuple PyProof.Rows.boot_tuple (ja_cons (je_lc (own := [("_law_load", 3)]) rfl S.nd (ji_seq (je_var 0)) (blkOk_by rfl) (fun _ _ _ _ _ => (jt_nm 3 S.nd)) (fun _ _ _ _ _ => jts_nil) (fun _ _ _ _ _ => (je_ifx (jt_cmp r_is (je_var 3) je_non) je_non (je_bin r_add (je_bin r_mul (je_var 1) (je_var 3)) (je_var 2))))) ja_nil)))))
theorem d_l_back (b_tuple : mg "tuple" = none) (f : Addr) (cdv : Value) (A : Around) (outer : List PySem.Env) (s : Shared) (H : Hp) (E : XK) (hr : Room k (A.deeper (envOfC "_law_back" (defScope s_l_back) s.heap.objs.size f cdv))) (hg : A.guards = some []) :
    JSs (cxOf (L2.CX P w) P w K mg base ["_law_pair", "_law_load"] "_law_back" (defScope s_l_back) f cdv A outer s H E) (WXE E) (defBody s_l_back) (w_l_back42 k) := by
  have S := sc_l_back
  have tk : Takes (cxOf (L2.CX P w) P w K mg base ["_law_pair", "_law_load"] "_law_back" (defScope s_l_back) f cdv A outer s H E) (WXE E) := takes_of rfl rfl rfl rfl
  exact (jss_cons (js_if (jt_cmp r_is (je_var 0) je_non) (jss_one (js_ret je_non)) jss_nil) (jss_one (js_ret (je_bt c_tuple b_tuple PyProof.Rows.boot_tuple (ja_cons (je_lc (own := [("_law_load", 1)]) rfl S.nd (ji_seq (je_backT (je_var 0))) (blkOk_by rfl) (fun _ _ _ _ _ => (jt_nm 1 S.nd)) (fun _ _ _ _ _ => jts_nil) (fun _ _ _ _ _ => (je_ifx (jt_cmp r_is (je_var 1) je_non) je_non (je_un r_neg (je_var 1))))) ja_nil)))))
theorem d_l_known_right (C_l_end : Cal P w K mg base k "_law_end" 3 c_l_end42) (C_fits : Cal P w K mg base k "fits" 3 (c_fits C_Guess)) (C_l_same : Cal P w K mg base k "_law_same" 2 c_l_same) (C_l_back : Cal P w K mg base k "_law_back" 1 c_l_back42) (f : Addr) (cdv : Value) (A : Around) (outer : List PySem.Env) (s : Shared) (H : Hp) (E : XK) (hr : Room k (A.deeper (envOfC "_law_known_right" (defScope s_l_known_right) s.heap.objs.size f cdv))) (hg : A.guards = some []) :
    JSs (cxOf (L2.CX P w) P w K mg base ["_law_by", "_law_more", "_law_rows", "_law_sort", "_law_sent", "_law_heard", "_law_what", "_law_right", "_law_other", "_law_wanted", "_law_first", "_law_last", "_law_load"] "_law_known_right" (defScope s_l_known_right) f cdv A outer s H E) (WXE E) (defBody s_l_known_right) (w_known42 C_Guess k) := by
  have S := sc_l_known_right
  have tk : Takes (cxOf (L2.CX P w) P w K mg base ["_law_by", "_law_more", "_law_rows", "_law_sort", "_law_sent", "_law_heard", "_law_what", "_law_right", "_law_other", "_law_wanted", "_law_first", "_law_last", "_law_load"] "_law_known_right" (defScope s_l_known_right) f cdv A outer s H E) (WXE E) := takes_of rfl rfl rfl rfl
  exact (jss_cons (js_set 2 S.nd (je_k (ke_lst (ka_cons (ke_tup (ka_cons ke_c (ka_cons (ke_lst (ka_cons ke_c (ka_cons ke_c (ka_cons ke_c ka_nil)))) (ka_cons (ke_lst (ka_cons ke_c (ka_cons ke_c (ka_cons ke_c ka_nil)))) (ka_cons (ke_tup (ka_cons (ke_tup (ka_cons ke_c (ka_cons ke_c ka_nil))) (ka_cons ke_c ka_nil))) ka_nil))))) (ka_cons (ke_tup (ka_cons ke_c (ka_cons (ke_lst (ka_cons ke_c (ka_cons ke_c (ka_cons ke_c ka_nil)))) (ka_cons (ke_lst (ka_cons ke_c (ka_cons ke_c (ka_cons ke_c ka_nil)))) (ka_cons (ke_tup (ka_cons (ke_tup (ka_cons ke_c (ka_cons ke_c ka_nil))) (ka_cons ke_c ka_nil))) ka_nil))))) ka_nil))) (je_lst (ja_cons (je_tup (ja_cons je_str (ja_cons (je_lst (ja_cons je_int (ja_cons je_int (ja_cons je_int ja_nil)))) (ja_cons (je_lst (ja_cons je_int (ja_cons je_int (ja_cons je_int ja_nil)))) (ja_cons (je_tup (ja_cons (je_tup (ja_cons je_int (ja_cons je_int ja_nil))) (ja_cons je_non ja_nil))) ja_nil))))) (ja_cons (je_tup (ja_cons je_str (ja_cons (je_lst (ja_cons je_int (ja_cons je_int (ja_cons je_int ja_nil)))) (ja_cons (je_lst (ja_cons je_int (ja_cons je_int (ja_cons je_int ja_nil)))) (ja_cons (je_tup (ja_cons (je_tup (ja_cons je_int (ja_cons je_int ja_nil))) (ja_cons je_non ja_nil))) ja_nil))))) ja_nil))))) (jss_cons (js_set 2 S.nd (je_bin r_add (je_var 2) (je_k (ke_lst (ka_cons (ke_tup (ka_cons ke_c (ka_cons (ke_lst (ka_cons ke_c (ka_cons ke_c ka_nil))) (ka_cons (ke_lst (ka_cons ke_c (ka_cons ke_c ka_nil))) (ka_cons (ke_tup (ka_cons (ke_tup (ka_cons ke_c (ka_cons ke_c ka_nil))) (ka_cons ke_c ka_nil))) ka_nil))))) (ka_cons (ke_tup (ka_cons ke_c (ka_cons (ke_lst (ka_cons ke_c ka_nil)) (ka_cons (ke_lst (ka_cons ke_c ka_nil)) (ka_cons ke_c ka_nil))))) (ka_cons (ke_tup (ka_cons ke_c (ka_cons (ke_lst (ka_cons ke_c (ka_cons ke_c ka_nil))) (ka_cons (ke_lst (ka_cons ke_c (ka_cons ke_c ka_nil))) (ka_cons ke_c ka_nil))))) ka_nil)))) (je_lst (ja_cons (je_tup (ja_cons je_str (ja_cons (je_lst (ja_cons je_int (ja_cons je_int ja_nil))) (ja_cons (je_lst (ja_cons je_int (ja_cons je_int ja_nil))) (ja_cons (je_tup (ja_cons (je_tup (ja_cons je_non (ja_cons je_int ja_nil))) (ja_cons je_non ja_nil))) ja_nil))))) (ja_cons (je_tup (ja_cons je_str (ja_cons (je_lst (ja_cons je_int ja_nil)) (ja_cons (je_lst (ja_cons je_int ja_nil)) (ja_cons je_non ja_nil))))) (ja_cons (je_tup (ja_cons je_str (ja_cons (je_lst (ja_cons je_int (ja_cons je_int ja_nil))) (ja_cons (je_lst (ja_cons je_int (ja_cons je_int ja_nil))) (ja_cons je_non ja_nil))))) ja_nil))))))) (jss_cons (js_set 2 S.nd (je_bin r_add (je_var 2) (je_k (ke_lst (ka_cons (ke_tup (ka_cons ke_c (ka_cons (ke_lst (ka_cons ke_c (ka_cons ke_c (ka_cons ke_c ka_nil)))) (ka_cons (ke_lst (ka_cons ke_c (ka_cons ke_c (ka_cons ke_c ka_nil)))) (ka_cons (ke_tup (ka_cons ke_c (ka_cons (ke_tup (ka_cons ke_c (ka_cons ke_c ka_nil))) ka_nil))) ka_nil))))) (ka_cons (ke_tup (ka_cons ke_c (ka_cons (ke_lst (ka_cons ke_c (ka_cons ke_c ka_nil))) (ka_cons (ke_lst (ka_cons ke_c (ka_cons ke_c ka_nil))) (ka_cons (ke_tup (ka_cons ke_c (ka_cons (ke_tup (ka_cons ke_c (ka_cons ke_c ka_nil))) ka_nil))) ka_nil))))) ka_nil))) (je_lst (ja_cons (je_tup (ja_cons je_str (ja_cons (je_lst (ja_cons je_int (ja_cons je_int (ja_cons je_int ja_nil)))) (ja_cons (je_lst (ja_cons je_int (ja_cons je_int (ja_cons je_int ja_nil)))) (ja_cons (je_tup (ja_cons je_non (ja_cons (je_tup (ja_cons je_int (ja_cons je_int ja_nil))) ja_nil))) ja_nil))))) (ja_cons (je_tup (ja_cons je_str (ja_cons (je_lst (ja_cons je_int (ja_cons je_int ja_nil))) (ja_cons (je_lst (ja_cons je_int (ja_cons je_int ja_nil))) (ja_cons (je_tup (ja_cons je_non (ja_cons (je_tup (ja_cons je_int (ja_cons je_non ja_nil))) ja_nil))) ja_nil))))) ja_nil)))))) (jss_cons (js_set 2 S.nd (je_bin r_add (je_var 2) (je_k (ke_lst (ka_cons (ke_tup (ka_cons ke_c (ka_cons (ke_lst (ka_cons ke_c ka_nil)) (ka_cons (ke_lst (ka_cons ke_c ka_nil)) (ka_cons ke_c ka_nil))))) (ka_cons (ke_tup (ka_cons ke_c (ka_cons (ke_lst (ka_cons ke_c ka_nil)) (ka_cons (ke_lst (ka_cons ke_c ka_nil)) (ka_cons (ke_tup (ka_cons (ke_tup (ka_cons ke_c (ka_cons ke_c ka_nil))) (ka_cons (ke_tup (ka_cons ke_c (ka_cons ke_c ka_nil))) ka_nil))) ka_nil))))) ka_nil))) (je_lst (ja_cons (je_tup (ja_cons je_str (ja_cons (je_lst (ja_cons je_int ja_nil)) (ja_cons (je_lst (ja_cons je_int ja_nil)) (ja_cons je_non ja_nil))))) (ja_cons (je_tup (ja_cons je_str (ja_cons (je_lst (ja_cons je_int ja_nil)) (ja_cons (je_lst (ja_cons je_int ja_nil)) (ja_cons (je_tup (ja_cons (je_tup (ja_cons je_int (ja_cons je_int ja_nil))) (ja_cons (je_tup (ja_cons je_int (ja_cons je_non ja_nil))) ja_nil))) ja_nil))))) ja_nil)))))) (jss_cons (js_set 2 S.nd (je_bin r_add (je_var 2) (je_lst (ja_cons (je_tup (ja_cons je_str (ja_cons (je_lst ja_nil) (ja_cons (je_lst ja_nil) (ja_cons (je_tup (ja_cons (je_tup (ja_cons je_non (ja_cons je_non ja_nil))) (ja_cons (je_tup (ja_cons je_non (ja_cons je_non ja_nil))) ja_nil))) ja_nil))))) ja_nil)))) (jss_cons (js_set 2 S.nd (je_bin r_add (je_var 2) (je_k (ke_lst (ka_cons (ke_tup (ka_cons ke_c (ka_cons (ke_lst (ka_cons ke_c ka_nil)) (ka_cons (ke_lst (ka_cons ke_c ka_nil)) (ka_cons (ke_tup (ka_cons (ke_tup (ka_cons ke_c (ka_cons ke_c ka_nil))) (ka_cons (ke_tup (ka_cons ke_c (ka_cons ke_c ka_nil))) ka_nil))) ka_nil))))) (ka_cons (ke_tup (ka_cons ke_c (ka_cons (ke_lst (ka_cons ke_c (ka_cons ke_c ka_nil))) (ka_cons (ke_lst (ka_cons ke_c (ka_cons ke_c ka_nil))) (ka_cons (ke_tup (ka_cons (ke_tup (ka_cons ke_c (ka_cons ke_c ka_nil))) (ka_cons (ke_tup (ka_cons ke_c (ka_cons ke_c ka_nil))) ka_nil))) ka_nil))))) ka_nil))) (je_lst (ja_cons (je_tup (ja_cons je_str (ja_cons (je_lst (ja_cons je_int ja_nil)) (ja_cons (je_lst (ja_cons je_int ja_nil)) (ja_cons (je_tup (ja_cons (je_tup (ja_cons je_non (ja_cons je_int ja_nil))) (ja_cons (je_tup (ja_cons je_int (ja_cons je_int ja_nil))) ja_nil))) ja_nil))))) (ja_cons (je_tup (ja_cons je_str (ja_cons (je_lst (ja_cons je_int (ja_cons je_int ja_nil))) (ja_cons (je_lst (ja_cons je_int (ja_cons je_int ja_nil))) (ja_cons (je_tup (ja_cons (je_tup (ja_cons je_int (ja_cons je_int ja_nil))) (ja_cons (je_tup (ja_cons je_int (ja_cons je_int ja_nil))) ja_nil))) ja_nil))))) ja_nil)))))) (jss_cons (js_set 2 S.nd (je_bin r_add (je_var 2) (je_k (ke_lst (ka_cons (ke_tup (ka_cons ke_c (ka_cons (ke_lst (ka_cons ke_c (ka_cons ke_c ka_nil))) (ka_cons (ke_lst (ka_cons ke_c (ka_cons ke_c ka_nil))) (ka_cons (ke_tup (ka_cons (ke_tup (ka_cons ke_c (ka_cons ke_c ka_nil))) (ka_cons (ke_tup (ka_cons ke_c (ka_cons ke_c ka_nil))) ka_nil))) ka_nil))))) (ka_cons (ke_tup (ka_cons ke_c (ka_cons (ke_lst (ka_cons ke_c (ka_cons ke_c ka_nil))) (ka_cons (ke_lst (ka_cons ke_c (ka_cons ke_c ka_nil))) (ka_cons ke_c ka_nil))))) ka_nil))) (je_lst (ja_cons (je_tup (ja_cons je_str (ja_cons (je_lst (ja_cons je_int (ja_cons je_int ja_nil))) (ja_cons (je_lst (ja_cons je_int (ja_cons je_int ja_nil))) (ja_cons (je_tup (ja_cons (je_tup (ja_cons je_non (ja_cons je_int ja_nil))) (ja_cons (je_tup (ja_cons je_int (ja_cons je_non ja_nil))) ja_nil))) ja_nil))))) (ja_cons (je_tup (ja_cons je_str (ja_cons (je_lst (ja_cons je_int (ja_cons je_int ja_nil))) (ja_cons (je_lst (ja_cons je_int (ja_cons je_int ja_nil))) (ja_cons je_non ja_nil))))) ja_nil)))))) (jss_cons (js_set 2 S.nd (je_bin r_add (je_var 2) (je_k (ke_lst (ka_cons (ke_tup (ka_cons ke_c (ka_cons (ke_lst (ka_cons ke_c (ka_cons ke_c (ka_cons ke_c ka_nil)))) (ka_cons (ke_lst (ka_cons ke_c (ka_cons ke_c (ka_cons ke_c ka_nil)))) (ka_cons (ke_tup (ka_cons (ke_tup (ka_cons ke_c (ka_cons ke_c ka_nil))) (ka_cons (ke_tup (ka_cons ke_c (ka_cons ke_c ka_nil))) ka_nil))) ka_nil))))) (ka_cons (ke_tup (ka_cons ke_c (ka_cons (ke_lst (ka_cons ke_c (ka_cons ke_c ka_nil))) (ka_cons (ke_lst (ka_cons ke_c (ka_cons ke_c ka_nil))) (ka_cons (ke_tup (ka_cons (ke_tup (ka_cons ke_c (ka_cons ke_c ka_nil))) (ka_cons (ke_tup (ka_cons ke_c (ka_cons ke_c ka_nil))) ka_nil))) ka_nil))))) ka_nil))) (je_lst (ja_cons (je_tup (ja_cons je_str (ja_cons (je_lst (ja_cons je_int (ja_cons je_int (ja_cons je_int ja_nil)))) (ja_cons (je_lst (ja_cons je_int (ja_cons je_int (ja_cons je_int ja_nil)))) (ja_cons (je_tup (ja_cons (je_tup (ja_cons je_int (ja_cons je_int ja_nil))) (ja_cons (je_tup (ja_cons je_int (ja_cons je_int ja_nil))) ja_nil))) ja_nil))))) (ja_cons (je_tup (ja_cons je_str (ja_cons (je_lst (ja_cons je_int (ja_cons je_int ja_nil))) (ja_cons (je_lst (ja_cons je_int (ja_cons je_int ja_nil))) (ja_cons (je_tup (ja_cons (je_tup (ja_cons je_non (ja_cons je_int ja_nil))) (ja_cons (je_tup (ja_cons je_int (ja_cons je_int ja_nil))) ja_nil))) ja_nil))))) ja_nil)))))) (jss_cons (js_set 2 S.nd (je_bin r_add (je_var 2) (je_k (ke_lst (ka_cons (ke_tup (ka_cons ke_c (ka_cons (ke_lst (ka_cons ke_c (ka_cons ke_c (ka_cons ke_c ka_nil)))) (ka_cons (ke_lst (ka_cons ke_c (ka_cons ke_c (ka_cons ke_c ka_nil)))) (ka_cons (ke_tup (ka_cons (ke_tup (ka_cons ke_c (ka_cons ke_c ka_nil))) (ka_cons (ke_tup (ka_cons ke_c (ka_cons ke_c ka_nil))) ka_nil))) ka_nil))))) ka_nil)) (je_lst (ja_cons (je_tup (ja_cons je_str (ja_cons (je_lst (ja_cons je_int (ja_cons je_int (ja_cons je_int ja_nil)))) (ja_cons (je_lst (ja_cons je_int (ja_cons je_int (ja_cons je_int ja_nil)))) (ja_cons (je_tup (ja_cons (je_tup (ja_cons je_non (ja_cons je_int ja_nil))) (ja_cons (je_tup (ja_cons je_int (ja_cons je_non ja_nil))) ja_nil))) ja_nil))))) ja_nil))))) (jss_cons (js_set 2 S.nd (je_bin r_add (je_var 2) (je_k (ke_lst (ka_cons (ke_tup (ka_cons ke_c (ka_cons (ke_lst (ka_cons ke_c (ka_cons ke_c (ka_cons ke_c ka_nil)))) (ka_cons (ke_lst (ka_cons ke_c (ka_cons ke_c (ka_cons ke_c ka_nil)))) (ka_cons (ke_tup (ka_cons (ke_tup (ka_cons ke_c (ka_cons ke_c ka_nil))) (ka_cons (ke_tup (ka_cons ke_c (ka_cons ke_c ka_nil))) ka_nil))) ka_nil))))) ka_nil)) (je_lst (ja_cons (je_tup (ja_cons je_str (ja_cons (je_lst (ja_cons je_int (ja_cons je_int (ja_cons je_int ja_nil)))) (ja_cons (je_lst (ja_cons je_int (ja_cons je_int (ja_cons je_int ja_nil)))) (ja_cons (je_tup (ja_cons (je_tup (ja_cons je_int (ja_cons je_int ja_nil))) (ja_cons (je_tup (ja_cons je_int (ja_cons je_non ja_nil))) ja_nil))) ja_nil))))) ja_nil))))) (jss_cons (js_for (passes_of rfl) rfl (ji_seq (je_var 2)) (jt_tp rfl (jtgs_cons (jt_nm 3 S.nd) (jtgs_cons (jt_nm 4 S.nd) (jtgs_cons (jt_nm 5 S.nd) (jtgs_cons (jt_nm 6 S.nd) jtgs_nil))))) (jss_cons (js_par 10 11 rfl S.nd (ja_cons (je_lc (own := [("_law_load", 12)]) rfl S.nd (ji_seq (je_var 4)) (blkOk_by rfl) (fun _ _ _ _ _ => (jt_nm 12 S.nd)) (fun _ _ _ _ _ => jts_nil) (fun _ _ _ _ _ => (je_bin r_add (je_bin r_mul (je_var 0) (je_var 12)) (je_var 1)))) (ja_cons (je_lc (own := [("_law_load", 12)]) rfl S.nd (ji_seq (je_var 5)) (blkOk_by rfl) (fun _ _ _ _ _ => (jt_nm 12 S.nd)) (fun _ _ _ _ _ => jts_nil) (fun _ _ _ _ _ => (je_bin r_add (je_bin r_mul (je_var 0) (je_var 12)) (je_var 1)))) ja_nil))) (jss_cons (js_set 7 S.nd (je_var 6)) (jss_cons (js_if (jt_cmp r_isnot (je_var 6) je_non) (jss_one (js_set 7 S.nd (je_tup (ja_cons (je_call C_l_end hr hg tk (ja_cons (je_ix (je_var 6) je_int) (ja_cons (je_var 0) (ja_cons (je_var 1) ja_nil)))) (ja_cons (je_call C_l_end hr hg tk (ja_cons (je_ix (je_var 6) je_int) (ja_cons (je_var 0) (ja_cons (je_var 1) ja_nil)))) ja_nil))))) jss_nil) (jss_cons (js_if (jt_not (jt_val (je_call C_l_same hr hg tk (ja_cons (je_call C_fits hr hg tk (ja_cons (je_var 3) (ja_cons (je_var 10) (ja_cons (je_var 11) ja_nil)))) (ja_cons (je_var 7) ja_nil))))) (jss_one (js_ret je_bl)) jss_nil) (jss_cons (js_set 8 S.nd (je_dget hr (je_disp (jp_cons je_str je_str (jp_cons je_str je_str (jp_cons je_str je_str jp_nil)))) (je_var 3))) (jss_cons (js_set 9 S.nd (je_var 7)) (jss_cons (js_if (jt_cmp r_isnot (je_var 7) je_non) (jss_one (js_set 9 S.nd (je_tup (ja_cons (je_call C_l_back hr hg tk (ja_cons (je_ix (je_var 7) je_int) ja_nil)) (ja_cons (je_call C_l_back hr hg tk (ja_cons (je_ix (je_var 7) je_int) ja_nil)) ja_nil))))) jss_nil) (jss_one (js_if (jt_not (jt_val (je_call C_l_same hr hg tk (ja_cons (je_call C_fits hr hg tk (ja_cons (je_var 8) (ja_cons (je_lc (own := [("_law_load", 12)]) rfl S.nd (ji_seq (je_var 10)) (blkOk_by rfl) (fun _ _ _ _ _ => (jt_nm 12 S.nd)) (fun _ _ _ _ _ => jts_nil) (fun _ _ _ _ _ => (je_un r_neg (je_var 12)))) (ja_cons (je_lc (own := [("_law_load", 12)]) rfl S.nd (ji_seq (je_var 11)) (blkOk_by rfl) (fun _ _ _ _ _ => (jt_nm 12 S.nd)) (fun _ _ _ _ _ => jts_nil) (fun _ _ _ _ _ => (je_un r_neg (je_var 12)))) ja_nil)))) (ja_cons (je_var 9) ja_nil))))) (jss_one (js_ret je_bl)) jss_nil)))))))))) (jss_one (js_ret je_bl)))))))))))))
theorem d_l_sent_right (b_tuple : mg "tuple" = none) (C_let_out : Cal P w K mg base k "let_out" 2 c_let_outP) (C_l_same : Cal P w K mg base k "_law_same" 2 c_l_same) (f : Addr) (cdv : Value) (A : Around) (outer : List PySem.Env) (s : Shared) (H : Hp) (E : XK) (hr : Room k (A.deeper (envOfC "_law_sent_right" (defScope s_l_sent_right) s.heap.objs.size f cdv))) (hg : A.guards = some []) :
    JSs (cxOf (L2.CX P w) P w K mg base ["_law_by", "_law_more", "_law_rows", "_law_pair", "_law_sent", "_law_heard", "_law_granary", "_law_told", "_law_load"] "_law_sent_right" (defScope s_l_sent_right) f cdv A outer s H E) (WXE E) (defBody s_l_sent_right) (w_sent42 k) := by
  have S := sc_l_sent_right
  have tk : Takes (cxOf (L2.CX P w) P w K mg base ["_law_by", "_law_more", "_law_rows", "_law_pair", "_law_sent", "_law_heard", "_law_granary", "_law_told", "_law_load"] "_law_sent_right" (defScope s_l_sent_right) f cdv A outer s H E) (WXE E) := takes_of rfl rfl rfl rfl
  exact (jss_cons (js_set 2 S.nd (je_k (ke_lst (ka_cons (ke_tup (ka_cons (ke_tup (ka_cons ke_c (ka_cons ke_c ka_nil))) (ka_cons (ke_lst (ka_cons ke_c (ka_cons ke_c (ka_cons ke_c (ka_cons ke_c ka_nil))))) (ka_cons (ke_lst (ka_cons ke_c (ka_cons ke_c (ka_cons ke_c (ka_cons ke_c ka_nil))))) ka_nil)))) (ka_cons (ke_tup (ka_cons (ke_tup (ka_cons ke_c (ka_cons ke_c ka_nil))) (ka_cons (ke_lst (ka_cons ke_c (ka_cons ke_c (ka_cons ke_c (ka_cons ke_c ka_nil))))) (ka_cons (ke_lst (ka_cons ke_c (ka_cons ke_c (ka_cons ke_c (ka_cons ke_c ka_nil))))) ka_nil)))) ka_nil))) (je_lst (ja_cons (je_tup (ja_cons (je_tup (ja_cons je_int (ja_cons je_non ja_nil))) (ja_cons (je_lst (ja_cons je_int (ja_cons je_int (ja_cons je_int (ja_cons je_int ja_nil))))) (ja_cons (je_lst (ja_cons je_int (ja_cons je_int (ja_cons je_int (ja_cons je_int ja_nil))))) ja_nil)))) (ja_cons (je_tup (ja_cons (je_tup (ja_cons je_non (ja_cons je_int ja_nil))) (ja_cons (je_lst (ja_cons je_int (ja_cons je_int (ja_cons je_int (ja_cons je_int ja_nil))))) (ja_cons (je_lst (ja_cons je_int (ja_cons je_int (ja_cons je_int (ja_cons je_int ja_nil))))) ja_nil)))) ja_nil))))) (jss_cons (js_set 2 S.nd (je_bin r_add (je_var 2) (je_k (ke_lst (ka_cons (ke_tup (ka_cons (ke_tup (ka_cons ke_c (ka_cons ke_c ka_nil))) (ka_cons (ke_lst (ka_cons ke_c (ka_cons ke_c (ka_cons ke_c (ka_cons ke_c ka_nil))))) (ka_cons (ke_lst (ka_cons ke_c (ka_cons ke_c (ka_cons ke_c (ka_cons ke_c ka_nil))))) ka_nil)))) ka_nil)) (je_lst (ja_cons (je_tup (ja_cons (je_tup (ja_cons je_int (ja_cons je_int ja_nil))) (ja_cons (je_lst (ja_cons je_int (ja_cons je_int (ja_cons je_int (ja_cons je_int ja_nil))))) (ja_cons (je_lst (ja_cons je_int (ja_cons je_int (ja_cons je_int (ja_cons je_int ja_nil))))) ja_nil)))) ja_nil))))) (jss_cons (js_for (passes_of rfl) rfl (ji_seq (je_var 2)) (jt_tp rfl (jtgs_cons (jt_nm 3 S.nd) (jtgs_cons (jt_nm 4 S.nd) (jtgs_cons (jt_nm 5 S.nd) jtgs_nil)))) (jss_cons (js_set 6 S.nd (je_bt c_tuple b_tuple PyProof.Rows.boot_tuple (ja_cons (je_lc (own := [("_law_load", 8)]) rfl S.nd (ji_seq (je_var 3)) (blkOk_by rfl) (fun _ _ _ _ _ => (jt_nm 8 S.nd)) (fun _ _ _ _ _ => jts_nil) (fun _ _ _ _ _ => (je_ifx (jt_cmp r_is (je_var 8) je_non) je_non (je_bin r_add (je_bin r_mul (je_var 0) (je_var 8)) (je_var 1))))) ja_nil))) (jss_cons (js_set 7 S.nd (je_call C_let_out hr hg tk (ja_cons (je_var 6) (ja_cons (je_lc (own := [("_law_load", 8)]) rfl S.nd (ji_seq (je_var 4)) (blkOk_by rfl) (fun _ _ _ _ _ => (jt_nm 8 S.nd)) (fun _ _ _ _ _ => jts_nil) (fun _ _ _ _ _ => (je_bin r_add (je_bin r_mul (je_var 0) (je_var 8)) (je_var 1)))) ja_nil)))) (jss_one (js_if (jt_not (jt_val (je_call C_l_same hr hg tk (ja_cons (je_var 7) (ja_cons (je_lc (own := [("_law_load", 8)]) rfl S.nd (ji_seq (je_var 5)) (blkOk_by rfl) (fun _ _ _ _ _ => (jt_nm 8 S.nd)) (fun _ _ _ _ _ => jts_nil) (fun _ _ _ _ _ => (je_bin r_add (je_bin r_mul (je_var 0) (je_var 8)) (je_var 1)))) ja_nil))))) (jss_one (js_ret je_bl)) jss_nil))))) (jss_one (js_ret je_bl)))))
theorem d_law (b_len : mg "len" = none) (b_max : mg "max" = none) (b_range : mg "range" = none) (C_l_folded : Cal P w K mg base k "_law_folded" 2 c_l_folded) (C_l_box : Cal P w K mg base k "_law_box" 2 c_l_box) (C_l_take : Cal P w K mg base k "_law_take" 2 c_l_take) (C_l_known_right : Cal P w K mg base k "_law_known_right" 2 (c_known42 C_Guess)) (C_l_sent_right : Cal P w K mg base k "_law_sent_right" 2 c_sent42) (f : Addr) (cdv : Value) (A : Around) (outer : List PySem.Env) (s : Shared) (H : Hp) (E : XK) (hr : Room k (A.deeper (envOfC "law" (defScope s_law) s.heap.objs.size f cdv))) (hg : A.guards = some []) :
    JSs (cxOf (L2.CX P w) P w K mg base ["_law_script", "_law_cells", "_law_k", "_law_box_here", "_law_by", "_law_more"] "law" (defScope s_law) f cdv A outer s H E) (WXE E) (defBody s_law) (w_k42_law C_Guess k) := by
  have S := sc_law
  have tk : Takes (cxOf (L2.CX P w) P w K mg base ["_law_script", "_law_cells", "_law_k", "_law_box_here", "_law_by", "_law_more"] "law" (defScope s_law) f cdv A outer s H E) (WXE E) := takes_of rfl rfl rfl rfl
  exact (jss_cons (js_set 1 S.nd (je_call C_l_folded hr hg tk (ja_cons (je_var 0) (ja_cons je_int ja_nil)))) (jss_cons (js_for (passes_of rfl) rfl (ji_rg1 b_range (je_bi (c_max rfl) b_max PyProof.Rows.boot_max (ja_cons je_int (ja_cons (je_bi c_len b_len PySem.boot_len (ja_cons (je_var 1) ja_nil)) ja_nil)))) (jt_nm 2 S.nd) (jss_cons (js_set 3 S.nd (je_call C_l_box hr hg tk (ja_cons (je_var 1) (ja_cons (je_var 2) ja_nil)))) (jss_cons (js_par 4 5 rfl S.nd (ja_cons (je_bin r_add je_int (je_call C_l_take hr hg tk (ja_cons (je_var 3) (ja_cons (je_ix (je_lst (ja_cons je_int (ja_cons (je_bin r_pow je_int je_int) ja_nil))) (je_call C_l_take hr hg tk (ja_cons (je_var 3) (ja_cons je_int ja_nil)))) ja_nil)))) (ja_cons (je_bin r_sub (je_call C_l_take hr hg tk (ja_cons (je_var 3) (ja_cons je_int ja_nil))) je_int) ja_nil))) (jss_one (js_if (JW.jt (jw_or (jt_not (jt_val (je_call C_l_known_right hr hg tk (ja_cons (je_var 4) (ja_cons (je_var 5) ja_nil))))) (jw_or1 (jt_not (jt_val (je_call C_l_sent_right hr hg tk (ja_cons (je_var 4) (ja_cons (je_var 5) ja_nil)))))))) (jss_one (js_ret je_bl)) jss_nil))))) (jss_one (js_ret je_bl))))
end
structure AllC (P : Program) (w : World) (K : PySem.W.Frag) (mg : Str → Option Value) (base : Heap) (C_Guess : Addr) (k : Nat) : Prop where
  a_exchanged_word : Cal P w K mg base k "exchanged_word" 2 c_exchanged_word
  a_exchanged : Cal P w K mg base k "exchanged" 4 c_exchanged
  a_Guess___init__ : CalM P w K mg base k C_Guess "__init__" 3 (c_Gu_init C_Guess)
  a_Guess_no_more : CalM P w K mg base k C_Guess "no_more" 2 (c_Gu_more C_Guess)
  a_Guess_no_less : CalM P w K mg base k C_Guess "no_less" 2 (c_Gu_less C_Guess)
  a_Guess_met : CalM P w K mg base k C_Guess "met" 3 (c_Gu_met C_Guess)
  a_Guess_stretch : CalM P w K mg base k C_Guess "stretch" 1 (c_Gu_stretch C_Guess)
  a_let_out : Cal P w K mg base k "let_out" 2 c_let_outP
  a_is_heard : Cal P w K mg base k "is_heard" 4 (c_is_heard C_Guess)
  a_fits : Cal P w K mg base k "fits" 3 (c_fits C_Guess)
  a_l_box : Cal P w K mg base k "_law_box" 2 c_l_box
  a_l_take : Cal P w K mg base k "_law_take" 2 c_l_take
  a_l_folded : Cal P w K mg base k "_law_folded" 2 c_l_folded
  a_l_same : Cal P w K mg base k "_law_same" 2 c_l_same
  a_l_end : Cal P w K mg base k "_law_end" 3 c_l_end42
  a_l_back : Cal P w K mg base k "_law_back" 1 c_l_back42
  a_l_known_right : Cal P w K mg base k "_law_known_right" 2 (c_known42 C_Guess)
  a_l_sent_right : Cal P w K mg base k "_law_sent_right" 2 c_sent42
  I_Guess : CalM P w K mg base (k - 1) C_Guess "__init__" 3 (c_Gu_init C_Guess)
theorem all_ok {P : Program} {w : World} {K : PySem.W.Frag} {mg : Str → Option Value} {base : Heap} {C_Guess : Addr} (b_zip : mg "zip" = none) (b_tuple : mg "tuple" = none) (b_len : mg "len" = none) (b_abs : mg "abs" = none) (b_int : mg "int" = none) (b_divmod : mg "divmod" = none) (b_list : mg "list" = none) (b_enumerate : mg "enumerate" = none) (b_isinstance : mg "isinstance" = none) (b_all : mg "all" = none) (b_str : mg "str" = none) (b_bool : mg "bool" = none) (b_max : mg "max" = none) (b_range : mg "range" = none) (k_LOW : ∃ t, mg "LOW" = some (.str "low" t)) (k_HIGH : ∃ t, mg "HIGH" = some (.str "high" t)) (D_exchanged_word : DefAt K mg "exchanged_word" s_exchanged_word ["granary", "load"]) (D_exchanged : DefAt K mg "exchanged" s_exchanged ["world", "cart", "granary", "word"]) (D_Guess___init__ : DefM K C_Guess "__init__" "Guess.__init__" s_Guess___init__ ["self", "least", "most"]) (D_Guess_no_more : DefM K C_Guess "no_more" "Guess.no_more" s_Guess_no_more ["self", "load"]) (D_Guess_no_less : DefM K C_Guess "no_less" "Guess.no_less" s_Guess_no_less ["self", "load"]) (D_Guess_met : DefM K C_Guess "met" "Guess.met" s_Guess_met ["self", "load", "behind"]) (D_Guess_stretch : DefM K C_Guess "stretch" "Guess.stretch" s_Guess_stretch ["self"]) (D_let_out : DefAt K mg "let_out" s_let_out ["granary", "loads"]) (D_is_heard : DefAt K mg "is_heard" s_is_heard ["low", "high", "load", "out"]) (D_fits : DefAt K mg "fits" s_fits ["sort", "sent", "heard"]) (D_l_box : DefAt K mg "_law_box" s_l_box ["_law_script", "_law_k"]) (D_l_take : DefAt K mg "_law_take" s_l_take ["_law_box_here", "_law_size"]) (D_l_folded : DefAt K mg "_law_folded" s_l_folded ["_law_script", "_law_size"]) (D_l_same : DefAt K mg "_law_same" s_l_same ["_law_found", "_law_wanted"]) (D_l_end : DefAt K mg "_law_end" s_l_end ["_law_pair", "_law_by", "_law_more"]) (D_l_back : DefAt K mg "_law_back" s_l_back ["_law_pair"]) (D_l_known_right : DefAt K mg "_law_known_right" s_l_known_right ["_law_by", "_law_more"]) (D_l_sent_right : DefAt K mg "_law_sent_right" s_l_sent_right ["_law_by", "_law_more"]) (cl_Guess : Cls K C_Guess) (na_Guess_own_least : NoAttr K C_Guess "own_least") (na_Guess_own_most : NoAttr K C_Guess "own_most") (na_Guess_own_now : NoAttr K C_Guess "own_now") (mk_Guess : MkF K mg "Guess" C_Guess) : ∀ k, AllC P w K mg base C_Guess k
  | 0 => ⟨cal_zero D_exchanged_word, cal_zero D_exchanged, calM_zero D_Guess___init__, calM_zero D_Guess_no_more, calM_zero D_Guess_no_less, calM_zero D_Guess_met, calM_zero D_Guess_stretch, cal_zero D_let_out, cal_zero D_is_heard, cal_zero D_fits, cal_zero D_l_box, cal_zero D_l_take, cal_zero D_l_folded, cal_zero D_l_same, cal_zero D_l_end, cal_zero D_l_back, cal_zero D_l_known_right, cal_zero D_l_sent_right, calM_zero D_Guess___init__⟩
  | k + 1 => by
    have ih := all_ok (P := P) (w := w) (K := K) (mg := mg) (base := base) b_zip b_tuple b_len b_abs b_int b_divmod b_list b_enumerate b_isinstance b_all b_str b_bool b_max b_range k_LOW k_HIGH D_exchanged_word D_exchanged D_Guess___init__ D_Guess_no_more D_Guess_no_less D_Guess_met D_Guess_stretch D_let_out D_is_heard D_fits D_l_box D_l_take D_l_folded D_l_same D_l_end D_l_back D_l_known_right D_l_sent_right cl_Guess na_Guess_own_least na_Guess_own_most na_Guess_own_now mk_Guess k
    exact ⟨cal_succ D_exchanged_word sc_exchanged_word (d_exchanged_word k_LOW k_HIGH) (p_exchanged_word k),
      cal_succ D_exchanged sc_exchanged (d_exchanged k_LOW) (p_exchanged k),
      calM_succ D_Guess___init__ sc_Guess___init__ (d_Guess___init__ cl_Guess na_Guess_own_least na_Guess_own_most na_Guess_own_now) (p_Gu_init C_Guess k),
      calM_succ D_Guess_no_more sc_Guess_no_more (d_Guess_no_more cl_Guess na_Guess_own_now na_Guess_own_most na_Guess_own_least) (p_Gu_more C_Guess k),
      calM_succ D_Guess_no_less sc_Guess_no_less (d_Guess_no_less cl_Guess na_Guess_own_now na_Guess_own_least na_Guess_own_most) (p_Gu_less C_Guess k),
      calM_succ D_Guess_met sc_Guess_met (d_Guess_met cl_Guess na_Guess_own_now ih.a_Guess_no_more ih.a_Guess_no_less) (p_Gu_met C_Guess k),
      calM_succ D_Guess_stretch sc_Guess_stretch (d_Guess_stretch cl_Guess na_Guess_own_least na_Guess_own_most) (p_Gu_stretch C_Guess k),
      cal_succ D_let_out sc_let_out (d_let_out ih.a_exchanged_word ih.a_exchanged) (p_let_outP k),
      cal_succ D_is_heard sc_is_heard (d_is_heard cl_Guess ih.a_Guess_no_more ih.a_Guess_no_less ih.a_Guess_met) (p_is_heard C_Guess k),
      cal_succ D_fits sc_fits (d_fits b_zip b_tuple k_HIGH k_LOW ih.a_is_heard cl_Guess mk_Guess ih.I_Guess ih.a_Guess_stretch) (p_fits C_Guess k),
      cal_succ D_l_box sc_l_box (d_l_box b_len b_abs b_int) (p_l_box k),
      cal_succ D_l_take sc_l_take (d_l_take b_divmod ih.a_l_take) (p_l_take k),
      cal_succ D_l_folded sc_l_folded (d_l_folded b_list b_enumerate) (p_l_folded k),
      cal_succ D_l_same sc_l_same (d_l_same b_list b_tuple b_isinstance b_len b_zip b_all b_str b_int b_bool ih.a_l_same) (p_l_same k),
      cal_succ D_l_end sc_l_end (d_l_end b_tuple) (p_l_end42 k),
      cal_succ D_l_back sc_l_back (d_l_back b_tuple) (p_l_back42 k),
      cal_succ D_l_known_right sc_l_known_right (d_l_known_right ih.a_l_end ih.a_fits ih.a_l_same ih.a_l_back) (p_known42 C_Guess k),
      cal_succ D_l_sent_right sc_l_sent_right (d_l_sent_right b_tuple ih.a_let_out ih.a_l_same) (p_sent42 k),
      ih.a_Guess___init__⟩
theorem all_mk {P : Program} {w : World} {K : PySem.W.Frag} {mg : Str → Option Value} {h : Heap} {fa : Addr} {C_Guess : Addr} (X : K.In h) (G : h.Ns mainGlobals mg) (hmg : mg "law" = some (.ref fa)) (b_zip : mg "zip" = none) (b_tuple : mg "tuple" = none) (b_len : mg "len" = none) (b_abs : mg "abs" = none) (b_int : mg "int" = none) (b_divmod : mg "divmod" = none) (b_list : mg "list" = none) (b_enumerate : mg "enumerate" = none) (b_isinstance : mg "isinstance" = none) (b_all : mg "all" = none) (b_str : mg "str" = none) (b_bool : mg "bool" = none) (b_max : mg "max" = none) (b_range : mg "range" = none) (k_LOW : ∃ t, mg "LOW" = some (.str "low" t)) (k_HIGH : ∃ t, mg "HIGH" = some (.str "high" t)) (D_exchanged_word : DefAt K mg "exchanged_word" s_exchanged_word ["granary", "load"]) (D_exchanged : DefAt K mg "exchanged" s_exchanged ["world", "cart", "granary", "word"]) (D_Guess___init__ : DefM K C_Guess "__init__" "Guess.__init__" s_Guess___init__ ["self", "least", "most"]) (D_Guess_no_more : DefM K C_Guess "no_more" "Guess.no_more" s_Guess_no_more ["self", "load"]) (D_Guess_no_less : DefM K C_Guess "no_less" "Guess.no_less" s_Guess_no_less ["self", "load"]) (D_Guess_met : DefM K C_Guess "met" "Guess.met" s_Guess_met ["self", "load", "behind"]) (D_Guess_stretch : DefM K C_Guess "stretch" "Guess.stretch" s_Guess_stretch ["self"]) (D_let_out : DefAt K mg "let_out" s_let_out ["granary", "loads"]) (D_is_heard : DefAt K mg "is_heard" s_is_heard ["low", "high", "load", "out"]) (D_fits : DefAt K mg "fits" s_fits ["sort", "sent", "heard"]) (D_l_box : DefAt K mg "_law_box" s_l_box ["_law_script", "_law_k"]) (D_l_take : DefAt K mg "_law_take" s_l_take ["_law_box_here", "_law_size"]) (D_l_folded : DefAt K mg "_law_folded" s_l_folded ["_law_script", "_law_size"]) (D_l_same : DefAt K mg "_law_same" s_l_same ["_law_found", "_law_wanted"]) (D_l_end : DefAt K mg "_law_end" s_l_end ["_law_pair", "_law_by", "_law_more"]) (D_l_back : DefAt K mg "_law_back" s_l_back ["_law_pair"]) (D_l_known_right : DefAt K mg "_law_known_right" s_l_known_right ["_law_by", "_law_more"]) (D_l_sent_right : DefAt K mg "_law_sent_right" s_l_sent_right ["_law_by", "_law_more"]) (cl_Guess : Cls K C_Guess) (na_Guess_own_least : NoAttr K C_Guess "own_least") (na_Guess_own_most : NoAttr K C_Guess "own_most") (na_Guess_own_now : NoAttr K C_Guess "own_now") (mk_Guess : MkF K mg "Guess" C_Guess) (D_law : DefAt K mg "law" s_law ["_law_script"]) : ∃ fd : FuncData, (∀ (s : Shared) (u : Value), BindsTo s fd ⟨[u], []⟩ [("_law_script", u)]) ∧ ∀ base : Heap, K.In base → base.Ns mainGlobals mg → FnG P w K mg base (40 + 1) fa fd ["_law_script"] (spD K mg 1 (c_k42_law 40)) := by
  refine law_mk (ct := c_k42_law) D_law hmg sc_law (fun _ _ _ _ _ _ _ => rfl) ?_ (p_k42_law C_Guess 40)
  intro base _ _
  have A := all_ok (P := P) (w := w) (base := base) b_zip b_tuple b_len b_abs b_int b_divmod b_list b_enumerate b_isinstance b_all b_str b_bool b_max b_range k_LOW k_HIGH D_exchanged_word D_exchanged D_Guess___init__ D_Guess_no_more D_Guess_no_less D_Guess_met D_Guess_stretch D_let_out D_is_heard D_fits D_l_box D_l_take D_l_folded D_l_same D_l_end D_l_back D_l_known_right D_l_sent_right cl_Guess na_Guess_own_least na_Guess_own_most na_Guess_own_now mk_Guess 40
  exact d_law b_len b_max b_range A.a_l_folded A.a_l_box A.a_l_take A.a_l_known_right A.a_l_sent_right
end VL
open PySem PySem.W PyProof.Rows in
set_option maxRecDepth 100000 in
set_option maxHeartbeats 0 in
theorem PySem.Challenge.cw_midcarts_k42_known_from_outside_holds : PySem.Challenge.rw_midcarts_k42_known_from_outside.Holds := by
  w_on; o_law; k_head; (case hw => w_witness2)
  k_fill
  refine VL.walk_ofG (l := PySem.Challenge.rw_midcarts_k42_known_from_outside) (n := 63) (k := 40 + 1) (ct := VL.c_k42_law 40) (x := "_law_script") rfl (by decide) rfl ⟨rfl, by decide, by decide⟩ (fun w h Y => PySem.W.kIn_of Y) ?F (fun ns hl => VL.k42_ct ns hl)
  case F =>
    intro w mg fa h KX G hmg
    refine' VL.all_mk KX G hmg ?b_zip ?b_tuple ?b_len ?b_abs ?b_int ?b_divmod ?b_list ?b_enumerate ?b_isinstance ?b_all ?b_str ?b_bool ?b_max ?b_range ?k_LOW ?k_HIGH ?D_exchanged_word ?D_exchanged ?D_Guess___init__ ?D_Guess_no_more ?D_Guess_no_less ?D_Guess_met ?D_Guess_stretch ?D_let_out ?D_is_heard ?D_fits ?D_l_box ?D_l_take ?D_l_folded ?D_l_same ?D_l_end ?D_l_back ?D_l_known_right ?D_l_sent_right ?cl_Guess ?na_Guess_own_least ?na_Guess_own_most ?na_Guess_own_now ?mk_Guess ?D_law
    case mk_Guess =>
      refine' VL.mkf_mk KX G ?a ?m ?k
      (case a => k_is); (case m => k_is); (case k => k_is)
    case cl_Guess =>
      refine' VL.cl_mk ?pg ?hd ?po ?sa
      (case pg => k_is); (case hd => k_is); (case po => k_is); (case sa => k_is)
    case na_Guess_own_least =>
      refine' VL.na_mk ?n
      (case n => k_is)
    case na_Guess_own_most =>
      refine' VL.na_mk ?n
      (case n => k_is)
    case na_Guess_own_now =>
      refine' VL.na_mk ?n
      (case n => k_is)
    (case b_zip => exact PySem.W.mg_none_of KX G (by k_is))
    (case b_tuple => exact PySem.W.mg_none_of KX G (by k_is))
    (case b_len => exact PySem.W.mg_none_of KX G (by k_is))
    (case b_abs => exact PySem.W.mg_none_of KX G (by k_is))
    (case b_int => exact PySem.W.mg_none_of KX G (by k_is))
    (case b_divmod => exact PySem.W.mg_none_of KX G (by k_is))
    (case b_list => exact PySem.W.mg_none_of KX G (by k_is))
    (case b_enumerate => exact PySem.W.mg_none_of KX G (by k_is))
    (case b_isinstance => exact PySem.W.mg_none_of KX G (by k_is))
    (case b_all => exact PySem.W.mg_none_of KX G (by k_is))
    (case b_str => exact PySem.W.mg_none_of KX G (by k_is))
    (case b_bool => exact PySem.W.mg_none_of KX G (by k_is))
    (case b_max => exact PySem.W.mg_none_of KX G (by k_is))
    (case b_range => exact PySem.W.mg_none_of KX G (by k_is))
    (case k_LOW => exact ⟨_, PySem.W.mg_of KX G (by k_is)⟩)
    (case k_HIGH => exact ⟨_, PySem.W.mg_of KX G (by k_is)⟩)
    case D_exchanged_word =>
      refine' VL.def_mk KX G ?a ?l ?c ?k ?b
      (case a => k_is); (case l => k_is); (case c => k_is); (case k => k_is)
      (case b => exact fun _ _ _ _ _ _ us hl => match us, hl with | [_, _], _ => rfl)
    case D_exchanged =>
      refine' VL.def_mk KX G ?a ?l ?c ?k ?b
      (case a => k_is); (case l => k_is); (case c => k_is); (case k => k_is)
      (case b => exact fun _ _ _ _ _ _ us hl => match us, hl with | [_, _, _, _], _ => rfl)
    case D_Guess___init__ =>
      refine' VL.def_mkM ?a ?i ?l ?c ?k ?b
      (case a => k_is); (case i => k_is); (case l => k_is); (case c => k_is); (case k => k_is)
      (case b => exact fun _ _ _ _ _ _ us hl => match us, hl with | [_, _, _], _ => rfl)
    case D_Guess_no_more =>
      refine' VL.def_mkM ?a ?i ?l ?c ?k ?b
      (case a => k_is); (case i => k_is); (case l => k_is); (case c => k_is); (case k => k_is)
      (case b => exact fun _ _ _ _ _ _ us hl => match us, hl with | [_, _], _ => rfl)
    case D_Guess_no_less =>
      refine' VL.def_mkM ?a ?i ?l ?c ?k ?b
      (case a => k_is); (case i => k_is); (case l => k_is); (case c => k_is); (case k => k_is)
      (case b => exact fun _ _ _ _ _ _ us hl => match us, hl with | [_, _], _ => rfl)
    case D_Guess_met =>
      refine' VL.def_mkM ?a ?i ?l ?c ?k ?b
      (case a => k_is); (case i => k_is); (case l => k_is); (case c => k_is); (case k => k_is)
      (case b => exact fun _ _ _ _ _ _ us hl => match us, hl with | [_, _, _], _ => rfl)
    case D_Guess_stretch =>
      refine' VL.def_mkM ?a ?i ?l ?c ?k ?b
      (case a => k_is); (case i => k_is); (case l => k_is); (case c => k_is); (case k => k_is)
      (case b => exact fun _ _ _ _ _ _ us hl => match us, hl with | [_], _ => rfl)
    case D_let_out =>
      refine' VL.def_mk KX G ?a ?l ?c ?k ?b
      (case a => k_is); (case l => k_is); (case c => k_is); (case k => k_is)
      (case b => exact fun _ _ _ _ _ _ us hl => match us, hl with | [_, _], _ => rfl)
    case D_is_heard =>
      refine' VL.def_mk KX G ?a ?l ?c ?k ?b
      (case a => k_is); (case l => k_is); (case c => k_is); (case k => k_is)
      (case b => exact fun _ _ _ _ _ _ us hl => match us, hl with | [_, _, _, _], _ => rfl)
    case D_fits =>
      refine' VL.def_mk KX G ?a ?l ?c ?k ?b
      (case a => k_is); (case l => k_is); (case c => k_is); (case k => k_is)
      (case b => exact fun _ _ _ _ _ _ us hl => match us, hl with | [_, _, _], _ => rfl)
    case D_l_box =>
      refine' VL.def_mk KX G ?a ?l ?c ?k ?b
      (case a => k_is); (case l => k_is); (case c => k_is); (case k => k_is)
      (case b => exact fun _ _ _ _ _ _ us hl => match us, hl with | [_, _], _ => rfl)
    case D_l_take =>
      refine' VL.def_mk KX G ?a ?l ?c ?k ?b
      (case a => k_is); (case l => k_is); (case c => k_is); (case k => k_is)
      (case b => exact fun _ _ _ _ _ _ us hl => match us, hl with | [_, _], _ => rfl)
    case D_l_folded =>
      refine' VL.def_mk KX G ?a ?l ?c ?k ?b
      (case a => k_is); (case l => k_is); (case c => k_is); (case k => k_is)
      (case b => exact fun _ _ _ _ _ _ us hl => match us, hl with | [_, _], _ => rfl)
    case D_l_same =>
      refine' VL.def_mk KX G ?a ?l ?c ?k ?b
      (case a => k_is); (case l => k_is); (case c => k_is); (case k => k_is)
      (case b => exact fun _ _ _ _ _ _ us hl => match us, hl with | [_, _], _ => rfl)
    case D_l_end =>
      refine' VL.def_mk KX G ?a ?l ?c ?k ?b
      (case a => k_is); (case l => k_is); (case c => k_is); (case k => k_is)
      (case b => exact fun _ _ _ _ _ _ us hl => match us, hl with | [_, _, _], _ => rfl)
    case D_l_back =>
      refine' VL.def_mk KX G ?a ?l ?c ?k ?b
      (case a => k_is); (case l => k_is); (case c => k_is); (case k => k_is)
      (case b => exact fun _ _ _ _ _ _ us hl => match us, hl with | [_], _ => rfl)
    case D_l_known_right =>
      refine' VL.def_mk KX G ?a ?l ?c ?k ?b
      (case a => k_is); (case l => k_is); (case c => k_is); (case k => k_is)
      (case b => exact fun _ _ _ _ _ _ us hl => match us, hl with | [_, _], _ => rfl)
    case D_l_sent_right =>
      refine' VL.def_mk KX G ?a ?l ?c ?k ?b
      (case a => k_is); (case l => k_is); (case c => k_is); (case k => k_is)
      (case b => exact fun _ _ _ _ _ _ us hl => match us, hl with | [_, _], _ => rfl)
    case D_law =>
      refine' VL.def_mk KX G ?a ?l ?c ?k ?b
      (case a => k_is); (case l => k_is); (case c => k_is); (case k => k_is)
      (case b => exact fun _ _ _ _ _ _ us hl => match us, hl with | [_], _ => rfl)
