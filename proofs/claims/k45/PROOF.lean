import PyProof.Rows.All
import Wide.All
import OpenK.AllK
import Wide.FinOn
import HandS.ForMost
import HandS.Exc
import HandS.ExcOwn
import HandS.WordsExc
import HandS.CallSlots
import HandS.Wide
import HandS.WideBits
import HandS.TupAny
import HandS.Deep
import HandS.IsInst
import HandS.SortInts
import HandS.Conv
import HandS.Zip
import HandS.Rev
import HandS.NoneIn
import HandS.Style
import HandS.ExcInit
import HandS.ExcIs
import HandS.ExcField
import KE.KExcInit
import HandS.Lambda
import HandS.More
import HandS.SetFor
import KE.GoesEnum
import KE.KAssignIn
import HandS.TupMul
import KE.KExcIs
import KE.KTryMore
import HandS.Strs
import HandS.Dict
import HandS.DictComp
import HandS.DictTup
import HandS.SortKw
import KE.KLam
import PySem.Challenge.RW_midcarts_k45_refusals_made_by_hand
set_option Elab.async false
set_option linter.all false
set_option maxRecDepth 100000
set_option maxHeartbeats 4000000
namespace VL
open PySem L2
/-- data: what a value stands for; ptr: a live (changeable) object; scr: the script -/
inductive D where
  | non | bl (b : Bool) | int (i : Int) | str (x : Str)
  | tup (l : List D) | lst (l : List D) | ptr (a : Addr) | scr (l : List Int) | ty (n : String)
/-- a tuple: tracked -/
def TupAt (K : PySem.W.Frag) (G : Hp) (a : Addr) (xs : List V) : Prop := G a = some (.tup xs)
theorem TupAt.of {K : PySem.W.Frag} {G : Hp} {a : Addr} {xs : List V} (h : G a = some (.tup xs)) : TupAt K G a xs := h
theorem TupAt.sq {K : PySem.W.Frag} {G : Hp} {a : Addr} {xs : List V} (h : TupAt K G a xs) : SqT K G a xs := .inl (.inl h)
mutual
def Rep (K : PySem.W.Frag) (G : Hp) : D → V → Prop
  | .non, v => v = .non
  | .bl b, v => v = .bl b
  | .int i, v => v = .int i
  | .str x, v => v = .str x
  | .tup ds, v => ∃ a vs, v = .ref a ∧ TupAt K G a vs ∧ Reps K G ds vs
  | .lst ds, v => ∃ a vs, v = .ref a ∧ G a = some (.lst vs) ∧ Reps K G ds vs
  | .ptr a, v => v = .ref a
  | .ty n, v => v = .ty n
  | .scr ns, v => ∃ a, v = .ref a ∧ SqL K G a (ns.map V.int)
def Reps (K : PySem.W.Frag) (G : Hp) : List D → List V → Prop
  | [], vs => vs = []
  | d :: ds, vs => ∃ v r, vs = v :: r ∧ Rep K G d v ∧ Reps K G ds r
end
def Le (G G' : Hp) : Prop := ∀ a o, G a = some o → G' a = some o
theorem Le.refl (G : Hp) : Le G G := fun _ _ h => h
theorem Le.trans {A B C : Hp} (x : Le A B) (y : Le B C) : Le A C := fun a o h => y a o (x a o h)
theorem Le.rd {G G' : Hp} {a : Addr} {u : HO} (x : Le G G') (h : Rd G a u) : Rd G' a u := by
  rcases h with h | ⟨o, h⟩
  · exact .inl (x _ _ h)
  · exact .inr ⟨o, x _ _ h⟩
theorem Le.sqT {K : PySem.W.Frag} {G G' : Hp} {a : Addr} {xs : List V} (x : Le G G') (h : SqT K G a xs) : SqT K G' a xs := by
  rcases h with h | h
  · exact .inl (x.rd h)
  · exact .inr h
theorem Le.tup {K : PySem.W.Frag} {G G' : Hp} {a : Addr} {xs : List V} (x : Le G G') (h : TupAt K G a xs) : TupAt K G' a xs := x _ _ h
theorem Le.sqL {K : PySem.W.Frag} {G G' : Hp} {a : Addr} {xs : List V} (x : Le G G') (h : SqL K G a xs) : SqL K G' a xs := by
  rcases h with h | h
  · exact .inl (x.rd h)
  · exact .inr h
mutual
theorem Rep.mono {K : PySem.W.Frag} {G G' : Hp} (x : Le G G') : ∀ (d : D) (v : V), Rep K G d v → Rep K G' d v
  | .non, _, h => h
  | .bl _, _, h => h
  | .int _, _, h => h
  | .str _, _, h => h
  | .ptr _, _, h => h
  | .ty _, _, h => h
  | .tup ds, v, h => by
    obtain ⟨a, vs, e, hs, hr⟩ := h
    exact ⟨a, vs, e, x.tup hs, Reps.mono x ds vs hr⟩
  | .lst ds, v, h => by
    obtain ⟨a, vs, e, hs, hr⟩ := h
    exact ⟨a, vs, e, x _ _ hs, Reps.mono x ds vs hr⟩
  | .scr ns, v, h => by
    obtain ⟨a, e, hs⟩ := h
    exact ⟨a, e, x.sqL hs⟩
theorem Reps.mono {K : PySem.W.Frag} {G G' : Hp} (x : Le G G') : ∀ (ds : List D) (vs : List V), Reps K G ds vs → Reps K G' ds vs
  | [], _, h => h
  | d :: ds, vs, h => by
    obtain ⟨v, r, e, h1, h2⟩ := h
    exact ⟨v, r, e, Rep.mono x d v h1, Reps.mono x ds r h2⟩
end
section
variable {K : PySem.W.Frag} {G : Hp}
theorem Reps.length : ∀ {ds : List D} {vs : List V}, Reps K G ds vs → ds.length = vs.length
  | [], _, h => by cases h; rfl
  | d :: ds, _, h => by
    obtain ⟨v, r, rfl, _, h2⟩ := h
    simp [Reps.length h2]
theorem Reps.get : ∀ {ds : List D} {vs : List V} {i : Nat} {d : D}, Reps K G ds vs → ds[i]? = some d → ∃ v, vs[i]? = some v ∧ Rep K G d v
  | [], _, _, _, _, e => by simp at e
  | _ :: _, _, 0, _, h, e => by
    obtain ⟨v, r, rfl, h1, _⟩ := h
    simp at e; subst e
    exact ⟨v, rfl, h1⟩
  | _ :: ds, _, i + 1, d, h, e => by
    obtain ⟨v, r, rfl, _, h2⟩ := h
    obtain ⟨u, a, b⟩ := Reps.get (i := i) (d := d) h2 (by simpa using e)
    exact ⟨u, by simpa using a, b⟩
theorem Reps.app : ∀ {ds es : List D} {vs ws : List V}, Reps K G ds vs → Reps K G es ws → Reps K G (ds ++ es) (vs ++ ws)
  | [], _, _, _, h, k => by cases h; exact k
  | d :: ds, _, _, _, h, k => by
    obtain ⟨v, r, rfl, h1, h2⟩ := h
    exact ⟨v, _, rfl, h1, Reps.app h2 k⟩
theorem Reps.one {d : D} {v : V} (h : Rep K G d v) : Reps K G [d] [v] := ⟨v, [], rfl, h, rfl⟩
theorem Reps.take : ∀ {ds : List D} {vs : List V} (n : Nat), Reps K G ds vs → Reps K G (ds.take n) (vs.take n)
  | _, _, 0, _ => rfl
  | [], _, _ + 1, h => by cases h; rfl
  | d :: ds, _, n + 1, h => by
    obtain ⟨v, r, rfl, h1, h2⟩ := h
    exact ⟨v, _, rfl, h1, Reps.take n h2⟩
theorem Reps.drop : ∀ {ds : List D} {vs : List V} (n : Nat), Reps K G ds vs → Reps K G (ds.drop n) (vs.drop n)
  | _, _, 0, h => h
  | [], _, _ + 1, h => by cases h; rfl
  | d :: ds, _, n + 1, h => by
    obtain ⟨v, r, rfl, h1, h2⟩ := h
    exact Reps.drop n h2
theorem Reps.set {x : D} {u : V} (q : Rep K G x u) : ∀ {ds : List D} {vs : List V} (i : Nat), Reps K G ds vs → Reps K G (ds.set i x) (vs.set i u)
  | [], _, _, h => by cases h; rfl
  | d :: ds, _, 0, h => by
    obtain ⟨v, r, rfl, h1, h2⟩ := h
    exact ⟨u, r, rfl, q, h2⟩
  | d :: ds, _, i + 1, h => by
    obtain ⟨v, r, rfl, h1, h2⟩ := h
    exact ⟨v, _, rfl, h1, Reps.set q i h2⟩
theorem Reps.ints : ∀ {ns : List Int} {vs : List V}, Reps K G (ns.map D.int) vs ↔ vs = ns.map V.int
  | [], _ => Iff.rfl
  | n :: ns, vs => by
    constructor
    · rintro ⟨v, r, rfl, h1, h2⟩
      cases h1
      rw [Reps.ints.mp h2]; rfl
    · rintro rfl
      exact ⟨_, _, rfl, rfl, Reps.ints.mpr rfl⟩
theorem Reps.bls : ∀ {ns : List Bool} {vs : List V}, Reps K G (ns.map D.bl) vs ↔ vs = ns.map V.bl
  | [], _ => Iff.rfl
  | n :: ns, vs => by
    constructor
    · rintro ⟨v, r, rfl, h1, h2⟩
      cases h1
      rw [Reps.bls.mp h2]; rfl
    · rintro rfl
      exact ⟨_, _, rfl, rfl, Reps.bls.mpr rfl⟩
theorem Reps.dropLast : ∀ {ds : List D} {vs : List V}, Reps K G ds vs → Reps K G ds.dropLast vs.dropLast := by
  intro ds vs h
  rw [List.dropLast_eq_take, List.dropLast_eq_take, h.length]
  exact Reps.take _ h
end
/-- the built-in class straight above an own exception class -/
inductive EB where
  | v | l | r | t
def EB.nm : EB → String
  | .v => "ValueError"
  | .l => "LookupError"
  | .r => "RuntimeError"
  | .t => "TypeError"
def EB.new : EB → String
  | .v => "ValueError.__new__"
  | .l => "LookupError.__new__"
  | .r => "RuntimeError.__new__"
  | .t => "TypeError.__new__"
def EB.ini : EB → String
  | .v => "ValueError.__init__"
  | .l => "LookupError.__init__"
  | .r => "RuntimeError.__init__"
  | .t => "TypeError.__init__"
def EB.tl (b : EB) : List Value := [.type b.nm, .type "Exception", .type "BaseException", .type "object"]
/-- what the written part tells of the class n at C -/
structure ExcK (K : PySem.W.Frag) (n : Str) (b : EB) (C : Addr) : Prop where
  ns : PySem.W.nsIn K mainGlobals n = some (some (.ref C))
  nm : (PySem.W.clsIn K C).map (·.name) = some n
  mro : (PySem.W.clsIn K C).map (·.mro) = some (.ref C :: b.tl)
  ini : PySem.W.excInitIn K C b.tl b.new = true
  ovr : PySem.W.excOver K C b.tl = true
  sa : PySem.W.findIn K (.ref C) "__setattr__" = some (some (.builtin "object.__setattr__"))
  no : PySem.W.findIn K (.ref C) "what" = some none
  is : ExcC K C
  tyC : PySem.W.typeIn K (.ref C) = some (.type "type")
  kC : PySem.W.keepIn K (.ref C) = true
/-- at e: an exception of the class at C, its dict at d -/
def exH (e C d : Addr) : HO := .ext fun h => ∃ (o : Obj) (vs : Array Value), h.get? e = some o ∧ o.cls = .ref C ∧ o.dict = some d ∧ o.data = .fields vs
/-- the lambda's body, by its kind: x its parameter, cn the names that it takes from around -/
def lamB (n : Nat) (x : Str) (cn : List Str) (e : Expr) : Prop := match n with
  | 0 => cn = [] ∧ ∃ p q, e = .UnaryOp .USub (.Name x p) q
  | 1 => ∃ y p1 p2 p3 p4 p5, cn = [y] ∧ e = .Call (.Name "int" p1) [.Compare (.Name x p2) [.Gt] [.Name y p3] p4] [] p5
  | 2 => ∃ y p1 p2 p3, cn = [y] ∧ e = .Subscript (.Name y p1) (.Name x p2) p3
  | _ => False
/-- its names -/
structure LamSc (n : Nat) (x : Str) (cn : List Str) (sc : Scope) : Prop where
  kind : sc.kind = .function
  co : sc.isCoroutine = false
  gen : sc.isGenerator = false
  par : sc.names.lookup x = some .local
  nd : (x :: cn).Nodup
  loc : ∀ y ∈ sc.names, y.2 = .local → y.1 = x
  noc : ∀ y ∈ sc.names, y.2 ≠ .cell
  free : ∀ y ∈ sc.names, y.2 = .free → y.1 ∈ cn
  cap : ∀ y ∈ cn, sc.names.lookup y = some .free
  int : n = 1 → sc.names.lookup ("int" : Str) = some .globalImplicit
  dbg : ∀ y ∈ x :: cn, (y == ("__debug__" : Str)) = false ∧ (y == ("__classdict__" : Str)) = false
def lamArgs (x : Str) (p : Pos) : Arguments := { posonlyargs := [], args := [{ arg := x, annotation := none, pos := p }], vararg := none, kwonlyargs := [], kw_defaults := [], kwarg := none, defaults := [] }
/-- a known thing -/
def frzO (o : Obj) : HO := .frz o (.ext fun _ => True)
/-- what the closure's cells hold -/
def CapsAt (K : PySem.W.Frag) (G : Hp) (cl : List (Str × Addr)) : List Str → List D → Prop
  | [], ds => ds = []
  | y :: cn, ds => ∃ d r ca o u v, ds = d :: r ∧ cl.lookup y = some ca ∧ G ca = some (frzO o) ∧ o.data = .cell (some u) ∧ RelV v u ∧ Rep K G d v ∧ CapsAt K G cl cn r
theorem CapsAt.mono {K : PySem.W.Frag} {G G' : Hp} (x : Le G G') {cl : List (Str × Addr)} : ∀ {cn : List Str} {ds : List D}, CapsAt K G cl cn ds → CapsAt K G' cl cn ds
  | [], _, h => h
  | y :: cn, _, ⟨d, r, ca, o, u, v, e, h1, h2, h3, h4, h5, h6⟩ => ⟨d, r, ca, o, u, v, e, h1, x _ _ h2, h3, h4, Rep.mono x _ _ h5, CapsAt.mono x h6⟩
/-- at a: a lambda of the kind n, which has taken caps from around -/
def LamAt (K : PySem.W.Frag) (G : Hp) (a : Addr) (n : Nat) (caps : List D) : Prop := ∃ (x : Str) (cn : List Str) (q : Str) (p : Pos) (body : Expr) (sc : Scope) (cl : List (Str × Addr)) (pm : Value) (c' : Addr) (ctv : Value),
  lamB n x cn body ∧ LamSc n x cn sc ∧ G a = some (frzO (PySem.W.kla_obj "<lambda>" q (lamArgs x p) body sc cl pm c' ctv)) ∧ G c' = some (LamX.CodeO c' q) ∧ (∀ y c, cl.lookup y = some c → y ∈ cn) ∧ (∀ y z c, cl.lookup y = some c → cl.lookup z = some c → y = z) ∧ CapsAt K G cl cn caps
theorem LamAt.mono {K : PySem.W.Frag} {G G' : Hp} (x : Le G G') {a : Addr} {n : Nat} {caps : List D} (h : LamAt K G a n caps) : LamAt K G' a n caps := by
  obtain ⟨x0, cn, q, p, body, sc, cl, pm, c', ctv, h1, h2, h3, h4, h5, h6, h7⟩ := h
  exact ⟨x0, cn, q, p, body, sc, cl, pm, c', ctv, h1, h2, x _ _ h3, x _ _ h4, h5, h6, h7.mono x⟩
/-- the table of code objects of the def x: where it stands, and what it tells -/
def TabAt (K : PySem.W.Frag) (G H : Hp) (a : Addr) (x : Str) : Prop := (∃ c, PySem.W.tabIn K x = some (c, a)) ∧
  ∃ ps : Array Value, H a = some (.tbl ps) ∧ TriplesOk ps.toList ∧ ∀ pos cv, codeAmong pos ps.toList = some cv → ∃ c, cv = .ref c ∧ G c = some (LamX.CodeO c (x ++ ".<locals>." ++ "<lambda>"))
inductive Cell where
  | lst (l : List D)
  | fz (l : List D)
  | dic (l : List (Key × D))
  | dit (l : List (List Key × D))
  | obj (C : Addr) (fs : List (Str × D))
  | exc (n : Str) (b : EB) (d : D)
  | tab (x : Str)
  | fn (n : Nat) (caps : List D)
abbrev Cs := Addr → Option Cell
def cup (c : Cs) (a : Addr) (x : Cell) : Cs := fun b => if b = a then some x else c b
theorem cup_same {c : Cs} {a : Addr} {x : Cell} : cup c a x a = some x := by unfold cup; rw [if_pos rfl]
theorem cup_ne {c : Cs} {a b : Addr} {x : Cell} (h : b ≠ a) : cup c a x b = c b := by unfold cup; rw [if_neg h]
theorem cup_cup {c : Cs} {a : Addr} {x y : Cell} : cup (cup c a x) a y = cup c a y := by
  funext b; unfold cup; split <;> rfl
/-- fewer cells are told -/
def CLe (c c' : Cs) : Prop := ∀ a x, c a = some x → c' a = some x
theorem CLe.refl (c : Cs) : CLe c c := fun _ _ h => h
theorem CLe.trans {a b c : Cs} (x : CLe a b) (y : CLe b c) : CLe a c := fun d o h => y d o (x d o h)
theorem CLe.new {c c' : Cs} {p : Addr} {x : Cell} (h : c p = none) (k : CLe c c') : CLe c (cup c' p x) := fun a y e => by
  have hne : a ≠ p := fun z => by rw [z, h] at e; cases e
  rw [cup_ne hne]; exact k a y e
def RepK {κ : Type} (K : PySem.W.Frag) (G : Hp) (l : List (κ × D)) (l' : List (κ × V)) : Prop := ∃ vs, Reps K G (l.map (·.2)) vs ∧ l' = (l.map (·.1)).zip vs
/-- an instance's fields -/
def RepF (K : PySem.W.Frag) (G : Hp) : List (Str × D) → List (Str × V) → Prop
  | [], fv => fv = []
  | (f, d) :: fs, fv => ∃ v r, fv = (f, v) :: r ∧ Rep K G d v ∧ RepF K G fs r
theorem RepF.mono {K : PySem.W.Frag} {G G' : Hp} (x : Le G G') : ∀ {fs : List (Str × D)} {fv : List (Str × V)}, RepF K G fs fv → RepF K G' fs fv
  | [], _, h => h
  | (f, d) :: fs, _, ⟨v, r, e, h1, h2⟩ => ⟨v, r, e, Rep.mono x _ _ h1, RepF.mono x h2⟩
theorem RepF.len {K : PySem.W.Frag} {G : Hp} : ∀ {fs : List (Str × D)} {fv : List (Str × V)}, RepF K G fs fv → fv.length = fs.length
  | [], _, h => by cases h; rfl
  | (f, d) :: fs, _, ⟨v, r, e, h1, h2⟩ => by subst e; simp [RepF.len h2]
/-- what stands at a live cell's address -/
def CellAt (K : PySem.W.Frag) (G H : Hp) (a : Addr) : Cell → Prop
  | .lst ds => G a = none ∧ ∃ vs, H a = some (.lst vs) ∧ Reps K G ds vs
  | .fz ds => ∃ vs, G a = some (.lst vs) ∧ Reps K G ds vs
  | .dic l => G a = none ∧ ∃ l', H a = some (.dK l') ∧ RepK K G l l'
  | .dit l => G a = none ∧ ∃ l', H a = some (.dT l') ∧ RepK K G l l'
  | .obj C fs => G a = none ∧ ∃ dx fv, H a = some (.ins C dx fv) ∧ RepF K G fs fv
  | .exc n b d => ∃ C dd u, ExcK K n b C ∧ G a = some (exH a C dd) ∧ G dd = some (.xd [(("what" : Str), u)]) ∧ Rep K G d u
  | .tab x => G a = none ∧ TabAt K G H a x
  | .fn n caps => LamAt K G a n caps
theorem CellAt.there {K : PySem.W.Frag} {G H : Hp} {a : Addr} {x : Cell} (s : Le G H) (h : CellAt K G H a x) : H a ≠ none := by
  cases x with
  | lst ds => obtain ⟨_, vs, e, _⟩ := h; rw [e]; simp
  | fz ds => obtain ⟨vs, e, _⟩ := h; rw [s _ _ e]; simp
  | dic l => obtain ⟨_, vs, e, _⟩ := h; rw [e]; simp
  | dit l => obtain ⟨_, vs, e, _⟩ := h; rw [e]; simp
  | obj C fs => obtain ⟨_, dx, fv, e, _⟩ := h; rw [e]; simp
  | exc n b d => obtain ⟨C, dd, u, _, e, _⟩ := h; rw [s _ _ e]; simp
  | tab x => obtain ⟨_, _, ps, e, _⟩ := h; rw [e]; simp
  | fn n caps => obtain ⟨_, _, _, _, _, _, _, _, _, _, _, _, e, _⟩ := h; rw [s _ _ e]; simp
theorem CellAt.to {K : PySem.W.Frag} {G H G' H' : Hp} {a : Addr} {x : Cell} (g : Le G G') (hg : G a = none → G' a = none) (hh : G a = none → H' a = H a) (h : CellAt K G H a x) : CellAt K G' H' a x := by
  cases x with
  | lst ds => obtain ⟨n, vs, e, r⟩ := h; exact ⟨hg n, vs, by rw [hh n]; exact e, Reps.mono g _ _ r⟩
  | fz ds => obtain ⟨vs, e, r⟩ := h; exact ⟨vs, g _ _ e, Reps.mono g _ _ r⟩
  | dic l => obtain ⟨n, l', e, vs, r, z⟩ := h; exact ⟨hg n, l', by rw [hh n]; exact e, vs, Reps.mono g _ _ r, z⟩
  | dit l => obtain ⟨n, l', e, vs, r, z⟩ := h; exact ⟨hg n, l', by rw [hh n]; exact e, vs, Reps.mono g _ _ r, z⟩
  | obj C fs => obtain ⟨n, dx, fv, e, r⟩ := h; exact ⟨hg n, dx, fv, by rw [hh n]; exact e, r.mono g⟩
  | exc n b d => obtain ⟨C, dd, u, k, e1, e2, r⟩ := h; exact ⟨C, dd, u, k, g _ _ e1, g _ _ e2, Rep.mono g _ _ r⟩
  | tab x => obtain ⟨n, k, ps, e, z1, z2⟩ := h; exact ⟨hg n, k, ps, by rw [hh n]; exact e, z1, fun pos cv hc => let ⟨c, e1, e2⟩ := z2 pos cv hc; ⟨c, e1, g _ _ e2⟩⟩
  | fn n caps => exact LamAt.mono g h
/-- lists and tuples have a bounded length -/
def HLen (K : PySem.W.Frag) (H : Hp) : Prop := (∀ a xs, SqL K H a xs → xs.length ≤ sizeLine) ∧ (∀ a xs, SqT K H a xs → xs.length ≤ sizeLine)
theorem hlen_of {X : Cx} {pins : List (Addr × Obj)} {σ : St} {H : Hp} {s : Shared} (I : Inv X pins σ H s) : HLen X.K H :=
  ⟨fun a xs h => let ⟨_, _, _, z⟩ := I.list h; z, fun a xs h => let ⟨_, _, _, z⟩ := I.tuple h; z⟩
/-- the state, as data tell it -/
structure SR (K : PySem.W.Frag) (G : Hp) (c : Cs) (H : Hp) : Prop where
  sub : Le G H
  at_ : ∀ a x, c a = some x → CellAt K G H a x
/-- from state to state -/
structure Gr (G : Hp) (c : Cs) (H : Hp) (G' : Hp) (c' : Cs) (H' : Hp) : Prop where
  g : Le G G'
  keep : ∀ a o, H a = some o → c a = none → H' a = some o
  nc : ∀ a, c' a ≠ none → c a ≠ none ∨ H a = none
  ng : ∀ a o, G' a = some o → G a = some o ∨ c a ≠ none ∨ H a = none
theorem Gr.refl {G : Hp} {c : Cs} {H : Hp} : Gr G c H G c H := ⟨Le.refl _, fun _ _ h _ => h, fun _ h => .inl h, fun _ _ h => .inl h⟩
theorem Gr.trans {G c H G1 c1 H1 G2 c2 H2} (x : Gr G c H G1 c1 H1) (y : Gr G1 c1 H1 G2 c2 H2) : Gr G c H G2 c2 H2 := by
  have k1 : ∀ a, c a = none → H a ≠ none → c1 a = none := fun a h1 h2 => by
    cases e : c1 a with
    | none => rfl
    | some o =>
      rcases x.nc a (by rw [e]; simp) with q | q
      · exact absurd h1 q
      · exact absurd q h2
  have k2 : ∀ a, H1 a = none → c a ≠ none ∨ H a = none := fun a h => by
    cases e : H a with
    | none => exact .inr rfl
    | some o =>
      cases e' : c a with
      | none => rw [x.keep a o e e'] at h; cases h
      | some _ => exact .inl (by simp)
  refine ⟨x.g.trans y.g, fun a o h n => ?_, fun a h => ?_, fun a o h => ?_⟩
  · exact y.keep a o (x.keep a o h n) (k1 a n (by rw [h]; simp))
  · rcases y.nc a h with q | q
    · exact x.nc a q
    · exact k2 a q
  · rcases y.ng a o h with q | q | q
    · exact x.ng a o q
    · rcases x.nc a q with z | z
      · exact .inr (.inl z)
      · exact .inr (.inr z)
    · rcases k2 a q with z | z
      · exact .inr (.inl z)
      · exact .inr (.inr z)
theorem Gr.less {G c H G' c' c'' H'} (x : Gr G c H G' c' H') (h : CLe c'' c') : Gr G c H G' c'' H' :=
  ⟨x.g, x.keep, fun a n => x.nc a (fun z => by
    cases e : c'' a with
    | none => exact n e
    | some o => rw [h a o e] at z; cases z), x.ng⟩
theorem SR.less {K G c c' H} (x : SR K G c H) (h : CLe c' c) : SR K G c' H := ⟨x.sub, fun a o e => x.at_ a o (h a o e)⟩
theorem SR.free {K G c H} (x : SR K G c H) {p : Addr} (h : H p = none) : c p = none ∧ G p = none := by
  constructor
  · cases e : c p with
    | none => rfl
    | some o => exact absurd h ((x.at_ p o e).there x.sub)
  · cases e : G p with
    | none => rfl
    | some o => rw [x.sub p o e] at h; cases h
theorem le_upd {G : Hp} {p : Addr} {o : HO} (h : G p = none) : Le G (upd G p o) := fun a u e => by
  rw [upd_ne (ne_of_none e h)]; exact e
/-- a new object that stays as it is -/
theorem SR.newG {K G c H} (x : SR K G c H) {p : Addr} {o : HO} (h : H p = none) : SR K (upd G p o) c (upd H p o) ∧ Gr G c H (upd G p o) c (upd H p o) := by
  obtain ⟨hc, hg⟩ := x.free h
  have ne : ∀ a y, c a = some y → a ≠ p := fun a y e z => by rw [z, hc] at e; cases e
  refine ⟨⟨fun a u e => ?_, fun a y e => ?_⟩, ⟨le_upd hg, fun a u e _ => ?_, fun a e => .inl e, fun a u e => ?_⟩⟩
  · by_cases z : a = p
    · subst z; rw [upd_same] at e ⊢; exact e
    · rw [upd_ne z] at e ⊢; exact x.sub _ _ e
  · exact (x.at_ a y e).to (le_upd hg) (fun n => by rw [upd_ne (ne a y e)]; exact n) (fun _ => upd_ne (ne a y e))
  · rw [upd_ne (ne_of_none e h)]; exact e
  · by_cases z : a = p
    · subst z; exact .inr (.inr h)
    · rw [upd_ne z] at e; exact .inl e
/-- a new live object -/
theorem SR.newL {K G c H} (x : SR K G c H) {p : Addr} {o : HO} {y : Cell} (h : H p = none) (hy : CellAt K G (upd H p o) p y) : SR K G (cup c p y) (upd H p o) ∧ Gr G c H G (cup c p y) (upd H p o) := by
  obtain ⟨hc, hg⟩ := x.free h
  refine ⟨⟨fun a u e => ?_, fun a z e => ?_⟩, ⟨Le.refl _, fun a u e _ => ?_, fun a e => ?_, fun a u e => .inl e⟩⟩
  · rw [upd_ne (ne_of_none e hg)]; exact x.sub _ _ e
  · by_cases q : a = p
    · subst q; rw [cup_same] at e; cases e; exact hy
    · rw [cup_ne q] at e
      exact (x.at_ a z e).to (Le.refl _) (fun n => n) (fun _ => upd_ne q)
  · rw [upd_ne (ne_of_none e h)]; exact e
  · by_cases q : a = p
    · subst q; exact .inr h
    · rw [cup_ne q] at e; exact .inl e
/-- a live object changed -/
theorem SR.write {K G c H} (x : SR K G c H) {p : Addr} {o : HO} {y y0 : Cell} (h : c p = some y0) (hg : G p = none) (hy : CellAt K G (upd H p o) p y) : SR K G (cup c p y) (upd H p o) ∧ Gr G c H G (cup c p y) (upd H p o) := by
  refine ⟨⟨fun a u e => ?_, fun a z e => ?_⟩, ⟨Le.refl _, fun a u e n => ?_, fun a e => ?_, fun a u e => .inl e⟩⟩
  · rw [upd_ne (ne_of_none e hg)]; exact x.sub _ _ e
  · by_cases q : a = p
    · subst q; rw [cup_same] at e; cases e; exact hy
    · rw [cup_ne q] at e
      exact (x.at_ a z e).to (Le.refl _) (fun n => n) (fun _ => upd_ne q)
  · have q : a ≠ p := fun z => by rw [z, h] at n; cases n
    rw [upd_ne q]; exact e
  · by_cases q : a = p
    · subst q; exact .inl (by rw [h]; simp)
    · rw [cup_ne q] at e; exact .inl e
/-- an object beside is changed -/
theorem SR.other {K G c H} (x : SR K G c H) {p : Addr} {o : HO} (hc : c p = none) (hg : G p = none) : SR K G c (upd H p o) :=
  ⟨fun a u e => by rw [upd_ne (ne_of_none e hg)]; exact x.sub _ _ e, fun a z e => (x.at_ a z e).to (Le.refl _) (fun n => n) (fun _ => upd_ne (fun q => by rw [q, hc] at e; cases e))⟩
/-- a live list comes to stay as it is -/
theorem SR.freeze {K G c H} (x : SR K G c H) {p : Addr} {ds : List D} (h : c p = some (.lst ds)) : ∃ vs, Reps K G ds vs ∧ SR K (upd G p (.lst vs)) (cup c p (.fz ds)) H ∧ Gr G c H (upd G p (.lst vs)) (cup c p (.fz ds)) H := by
  obtain ⟨hg, vs, hv, hr⟩ := x.at_ p _ h
  refine ⟨vs, hr, ⟨fun a u e => ?_, fun a z e => ?_⟩, ⟨le_upd hg, fun a u e n => e, fun a e => ?_, fun a u e => ?_⟩⟩
  · by_cases q : a = p
    · subst q; rw [upd_same] at e; cases e; exact hv
    · rw [upd_ne q] at e; exact x.sub _ _ e
  · by_cases q : a = p
    · subst q; rw [cup_same] at e; cases e; exact ⟨vs, upd_same, Reps.mono (le_upd hg) _ _ hr⟩
    · rw [cup_ne q] at e
      exact (x.at_ a z e).to (le_upd hg) (fun n => by rw [upd_ne q]; exact n) (fun _ => rfl)
  · by_cases q : a = p
    · subst q; exact .inl (by rw [h]; simp)
    · rw [cup_ne q] at e; exact .inl e
  · by_cases q : a = p
    · subst q; exact .inr (.inl (by rw [h]; simp))
    · rw [upd_ne q] at e; exact .inl e
abbrev En := List (Option D)
def EnR (K : PySem.W.Frag) (G : Hp) (en : En) (σ : St) : Prop := en.length = σ.length ∧ ∀ (i : Nat) (d : D), en[i]? = some (some d) → ∃ v, σ[i]? = some (some v) ∧ Rep K G d v
theorem EnR.mono {K : PySem.W.Frag} {G G' : Hp} {en : En} {σ : St} (g : Le G G') (h : EnR K G en σ) : EnR K G' en σ := ⟨h.1, fun i d e => let ⟨v, a, b⟩ := h.2 i d e; ⟨v, a, Rep.mono g _ _ b⟩⟩
theorem EnR.set {K : PySem.W.Frag} {G : Hp} {en : En} {σ : St} (h : EnR K G en σ) {i : Nat} {d : D} {v : V} (r : Rep K G d v) : EnR K G (en.set i (some d)) (σ.set i (some v)) := by
  refine ⟨by simp [h.1], fun j e he => ?_⟩
  by_cases q : i = j
  · subst q
    by_cases z : i < en.length
    · rw [List.getElem?_set_self z] at he
      cases he
      exact ⟨v, List.getElem?_set_self (by rw [← h.1]; exact z), r⟩
    · rw [List.getElem?_eq_none (by simpa using z)] at he; cases he
  · rw [List.getElem?_set_ne q] at he ⊢
    exact h.2 j e he
theorem EnR.unset {K : PySem.W.Frag} {G : Hp} {en : En} {σ : St} (h : EnR K G en σ) (i : Nat) : EnR K G (en.set i none) (σ.set i none) := by
  refine ⟨by simp [h.1], fun j e he => ?_⟩
  by_cases q : i = j
  · subst q
    by_cases z : i < en.length
    · rw [List.getElem?_set_self z] at he; cases he
    · rw [List.getElem?_eq_none (by simpa using z)] at he; cases he
  · rw [List.getElem?_set_ne q] at he ⊢
    exact h.2 j e he
def ewipe (en : En) : List Nat → En
  | [] => en
  | v :: vs => (ewipe en vs).set v none
theorem EnR.wipe {K : PySem.W.Frag} {G : Hp} {en : En} {σ : St} (h : EnR K G en σ) : ∀ vs : List Nat, EnR K G (ewipe en vs) (wipe σ vs)
  | [] => h
  | v :: vs => (EnR.wipe h vs).unset v
abbrev DK := D → Cs → Prop
abbrev XK0 := Str → D → Cs → Prop
abbrev XD := Str → D → En → Cs → Prop
def noX : XD := fun _ _ _ _ => False
abbrev WE := En → Cs → DK → XD → Prop
abbrev WT := En → Cs → (Bool → Cs → Prop) → XD → Prop
abbrev WA := En → Cs → (List D → Cs → Prop) → XD → Prop
structure EndD where
  nx : En → Cs → Prop
  rt : DK
  bk : En → Cs → Prop := fun _ _ => False
  ct : En → Cs → Prop := fun _ _ => False
abbrev WS := EndD → XD → En → Cs → Prop
/-- an own exception as it leaves: its class is the module's name n; its field what is d -/
def ExcAt (K : PySem.W.Frag) (mg : Str → Option Value) (G H : Hp) (n : Str) (d : D) (cls : Value) (dx : Option Addr) : Prop :=
  mg n = some cls ∧ ∃ dd v, dx = some dd ∧ G dd = some (.xd [(("what" : Str), v)]) ∧ Rep K G d v
/-- what the exceptions that leave reach -/
def XOk (K : PySem.W.Frag) (mg : Str → Option Value) (W : WX) (X0 : XD) (G : Hp) (c : Cs) (H : Hp) : Prop :=
  ∀ n d en' c' cls dx σ' H' G', X0 n d en' c' → Gr G c H G' c' H' → SR K G' c' H' → EnR K G' en' σ' → ExcAt K mg G' H' n d cls dx → W cls dx σ' H'
theorem XOk.more {K mg W X0 G c H G1 c1 H1} (h : XOk K mg W X0 G c H) (g : Gr G c H G1 c1 H1) : XOk K mg W X0 G1 c1 H1 :=
  fun n d en' c' cls dx σ' H' G' x g' s e a => h n d en' c' cls dx σ' H' G' x (g.trans g') s e a
theorem XOk.none {K mg W G c H} : XOk K mg W noX G c H := fun _ _ _ _ _ _ _ _ _ x => x.elim
section
variable (K : PySem.W.Frag) (mg : Str → Option Value) (W : WX)
def rdE (w : WE) : TE := fun σ H Q => ∃ G en c Q0 X0, SR K G c H ∧ EnR K G en σ ∧ w en c Q0 X0 ∧ XOk K mg W X0 G c H ∧
  ∀ d c' v H' G', Q0 d c' → Gr G c H G' c' H' → SR K G' c' H' → Rep K G' d v → Q v H'
def rdT (w : WT) : TT := fun σ H Q => ∃ G en c Q0 X0, SR K G c H ∧ EnR K G en σ ∧ w en c Q0 X0 ∧ XOk K mg W X0 G c H ∧
  ∀ b c' H' G', Q0 b c' → Gr G c H G' c' H' → SR K G' c' H' → Q b H'
def rdA (w : WA) : TA := fun σ H Q => ∃ G en c Q0 X0, SR K G c H ∧ EnR K G en σ ∧ w en c Q0 X0 ∧ XOk K mg W X0 G c H ∧
  ∀ ds c' vs H' G', Q0 ds c' → Gr G c H G' c' H' → SR K G' c' H' → Reps K G' ds vs → Q vs H'
def StK (G : Hp) (c : Cs) (H : Hp) (P : En → Cs → Prop) (Q : St → Hp → Prop) : Prop := ∀ en' c' σ' H' G', P en' c' → Gr G c H G' c' H' → SR K G' c' H' → EnR K G' en' σ' → Q σ' H'
theorem StK.more {K G c H G1 c1 H1 P Q} (h : StK K G c H P Q) (g : Gr G c H G1 c1 H1) : StK K G1 c1 H1 P Q := fun en' c' σ' H' G' p g' s e => h en' c' σ' H' G' p (g.trans g') s e
def RtK (G : Hp) (c : Cs) (H : Hp) (P : DK) (Q : VK) : Prop := ∀ d c' v H' G', P d c' → Gr G c H G' c' H' → SR K G' c' H' → Rep K G' d v → Q v H'
theorem RtK.more {K G c H G1 c1 H1 P Q} (h : RtK K G c H P Q) (g : Gr G c H G1 c1 H1) : RtK K G1 c1 H1 P Q := fun d c' v H' G' p g' s e => h d c' v H' G' p (g.trans g') s e
structure EndK (G : Hp) (c : Cs) (H : Hp) (D0 : EndD) (D : Ends) : Prop where
  nx : StK K G c H D0.nx D.nx
  rt : RtK K G c H D0.rt D.rt
  bk : StK K G c H D0.bk D.bk
  ct : StK K G c H D0.ct D.ct
def rdS (w : WS) : TS := fun D σ H => ∃ G en c D0 X0, SR K G c H ∧ EnR K G en σ ∧ w D0 X0 en c ∧ XOk K mg W X0 G c H ∧ EndK K G c H D0 D
end
theorem EndK.more {K G c H G1 c1 H1 D0 D} (h : EndK K G c H D0 D) (g : Gr G c H G1 c1 H1) : EndK K G1 c1 H1 D0 D := ⟨h.nx.more g, h.rt.more g, h.bk.more g, h.ct.more g⟩
/-- the judgements, by data -/
abbrev JE (X : Cx) (W : WX) (e : Expr) (w : WE) : Prop := PE X e (rdE X.K X.mg W w)
abbrev JT (X : Cx) (W : WX) (e : Expr) (w : WT) : Prop := PT X e (rdT X.K X.mg W w)
abbrev JA (X : Cx) (W : WX) (es : List Expr) (w : WA) : Prop := PA X es (rdA X.K X.mg W w)
abbrev JS (X : Cx) (W : WX) (st : Stmt) (w : WS) : Prop := PS X st (rdS X.K X.mg W w)
abbrev JSs (X : Cx) (W : WX) (st : List Stmt) (w : WS) : Prop := PSs X st (rdS X.K X.mg W w)
section
variable {X : Cx}
/-- another reading -/
theorem PE.of {e : Expr} {t t' : TE} (h : PE X e t) (k : ∀ σ H Q, t' σ H Q → t σ H Q) : PE X e t' := ⟨fun pins s σ H Q I q => h.run pins s σ H Q I (k σ H Q q)⟩
theorem PT.of {e : Expr} {t t' : TT} (h : PT X e t) (k : ∀ σ H Q, t' σ H Q → t σ H Q) : PT X e t' := ⟨fun pins s σ H Q I q => h.run pins s σ H Q I (k σ H Q q)⟩
theorem PW.of {e : Expr} {t t' : TT} (h : PW X e t) (k : ∀ σ H Q, t' σ H Q → t σ H Q) : PW X e t' := ⟨fun wh pins s σ H Q I q => h.run wh pins s σ H Q I (k σ H Q q)⟩
theorem PA.of {e : List Expr} {t t' : TA} (h : PA X e t) (k : ∀ σ H Q, t' σ H Q → t σ H Q) : PA X e t' := ⟨fun pos pins s σ H Q I q => h.run pos pins s σ H Q I (k σ H Q q)⟩
theorem PS.of {e : Stmt} {t t' : TS} (h : PS X e t) (k : ∀ D σ H, t' D σ H → t D σ H) : PS X e t' := ⟨fun pins s σ H D I q => h.run pins s σ H D I (k D σ H q)⟩
theorem PSs.of {e : List Stmt} {t t' : TS} (h : PSs X e t) (k : ∀ D σ H, t' D σ H → t D σ H) : PSs X e t' := ⟨fun pins s σ H D I q => h.run pins s σ H D I (k D σ H q)⟩
theorem PG.of {e : Expr} {t t' : TG} (h : PG X e t) (k : ∀ v σ H Q, t' v σ H Q → t v σ H Q) : PG X e t' := ⟨fun pins s σ H v u Q I r q => h.run pins s σ H v u Q I r (k v σ H Q q)⟩
/-- a walk's reading, the lengths known -/
theorem PI.of {tg it : Expr} {t t' : TI} (h : PI X tg it t) (k : ∀ σ H R, t' σ H R → t σ H (fun J H' => HLen X.K H' → R J H')) : PI X tg it t' := by
  refine ⟨fun pins s σ H R I q => ?_⟩
  refine thn (h.run pins s σ H _ I (k σ H R q)) fun v s1 h1 => thn h1 fun u s2 ⟨a, fp, tn, J, H', e, I', T, z1, z2, z3⟩ => ⟨a, fp, tn, J, H', e, I', T, z1, z2, z3 (hlen_of I')⟩
end
end VL
namespace VL
open PySem PySem.Spec PyProof.Rows L2
abbrev Ctr := List D → Cs → DK → XK0 → Prop
/-- a def's promise, by data; n: how many parameters -/
def spD (K : PySem.W.Frag) (mg : Str → Option Value) (n : Nat) (ct : Ctr) : Sp := fun vs H Q E => ∃ G ds c Q0 X0, SR K G c H ∧ Reps K G ds vs ∧ ds.length = n ∧ ct ds c Q0 X0 ∧ RtK K G c H Q0 Q ∧
  ∀ m d c' cls dx H' G', X0 m d c' → Gr G c H G' c' H' → SR K G' c' H' → ExcAt K mg G' H' m d cls dx → E cls dx H'
structure FnG (P : Program) (w : World) (K : PySem.W.Frag) (mg : Str → Option Value) (base : Heap) (k : Nat) (f : Addr) (fd : FuncData) (ps : List Str) (sp : Sp) : Prop where
  len : ∀ vs H Q E, sp vs H Q E → vs.length = ps.length
  run : ∀ (A : Around) (outer : List PySem.Env) (s : Shared) (H : Hp) (args : Args) (us : List Value) (vs : List V) (Q : VK) (E : XK), Room k A → A.guards = some [] → Env0 P w K mg base A outer s H →
    BindsTo s fd args (ps.zip us) → Vals vs us → sp vs H Q E → codeAny (model P w) A (.call (.ref f) args) (CR (L2.CX P w) outer P w H s Q E) s
/-- the state at a body's begin -/
def enOf (n : Nat) (ds : List D) : En := ds.map some ++ List.replicate (n - ds.length) none
theorem enOf_start {K : PySem.W.Frag} {G : Hp} {N : List Str} {ds : List D} {vs : List V} (r : Reps K G ds vs) : EnR K G (enOf N.length ds) (L2.start N vs) := by
  have hl := r.length
  refine ⟨by unfold enOf L2.start; simp [hl], fun i d e => ?_⟩
  unfold enOf at e
  by_cases hi : i < ds.length
  · rw [List.getElem?_append_left (by simpa using hi), List.getElem?_map] at e
    cases q : ds[i]? with
    | none => rw [q] at e; cases e
    | some d' =>
      rw [q] at e
      obtain rfl : d' = d := by simpa using e
      obtain ⟨v, hv, rv⟩ := r.get q
      refine ⟨v, ?_, rv⟩
      unfold L2.start
      rw [List.getElem?_append_left (by rw [List.length_map, ← hl]; exact hi), List.getElem?_map, hv]; rfl
  · rw [List.getElem?_append_right (by simpa using hi), List.getElem?_replicate] at e
    split at e <;> cases e
def endOf (Q : DK) : EndD := { nx := fun _ c' => ∃ c0, CLe c0 c' ∧ Q .non c0, rt := fun d c' => ∃ c0, CLe c0 c' ∧ Q d c0 }
def excOf (X0 : XK0) : XD := fun n d _ c' => ∃ c0, CLe c0 c' ∧ X0 n d c0
abbrev WXE (E : XK) : WX := fun cls d _ H => E cls d H
section
variable {P : Program} {w : World} {K : PySem.W.Frag} {mg : Str → Option Value} {base : Heap}
theorem fnG_of {x qual : Str} {st : Stmt} {f : Addr} {fd : FuncData} {N ps : List Str} {k : Nat} {ct : Ctr} {wb : WS} (F : Fun K x qual st f fd) (S : FnScope N ps (defScope st))
    (hb : ∀ (cdv : Value) (A : Around) (outer : List PySem.Env) (s : Shared) (H : Hp) (E : XK), Room k (A.deeper (envOfC qual (defScope st) s.heap.objs.size f cdv)) → A.guards = some [] →
      JSs (cxOf (L2.CX P w) P w K mg base N qual (defScope st) f cdv A outer s H E) (WXE E) (defBody st) wb)
    (hp : ∀ ds c Q X0, ds.length = ps.length → ct ds c Q X0 → wb (endOf Q) (excOf X0) (enOf N.length ds) c) :
    FnG P w K mg base (k + 1) f fd ps (spD K mg ps.length ct) := by
  obtain ⟨oc, od, kV, doc, pm, an, cdv, cv, osl, rfl, lk, hcd⟩ := F.ex
  have len : ∀ vs H Q E, spD K mg ps.length ct vs H Q E → vs.length = ps.length := by
    rintro vs H Q E ⟨G, ds, c, Q0, X0, _, r, e, _⟩
    rw [← r.length]; exact e
  refine ⟨len, ?_⟩
  intro A outer s H args us vs Q E hr hg e0 hbd hv hsp
  have nv : vs.length = ps.length := len _ _ _ _ hsp
  have kin : K.In s.heap := e0.mod.kin.keeps (fun b o q => (e0.bs b o q).1)
  have nolim : s.heap.NoLimit := e0.mod.nolimit.keeps (fun b o q => (e0.bs b o q).1)
  refine codeAny_call_function hr.depth (kin _ _ lk) rfl S.co S.gen rfl (PySem.W.codeRec_of kin hcd) (hbd _ _ _ _ ?_)
  refine wpAny_newFunctionEnv_cells S.kind ?_ ?_
  · rintro ⟨y, u⟩ hy
    exact (S.par y (List.of_mem_zip hy).1).imp id fun q => ⟨q, PySem.W.cellsFrom_some _ _ _ (.inl q)⟩
  intro env he s1 ic
  subst he
  refine ⟨nolim.keeps ic.toInCall.keep, codeAny_func ?_⟩
  have I := inv_start (CX := L2.CX P w) (E := E) S hr.hd e0 nv hv ic
  obtain ⟨G, ds, c, Q0, X0, sr, rp, dl, hc, hq, hx⟩ := hsp
  have body := hb cdv A outer s H E (hr.deeper _) hg
  have want : rdS K mg (WXE E) wb { nx := fun _ H' => Q .non H', rt := Q } (L2.start N vs) H := by
    refine ⟨G, _, c, _, _, sr, enOf_start rp, hp ds c Q0 X0 dl hc, ?_, ⟨?_, ?_, ?_, ?_⟩⟩
    · rintro m d en' c' cls dx σ' H' G' ⟨c0, le, q⟩ g s2 _ ea
      exact hx m d c0 cls dx H' G' q (g.less le) (s2.less le) ea
    · rintro en' c' σ' H' G' ⟨c0, le, q⟩ g s2 _
      exact hq _ c0 _ H' G' q (g.less le) (s2.less le) rfl
    · rintro d c' v H' G' ⟨c0, le, q⟩ g s2 r2
      exact hq d c0 v H' G' q (g.less le) (s2.less le) r2
    · rintro en' c' σ' H' G' q _ _ _
      exact q.elim
    · rintro en' c' σ' H' G' q _ _ _
      exact q.elim
  refine wpAny_mono (body.run [] s1 (L2.start N vs) H _ I want) ?_ (fun e s' z => z)
  intro fl s' z
  cases fl with
  | ret u => obtain ⟨v, _, H', J, rv, q⟩ := z; exact ⟨v, H', J.os, J.bare, J.base, J.hok, rv, q⟩
  | next => obtain ⟨_, H', J, q⟩ := z; exact ⟨V.non, H', J.os, J.bare, J.base, J.hok, rfl, q⟩
  | brk => obtain ⟨_, _, _, q⟩ := z; cases q
  | cont => obtain ⟨_, _, _, q⟩ := z; cases q
end
/-- at level k a contract one below is at hand -/
def lvl (ct : Nat → Ctr) : Nat → Ctr
  | 0 => fun _ _ _ _ => False
  | k + 1 => ct k
/-- a def that may be called by the module's name x -/
def Cal (P : Program) (w : World) (K : PySem.W.Frag) (mg : Str → Option Value) (base : Heap) (k : Nat) (x : Str) (n : Nat) (ct : Nat → Ctr) : Prop :=
  ∃ f fd ps, mg x = some (.ref f) ∧ PySem.W.keepIn K (.ref f) = true ∧ Binds K fd ps [] ∧ ps.length = n ∧ FnG P w K mg base k f fd ps (spD K mg n (lvl ct k))
def wVar (i : Nat) : WE := fun en c Q _ => match en[i]? with
  | some (some d) => Q d c
  | _ => False
def wC (d : D) : WE := fun _ c Q _ => Q d c
section
variable {X : Cx} {W : WX} {a b e : Expr} {es : List Expr} {wa wb we : WE} {ws : WA} {pos : Pos} {k : Nat}
theorem je_var (i : Nat) {x : Str} (hN : X.N[i]? = some x := by rfl) (hv : Vis X.env.scope x := by first | exact Or.inl rfl | exact Or.inr (Or.inl rfl) | exact Or.inr (Or.inr rfl)) (hd : (x == ("__debug__" : Str)) = false := by decide)
    (hcd : (x == ("__classdict__" : Str)) = false := by decide) : JE X W (.Name x pos) (wVar i) := by
  refine PE.of (pe_var hN hv hd hcd) ?_
  rintro σ H Q ⟨G, en, c, Q0, X0, s, er, q, x0, kk⟩
  unfold wVar at q
  split at q
  · rename_i d hd
    obtain ⟨v, hv, r⟩ := er.2 i d hd
    exact ⟨v, hv, kk d c v H G q Gr.refl s r⟩
  · exact q.elim
theorem je_c {d : D} {v : V} (h : PE X e (tC v)) (r : ∀ K G, Rep K G d v) : JE X W e (wC d) := by
  refine PE.of h ?_
  rintro σ H Q ⟨G, en, c, Q0, X0, s, er, q, x0, kk⟩
  exact kk d c v H G q Gr.refl s (r _ _)
theorem je_int {i : Int} {j : Nat} : JE X W (.Constant (.int i) j pos) (wC (.int i)) := je_c pe_int fun _ _ => rfl
theorem je_bl {i : Bool} {j : Nat} : JE X W (.Constant (.bool i) j pos) (wC (.bl i)) := je_c pe_bl fun _ _ => rfl
theorem je_non {j : Nat} : JE X W (.Constant .none j pos) (wC .non) := je_c pe_non fun _ _ => rfl
theorem je_str {x : Str} {j : Nat} : JE X W (.Constant (.str x) j pos) (wC (.str x)) := je_c pe_str fun _ _ => rfl
abbrev Op1 := D → Cs → DK → Prop
abbrev Op2 := D → D → Cs → DK → Prop
/-- an operation by data is served by a reading over the heap -/
def Fin_ (K : PySem.W.Frag) (G : Hp) (c : Cs) (H : Hp) (Q0 : DK) (Q : VK) : Prop := ∀ d c' v H' G', Q0 d c' → Gr G c H G' c' H' → SR K G' c' H' → Rep K G' d v → Q v H'
def Op2R (X : Cx) (f : Value → Value → Sem Value) (o : Op2) : Prop := ∃ r : R2, OpR X f r ∧
  ∀ G c H x y v u Q0 Q, SR X.K G c H → Rep X.K G x v → Rep X.K G y u → o x y c Q0 → Fin_ X.K G c H Q0 Q → r v u H Q
def wBin (o : Op2) (wa wb : WE) : WE := fun en c Q X => wa en c (fun x c1 => wb en c1 (fun y c2 => o x y c2 Q) X) X
theorem rd_bin {o : Op2} {r : R2} (hr : ∀ G c H x y v u Q0 Q, SR X.K G c H → Rep X.K G x v → Rep X.K G y u → o x y c Q0 → Fin_ X.K G c H Q0 Q → r v u H Q)
    {σ : L2.St} {H : Hp} {Q : VK} {G : Hp} {en : En} {c : Cs} {Q0 : DK} {X0 : XD} (s : SR X.K G c H) (er : EnR X.K G en σ) (q : wBin o wa wb en c Q0 X0) (x0 : XOk X.K X.mg W X0 G c H) (kk : Fin_ X.K G c H Q0 Q) :
    tOp r (rdE X.K X.mg W wa) (rdE X.K X.mg W wb) σ H Q := by
  refine ⟨G, en, c, _, X0, s, er, q, x0, fun d1 c1 v1 H1 G1 q1 g1 s1 r1 => ?_⟩
  refine ⟨G1, en, c1, _, X0, s1, er.mono g1.g, q1, x0.more g1, fun d2 c2 v2 H2 G2 q2 g2 s2 r2 => ?_⟩
  exact hr G2 c2 H2 d1 d2 v1 v2 Q0 Q s2 (Rep.mono g2.g _ _ r1) r2 q2 fun d c' v H' G' z g s' r => kk d c' v H' G' z ((g1.trans g2).trans g) s' r
theorem je_bin {op : Operator} {o : Op2} (ho : Op2R X (binaryOp op) o) (ha : JE X W a wa) (hb : JE X W b wb) : JE X W (.BinOp a op b pos) (wBin o wa wb) := by
  obtain ⟨r, h1, h2⟩ := ho
  exact PE.of (pe_op h1 ha hb) fun σ H Q ⟨G, en, c, Q0, X0, s, er, q, x0, kk⟩ => rd_bin h2 s er q x0 fun d c' v H' G' z g s' r => kk d c' v H' G' z g s' r
theorem je_cmp {op : CmpOp} {o : Op2} (ho : Op2R X (compareOp op) o) (ha : JE X W a wa) (hb : JE X W b wb) (hm : behindInMarks op b = false := by rfl) : JE X W (.Compare a [op] [b] pos) (wBin o wa wb) := by
  obtain ⟨r, h1, h2⟩ := ho
  exact PE.of (pe_cmpR h1 ha hb hm) fun σ H Q ⟨G, en, c, Q0, X0, s, er, q, x0, kk⟩ => rd_bin h2 s er q x0 fun d c' v H' G' z g s' r => kk d c' v H' G' z g s' r
def wUn (o : Op1) (wa : WE) : WE := fun en c Q X => wa en c (fun x c1 => o x c1 Q) X
def onB (Q : Bool → Cs → Prop) : DK := fun d c' => match d with
  | .bl b => Q b c'
  | _ => False
theorem onB_bl {Q : Bool → Cs → Prop} {d : D} {c : Cs} (h : onB Q d c) : ∃ b, d = .bl b ∧ Q b c := by
  cases d <;> first
    | exact h.elim
    | exact ⟨_, rfl, h⟩
def wTst (w : WE) : WT := fun en c Q X => w en c (onB Q) X
theorem jt_val (ha : JE X W a wa) (he : ∀ whole, isTrue a X.env whole = (do let v ← whole; standAt a.pos; holding [v] (truthy v)) := by intro _; rfl) : JT X W a (wTst wa) := by
  refine PT.of (pt_val ha he) fun σ H Q ⟨G, en, c, Q0, X0, s, er, q, x0, kk⟩ => ?_
  refine ⟨G, en, c, _, X0, s, er, q, x0, fun d1 c1 v1 H1 G1 q1 g1 s1 r1 => ?_⟩
  obtain ⟨b, rfl, q1⟩ := onB_bl q1
  exact ⟨b, r1, kk b c1 H1 G1 q1 g1 s1⟩
theorem jt_cmp {op : CmpOp} {o : Op2} (ho : Op2R X (compareOp op) o) (ha : JE X W a wa) (hb : JE X W b wb) (hm : behindInMarks op b = false := by rfl) : JT X W (.Compare a [op] [b] pos) (wTst (wBin o wa wb)) := by
  obtain ⟨r, h1, h2⟩ := ho
  refine PT.of (pt_cmpR h1 ha hb hm) fun σ H Q ⟨G, en, c, Q0, X0, s, er, q, x0, kk⟩ => ?_
  refine rd_bin h2 s er q x0 fun d c' v H' G' z g s' r => ?_
  obtain ⟨b, rfl, z⟩ := onB_bl z
  exact ⟨b, r, kk b c' H' G' z g s'⟩
def wNot (t : WT) : WT := fun en c Q X => t en c (fun b c' => Q (!b) c') X
def wAnd (t u : WT) : WT := fun en c Q X => t en c (fun b c' => if b = true then u en c' Q X else Q false c') X
def wOr (t u : WT) : WT := fun en c Q X => t en c (fun b c' => if b = true then Q true c' else u en c' Q X) X
variable {ta tb : WT} {rest : List Expr}
theorem jt_not (ha : JT X W a ta) : JT X W (.UnaryOp .Not a pos) (wNot ta) := by
  refine PT.of (pt_not ha) fun σ H Q ⟨G, en, c, Q0, X0, s, er, q, x0, kk⟩ => ?_
  exact ⟨G, en, c, _, X0, s, er, q, x0, fun b c' H' G' z g s' => kk (!b) c' H' G' z g s'⟩
abbrev JW (X : Cx) (W : WX) (e : Expr) (w : WT) : Prop := PW X e (rdT X.K X.mg W w)
theorem JW.jt (h : JW X W e ta) : JT X W e ta := PW.pt h
theorem jw_or1 (ha : JT X W a ta) : JW X W (.BoolOp .Or [a] pos) ta := pw_or1 ha
theorem jw_or (ha : JT X W a ta) (hb : JW X W (.BoolOp .Or (b :: rest) pos) tb) : JW X W (.BoolOp .Or (a :: b :: rest) pos) (wOr ta tb) := by
  refine PW.of (pw_or ha hb) fun σ H Q ⟨G, en, c, Q0, X0, s, er, q, x0, kk⟩ => ?_
  refine ⟨G, en, c, _, X0, s, er, q, x0, fun d1 c1 H1 G1 q1 g1 s1 => ?_⟩
  cases d1 with
  | true =>
    refine iteT ?_
    exact kk true c1 H1 G1 (by simpa [onB] using q1) g1 s1
  | false => exact iteF ⟨G1, en, c1, _, X0, s1, er.mono g1.g, by simpa [onB] using q1, x0.more g1, fun d c' H' G' z g s' => kk d c' H' G' z (g1.trans g) s'⟩
/-- and, or, not of truths, as values -/
def wAndV (wa wb : WE) : WE := fun en c Q X => wa en c (onB fun b c' => if b = true then wb en c' Q X else Q (.bl false) c') X
def wOrV (wa wb : WE) : WE := fun en c Q X => wa en c (onB fun b c' => if b = true then Q (.bl true) c' else wb en c' Q X) X
def wNotV (wa : WE) : WE := fun en c Q X => wa en c (onB fun b c' => Q (.bl (!b)) c') X
theorem je_one {op : BoolOp} (h : JE X W a wa) : JE X W (.BoolOp op [a] pos) wa := pe_one h
theorem je_and (ha : JE X W a wa) (hb : JE X W (.BoolOp .And (b :: rest) pos) wb) : JE X W (.BoolOp .And (a :: b :: rest) pos) (wAndV wa wb) := by
  refine PE.of (pe_and ha hb) fun σ H Q ⟨G, en, c, Q0, X0, s, er, q, x0, kk⟩ => ?_
  refine ⟨G, en, c, _, X0, s, er, q, x0, fun d1 c1 v1 H1 G1 q1 g1 s1 r1 => ?_⟩
  obtain ⟨t, rfl, q1⟩ := onB_bl q1
  refine ⟨t, r1, ?_⟩
  cases t with
  | true => exact iteT ⟨G1, en, c1, _, X0, s1, er.mono g1.g, by simpa [onB] using q1, x0.more g1, fun d c' v H' G' z g s' r => kk d c' v H' G' z (g1.trans g) s' r⟩
  | false =>
    refine iteF ?_
    exact kk (.bl false) c1 _ H1 G1 (by simpa [onB] using q1) g1 s1 rfl
def wIf (t : WT) (wa wb : WE) : WE := fun en c Q X => t en c (fun b c' => if b = true then wa en c' Q X else wb en c' Q X) X
theorem je_ifx {t : Expr} (ht : JT X W t ta) (ha : JE X W a wa) (hb : JE X W b wb) : JE X W (.IfExp t a b pos) (wIf ta wa wb) := by
  refine PE.of (pe_ifExp ht ha hb) fun σ H Q ⟨G, en, c, Q0, X0, s, er, q, x0, kk⟩ => ?_
  refine ⟨G, en, c, _, X0, s, er, q, x0, fun d1 c1 H1 G1 q1 g1 s1 => ?_⟩
  cases d1 with
  | true => exact iteT ⟨G1, en, c1, _, X0, s1, er.mono g1.g, by simpa [onB] using q1, x0.more g1, fun d c' v H' G' z g s' r => kk d c' v H' G' z (g1.trans g) s' r⟩
  | false => exact iteF ⟨G1, en, c1, _, X0, s1, er.mono g1.g, by simpa [onB] using q1, x0.more g1, fun d c' v H' G' z g s' r => kk d c' v H' G' z (g1.trans g) s' r⟩
def wNil : WA := fun _ c Q _ => Q [] c
def wCons (w : WE) (ws : WA) : WA := fun en c Q X => w en c (fun d c1 => ws en c1 (fun ds c2 => Q (d :: ds) c2) X) X
theorem ja_nil : JA X W [] wNil := PA.of pa_nil fun σ H Q ⟨G, en, c, Q0, X0, s, er, q, x0, kk⟩ => kk [] c [] H G q Gr.refl s rfl
theorem ja_cons (he : JE X W e we) (hs : JA X W es ws) (h : starEach (e :: es) X.env = (false, eval e X.env) :: starEach es X.env := by rfl) : JA X W (e :: es) (wCons we ws) := by
  refine PA.of (pa_cons he hs h) fun σ H Q ⟨G, en, c, Q0, X0, s, er, q, x0, kk⟩ => ?_
  refine ⟨G, en, c, _, X0, s, er, q, x0, fun d1 c1 v1 H1 G1 q1 g1 s1 r1 => ?_⟩
  exact ⟨G1, en, c1, _, X0, s1, er.mono g1.g, q1, x0.more g1, fun ds c' vs H' G' z g s' r => kk _ c' _ H' G' z (g1.trans g) s' ⟨v1, vs, rfl, Rep.mono g.g _ _ r1, r⟩⟩
def wTup (ws : WA) : WE := fun en c Q X => ws en c (fun ds c1 => ds.length ≤ sizeLine ∧ Q (.tup ds) c1) X
/-- a list display whose list stays as it is; one that lives -/
def wLst (ws : WA) : WE := fun en c Q X => ws en c (fun ds c1 => ds.length ≤ sizeLine ∧ Q (.lst ds) c1) X
def wLstL (ws : WA) : WE := fun en c Q X => ws en c (fun ds c1 => ds.length ≤ sizeLine ∧ ∀ p, c1 p = none → Q (.ptr p) (cup c1 p (.lst ds))) X
theorem je_tup {x1 : Nat} (h : JA X W es ws) : JE X W (.Tuple es x1 pos) (wTup ws) := by
  refine PE.of (pe_tup h) fun σ H Q ⟨G, en, c, Q0, X0, s, er, q, x0, kk⟩ => ?_
  refine ⟨G, en, c, _, X0, s, er, q, x0, fun ds c1 vs H1 G1 ⟨z, q1⟩ g1 s1 r1 => ⟨by rw [← r1.length]; exact z, fun p hp => ?_⟩⟩
  obtain ⟨s2, g2⟩ := s1.newG hp
  exact kk _ c1 _ _ _ q1 (g1.trans g2) s2 ⟨p, vs, rfl, TupAt.of upd_same, Reps.mono g2.g _ _ r1⟩
theorem je_lst (h : JA X W es ws) : JE X W (.List es pos) (wLst ws) := by
  refine PE.of (pe_lst h) fun σ H Q ⟨G, en, c, Q0, X0, s, er, q, x0, kk⟩ => ?_
  refine ⟨G, en, c, _, X0, s, er, q, x0, fun ds c1 vs H1 G1 ⟨z, q1⟩ g1 s1 r1 => ⟨by rw [← r1.length]; exact z, fun p hp => ?_⟩⟩
  obtain ⟨s2, g2⟩ := s1.newG hp
  exact kk _ c1 _ _ _ q1 (g1.trans g2) s2 ⟨p, vs, rfl, upd_same, Reps.mono g2.g _ _ r1⟩
theorem je_lstL (h : JA X W es ws) : JE X W (.List es pos) (wLstL ws) := by
  refine PE.of (pe_lst h) fun σ H Q ⟨G, en, c, Q0, X0, s, er, q, x0, kk⟩ => ?_
  refine ⟨G, en, c, _, X0, s, er, q, x0, fun ds c1 vs H1 G1 ⟨z, q1⟩ g1 s1 r1 => ⟨by rw [← r1.length]; exact z, fun p hp => ?_⟩⟩
  obtain ⟨hc, hg⟩ := s1.free hp
  obtain ⟨s2, g2⟩ := s1.newL (y := .lst ds) hp ⟨hg, vs, upd_same, r1⟩
  exact kk _ _ _ _ _ (q1 p hc) (g1.trans g2) s2 rfl
/-- a value that was live is told as one that stays -/
def wFz (w : WE) : WE := fun en c Q X => w en c (fun d c1 => match d with
  | .ptr p => match c1 p with
    | some (.lst ds) => Q (.lst ds) (cup c1 p (.fz ds))
    | some (.fz ds) => Q (.lst ds) c1
    | _ => False
  | d => Q d c1) X
theorem je_fz (h : JE X W e we) : JE X W e (wFz we) := by
  refine PE.of h fun σ H Q ⟨G, en, c, Q0, X0, s, er, q, x0, kk⟩ => ?_
  refine ⟨G, en, c, _, X0, s, er, q, x0, fun d1 c1 v1 H1 G1 q1 g1 s1 r1 => ?_⟩
  cases d1 with
  | ptr p =>
    dsimp only at q1
    split at q1
    · rename_i ds hd
      obtain ⟨vs, rv, s2, g2⟩ := s1.freeze hd
      exact kk _ _ _ _ _ q1 (g1.trans g2) s2 ⟨p, vs, r1, upd_same, Reps.mono g2.g _ _ rv⟩
    · rename_i ds hd
      obtain ⟨vs, e1, e2⟩ := s1.at_ _ _ hd
      exact kk _ _ _ _ _ q1 g1 s1 ⟨p, vs, r1, e1, e2⟩
    · exact q1.elim
  | _ => exact kk _ _ _ _ _ q1 g1 s1 r1
/-- a def of the module is called -/
def wCall (n : Nat) (ct : Nat → Ctr) (k : Nat) (ws : WA) : WE := fun en c Q X => ws en c (fun ds c1 => ds.length = n ∧ lvl ct k ds c1 Q (fun n d c2 => X n d en c2)) X
theorem run_fnG {x : Str} {n : Nat} {f : Addr} {fd : FuncData} {ps : List Str} {sp : Sp} {pins : List (Addr × Obj)} {σ : L2.St} {H : Hp} {s : Shared} {Q : VK} {E : XK} {us : List Value} {vs : List V} (F : FnG X.prog X.w X.K X.mg X.base k f fd ps sp) (hr : Room k X.A) (hg : X.A.guards = some [])
    (hb : Binds X.K fd ps []) (hx : PassesAt (L2.CX X.prog X.w) X σ E) (I : Inv X pins σ H s) (r : Vals vs us) (h : sp vs H Q E) : wpAny (model X.prog X.w) X.A (call (.ref f) us) (EP X pins σ Q) X.xe s := by
  have nl : us.length = ps.length := r.length.symm.trans (F.len vs H Q E h)
  have bd := hb s us I.kIn (by rw [List.append_nil]; exact nl)
  rw [List.append_nil] at bd
  refine wpAny_call (codeAny_mono (F.run X.A X.stack s H ⟨us, []⟩ us vs Q E hr hg I.env0 bd r h) ?_)
  rintro (e | fl) s' z
  · exact hx pins H s e s' I z
  · cases fl <;> first
      | exact False.elim z
      | exact I.after z
theorem je_call {x : Str} {n : Nat} {ct : Nat → Ctr} {p : Pos} (cl : Cal X.prog X.w X.K X.mg X.base k x n ct) (hr : Room k X.A) (hg : X.A.guards = some []) (tk : Takes X W) (ha : JA X W (e :: es) ws) (hgl : Gl X x := by rfl)
    (hdb : (x == ("__debug__" : Str)) = false := by decide) (he : starEach (e :: es) X.env = (false, eval e X.env) :: starEach es X.env := by rfl) (hpl : (backTo pos (starEach es X.env)).any (·.1) = false := by rfl) :
    JE X W (.Call (.Name x p) (e :: es) [] pos) (wCall n ct k ws) := by
  obtain ⟨f, fd, ps, hm, hk, hb, hl, F⟩ := cl
  refine ⟨fun pins s0 σ H Q I ⟨G, en, c, Q0, X0, s, er, q, x0, kk⟩ => ?_⟩
  refine wpAny_Call_Name_kw (ld_glob I hgl hm ?_ hdb)
  refine PySem.W.callWith_K (h₀ := X.base) I.ok.mod.kin hk ?_ he hpl
  refine thn (ha.run pos pins s0 σ H (fun vs H1 => spD X.K X.mg n (lvl ct k) vs H1 Q (L2.WE W σ)) I ?_) fun us s1 ⟨vs, H1, I1, r, z⟩ => ⟨I1.kIn, ?_⟩
  · refine ⟨G, en, c, fun ds c1 => ds.length = n ∧ lvl ct k ds c1 Q0 (fun n d c2 => X0 n d en c2), X0, s, er, q, x0, fun ds c1 vs H1 G1 ⟨hlen, q1⟩ g1 s1 r1 => ?_⟩
    · refine ⟨G1, ds, c1, Q0, _, s1, r1, hlen, q1, fun d c' v H' G' z g s' r' => kk d c' v H' G' z (g1.trans g) s' r', ?_⟩
      intro m d c' cls dx H' G' z g s' ea
      exact x0 m d en c' cls dx σ H' G' z (g1.trans g) s' (er.mono (g1.trans g).g) ea
  · refine thn (run_fnG (x := x) (n := n) F hr hg hb (passAt tk σ) I1 r z) fun u s2 z => z
end
end VL
namespace VL
open PySem PySem.Spec PyProof.Rows L2
/-- the items of a list that is tracked as one -/
def lstOf (c : Cs) : D → Option (List D)
  | .lst l => some l
  | .ptr p => match c p with
    | some (.lst l) => some l
    | some (.fz l) => some l
    | _ => none
  | _ => none
/-- the items of a list, the script, a tuple -/
def seqOf (c : Cs) : D → Option (List D)
  | .tup l => some l
  | .scr ns => some (ns.map .int)
  | d => lstOf c d
def isTup : D → Bool
  | .tup _ => true
  | _ => false
section
variable {K : PySem.W.Frag} {G : Hp} {c : Cs} {H : Hp}
theorem lst_at {d : D} {v : V} {l : List D} (s : SR K G c H) (r : Rep K G d v) (h : lstOf c d = some l) : ∃ a vs, v = .ref a ∧ H a = some (.lst vs) ∧ Reps K G l vs := by
  cases d with
  | lst l' =>
    obtain ⟨a, vs, e, h1, h2⟩ := r
    cases h
    exact ⟨a, vs, e, s.sub _ _ h1, h2⟩
  | ptr p =>
    have e : v = .ref p := r
    have h : (match c p with | some (.lst l) => some l | some (.fz l) => some l | _ => none) = some l := h
    cases hc : c p with
    | none => rw [hc] at h; cases h
    | some x =>
      rw [hc] at h
      cases x with
      | lst l' =>
        cases h
        obtain ⟨_, vs, h1, h2⟩ := s.at_ _ _ hc
        exact ⟨p, vs, e, h1, h2⟩
      | fz l' =>
        cases h
        obtain ⟨vs, h1, h2⟩ := s.at_ _ _ hc
        exact ⟨p, vs, e, s.sub _ _ h1, h2⟩
      | dic l' => cases h
      | dit l' => cases h
      | obj C fs => cases h
      | exc _ _ _ => cases h
      | tab _ => cases h
      | fn _ _ => cases h
  | _ => cases h
theorem seq_at {d : D} {v : V} {l : List D} (s : SR K G c H) (r : Rep K G d v) (h : seqOf c d = some l) : ∃ a vs, v = .ref a ∧ Reps K G l vs ∧ ((isTup d = true ∧ SqT K H a vs) ∨ (isTup d = false ∧ SqL K H a vs)) := by
  have ll : lstOf c d = some l → isTup d = false → ∃ a vs, v = .ref a ∧ Reps K G l vs ∧ ((isTup d = true ∧ SqT K H a vs) ∨ (isTup d = false ∧ SqL K H a vs)) := fun h1 h2 => by
    obtain ⟨a, vs, e, h3, h4⟩ := lst_at s r h1
    exact ⟨a, vs, e, h4, .inr ⟨h2, SqL.of h3⟩⟩
  cases d <;> first
    | exact ll h rfl
    | skip
  · obtain ⟨a, vs, e, h1, h2⟩ := r
    cases h
    exact ⟨a, vs, e, h2, .inl ⟨rfl, s.sub.sqT h1.sq⟩⟩
  · obtain ⟨a, e, h1⟩ := r
    cases h
    exact ⟨a, _, e, Reps.ints.mpr rfl, .inr ⟨rfl, s.sub.sqL h1⟩⟩
theorem seq_len {d : D} {v : V} {l : List D} (s : SR K G c H) (hl : HLen K H) (r : Rep K G d v) (h : seqOf c d = some l) : l.length ≤ sizeLine := by
  obtain ⟨a, vs, e, h1, h2⟩ := seq_at s r h
  rw [h1.length]
  rcases h2 with ⟨_, h2⟩ | ⟨_, h2⟩
  · exact hl.2 _ _ h2
  · exact hl.1 _ _ h2
end
def MulOk (i j : Int) : Prop := CMul i j ∨ CMulW i j
section
variable {X : Cx}
theorem mulOk_r : OpR X (binaryOp .Mult) (rI MulOk fun i j => .int (i * j)) := fun pins s σ H x y v u Q I rx ry ⟨i, j, e1, e2, h, q⟩ => by
  rcases h with h | h
  · exact op_mul pins s σ H x y v u Q I rx ry ⟨i, j, e1, e2, h, q⟩
  · exact op_mulW pins s σ H x y v u Q I rx ry ⟨i, j, e1, e2, h, q⟩
/-- what an operation on two ints is by data -/
def oII (C : Int → Int → Prop) (g : Int → Int → D) : Op2 := fun x y c Q => match x, y with
  | .int i, .int j => C i j ∧ Q (g i j) c
  | _, _ => False
theorem oII_r {f : Value → Value → Sem Value} {C : Int → Int → Prop} {g : Int → Int → D} {g' : Int → Int → V} (h : OpR X f (rI C g')) (hg : ∀ i j K G, Rep K G (g i j) (g' i j)) : Op2R X f (oII C g) := by
  refine ⟨_, h, ?_⟩
  intro G c H x y v u Q0 Q s rx ry q k
  unfold oII at q
  split at q
  · rename_i i j
    exact ⟨i, j, rx, ry, q.1, k _ c _ H G q.2 Gr.refl s (hg _ _ _ _)⟩
  · exact q.elim
theorem rI_of {f : Value → Value → Sem Value} {g' : Int → Int → V} (h : OpR X f (rI0 g')) : OpR X f (rI (fun _ _ => True) g') :=
  fun pins s σ H x y v u Q I rx ry ⟨i, j, e1, e2, _, q⟩ => h pins s σ H x y v u Q I rx ry ⟨i, j, e1, e2, q⟩
def oSub : Op2 := oII (fun _ _ => True) fun i j => .int (i - j)
theorem r_sub : Op2R X (binaryOp .Sub) oSub := oII_r (rI_of op_sub) fun _ _ _ _ => rfl
def oFdiv : Op2 := oII (fun _ j => 0 < j ∧ j.natAbs.log2 < 9000) fun i j => .int (i / j)
theorem r_fdiv : Op2R X (binaryOp .FloorDiv) oFdiv := oII_r op_fdivW fun _ _ _ _ => rfl
def oMod : Op2 := oII (fun _ j => 0 < j) fun i j => .int (i % j)
theorem r_mod : Op2R X (binaryOp .Mod) oMod := oII_r op_mod fun _ _ _ _ => rfl
def oPow : Op2 := oII (fun i j => 0 ≤ j ∧ j ≤ 1000000 ∧ i.natAbs < 2 ^ 64) fun i j => .int (i ^ j.toNat)
theorem r_pow : Op2R X (binaryOp .Pow) oPow := oII_r op_pow fun _ _ _ _ => rfl
def oLt : Op2 := oII (fun _ _ => True) fun i j => .bl (decide (i < j))
theorem r_lt : Op2R X (compareOp .Lt) oLt := oII_r (rI_of op_lt) fun _ _ _ _ => rfl
def oLe : Op2 := oII (fun _ _ => True) fun i j => .bl (decide (i ≤ j))
def oGt : Op2 := oII (fun _ _ => True) fun i j => .bl (decide (j < i))
theorem r_gt : Op2R X (compareOp .Gt) oGt := oII_r (rI_of op_gt) fun _ _ _ _ => rfl
def oGe : Op2 := oII (fun _ _ => True) fun i j => .bl (decide (j ≤ i))
theorem r_ge : Op2R X (compareOp .GtE) oGe := oII_r (rI_of op_ge) fun _ _ _ _ => rfl
def oNeg : Op1 := fun x c Q => match x with
  | .int i => Q (.int (-i)) c
  | _ => False
def oAdd : Op2 := fun x y c Q => match x, y with
  | .int i, .int j => Q (.int (i + j)) c
  | .str i, .str j => i.length + j.length ≤ sizeLine ∧ Q (.str (i ++ j)) c
  | .tup a, .tup b => a.length + b.length ≤ sizeLine ∧ Q (.tup (a ++ b)) c
  | x, y => match lstOf c x, lstOf c y with
    | some a, some b => a.length + b.length ≤ sizeLine ∧ Q (.lst (a ++ b)) c
    | _, _ => False
theorem r_add : Op2R X (binaryOp .Add) oAdd := by
  refine ⟨_, op_add.or (op_add_str.or (op_catA.or op_cat)), ?_⟩
  intro G c H x y v u Q0 Q s rx ry q k
  unfold oAdd at q
  split at q
  · exact .inl ⟨_, _, rx, ry, k _ c _ H G q Gr.refl s rfl⟩
  · exact .inr (.inl ⟨_, _, rx, ry, q.1, k _ c _ H G q.2 Gr.refl s rfl⟩)
  · rename_i a b
    obtain ⟨z, q⟩ := q
    obtain ⟨p1, vs, e1, h1, t1⟩ := rx
    obtain ⟨p2, ws, e2, h2, t2⟩ := ry
    refine .inr (.inr (.inl ⟨p1, p2, vs, ws, e1, e2, s.sub.sqT h1.sq, s.sub.sqT h2.sq, by rw [← t1.length, ← t2.length]; exact z, fun hn => ?_, fun _ hn => ?_, fun _ _ p hp => ?_⟩))
    · refine k _ c _ H G q Gr.refl s ⟨p2, ws, rfl, h2, ?_⟩
      have e : a = [] := List.eq_nil_of_length_eq_zero (by rw [t1.length, hn]; rfl)
      subst e
      exact t2
    · refine k _ c _ H G q Gr.refl s ⟨p1, vs, rfl, h1, ?_⟩
      have e : b = [] := List.eq_nil_of_length_eq_zero (by rw [t2.length, hn]; rfl)
      subst e
      rw [List.append_nil]
      exact t1
    · obtain ⟨hc, hg⟩ := s.free hp
      obtain ⟨s2, g2⟩ := s.newG (o := HO.tup (vs ++ ws)) hp
      exact k _ c _ _ _ q g2 s2 ⟨p, _, rfl, TupAt.of upd_same, Reps.app (Reps.mono g2.g _ _ t1) (Reps.mono g2.g _ _ t2)⟩
  · split at q
    · rename_i a b ha hb
      obtain ⟨z, q⟩ := q
      obtain ⟨p1, vs, e1, h1, t1⟩ := lst_at s rx ha
      obtain ⟨p2, ws, e2, h2, t2⟩ := lst_at s ry hb
      refine .inr (.inr (.inr ⟨p1, p2, vs, ws, e1, e2, h1, h2, by rw [← t1.length, ← t2.length]; exact z, fun p hp => ?_⟩))
      obtain ⟨hc, hg⟩ := s.free hp
      obtain ⟨s2, g2⟩ := s.newG (o := HO.lst (vs ++ ws)) hp
      exact k _ c _ _ _ q g2 s2 ⟨p, _, rfl, upd_same, Reps.app (Reps.mono g2.g _ _ t1) (Reps.mono g2.g _ _ t2)⟩
    · exact q.elim
end
end VL
namespace VL
open PySem PySem.Spec PyProof.Rows L2
mutual
def toP : D → PyData
  | .non => .none
  | .bl b => .bool b
  | .int i => .int i
  | .str x => .str x
  | .tup l => .tuple (toPs l)
  | .lst l => .list (toPs l)
  | .ptr _ => .dict []
  | .scr _ => .dict []
  | .ty _ => .dict []
def toPs : List D → List PyData
  | [] => []
  | d :: ds => toP d :: toPs ds
end
/-- data that may be compared: no live things in it, texts of true signs, not too deep -/
def okD (d : D) : Prop := SeqAt.shaped (toP d) = true
def deq (x y : D) : Bool := PyData.eqv (toP x) (toP y)
mutual
theorem dp_of {K : PySem.W.Frag} {G : Hp} : ∀ (d : D) (v : V), (toP d).canLay0 = true → Rep K G d v → Dp K G v (toP d)
  | .non, _, _, h => by cases h; exact .non
  | .bl b, _, _, h => by cases h; exact .bl b
  | .int i, _, _, h => by cases h; exact .int i
  | .str x, _, _, h => by cases h; exact .str x
  | .tup l, v, k, h => by
    obtain ⟨a, vs, rfl, h1, h2⟩ := h
    exact .tup h1.sq (dps_of l vs (by simpa [toP, PyData.canLay0] using k) h2)
  | .lst l, v, k, h => by
    obtain ⟨a, vs, rfl, h1, h2⟩ := h
    exact .lst (SqL.of h1) (dps_of l vs (by simpa [toP, PyData.canLay0] using k) h2)
  | .ptr _, _, k, _ => by simp [toP, PyData.canLay0] at k
  | .scr _, _, k, _ => by simp [toP, PyData.canLay0] at k
  | .ty _, _, k, _ => by simp [toP, PyData.canLay0] at k
theorem dps_of {K : PySem.W.Frag} {G : Hp} : ∀ (l : List D) (vs : List V), PyData.canLayAll0 (toPs l) = true → Reps K G l vs → DpAll K G vs (toPs l)
  | [], _, _, h => by cases h; exact .nil
  | d :: ds, _, k, h => by
    obtain ⟨v, r, rfl, h1, h2⟩ := h
    have k : (toP d).canLay0 = true ∧ PyData.canLayAll0 (toPs ds) = true := by simpa [toPs, PyData.canLayAll0] using k
    exact .cons (dp_of d v k.1 h1) (dps_of ds r k.2 h2)
end
/-- a live list read as data -/
def rdv (c : Cs) : D → D
  | .ptr p => match c p with
    | some (.lst l) => .lst l
    | some (.fz l) => .lst l
    | _ => .ptr p
  | d => d
section
variable {K : PySem.W.Frag} {G : Hp} {c : Cs} {H : Hp}
theorem rep_rdv {d : D} {v : V} (s : SR K G c H) (r : Rep K G d v) : Rep K H (rdv c d) v := by
  cases d with
  | ptr p =>
    have hp : Rep K H (.ptr p) v := r
    show Rep K H (match c p with | some (.lst l) => D.lst l | some (.fz l) => D.lst l | _ => D.ptr p) v
    cases hc : c p with
    | none => exact hp
    | some x =>
      cases x with
      | lst l =>
        obtain ⟨_, vs, h1, h2⟩ := s.at_ _ _ hc
        exact ⟨p, vs, r, h1, Reps.mono s.sub _ _ h2⟩
      | fz l =>
        obtain ⟨vs, h1, h2⟩ := s.at_ _ _ hc
        exact ⟨p, vs, r, s.sub _ _ h1, Reps.mono s.sub _ _ h2⟩
      | dic l => exact hp
      | dit l => exact hp
      | obj C fs => exact hp
      | exc _ _ _ => exact hp
      | tab _ => exact hp
      | fn _ _ => exact hp
  | _ => exact Rep.mono s.sub _ _ r
theorem dp_rdv {d : D} {v : V} (s : SR K G c H) (r : Rep K G d v) (h : okD (rdv c d)) : Dp K H v (toP (rdv c d)) := dp_of _ _ (SeqAt.canLay_of_shaped h) (rep_rdv s r)
end
def oEq : Op2 := fun x y c Q => match x, y with
  | .str a, .str b => Q (.bl (decide (a = b))) c
  | x, y => okD (rdv c x) ∧ okD (rdv c y) ∧ Q (.bl (deq (rdv c x) (rdv c y))) c
def oNe : Op2 := fun x y c Q => match x, y with
  | .str a, .str b => Q (.bl (!decide (a = b))) c
  | x, y => okD (rdv c x) ∧ okD (rdv c y) ∧ Q (.bl (!deq (rdv c x) (rdv c y))) c
theorem dec_strV {a b : Str} : decide (V.str a = V.str b) = decide (a = b) := by
  by_cases h : a = b
  · subst h; simp
  · rw [decide_eq_false h, decide_eq_false (fun q => h (V.str.inj q))]
def isNon : D → Bool
  | .non => true
  | _ => false
theorem isNon_r {K : PySem.W.Frag} {G : Hp} {d : D} {v : V} (r : Rep K G d v) : decide (v = .non) = isNon d := by
  cases d with
  | non => cases r; rfl
  | bl b => cases r; rfl
  | int i => cases r; rfl
  | str x => cases r; rfl
  | tup l => obtain ⟨a, vs, rfl, _⟩ := r; rfl
  | lst l => obtain ⟨a, vs, rfl, _⟩ := r; rfl
  | ptr p => cases r; rfl
  | scr l => obtain ⟨a, rfl, _⟩ := r; rfl
  | ty n => cases r; rfl
def oIs : Op2 := fun x y c Q => match y with
  | .non => Q (.bl (isNon x)) c
  | .bl b => match x with
    | .bl a => Q (.bl (decide (a = b))) c
    | _ => False
  | _ => False
def oIsNot : Op2 := fun x y c Q => match y with
  | .non => Q (.bl (!isNon x)) c
  | .bl b => match x with
    | .bl a => Q (.bl (!decide (a = b))) c
    | _ => False
  | _ => False
section
variable {X : Cx} {k : Nat}
theorem r_eq (hr : Room k X.A) : Op2R X (compareOp .Eq) oEq := by
  refine ⟨_, (op_eqD hr.units).or op_eq, ?_⟩
  intro G c H x y v u Q0 Q s rx ry q kk
  unfold oEq at q
  split at q
  · cases rx
    cases ry
    refine .inr ⟨rfl, ?_⟩
    rw [dec_strV]
    exact kk _ c _ H G q Gr.refl s rfl
  · obtain ⟨h1, h2, q⟩ := q
    exact .inl ⟨_, _, dp_rdv s rx h1, dp_rdv s ry h2, h1, h2, kk _ c _ H G q Gr.refl s rfl⟩
theorem r_ne (hr : Room k X.A) : Op2R X (compareOp .NotEq) oNe := by
  refine ⟨_, (op_neD hr.units).or op_ne, ?_⟩
  intro G c H x y v u Q0 Q s rx ry q kk
  unfold oNe at q
  split at q
  · cases rx
    cases ry
    refine .inr ⟨rfl, ?_⟩
    rw [dec_strV]
    exact kk _ c _ H G q Gr.refl s rfl
  · obtain ⟨h1, h2, q⟩ := q
    exact .inl ⟨_, _, dp_rdv s rx h1, dp_rdv s ry h2, h1, h2, kk _ c _ H G q Gr.refl s rfl⟩
theorem r_is : Op2R X (compareOp .Is) oIs := by
  refine ⟨_, op_isN.or op_isBl, ?_⟩
  intro G c H x y v u Q0 Q s rx ry q kk
  cases y <;> first
    | exact q.elim
    | skip
  · refine .inl ⟨ry, ?_⟩
    rw [isNon_r rx]
    exact kk _ c _ H G q Gr.refl s rfl
  · cases x <;> first
      | exact q.elim
      | skip
    exact .inr ⟨_, _, rx, ry, kk _ c _ H G q Gr.refl s rfl⟩
end
def oMul : Op2 := fun x y c Q => match x, y with
  | .int i, .int j => MulOk i j ∧ Q (.int (i * j)) c
  | x, .int k => match lstOf c x with
    | some l => -(2 ^ 63) ≤ k ∧ k < 2 ^ 63 ∧ l.length * k.toNat ≤ sizeLine ∧ Q (.lst (List.replicate k.toNat l).flatten) c
    | none => False
  | _, _ => False
theorem Reps.reps {K : PySem.W.Frag} {G : Hp} {l : List D} {vs : List V} (h : Reps K G l vs) : ∀ n : Nat, Reps K G (List.replicate n l).flatten (List.replicate n vs).flatten
  | 0 => rfl
  | n + 1 => by rw [List.replicate_succ, List.replicate_succ, List.flatten_cons, List.flatten_cons]; exact Reps.app h (Reps.reps h n)
section
variable {X : Cx} {k : Nat} {W : WX}
theorem r_mul : Op2R X (binaryOp .Mult) oMul := by
  refine ⟨_, mulOk_r.or op_rep, ?_⟩
  intro G c H x y v u Q0 Q s rx ry q kk
  unfold oMul at q
  split at q
  · exact .inl ⟨_, _, rx, ry, q.1, kk _ c _ H G q.2 Gr.refl s rfl⟩
  · split at q
    · rename_i l e
      obtain ⟨h1, h2, h3, q⟩ := q
      obtain ⟨a, vs, e1, h4, h5⟩ := lst_at s rx e
      refine .inr ⟨a, _, vs, e1, ry, h4, h1, h2, by rw [← h5.length]; exact h3, fun p hp => ?_⟩
      obtain ⟨s2, g2⟩ := s.newG (o := HO.lst (List.replicate _ vs).flatten) hp
      exact kk _ c _ _ _ q g2 s2 ⟨p, _, rfl, upd_same, Reps.reps (Reps.mono g2.g _ _ h5) _⟩
    · exact q.elim
  · exact q.elim
theorem atI_r {K : PySem.W.Frag} {G : Hp} {l : List D} {vs : List V} {i : Int} {d : D} (r : Reps K G l vs) (h : atI l i = some d) : ∃ v, atI vs i = some v ∧ Rep K G d v := by
  unfold atI at h ⊢
  rw [← r.length]
  cases e : ixN l.length i with
  | none => rw [e] at h; cases h
  | some j =>
    rw [e] at h
    exact r.get h
def oIx : Op2 := fun x y c Q => match y with
  | .int i => match x with
    | .str z => ∃ ch, z.length ≤ sizeLine ∧ atI z.cps.toList i = some ch ∧ Q (.str ⟨#[ch]⟩) c
    | x => match seqOf c x with
      | some l => ∃ d, atI l i = some d ∧ Q d c
      | none => False
  | _ => False
variable {a b : Expr} {wa wb : WE} {pos : Pos}
theorem je_ix (ha : JE X W a wa) (hb : JE X W b wb) (hs : PlainIx b := by exact fun _ _ => rfl) : JE X W (.Subscript a b pos) (wBin oIx wa wb) := by
  refine PE.of (pe_ix ix_seq ha hb hs) fun σ H Q ⟨G, en, c, Q0, X0, s, er, q, x0, kk⟩ => ?_
  refine rd_bin ?_ s er q x0 fun d c' v H' G' z g s' r => kk d c' v H' G' z g s' r
  intro G c H x y v u Q0 Q s rx ry q kk
  unfold oIx at q
  split at q
  · rename_i i
    split at q
    · obtain ⟨ch, h1, h2, q⟩ := q
      exact .inr (.inr ⟨_, i, ch, rx, ry, h1, h2, kk _ c _ H G q Gr.refl s rfl⟩)
    · split at q
      · rename_i l e
        obtain ⟨d, h1, q⟩ := q
        obtain ⟨p, vs, e1, h2, h3⟩ := seq_at s rx e
        obtain ⟨w, h4, h5⟩ := atI_r h2 h1
        rcases h3 with ⟨_, h3⟩ | ⟨_, h3⟩
        · exact .inr (.inl ⟨p, vs, i, w, e1, ry, h3, h4, kk _ c _ H G q Gr.refl s h5⟩)
        · exact .inl ⟨p, vs, i, w, e1, ry, h3, h4, kk _ c _ H G q Gr.refl s h5⟩
      · exact q.elim
  · exact q.elim
abbrev WO := En → Cs → (Option Int → Cs → Prop) → XD → Prop
def rdO (K : PySem.W.Frag) (mg : Str → Option Value) (W : WX) (w : WO) : TO := fun σ H Q => ∃ G en c Q0 X0, SR K G c H ∧ EnR K G en σ ∧ w en c Q0 X0 ∧ XOk K mg W X0 G c H ∧
  ∀ o c' H' G', Q0 o c' → Gr G c H G' c' H' → SR K G' c' H' → Q o H'
abbrev JO (X : Cx) (W : WX) (e : Option Expr) (w : WO) : Prop := PO X e (rdO X.K X.mg W w)
def wNoPart : WO := fun _ c Q _ => Q none c
def wPart (w : WE) : WO := fun en c Q X => w en c (fun d c' => match d with
  | .int i => Q (some i) c'
  | _ => False) X
theorem PO.imp {e : Option Expr} {t t' : TO} (h : PO X e t) (k : ∀ σ H Q, t' σ H Q → t σ H Q) : PO X e t' := by
  refine ⟨fun pins s σ H Q I q => ?_⟩
  exact h.run pins s σ H _ I (k σ H Q q)
theorem jo_none : JO X W none wNoPart := PO.imp po_none fun σ H Q ⟨G, en, c, Q0, X0, s, er, q, x0, kk⟩ => kk none c H G q Gr.refl s
theorem jo_some (ha : JE X W a wa) : JO X W (some a) (wPart wa) := by
  refine PO.imp (po_some ha) fun σ H Q ⟨G, en, c, Q0, X0, s, er, q, x0, kk⟩ => ?_
  refine ⟨G, en, c, _, X0, s, er, q, x0, fun d1 c1 v1 H1 G1 q1 g1 s1 r1 => ?_⟩
  cases d1 <;> first
    | exact q1.elim
    | exact ⟨_, r1, kk _ c1 H1 G1 q1 g1 s1⟩
def cutL {α : Type} (l : List α) (lo hi : Option Int) : List α := (l.drop (HT.sIx l.length 0 lo)).take (HT.sIx l.length l.length hi - HT.sIx l.length 0 lo)
theorem Reps.cut {K : PySem.W.Frag} {G : Hp} {l : List D} {vs : List V} (h : Reps K G l vs) (lo hi : Option Int) : Reps K G (cutL l lo hi) (cutV vs lo hi) := by
  unfold cutL cutV
  rw [h.length]
  exact Reps.take _ (Reps.drop _ h)
def oSl (x : D) (lo hi : Option Int) (c : Cs) (Q : DK) : Prop := match x with
  | .str z => z.length ≤ sizeLine ∧ Q (.str (cutS z lo hi)) c
  | .tup l => Q (.tup (cutL l lo hi)) c
  | x => match seqOf c x with
    | some l => Q (.lst (cutL l lo hi)) c
    | none => False
def wSl (wa : WE) (wl wh : WO) : WE := fun en c Q X => wa en c (fun x c1 => wl en c1 (fun lo c2 => wh en c2 (fun hi c3 => oSl x lo hi c3 Q) X) X) X
theorem cut_whole {α : Type} {l : List α} {lo hi : Option Int} (h : HT.sIx l.length 0 lo = 0 ∧ HT.sIx l.length l.length hi = l.length) : cutL l lo hi = l := by
  unfold cutL
  rw [h.1, h.2]; simp
theorem je_sl {lo hi : Option Expr} {wl wh : WO} {p2 : Pos} (ha : JE X W a wa) (hl : JO X W lo wl) (hh : JO X W hi wh) : JE X W (.Subscript a (.Slice lo hi none p2) pos) (wSl wa wl wh) := by
  refine PE.of (pe_slice (sl_list.or (sl_tupA.or sl_str)) ha hl hh) fun σ H Q ⟨G, en, c, Q0, X0, s, er, q, x0, kk⟩ => ?_
  refine ⟨G, en, c, _, X0, s, er, q, x0, fun d1 c1 v1 H1 G1 q1 g1 s1 r1 => ?_⟩
  refine ⟨G1, en, c1, _, X0, s1, er.mono g1.g, q1, x0.more g1, fun lo c2 H2 G2 q2 g2 s2 => ?_⟩
  refine ⟨G2, en, c2, _, X0, s2, er.mono (g1.trans g2).g, q2, x0.more (g1.trans g2), fun hi c3 H3 G3 q3 g3 s3 => ?_⟩
  have r3 := Rep.mono (g2.trans g3).g _ _ r1
  have gg := (g1.trans g2).trans g3
  unfold oSl at q3
  split at q3
  · exact .inr (.inr ⟨_, r3, q3.1, kk _ c3 _ H3 G3 q3.2 gg s3 rfl⟩)
  · rename_i l
    obtain ⟨p, vs, e1, h1, h2⟩ := r3
    refine .inr (.inl ⟨p, vs, e1, s3.sub.sqT h1.sq, fun hw => ?_, fun hw p' hp => ?_⟩)
    · refine kk _ c3 _ H3 G3 q3 gg s3 ⟨p, vs, rfl, h1, ?_⟩
      rw [← h2.length] at hw
      rw [cut_whole hw]
      exact h2
    · obtain ⟨s4, g4⟩ := s3.newG (o := HO.tup (cutV vs lo hi)) hp
      exact kk _ c3 _ _ _ q3 (gg.trans g4) s4 ⟨p', _, rfl, TupAt.of upd_same, Reps.mono g4.g _ _ (h2.cut lo hi)⟩
  · rename_i hn1 hn2
    split at q3
    · rename_i l e
      obtain ⟨p, vs, e1, h1, h2⟩ := seq_at s3 r3 e
      rcases h2 with ⟨ht, h2⟩ | ⟨_, h2⟩
      · exfalso
        cases d1 <;> first
          | (simp [isTup] at ht; done)
          | exact hn2 _ rfl
      · refine .inl ⟨p, vs, e1, h2, fun p' hp => ?_⟩
        obtain ⟨s4, g4⟩ := s3.newG (o := HO.lst (cutV vs lo hi)) hp
        exact kk _ c3 _ _ _ q3 (gg.trans g4) s4 ⟨p', _, rfl, upd_same, Reps.mono g4.g _ _ (h1.cut lo hi)⟩
    · exact q3.elim
end
end VL
namespace VL
open PySem PySem.Spec PyProof.Rows L2
abbrev OpN := List D → Cs → DK → Prop
def CallD (X : Cx) (f : Value) (o : OpN) : Prop := ∃ r : List V → Hp → VK → Prop, CallR X f r ∧
  ∀ G c H ds vs Q0 Q, SR X.K G c H → Reps X.K G ds vs → o ds c Q0 → Fin_ X.K G c H Q0 Q → r vs H Q
def wBi (o : OpN) (ws : WA) : WE := fun en c Q X => ws en c (fun ds c1 => o ds c1 Q) X
section
variable {X : Cx} {W : WX} {e o : Expr} {es : List Expr} {we : WE} {ws : WA} {x : Str} {p pos apos cpos : Pos} {id T : String} {k : Nat}
theorem rd_bi {o : OpN} {r : List V → Hp → VK → Prop} (hr : ∀ G c H ds vs Q0 Q, SR X.K G c H → Reps X.K G ds vs → o ds c Q0 → Fin_ X.K G c H Q0 Q → r vs H Q)
    {σ : L2.St} {H : Hp} {Q : VK} (h : rdE X.K X.mg W (wBi o ws) σ H Q) : tCB r (rdA X.K X.mg W ws) σ H Q := by
  obtain ⟨G, en, c, Q0, X0, s, er, q, x0, kk⟩ := h
  refine ⟨G, en, c, _, X0, s, er, q, x0, fun d1 c1 v1 H1 G1 q1 g1 s1 r1 => ?_⟩
  exact hr G1 c1 H1 d1 v1 Q0 _ s1 r1 q1 fun d c' v H' G' z g s' r => kk d c' v H' G' z (g1.trans g) s' r
theorem je_bi {o : OpN} (ho : CallD X (.builtin id) o) (hm : X.mg x = none) (hv : bootBuiltins x = some (.builtin id)) (ha : JA X W (e :: es) ws) (hg : Gl X x := by rfl) (hn : x ≠ "__name__" := by decide) (hdb : (x == ("__debug__" : Str)) = false := by decide)
    (he : starEach (e :: es) X.env = (false, eval e X.env) :: starEach es X.env := by rfl) (hpl : (backTo pos (starEach es X.env)).any (·.1) = false := by rfl) : JE X W (.Call (.Name x p) (e :: es) [] pos) (wBi o ws) := by
  obtain ⟨r, h1, h2⟩ := ho
  exact PE.of (pe_callB h1 hg hm hv ha hn hdb he hpl) fun σ H Q h => rd_bi h2 h
theorem je_bt {o : OpN} (ho : CallD X (.type T) o) (hm : X.mg x = none) (hv : bootBuiltins x = some (.type T)) (ha : JA X W (e :: es) ws) (hg : Gl X x := by rfl) (hn : x ≠ "__name__" := by decide) (hdb : (x == ("__debug__" : Str)) = false := by decide)
    (he : starEach (e :: es) X.env = (false, eval e X.env) :: starEach es X.env := by rfl) (hpl : (backTo pos (starEach es X.env)).any (·.1) = false := by rfl) : JE X W (.Call (.Name x p) (e :: es) [] pos) (wBi o ws) := by
  obtain ⟨r, h1, h2⟩ := ho
  exact PE.of (pe_callTy h1 hg hm hv ha hn hdb he hpl) fun σ H Q h => rd_bi h2 h
/-- a built-in class as a value -/
theorem je_ty {n : String} (hm : X.mg x = none) (hv : bootBuiltins x = some (.type n)) (hg : Gl X x := by rfl) (hn : x ≠ "__name__" := by decide) (hdb : (x == ("__debug__" : Str)) = false := by decide) : JE X W (.Name x pos) (wC (.ty n)) :=
  je_c (pe_bltn (v := .ty n) hg hm hv rfl hn hdb) fun _ _ => rfl
theorem Reps.one' {K : PySem.W.Frag} {G : Hp} {d : D} {vs : List V} (h : Reps K G [d] vs) : ∃ v, vs = [v] ∧ Rep K G d v := by
  obtain ⟨v, r, rfl, h1, h2⟩ := h
  cases h2
  exact ⟨v, rfl, h1⟩
theorem Reps.two' {K : PySem.W.Frag} {G : Hp} {d e : D} {vs : List V} (h : Reps K G [d, e] vs) : ∃ v u, vs = [v, u] ∧ Rep K G d v ∧ Rep K G e u := by
  obtain ⟨v, r, rfl, h1, h2⟩ := h
  obtain ⟨u, rfl, h3⟩ := Reps.one' h2
  exact ⟨v, u, rfl, h1, h3⟩
/-- len -/
def oLen : OpN := fun ds c Q => match ds with
  | [x] => match x with
    | .str z => z.length ≤ sizeLine ∧ Q (.int z.length) c
    | x => match seqOf c x with
      | some l => Q (.int l.length) c
      | none => False
  | _ => False
theorem c_len : CallD X (.builtin "len") oLen := by
  refine ⟨_, call_len, ?_⟩
  intro G c H ds vs Q0 Q s r q kk
  unfold oLen at q
  split at q
  · obtain ⟨v, rfl, r1⟩ := Reps.one' r
    split at q
    · exact ⟨v, _, rfl, by rw [show v = _ from r1]; exact ⟨q.1, rfl⟩, kk _ c _ H G q.2 Gr.refl s rfl⟩
    · split at q
      · rename_i l e
        obtain ⟨a, vs, rfl, h1, h2⟩ := seq_at s r1 e
        refine ⟨_, vs.length, rfl, ?_, kk _ c _ H G q Gr.refl s ?_⟩
        · rcases h2 with ⟨_, h2⟩ | ⟨_, h2⟩
          · exact .inr ⟨vs, h2, rfl⟩
          · exact .inl ⟨vs, h2, rfl⟩
        · rw [h1.length]; rfl
      · exact q.elim
  · exact q.elim
/-- abs -/
def oAbs : OpN := fun ds c Q => match ds with
  | [.int i] => Q (.int (if i < 0 then -i else i)) c
  | _ => False
theorem c_abs : CallD X (.builtin "abs") oAbs := by
  refine ⟨_, call_abs, ?_⟩
  intro G c H ds vs Q0 Q s r q kk
  unfold oAbs at q
  split at q
  · obtain ⟨v, rfl, r1⟩ := Reps.one' r
    cases r1
    exact ⟨_, rfl, kk _ c _ H G q Gr.refl s rfl⟩
  · exact q.elim
/-- int(n), int(flag) -/
def oInt : OpN := fun ds c Q => match ds with
  | [.int i] => Q (.int i) c
  | [.bl b] => Q (.int (if b then 1 else 0)) c
  | _ => False
theorem c_int : CallD X (.type "int") oInt := by
  refine ⟨_, call_int1, ?_⟩
  intro G c H ds vs Q0 Q s r q kk
  unfold oInt at q
  split at q
  · obtain ⟨v, rfl, r1⟩ := Reps.one' r
    cases r1
    exact .inl ⟨_, rfl, kk _ c _ H G q Gr.refl s rfl⟩
  · obtain ⟨v, rfl, r1⟩ := Reps.one' r
    cases r1
    exact .inr ⟨_, rfl, kk _ c _ H G q Gr.refl s rfl⟩
  · exact q.elim
/-- max, min: of two numbers, of a list of numbers -/
def oMax : OpN := fun ds c Q => match ds with
  | [.int i, .int j] => Q (.int (if j > i then j else i)) c
  | [x] => ∃ ns : List Int, lstOf c x = some (ns.map .int) ∧ 0 < ns.length ∧ ∀ m, m ∈ ns → (∀ y, y ∈ ns → y ≤ m) → Q (.int m) c
  | _ => False
def oMin : OpN := fun ds c Q => match ds with
  | [.int i, .int j] => Q (.int (if j < i then j else i)) c
  | [x] => ∃ ns : List Int, lstOf c x = some (ns.map .int) ∧ 0 < ns.length ∧ ∀ m, m ∈ ns → (∀ y, y ∈ ns → m ≤ y) → Q (.int m) c
  | _ => False
theorem ints_at {K : PySem.W.Frag} {G : Hp} {c : Cs} {H : Hp} {d : D} {v : V} {ns : List Int} (s : SR K G c H) (r : Rep K G d v) (h : lstOf c d = some (ns.map .int)) : ∃ a, v = .ref a ∧ H a = some (.lst (ns.map V.int)) := by
  obtain ⟨a, vs, e, h1, h2⟩ := lst_at s r h
  rw [Reps.ints.mp h2] at h1
  exact ⟨a, e, h1⟩
theorem c_max (hc : X.calm = true) : CallD X (.builtin "max") oMax := by
  refine ⟨_, (call_max2 hc).or (cr_max hc), ?_⟩
  intro G c H ds vs Q0 Q s r q kk
  unfold oMax at q
  split at q
  · obtain ⟨v, u, rfl, r1, r2⟩ := Reps.two' r
    cases r1
    cases r2
    exact .inl ⟨_, _, rfl, kk _ c _ H G q Gr.refl s rfl⟩
  · obtain ⟨v, rfl, r1⟩ := Reps.one' r
    obtain ⟨ns, e, h1, q⟩ := q
    obtain ⟨a, rfl, h2⟩ := ints_at s r1 e
    exact .inr ⟨a, ns, rfl, SqL.of h2, h1, fun m hm hle => kk _ c _ H G (q m hm hle) Gr.refl s rfl⟩
  · exact q.elim
/-- all, any of a list of truths -/
def oAll : OpN := fun ds c Q => match ds with
  | [x] => ∃ bs : List Bool, lstOf c x = some (bs.map .bl) ∧ Q (.bl (bs.all (fun b => b))) c
  | _ => False
theorem bls_at {K : PySem.W.Frag} {G : Hp} {c : Cs} {H : Hp} {d : D} {v : V} {ns : List Bool} (s : SR K G c H) (r : Rep K G d v) (h : lstOf c d = some (ns.map .bl)) : ∃ a, v = .ref a ∧ H a = some (.lst (ns.map V.bl)) := by
  obtain ⟨a, vs, e, h1, h2⟩ := lst_at s r h
  rw [Reps.bls.mp h2] at h1
  exact ⟨a, e, h1⟩
theorem c_all (hc : X.calm = true) : CallD X (.builtin "all") oAll := by
  refine ⟨_, cr_all hc, ?_⟩
  intro G c H ds vs Q0 Q s r q kk
  unfold oAll at q
  split at q
  · obtain ⟨v, rfl, r1⟩ := Reps.one' r
    obtain ⟨ns, e, q⟩ := q
    obtain ⟨a, rfl, h2⟩ := bls_at s r1 e
    exact ⟨a, ns, rfl, SqL.of h2, kk _ c _ H G q Gr.refl s rfl⟩
  · exact q.elim
/-- tuple(x), list(x) that stays, list(x) that lives -/
def oTuple : OpN := fun ds c Q => match ds with
  | [x] => match seqOf c x with
    | some l => Q (.tup l) c
    | none => False
  | _ => False
def oList : OpN := fun ds c Q => match ds with
  | [x] => match seqOf c x with
    | some l => Q (.lst l) c
    | none => False
  | _ => False
def oListL : OpN := fun ds c Q => match ds with
  | [x] => match seqOf c x with
    | some l => ∀ p, c p = none → Q (.ptr p) (cup c p (.lst l))
    | none => False
  | _ => False
theorem c_listL : CallD X (.type "list") oListL := by
  refine ⟨_, call_list_of, ?_⟩
  intro G c H ds vs Q0 Q s r q kk
  unfold oListL at q
  split at q
  · obtain ⟨v, rfl, r1⟩ := Reps.one' r
    split at q
    · rename_i x l e
      obtain ⟨a, vs, rfl, h1, h2⟩ := seq_at s r1 e
      refine ⟨a, vs, rfl, ?_, fun p hp => ?_⟩
      · rcases h2 with ⟨ht, h2⟩ | ⟨_, h2⟩
        · exact .inr h2
        · exact .inl h2
      · obtain ⟨hc, hg⟩ := s.free hp
        obtain ⟨s2, g2⟩ := s.newL (o := HO.lst vs) (y := .lst l) hp ⟨hg, vs, upd_same, h1⟩
        exact kk _ _ _ _ _ (q p hc) g2 s2 rfl
    · exact q.elim
  · exact q.elim
/-- divmod -/
def oDivmod : OpN := fun ds c Q => match ds with
  | [.int i, .int j] => 0 < j ∧ j.natAbs.log2 < 9000 ∧ Q (.tup [.int (i / j), .int (i % j)]) c
  | _ => False
theorem c_divmod : CallD X (.builtin "divmod") oDivmod := by
  refine ⟨_, call_divmodW, ?_⟩
  intro G c H ds vs Q0 Q s r q kk
  unfold oDivmod at q
  split at q
  · obtain ⟨v, u, rfl, r1, r2⟩ := Reps.two' r
    cases r1
    cases r2
    refine ⟨_, _, rfl, ⟨q.1, PyProof.noPylong_of_log2 q.2.1⟩, fun p hp => ?_⟩
    obtain ⟨s2, g2⟩ := s.newG (o := HO.tup [.int _, .int _]) hp
    exact kk _ c _ _ _ q.2.2 g2 s2 ⟨p, _, rfl, TupAt.of upd_same, ⟨_, _, rfl, rfl, ⟨_, _, rfl, rfl, rfl⟩⟩⟩
  · exact q.elim
/-- isinstance with built-in classes -/
def tyN (c : Cs) : D → String
  | .non => "NoneType"
  | .bl _ => "bool"
  | .int _ => "int"
  | .str _ => "str"
  | .tup _ => "tuple"
  | .lst _ => "list"
  | .scr _ => "list"
  | .ptr p => match c p with
    | some (.lst _) => "list"
    | some (.fz _) => "list"
    | some (.dic _) => "dict"
    | _ => ""
  | .ty _ => ""
def isTy (m n : String) : Bool := m == n || (m == "bool" && n == "int")
def tyNs : List String := ["NoneType", "bool", "int", "str", "tuple", "list", "dict"]
def clsNs : List String := ["bool", "int", "str", "tuple", "list", "dict"]
theorem kit_all : ∀ m ∈ tyNs, ∀ n ∈ clsNs, kitB m n = some (isTy m n) := by decide +kernel
theorem kit_ok {K : PySem.W.Frag} {m n : String} (hm : m ∈ tyNs) (hn : n ∈ clsNs) : PySem.W.kitOne K (.type m) (.type n) = some (isTy m n) := kit_ty (kit_all m hm n hn)
theorem kitAny_ok {K : PySem.W.Frag} {m : String} (hm : m ∈ tyNs) : ∀ ns : List String, (∀ n ∈ ns, n ∈ clsNs) → PySem.W.kitAny K (.type m) (ns.map .type) = some (ns.any (isTy m))
  | [], _ => rfl
  | n :: ns, h => by
    have h1 := kit_ok (K := K) hm (h n List.mem_cons_self)
    have h2 := kitAny_ok (K := K) hm ns fun n q => h n (List.mem_cons_of_mem _ q)
    rw [List.map_cons, List.any_cons]
    refine kitAny_cons h1 (fun e => ?_) (fun e => ?_)
    · rw [h2, e, Bool.false_or]
    · rw [e, Bool.true_or]
theorem tyX_of {K : PySem.W.Frag} {G : Hp} {c : Cs} {H : Hp} {d : D} {v : V} (s : SR K G c H) (r : Rep K G d v) (h : tyN c d ∈ tyNs) : TyX K H v (.type (tyN c d)) := by
  have no : ∀ {m : String}, m = "" → ¬ m ∈ tyNs := fun e h => by rw [e] at h; simp [tyNs] at h
  have rdl : ∀ {a : Addr} {vs : List V}, SqL K H a vs → TyX K H (.ref a) (.type "list") := fun {a vs} h => by
    rcases h with (h | ⟨o, h⟩) | ⟨o, _, _, h, hc, _⟩
    · exact .base (.lst h)
    · exact .base (.frz h)
    · exact .kList h hc
  cases d with
  | non => cases r; exact .base .non
  | bl b => cases r; exact .base (.bl b)
  | int i => cases r; exact .base (.int i)
  | str x => cases r; exact .base (.str x)
  | tup l =>
    obtain ⟨a, vs, rfl, h1, h2⟩ := r
    exact .base (.tup (s.sub.tup h1))
  | lst l =>
    obtain ⟨a, vs, rfl, h1, h2⟩ := r
    exact .base (.lst (s.sub _ _ h1))
  | scr l =>
    obtain ⟨a, rfl, h1⟩ := r
    exact rdl (s.sub.sqL h1)
  | ty n => exact absurd h (no rfl)
  | ptr p =>
    have e : v = .ref p := r
    subst e
    show TyX K H (.ref p) (.type (match c p with | some (.lst _) => "list" | some (.fz _) => "list" | some (.dic _) => "dict" | _ => ""))
    have h : (match c p with | some (.lst _) => "list" | some (.fz _) => "list" | some (.dic _) => "dict" | _ => "") ∈ tyNs := h
    cases hc : c p with
    | none => rw [hc] at h; exact absurd h (no rfl)
    | some x =>
      cases x with
      | lst l =>
        obtain ⟨_, vs, h1, _⟩ := s.at_ _ _ hc
        exact .base (.lst h1)
      | fz l =>
        obtain ⟨vs, h1, _⟩ := s.at_ _ _ hc
        exact .base (.lst (s.sub _ _ h1))
      | dic l =>
        obtain ⟨_, vs, h1, _⟩ := s.at_ _ _ hc
        exact .base (.dK h1)
      | obj C fs => rw [hc] at h; exact absurd h (no rfl)
      | exc _ _ _ => rw [hc] at h; exact absurd h (no rfl)
      | dit _ => rw [hc] at h; exact absurd h (no rfl)
      | tab _ => rw [hc] at h; exact absurd h (no rfl)
      | fn _ _ => rw [hc] at h; exact absurd h (no rfl)
def oIsi : OpN := fun ds c Q => match ds with
  | [x, .ty n] => tyN c x ∈ tyNs ∧ n ∈ clsNs ∧ Q (.bl (isTy (tyN c x) n)) c
  | [x, .tup cs] => tyN c x ∈ tyNs ∧ ∃ ns : List String, cs = ns.map .ty ∧ (∀ n ∈ ns, n ∈ clsNs) ∧ Q (.bl (ns.any (isTy (tyN c x)))) c
  | _ => False
theorem Reps.tys {K : PySem.W.Frag} {G : Hp} : ∀ {ns : List String} {vs : List V}, Reps K G (ns.map D.ty) vs → vs = ns.map V.ty
  | [], _, h => h
  | n :: ns, _, h => by
    obtain ⟨v, r, rfl, h1, h2⟩ := h
    cases h1
    rw [Reps.tys h2]; rfl
theorem tys_cls : ∀ ns : List String, Paired ClsV (ns.map V.ty) (ns.map Value.type)
  | [] => .nil
  | n :: ns => .cons (.ty n) (tys_cls ns)
theorem tys_vals : ∀ {ns : List String} {us : List Value}, Vals (ns.map V.ty) us → us = ns.map Value.type
  | [], _, .nil => rfl
  | n :: ns, _, .cons r t => by
    cases (show _ = Value.type n from r)
    rw [tys_vals t]; rfl
theorem c_isi : CallD X (.builtin "isinstance") oIsi := by
  refine ⟨_, call_isi.or (call_isiT.or call_isiK), ?_⟩
  intro G c H ds vs Q0 Q s r q kk
  unfold oIsi at q
  split at q
  · obtain ⟨v, u, rfl, r1, r2⟩ := Reps.two' r
    cases r2
    obtain ⟨h1, h2, q⟩ := q
    exact .inl ⟨v, _, _, _, _, rfl, .ty _, tyX_of s r1 h1, kit_ok h1 h2, kk _ c _ H G q Gr.refl s rfl⟩
  · obtain ⟨v, u, rfl, r1, r2⟩ := Reps.two' r
    obtain ⟨h1, ns, rfl, h2, q⟩ := q
    obtain ⟨a, ws, rfl, h3, h4⟩ := r2
    cases Reps.tys h4
    exact .inr (.inl ⟨v, a, _, _, _, _, rfl, s.sub.tup h3, tys_cls ns, tyX_of s r1 h1, kitAny_ok h1 ns h2, kk _ c _ H G q Gr.refl s rfl⟩)
  · exact q.elim
end
end VL
namespace VL
open PySem PySem.Spec PyProof.Rows L2
section
variable {X : Cx} {W : WX} {e o : Expr} {es : List Expr} {we wo : WE} {ws : WA} {x : Str} {p pos apos cpos : Pos} {id T : String} {k : Nat}
def shD (d : D) : Str := (toP d).shown
abbrev OpM := D → List D → Cs → DK → Prop
def MtD (X : Cx) (id : String) (o : OpM) : Prop := ∃ r : V → List V → Hp → VK → Prop, MtR X id r ∧
  ∀ G c H x v ds vs Q0 Q, SR X.K G c H → Rep X.K G x v → Reps X.K G ds vs → o x ds c Q0 → Fin_ X.K G c H Q0 Q → r v vs H Q
def isLst (c : Cs) (x : D) : Prop := (lstOf c x).isSome = true
def wMt (o : OpM) (wo : WE) (ws : WA) : WE := fun en c Q X => wo en c (fun x c1 => isLst c1 x ∧ ws en c1 (fun ds c2 => o x ds c2 Q) X) X
def wMt0 (o : OpM) (wo : WE) : WE := fun en c Q X => wo en c (fun x c1 => isLst c1 x ∧ o x [] c1 Q) X
theorem lst_ty {G : Hp} {c : Cs} {H : Hp} {d : D} {v : V} (s : SR X.K G c H) (r : Rep X.K G d v) (h : isLst c d) : tyV X.K "list" v H := by
  unfold isLst at h
  obtain ⟨l, e⟩ := Option.isSome_iff_exists.mp h
  obtain ⟨a, vs, rfl, h1, _⟩ := lst_at s r e
  exact Or.inl ⟨rfl, vs, SqL.of h1⟩
theorem je_mt {name : Str} {om : OpM} (ho : MtD X id om) (pa : PlainAttrs "list") (slot : Slot "list" name id) (hty : typeOf (.builtin id) = pure (.type "method_descriptor")) (hw : JE X W o wo) (ha : JA X W (e :: es) ws)
    (hbase : attributeBase o name X.env (eval o X.env) = eval o X.env := by rfl)
    (hfew : ((backTo cpos (starEach (e :: es) X.env)).all (fun x => !x.1) && (backToKw cpos (keywordEach [] X.env)).all (fun x => x.1.isSome)
      && decide ((e :: es).length + ([] : List Keyword).length + (if ([] : List Keyword).isEmpty then 0 else 1) < 30)) = true := by rfl)
    (hline : (apos.endLine == cpos.line) = true := by rfl) (hs : starEach (e :: es) X.env = (false, eval e X.env) :: starEach es X.env := by rfl) (hplain : (backTo cpos (starEach es X.env)).any (·.1) = false := by rfl) :
    JE X W (.Call (.Attribute o name apos) (e :: es) [] cpos) (wMt om wo ws) := by
  obtain ⟨r, h1, h2⟩ := ho
  refine PE.of (pe_bm pa slot hty h1 hw ha hbase hfew hline hs hplain) fun σ H Q ⟨G, en, c, Q0, X0, s, er, q, x0, kk⟩ => ?_
  refine ⟨G, en, c, _, X0, s, er, q, x0, fun d1 c1 v1 H1 G1 ⟨t1, q1⟩ g1 s1 r1 => ⟨lst_ty s1 r1 t1, ?_⟩⟩
  refine ⟨G1, en, c1, _, X0, s1, er.mono g1.g, q1, x0.more g1, fun ds c2 vs H2 G2 q2 g2 s2 r2 => ?_⟩
  exact h2 G2 c2 H2 d1 v1 ds vs Q0 _ s2 (Rep.mono g2.g _ _ r1) r2 q2 fun d c' v H' G' z g s' r => kk d c' v H' G' z ((g1.trans g2).trans g) s' r
/-- the live list at x -/
def liveOf (c : Cs) : D → Option (Addr × List D)
  | .ptr p => match c p with
    | some (.lst l) => some (p, l)
    | _ => none
  | _ => none
theorem live_at {K : PySem.W.Frag} {G : Hp} {c : Cs} {H : Hp} {d : D} {v : V} {q : Addr} {l : List D} (s : SR K G c H) (r : Rep K G d v) (h : liveOf c d = some (q, l)) : v = .ref q ∧ c q = some (.lst l) ∧ G q = none ∧ ∃ vs, H q = some (.lst vs) ∧ Reps K G l vs := by
  cases d with
  | ptr p =>
    have h : (match c p with | some (.lst l) => some (p, l) | _ => none) = some (q, l) := h
    cases hc : c p with
    | none => rw [hc] at h; cases h
    | some x =>
      rw [hc] at h
      cases x with
      | lst l' =>
        cases h
        obtain ⟨h1, h2⟩ := s.at_ _ _ hc
        exact ⟨r, hc, h1, h2⟩
      | fz l' => cases h
      | dic l' => cases h
      | dit l' => cases h
      | obj C fs => cases h
      | exc _ _ _ => cases h
      | tab _ => cases h
      | fn _ _ => cases h
  | _ => cases h
/-- a live list is changed to l' -/
theorem live_set {K : PySem.W.Frag} {G : Hp} {c : Cs} {H : Hp} {q : Addr} {l l' : List D} {vs' : List V} {Q0 : DK} {Q : VK} (s : SR K G c H) (hc : c q = some (.lst l)) (hg : G q = none) (r : Reps K G l' vs') (kk : Fin_ K G c H Q0 Q) {d : D} {v : V} (hd : Rep K G d v) (z : Q0 d (cup c q (.lst l'))) : Q v (upd H q (.lst vs')) := by
  obtain ⟨s2, g2⟩ := s.write (o := HO.lst vs') (y := .lst l') hc hg ⟨hg, vs', upd_same, r⟩
  exact kk _ _ _ _ _ z g2 s2 hd
def oAppend : OpM := fun x ds c Q => match ds with
  | [d] => ∃ p l, liveOf c x = some (p, l) ∧ l.length < sizeLine ∧ Q .non (cup c p (.lst (l ++ [d])))
  | _ => False
theorem m_append : MtD X "list.append" oAppend := by
  refine ⟨_, mt_append, ?_⟩
  intro G c H x v ds vs Q0 Q s rx r q kk
  unfold oAppend at q
  split at q
  · obtain ⟨p, l, e, hz, q⟩ := q
    obtain ⟨u, rfl, r1⟩ := Reps.one' r
    obtain ⟨rfl, h1, h2, ws, h3, h4⟩ := live_at s rx e
    exact ⟨p, ws, u, rfl, rfl, h3, by rw [← h4.length]; exact hz, live_set s h1 h2 (Reps.app h4 (Reps.one r1)) kk (d := .non) rfl q⟩
  · exact q.elim
def oInsert : OpM := fun x ds c Q => match ds with
  | [.int i, d] => ∃ p l, liveOf c x = some (p, l) ∧ l.length < sizeLine ∧ 0 ≤ i ∧ i < 2 ^ 63 ∧ Q .non (cup c p (.lst (l.take i.toNat ++ [d] ++ l.drop i.toNat)))
  | _ => False
def oPop0 : OpM := fun x ds c Q => match ds with
  | [] => ∃ p l d, liveOf c x = some (p, l) ∧ l[l.length - 1]? = some d ∧ Q d (cup c p (.lst l.dropLast))
  | _ => False
def oPopAt : OpM := fun x ds c Q => match ds with
  | [.int i] => ∃ p l d j, liveOf c x = some (p, l) ∧ -(2 ^ 63) ≤ i ∧ i < 2 ^ 63 ∧ ixN l.length i = some j ∧ l[j]? = some d ∧ Q d (cup c p (.lst (l.eraseIdx j)))
  | _ => False
def oReverse : OpM := fun x ds c Q => match ds with
  | [] => ∃ p l, liveOf c x = some (p, l) ∧ Q .non (cup c p (.lst l.reverse))
  | _ => False
def oClear : OpM := fun x ds c Q => match ds with
  | [] => ∃ p l, liveOf c x = some (p, l) ∧ Q .non (cup c p (.lst []))
  | _ => False
end
end VL
namespace VL
open PySem PySem.Spec PyProof.Rows L2
set_option maxHeartbeats 4000000 in
theorem meets_enumB1 {v : Value} {o : Obj} {H : Heap → Prop} (B : Begins v o H) :
    Meets (Builtin.«enumerate.__new__» ⟨[.type "enumerate", v], []⟩) (fun _ R s => H s.heap ∧
      R (.ok (.ret (.ref (s.heap.push o).objs.size))) { s with heap := (s.heap.push o).push { cls := .type "enumerate", data := .fields #[.none, .bool false, .ref s.heap.objs.size, rawInt 0, .none, .none] } }) :=
  .of_wp fun prog w A R s h => by
    obtain ⟨hp, g, d, tk, os⟩ := s; obtain ⟨h1, h⟩ := h
    have hsub := sub_enumerate
    have q1 : ∀ {A' : Around} {E : Value → Shared → Prop} {Q : Value → Shared → Prop}, Q (.ref hp.objs.size) ⟨hp.push o, g, d, tk, os⟩ → wpAny (model prog w) A' (pyIter v) Q E ⟨hp, g, d, tk, os⟩ :=
      fun q => B.iter prog w _ _ ⟨hp, g, d, tk, os⟩ _ h1 q
    wp_walk using q1
    refine wpAny_stack_any fun st => wpAny_pure ?_
    split
    · rename_i c _ _ _ _ _
      cases (c == Value.type "enumerate")
      · wp_walk using q1
        exact ⟨_, rfl, h⟩
      · wp_walk using q1
        exact ⟨_, rfl, h⟩
    · wp_walk using q1
      exact ⟨_, rfl, h⟩
theorem call_enumB1 {prog : Program} {w : World} {A : Around} {E : Value → Shared → Prop} {s : Shared} {v : Value} {o : Obj} {H : Heap → Prop} {Q : Value → Shared → Prop} (B : Begins v o H) (h1 : H s.heap)
    (h : ∀ h', IsEnum h' (s.heap.objs.size + 1) s.heap.objs.size 0 .none → h'.get? s.heap.objs.size = some o → h'.objs.size = s.heap.objs.size + 2 →
      (∀ b o, s.heap.get? b = some o → h'.get? b = some o) → Q (.ref (s.heap.objs.size + 1)) { s with heap := h' }) :
    wpAny (model prog w) A (call (.type "enumerate") [v]) Q E s := by
  refine callType_new F.called_enumerate (by decide) (F.typeCall_enumerate_1 _) (F.newCall_enumerate_1 _) (fun obj => F.args_object_init_2 obj _) F.entry_enumerate_new
    (meets_enumB1 B) ⟨h1, ?_⟩
  have hz : (s.heap.push o).objs.size = s.heap.objs.size + 1 := Heap.size_push ..
  show _ ∧ _
  rw [hz]
  have he : IsEnum ((s.heap.push o).push { cls := .type "enumerate", data := .fields #[.none, .bool false, .ref s.heap.objs.size, rawInt 0, .none, .none] }) (s.heap.objs.size + 1) s.heap.objs.size 0 .none := by
    have := Heap.get?_push_size (s.heap.push o) (o := { cls := .type "enumerate", data := .fields #[.none, .bool false, .ref s.heap.objs.size, rawInt 0, .none, .none] }) rfl
    rw [hz] at this; exact this
  refine ⟨⟨_, he, rfl⟩, h _ he (Heap.get?_push_of_some _ (Heap.get?_push_size _ B.free)) (by rw [Heap.size_push, hz]) fun b o x => Heap.get?_push_of_some _ (Heap.get?_push_of_some _ x)⟩
/-- the tuple at a, each item in a new pair -/
def IteT (K : PySem.W.Frag) (a : Addr) : It :=
  ⟨fun i H => ∃ (xs : List V) (x : V), SqT K H a xs ∧ xs[i]? = some x, fun i H v H' => ∃ T x, v = .ref T ∧ H T = none ∧ H' = upd H T (.tup [.int (i : Nat), x]) ∧ ∀ xs, SqT K H a xs → xs[i]? = some x, fun i H => ∃ xs : List V, SqT K H a xs ∧ xs.length ≤ i⟩
theorem turn_enumT {P : Program} {w : World} {K : PySem.W.Frag} {elts : List Expr} {kk : Nat} {tpos : Pos} (a e it : Addr) :
    Turn P w K (.Tuple elts kk tpos) (IteT K a) [e, it] e (fun i h => (∃ old, IsEnum h e it ((i : Nat) : Int) old) ∧ h.IsTupleIter it a i ∧ e ≠ it ∧ a ≠ e ∧ a ≠ it) where
  mem := by simp
  obj := fun i h st b hb => by
    obtain ⟨⟨old, he⟩, ⟨o, ho, hc, hd⟩, _⟩ := st
    have e' : b = e ∨ b = it := by simpa using hb
    rcases e' with z | z
    · rw [z]; exact ⟨_, he, fun v q => nomatch q⟩
    · rw [z]; exact ⟨o, ho, fun v q => by rw [hd] at q; cases q⟩
  keep := fun i h h' st k => let ⟨⟨old, he⟩, hi, hne⟩ := st; ⟨⟨old, k e (by simp) _ he⟩, hi.at fun o q => k it (by simp) o q, hne⟩
  item := by
    intro X hP hw hK hc i pins s σ H E I hf st hg
    subst hP hw hK
    obtain ⟨⟨old, he⟩, hit, hne, hae, hai⟩ := st
    obtain ⟨xs, x, hq, hx⟩ := hg
    obtain ⟨its, rv, p, hz⟩ := I.tuple hq
    obtain ⟨u, hu, ru⟩ := rv.get hx
    have hel : e < s.heap.objs.size := Heap.lt_size he
    have hil : it < s.heap.objs.size := by obtain ⟨_, q, _⟩ := hit; exact Heap.lt_size q
    have hlt : i < its.toArray.size := by
      obtain ⟨h1, _⟩ := List.getElem?_eq_some_iff.mp hu
      simpa using h1
    have hh : X.A.in1.handled = none := I.ok.hd hc
    refine wpAny_pyNext_enum_itemC (Draws.tuple hh it a hai its.toArray) he ⟨hit, p⟩ hlt hne (by simp [hne, Ne.symm hae]) fun u' h' tk hu' ho hst hT hsz hk => ?_
    have eu : u' = u := by
      have : its[i]? = some u' := by simpa using hu'
      rw [hu] at this
      exact (Option.some.inj this).symm
    subst eu
    obtain ⟨hit', _⟩ := hst
    refine ⟨_, rfl, wpAny_letOwnedTupleGo_enum (s := { s with heap := h', toks := tk + 1 }) ho fun h'' he' sb => ?_⟩
    have hT2 : h''.get? s.heap.objs.size = some { cls := .type "tuple", data := .seq #[.int i tk, u'] } := (sb.2 _ (Nat.ne_of_gt hel)).trans hT
    have new : ObjOk X.prog X.w (upd H s.heap.objs.size (.tup [.int (i : Nat), x])) h'' s.heap.objs.size (.tup [.int (i : Nat), x]) :=
      ⟨by show 2 ≤ sizeLine; decide, [.int i tk, u'], .cons ⟨_, rfl⟩ (.cons ru .nil), ⟨_, hT2, rfl, _, rfl⟩⟩
    have I1 : Inv X pins σ (upd H s.heap.objs.size (.tup [.int (i : Nat), x])) { s with heap := h'', toks := tk + 1 } :=
      I.turnedNew (ch := [e, it]) (fun b ob hb q => (sb.2 b (fun z => hb (by simp [z]))).trans (hk b ob (fun z => hb (by simp [z])) (fun z => hb (by simp [z])) q)) hf (Nat.le_refl _) new
    refine ⟨.ref s.heap.objs.size, _, I1, rfl, ⟨_, x, rfl, I.hok.fresh (Nat.le_refl _), rfl, fun ys hy => by rw [I.tuple_inj hy hq]; exact hx⟩, ⟨⟨u', ?_⟩, hit'.at fun o q => (sb.2 it (Ne.symm hne)).trans q, hne, hae, hai⟩, fun b hb => ?_⟩
    · have e1 : ((i + 1 : Nat) : Int) = (i : Int) + 1 := by omega
      rw [e1]; exact he'
    · have hb' : b < s.heap.objs.size := by
        have e' : b = e ∨ b = it := by simpa using hb
        rcases e' with z | z
        · rw [z]; exact hel
        · rw [z]; exact hil
      rw [upd_ne (Nat.ne_of_lt hb')]
      exact (hf b hb).1
  done := by
    intro X hP hw hK hc i pins s σ H E I hf st hg
    subst hP hw hK
    obtain ⟨⟨old, he⟩, hit, hne, hae, hai⟩ := st
    obtain ⟨xs, hq, hx⟩ := hg
    obtain ⟨its, rv, p, hz⟩ := I.tuple hq
    obtain ⟨f0, f1, f2, f3, f4, f5⟩ := hf it (by simp)
    have hl := rv.length
    have hh : X.A.in1.handled = none := I.ok.hd hc
    have hT : s.TypeIs (.ref e) "enumerate" := ⟨_, he, rfl⟩
    unfold pyNext
    refine wpAny_bind (wpAny_attempt (wpAny_callSpecial?_slot (name := Str.ofString "__next__") hT F.slot_enumerate_next
      (wpAny_call_entry F.slot_enumerate_next hT F.entry_enumerate_next ?_ (F.args_enumerate_next_1 _))))
    show wpAny _ _ (field (.ref e) 2 >>= _) _ _ _
    refine wpAny_bind (wpAny_field he rfl (x := .ref it) rfl ?_)
    refine wpAny_bind (wpAny_nextOf_tuple_end hh hit p (by simp; omega) fun h' x he' hx' => ?_)
    obtain ⟨o, ho, hcs⟩ := hx'
    refine wpAny_bind (wpAny_isInstance (T := "StopIteration") (b := true) ⟨o, ho, hcs⟩ isSubtype_stop ?_)
    exact wpAny_pure ⟨rfl, I.turned (t' := s.toks) (fun b o hb q => he' b o hb q) f0 f1 f3 f4 f5⟩
  self := fun A i s Q E st h => let ⟨⟨_, he⟩, _⟩ := st; wpAny_pyIter_enum he h
/-- enumerate of a list, of a tuple -/
def iEnumA (K : PySem.W.Frag) (ta : TA) : TI := fun σ H R => ta σ H fun vs H1 => ∃ a xs, vs = [.ref a] ∧ ((SqL K H1 a xs ∧ R (Ite K a) H1) ∨ (SqT K H1 a xs ∧ R (IteT K a) H1))
theorem pi_enumA {X : Cx} {e : Expr} {ta : TA} {p pos tpos : Pos} {elts : List Expr} {kk : Nat} (hg : Gl X "enumerate") (hm : X.mg "enumerate" = none) (ha : PA X [e] ta) (hs : starEach [e] X.env = [(false, eval e X.env)] := by rfl) :
    PI X (.Tuple elts kk tpos) (.Call (.Name "enumerate" p) [e] [] pos) (iEnumA X.K ta) := by
  refine ⟨fun pins s σ H R I h => ?_⟩
  refine Call_ (ld_blt I hg hm boot_enumerate (PyProof.Rows.callWith_type1 (thn (ha.run pos pins s σ H _ I h) fun us s1 ⟨vs, H1, I1, r1, q1⟩ => ?_) hs rfl))
  obtain ⟨a, xs, ex, q⟩ := q1
  subst ex
  cases r1 with
  | cons r rr =>
    cases rr
    cases r
    rcases q with ⟨hq, q⟩ | ⟨hq, q⟩
    · obtain ⟨its, rv, p', hz⟩ := I1.list hq
      refine call_enumerate_list p'.isList fun h' he hit hsz hk => wpAny_pyIter_enum he ?_
      have I2 : Inv X pins σ H1 { s1 with heap := h' } := I1.kept (t' := s1.toks) hk
      refine ⟨s1.heap.objs.size + 1, [s1.heap.objs.size + 1, s1.heap.objs.size], _, _, H1, rfl, I2, turn_enum a (s1.heap.objs.size + 1) s1.heap.objs.size, ⟨⟨.none, he⟩, hit, Nat.succ_ne_self _⟩, fun b hb => ?_, q⟩
      have e' : b = s1.heap.objs.size + 1 ∨ b = s1.heap.objs.size := by simpa using hb
      have hle : s1.heap.objs.size ≤ b := by
        rcases e' with z | z
        · rw [z]; exact Nat.le_add_right _ _
        · rw [z]; exact Nat.le_refl _
      exact I1.fpOk hle (I1.hok.fresh hle)
    · obtain ⟨its, rv, p', hz⟩ := I1.tuple hq
      have hal : a < s1.heap.objs.size := by obtain ⟨_, q, _⟩ := id p'; exact Heap.lt_size q
      refine call_enumB1 (begins_tuple a its.toArray) p' fun h' he hit hsz hk => wpAny_pyIter_enum he ?_
      have I2 : Inv X pins σ H1 { s1 with heap := h' } := I1.kept (t' := s1.toks) hk
      refine ⟨s1.heap.objs.size + 1, [s1.heap.objs.size + 1, s1.heap.objs.size], _, _, H1, rfl, I2, turn_enumT a (s1.heap.objs.size + 1) s1.heap.objs.size, ⟨⟨.none, he⟩, ⟨_, hit, rfl, rfl⟩, Nat.succ_ne_self _, Nat.ne_of_lt (Nat.lt_succ_of_lt hal), Nat.ne_of_lt hal⟩, fun b hb => ?_, q⟩
      have e' : b = s1.heap.objs.size + 1 ∨ b = s1.heap.objs.size := by simpa using hb
      have hle : s1.heap.objs.size ≤ b := by
        rcases e' with z | z
        · rw [z]; exact Nat.le_add_right _ _
        · rw [z]; exact Nat.le_refl _
      exact I1.fpOk hle (I1.hok.fresh hle)
end VL
namespace VL
open PySem PySem.Spec PyProof.Rows L2 RZ
/-- the items, what must hold at each turn, the cells -/
abbrev IK := List D → (Cs → Prop) → Cs → Prop
abbrev WI := En → Cs → IK → XD → Prop
/-- from a state behind (G0): the walk J gives the items ds as long as chk holds -/
def Srv (K : PySem.W.Frag) (G0 : Hp) (J : It) (ds : List D) (chk : Cs → Prop) : Prop := ∀ i G c H, Le G0 G → SR K G c H → chk c →
  (∀ d, ds[i]? = some d → J.go i H ∧ ∀ x H', J.yld i H x H' → ∃ G', SR K G' c H' ∧ Gr G c H G' c H' ∧ Rep K G' d x) ∧ (ds.length ≤ i → J.stop i H)
def rdI (K : PySem.W.Frag) (mg : Str → Option Value) (W : WX) (wi : WI) : TI := fun σ H R => ∃ G en c Q0 X0, SR K G c H ∧ EnR K G en σ ∧ wi en c Q0 X0 ∧ XOk K mg W X0 G c H ∧
  ∀ ds chk c' J H' G', Q0 ds chk c' → Gr G c H G' c' H' → SR K G' c' H' → Srv K G' J ds chk → R J H'
abbrev JI (X : Cx) (W : WX) (tg e : Expr) (wi : WI) : Prop := PI X tg e (rdI X.K X.mg W wi)
section
variable {X : Cx} {W : WX} {tg e a b : Expr} {es : List Expr} {we wa wb : WE} {ws : WA} {x : Str} {p pos tpos : Pos} {k : Nat}
/-- a list or a tuple that stays as it is through the walk -/
def wSeq (we : WE) : WI := fun en c Q X => we en c (fun d c1 => match seqOf c1 d with
  | some l => l.length ≤ sizeLine → Q l (fun c' => seqOf c' d = some l) c1
  | none => False) X
theorem srv_seq {K : PySem.W.Frag} {G : Hp} {d : D} {v : V} {l : List D} (r : Rep K G d v) : ∀ {a : Addr}, v = .ref a → Srv K G (if isTup d = true then Itt K a else Itl K a) l (fun c' => seqOf c' d = some l) := by
  intro a ea i G1 c H le s e
  obtain ⟨a', vs, e1, h1, h2⟩ := seq_at s (Rep.mono le _ _ r) e
  rw [ea] at e1
  cases e1
  rcases h2 with ⟨ht, h2⟩ | ⟨ht, h2⟩
  · rw [if_pos ht]
    refine ⟨fun d' hd => ?_, fun hi => ⟨vs, h2, by rw [← h1.length]; exact hi⟩⟩
    obtain ⟨u, hu, ru⟩ := h1.get hd
    refine ⟨⟨vs, u, h2, hu⟩, fun x H' y => ?_⟩
    obtain ⟨rfl, y⟩ := y
    refine ⟨G1, s, Gr.refl, ?_⟩
    have := y vs h2
    rw [hu] at this
    cases this
    exact ru
  · rw [if_neg (by rw [ht]; exact Bool.false_ne_true)]
    refine ⟨fun d' hd => ?_, fun hi => ⟨vs, h2, by rw [← h1.length]; exact hi⟩⟩
    obtain ⟨u, hu, ru⟩ := h1.get hd
    refine ⟨⟨vs, u, h2, hu⟩, fun x H' y => ?_⟩
    obtain ⟨rfl, y⟩ := y
    refine ⟨G1, s, Gr.refl, ?_⟩
    have := y vs h2
    rw [hu] at this
    cases this
    exact ru
/-- a list or a tuple, whichever it is -/
theorem pi_any {tl : TE} (hl : PE X e tl) : PI X tg e (fun σ H R => tl σ H fun x H1 => (∃ a, x = .ref a ∧ (∃ xs, SqL X.K H1 a xs) ∧ R (Itl X.K a) H1) ∨ (∃ a, x = .ref a ∧ (∃ xs, SqT X.K H1 a xs) ∧ R (Itt X.K a) H1)) := by
  refine ⟨fun pins s σ H R I h => ?_⟩
  refine thn (hl.run pins s σ H _ I h) fun v s1 ⟨x, H1, I1, r1, q1⟩ => ?_
  have base : PE X e (fun σ' H' Q => False) := ⟨fun _ _ _ _ _ _ z => z.elim⟩
  rcases q1 with ⟨a, e1, ⟨xs, hq⟩, q⟩ | ⟨a, e1, ⟨xs, hq⟩, q⟩
  · subst e1
    cases r1
    obtain ⟨its, rv, p, hz⟩ := I1.list hq
    refine wpAny_pyIter_list p.isList ⟨s1.heap.objs.size, [s1.heap.objs.size], _, _, H1, rfl, I1.kept (t' := s1.toks) (fun b o z => Heap.get?_push_of_some _ z), turn_list a _, ⟨_, Heap.get?_push_size _ rfl, rfl, rfl⟩, ?_, q⟩
    intro b hb
    have z : b = s1.heap.objs.size := by simpa using hb
    subst z
    exact I1.fpOk (Nat.le_refl _) I1.fresh
  · subst e1
    cases r1
    obtain ⟨its, rv, p, hz⟩ := I1.tuple hq
    refine wpAny_pyIter_tuple (show s1.heap.IsTuple a its.toArray from p) ⟨s1.heap.objs.size, [s1.heap.objs.size], _, _, H1, rfl, I1.kept (t' := s1.toks) (fun b o z => Heap.get?_push_of_some _ z), turn_tuple a _, ⟨_, Heap.get?_push_size _ rfl, rfl, rfl⟩, ?_, q⟩
    intro b hb
    have z : b = s1.heap.objs.size := by simpa using hb
    subst z
    exact I1.fpOk (Nat.le_refl _) I1.fresh
theorem ji_seq (h : JE X W e we) : JI X W tg e (wSeq we) := by
  refine PI.of (pi_any h) fun σ H R ⟨G, en, c, Q0, X0, s, er, q, x0, kk⟩ => ?_
  refine ⟨G, en, c, _, X0, s, er, q, x0, fun d c1 v H1 G1 q1 g1 s1 r1 => ?_⟩
  split at q1
  · rename_i l hl
    obtain ⟨a, vs, e1, h1, h2⟩ := seq_at s1 r1 hl
    have sv := srv_seq (l := l) r1 e1
    rcases h2 with ⟨ht, h2⟩ | ⟨ht, h2⟩
    · rw [if_pos ht] at sv
      exact .inr ⟨a, e1, ⟨vs, h2⟩, fun hh => kk l _ c1 _ H1 G1 (q1 (seq_len s1 hh r1 hl)) g1 s1 sv⟩
    · rw [if_neg (by rw [ht]; exact Bool.false_ne_true)] at sv
      exact .inl ⟨a, e1, ⟨vs, h2⟩, fun hh => kk l _ c1 _ H1 G1 (q1 (seq_len s1 hh r1 hl)) g1 s1 sv⟩
  · exact q1.elim
/-- range -/
def rgD (lo hi : Int) : List D := (List.range (hi - lo).toNat).map fun (i : Nat) => .int (lo + (i : Nat))
def wRg1 (we : WE) : WI := fun en c Q X => we en c (fun d c1 => match d with
  | .int j => -(2 ^ 62) ≤ j ∧ j < 2 ^ 62 ∧ Q (rgD 0 j) (fun _ => True) c1
  | _ => False) X
def wRg2 (wa wb : WE) : WI := fun en c Q X => wa en c (fun d c1 => wb en c1 (fun d' c2 => match d, d' with
  | .int i, .int j => (-(2 ^ 62) ≤ i ∧ i < 2 ^ 62 ∧ -(2 ^ 62) ≤ j ∧ j < 2 ^ 62) ∧ Q (rgD i j) (fun _ => True) c2
  | _, _ => False) X) X
theorem srv_rg {K : PySem.W.Frag} {G : Hp} (lo hi : Int) : Srv K G (Itr lo (hi - lo).toNat) (rgD lo hi) (fun _ => True) := by
  intro i G1 c H le s _
  unfold rgD
  refine ⟨fun d hd => ?_, fun hi' => ?_⟩
  · rw [List.getElem?_map] at hd
    cases e : (List.range (hi - lo).toNat)[i]? with
    | none => rw [e] at hd; cases hd
    | some j =>
      rw [e] at hd
      cases hd
      obtain ⟨h1, h2⟩ := List.getElem?_eq_some_iff.mp e
      rw [List.getElem_range] at h2
      subst h2
      rw [List.length_range] at h1
      refine ⟨h1, fun x H' y => ?_⟩
      obtain ⟨rfl, rfl⟩ := y
      exact ⟨G1, s, Gr.refl, rfl⟩
  · rw [List.length_map, List.length_range] at hi'
    exact hi'
theorem ji_rg1 (hm : X.mg "range" = none) (ha : JE X W a wa) (hg : Gl X "range" := by rfl) (hs : starEach [a] X.env = [(false, eval a X.env)] := by rfl) : JI X W tg (.Call (.Name "range" p) [a] [] pos) (wRg1 wa) := by
  refine PI.of (pi_range1 hg hm (pa_cons ha pa_nil hs) hs) fun σ H R ⟨G, en, c, Q0, X0, s, er, q, x0, kk⟩ => ?_
  refine ⟨G, en, c, _, X0, s, er, q, x0, fun d c1 v H1 G1 q1 g1 s1 r1 => ?_⟩
  cases d <;> first
    | exact q1.elim
    | skip
  rename_i j
  have e : v = .int j := r1
  subst e
  refine ⟨j, rfl, q1.1, q1.2.1, fun _ => kk _ _ c1 _ H1 G1 q1.2.2 g1 s1 ?_⟩
  have := srv_rg (K := X.K) (G := G1) 0 j
  rw [Int.sub_zero] at this
  exact this
/-- enumerate of a list -/
def enD (n : Nat) : List D → List D
  | [] => []
  | d :: l => .tup [.int n, d] :: enD (n + 1) l
theorem enD_length : ∀ (l : List D) (n : Nat), (enD n l).length = l.length
  | [], _ => rfl
  | d :: l, n => by rw [enD, List.length_cons, List.length_cons, enD_length l]
theorem enD_get : ∀ (l : List D) (n i : Nat) (y : D), (enD n l)[i]? = some y → ∃ d, l[i]? = some d ∧ y = .tup [.int ((n + i : Nat) : Int), d]
  | [], _, _, _, h => by simp [enD] at h
  | d :: l, n, 0, y, h => by
    simp [enD] at h
    exact ⟨d, rfl, by rw [← h]; simp⟩
  | d :: l, n, i + 1, y, h => by
    rw [enD, List.getElem?_cons_succ] at h
    obtain ⟨d', h1, h2⟩ := enD_get l (n + 1) i y h
    exact ⟨d', by simpa using h1, by rw [h2, Nat.add_assoc, Nat.add_comm 1 i]⟩
def wEnum (we : WE) : WI := fun en c Q X => we en c (fun d c1 => match seqOf c1 d with
  | some l => l.length ≤ sizeLine → Q (enD 0 l) (fun c' => seqOf c' d = some l) c1
  | none => False) X
theorem pair_new {K : PySem.W.Frag} {G : Hp} {c : Cs} {H : Hp} {T : Addr} {x y : V} {d d' : D} (s : SR K G c H) (n : H T = none) (r : Rep K G d x) (r' : Rep K G d' y) :
    ∃ G', SR K G' c (upd H T (.tup [x, y])) ∧ Gr G c H G' c (upd H T (.tup [x, y])) ∧ Rep K G' (.tup [d, d']) (.ref T) := by
  obtain ⟨s2, g2⟩ := s.newG (o := HO.tup [x, y]) n
  exact ⟨_, s2, g2, T, _, rfl, TupAt.of upd_same, x, [y], rfl, Rep.mono g2.g _ _ r, y, [], rfl, Rep.mono g2.g _ _ r', rfl⟩
theorem srv_enum {K : PySem.W.Frag} {G : Hp} {d : D} {v : V} {l : List D} (r : Rep K G d v) {a : Addr} (ea : v = .ref a) : Srv K G (if isTup d = true then IteT K a else Ite K a) (enD 0 l) (fun c' => seqOf c' d = some l) := by
  intro i G1 c H le s e
  obtain ⟨a', vs, e1, h1, h2⟩ := seq_at s (Rep.mono le _ _ r) e
  rw [ea] at e1
  cases e1
  rcases h2 with ⟨ht, h2⟩ | ⟨ht, h2⟩
  · rw [if_pos ht]
    refine ⟨fun y hy => ?_, fun hi => ⟨vs, h2, by rw [← h1.length, ← enD_length l 0]; exact hi⟩⟩
    obtain ⟨d', hd, rfl⟩ := enD_get l 0 i y hy
    obtain ⟨u, hu, ru⟩ := h1.get hd
    refine ⟨⟨vs, u, h2, hu⟩, fun x H' z => ?_⟩
    obtain ⟨T, w, rfl, hn, rfl, hw⟩ := z
    have := hw vs h2
    rw [hu] at this
    cases this
    rw [Nat.zero_add]
    exact pair_new s hn rfl ru
  · rw [if_neg (by rw [ht]; decide)]
    refine ⟨fun y hy => ?_, fun hi => ⟨vs, h2, by rw [← h1.length, ← enD_length l 0]; exact hi⟩⟩
    obtain ⟨d', hd, rfl⟩ := enD_get l 0 i y hy
    obtain ⟨u, hu, ru⟩ := h1.get hd
    refine ⟨⟨vs, u, h2, hu⟩, fun x H' z => ?_⟩
    obtain ⟨T, w, rfl, hn, rfl, hw⟩ := z
    have := hw vs h2
    rw [hu] at this
    cases this
    rw [Nat.zero_add]
    exact pair_new s hn rfl ru
theorem ji_enum {elts : List Expr} {kk' : Nat} (hm : X.mg "enumerate" = none) (ha : JE X W a wa) (hg : Gl X "enumerate" := by rfl) (hs : starEach [a] X.env = [(false, eval a X.env)] := by rfl) : JI X W (.Tuple elts kk' tpos) (.Call (.Name "enumerate" p) [a] [] pos) (wEnum wa) := by
  refine PI.of (pi_enumA hg hm (pa_cons ha pa_nil hs) hs) fun σ H R ⟨G, en, c, Q0, X0, s, er, q, x0, kk⟩ => ?_
  refine ⟨G, en, c, _, X0, s, er, q, x0, fun d c1 v H1 G1 q1 g1 s1 r1 => ?_⟩
  split at q1
  · rename_i l hl
    obtain ⟨a', vs, e1, h1, h2⟩ := seq_at s1 r1 hl
    have sv := srv_enum (l := l) r1 e1
    rcases h2 with ⟨ht, h2⟩ | ⟨ht, h2⟩
    · rw [if_pos ht] at sv
      exact ⟨a', vs, by rw [e1], .inr ⟨h2, fun hh => kk _ _ c1 _ H1 G1 (q1 (seq_len s1 hh r1 hl)) g1 s1 sv⟩⟩
    · rw [if_neg (by rw [ht]; decide)] at sv
      exact ⟨a', vs, by rw [e1], .inl ⟨h2, fun hh => kk _ _ c1 _ H1 G1 (q1 (seq_len s1 hh r1 hl)) g1 s1 sv⟩⟩
  · exact q1.elim
/-- zip of two lists, of two tuples -/
def wZip (wa wb : WE) : WI := fun en c Q X => wa en c (fun d c1 => wb en c1 (fun d' c2 => match seqOf c2 d, seqOf c2 d' with
  | some l, some m => isTup d = isTup d' ∧ (l.length ≤ sizeLine → m.length ≤ sizeLine → Q (List.zipWith (fun x y => .tup [x, y]) l m) (fun c' => seqOf c' d = some l ∧ seqOf c' d' = some m) c2)
  | _, _ => False) X) X
theorem srv_zip {K : PySem.W.Frag} {G : Hp} {d d' : D} {v v' : V} {l m : List D} (r : Rep K G d v) (r' : Rep K G d' v') {a b : Addr} (ea : v = .ref a) (eb : v' = .ref b) (ht : isTup d = isTup d') :
    Srv K G (if isTup d = true then ItzT K a b else Itz K a b) (List.zipWith (fun x y => .tup [x, y]) l m) (fun c' => seqOf c' d = some l ∧ seqOf c' d' = some m) := by
  intro i G1 c H le s ⟨e, e'⟩
  obtain ⟨a', vs, e1, h1, h2⟩ := seq_at s (Rep.mono le _ _ r) e
  obtain ⟨b', ws, e3, h3, h4⟩ := seq_at s (Rep.mono le _ _ r') e'
  rw [ea] at e1
  rw [eb] at e3
  cases e1
  cases e3
  have both : ∀ y, (List.zipWith (fun x y => D.tup [x, y]) l m)[i]? = some y → ∃ p q u w, vs[i]? = some u ∧ ws[i]? = some w ∧ Rep K G1 p u ∧ Rep K G1 q w ∧ y = .tup [p, q] := fun y hy => by
    rw [List.getElem?_zipWith] at hy
    cases hl : l[i]? with
    | none => rw [hl] at hy; simp at hy
    | some p =>
      cases hm : m[i]? with
      | none => rw [hl, hm] at hy; simp at hy
      | some q =>
        rw [hl, hm] at hy
        obtain ⟨u, hu, ru⟩ := h1.get hl
        obtain ⟨w, hw, rw'⟩ := h3.get hm
        exact ⟨p, q, u, w, hu, hw, ru, rw', by simpa using hy.symm⟩
  have stop : (List.zipWith (fun x y => D.tup [x, y]) l m).length ≤ i → vs.length ≤ i ∨ ws.length ≤ i := fun h => by
    rw [List.length_zipWith, h1.length, h3.length] at h
    omega
  rcases h2 with ⟨t1, h2⟩ | ⟨t1, h2⟩
  · rcases h4 with ⟨t2, h4⟩ | ⟨t2, h4⟩
    · rw [if_pos t1]
      refine ⟨fun y hy => ?_, fun hi => ⟨vs, ws, h2, h4, stop hi⟩⟩
      obtain ⟨p, q, u, w, hu, hw, ru, rw', rfl⟩ := both y hy
      refine ⟨⟨vs, ws, u, w, h2, h4, hu, hw⟩, fun x H' z => ?_⟩
      obtain ⟨T, u', w', rfl, hn, rfl, k1, k2⟩ := z
      have z1 := k1 vs h2
      have z2 := k2 ws h4
      rw [hu] at z1
      rw [hw] at z2
      cases z1
      cases z2
      exact pair_new s hn ru rw'
    · rw [t1, t2] at ht; cases ht
  · rcases h4 with ⟨t2, h4⟩ | ⟨t2, h4⟩
    · rw [t1, t2] at ht; cases ht
    · rw [if_neg (by rw [t1]; exact Bool.false_ne_true)]
      refine ⟨fun y hy => ?_, fun hi => ⟨vs, ws, h2, h4, stop hi⟩⟩
      obtain ⟨p, q, u, w, hu, hw, ru, rw', rfl⟩ := both y hy
      refine ⟨⟨vs, ws, u, w, h2, h4, hu, hw⟩, fun x H' z => ?_⟩
      obtain ⟨T, u', w', rfl, hn, rfl, k1, k2⟩ := z
      have z1 := k1 vs h2
      have z2 := k2 ws h4
      rw [hu] at z1
      rw [hw] at z2
      cases z1
      cases z2
      exact pair_new s hn ru rw'
theorem ji_zip {elts : List Expr} {kk' : Nat} (hm : X.mg "zip" = none) (ha : JE X W a wa) (hb : JE X W b wb) (hg : Gl X "zip" := by rfl) (hs2 : starEach [b] X.env = [(false, eval b X.env)] := by rfl)
    (hs : starEach [a, b] X.env = (false, eval a X.env) :: starEach [b] X.env := by rfl) (hpl : (backTo pos (starEach [b] X.env)).any (·.1) = false := by rfl) : JI X W (.Tuple elts kk' tpos) (.Call (.Name "zip" p) [a, b] [] pos) (wZip wa wb) := by
  refine PI.of (pi_zipA hg hm (pa_cons ha (pa_cons hb pa_nil hs2) hs) hs hpl) fun σ H R ⟨G, en, c, Q0, X0, s, er, q, x0, kk⟩ => ?_
  refine ⟨G, en, c, _, X0, s, er, q, x0, fun d c1 v H1 G1 q1 g1 s1 r1 => ?_⟩
  refine ⟨G1, en, c1, _, X0, s1, er.mono g1.g, q1, x0.more g1, fun d' c2 v' H2 G2 q2 g2 s2 r2 => ?_⟩
  have r1' := Rep.mono g2.g _ _ r1
  split at q2
  · rename_i l m hl hm'
    obtain ⟨ht, q2⟩ := q2
    obtain ⟨a', vs, e1, h1, h2⟩ := seq_at s2 r1' hl
    obtain ⟨b', ws, e3, h3, h4⟩ := seq_at s2 r2 hm'
    have sv := srv_zip (l := l) (m := m) r1' r2 e1 e3 ht
    refine ⟨a', b', vs, ws, by rw [e1, e3], ?_⟩
    rcases h2 with ⟨t1, h2⟩ | ⟨t1, h2⟩
    · rcases h4 with ⟨t2, h4⟩ | ⟨t2, h4⟩
      · rw [if_pos t1] at sv
        exact .inr ⟨h2, h4, fun hh => kk _ _ c2 _ H2 G2 (q2 (seq_len s2 hh r1' hl) (seq_len s2 hh r2 hm')) (g1.trans g2) s2 sv⟩
      · rw [t1, t2] at ht; cases ht
    · rcases h4 with ⟨t2, h4⟩ | ⟨t2, h4⟩
      · rw [t1, t2] at ht; cases ht
      · rw [if_neg (by rw [t1]; exact Bool.false_ne_true)] at sv
        exact .inl ⟨h2, h4, fun hh => kk _ _ c2 _ H2 G2 (q2 (seq_len s2 hh r1' hl) (seq_len s2 hh r2 hm')) (g1.trans g2) s2 sv⟩
  · exact q2.elim
end
inductive Tg where
  | nm (i : Nat)
  | tup (ts : List Tg)
mutual
def gTg (K : PySem.W.Frag) : Tg → TG
  | .nm i => gName i
  | .tup ts => fun v σ H Q => gTup K ts.length (gTgs K ts) v σ H Q ∨ gUnl K ts.length (gTgs K ts) v σ H Q
def gTgs (K : PySem.W.Frag) : List Tg → TGs
  | [] => gNil
  | t :: ts => gCons (gTg K t) (gTgs K ts)
end
mutual
def bindT : Tg → D → En → Option En
  | .nm i, d, en => some (en.set i (some d))
  | .tup ts, d, en => match d with
    | .tup ds => bindTs ts ds en
    | .lst ds => bindTs ts ds en
    | _ => none
def bindTs : List Tg → List D → En → Option En
  | [], [], en => some en
  | t :: ts, d :: ds, en => match bindT t d en with
    | some en' => bindTs ts ds en'
    | none => none
  | _, _, _ => none
end
mutual
def slotsT : Tg → List Nat
  | .nm i => [i]
  | .tup ts => slotsTs ts
def slotsTs : List Tg → List Nat
  | [] => []
  | t :: ts => slotsT t ++ slotsTs ts
end
theorem wipe_set {σ : L2.St} {i : Nat} {o : Option V} : ∀ {vs : List Nat}, i ∈ vs → wipe (σ.set i o) vs = wipe σ vs
  | v :: vs, h => by
    unfold wipe
    by_cases e : i ∈ vs
    · rw [wipe_set e]
    · have hv : i = v := by
        rcases List.mem_cons.mp h with h | h
        · exact h
        · exact absurd h e
      subst hv
      have out : ∀ ws : List Nat, i ∉ ws → wipe (σ.set i o) ws = (wipe σ ws).set i o := fun ws => by
        induction ws with
        | nil => intro _; rfl
        | cons w ws ih =>
          intro hn
          rw [List.mem_cons, not_or] at hn
          unfold wipe
          rw [ih hn.2, List.set_comm _ _ hn.1]
      rw [out vs e, List.set_set]
theorem pg_any {es : List Expr} {k n : Nat} {pos : Pos} {X : Cx} {t : TGs} (hc : X.calm = true) (h : PGs X es t) (hn : (assignEach es X.env).length = n) (hst : (assignEach es X.env).findIdx? (·.1) = none) :
    PG X (.Tuple es k pos) (fun v σ H Q => gTup X.K n t v σ H Q ∨ gUnl X.K n t v σ H Q) :=
  ⟨fun pins s σ H v u Q I r q => q.elim (fun q => (pg_tup hc h hn hst).run pins s σ H v u Q I r q) (fun q => (pg_unl hc h hn hst).run pins s σ H v u Q I r q)⟩
mutual
theorem gTg_ok {K : PySem.W.Frag} {G H : Hp} (le : Le G H) {vs : List Nat} : ∀ (t : Tg) (d : D) (v : V) (en en' : En) (σ : L2.St) (Q : L2.St → Hp → Prop), (∀ i ∈ slotsT t, i ∈ vs) → EnR K G en σ → Rep K G d v → bindT t d en = some en' →
    (∀ σ', EnR K G en' σ' → wipe σ' vs = wipe σ vs → Q σ' H) → gTg K t v σ H Q
  | .nm i, d, v, en, en', σ, Q, hv, er, r, hb, k => by
    cases hb
    exact k _ (er.set r) (wipe_set (hv i (by simp [slotsT])))
  | .tup ts, d, v, en, en', σ, Q, hv, er, r, hb, k => by
    cases d <;> first
      | (simp [bindT] at hb; done)
      | skip
    · rename_i ds
      have hb : bindTs ts ds en = some en' := by simpa [bindT] using hb
      obtain ⟨a, us, rfl, h1, h2⟩ := r
      exact .inl ⟨a, us, rfl, le.sqT h1.sq, by rw [← h2.length]; exact bindTs_len ts ds en en' hb, gTgs_ok le ts ds us en en' σ Q (by simpa [slotsT] using hv) er h2 hb k⟩
    · rename_i ds
      have hb : bindTs ts ds en = some en' := by simpa [bindT] using hb
      obtain ⟨a, us, rfl, h1, h2⟩ := r
      exact .inr ⟨a, us, rfl, SqL.of (le _ _ h1), by rw [← h2.length]; exact bindTs_len ts ds en en' hb, gTgs_ok le ts ds us en en' σ Q (by simpa [slotsT] using hv) er h2 hb k⟩
theorem gTgs_ok {K : PySem.W.Frag} {G H : Hp} (le : Le G H) {vs : List Nat} : ∀ (ts : List Tg) (ds : List D) (us : List V) (en en' : En) (σ : L2.St) (Q : L2.St → Hp → Prop), (∀ i ∈ slotsTs ts, i ∈ vs) → EnR K G en σ → Reps K G ds us → bindTs ts ds en = some en' →
    (∀ σ', EnR K G en' σ' → wipe σ' vs = wipe σ vs → Q σ' H) → gTgs K ts us σ H Q
  | [], [], us, en, en', σ, Q, hv, er, r, hb, k => by
    cases r
    cases hb
    exact ⟨rfl, k σ er rfl⟩
  | [], _ :: _, _, _, _, _, _, _, _, _, hb, _ => by simp [bindTs] at hb
  | _ :: _, [], _, _, _, _, _, _, _, _, hb, _ => by simp [bindTs] at hb
  | t :: ts, d :: ds, us, en, en', σ, Q, hv, er, r, hb, k => by
    obtain ⟨v, us', rfl, h1, h2⟩ := r
    have hv : (∀ i ∈ slotsT t, i ∈ vs) ∧ ∀ i ∈ slotsTs ts, i ∈ vs := ⟨fun i h => hv i (by simp [slotsTs, h]), fun i h => hv i (by simp [slotsTs, h])⟩
    cases e : bindT t d en with
    | none => simp [bindTs, e] at hb
    | some en1 =>
      have hb : bindTs ts ds en1 = some en' := by simpa [bindTs, e] using hb
      refine ⟨v, us', rfl, gTg_ok le t d v en en1 σ _ hv.1 er h1 e fun σ1 er1 w1 => ?_⟩
      exact gTgs_ok le ts ds us' en1 en' σ1 Q hv.2 er1 h2 hb fun σ2 er2 w2 => k σ2 er2 (w2.trans w1)
theorem bindTs_len : ∀ (ts : List Tg) (ds : List D) (en en' : En), bindTs ts ds en = some en' → ds.length = ts.length
  | [], [], _, _, _ => rfl
  | [], _ :: _, _, _, hb => by simp [bindTs] at hb
  | _ :: _, [], _, _, hb => by simp [bindTs] at hb
  | t :: ts, d :: ds, en, en', hb => by
    cases e : bindT t d en with
    | none => simp [bindTs, e] at hb
    | some en1 =>
      have hb : bindTs ts ds en1 = some en' := by simpa [bindTs, e] using hb
      simp [bindTs_len ts ds en1 en' hb]
end
end VL
namespace VL
open PySem PySem.Spec PyProof.Rows L2
section
variable {X : Cx} {W : WX} {tg e a b : Expr} {es : List Expr} {we wa wb : WE} {ws : WA} {x : Str} {p pos pos' tpos : Pos} {k : Nat} {st : Stmt} {rest : List Stmt} {t u : WS} {wt : WT}
def sNil : WS := fun D _ en c => D.nx en c
def sSeq (t u : WS) : WS := fun D X en c => t { D with nx := fun en' c' => u D X en' c' } X en c
theorem jss_nil : JSs X W [] sNil := PSs.of pss_nil fun D σ H ⟨G, en, c, D0, X0, s, er, q, x0, k⟩ => k.nx en c σ H G q Gr.refl s er
theorem jss_cons (h1 : JS X W st t) (h2 : JSs X W rest u) : JSs X W (st :: rest) (sSeq t u) := by
  refine PSs.of (pss_cons h1 h2) fun D σ H ⟨G, en, c, D0, X0, s, er, q, x0, k⟩ => ?_
  refine ⟨G, en, c, _, X0, s, er, q, x0, ⟨fun en' c' σ' H' G' q' g' s' e' => ?_, k.rt, k.bk, k.ct⟩⟩
  exact ⟨G', en', c', D0, X0, s', e', q', x0.more g', k.more g'⟩
theorem jss_one (h1 : JS X W st t) : JSs X W [st] t := pss_one h1
def sPass : WS := fun D _ en c => D.nx en c
def sBrk : WS := fun D _ en c => D.bk en c
def sCont : WS := fun D _ en c => D.ct en c
def sExpr (we : WE) : WS := fun D X en c => we en c (fun _ c' => D.nx en c') X
theorem js_expr (h : JE X W e we) (hs : swapsWith e none pos.line X.env = pure false := by rfl) : JS X W (.Expr e pos) (sExpr we) := by
  refine PS.of (ps_expr h hs) fun D σ H ⟨G, en, c, D0, X0, s, er, q, x0, k⟩ => ?_
  exact ⟨G, en, c, _, X0, s, er, q, x0, fun d c' v H' G' q' g' s' _ => k.nx en c' σ H' G' q' g' s' (er.mono g'.g)⟩
def sRet (we : WE) : WS := fun D X en c => we en c D.rt X
theorem js_ret (h : JE X W e we) : JS X W (.Return (some e) pos) (sRet we) := by
  refine PS.of (ps_ret h) fun D σ H ⟨G, en, c, D0, X0, s, er, q, x0, k⟩ => ?_
  exact ⟨G, en, c, _, X0, s, er, q, x0, k.rt⟩
def sRetN : WS := fun D _ _ c => D.rt .non c
def sIf (wt : WT) (t u : WS) : WS := fun D X en c => wt en c (fun b c' => if b = true then t D X en c' else u D X en c') X
theorem js_if {body orelse : List Stmt} (hc : JT X W e wt) (ha : JSs X W body t) (hb : JSs X W orelse u) : JS X W (.If e body orelse pos) (sIf wt t u) := by
  refine PS.of (ps_if hc ha hb) fun D σ H ⟨G, en, c, D0, X0, s, er, q, x0, k⟩ => ?_
  refine ⟨G, en, c, _, X0, s, er, q, x0, fun d c1 H1 G1 q1 g1 s1 => ?_⟩
  cases d with
  | true => exact iteT ⟨G1, en, c1, D0, X0, s1, er.mono g1.g, by simpa using q1, x0.more g1, k.more g1⟩
  | false => exact iteF ⟨G1, en, c1, D0, X0, s1, er.mono g1.g, by simpa using q1, x0.more g1, k.more g1⟩
/-- never reached -/
def sNever : WS := fun _ _ _ _ => False
def sSet (i : Nat) (we : WE) : WS := fun D X en c => we en c (fun d c' => D.nx (en.set i (some d)) c') X
theorem js_set (i : Nat) {y : Str} {pos' : Pos} (hN : X.N.Nodup) (he : JE X W e we) (hi : X.N[i]? = some y := by rfl) (hx : Loc X.env.scope y := by first | exact Or.inl rfl | exact Or.inr rfl)
    (hs : swapsWith e (some (.Name y pos')) pos.line X.env = pure false := by rfl) (hf : X.fn y = true ∨ X.env.scope.names.lookup y = some .local := by first | exact .inl rfl | exact .inr rfl | assumption) :
    JS X W (.Assign [.Name y pos'] e pos) (sSet i we) := by
  refine PS.of (ps_set hN hi hx he hs hf) fun D σ H ⟨G, en, c, D0, X0, s, er, q, x0, k⟩ => ?_
  exact ⟨G, en, c, _, X0, s, er, q, x0, fun d c' v H' G' q' g' s' r' => k.nx _ c' _ H' G' q' g' s' ((er.mono g'.g).set r')⟩
/-- name op= value -/
def sAug (i : Nat) (o : Op2) (we : WE) : WS := fun D X en c => match en[i]? with
  | some (some x) => we en c (fun y c1 => o x y c1 (fun z c2 => D.nx (en.set i (some z)) c2)) X
  | _ => False
abbrev WG := D → En → Cs → (En → Cs → Prop) → XD → Prop
abbrev WGs := List D → En → Cs → (En → Cs → Prop) → XD → Prop
def rdG (K : PySem.W.Frag) (mg : Str → Option Value) (W : WX) (wg : WG) : TG := fun v σ H Q => ∃ G en c d Q0 X0, SR K G c H ∧ EnR K G en σ ∧ Rep K G d v ∧ wg d en c Q0 X0 ∧ XOk K mg W X0 G c H ∧ StK K G c H Q0 Q
def rdGs (K : PySem.W.Frag) (mg : Str → Option Value) (W : WX) (wg : WGs) : TGs := fun vs σ H Q => ∃ G en c ds Q0 X0, SR K G c H ∧ EnR K G en σ ∧ Reps K G ds vs ∧ wg ds en c Q0 X0 ∧ XOk K mg W X0 G c H ∧ StK K G c H Q0 Q
abbrev JG (X : Cx) (W : WX) (tg : Expr) (wg : WG) : Prop := PG X tg (rdG X.K X.mg W wg)
abbrev JGs (X : Cx) (W : WX) (tg : List Expr) (wg : WGs) : Prop := PGs X tg (rdGs X.K X.mg W wg)
theorem PGs.of {es : List Expr} {t t' : TGs} (h : PGs X es t) (k : ∀ v σ H Q, t' v σ H Q → t v σ H Q) : PGs X es t' := ⟨fun pins s σ H v u Q I r q => h.run pins s σ H v u Q I r (k v σ H Q q)⟩
def gNm (i : Nat) : WG := fun d en c Q _ => Q (en.set i (some d)) c
theorem jg_nm (i : Nat) {y : Str} (hN : X.N.Nodup) (hi : X.N[i]? = some y := by rfl) (hx : Loc X.env.scope y := by first | exact Or.inl rfl | exact Or.inr rfl) (hf : X.fn y = true ∨ X.env.scope.names.lookup y = some .local := by first | exact .inl rfl | exact .inr rfl | assumption) :
    JG X W (.Name y pos) (gNm i) := PG.of (pg_name hN hi hx hf) fun v σ H Q ⟨G, en, c, d, Q0, X0, s, er, r, q, x0, k⟩ => k _ c _ H G q Gr.refl s (er.set r)
def gNil' : WGs := fun ds en c Q _ => ds = [] ∧ Q en c
def gCons' (g : WG) (gs : WGs) : WGs := fun ds en c Q X => match ds with
  | d :: r => g d en c (fun en1 c1 => gs r en1 c1 Q X) X
  | [] => False
variable {g : WG} {gs : WGs}
theorem jgs_nil : JGs X W [] gNil' := PGs.of pgs_nil fun vs σ H Q ⟨G, en, c, ds, Q0, X0, s, er, r, q, x0, k⟩ => by
  obtain ⟨rfl, q⟩ := q
  cases r
  exact ⟨rfl, k _ c _ H G q Gr.refl s er⟩
theorem jgs_cons (h1 : JG X W e g) (h2 : JGs X W es gs) (hs : (assignEach (e :: es) X.env).map (·.2) = assign e X.env :: (assignEach es X.env).map (·.2) := by rfl) : JGs X W (e :: es) (gCons' g gs) := by
  refine PGs.of (pgs_cons h1 h2 hs) fun vs σ H Q ⟨G, en, c, ds, Q0, X0, s, er, r, q, x0, k⟩ => ?_
  cases ds with
  | nil => exact q.elim
  | cons d ds =>
    obtain ⟨v, us, rfl, r1, r2⟩ := r
    refine ⟨v, us, rfl, G, en, c, d, _, X0, s, er, r1, q, x0, fun en1 c1 σ1 H1 G1 q1 g1 s1 e1 => ?_⟩
    exact ⟨G1, en1, c1, ds, Q0, X0, s1, e1, Reps.mono g1.g _ _ r2, q1, x0.more g1, fun en' c' σ' H' G' z g' s' e' => k en' c' σ' H' G' z (g1.trans g') s' e'⟩
/-- a tuple of n things -/
def gTp (n : Nat) (gs : WGs) : WG := fun d en c Q X => match d with
  | .tup ds => ds.length = n ∧ gs ds en c Q X
  | .lst ds => ds.length = n ∧ gs ds en c Q X
  | _ => False
theorem jg_tp {k' n : Nat} (hc : X.calm = true) (h : JGs X W es gs) (hn : (assignEach es X.env).length = n := by rfl) (hst : (assignEach es X.env).findIdx? (·.1) = none := by rfl) : JG X W (.Tuple es k' pos) (gTp n gs) := by
  refine PG.of (pg_any hc h hn hst) fun v σ H Q ⟨G, en, c, d, Q0, X0, s, er, r, q, x0, k⟩ => ?_
  cases d <;> first
    | exact q.elim
    | skip
  · obtain ⟨a, vs, rfl, h1, h2⟩ := r
    exact .inl ⟨a, vs, rfl, s.sub.sqT h1.sq, by rw [← h2.length]; exact q.1, G, en, c, _, Q0, X0, s, er, h2, q.2, x0, k⟩
  · obtain ⟨a, vs, rfl, h1, h2⟩ := r
    exact .inr ⟨a, vs, rfl, SqL.of (s.sub _ _ h1), by rw [← h2.length]; exact q.1, G, en, c, _, Q0, X0, s, er, h2, q.2, x0, k⟩
/-- o[i] = d by data -/
def oSetIx : D → D → D → Cs → (Cs → Prop) → Prop := fun o i d c Q => match i with
  | .int i => ∃ p l j, liveOf c o = some (p, l) ∧ ixN l.length i = some j ∧ Q (cup c p (.lst (l.set j d)))
  | _ => False
def gSb (wo wi : WE) : WG := fun d en c Q X => wo en c (fun o c1 => wi en c1 (fun i c2 => oSetIx o i d c2 (fun c3 => Q en c3)) X) X
theorem setIx_ok {G : Hp} {c : Cs} {H : Hp} {o i d : D} {vo vi vd : V} {Q : Cs → Prop} {R : Hp → Prop} (s : SR X.K G c H) (ro : Rep X.K G o vo) (ri : Rep X.K G i vi) (rd : Rep X.K G d vd) (q : oSetIx o i d c Q)
    (k : ∀ c' H', Q c' → Gr G c H G c' H' → SR X.K G c' H' → R H') : rSetL vo vi vd H R := by
  unfold oSetIx at q
  split at q
  · obtain ⟨p, l, j, e, hj, q⟩ := q
    obtain ⟨rfl, h1, h2, ws, h3, h4⟩ := live_at s ro e
    refine ⟨p, ws, _, j, rfl, ri, h3, by rw [← h4.length]; exact hj, ?_⟩
    obtain ⟨s2, g2⟩ := s.write (o := HO.lst (ws.set j vd)) (y := .lst (l.set j d)) h1 h2 ⟨h2, _, upd_same, Reps.set rd j h4⟩
    exact k _ _ q g2 s2
  · exact q.elim
theorem jg_sb (ho : JE X W a wa) (hi : JE X W b wb) (ha : ∀ v, assign (.Subscript a b pos) X.env v = (do
      let ov ← holding [v] (eval a X.env)
      let iv ← holding [v, ov] (eval b X.env)
      standAt pos
      holding [v, ov, iv] (setItem ov iv v)
      release [v, ov, iv] []) := by intro _; rfl) : JG X W (.Subscript a b pos) (gSb wa wb) := by
  refine PG.of (pg_sub ho hi set_list ha) fun v σ H Q ⟨G, en, c, d, Q0, X0, s, er, r, q, x0, k⟩ => ?_
  refine ⟨G, en, c, _, X0, s, er, q, x0, fun d1 c1 v1 H1 G1 q1 g1 s1 r1 => ?_⟩
  refine ⟨G1, en, c1, _, X0, s1, er.mono g1.g, q1, x0.more g1, fun d2 c2 v2 H2 G2 q2 g2 s2 r2 => ?_⟩
  refine setIx_ok s2 (Rep.mono g2.g _ _ r1) r2 (Rep.mono (g1.trans g2).g _ _ r) q2 fun c' H' z g' s' => ?_
  exact k en c' σ H' G2 z ((g1.trans g2).trans g') s' (er.mono ((g1.trans g2).trans g').g)
def sAsg (we : WE) (g : WG) : WS := fun D X en c => we en c (fun d c1 => g d en c1 (fun en' c' => D.nx en' c') X) X
theorem js_asg (he : JE X W e we) (hg : JG X W tg g) (hs : swapsWithSole [tg] e pos.line X.env = pure false := by rfl) (hw : swappedStores [tg] e X.env = pure none := by rfl)
    (h1 : (assignEach [tg] X.env).map (·.2) = [assign tg X.env] := by rfl) : JS X W (.Assign [tg] e pos) (sAsg we g) := by
  refine PS.of (ps_asg he hg hs hw h1) fun D σ H ⟨G, en, c, D0, X0, s, er, q, x0, k⟩ => ?_
  refine ⟨G, en, c, _, X0, s, er, q, x0, fun d c1 v H1 G1 q1 g1 s1 r1 => ?_⟩
  exact ⟨G1, en, c1, d, _, X0, s1, er.mono g1.g, r1, q1, x0.more g1, fun en' c' σ' H' G' z g' s' e' => k.nx en' c' σ' H' G' z (g1.trans g') s' e'⟩
/-- a, b = x, y of plain names: stored without a tuple -/
def sPar (i j : Nat) (ws : WA) : WS := fun D X en c => ws en c (fun ds c' => match ds with
  | [d, d'] => D.nx ((en.set i (some d)).set j (some d')) c'
  | _ => False) X
theorem js_par (i j : Nat) {y z : Str} {px py pt : Pos} {kt k2 : Nat} {pt2 : Pos} (hc : X.calm = true) (hN : X.N.Nodup) (ha : JA X W [a, b] ws) (hij : i ≠ j := by decide) (hi : X.N[i]? = some y := by rfl) (hj : X.N[j]? = some z := by rfl)
    (hx : X.env.scope.names.lookup y = some .local := by rfl) (hy : X.env.scope.names.lookup z = some .local := by rfl)
    (hw : swappedStores [.Tuple [.Name y px, .Name z py] kt pt] (.Tuple [a, b] k2 pt2) X.env = pure (some [y, z]) := by rfl)
    (hs : swapsWithSole [.Tuple [.Name y px, .Name z py] kt pt] (.Tuple [a, b] k2 pt2) pos.line X.env = pure false := by rfl) :
    JS X W (.Assign [.Tuple [.Name y px, .Name z py] kt pt] (.Tuple [a, b] k2 pt2) pos) (sPar i j ws) := by
  refine PS.of (ps_par hc hN hi hj hij hx hy ha hw hs) fun D σ H ⟨G, en, c, D0, X0, s, er, q, x0, k⟩ => ?_
  refine ⟨G, en, c, _, X0, s, er, q, x0, fun ds c1 vs H1 G1 q1 g1 s1 r1 => ?_⟩
  split at q1
  · obtain ⟨v, u, rfl, r1, r2⟩ := Reps.two' r1
    exact ⟨v, u, rfl, k.nx _ c1 _ H1 G1 q1 g1 s1 (((er.mono g1.g).set r1).set r2)⟩
  · exact q1.elim
/-- the rest of the items -/
def loopW (chk : Cs → Prop) (t : Tg) (wb : WS) (D0 : EndD) (X : XD) : List D → En → Cs → Prop
  | [], en, c => chk c ∧ D0.nx en c
  | d :: r, en, c => chk c ∧ match bindT t d en with
    | some en' => wb { D0 with nx := loopW chk t wb D0 X r, ct := loopW chk t wb D0 X r, bk := D0.nx } X en' c
    | none => False
def sFor (wi : WI) (t : Tg) (wb : WS) : WS := fun D X en c => wi en c (fun ds chk c1 => loopW chk t wb D X ds en c1) X
abbrev JTg (X : Cx) (tg : Expr) (t : Tg) : Prop := PG X tg (gTg X.K t)
theorem jt_nm (i : Nat) {y : Str} (hN : X.N.Nodup) (hi : X.N[i]? = some y := by rfl) (hx : Loc X.env.scope y := by first | exact Or.inl rfl | exact Or.inr rfl) (hf : X.fn y = true ∨ X.env.scope.names.lookup y = some .local := by first | exact .inl rfl | exact .inr rfl | assumption) :
    JTg X (.Name y pos) (.nm i) := pg_name hN hi hx hf
abbrev JTgs (X : Cx) (es : List Expr) (ts : List Tg) : Prop := PGs X es (gTgs X.K ts)
theorem jtgs_nil : JTgs X [] [] := pgs_nil
theorem jtgs_cons {tt : Tg} {ts : List Tg} (h1 : JTg X e tt) (h2 : JTgs X es ts) (hs : (assignEach (e :: es) X.env).map (·.2) = assign e X.env :: (assignEach es X.env).map (·.2) := by rfl) : JTgs X (e :: es) (tt :: ts) := pgs_cons h1 h2 hs
theorem jt_tp {k' : Nat} {ts : List Tg} (hc : X.calm = true) (h : JTgs X es ts) (hn : (assignEach es X.env).length = ts.length := by rfl) (hst : (assignEach es X.env).findIdx? (·.1) = none := by rfl) : JTg X (.Tuple es k' pos) (.tup ts) := pg_any hc h hn hst
theorem js_for {body : List Stmt} {wi : WI} {tt : Tg} {wb : WS} (hp : PassesOwn (model X.prog X.w) X.A X.env X.xe) (hc : X.calm = true) (hi : JI X W tg e wi) (hg : JTg X tg tt) (hb : JSs X W body wb)
    (hs : ∀ x, foldedSetIterable e X.env x = pure x := by intro _; rfl) : JS X W (.For tg e body [] pos) (sFor wi tt wb) := by
  refine PS.of (ps_for hp hc hi hg hb hs) fun D σ H ⟨G, en, c, D0, X0, s, er, q, x0, k⟩ => ?_
  refine ⟨G, en, c, _, X0, s, er, q, x0, fun ds chk c1 J H1 G1 q1 g1 s1 sv => ?_⟩
  refine ⟨fun i m σ H => ∃ G en c, Gr G1 c1 H1 G c H ∧ SR X.K G c H ∧ EnR X.K G en σ ∧ i ≤ ds.length ∧ m = ds.length - i ∧ loopW chk tt wb D0 X0 (ds.drop i) en c, ⟨ds.length, G1, en, c1, Gr.refl, s1, er.mono g1.g, Nat.zero_le _, rfl, q1⟩, ?_⟩
  rintro i m σ2 H2 ⟨G2, en2, c2, g2, s2, er2, hi2, rfl, lw⟩
  by_cases hlt : i < ds.length
  · rw [List.drop_eq_getElem_cons hlt] at lw
    obtain ⟨hck, lw⟩ := lw
    have hd : ds[i]? = some ds[i] := List.getElem?_eq_getElem hlt
    obtain ⟨hgo, hy⟩ := (sv i G2 c2 H2 g2.g s2 hck).1 _ hd
    split at lw
    · rename_i en3 hb3
      refine .inr ⟨hgo, fun σ' H' => ∃ G en c, Gr G1 c1 H1 G c H' ∧ SR X.K G c H' ∧ EnR X.K G en σ' ∧ loopW chk tt wb D0 X0 (ds.drop (i + 1)) en c, ?_, ?_⟩
      · rintro σ' H' ⟨G, en, c, h1, h2, h3, h4⟩
        exact ⟨ds.length - (i + 1), by omega, G, en, c, h1, h2, h3, hlt, rfl, h4⟩
      · intro x H' y
        obtain ⟨G3, s3, g3, r3⟩ := hy x H' y
        refine gTg_ok (vs := slotsT tt) s3.sub tt _ x en2 en3 σ2 _ (fun _ h => h) (er2.mono g3.g) r3 hb3 fun σ3 er3 _ => ?_
        have gg := (g1.trans g2).trans g3
        refine ⟨G3, en3, c2, _, X0, s3, er3, lw, x0.more gg, ⟨?_, k.rt.more gg, ?_, ?_⟩⟩
        · exact fun en' c' σ' H' G' z g' s' e' => ⟨G', en', c', (g2.trans g3).trans g', s', e', z⟩
        · exact fun en' c' σ' H' G' z g' s' e' => k.nx en' c' σ' H' G' z (gg.trans g') s' e'
        · exact fun en' c' σ' H' G' z g' s' e' => ⟨G', en', c', (g2.trans g3).trans g', s', e', z⟩
    · exact lw.elim
  · have hi3 : i = ds.length := by omega
    subst hi3
    rw [List.drop_length] at lw
    obtain ⟨hck, lw⟩ := lw
    exact .inl ⟨(sv _ G2 c2 H2 g2.g s2 hck).2 (Nat.le_refl _), k.nx en2 c2 σ2 H2 G2 lw (g1.trans g2) s2 er2⟩
end
end VL
namespace VL
open PySem PySem.Spec PyProof.Rows L2
theorem Gr.beside {G1 c1 H1 G c H} {p : Addr} {o : HO} (h : H1 p = none) (g : Gr G1 c1 H1 G c H) : Gr G1 c1 H1 G c (upd H p o) :=
  ⟨g.g, fun a u e n => by rw [upd_ne (ne_of_none e h)]; exact g.keep a u e n, g.nc, g.ng⟩
theorem Gr.at_ {G c H G' c' H'} {p : Addr} {o : HO} (g : Gr G c H G' c' H') (h : H p = some o) (hc : c p = none) (hg : G p = none) : H' p = some o ∧ c' p = none ∧ G' p = none := by
  refine ⟨g.keep p o h hc, ?_, ?_⟩
  · cases e : c' p with
    | none => rfl
    | some x =>
      rcases g.nc p (by rw [e]; simp) with z | z
      · exact absurd hc z
      · rw [h] at z; cases z
  · cases e : G' p with
    | none => rfl
    | some x =>
      rcases g.ng p x e with z | z | z
      · rw [hg] at z; cases z
      · exact absurd hc z
      · rw [h] at z; cases z
theorem adoptG {K : PySem.W.Frag} {G1 c1 H1 G c H} {p : Addr} {vs : List V} (s : SR K G c H) (g : Gr G1 c1 H1 G c H) (h1 : H1 p = none) (h : H p = some (.lst vs)) (hc : c p = none) (hg : G p = none) :
    SR K (upd G p (.lst vs)) c H ∧ Gr G1 c1 H1 (upd G p (.lst vs)) c H := by
  refine ⟨⟨fun a u e => ?_, fun a z e => ?_⟩, ⟨g.g.trans (le_upd hg), g.keep, g.nc, fun a u e => ?_⟩⟩
  · by_cases q : a = p
    · subst q; rw [upd_same] at e; cases e; exact h
    · rw [upd_ne q] at e; exact s.sub _ _ e
  · have q : a ≠ p := fun z => by rw [z, hc] at e; cases e
    exact (s.at_ a z e).to (le_upd hg) (fun n => by rw [upd_ne q]; exact n) (fun _ => rfl)
  · by_cases q : a = p
    · subst q; exact .inr (.inr h1)
    · rw [upd_ne q] at e; exact g.ng _ _ e
theorem wipe_wipe (σ : L2.St) : ∀ vs : List Nat, wipe (wipe σ vs) vs = wipe σ vs := by
  have gen : ∀ (ws vs : List Nat), (∀ i ∈ ws, i ∈ vs) → wipe (wipe σ ws) vs = wipe σ vs := by
    intro ws
    induction ws with
    | nil => intro vs _; rfl
    | cons w ws ih =>
      intro vs h
      rw [wipe, wipe_set (h w List.mem_cons_self)]
      exact ih vs fun i hi => h i (List.mem_cons_of_mem _ hi)
  exact fun vs => gen vs vs fun _ h => h
/-- a comprehension's turns: what is left, what stands in the new list -/
def lcW (chk : Cs → Prop) (t : Tg) (wt : WT) (we : WE) (vs : List Nat) (en : En) (fin : List D → Cs → Prop) : List D → List D → Cs → Prop
  | [], acc, c => chk c ∧ fin acc c
  | d :: r, acc, c => chk c ∧ match bindT t d (ewipe en vs) with
    | some en' => wt en' c (fun b c1 => if b = true then we en' c1 (fun y c2 => lcW chk t wt we vs en fin r (acc ++ [y]) c2) noX else lcW chk t wt we vs en fin r acc c1) noX
    | none => False
def wLc (wi : WI) (t : Tg) (wt : WT) (we : WE) (vs : List Nat) : WE := fun en c Q X => wi en c (fun ds chk c1 => ds.length ≤ sizeLine ∧ lcW chk t wt we vs en (fun acc c' => Q (.lst acc) c') ds [] c1) X
def wLcL (wi : WI) (t : Tg) (wt : WT) (we : WE) (vs : List Nat) : WE := fun en c Q X => wi en c (fun ds chk c1 => ds.length ≤ sizeLine ∧ lcW chk t wt we vs en (fun acc c' => ∀ p, c' p = none → Q (.ptr p) (cup c' p (.lst acc))) ds [] c1) X
def wYes : WT := fun _ c Q _ => Q true c
abbrev W0 : WX := fun _ _ _ _ => False
abbrev JTs (X : Cx) (W : WX) (ifs : List Expr) (wt : WT) : Prop := PTs X ifs (rdT X.K X.mg W wt)
section
variable {X : Cx} {W : WX} {tg e a b elt iter : Expr} {es ifs : List Expr} {we wa wb : WE} {ws : WA} {x : Str} {p pos pos' tpos : Pos} {k : Nat} {wt : WT} {wi : WI} {t : Tg}
theorem PTs.of {es : List Expr} {t t' : TT} (h : PTs X es t) (k : ∀ σ H Q, t' σ H Q → t σ H Q) : PTs X es t' := ⟨fun pins s σ H Q I q => h.run pins s σ H Q I (k σ H Q q)⟩
theorem jts_nil : JTs X W [] wYes := PTs.of pts_nil fun σ H Q ⟨G, en, c, Q0, X0, s, er, q, x0, kk⟩ => kk true c H G q Gr.refl s
theorem XOk.none0 {K mg G c H} : XOk K mg W0 noX G c H := fun _ _ _ _ _ _ _ _ _ z => z.elim
theorem lc_ok {vs : List Nat} (hv : ∀ i ∈ slotsT t, i ∈ vs) {σ : L2.St} {H1 : Hp} {G1 : Hp} {c1 : Cs} {en : En} {ds : List D} {chk : Cs → Prop} {J : It} {fin : List D → Cs → Prop} {Q : VK} (s1 : SR X.K G1 c1 H1) (er : EnR X.K G1 en σ) (sv : Srv X.K G1 J ds chk)
    (hz : ds.length ≤ sizeLine) (q : lcW chk t wt we vs en fin ds [] c1) {D0 : Addr} (hD : H1 D0 = none)
    (hf : ∀ G c acc vacc H, Gr G1 c1 H1 G c H → SR X.K G c H → H D0 = some (.lst vacc) → c D0 = none → G D0 = none → Reps X.K G acc vacc → fin acc c → Q (.ref D0) H) :
    ∃ Wv : Nat → Nat → Hp → Prop, (∃ m, Wv 0 m (upd H1 D0 (.lst []))) ∧ ∀ i m H, Wv i m H → (J.stop i H ∧ Q (.ref D0) H) ∨ (J.go i H ∧ ∃ Nx : Hp → Prop, (∀ H', Nx H' → ∃ m', m' < m ∧ Wv (i + 1) m' H') ∧
      ∀ x H', J.yld i H x H' → gTg X.K t x (wipe σ vs) H' fun σ2 H2 => wipe σ2 vs = wipe σ vs ∧ rdT X.K X.mg W0 wt σ2 H2 fun b H3 =>
        if b = true then rdE X.K X.mg W0 we σ2 H3 fun y H4 => ∃ acc, H4 D0 = some (.lst acc) ∧ acc.length < sizeLine ∧ Nx (upd H4 D0 (.lst (acc ++ [y]))) else Nx H3) := by
  obtain ⟨hc0, hg0⟩ := s1.free hD
  refine ⟨fun i m H => ∃ G c acc vacc, Gr G1 c1 H1 G c H ∧ SR X.K G c H ∧ H D0 = some (.lst vacc) ∧ c D0 = none ∧ G D0 = none ∧ Reps X.K G acc vacc ∧ acc.length ≤ i ∧ i ≤ ds.length ∧ m = ds.length - i ∧ lcW chk t wt we vs en fin (ds.drop i) acc c,
    ⟨ds.length, G1, c1, [], [], Gr.refl.beside hD, s1.other hc0 hg0, upd_same, hc0, hg0, rfl, Nat.le_refl _, Nat.zero_le _, rfl, q⟩, ?_⟩
  rintro i m H ⟨G, c, acc, vacc, g, s, h1, h2, h3, h4, h5, h6, rfl, lw⟩
  by_cases hlt : i < ds.length
  · rw [List.drop_eq_getElem_cons hlt] at lw
    obtain ⟨hck, lw⟩ := lw
    have hd : ds[i]? = some ds[i] := List.getElem?_eq_getElem hlt
    obtain ⟨hgo, hy⟩ := (sv i G c H g.g s hck).1 _ hd
    split at lw
    · rename_i en3 hb3
      refine .inr ⟨hgo, fun H' => ∃ G c acc vacc, Gr G1 c1 H1 G c H' ∧ SR X.K G c H' ∧ H' D0 = some (.lst vacc) ∧ c D0 = none ∧ G D0 = none ∧ Reps X.K G acc vacc ∧ acc.length ≤ i + 1 ∧ lcW chk t wt we vs en fin (ds.drop (i + 1)) acc c, ?_, ?_⟩
      · rintro H' ⟨G, c, acc, vacc, z1, z2, z3, z4, z5, z6, z7, z8⟩
        exact ⟨ds.length - (i + 1), by omega, G, c, acc, vacc, z1, z2, z3, z4, z5, z6, z7, hlt, rfl, z8⟩
      · intro x H' y
        obtain ⟨G3, s3, g3, r3⟩ := hy x H' y
        have er3 := (er.mono (g.g.trans g3.g)).wipe vs
        refine gTg_ok (vs := vs) s3.sub t _ x _ en3 (wipe σ vs) _ hv er3 r3 hb3 fun σ3 er4 hw => ⟨?_, ?_⟩
        · rw [hw]
          exact wipe_wipe σ vs
        · refine ⟨G3, en3, c, _, noX, s3, er4, lw, XOk.none0, fun bb c4 H4 G4 q4 g4 s4 => ?_⟩
          have ga := g3.trans g4
          obtain ⟨k1, k2, k3⟩ := ga.at_ h1 h2 h3
          cases bb with
          | false =>
            refine iteF ⟨G4, c4, acc, vacc, g.trans ga, s4, k1, k2, k3, Reps.mono ga.g _ _ h4, by omega, by simpa using q4⟩
          | true =>
            refine iteT ⟨G4, en3, c4, _, noX, s4, er4.mono g4.g, by simpa using q4, XOk.none0, fun d c5 v H5 G5 q5 g5 s5 r5 => ?_⟩
            obtain ⟨k4, k5, k6⟩ := g5.at_ k1 k2 k3
            have gb := ga.trans g5
            refine ⟨vacc, k4, by rw [← h4.length]; omega, G5, c5, acc ++ [d], vacc ++ [v], ((g.trans gb).beside hD), s5.other k5 k6, upd_same, k5, k6, Reps.app (Reps.mono gb.g _ _ h4) (Reps.one r5), by simp; omega, q5⟩
    · exact lw.elim
  · have hi3 : i = ds.length := by omega
    subst hi3
    rw [List.drop_length] at lw
    obtain ⟨hck, lw⟩ := lw
    exact .inl ⟨(sv _ G c H g.g s hck).2 (Nat.le_refl _), hf G c acc vacc H g s h1 h2 h3 h4 lw⟩
end
end VL
namespace VL
open PySem PySem.Spec PyProof.Rows L2
section
variable {X : Cx} {W : WX} {tg e a b elt iter : Expr} {es ifs : List Expr} {we wa wb : WE} {ws : WA} {x : Str} {p pos pos' tpos : Pos} {k : Nat} {wt : WT} {wi : WI} {t : Tg}
theorem tLc_of {vs : List Nat} (hv : ∀ i ∈ slotsT t, i ∈ vs) {σ : L2.St} {H : Hp} {Q : VK} (h : rdE X.K X.mg W (wLc wi t wt we vs) σ H Q) :
    tLc (rdI X.K X.mg W wi) (gTg X.K t) (rdT X.K X.mg W0 wt) (rdE X.K X.mg W0 we) vs σ H Q := by
  obtain ⟨G, en, c, Q0, X0, s, er, q, x0, kk⟩ := h
  refine ⟨G, en, c, _, X0, s, er, q, x0, fun ds chk c1 J H1 G1 ⟨hz, q1⟩ g1 s1 sv D0 hD => ?_⟩
  refine lc_ok hv s1 (er.mono g1.g) sv hz q1 hD fun G2 c2 acc vacc H2 g2 s2 h1 h2 h3 h4 q2 => ?_
  obtain ⟨s3, g3⟩ := adoptG s2 g2 hD h1 h2 h3
  exact kk _ c2 _ H2 _ q2 (g1.trans g3) s3 ⟨D0, vacc, rfl, upd_same, Reps.mono (le_upd h3) _ _ h4⟩
variable {scope : Scope} {own : List (Str × Nat)}
theorem je_lc (hc : X.calm = true) (hN : X.N.Nodup) (hi : JI X W tg iter wi) (ok : BlkOk X.N X.env.scope scope own)
    (hg : ∀ (s : Shared) (H : Hp) (C : Addr) (cl : List (Str × Addr)) (fp : List Addr), JTg (X.blk s H scope (compEnvC scope cl C X.env) fp) tg t) (ht : ∀ (s : Shared) (H : Hp) (C : Addr) (cl : List (Str × Addr)) (fp : List Addr), JTs (X.blk s H scope (compEnvC scope cl C X.env) fp) W0 ifs wt)
    (he : ∀ (s : Shared) (H : Hp) (C : Addr) (cl : List (Str × Addr)) (fp : List Addr), JE (X.blk s H scope (compEnvC scope cl C X.env) fp) W0 elt we) (hv : ∀ i ∈ slotsT t, i ∈ own.map (·.2) := by decide) (hs : ∀ x, foldedSetIterable iter X.env x = pure x := by intro _; rfl) :
    JE X W (.ListComp elt [⟨tg, iter, ifs, 0⟩] scope pos) (wLc wi t wt we (own.map (·.2))) := PE.of (pe_lc hc hN hi ok hg ht he hs) fun σ H Q h => tLc_of hv h
/-- list(range(..)) -/
def wLRg (wa : WE) : WE := fun en c Q X => wa en c (fun d c1 => match d with
  | .int j => -(2 ^ 62) ≤ j ∧ j ≤ 16777216 ∧ Q (.lst (rgD 0 j)) c1
  | _ => False) X
end
end VL
namespace VL
open PySem PySem.Spec PyProof.Rows L2
theorem noCX {P : Program} {w : World} {l : List PySem.Env} {H : Hp} {s s' : Shared} {e : Value} (h : L2.CX P w l H s (fun _ _ _ => False) e s') : False := by
  obtain ⟨_, _, _, _, _, _, _, _, _, _, _, _, z⟩ := h
  exact z
/-- the law is called at the script: what the heap behind the top gives -/
theorem law_runs {P : Program} {w : World} {K : PySem.W.Frag} {mg mb : Str → Option Value} {k : Nat} {fa a : Addr} {fd : FuncData} {x : Str} {ct : Ctr} {s1 : Shared} {vs : List Value} {ns : List Int}
    (kin : K.In s1.heap) (hmg : s1.heap.Ns mainGlobals mg) (hmb : s1.heap.Ns builtinsNs mb) (hbb : ∀ y : Str, y ≠ "__name__" → mb y = bootBuiltins y) (lim : s1.heap.NoLimit) (gens : s1.gens = #[])
    (ha : s1.heap.get? a = some { cls := .type "list", data := .seq vs.toArray }) (hin : IntsAre vs ns) (hz : ns.length ≤ sizeLine) (room : Room k callerA)
    (F : ∀ base : Heap, K.In base → base.Ns mainGlobals mg → FnG P w K mg base k fa fd [x] (spD K mg 1 ct)) (bd : ∀ (s : Shared) (u : Value), BindsTo s fd ⟨[u], []⟩ [(x, u)])
    (hct : ct [.scr ns] (fun _ => none) (fun d _ => d = .bl true) (fun _ _ _ => False)) :
    codeAny (model P w) callerA (.call (.ref fa) ⟨[.ref a], []⟩) (fun r s' => r = .ok (.ret (.bool true)) ∧ OldK s1.heap s'.heap ∧ s'.os = s1.os ∧ AllBare s'.gens) s1 := by
  have rv : Vals (ns.map V.int) vs := vals_of_ints hin
  have len : ns.length = vs.length := hin.length.symm
  let ob : Obj := { cls := .type "list", data := .seq vs.toArray }
  -- what is tracked at the entry: the script alone, or nothing where it is an object of the written part
  have go : ∀ H : Hp, (∀ b u, H b = some u → b = a ∧ u = .frz ob (.lst (ns.map V.int))) → SqL K H a (ns.map V.int) → (H a ≠ none → K.lookup a = none) →
      codeAny (model P w) callerA (.call (.ref fa) ⟨[.ref a], []⟩) (fun r s' => r = .ok (.ret (.bool true)) ∧ OldK s1.heap s'.heap ∧ s'.os = s1.os ∧ AllBare s'.gens) s1 := by
    intro H only sq notK
    have ok : HOk P w H s1.heap := fun b u e => by
      obtain ⟨rfl, rfl⟩ := only b u e
      exact ⟨ha, by rw [List.length_map]; exact hz, vs, _, rv, ha⟩
    have stays : ∀ {b : Addr} {o : Obj}, s1.heap.get? b = some o → b ≠ a → (hidT s1.heap H).get? b = some o := fun {b o} e ne => hidT_get e (by
      cases q : H b with
      | none => rfl
      | some u => exact absurd (only b u q).1 ne)
    have ns_of : ∀ {b : Addr} {m : Str → Option Value}, s1.heap.Ns b m → (hidT s1.heap H).Ns b m := fun {b m} ⟨o, es, ep, e, hd, r⟩ => ⟨o, es, ep, stays e (fun z => by
      rw [z, ha] at e
      cases e
      cases hd), hd, r⟩
    have kin' : K.In (hidT s1.heap H) := fun b o e => by
      have e1 := kin b o e
      refine hidT_get e1 ?_
      cases q : H b with
      | none => rfl
      | some u =>
        obtain ⟨rfl, _⟩ := only b u q
        rw [notK (by rw [q]; simp)] at e
        cases e
    have md : Mod K mg (hidT s1.heap H) := ⟨kin', ns_of hmg, ⟨mb, ns_of hmb, hbb⟩, by obtain ⟨m, h1, h2⟩ := lim; exact ⟨m, ns_of h1, h2⟩⟩
    have e0 : Env0 P w K mg (hidT s1.heap H) callerA [] s1 H := ⟨rfl, md, fun b o e => of_hidT e, Nat.le_of_eq (hidT_size _ _), trivial, fun b hb => by exact absurd (show b ∈ ([] : List Addr) from hb) (by simp), ok, .of_eq gens⟩
    have want : spD K mg 1 ct [.ref a] H (fun v _ => v = .bl true) (fun _ _ _ => False) := by
      refine ⟨H, [.scr ns], fun _ => none, _, _, ⟨Le.refl _, fun b y e => by cases e⟩, ⟨_, _, rfl, ⟨a, rfl, sq⟩, rfl⟩, rfl, hct, ?_, ?_⟩
      · rintro d c' v H' G' rfl _ _ r
        exact r
      · rintro m d c' cls dx H' G' z
        exact z.elim
    refine codeAny_mono ((F _ kin' (ns_of hmg)).run callerA [] s1 H ⟨[.ref a], []⟩ [.ref a] [.ref a] _ _ room rfl e0 (bd s1 (.ref a)) (.cons rfl .nil) want) ?_
    rintro (e | fl) s' z
    · exact (noCX z).elim
    · cases fl <;> first
        | exact False.elim z
        | skip
      obtain ⟨v, H', os, bare, un, ok', r, q⟩ := z
      have q : v = .bl true := q
      subst q
      have r : _ = Value.bool true := r
      subst r
      refine ⟨rfl, OldK.of_keep fun b o e => ?_, os, bare⟩
      cases q : H b with
      | none => exact un.keep b o e q (fun z => by cases z) (fun z => by cases z)
      | some u =>
        obtain ⟨rfl, rfl⟩ := only b u q
        have k1 : s1.heap.get? b = some ob := (ok b _ q).1
        have k2 : s'.heap.get? b = some ob := (ok' b _ (un.frzs b ob _ q)).1
        rw [k1] at e
        cases e
        exact k2
  cases hk : K.lookup a with
  | some o =>
    have e := kin a o hk
    rw [ha] at e
    cases e
    exact go (fun _ => none) (fun b u z => by cases z) (.inr ⟨_, vs.toArray, _, hk, rfl, rfl, rfl, by rw [List.size_toArray, ← len]; exact hz, rv⟩) (fun z => absurd rfl z)
  | none =>
    refine go (fun b => if b = a then some (.frz ob (.lst (ns.map V.int))) else none) (fun b u z => ?_) (.inl (.inr ⟨ob, if_pos rfl⟩)) (fun _ => hk)
    by_cases hb : b = a
    · rw [if_pos hb] at z; cases z; exact ⟨hb, rfl⟩
    · rw [if_neg hb] at z; cases z
theorem walk_ofG {l : PySem.W.OpenLaw} {n k : Nat} {q : Program} {loose : List Str} {XP : (Str → Option Value) → Heap → Prop} {YP : World → Heap → Prop} {d : DefRec} {K : Params → PySem.W.Frag} {ct : Ctr} {x : Str}
    (hn : l.most = some n) (hn2 : n ≤ sizeLine) (hdf : d.params.defaults = []) (hr : Room k callerA) (hY : ∀ (w : World) (h : Heap), YP w h → (K w.params).In h)
    (F : ∀ (w : World) (mg : Str → Option Value) (fa : Addr) (h : Heap), (K w.params).In h → h.Ns mainGlobals mg → mg d.name = some (.ref fa) →
      ∃ fd : FuncData, (∀ (s : Shared) (u : Value), BindsTo s fd ⟨[u], []⟩ [(x, u)]) ∧ ∀ base : Heap, (K w.params).In base → base.Ns mainGlobals mg → FnG l.prog w (K w.params) mg base k fa fd [x] (spD (K w.params) mg 1 ct))
    (hct : ∀ ns : List Int, ns.length ≤ n → ct [.scr ns] (fun _ => none) (fun d _ => d = .bl true) (fun _ _ _ => False)) :
    PySem.W.WalkO q loose XP YP l.row.toRowW d [] (fun f vs => PySem.call f vs) := by
  refine Att.attach_call hn hdf ?_
  intro w s0 s1 mg mb fa o pm cd doc a vs ns G Y ho hd hcd hmg hobj hints hlen hg
  obtain ⟨fd, hb, hF⟩ := F w mg fa _ (hY w _ Y) G.T.g hmg
  exact law_runs (hY w _ Y) G.T.g G.T.b G.T.builtins G.T.nolimit hg hobj hints (Nat.le_trans hlen hn2) hr hF hb (hct ns hlen)
end VL
namespace VL
open PySem PySem.Spec PyProof.Rows L2
/-- the def st stands behind the top as x -/
def DefAt (K : PySem.W.Frag) (mg : Str → Option Value) (x : Str) (st : Stmt) (ps : List Str) : Prop :=
  ∃ f fd, mg x = some (.ref f) ∧ Fun K x x st f fd ∧ Binds K fd ps []
theorem def_mk {K : PySem.W.Frag} {mg : Str → Option Value} {h : Heap} {x : Str} {st : Stmt} {ps : List Str} {f : Addr} {oc : Value} {od an : Option Addr} {osl : Array (Option Value)} {kV doc pm cdv ct : Value} (X : K.In h) (G : h.Ns mainGlobals mg)
    (a : PySem.W.nsIn K mainGlobals x = some (some (.ref f))) (l : K.lookup f = some ⟨oc, od, .func (PySem.W.fnOf x x (defArgs st) (defBody st) (defScope st) .none kV doc pm an cdv ct), osl⟩) (c : PySem.W.codeIn K cdv x = true) (k : PySem.W.keepIn K (.ref f) = true)
    (hb : ∀ (kV doc pm : Value) (an : Option Addr) (cdv ct : Value) (us : List Value), us.length = ps.length → bindArgs (PySem.W.fnOf x x (defArgs st) (defBody st) (defScope st) .none kV doc pm an cdv ct) ⟨us, []⟩ = pure (ps.zip us)) : DefAt K mg x st ps := by
  have F := fun_mk (st := st) l c k
  exact ⟨f, _, PySem.W.mg_of X G a, F, F.binds hb⟩
section
variable {P : Program} {w : World} {K : PySem.W.Frag} {mg : Str → Option Value} {base : Heap}
theorem cal_zero {x : Str} {st : Stmt} {ps : List Str} {n : Nat} {ct : Nat → Ctr} (h : DefAt K mg x st ps) (hn : ps.length = n := by rfl) : Cal P w K mg base 0 x n ct := by
  obtain ⟨f, fd, h1, F, hb⟩ := h
  refine ⟨f, fd, ps, h1, F.kp, hb, hn, ?_, ?_⟩
  · rintro vs H Q E ⟨_, _, _, _, _, _, _, _, z, _⟩
    exact z.elim
  · rintro A outer s H args us vs Q E _ _ _ _ _ ⟨_, _, _, _, _, _, _, _, z, _⟩
    exact z.elim
theorem cal_succ {x : Str} {st : Stmt} {N ps : List Str} {n k : Nat} {ct : Nat → Ctr} {wb : WS} (h : DefAt K mg x st ps) (S : FnScope N ps (defScope st))
    (hb : ∀ (f : Addr) (cdv : Value) (A : Around) (outer : List PySem.Env) (s : Shared) (H : Hp) (E : XK), Room k (A.deeper (envOfC x (defScope st) s.heap.objs.size f cdv)) → A.guards = some [] →
      JSs (cxOf (L2.CX P w) P w K mg base N x (defScope st) f cdv A outer s H E) (WXE E) (defBody st) wb)
    (hp : ∀ ds c Q X0, ds.length = n → ct k ds c Q X0 → wb (endOf Q) (excOf X0) (enOf N.length ds) c) (hn : ps.length = n := by rfl) : Cal P w K mg base (k + 1) x n ct := by
  obtain ⟨f, fd, h1, F, hb'⟩ := h
  subst hn
  exact ⟨f, fd, ps, h1, F.kp, hb', rfl, fnG_of F S (hb f) hp⟩
end
/-- the law's own def, for the end -/
theorem law_mk {P : Program} {w : World} {K : PySem.W.Frag} {mg : Str → Option Value} {x y : Str} {st : Stmt} {fa : Addr} {N : List Str} {k : Nat} {ct : Nat → Ctr} {wb : WS} (h : DefAt K mg x st [y]) (hfa : mg x = some (.ref fa)) (S : FnScope N [y] (defScope st))
    (hbd : ∀ (kV doc pm : Value) (an : Option Addr) (cdv cv u : Value), bindArgs (PySem.W.fnOf x x (defArgs st) (defBody st) (defScope st) .none kV doc pm an cdv cv) ⟨[u], []⟩ = pure [(y, u)])
    (hb : ∀ base : Heap, K.In base → base.Ns mainGlobals mg → ∀ (f : Addr) (cdv : Value) (A : Around) (outer : List PySem.Env) (s : Shared) (H : Hp) (E : XK), Room k (A.deeper (envOfC x (defScope st) s.heap.objs.size f cdv)) → A.guards = some [] →
      JSs (cxOf (L2.CX P w) P w K mg base N x (defScope st) f cdv A outer s H E) (WXE E) (defBody st) wb)
    (hp : ∀ ds c Q X0, ds.length = 1 → ct k ds c Q X0 → wb (endOf Q) (excOf X0) (enOf N.length ds) c) :
    ∃ fd : FuncData, (∀ (s : Shared) (u : Value), BindsTo s fd ⟨[u], []⟩ [(y, u)]) ∧ ∀ base : Heap, K.In base → base.Ns mainGlobals mg → FnG P w K mg base (k + 1) fa fd [y] (spD K mg 1 (ct k)) := by
  obtain ⟨f, fd, h1, F, _⟩ := h
  rw [h1] at hfa
  cases hfa
  refine ⟨fd, ?_, fun base h2 h3 => fnG_of (ps := [y]) F S (hb base h2 h3 fa) hp⟩
  obtain ⟨oc, od, kV, doc, pm, an, cdv, cv, osl, rfl, _, _⟩ := F.ex
  exact fun s u => .of_eq (hbd kV doc pm an cdv cv u)
end VL
namespace VL
open PySem PySem.Spec PyProof.Rows L2
def Cell.items : Cell → Option (List D)
  | .lst l => some l
  | .fz l => some l
  | .dic _ => none
  | .dit _ => none
  | .obj _ _ => none
  | .exc _ _ _ => none
  | .tab _ => none
  | .fn _ _ => none
theorem it_lst {l : List D} : Cell.items (.lst l) = some l := rfl
theorem it_fz {l : List D} : Cell.items (.fz l) = some l := rfl
theorem lst_ptr {c : Cs} {p : Addr} : lstOf c (.ptr p) = (c p).bind Cell.items := by
  show (match c p with | some (.lst l) => some l | some (.fz l) => some l | _ => none) = _
  cases c p with
  | none => rfl
  | some x => cases x <;> rfl
section
variable {c : Cs} {Q : DK} {i j : Int} {l m : List D} {x y d : D} {p : Addr} {ns : List Int} {b b' : Bool} {s t : Str}
theorem e_sub : oSub (.int i) (.int j) c Q = Q (.int (i - j)) c := propext ⟨fun h => h.2, fun h => ⟨trivial, h⟩⟩
theorem e_fdiv : oFdiv (.int i) (.int j) c Q = ((0 < j ∧ j.natAbs.log2 < 9000) ∧ Q (.int (i / j)) c) := rfl
theorem e_mod : oMod (.int i) (.int j) c Q = (0 < j ∧ Q (.int (i % j)) c) := rfl
theorem e_pow : oPow (.int i) (.int j) c Q = ((0 ≤ j ∧ j ≤ 1000000 ∧ -18446744073709551616 < i ∧ i < 18446744073709551616) ∧ Q (.int (i ^ j.toNat)) c) :=
  propext ⟨fun h => ⟨⟨h.1.1, h.1.2.1, by have := h.1.2.2; omega, by have := h.1.2.2; omega⟩, h.2⟩, fun h => ⟨⟨h.1.1, h.1.2.1, by have := h.1.2.2; omega⟩, h.2⟩⟩
theorem e_lt : oLt (.int i) (.int j) c Q = Q (.bl (decide (i < j))) c := propext ⟨fun h => h.2, fun h => ⟨trivial, h⟩⟩
theorem e_le : oLe (.int i) (.int j) c Q = Q (.bl (decide (i ≤ j))) c := propext ⟨fun h => h.2, fun h => ⟨trivial, h⟩⟩
theorem e_gt : oGt (.int i) (.int j) c Q = Q (.bl (decide (j < i))) c := propext ⟨fun h => h.2, fun h => ⟨trivial, h⟩⟩
theorem e_ge : oGe (.int i) (.int j) c Q = Q (.bl (decide (j ≤ i))) c := propext ⟨fun h => h.2, fun h => ⟨trivial, h⟩⟩
theorem e_neg : oNeg (.int i) c Q = Q (.int (-i)) c := rfl
theorem e_add : oAdd (.int i) (.int j) c Q = Q (.int (i + j)) c := rfl
theorem e_addS : oAdd (.str s) (.str t) c Q = (s.length + t.length ≤ sizeLine ∧ Q (.str (s ++ t)) c) := rfl
theorem e_addT : oAdd (.tup l) (.tup m) c Q = (l.length + m.length ≤ sizeLine ∧ Q (.tup (l ++ m)) c) := rfl
theorem e_addL : oAdd (.lst l) (.lst m) c Q = (l.length + m.length ≤ sizeLine ∧ Q (.lst (l ++ m)) c) := rfl
theorem e_mul : oMul (.int i) (.int j) c Q = (MulOk i j ∧ Q (.int (i * j)) c) := rfl
theorem e_mulL : oMul (.lst l) (.int i) c Q = (-(2 ^ 63) ≤ i ∧ i < 2 ^ 63 ∧ l.length * i.toNat ≤ sizeLine ∧ Q (.lst (List.replicate i.toNat l).flatten) c) := rfl
theorem e_augI {C : Int → Int → Prop} {g : Int → Int → D} : oII C g (.int i) (.int j) c Q = (C i j ∧ Q (g i j) c) := rfl
theorem e_ixT : oIx (.tup l) (.int i) c Q = (∃ d, atI l i = some d ∧ Q d c) := rfl
theorem e_ixL : oIx (.lst l) (.int i) c Q = (∃ d, atI l i = some d ∧ Q d c) := rfl
theorem e_ixN : oIx (.scr ns) (.int i) c Q = (∃ d, atI (ns.map D.int) i = some d ∧ Q d c) := rfl
theorem e_ixP : oIx (.ptr p) (.int i) c Q = (∃ l, (c p).bind Cell.items = some l ∧ ∃ d, atI l i = some d ∧ Q d c) := by
  show (match lstOf c (.ptr p) with | some l => (∃ d, atI l i = some d ∧ Q d c) | none => False) = _
  rw [lst_ptr]
  cases (c p).bind Cell.items with
  | none => simp
  | some l => simp
theorem e_lenT : oLen [.tup l] c Q = Q (.int l.length) c := rfl
theorem e_lenL : oLen [.lst l] c Q = Q (.int l.length) c := rfl
theorem e_lenN : oLen [.scr ns] c Q = Q (.int ns.length) c := by show Q (.int ((ns.map D.int).length : Nat)) c = _; rw [List.length_map]
theorem e_lenS : oLen [.str s] c Q = (s.length ≤ sizeLine ∧ Q (.int s.length) c) := rfl
theorem e_lenP : oLen [.ptr p] c Q = (∃ l, (c p).bind Cell.items = some l ∧ Q (.int l.length) c) := by
  show (match lstOf c (.ptr p) with | some l => Q (.int (l.length : Nat)) c | none => False) = _
  rw [lst_ptr]
  cases (c p).bind Cell.items with
  | none => simp
  | some l => simp
theorem e_abs : oAbs [.int i] c Q = Q (.int (if i < 0 then -i else i)) c := rfl
theorem e_intI : oInt [.int i] c Q = Q (.int i) c := rfl
theorem e_intB : oInt [.bl b] c Q = Q (.int (if b then 1 else 0)) c := rfl
theorem e_max : oMax [.int i, .int j] c Q = Q (.int (if j > i then j else i)) c := rfl
theorem e_min : oMin [.int i, .int j] c Q = Q (.int (if j < i then j else i)) c := rfl
theorem e_all {bs : List Bool} : oAll [.lst (bs.map .bl)] c Q = Q (.bl (bs.all (fun b => b))) c := by
  refine propext ⟨fun ⟨as, h, q⟩ => ?_, fun h => ⟨bs, rfl, h⟩⟩
  have e : bs.map D.bl = as.map D.bl := by simpa [lstOf] using h
  have : bs = as := by
    have f : Function.Injective D.bl := fun a b h => by cases h; rfl
    exact (List.map_inj_right (fun _ _ h => f h)).mp e
  rw [this]; exact q
theorem e_tupL : oTuple [.lst l] c Q = Q (.tup l) c := rfl
theorem e_tupT : oTuple [.tup l] c Q = Q (.tup l) c := rfl
theorem e_listL : oList [.lst l] c Q = Q (.lst l) c := rfl
theorem e_listT : oList [.tup l] c Q = Q (.lst l) c := rfl
theorem e_listN : oList [.scr ns] c Q = Q (.lst (ns.map .int)) c := rfl
theorem e_listLL : oListL [.lst l] c Q = (∀ p, c p = none → Q (.ptr p) (cup c p (.lst l))) := rfl
theorem e_listLT : oListL [.tup l] c Q = (∀ p, c p = none → Q (.ptr p) (cup c p (.lst l))) := rfl
theorem e_divmod : oDivmod [.int i, .int j] c Q = (0 < j ∧ j.natAbs.log2 < 9000 ∧ Q (.tup [.int (i / j), .int (i % j)]) c) := rfl
theorem e_isNon : oIs x .non c Q = Q (.bl (isNon x)) c := rfl
theorem e_isntNon : oIsNot x .non c Q = Q (.bl (!isNon x)) c := rfl
theorem e_isB {a b : Bool} {c : Cs} {Q : DK} : oIs (.bl a) (.bl b) c Q = Q (.bl (decide (a = b))) c := rfl
theorem e_isntB {a b : Bool} {c : Cs} {Q : DK} : oIsNot (.bl a) (.bl b) c Q = Q (.bl (!decide (a = b))) c := rfl
theorem e_tyT {ss : List String} (h : ∀ n ∈ ss, n ∈ clsNs) (h1 : tyN c x ∈ tyNs) : oIsi [x, .tup (ss.map .ty)] c Q = Q (.bl (ss.any (isTy (tyN c x)))) c := by
  refine propext ⟨fun ⟨_, ns, e, _, q⟩ => ?_, fun q => ⟨h1, ss, rfl, h, q⟩⟩
  have : ss = ns := (List.map_inj_right (fun _ _ h => by cases h; rfl)).mp e
  rw [this]; exact q
/-- isinstance with a pair of classes, with one -/
theorem e_tyLT : oIsi [x, .tup [.ty "list", .ty "tuple"]] c Q = (tyN c x ∈ tyNs ∧ Q (.bl (isTy (tyN c x) "list" || isTy (tyN c x) "tuple")) c) := by
  refine propext ⟨fun h => ⟨h.1, ?_⟩, fun ⟨h1, q⟩ => ?_⟩
  · have := (e_tyT (c := c) (Q := Q) (x := x) (ss := ["list", "tuple"]) (by decide) h.1).mp h
    simpa using this
  · refine (e_tyT (c := c) (Q := Q) (x := x) (ss := ["list", "tuple"]) (by decide) h1).mpr ?_
    simpa using q
theorem e_ty1 {n : String} : oIsi [x, .ty n] c Q = (tyN c x ∈ tyNs ∧ n ∈ clsNs ∧ Q (.bl (isTy (tyN c x) n)) c) := rfl
theorem tyN_non : tyN c .non = "NoneType" := rfl
theorem tyN_bl : tyN c (.bl b) = "bool" := rfl
theorem tyN_int : tyN c (.int i) = "int" := rfl
theorem tyN_str : tyN c (.str s) = "str" := rfl
theorem tyN_tup : tyN c (.tup l) = "tuple" := rfl
theorem tyN_lst : tyN c (.lst l) = "list" := rfl
theorem at0 {α : Type} {a : α} {l : List α} : atI (a :: l) 0 = some a := by
  unfold atI ixN
  rw [if_pos (by omega), if_pos (by simp)]
  rfl
theorem atI_nat {α : Type} {l : List α} {n : Nat} : atI l (n : Int) = l[n]? := by
  unfold atI ixN
  rw [if_pos (by omega)]
  by_cases h : n < l.length
  · rw [if_pos (by omega)]
    show l[((n : Int)).toNat]? = _
    rw [Int.toNat_natCast]
  · rw [if_neg (by omega), List.getElem?_eq_none (by omega)]
    rfl
theorem at1 {α : Type} {a b : α} {l : List α} : atI (a :: b :: l) 1 = some b := atI_nat (n := 1)
theorem at2 {α : Type} {a b z : α} {l : List α} : atI (a :: b :: z :: l) 2 = some z := atI_nat (n := 2)
theorem at3 {α : Type} {a b z u : α} {l : List α} : atI (a :: b :: z :: u :: l) 3 = some u := atI_nat (n := 3)
theorem atI_of {α : Type} {l : List α} {i : Int} (h : 0 ≤ i) : atI l i = l[i.toNat]? := by
  have := atI_nat (l := l) (n := i.toNat)
  rwa [Int.toNat_of_nonneg h] at this
theorem ixN_of {n : Nat} {i : Int} (h : 0 ≤ i) (h' : i < n) : ixN n i = some i.toNat := by
  unfold ixN
  rw [if_pos h, if_pos h']
theorem e_live : liveOf c (.ptr p) = (match c p with | some (.lst l) => some (p, l) | _ => none) := rfl
theorem live_iff {q : Addr} {l : List D} : liveOf c (.ptr p) = some (q, l) ↔ q = p ∧ c p = some (.lst l) := by
  rw [e_live]
  constructor
  · intro h
    cases e : c p with
    | none => rw [e] at h; cases h
    | some z => cases z <;> rw [e] at h <;> cases h; exact ⟨rfl, rfl⟩
  · rintro ⟨rfl, h⟩
    rw [h]
theorem e_setIx {Q : Cs → Prop} : oSetIx (.ptr p) (.int i) d c Q = (∃ l, c p = some (.lst l) ∧ ∃ j, ixN l.length i = some j ∧ Q (cup c p (.lst (l.set j d)))) :=
  propext ⟨fun ⟨q, l, j, h, h2, h3⟩ => by obtain ⟨rfl, h⟩ := live_iff.mp h; exact ⟨l, h, j, h2, h3⟩, fun ⟨l, h, j, h2⟩ => ⟨p, l, j, live_iff.mpr ⟨rfl, h⟩, h2⟩⟩
theorem e_insert : oInsert (.ptr p) [.int i, d] c Q = (∃ l, c p = some (.lst l) ∧ l.length < sizeLine ∧ 0 ≤ i ∧ i < 2 ^ 63 ∧ Q .non (cup c p (.lst (l.take i.toNat ++ [d] ++ l.drop i.toNat)))) :=
  propext ⟨fun ⟨q, l, h, h2⟩ => by obtain ⟨rfl, h⟩ := live_iff.mp h; exact ⟨l, h, h2⟩, fun ⟨l, h, h2⟩ => ⟨p, l, live_iff.mpr ⟨rfl, h⟩, h2⟩⟩
theorem e_append : oAppend (.ptr p) [d] c Q = (∃ l, c p = some (.lst l) ∧ l.length < sizeLine ∧ Q .non (cup c p (.lst (l ++ [d])))) :=
  propext ⟨fun ⟨q, l, h, h2⟩ => by obtain ⟨rfl, h⟩ := live_iff.mp h; exact ⟨l, h, h2⟩, fun ⟨l, h, h2⟩ => ⟨p, l, live_iff.mpr ⟨rfl, h⟩, h2⟩⟩
theorem e_isL : isLst c (.ptr p) = (((c p).bind Cell.items).isSome = true) := by unfold isLst; rw [lst_ptr]
theorem e_isLL : isLst c (.lst l) = True := propext ⟨fun _ => trivial, fun _ => rfl⟩
theorem e_seqP : seqOf c (.ptr p) = (c p).bind Cell.items := lst_ptr
theorem e_seqL : seqOf c (.lst l) = some l := rfl
theorem e_seqT : seqOf c (.tup l) = some l := rfl
theorem e_seqN : seqOf c (.scr ns) = some (ns.map .int) := rfl
theorem ix30 : ixN 3 0 = some 0 := rfl
theorem ix32 : ixN 3 2 = some 2 := rfl
end
theorem wVar_z {d : D} {en : En} {c : Cs} {Q : DK} {X : XD} : wVar 0 (some d :: en) c Q X = Q d c := rfl
theorem wVar_s {i : Nat} {o : Option D} {en : En} {c : Cs} {Q : DK} {X : XD} : wVar (i + 1) (o :: en) c Q X = wVar i en c Q X := rfl
theorem lvl_s {ct : Nat → Ctr} {k : Nat} : lvl ct (k + 1) = ct k := rfl
end VL
namespace VL
open PySem PySem.Spec PyProof.Rows L2
theorem loop_inv {chk : Cs → Prop} {t : Tg} {wb : WS} {D0 : EndD} {X : XD} : ∀ {ds : List D} (I : Nat → En → Cs → Prop) {en : En} {c : Cs}, I 0 en c →
    (∀ i en c d, ds[i]? = some d → I i en c → chk c ∧ ∃ en', bindT t d en = some en' ∧ ∀ D1 : EndD, (∀ en c, I (i + 1) en c → D1.nx en c) → (∀ en c, I (i + 1) en c → D1.ct en c) → D1.rt = D0.rt → D1.bk = D0.nx → wb D1 X en' c) →
    (∀ en c, I ds.length en c → chk c ∧ D0.nx en c) → loopW chk t wb D0 X ds en c
  | [], I, en, c, h0, _, hf => hf en c h0
  | d :: r, I, en, c, h0, hs, hf => by
    obtain ⟨hc, en', hb, h⟩ := hs 0 en c d rfl h0
    have rest : ∀ en c, I 1 en c → loopW chk t wb D0 X r en c := fun en c h1 =>
      loop_inv (fun i => I (i + 1)) h1 (fun i en c d' e hi => hs (i + 1) en c d' (by simpa using e) hi) (fun en c hi => hf en c (by simpa using hi))
    refine ⟨hc, ?_⟩
    rw [hb]
    exact h _ rest rest rfl rfl
theorem lc_inv {chk : Cs → Prop} {t : Tg} {wt : WT} {we : WE} {vs : List Nat} {en : En} {fin : List D → Cs → Prop} : ∀ {ds : List D} (I : Nat → List D → Cs → Prop) {acc : List D} {c : Cs}, I 0 acc c →
    (∀ i acc c d, ds[i]? = some d → I i acc c → chk c ∧ ∃ en', bindT t d (ewipe en vs) = some en' ∧ ∀ Nx : List D → Cs → Prop, (∀ acc c, I (i + 1) acc c → Nx acc c) →
      wt en' c (fun b c1 => if b = true then we en' c1 (fun y c2 => Nx (acc ++ [y]) c2) noX else Nx acc c1) noX) →
    (∀ acc c, I ds.length acc c → chk c ∧ fin acc c) → lcW chk t wt we vs en fin ds acc c
  | [], I, acc, c, h0, _, hf => hf acc c h0
  | d :: r, I, acc, c, h0, hs, hf => by
    obtain ⟨hc, en', hb, h⟩ := hs 0 acc c d rfl h0
    have rest : ∀ acc c, I 1 acc c → lcW chk t wt we vs en fin r acc c := fun acc c h1 =>
      lc_inv (fun i => I (i + 1)) h1 (fun i en c d' e hi => hs (i + 1) en c d' (by simpa using e) hi) (fun en c hi => hf en c (by simpa using hi))
    refine ⟨hc, ?_⟩
    rw [hb]
    exact h _ rest
/-- a comprehension that changes nothing: the items by f -/
theorem lc_map {chk : Cs → Prop} {t : Tg} {we : WE} {vs : List Nat} {en : En} {fin : List D → Cs → Prop} {ds : List D} {c : Cs} (f : D → D) (hc : chk c)
    (hs : ∀ d, d ∈ ds → ∃ en', bindT t d (ewipe en vs) = some en' ∧ ∀ Q : DK, Q (f d) c → we en' c Q noX) (hf : fin (ds.map f) c) : lcW chk t wYes we vs en fin ds [] c := by
  refine lc_inv (fun i acc c' => acc = (ds.take i).map f ∧ c' = c) ⟨rfl, rfl⟩ ?_ ?_
  · rintro i acc c' d hd ⟨rfl, rfl⟩
    have hi := (List.getElem?_eq_some_iff.mp hd).1
    obtain ⟨en', hb, h⟩ := hs d (List.mem_of_getElem? hd)
    refine ⟨hc, en', hb, fun Nx k => h _ (k _ _ ⟨?_, rfl⟩)⟩
    rw [List.take_succ, hd, List.map_append]
    rfl
  · rintro acc c' ⟨rfl, rfl⟩
    refine ⟨hc, ?_⟩
    rw [List.take_length]
    exact hf
theorem CLe.cup_new {c : Cs} {p : Addr} {x : Cell} (h : c p = none) : CLe c (cup c p x) := fun a y e => by
  have : a ≠ p := fun z => by rw [z, h] at e; cases e
  rw [cup_ne this]; exact e
theorem cutL_map {α β : Type} (f : α → β) (l : List α) (lo hi : Option Int) : cutL (l.map f) lo hi = (cutL l lo hi).map f := by
  unfold cutL
  rw [List.length_map, ← List.map_drop, ← List.map_take]
theorem cutL_to {α : Type} {l : List α} {n : Int} (h : 0 ≤ n) : cutL l none (some n) = l.take n.toNat := by
  unfold cutL
  have e : HT.sIx l.length l.length (some n) = min n.toNat l.length := by
    show (if n < 0 then (n + (l.length : Int)).toNat else min n.toNat l.length) = _
    rw [if_neg (by omega)]
  rw [e, HT.sIx_none, List.drop_zero, Nat.sub_zero]
  rcases Nat.le_total n.toNat l.length with h | h
  · rw [Nat.min_eq_left h]
  · rw [Nat.min_eq_right h, List.take_length, List.take_of_length_le h]
theorem rgD0_get {j : Int} {i : Nat} {d : D} (h : (rgD 0 j)[i]? = some d) : d = .int (i : Nat) ∧ (i : Int) < j := by
  unfold rgD at h
  rw [List.getElem?_map] at h
  cases e : (List.range (j - 0).toNat)[i]? with
  | none => rw [e] at h; cases h
  | some m =>
    rw [e] at h
    cases h
    obtain ⟨h1, h2⟩ := List.getElem?_eq_some_iff.mp e
    rw [List.getElem_range] at h2
    rw [List.length_range] at h1
    subst h2
    exact ⟨by simp, by omega⟩
theorem rgD0_len {j : Int} : (rgD 0 j).length = j.toNat := by unfold rgD; simp
theorem sizeL : sizeLine = 16777216 := rfl
theorem inn_non : isNon .non = true := rfl
theorem inn_bl {b : Bool} : isNon (.bl b) = false := rfl
theorem inn_int {i : Int} : isNon (.int i) = false := rfl
theorem inn_str {i : Str} : isNon (.str i) = false := rfl
theorem inn_tup {i : List D} : isNon (.tup i) = false := rfl
theorem inn_lst {i : List D} : isNon (.lst i) = false := rfl
theorem inn_ptr {i : Addr} : isNon (.ptr i) = false := rfl
section
variable {c : Cs} {Q : DK} {l : List D} {ns : List Int} {lo hi : Option Int}
theorem e_slT : oSl (.tup l) lo hi c Q = Q (.tup (cutL l lo hi)) c := rfl
theorem e_slL : oSl (.lst l) lo hi c Q = Q (.lst (cutL l lo hi)) c := rfl
theorem e_slN : oSl (.scr ns) lo hi c Q = Q (.lst ((cutL ns lo hi).map .int)) c := by rw [← cutL_map]; rfl
theorem isT_P {p : Addr} : isTup (.ptr p) = false := rfl
theorem isT_L : isTup (.lst l) = false := rfl
theorem isT_T : isTup (.tup l) = true := rfl
theorem isT_N : isTup (.scr ns) = false := rfl
end
theorem isTys : isTy "NoneType" "bool" = false ∧ isTy "NoneType" "int" = false ∧ isTy "NoneType" "str" = false ∧ isTy "NoneType" "tuple" = false ∧ isTy "NoneType" "list" = false ∧ isTy "NoneType" "dict" = false ∧ isTy "bool" "bool" = true ∧ isTy "bool" "int" = true ∧ isTy "bool" "str" = false ∧ isTy "bool" "tuple" = false ∧ isTy "bool" "list" = false ∧ isTy "bool" "dict" = false ∧ isTy "int" "bool" = false ∧ isTy "int" "int" = true ∧ isTy "int" "str" = false ∧ isTy "int" "tuple" = false ∧ isTy "int" "list" = false ∧ isTy "int" "dict" = false ∧ isTy "str" "bool" = false ∧ isTy "str" "int" = false ∧ isTy "str" "str" = true ∧ isTy "str" "tuple" = false ∧ isTy "str" "list" = false ∧ isTy "str" "dict" = false ∧ isTy "tuple" "bool" = false ∧ isTy "tuple" "int" = false ∧ isTy "tuple" "str" = false ∧ isTy "tuple" "tuple" = true ∧ isTy "tuple" "list" = false ∧ isTy "tuple" "dict" = false ∧ isTy "list" "bool" = false ∧ isTy "list" "int" = false ∧ isTy "list" "str" = false ∧ isTy "list" "tuple" = false ∧ isTy "list" "list" = true ∧ isTy "list" "dict" = false ∧ isTy "dict" "bool" = false ∧ isTy "dict" "int" = false ∧ isTy "dict" "str" = false ∧ isTy "dict" "tuple" = false ∧ isTy "dict" "list" = false ∧ isTy "dict" "dict" = true := by decide
theorem tyMem : ("NoneType" ∈ tyNs) = True ∧ ("bool" ∈ tyNs) = True ∧ ("int" ∈ tyNs) = True ∧ ("str" ∈ tyNs) = True ∧ ("tuple" ∈ tyNs) = True ∧ ("list" ∈ tyNs) = True ∧ ("dict" ∈ tyNs) = True ∧ ("bool" ∈ clsNs) = True ∧ ("int" ∈ clsNs) = True ∧ ("str" ∈ clsNs) = True ∧ ("tuple" ∈ clsNs) = True ∧ ("list" ∈ clsNs) = True ∧ ("dict" ∈ clsNs) = True := by
  have h : ∀ {p : Prop}, p → p = True := fun h => propext ⟨fun _ => trivial, fun _ => h⟩
  refine ⟨?_, ?_, ?_, ?_, ?_, ?_, ?_, ?_, ?_, ?_, ?_, ?_, ?_⟩ <;> exact h (by decide)
section
variable {c : Cs} {Q : DK} {i j : Int} {a b : Bool} {s t : Str}
theorem deqI : deq (.int i) (.int j) = decide (i = j) := by
  by_cases h : i = j
  · subst h; simp [deq, toP, PyData.eqv]
  · simp [deq, toP, PyData.eqv, h]
theorem e_eqI : oEq (.int i) (.int j) c Q = Q (.bl (decide (i = j))) c := by
  rw [← deqI]
  exact propext ⟨fun h => h.2.2, fun h => ⟨rfl, rfl, h⟩⟩
theorem e_neI : oNe (.int i) (.int j) c Q = Q (.bl (decide (i ≠ j))) c := by
  rw [show decide (i ≠ j) = !deq (.int i) (.int j) by rw [deqI]; by_cases h : i = j <;> simp [h]]
  exact propext ⟨fun h => h.2.2, fun h => ⟨rfl, rfl, h⟩⟩
theorem deqB : deq (.bl a) (.bl b) = decide (a = b) := by cases a <;> cases b <;> rfl
theorem e_eqB : oEq (.bl a) (.bl b) c Q = Q (.bl (decide (a = b))) c := by
  rw [← deqB]
  exact propext ⟨fun h => h.2.2, fun h => ⟨rfl, rfl, h⟩⟩
theorem e_neB : oNe (.bl a) (.bl b) c Q = Q (.bl (decide (a ≠ b))) c := by
  rw [show decide (a ≠ b) = !deq (.bl a) (.bl b) by rw [deqB]; cases a <;> cases b <;> rfl]
  exact propext ⟨fun h => h.2.2, fun h => ⟨rfl, rfl, h⟩⟩
theorem e_eqS : oEq (.str s) (.str t) c Q = Q (.bl (decide (s = t))) c := rfl
theorem e_neS : oNe (.str s) (.str t) c Q = Q (.bl (!decide (s = t))) c := rfl
theorem e_eqN : oEq .non .non c Q = Q (.bl true) c := propext ⟨fun h => h.2.2, fun h => ⟨rfl, rfl, h⟩⟩
end
end VL
namespace VL
open PySem PySem.Spec PyProof.Rows L2
mutual
def pl : D → Bool
  | .non => true
  | .bl _ => true
  | .int _ => true
  | .str _ => true
  | .tup l => pls l
  | .lst l => pls l
  | .ptr _ => false
  | .scr _ => false
  | .ty _ => false
def pls : List D → Bool
  | [] => true
  | d :: l => pl d && pls l
end
mutual
def dep : D → Nat
  | .tup l => deps l + 1
  | .lst l => deps l + 1
  | .non => 0
  | .bl _ => 0
  | .int _ => 0
  | .str _ => 0
  | .ptr _ => 0
  | .scr _ => 0
  | .ty _ => 0
def deps : List D → Nat
  | [] => 0
  | d :: l => max (dep d) (deps l)
end
mutual
def fine : D → Bool
  | .non => true
  | .bl _ => true
  | .int i => decide (i.natAbs.log2 < 1920)
  | .str x => PyData.strOk x
  | .tup l => fines l
  | .lst l => fines l
  | .ptr _ => false
  | .scr _ => false
  | .ty _ => false
def fines : List D → Bool
  | [] => true
  | d :: l => fine d && fines l
end
mutual
def wt : D → Nat
  | .non => 4
  | .bl _ => 5
  | .int i => i.natAbs.log2 + 2
  | .str x => 10 * x.length + 2
  | .tup l => wts l + 3
  | .lst l => wts l + 3
  | .ptr _ => 0
  | .scr _ => 0
  | .ty _ => 0
def wts : List D → Nat
  | [] => 0
  | d :: l => wt d + 2 + wts l
end
theorem pls_all : ∀ {l : List D}, pls l = true ↔ ∀ d ∈ l, pl d = true
  | [] => by simp [pls]
  | d :: l => by simp [pls, pls_all (l := l)]
theorem deps_le : ∀ {l : List D} {n : Nat}, deps l ≤ n ↔ ∀ d ∈ l, dep d ≤ n
  | [], n => by simp [deps]
  | d :: l, n => by
    simp only [deps, List.mem_cons, forall_eq_or_imp]
    rw [← deps_le (l := l)]
    omega
mutual
theorem pl_fine : ∀ d : D, fine d = true → pl d = true
  | .non, _ => rfl
  | .bl _, _ => rfl
  | .int _, _ => rfl
  | .str _, _ => rfl
  | .tup l, h => by simpa [pl] using pls_fine l (by simpa [fine] using h)
  | .lst l, h => by simpa [pl] using pls_fine l (by simpa [fine] using h)
  | .ptr _, h => by simp [fine] at h
  | .scr _, h => by simp [fine] at h
  | .ty _, h => by simp [fine] at h
theorem pls_fine : ∀ l : List D, fines l = true → pls l = true
  | [], _ => rfl
  | d :: l, h => by
    simp only [fines, Bool.and_eq_true] at h
    simp [pls, pl_fine d h.1, pls_fine l h.2]
end
mutual
theorem lay_fine : ∀ d : D, fine d = true → (toP d).canLay0 = true ∧ (toP d).showable = true ∧ (toP d).depth = dep d ∧ (shD d).length ≤ wt d
  | .non, _ => ⟨rfl, rfl, rfl, by simp [shD, toP, PyData.shown, wt]; decide⟩
  | .bl b, _ => ⟨rfl, rfl, rfl, by cases b <;> decide⟩
  | .int i, h => by
    have h : i.natAbs.log2 < 1920 := by simpa [fine] using h
    refine ⟨rfl, by simp [toP, PyData.showable, h], rfl, ?_⟩
    show (Str.ofString (toString i)).length ≤ i.natAbs.log2 + 2
    have := int_text_length_le (a := i) (k := i.natAbs.log2 + 1) (by omega) (by omega)
    have e : (Str.ofString (toString i)).length = (toString i).length := PySem.ofString_length _
    omega
  | .str x, h => by
    have h : PyData.strOk x = true := by simpa [fine] using h
    refine ⟨by simpa [toP, PyData.canLay0] using h, rfl, rfl, ?_⟩
    show (reprText x).length ≤ 10 * x.length + 2
    refine StrLaws.reprText_len x fun c hc => ?_
    have h1 : ∀ c ∈ x.cps.toList, c < 0x110000 := by
      unfold PyData.strOk at h
      rw [← Array.all_toList] at h
      intro c hc
      simpa using List.all_eq_true.mp h c hc
    exact Nat.lt_of_lt_of_le (h1 c hc) (by decide)
  | .tup l, h => by
    obtain ⟨h1, h2, h3, h4⟩ := lays_fine l (by simpa [fine] using h)
    refine ⟨by simpa [toP, PyData.canLay0] using h1, by simpa [toP, PyData.showable] using h2, by simp [toP, PyData.depth, dep, h3], ?_⟩
    show (tupleText (PyData.shownAll (toPs l))).length ≤ wts l + 3
    unfold tupleText
    rw [strLen_append, strLen_append]
    have e1 : ((("(" : String) : Str)).length = 1 := rfl
    have e3 : (((if (PyData.shownAll (toPs l)).length == 1 then ",)" else ")" : String) : Str)).length ≤ 2 := by split <;> decide
    rw [e1]
    by_cases e : PyData.shownAll (toPs l) = []
    · rw [e] at e3 ⊢
      have : (Str.join ", " []).length = 0 := rfl
      omega
    · have := join_length_add _ e
      omega
  | .lst l, h => by
    obtain ⟨h1, h2, h3, h4⟩ := lays_fine l (by simpa [fine] using h)
    refine ⟨by simpa [toP, PyData.canLay0] using h1, by simpa [toP, PyData.showable] using h2, by simp [toP, PyData.depth, dep, h3], ?_⟩
    show (listText (PyData.shownAll (toPs l))).length ≤ wts l + 3
    unfold listText
    rw [strLen_append]
    have e1 : (("]" : String) : Str).length = 1 := rfl
    rw [e1]
    cases e : PyData.shownAll (toPs l) with
    | nil => show 1 + 1 ≤ _; omega
    | cons t r =>
      have hY : (textFrom 0 "[" (t :: r)).length = (textFrom 1 (("[" : Str) ++ (if (0 : Nat) > 0 then ", " else "" : String) ++ t) r).length := rfl
      have e2 : ((("[" : Str) ++ (if (0 : Nat) > 0 then ", " else "" : String) ++ t)).length = 1 + t.length := by
        rw [strLen_append, strLen_append]; rfl
      rw [hY, textFrom_length_pos r 1 _ (Nat.succ_pos 0), e2]
      rw [e, piled_cons] at h4
      omega
  | .ptr _, h => by simp [fine] at h
  | .scr _, h => by simp [fine] at h
  | .ty _, h => by simp [fine] at h
theorem lays_fine : ∀ l : List D, fines l = true → PyData.canLayAll0 (toPs l) = true ∧ PyData.showableAll (toPs l) = true ∧ PyData.depthAll (toPs l) = deps l ∧ piled (PyData.shownAll (toPs l)) ≤ wts l
  | [], _ => ⟨rfl, rfl, rfl, Nat.le_refl _⟩
  | d :: l, h => by
    simp only [fines, Bool.and_eq_true] at h
    obtain ⟨h1, h2, h3, h4⟩ := lay_fine d h.1
    obtain ⟨g1, g2, g3, g4⟩ := lays_fine l h.2
    refine ⟨by simp [toPs, PyData.canLayAll0, h1, g1], by simp [toPs, PyData.showableAll, h2, g2], by simp [toPs, PyData.depthAll, h3, g3, deps], ?_⟩
    show piled (PyData.shown (toP d) :: PyData.shownAll (toPs l)) ≤ wt d + 2 + wts l
    rw [piled_cons]
    have : (PyData.shown (toP d)).length ≤ wt d := h4
    omega
end
theorem ok_fine {d : D} (h : fine d = true) (k : dep d ≤ 64) : okD d := by
  obtain ⟨h1, _, h3, _⟩ := lay_fine d h
  unfold okD SeqAt.shaped
  rw [h1, h3]
  simpa using k
theorem rdv_fine {c : Cs} {d : D} (h : fine d = true) : rdv c d = d := by cases d <;> first | rfl | simp [fine] at h
end VL
namespace VL
open PySem PySem.Spec PyProof.Rows L2 RT
section
variable {X : Cx} {W : WX} {a b e : Expr} {es : List Expr} {wa wb wc : WE} {ws wk : WA} {p pos : Pos} {k : Nat} {o1 o2 : Op2}
def wChn (o o' : Op2) (wa wb wc : WE) : WE := fun en c Q X => wa en c (fun x c1 => wb en c1 (fun y c2 => o x y c2 (onB fun t c3 => if t = true then wc en c3 (fun z c4 => o' y z c4 Q) X else Q (.bl false) c3)) X) X
def truD (c : Cs) : D → Option Bool
  | .non => some false
  | .bl b => some b
  | .int i => some (i != 0)
  | .str z => if z.length ≤ sizeLine then some ((z.length : Int) != 0) else none
  | d => (seqOf c d).map fun l => !l.isEmpty
def wTru (w : WE) : WT := fun en c Q X => w en c (fun d c' => ∃ b, truD c' d = some b ∧ Q b c') X
def sPar3 (i j l : Nat) (ws : WA) : WS := fun D X en c => ws en c (fun ds c' => match ds with
  | [d, d', d''] => D.nx (((en.set i (some d)).set j (some d')).set l (some d'')) c'
  | _ => False) X
def wRev (we : WE) : WI := fun en c Q X => we en c (fun d c1 => match seqOf c1 d with
  | some l => l.length ≤ sizeLine → Q l.reverse (fun c' => seqOf c' d = some l) c1
  | none => False) X
/-- the values in the parameters' order -/
def permF {α : Type} (perm : List Nat) (l : List α) : List α := perm.filterMap fun i => l[i]?
/-- how a def takes np values by place, then those of the keywords ks -/
def KW (K : PySem.W.Frag) (fd : FuncData) (ps : List Str) (np : Nat) (ks : List Str) (perm : List Nat) : Prop :=
  ∀ (s : Shared) (us ws : List Value), K.In s.heap → us.length = np → ws.length = ks.length → BindsTo s fd ⟨us, ks.zip ws⟩ (ps.zip (permF perm (us ++ ws)))
abbrev JK (X : Cx) (W : WX) (kws : List Keyword) (w : WA) : Prop := PK X kws (rdA X.K X.mg W w)
theorem PK.of {kws : List Keyword} {t t' : TA} (h : PK X kws t) (k : ∀ σ H Q, t' σ H Q → t σ H Q) : PK X kws t' := ⟨fun pos pins s σ H Q I q => h.run pos pins s σ H Q I (k σ H Q q)⟩
theorem jk_nil : JK X W [] wNil := PK.of pk_nil fun σ H Q ⟨G, en, c, Q0, X0, s, er, q, x0, kk⟩ => kk [] c [] H G q Gr.refl s rfl
theorem jk_cons {e : Expr} {we : WE} {kws : List Keyword} {nm : Option Str} {kpos : Pos} (h1 : JE X W e we) (h2 : JK X W kws wk) : JK X W (⟨nm, e, kpos⟩ :: kws) (wCons we wk) := by
  refine PK.of (pk_cons h1 h2) fun σ H Q ⟨G, en, c, Q0, X0, s, er, q, x0, kk⟩ => ?_
  refine ⟨G, en, c, _, X0, s, er, q, x0, fun d c1 v H1 G1 q1 g1 s1 r1 => ?_⟩
  refine ⟨G1, en, c1, _, X0, s1, er.mono g1.g, q1, x0.more g1, fun ds c2 vs H2 G2 q2 g2 s2 r2 => ?_⟩
  exact kk (d :: ds) c2 (v :: vs) H2 G2 q2 (g1.trans g2) s2 ⟨v, vs, rfl, Rep.mono g2.g _ _ r1, r2⟩
def wCallK (np nk : Nat) (perm : List Nat) (n : Nat) (ct : Nat → Ctr) (k : Nat) (ws wk : WA) : WE := fun en c Q X => ws en c (fun ds c1 => wk en c1 (fun es c2 => ds.length = np ∧ es.length = nk ∧ (permF perm (ds ++ es)).length = n ∧ lvl ct k (permF perm (ds ++ es)) c2 Q (fun n d c3 => X n d en c3)) X) X
variable {np n : Nat} {ct : Nat → Ctr} {x : Str} {ks : List Str} {perm : List Nat} {kws : List Keyword}
end
section
variable {c : Cs} {Q : DK} {i : Int} {d : D} {p : Addr}
theorem e_pop0 : oPop0 (.ptr p) [] c Q = (∃ l, c p = some (.lst l) ∧ ∃ d, l[l.length - 1]? = some d ∧ Q d (cup c p (.lst l.dropLast))) :=
  propext ⟨fun ⟨q, l, d, h, h2, h3⟩ => by obtain ⟨rfl, h⟩ := live_iff.mp h; exact ⟨l, h, d, h2, h3⟩, fun ⟨l, h, d, h2, h3⟩ => ⟨p, l, d, live_iff.mpr ⟨rfl, h⟩, h2, h3⟩⟩
theorem e_popAt : oPopAt (.ptr p) [.int i] c Q = (∃ l, c p = some (.lst l) ∧ ∃ d j, -(2 ^ 63) ≤ i ∧ i < 2 ^ 63 ∧ ixN l.length i = some j ∧ l[j]? = some d ∧ Q d (cup c p (.lst (l.eraseIdx j)))) :=
  propext ⟨fun ⟨q, l, d, j, h, h2⟩ => by obtain ⟨rfl, h⟩ := live_iff.mp h; exact ⟨l, h, d, j, h2⟩, fun ⟨l, h, d, j, h2⟩ => ⟨p, l, d, j, live_iff.mpr ⟨rfl, h⟩, h2⟩⟩
end
section
variable {c : Cs} {Q : DK} {p : Addr} {i : Int} {a b d e : D}
theorem e_tupP : oTuple [.ptr p] c Q = (∃ l, (c p).bind Cell.items = some l ∧ Q (.tup l) c) := by
  show (match seqOf c (.ptr p) with | some l => Q (.tup l) c | none => False) = _
  rw [e_seqP]
  cases (c p).bind Cell.items with
  | none => simp
  | some l => simp
theorem e_listP : oList [.ptr p] c Q = (∃ l, (c p).bind Cell.items = some l ∧ Q (.lst l) c) := by
  show (match seqOf c (.ptr p) with | some l => Q (.lst l) c | none => False) = _
  rw [e_seqP]
  cases (c p).bind Cell.items with
  | none => simp
  | some l => simp
theorem e_neN : oNe .non .non c Q = Q (.bl false) c := propext ⟨fun h => h.2.2, fun h => ⟨rfl, rfl, h⟩⟩
theorem e_neIN : oNe (.int i) .non c Q = Q (.bl true) c := propext ⟨fun h => h.2.2, fun h => ⟨rfl, rfl, h⟩⟩
theorem e_neNI : oNe .non (.int i) c Q = Q (.bl true) c := propext ⟨fun h => h.2.2, fun h => ⟨rfl, rfl, h⟩⟩
theorem e_eqIN : oEq (.int i) .non c Q = Q (.bl false) c := propext ⟨fun h => h.2.2, fun h => ⟨rfl, rfl, h⟩⟩
theorem e_eqNI : oEq .non (.int i) c Q = Q (.bl false) c := propext ⟨fun h => h.2.2, fun h => ⟨rfl, rfl, h⟩⟩
theorem dl1 : [a].dropLast = [] := rfl
theorem dl2 : [a, b].dropLast = [a] := rfl
theorem dl3 : [a, b, d].dropLast = [a, b] := rfl
theorem ix10 : ixN 1 0 = some 0 := rfl
theorem ix20 : ixN 2 0 = some 0 := rfl
theorem ix21 : ixN 2 1 = some 1 := rfl
end
end VL
namespace VL
open PySem PySem.Spec PyProof.Rows L2
def wSlL (wa : WE) (wl wh : WO) : WE := fun en c Q X => wa en c (fun x c1 => wl en c1 (fun lo c2 => wh en c2 (fun hi c3 => match lstOf c3 x with
  | some l => ∀ p, c3 p = none → Q (.ptr p) (cup c3 p (.lst (cutL l lo hi)))
  | none => False) X) X) X
mutual
inductive RdE (c : Cs) : D → D → Prop
  | non : RdE c .non .non
  | bl (b : Bool) : RdE c (.bl b) (.bl b)
  | int (i : Int) : RdE c (.int i) (.int i)
  | str (s : Str) : RdE c (.str s) (.str s)
  | tup {l m : List D} : RdsE c l m → RdE c (.tup l) (.tup m)
  | lst {l m : List D} : RdsE c l m → RdE c (.lst l) (.lst m)
  | ptr {p : Addr} {l m : List D} : (c p).bind Cell.items = some l → RdsE c l m → RdE c (.ptr p) (.lst m)
inductive RdsE (c : Cs) : List D → List D → Prop
  | nil : RdsE c [] []
  | cons {d e : D} {l m : List D} : RdE c d e → RdsE c l m → RdsE c (d :: l) (e :: m)
end
mutual
theorem RdE.self {c : Cs} : ∀ {d : D}, pl d = true → RdE c d d
  | .non, _ => .non
  | .bl b, _ => .bl b
  | .int i, _ => .int i
  | .str s, _ => .str s
  | .tup l, h => .tup (RdsE.self (l := l) (by simpa [pl] using h))
  | .lst l, h => .lst (RdsE.self (l := l) (by simpa [pl] using h))
  | .ptr _, h => by simp [pl] at h
  | .scr _, h => by simp [pl] at h
  | .ty _, h => by simp [pl] at h
theorem RdsE.self {c : Cs} : ∀ {l : List D}, pls l = true → RdsE c l l
  | [], _ => .nil
  | d :: l, h => by
    simp only [pls, Bool.and_eq_true] at h
    exact .cons (RdE.self h.1) (RdsE.self h.2)
end
theorem RdsE.len {c : Cs} : ∀ {l m : List D}, RdsE c l m → l.length = m.length
  | _, _, .nil => rfl
  | _, _, .cons _ h => by simp [h.len]
theorem RdsE.get {c : Cs} : ∀ {l m : List D}, RdsE c l m → ∀ {i : Nat} {d : D}, l[i]? = some d → ∃ e, m[i]? = some e ∧ RdE c d e
  | _, _, .nil, _, _, h => by simp at h
  | _, _, .cons r _, 0, _, h => by cases h; exact ⟨_, rfl, r⟩
  | _, _, .cons _ h, i + 1, _, e => by
    obtain ⟨z, h1, h2⟩ := h.get (i := i) (by simpa using e)
    exact ⟨z, by simpa using h1, h2⟩
theorem tyN_ptr {c : Cs} {p : Addr} {l : List D} (h : (c p).bind Cell.items = some l) : tyN c (.ptr p) = "list" := by
  show (match c p with | some (.lst _) => "list" | some (.fz _) => "list" | some (.dic _) => "dict" | _ => "") = "list"
  cases e : c p with
  | none => rw [e] at h; cases h
  | some x => cases x <;> rw [e] at h <;> first | rfl | cases h
section
variable {c : Cs} {Q : DK} {i : Int} {d : D} {p : Addr}
theorem e_rev : oReverse (.ptr p) [] c Q = (∃ l, c p = some (.lst l) ∧ Q .non (cup c p (.lst l.reverse))) :=
  propext ⟨fun ⟨q, l, h, h2⟩ => by obtain ⟨rfl, h⟩ := live_iff.mp h; exact ⟨l, h, h2⟩, fun ⟨l, h, h2⟩ => ⟨p, l, live_iff.mpr ⟨rfl, h⟩, h2⟩⟩
theorem e_clear : oClear (.ptr p) [] c Q = (∃ l, c p = some (.lst l) ∧ Q .non (cup c p (.lst []))) :=
  propext ⟨fun ⟨q, l, h, h2⟩ => by obtain ⟨rfl, h⟩ := live_iff.mp h; exact ⟨l, h, h2⟩, fun ⟨l, h, h2⟩ => ⟨p, l, live_iff.mpr ⟨rfl, h⟩, h2⟩⟩
end
mutual
theorem deq_self : ∀ d : D, pl d = true → deq d d = true
  | .non, _ => rfl
  | .bl b, _ => by cases b <;> rfl
  | .int i, _ => by rw [deqI]; simp
  | .str s, _ => by simp [deq, toP, PyData.eqv]
  | .tup l, h => by simpa [deq, toP, PyData.eqv] using deqs_self l (by simpa [pl] using h)
  | .lst l, h => by simpa [deq, toP, PyData.eqv] using deqs_self l (by simpa [pl] using h)
  | .ptr _, h => by simp [pl] at h
  | .scr _, h => by simp [pl] at h
  | .ty _, h => by simp [pl] at h
theorem deqs_self : ∀ l : List D, pls l = true → PyData.eqvAll (toPs l) (toPs l) = true
  | [], _ => rfl
  | d :: l, h => by
    simp only [pls, Bool.and_eq_true] at h
    have h1 : PyData.eqv (toP d) (toP d) = true := deq_self d h.1
    simp [toPs, PyData.eqvAll, h1, deqs_self l h.2]
end
theorem e_neSelf {c : Cs} {d : D} {Q : DK} (h : fine d = true) (k : dep d ≤ 64) (q : Q (.bl false) c) : oNe d d c Q := by
  have base : okD (rdv c d) ∧ okD (rdv c d) ∧ Q (.bl (!deq (rdv c d) (rdv c d))) c := by
    rw [rdv_fine h, deq_self d (pl_fine d h)]
    exact ⟨ok_fine h k, ok_fine h k, q⟩
  cases d <;> first
    | exact base
    | (show Q (.bl (!decide _)) c; rw [decide_eq_true rfl]; exact q)
section
variable {c : Cs} {Q : DK} {p q : Addr} {l : List D}
theorem e_addPP : oAdd (.ptr p) (.ptr q) c Q = (∃ a, (c p).bind Cell.items = some a ∧ ∃ b, (c q).bind Cell.items = some b ∧ a.length + b.length ≤ sizeLine ∧ Q (.lst (a ++ b)) c) := by
  show (match lstOf c (.ptr p), lstOf c (.ptr q) with | some a, some b => a.length + b.length ≤ sizeLine ∧ Q (.lst (a ++ b)) c | _, _ => False) = _
  rw [lst_ptr, lst_ptr]
  cases (c p).bind Cell.items <;> cases (c q).bind Cell.items <;> simp
theorem e_addPL : oAdd (.ptr p) (.lst l) c Q = (∃ a, (c p).bind Cell.items = some a ∧ a.length + l.length ≤ sizeLine ∧ Q (.lst (a ++ l)) c) := by
  show (match lstOf c (.ptr p), some l with | some a, some b => a.length + b.length ≤ sizeLine ∧ Q (.lst (a ++ b)) c | _, _ => False) = _
  rw [lst_ptr]
  cases (c p).bind Cell.items <;> simp
theorem e_addLP : oAdd (.lst l) (.ptr p) c Q = (∃ a, (c p).bind Cell.items = some a ∧ l.length + a.length ≤ sizeLine ∧ Q (.lst (l ++ a)) c) := by
  show (match some l, lstOf c (.ptr p) with | some a, some b => a.length + b.length ≤ sizeLine ∧ Q (.lst (a ++ b)) c | _, _ => False) = _
  rw [lst_ptr]
  cases (c p).bind Cell.items <;> simp
end
end VL
namespace VL
open PySem PySem.Spec PyProof.Rows L2
theorem split_take {α : Type} {l : List α} {i : Nat} {a : α} (h : l[i]? = some a) : l = l.take i ++ a :: l.drop (i + 1) ∧ l.take (i + 1) = l.take i ++ [a] := by
  obtain ⟨hi, rfl⟩ := List.getElem?_eq_some_iff.mp h
  refine ⟨?_, by rw [List.take_succ, h]; rfl⟩
  rw [← List.drop_eq_getElem_cons hi, List.take_append_drop]
section
variable {chk : Cs → Prop} {t : Tg} {wb : WS} {D0 : EndD} {X : XD} {α : Type}
/-- the next turn, whichever way -/
def Step (D1 D0 : EndD) (J : En → Cs → Prop) : Prop := (∀ en c, J en c → D1.nx en c) ∧ (∀ en c, J en c → D1.ct en c) ∧ D1.rt = D0.rt ∧ D1.bk = D0.nx
theorem loopP (enc : α → D) {as : List α} (I : List α → En → Cs → Prop) {en : En} {c : Cs} (h0 : I [] en c)
    (hs : ∀ pre a post en c, as = pre ++ a :: post → I pre en c → chk c ∧ ∃ en', bindT t (enc a) en = some en' ∧ ∀ D1 : EndD, Step D1 D0 (I (pre ++ [a])) → wb D1 X en' c)
    (hf : ∀ en c, I as en c → chk c ∧ D0.nx en c) : loopW chk t wb D0 X (as.map enc) en c := by
  refine loop_inv (fun i => I (as.take i)) (by simpa using h0) (fun i en c d hd hi => ?_) fun en c hi => hf en c (by simpa using hi)
  rw [List.getElem?_map] at hd
  cases ha : as[i]? with
  | none => rw [ha] at hd; cases hd
  | some a =>
    rw [ha] at hd
    cases hd
    obtain ⟨e1, e2⟩ := split_take ha
    obtain ⟨hc, en', hb, h⟩ := hs _ a _ en c e1 hi
    exact ⟨hc, en', hb, fun D1 a1 a2 a3 a4 => h D1 (by rw [← e2]; exact ⟨a1, a2, a3, a4⟩)⟩
theorem loopE (enc : α → D) {as : List α} (I : List α → En → Cs → Prop) {en : En} {c : Cs} (h0 : I [] en c)
    (hs : ∀ pre a post en c, as = pre ++ a :: post → I pre en c → chk c ∧ ∃ en', bindT t (.tup [.int (pre.length : Nat), enc a]) en = some en' ∧ ∀ D1 : EndD, Step D1 D0 (I (pre ++ [a])) → wb D1 X en' c)
    (hf : ∀ en c, I as en c → chk c ∧ D0.nx en c) : loopW chk t wb D0 X (enD 0 (as.map enc)) en c := by
  refine loop_inv (fun i => I (as.take i)) (by simpa using h0) (fun i en c d hd hi => ?_) fun en c hi => hf en c (by rw [enD_length, List.length_map, List.take_length] at hi; exact hi)
  obtain ⟨e, he, rfl⟩ := enD_get _ _ _ _ hd
  rw [List.getElem?_map] at he
  cases ha : as[i]? with
  | none => rw [ha] at he; cases he
  | some a =>
    rw [ha] at he
    cases he
    obtain ⟨e1, e2⟩ := split_take ha
    obtain ⟨hc, en', hb, h⟩ := hs _ a _ en c e1 hi
    have el : (as.take i).length = i := by rw [List.length_take]; have := (List.getElem?_eq_some_iff.mp ha).1; omega
    rw [el] at hb
    rw [Nat.zero_add]
    exact ⟨hc, en', hb, fun D1 a1 a2 a3 a4 => h D1 (by rw [← e2]; exact ⟨a1, a2, a3, a4⟩)⟩
variable {wt : WT} {we : WE} {vs : List Nat} {en : En} {fin : List D → Cs → Prop} {c : Cs}
/-- comprehensions over known things -/
theorem lcP (enc : α → D) {as : List α} (I : List α → List D → Cs → Prop) (h0 : I [] [] c)
    (hs : ∀ pre a post acc c, as = pre ++ a :: post → I pre acc c → chk c ∧ ∃ en', bindT t (enc a) (ewipe en vs) = some en' ∧ ∀ Nx : List D → Cs → Prop, (∀ acc c, I (pre ++ [a]) acc c → Nx acc c) →
      wt en' c (fun b c1 => if b = true then we en' c1 (fun y c2 => Nx (acc ++ [y]) c2) noX else Nx acc c1) noX)
    (hf : ∀ acc c, I as acc c → chk c ∧ fin acc c) : lcW chk t wt we vs en fin (as.map enc) [] c := by
  refine lc_inv (fun i => I (as.take i)) (by simpa using h0) (fun i acc c d hd hi => ?_) fun acc c hi => hf acc c (by simpa using hi)
  rw [List.getElem?_map] at hd
  cases ha : as[i]? with
  | none => rw [ha] at hd; cases hd
  | some a =>
    rw [ha] at hd
    cases hd
    obtain ⟨e1, e2⟩ := split_take ha
    obtain ⟨hc, en', hb, h⟩ := hs _ a _ acc c e1 hi
    exact ⟨hc, en', hb, fun Nx a1 => h Nx (by rw [← e2]; exact a1)⟩
theorem lcM (enc : α → D) {as : List α} (f : α → D) (hc : chk c) (hs : ∀ a, a ∈ as → ∃ en', bindT t (enc a) (ewipe en vs) = some en' ∧ ∀ Q : DK, Q (f a) c → we en' c Q noX) (hf : fin (as.map f) c) : lcW chk t wYes we vs en fin (as.map enc) [] c := by
  refine lcP enc (fun pre acc c' => acc = pre.map f ∧ c' = c) ⟨rfl, rfl⟩ ?_ ?_
  · rintro pre a post acc c' e ⟨rfl, rfl⟩
    obtain ⟨en', hb, h⟩ := hs a (by rw [e]; simp)
    exact ⟨hc, en', hb, fun Nx k => h _ (k _ _ ⟨by simp, rfl⟩)⟩
  · rintro acc c' ⟨rfl, rfl⟩
    exact ⟨hc, hf⟩
end
/-- a range, as the numbers that it has -/
theorem rgD_nat (n : Nat) : rgD 0 (n : Int) = (List.range n).map fun (i : Nat) => D.int (i : Nat) := by
  unfold rgD
  rw [Int.sub_zero, Int.toNat_natCast]
  exact List.map_congr_left fun i _ => by rw [Int.zero_add]
end VL
namespace VL
open PySem PySem.Spec PyProof.Rows L2
/-- f = d among the fields -/
def putD (f : Str) (d : D) : List (Str × D) → List (Str × D)
  | [] => [(f, d)]
  | (g, x) :: r => if g = f then (g, d) :: r else (g, x) :: putD f d r
section
variable {K : PySem.W.Frag} {G : Hp}
theorem RepF.get {f : Str} {d : D} : ∀ {fs : List (Str × D)} {fv : List (Str × V)}, RepF K G fs fv → fs.lookup f = some d → ∃ v, fv.lookup f = some v ∧ Rep K G d v
  | [], _, h, e => by cases e
  | (g, x) :: fs, _, ⟨v, r, ev, h1, h2⟩, e => by
    subst ev
    simp only [List.lookup] at e ⊢
    cases hb : f == g with
    | true =>
      rw [hb] at e
      cases e
      exact ⟨v, rfl, h1⟩
    | false =>
      rw [hb] at e
      exact RepF.get h2 e
theorem RepF.no {f : Str} : ∀ {fs : List (Str × D)} {fv : List (Str × V)}, RepF K G fs fv → fs.lookup f = none → fv.lookup f = none
  | [], _, h, e => by cases h; rfl
  | (g, x) :: fs, _, ⟨v, r, ev, h1, h2⟩, e => by
    subst ev
    simp only [List.lookup] at e ⊢
    cases hb : f == g with
    | true => rw [hb] at e; cases e
    | false =>
      rw [hb] at e
      exact RepF.no h2 e
end
section
variable {X : Cx} {W : WX} {o e value : Expr} {f : Str} {pos pos' tpos apos : Pos} {wo we wv : WE} {ws : WA} {es : List Expr}
/-- o.f -/
def wFld (C : Addr) (f : Str) (wo : WE) : WE := fun en c Q X => wo en c (fun d c1 => match d with
  | .ptr p => ∃ fs v, c1 p = some (.obj C fs) ∧ fs.lookup f = some v ∧ Q v c1
  | _ => False) X
theorem ptr_of {R : Addr → Prop} {d : D} (h : match d with | .ptr p => R p | _ => False) : ∃ p, d = .ptr p ∧ R p := by
  cases d <;> first
    | exact h.elim
    | exact ⟨_, rfl, h⟩
/-- o.f = e -/
def sFldS (C : Addr) (f : Str) (wo we : WE) : WS := fun D X en c => we en c (fun y c1 => wo en c1 (fun d c2 => match d with
  | .ptr p => ∃ fs, c2 p = some (.obj C fs) ∧ fs.length < 1000 ∧ D.nx en (cup c2 p (.obj C (putD f y fs)))
  | _ => False) X) X
/-- o.f op= e -/
def sFldA (C : Addr) (f : Str) (o2 : Op2) (wo we : WE) : WS := fun D X en c => wo en c (fun d c1 => match d with
  | .ptr p => ∃ fs v, c1 p = some (.obj C fs) ∧ fs.lookup f = some v ∧ we en c1 (fun y c2 => o2 v y c2 fun z c3 => ∃ fs', c3 p = some (.obj C fs') ∧ fs'.length < 1000 ∧ D.nx en (cup c3 p (.obj C (putD f z fs')))) X
  | _ => False) X
/-- .., o.f, .. = -/
def gFld (C : Addr) (f : Str) (wo : WE) : WG := fun y en c Q X => wo en c (fun d c2 => match d with
  | .ptr p => ∃ fs, c2 p = some (.obj C fs) ∧ fs.length < 1000 ∧ Q en (cup c2 p (.obj C (putD f y fs)))
  | _ => False) X
def wMeth (C : Addr) (m : Str) (n : Nat) (ct : Nat → Ctr) (k : Nat) (wo : WE) (ws : WA) : WE := fun en c Q X => wo en c (fun d c1 => match d with
  | .ptr p => ∃ fs, c1 p = some (.obj C fs) ∧ fs.lookup m = none ∧ ws en c1 (fun ds c2 => ds.length + 1 = n ∧ lvl ct k (.ptr p :: ds) c2 Q (fun n d c3 => X n d en c3)) X
  | _ => False) X
def lvl2 (ct : Nat → Ctr) : Nat → Ctr
  | 0 => fun _ _ _ _ => False
  | k + 1 => lvl ct k
theorem lvl2_s {ct : Nat → Ctr} {k : Nat} : lvl2 ct (k + 1) = lvl ct k := rfl
def wMake (C : Addr) (n : Nat) (ct : Nat → Ctr) (k : Nat) (ws : WA) : WE := fun en c Q X => ws en c (fun ds c1 => ds.length + 1 = n ∧ ∀ p, c1 p = none → lvl2 ct k (.ptr p :: ds) (cup c1 p (.obj C [])) (fun d c2 => isNon d = true ∧ Q (.ptr p) c2) (fun n d c3 => X n d en c3)) X
end
end VL
namespace VL
open PySem PySem.Spec PyProof.Rows L2
section
variable {X : Cx}
def oMulT : Op2 := fun x y c Q => match x, y with
  | .tup l, .int k => l ≠ [] ∧ 0 ≤ k ∧ k ≤ 1000 ∧ l.length ≤ 1000 ∧ Q (.tup (List.replicate k.toNat l).flatten) c
  | _, _ => False
end
theorem e_mulT {l : List D} {i : Int} {c : Cs} {Q : DK} : oMulT (.tup l) (.int i) c Q = (l ≠ [] ∧ 0 ≤ i ∧ i ≤ 1000 ∧ l.length ≤ 1000 ∧ Q (.tup (List.replicate i.toNat l).flatten) c) := rfl
end VL
set_option maxHeartbeats 4000000
namespace VL
open PySem PySem.Spec PyProof.Rows L2
open Builtin Builtin.ObjectAttr
theorem baseE : ∀ b : EB, ExcBaseFacts b.nm b.new b.ini b.tl
  | .v => F.excBase_ValueError
  | .l => F.excBase_LookupError
  | .r => F.excBase_RuntimeError
  | .t => F.excBase_TypeError
theorem baseS : ∀ b : EB, StoreFacts b.nm b.tl "object.__setattr__" "object"
  | .v => F.store_ValueError
  | .l => F.store_LookupError
  | .r => F.store_RuntimeError
  | .t => F.store_TypeError
theorem baseB : ∀ b : EB, bootBuiltins (Str.ofString b.nm) = some (.type b.nm)
  | .v => PyProof.Rows.Boot.«ValueError»
  | .l => PyProof.Rows.Boot.«LookupError»
  | .r => PyProof.Rows.Boot.«RuntimeError»
  | .t => PyProof.Rows.Boot.«TypeError»
theorem baseT : ∀ b : EB, typeOf (.type b.nm) = pure (.type "type")
  | .v => by kernel_rfl
  | .l => by kernel_rfl
  | .r => by kernel_rfl
  | .t => by kernel_rfl
section
variable {prog : Program} {w : World} {A : Around} {R : Result → Shared → Prop} {hp : Heap} {g : Array GenState} {d : Drawn} {t : Nat} {os : OsState}
theorem taker_none {K : W.Frag} {C : Addr} {f : Str} (h : W.findIn K (.ref C) f = some none) : W.takerIn K C f = some none := by
  unfold W.takerIn
  rw [h]
  rfl
/-- the first field of an exception that has no dict as yet -/
theorem field_first {K : W.Frag} {b : EB} {n : Str} {tk : Tok} {v : Value} {x C : Addr} {fv : Array Value} (T : ExcK K n b C) (X : K.In hp) (hx : hp.get? x = some { cls := .ref C, data := .fields fv })
    (hq : ∀ h' tk' dx, (∀ c o, c ≠ x → hp.get? c = some o → h'.get? c = some o) → hp.objs.size ≤ dx → dx ≠ x → h'.get? x = some { cls := .ref C, dict := some dx, data := .fields fv } →
      h'.Ns1 dx (fun y => if y = "what" then some v else none) → R (.ok (.ret .none)) ⟨h', g, d, tk', os⟩) :
    codeAny (model prog w) A (.call (.builtin "object.__setattr__") ⟨[.ref x, .str "what" tk, v], []⟩) R ⟨hp, g, d, t, os⟩ := by
  have II : W.InstAt hp x { cls := .ref C, data := .fields fv } C none := ⟨hx, rfl, rfl, trivial⟩
  have hlt : x ≠ hp.objs.size := Nat.ne_of_lt (Heap.lt_size hx)
  obtain ⟨cd, hcd, hm⟩ : ∃ cd, W.clsIn K C = some cd ∧ cd.hasDict = true := by
    obtain ⟨cd, h1, h2⟩ := W.any_some T.is.hd
    exact ⟨cd, h1, h2⟩
  have hcls : W.Looks (model prog w) hp (classData C) cd := W.looks_clsIn X hcd
  refine W.osa_openX (s := ⟨hp, g, d, t, os⟩) (baseS b) X II T.ovr (taker_none T.no) fun q => ?_
  show wpAny _ _ (storeInOwnDict (.ref x) (.ref C) (.str "what" tk) "what" v q) _ _ _
  obtain ⟨nm, bs, mro, ns, qn, hd, sn, sb, ab, col, del⟩ := cd
  dsimp only at hm
  subst hm
  unfold storeInOwnDict ownDictForStores
  repeat (first | with_reducible refine HandSPX.store_in_new ?_ ?_ | with_reducible refine wpAny_loadPart_at hx ?_ | with_reducible refine hcls.at ?_ | wp_step)
  · refine ⟨_, #[], _, (Heap.get?_update_ne _ _ _ _ (Ne.symm hlt)).trans (Heap.get?_push_at rfl rfl), rfl, (fun z hz => ?_), fun _ => rfl⟩
    exact absurd hz (by simp)
  · intro h1 tk1 hn1 hs1
    have hx1 : (hp.push { cls := .type "dict", data := .dict #[] }).get? x = some { cls := .ref C, data := .fields fv } := Heap.get?_push_of_some _ hx
    refine hq h1 tk1 hp.objs.size (fun c o hc ho => ?_) (Nat.le_refl _) (Ne.symm hlt) ?_ hn1
    · have lt1 := Nat.ne_of_lt (Heap.lt_size ho)
      exact (hs1.2 c lt1).trans ((Heap.get?_update_ne _ _ _ _ hc).trans (Heap.get?_push_of_some _ ho))
    · exact (hs1.2 x hlt).trans (Heap.get?_update_self _ hx1 rfl)
end
section
variable {X : Cx} {pins : List (Addr × Obj)} {σ : L2.St} {H : Hp} {s : Shared} {a C : Addr} {b : EB} {n : Str}
/-- self.what = y -/
theorem what_new {y : V} {u : Value} {Q : Unit → Shared → Prop} {E : Value → Shared → Prop} {A : Around} (T : ExcK X.K n b C) (I : Inv X pins σ H s) (e : H a = some (exo a C none)) (ry : RelV y u)
    (h : ∀ dx s', H dx = none → dx ≠ a → Inv X pins σ (upd (upd H dx (exd dx [(("what" : Str), y)])) a (exo a C (some dx))) s' → Q () s') : wpAny (model X.prog X.w) A (setAttr (.ref a) "what" u) Q E s := by
  obtain ⟨t1, ho⟩ := exo_at I.hok e
  obtain ⟨hp, g, d, t, os⟩ := s
  refine W.set_plain I.kIn (ox := { cls := .ref C, dict := none, data := .fields #[.ref t1, .none, .none, .none, .bool false, .none] }) (od := none) ⟨ho, rfl, rfl, trivial⟩ T.sa ?_
  refine field_first T I.kIn ho fun h1 tk1 dx k dn dne hx hn => ?_
  have hnd : H dx = none := I.hok.fresh dn
  have old : ∀ {c : Addr} {o : Obj}, hp.get? c = some o → c ≠ dx := fun {c o} z => Nat.ne_of_lt (Nat.lt_of_lt_of_le (Heap.lt_size z) dn)
  have nota : ∀ {c : Addr}, H c = none → c ≠ a := fun {c} z w => by rw [w, e] at z; cases z
  have un : Un X.fs [] H (upd (upd H dx (exd dx [(("what" : Str), y)])) a (exo a C (some dx))) hp h1 := {
    keep := fun c o z n _ _ => k c o (nota n) z
    slot := fun c o z n _ _ => ⟨o.slots, k c o (nota n) z⟩
    free := fun c o z n _ => by rw [upd_ne (nota n), upd_ne (old z)]; exact n
    there := fun c o z _ => by
      by_cases hc : c = a
      · subst hc
        exact ⟨_, hx⟩
      · exact ⟨o, k c o hc z⟩
    tups := fun c xs z => by rw [upd_ne (at_ne e z exo_tup), upd_ne (ne_of_none z hnd)]; exact z
    frzs := fun c o v z => by rw [upd_ne (at_ne e z exo_frz), upd_ne (ne_of_none z hnd)]; exact z
    tbls := fun c ps z => ⟨#[], by rw [upd_ne (at_ne e z exo_tbl), upd_ne (ne_of_none z hnd), z]; simp⟩ }
  refine h dx _ hnd dne (I.un (t' := tk1) un fun c o z => ?_)
  by_cases hc : c = a
  · subst hc
    rw [upd_same] at z
    cases z
    exact exo_ok hx
  · rw [upd_ne hc] at z
    by_cases hd : c = dx
    · subst hd
      rw [upd_same] at z
      cases z
      exact exd_ok hn (relO_put (fs := []) ry fun _ => True.intro)
    · rw [upd_ne hd] at z
      refine (I.hok c o z).stay (fun f v hf z => k f v ?_ z) (fun f hf => ?_) fun f xs hf => ?_
      · rcases hf with hf | hf
        · rw [hf]; exact hc
        · exact at_ne e hf exo_own
      · rw [upd_ne (at_ne e hf exo_own), upd_ne (ne_of_none hf hnd)]; exact hf
      · rw [upd_ne (at_ne e hf exo_tup), upd_ne (ne_of_none hf hnd)]; exact hf
/-- B.__init__(self, ..) leaves the exception as it was -/
theorem base_init {us : List Value} {Q : Value → Shared → Prop} {E : Value → Shared → Prop} {A : Around} (T : ExcK X.K n b C) (I : Inv X pins σ H s) (e : H a = some (exo a C none)) (hl : us.length ≤ sizeLine) (h : ∀ s', Inv X pins σ H s' → Q .none s') :
    wpAny (model X.prog X.w) A (call (.builtin b.ini) (.ref a :: us)) Q E s := by
  obtain ⟨nm, N, qn, bs, bm, hdct, sn, sub, ab, col, dd, k0, k1, k2, k3, k5, hC, hbm⟩ := W.excInit_of I.kIn T.ini
  obtain ⟨t1, ho⟩ := exo_at I.hok e
  obtain ⟨hp, g, d, t, os⟩ := s
  refine wpAny_call (HandSPX.init_base (baseE b) hbm hC ho hl fun h1 t2 k hx => ?_)
  have J := I.write (t' := t) (x := a) (e := a) (o := exo a C none) (by rw [e]; exact True.intro) (.inl rfl) k ⟨_, hx⟩ (exo_ok hx)
  have same : upd H a (exo a C none) = H := by
    funext c
    by_cases hc : c = a
    · rw [hc, upd_same, e]
    · rw [upd_ne hc]
  rw [same] at J
  exact h _ J
end
section
variable {P : Program} {w : World} {K : PySem.W.Frag} {mg : Str → Option Value} {base : Heap}
/-- a def by its body's reading, whichever it is -/
theorem fnG_raw {x qual : Str} {st : Stmt} {f : Addr} {fd : FuncData} {N ps : List Str} {k : Nat} {sp : Sp} (F : Fun K x qual st f fd) (S : FnScope N ps (defScope st)) (len : ∀ vs H Q E, sp vs H Q E → vs.length = ps.length)
    (hb : ∀ (cdv : Value) (A : Around) (outer : List PySem.Env) (s : Shared) (H : Hp) (E : XK), ∃ tb, PSs (cxOf (L2.CX P w) P w K mg base N qual (defScope st) f cdv A outer s H E) (defBody st) tb ∧
      ∀ vs Q, sp vs H Q E → tb { nx := fun _ H' => Q .non H', rt := Q } (L2.start N vs) H) : FnG P w K mg base (k + 1) f fd ps sp := by
  obtain ⟨oc, od, kV, doc, pm, an, cdv, cv, osl, rfl, lk, hcd⟩ := F.ex
  refine ⟨len, fun A outer s H args us vs Q E hr hg e0 hbd hv hsp => ?_⟩
  have nv := len _ _ _ _ hsp
  have kin : K.In s.heap := e0.mod.kin.keeps (fun b o q => (e0.bs b o q).1)
  have nl : s.heap.NoLimit := e0.mod.nolimit.keeps (fun b o q => (e0.bs b o q).1)
  refine codeAny_call_function hr.depth (kin _ _ lk) rfl S.co S.gen rfl (PySem.W.codeRec_of kin hcd) (hbd _ _ _ _ ?_)
  refine wpAny_newFunctionEnv_cells S.kind ?_ ?_
  · rintro ⟨y, u⟩ hy
    exact (S.par y (List.of_mem_zip hy).1).imp id fun q => ⟨q, PySem.W.cellsFrom_some _ _ _ (.inl q)⟩
  intro env he s1 ic
  subst he
  refine ⟨nl.keeps ic.toInCall.keep, codeAny_func ?_⟩
  have I := inv_start (CX := L2.CX P w) (E := E) S hr.hd e0 nv hv ic
  obtain ⟨tb, body, want⟩ := hb cdv A outer s H E
  refine wpAny_mono (body.run [] s1 (L2.start N vs) H _ I (want vs Q hsp)) ?_ (fun e s' z => z)
  intro fl s' z
  cases fl with
  | ret u => obtain ⟨v, _, H', J, rv, q⟩ := z; exact ⟨v, H', J.os, J.bare, J.base, J.hok, rv, q⟩
  | next => obtain ⟨_, H', J, q⟩ := z; exact ⟨V.non, H', J.os, J.bare, J.base, J.hok, rfl, q⟩
  | brk => obtain ⟨_, _, _, q⟩ := z; cases q
  | cont => obtain ⟨_, _, _, q⟩ := z; cases q
end
/-- what __init__ does: self comes to have the field -/
def spI (C : Addr) : Sp := fun vs H Q _ => ∃ a v, vs = [.ref a, v] ∧ H a = some (exo a C none) ∧ ∀ d, H d = none → d ≠ a → Q .non (upd (upd H d (exd d [(("what" : Str), v)])) a (exo a C (some d)))
def tBase (K : PySem.W.Frag) (b : EB) (ta : TA) : TE := fun σ H Q => ta σ H fun vs H1 => ∃ (a C : Addr) (n : Str) (r : List V), vs = .ref a :: r ∧ r.length ≤ 1000 ∧ ExcK K n b C ∧ H1 a = some (exo a C none) ∧ Q .non H1
def tWhat (K : PySem.W.Frag) (to te : TE) : TS := fun D σ H => te σ H fun y H1 => to σ H1 fun x H2 => ∃ (a C : Addr) (n : Str) (b : EB), x = .ref a ∧ ExcK K n b C ∧ H2 a = some (exo a C none) ∧
  ∀ d, H2 d = none → d ≠ a → D.nx σ (upd (upd H2 d (exd d [(("what" : Str), y)])) a (exo a C (some d)))
section
variable {X : Cx} {o e : Expr} {es : List Expr} {to te : TE} {ta : TA} {p1 p2 p' pos : Pos}
theorem pe_base (b : EB) {pl : Sem Bool} (hg : Gl X (Str.ofString b.nm)) (hm : X.mg (Str.ofString b.nm) = none) (hi : PySem.W.findCls X.K (.type b.nm) (.type "type") "__init__" = some (.val (.builtin b.ini))) (ha : PA X (e :: es) ta)
    (hc : eval (.Call (.Attribute (.Name (Str.ofString b.nm) p1) "__init__" p2) (e :: es) [] pos) X.env = (do
      let ov ← eval (.Name (Str.ofString b.nm) p1) X.env
      standAt p2.atName
      let (f, first) ← holding [ov] (getMethod ov "__init__" pl)
      callWith pos f first (backTo pos (starEach (e :: es) X.env)) (backToKw pos (keywordEach [] X.env))) := by rfl)
    (he : starEach (e :: es) X.env = (false, eval e X.env) :: starEach es X.env := by rfl) (hpl : (backTo pos (starEach es X.env)).any (·.1) = false := by rfl) :
    PE X (.Call (.Attribute (.Name (Str.ofString b.nm) p1) "__init__" p2) (e :: es) [] pos) (tBase X.K b ta) := by
  refine ⟨fun pins s σ H Q I h => ?_⟩
  have nn : Str.ofString b.nm ≠ "__name__" := by cases b <;> decide
  have nd : (Str.ofString b.nm == ("__debug__" : Str)) = false := by cases b <;> decide
  refine PySem.W.methodCall_KW (ld_blt I hg hm (baseB b) ?_ nn nd) hc
  obtain ⟨m, fr⟩ := I.fr
  refine PySem.W.method_type fr I.ok.mod.kin (baseT b) (by cases b <;> decide +kernel) hi (by cases b <;> decide +kernel) ?_
  show wpAny _ _ (callWith pos (Value.builtin b.ini) [] (backTo pos (starEach (e :: es) X.env)) []) _ _ _
  refine PyProof.Rows.callWith_method1 (thn (ha.run pos pins _ σ H _ (I.tok _) h) fun us s1 ⟨vs, H1, I1, r1, a, C, n, r, ev, hl, T, ea, q⟩ => ?_) he hpl
  subst ev
  cases r1 with
  | @cons _ u0 _ ur ra rr =>
    obtain rfl : u0 = Value.ref a := ra
    have hz : ur.length ≤ sizeLine := by rw [← Paired.length rr, sizeL]; omega
    exact base_init T I1 ea hz fun s' J => ⟨.non, H1, J, rfl, q⟩
theorem ps_what (ho : PE X o to) (he : PE X e te) (hs : swapsWith e (some (.Attribute o "what" p')) pos.line X.env = pure false := by rfl) : PS X (.Assign [.Attribute o "what" p'] e pos) (tWhat X.K to te) := by
  refine ⟨fun pins s σ H D I h => ?_⟩
  refine plainObj_wpAny_Assign_Attribute (thn (he.run pins s σ H _ I h) fun v s1 ⟨y, H1, I1, r1, q1⟩ => thn (ho.run pins s1 σ H1 _ I1 q1) fun u s2 ⟨x, H2, I2, r2, a, C, n, b, ex, T, ea, q⟩ => ?_) hs
  subst ex
  obtain rfl : u = Value.ref a := r2
  exact what_new T I2 ea r1 fun dx s' nx ne J => ⟨σ, _, J, q dx nx ne⟩
end
section
variable {X : Cx} {W : WX} {e : Expr} {ws : WA} {p p1 pos pos' : Pos} {n : Str} {b : EB} {k : Nat}
/-- raise n(e) -/
def sRaise (n : Str) (k : Nat) (ws : WA) : WS := fun _ X en c => 2 ≤ k ∧ ws en c (fun ds c1 => ∃ d, ds = [d] ∧ X n d en c1) X
end
end VL
set_option maxHeartbeats 4000000
namespace VL
open PySem PySem.Spec PyProof.Rows L2
/-- the names of an except clause's tuple, and what they stand for -/
inductive Nms (X : Cx) : List Expr → List Value → Prop
  | nil : Nms X [] []
  | cons {x : Str} {p : Pos} {c : Value} {es : List Expr} {cs : List Value} (hg : Gl X x) (hm : X.mg x = some c) (hd : (x == ("__debug__" : Str)) = false) (h : starEach (.Name x p :: es) X.env = (false, eval (.Name x p) X.env) :: starEach es X.env) (r : Nms X es cs) : Nms X (.Name x p :: es) (c :: cs)
theorem Nms.len {X : Cx} {es : List Expr} {cs : List Value} (h : Nms X es cs) : cs.length = es.length := by
  induction h with
  | nil => rfl
  | cons _ _ _ _ _ ih => simp [ih]
section
variable {X : Cx} {pins : List (Addr × Obj)} {σ : L2.St} {H : Hp} {s : Shared} {a C dd : Addr} {oe : Obj} {vs : Array Value}
theorem exH_ok {P : Program} {w : World} {H : Hp} {h : Heap} {e C d : Addr} {o : Obj} {vs : Array Value} (he : h.get? e = some o) (h1 : o.cls = .ref C) (h2 : o.dict = some d) (h3 : o.data = .fields vs) : ObjOk P w H h e (exH e C d) :=
  ⟨⟨o, vs, he, h1, h2, h3⟩, ⟨_, he⟩, fun a1 a2 z k => by
    obtain ⟨o', vs', z1, z2⟩ := z
    exact ⟨o', vs', k _ z1, z2⟩⟩
/-- what was not known of an object comes to be known -/
theorem Inv.learn (I : Inv X pins σ H s) (hn : H a = none) (he : s.heap.get? a = some oe) (h1 : oe.cls = .ref C) (h2 : oe.dict = some dd) (h3 : oe.data = .fields vs) (h0 : ∀ o, X.s_0.heap.get? a = some o → False) (hL : a ≠ X.env.locals)
    (hp : ∀ p ∈ X.pn ++ pins, p.1 ≠ a) : Inv X pins σ (upd H a (exH a C dd)) s := by
  have ne : ∀ {c : Addr} {u : HO}, H c = some u → c ≠ a := fun {c u} z w => by rw [w, hn] at z; cases z
  refine ⟨I.ok, I.os, I.bare, ⟨I.base.keep, I.base.slot, fun b o z n hx => ?_, I.base.there, fun b xs z => ?_, fun b o u z => ?_, fun b ps z => ?_⟩, I.loc, I.cell, ?_, fun x c z => ?_, fun p hpm => ?_, fun b o z => ?_, I.len⟩
  · rw [upd_ne (fun w => h0 o (by rw [← w]; exact z))]
    exact I.base.free b o z n hx
  · have y := I.base.tups b xs z
    rw [upd_ne (ne y)]; exact y
  · have y := I.base.frzs b o u z
    rw [upd_ne (ne y)]; exact y
  · obtain ⟨more, y⟩ := I.base.tbls b ps z
    exact ⟨more, by rw [upd_ne (ne y)]; exact y⟩
  · rw [upd_ne (Ne.symm hL)]; exact I.free
  · have hc : c ≠ a := fun w => by
      obtain ⟨v, o, y1, y2⟩ := I.cell x c z
      rw [w, he] at y1
      rw [← Option.some.inj y1, h3] at y2
      cases y2
    rw [upd_ne hc]; exact I.freeC x c z
  · obtain ⟨p1, p2, p3⟩ := I.pin p hpm
    exact ⟨p1, by rw [upd_ne (hp p hpm)]; exact p2, p3⟩
  · by_cases hb : b = a
    · subst hb
      rw [upd_same] at z
      cases z
      exact exH_ok he h1 h2 h3
    · rw [upd_ne hb] at z
      exact (I.hok b o z).stay (fun c v _ y => y) (fun c y => by rw [upd_ne (ne y)]; exact y) fun c xs y => by rw [upd_ne (ne y)]; exact y
end
end VL
set_option maxHeartbeats 4000000
namespace VL
open PySem PySem.Spec PyProof.Rows L2
instance decEB : DecidableEq EB := fun a b => by
  cases a <;> cases b <;> first | exact isTrue rfl | exact isFalse (fun h => by cases h)
section
variable {K : W.Frag}
theorem ExcK.sub {n m : Str} {b b' : EB} {C D : Addr} (T : ExcK K n b C) (T' : ExcK K m b' D) : W.subIn K (.ref C) (.ref D) = some (decide (C = D)) := by
  obtain ⟨cd, h1, h2⟩ := Option.map_eq_some_iff.mp T.mro
  show W.mroIn K C (.ref D) = _
  unfold W.mroIn
  rw [h1, Option.bind_some, h2]
  have e0 : (Value.ref C :: b.tl).isEmpty = false := rfl
  have e1 : (Value.ref C :: b.tl).contains (.ref D) = decide (C = D) := by
    rw [List.contains_cons]
    have e2 : b.tl.contains (.ref D) = false := by cases b <;> rfl
    rw [e2, Bool.or_false]
    by_cases h : C = D
    · subst h
      simp
    · have h' : Value.ref D ≠ Value.ref C := fun z => h (Value.ref.inj z).symm
      rw [decide_eq_false h]
      exact beq_eq_false_iff_ne.mpr h'
  rw [if_neg (by rw [e0]; decide), e1]
theorem ExcK.inj {n : Str} {b b' : EB} {C D : Addr} (T : ExcK K n b C) (T' : ExcK K n b' D) : C = D := by
  have h1 := T.ns
  rw [T'.ns] at h1
  exact (Value.ref.inj (Option.some.inj (Option.some.inj h1))).symm
theorem ExcK.kit {n m : Str} {b b' : EB} {C D : Addr} (T : ExcK K n b C) (T' : ExcK K m b' D) : W.kitOne K (.ref C) (.ref D) = some (decide (C = D)) := by
  unfold W.kitOne
  by_cases h : C = D
  · subst h
    rw [if_pos (by simp), decide_eq_true rfl]
  · have h' : Value.ref C ≠ Value.ref D := fun z => h (Value.ref.inj z)
    rw [if_neg (by simpa using h)]
    obtain ⟨cd, hc, _⟩ := W.any_some T'.is.hd
    have e2 : ((W.clsIn K D).isSome && W.typeIn K (.ref D) == some (.type "type")) = true := by rw [hc, T'.tyC]; rfl
    show (if ((W.clsIn K D).isSome && W.typeIn K (.ref D) == some (.type "type")) = true then W.subIn K (.ref C) (.ref D) else none) = _
    rw [if_pos e2, T.sub T']
/-- a built-in class straight above -/
theorem ExcK.kitB {n : Str} {b b' : EB} {C : Addr} (T : ExcK K n b C) : W.kitOne K (.ref C) (.type b'.nm) = some (decide (b = b')) := by
  obtain ⟨cd, h1, h2⟩ := Option.map_eq_some_iff.mp T.mro
  have e1 : W.subIn K (.ref C) (.type b'.nm) = some (decide (b = b')) := by
    show W.mroIn K C (.type b'.nm) = _
    unfold W.mroIn
    rw [h1, Option.bind_some, h2]
    cases b <;> cases b' <;> rfl
  have e2 : W.kitMeta b'.nm = true := by cases b' <;> decide +kernel
  unfold W.kitOne
  have e3 : (Value.ref C == Value.type b'.nm) = false := beq_eq_false_iff_ne.mpr fun z => by cases z
  rw [if_neg (by rw [e3]; decide)]
  show (if W.kitMeta b'.nm = true then W.subIn K (.ref C) (.type b'.nm) else none) = _
  rw [if_pos e2, e1]
end
/-- what's kept at a -/
def KeptAt (K : W.Frag) (H : Hp) (a C : Addr) (u : V) : Prop := ∃ dd, H a = some (exH a C dd) ∧ H dd = some (.xd [(("what" : Str), u)])
section
variable {X : Cx} {pins : List (Addr × Obj)} {σ : L2.St} {H : Hp} {s : Shared} {a C : Addr} {b : EB} {n : Str} {u : V}
theorem kept_inst (I : Inv X pins σ H s) (h : KeptAt X.K H a C u) : ∃ (o od : Obj) (mA : Str → Option Value), W.InstAt s.heap a o C (some od) ∧ (∀ f, W.lookIn f od = some (mA f)) ∧ ∀ f, RelO ([(("what" : Str), u)].lookup f) (mA f) := by
  obtain ⟨dd, h1, h2⟩ := h
  have z1 : ObjOk X.prog X.w H s.heap a (.ext fun h => ∃ (o : Obj) (vs : Array Value), h.get? a = some o ∧ o.cls = .ref C ∧ o.dict = some dd ∧ o.data = .fields vs) := I.hok a _ h1
  obtain ⟨o, vs, y1, y2, y3, y4⟩ := z1.1
  have z2 : ObjOk X.prog X.w H s.heap dd (.xd [(("what" : Str), u)]) := I.hok dd _ h2
  obtain ⟨mA, hns, hr⟩ := z2
  obtain ⟨od, ho, hl⟩ := lookIn_ns hns
  exact ⟨o, od, mA, ⟨y1, y2, by unfold PySem.W.notCls; rw [y4], by rw [y3]; exact ho⟩, hl, hr⟩
theorem kept_kit {o : Obj} {od : Option Obj} (T : ExcK X.K n b C) : W.KitX X.K (.ref a) (.ref C) (fun h => W.InstAt h a o C od) := by
  obtain ⟨cd, hc, _⟩ := W.any_some T.is.hd
  exact W.kitx_exc (by rw [hc]; rfl) T.is.hg T.is.hk T.is.hs T.is.ha T.is.hn T.is.ht T.is.hm
/-- isinstance(e, c) -/
def rIs1 (K : W.Frag) : List V → Hp → VK → Prop := fun xs H Q => ∃ (a C : Addr) (u : V) (n : Str) (b : EB) (c : V) (cv : Value) (r : Bool), xs = [.ref a, c] ∧ KeptAt K H a C u ∧ ExcK K n b C ∧ (∀ w, RelV c w → w = cv) ∧ W.kitOne K (.ref C) cv = some r ∧ Q (.bl r) H
theorem call_is1 : CallR X (.builtin "isinstance") (rIs1 X.K) := by
  intro pins s σ H xs us Q I r h
  obtain ⟨a, C, u, n, b, c, cv, rr, rfl, hk, T, hcv, e, q⟩ := h
  obtain ⟨u1, u2, rfl, r1, r2⟩ := vals2 r
  obtain rfl : u1 = Value.ref a := r1
  obtain rfl := hcv _ r2
  obtain ⟨o, od, mA, J, _, _⟩ := kept_inst I hk
  exact W.kia_one (kept_kit T) I.kIn J e (by intro z; cases z) fun tk => ⟨.bl rr, H, I.tok tk, rfl, q⟩
/-- e.what -/
theorem what_at {Q : Value → Shared → Prop} {E : Value → Shared → Prop} {A : Around} (I : Inv X pins σ H s) (h : KeptAt X.K H a C u) (T : ExcK X.K n b C) (q : ∀ w s', RelV u w → Inv X pins σ H s' → Q w s') : wpAny (model X.prog X.w) A (getAttr (.ref a) "what" true) Q E s := by
  obtain ⟨o, od, mA, J, hl, hr⟩ := kept_inst I h
  obtain ⟨w, hw, rw'⟩ := RelO.some_of (v := u) (o := mA "what") (hr "what")
  exact HandSPX.exc_get I.kIn J T.is.hg T.is.hk T.is.hs (W.findObj_own T.is.hd T.no rfl (by rw [hl, hw])) (handed_of rw') (q w _ rw' (I.tok _))
end
theorem SR.kept {K : W.Frag} {G : Hp} {c : Cs} {H : Hp} {p : Addr} {n : Str} {b : EB} {d : D} (s : SR K G c H) (h : c p = some (.exc n b d)) : ∃ C u, ExcK K n b C ∧ KeptAt K H p C u ∧ Rep K G d u := by
  obtain ⟨C, dd, u, k, e1, e2, r⟩ := s.at_ _ _ h
  exact ⟨C, u, k, ⟨dd, s.sub _ _ e1, s.sub _ _ e2⟩, r⟩
section
variable {X : Cx} {W0 : WX} {e t : Expr} {we : WE} {p p1 p2 pos : Pos} {pb : Str}
/-- a class of the module's own, by its name -/
def wIsX (P : Str → EB → Bool) (we : WE) : WE := fun en c Q X => we en c (fun d c1 => match d with
  | .ptr a => ∃ n b x, c1 a = some (.exc n b x) ∧ Q (.bl (P n b)) c1
  | _ => False) X
theorem je_isOwn {y : Str} {C' : Addr} {b' : EB} (T' : ExcK X.K y b' C') (hb : X.mg "isinstance" = none) (hm : X.mg y = some (.ref C')) (he : JE X W0 e we) (hg : Gl X "isinstance" := by rfl) (hgy : Gl X y := by rfl) (hdy : (y == ("__debug__" : Str)) = false := by decide)
    (hs : starEach [e, .Name y p1] X.env = (false, eval e X.env) :: starEach [.Name y p1] X.env := by rfl) (hs2 : starEach [.Name y p1] X.env = (false, eval (.Name y p1) X.env) :: starEach [] X.env := by rfl) (hpl : (backTo pos (starEach [.Name y p1] X.env)).any (·.1) = false := by rfl) :
    JE X W0 (.Call (.Name "isinstance" p) [e, .Name y p1] [] pos) (wIsX (fun n _ => decide (n = y)) we) := by
  refine PE.of (pe_callB call_is1 hg hb PyProof.Rows.boot_isinstance (pa_cons he (pa_cons (pe_glob (v := .ref C') hgy hm rfl hdy) pa_nil hs2) hs) (by decide) (by decide) hs hpl) fun σ H Q ⟨G, en, c, Q0, X0, s, er, q, x0, kk⟩ => ?_
  refine ⟨G, en, c, _, X0, s, er, q, x0, fun d1 c1 v1 H1 G1 q1 g1 s1 r1 => ?_⟩
  obtain ⟨a, rfl, n, b, x, hc, q1⟩ := ptr_of q1
  obtain rfl : v1 = V.ref a := r1
  obtain ⟨C, u, T, hk, _⟩ := s1.kept hc
  refine ⟨a, C, u, n, b, .ref C', .ref C', decide (C = C'), rfl, hk, T, fun w hw => hw, T.kit T', ?_⟩
  have e1 : decide (C = C') = decide (n = y) := by
    by_cases h : n = y
    · subst h
      rw [decide_eq_true (T.inj T'), decide_eq_true rfl]
    · have : C ≠ C' := fun z => by
        subst z
        have h1 := T.ns
        have h2 := T'.ns
        obtain ⟨cd, h3, h4⟩ := Option.map_eq_some_iff.mp T.nm
        obtain ⟨cd', h5, h6⟩ := Option.map_eq_some_iff.mp T'.nm
        rw [h3] at h5
        cases h5
        exact h (h4.symm.trans h6)
      rw [decide_eq_false h, decide_eq_false this]
  rw [e1]
  exact kk _ c1 _ H1 G1 q1 g1 s1 rfl
theorem je_isBase {y : Str} {b' : EB} (hb : X.mg "isinstance" = none) (hm : X.mg y = none) (hy : y = Str.ofString b'.nm) (he : JE X W0 e we) (hg : Gl X "isinstance" := by rfl) (hgy : Gl X y := by rfl) (hdy : (y == ("__debug__" : Str)) = false := by decide) (hny : y ≠ "__name__" := by decide)
    (hs : starEach [e, .Name y p1] X.env = (false, eval e X.env) :: starEach [.Name y p1] X.env := by rfl) (hs2 : starEach [.Name y p1] X.env = (false, eval (.Name y p1) X.env) :: starEach [] X.env := by rfl) (hpl : (backTo pos (starEach [.Name y p1] X.env)).any (·.1) = false := by rfl) :
    JE X W0 (.Call (.Name "isinstance" p) [e, .Name y p1] [] pos) (wIsX (fun _ b => decide (b = b')) we) := by
  refine PE.of (pe_callB call_is1 hg hb PyProof.Rows.boot_isinstance (pa_cons he (pa_cons (pe_bltn (v := .ty b'.nm) hgy hm (by rw [hy]; exact baseB b') rfl hny hdy) pa_nil hs2) hs) (by decide) (by decide) hs hpl) fun σ H Q ⟨G, en, c, Q0, X0, s, er, q, x0, kk⟩ => ?_
  refine ⟨G, en, c, _, X0, s, er, q, x0, fun d1 c1 v1 H1 G1 q1 g1 s1 r1 => ?_⟩
  obtain ⟨a, rfl, n, b, x, hc, q1⟩ := ptr_of q1
  obtain rfl : v1 = V.ref a := r1
  obtain ⟨C, u, T, hk, _⟩ := s1.kept hc
  exact ⟨a, C, u, n, b, .ty b'.nm, .type b'.nm, decide (b = b'), rfl, hk, T, fun w hw => hw, T.kitB, kk _ c1 _ H1 G1 q1 g1 s1 rfl⟩
/-- .what -/
def wWhat (we : WE) : WE := fun en c Q X => we en c (fun d c1 => match d with
  | .ptr a => ∃ n b x, c1 a = some (.exc n b x) ∧ Q x c1
  | _ => False) X
theorem je_what (he : JE X W0 e we) (hb : attributeBase e "what" X.env (eval e X.env) = eval e X.env := by rfl) : JE X W0 (.Attribute e "what" pos) (wWhat we) := by
  refine ⟨fun pins s0 σ H Q I ⟨G, en, c, Q0, X0, s, er, q, x0, kk⟩ => ?_⟩
  refine attr_of hb (thn (he.run pins s0 σ H (fun v H1 => ∃ a C u n b, v = .ref a ∧ KeptAt X.K H1 a C u ∧ ExcK X.K n b C ∧ Q u H1) I ?_) fun u s1 ⟨v, H1, I1, r1, a, C, u', n, b, ev, hk, T, q1⟩ => ?_)
  · refine ⟨G, en, c, _, X0, s, er, q, x0, fun d1 c1 v1 H1 G1 q1 g1 s1 r1 => ?_⟩
    obtain ⟨a, rfl, n, b, x, hc, q1⟩ := ptr_of q1
    obtain ⟨C, u, T, hk, hr⟩ := s1.kept hc
    exact ⟨a, C, u, n, b, r1, hk, T, kk x c1 u H1 G1 q1 g1 s1 hr⟩
  · subst ev
    obtain rfl : u = Value.ref a := r1
    exact what_at I1 hk T fun w s' hw J => ⟨u', H1, J, hw, q1⟩
end
/-- isinstance(e, (A, B, ..)), the module's own ones -/
inductive Owns (X : Cx) : List Expr → List Str → List Addr → Prop
  | nil : Owns X [] [] []
  | cons {y : Str} {p : Pos} {C : Addr} {b : EB} {es : List Expr} {ys : List Str} {cs : List Addr} (T : ExcK X.K y b C) (hm : X.mg y = some (.ref C)) (hg : Gl X y) (hd : (y == ("__debug__" : Str)) = false) (hs : starEach (.Name y p :: es) X.env = (false, eval (.Name y p) X.env) :: starEach es X.env) (r : Owns X es ys cs) : Owns X (.Name y p :: es) (y :: ys) (C :: cs)
theorem Owns.len {X : Cx} {es : List Expr} {ys : List Str} {cs : List Addr} (h : Owns X es ys cs) : cs.length = es.length := by
  induction h with
  | nil => rfl
  | cons _ _ _ _ _ _ ih => simp [ih]
section
variable {K : W.Frag}
theorem SR.keep {G : Hp} {c : Cs} {H : Hp} {a C dd : Addr} {n : Str} {b : EB} {d : D} {u : V} (x : SR K G c H) (h : H a = none) (T : ExcK K n b C) (hd : G dd = some (.xd [(("what" : Str), u)])) (r : Rep K G d u) :
    SR K (upd G a (exH a C dd)) (cup c a (.exc n b d)) (upd H a (exH a C dd)) ∧ Gr G c H (upd G a (exH a C dd)) (cup c a (.exc n b d)) (upd H a (exH a C dd)) := by
  obtain ⟨s1, g1⟩ := x.newG (o := exH a C dd) h
  obtain ⟨hc, hg⟩ := x.free h
  refine ⟨⟨s1.sub, fun p y e => ?_⟩, ⟨g1.g, g1.keep, fun p e => ?_, g1.ng⟩⟩
  · by_cases hp : p = a
    · subst hp
      rw [cup_same] at e
      cases e
      refine ⟨C, dd, u, T, upd_same, ?_, Rep.mono g1.g _ _ r⟩
      rw [upd_ne (ne_of_none hd hg)]
      exact hd
    · rw [cup_ne hp] at e
      exact s1.at_ p y e
  · by_cases hp : p = a
    · subst hp
      exact .inr h
    · rw [cup_ne hp] at e
      exact .inl e
end
/-- try: body, except (..) as x: y = x; i is x's slot, j is y's -/
def sTry (ns : List (Str × EB)) (i j : Nat) (wb : WS) : WS := fun D _ en c => wb D (fun n d en' c' => ∃ b, (n, b) ∈ ns ∧ ∀ a, c' a = none → D.nx (((en'.set i (some (.ptr a))).set j (some (.ptr a))).set i none) (cup c' a (.exc n b d))) en c
end VL
set_option maxHeartbeats 4000000
namespace VL
open PySem PySem.Spec PyProof.Rows L2
section
variable {X : Cx} {W : WX} {e : Expr} {we : WE} {k : Nat} {p1 p2 p3 pos : Pos}
def wBack (we : WE) : WE := fun en c Q X => we en c (fun d c1 => match lstOf c1 d with
  | some l => Q (.lst l.reverse) c1
  | none => False) X
def oMulV : Op2 := fun x y c Q => match lstOf c x, y with
  | some l, .int k => -(2 ^ 63) ≤ k ∧ k < 2 ^ 63 ∧ l.length * k.toNat ≤ sizeLine ∧ ∀ p, c p = none → Q (.ptr p) (cup c p (.lst (List.replicate k.toNat l).flatten))
  | _, _ => False
end
theorem e_mulV {l : List D} {i : Int} {c : Cs} {Q : DK} : oMulV (.lst l) (.int i) c Q = (-(2 ^ 63) ≤ i ∧ i < 2 ^ 63 ∧ l.length * i.toNat ≤ sizeLine ∧ ∀ p, c p = none → Q (.ptr p) (cup c p (.lst (List.replicate i.toNat l).flatten))) := rfl
theorem lo_lst {c : Cs} {l : List D} : lstOf c (.lst l) = some l := rfl
end VL
set_option maxHeartbeats 4000000
namespace VL
open PySem PySem.Spec PyProof.Rows L2
theorem exck_mk {K : W.Frag} {n q : Str} {b : EB} {C N : Addr} {bs : List Value} {sn : List Str} {sub : List Value} {ab : Bool} {col : Option Bool} {dd : Option Addr} {k0 k1 k2 k3 k5 : Option Value} {tl : List Value} {nid : String} (ns : W.nsIn K mainGlobals n = some (some (.ref C)))
    (lk : K.lookup C = some (excClassObj n q C N bs tl true sn sub ab col dd k0 k1 k2 k3 k5 nid)) (e1 : tl = b.tl) (e2 : nid = b.new)
    (sa : W.findIn K (.ref C) "__setattr__" = some (some (.builtin "object.__setattr__"))) (no : W.findIn K (.ref C) "what" = some none) (hg : W.findIn K (.ref C) "__getattribute__" = some (some (.builtin "BaseException.__getattribute__"))) (hk : W.findIn K (.ref C) "__getattr__" = some none)
    (hs : W.subIn K (.ref C) (.type "BaseException") = some true) (hd : W.hasDictIn K C = true) (ha : W.findIn K (.ref C) "__class__" = some (some (.builtin "object.__class__"))) (hn : W.specialIn K (.builtin "object.__class__") "__get__" = some (some (.builtin "getset_descriptor.__get__")))
    (ht : W.takesIn K (.builtin "object.__class__") = some true) (hm : W.mroIn K C (.type "object") = some true) (tyC : W.typeIn K (.ref C) = some (.type "type")) (kC : W.keepIn K (.ref C) = true) : ExcK K n b C := by
  subst e1 e2
  have hc : W.clsIn K C = some { name := n, bases := bs, mro := .ref C :: b.tl, ns := N, qualname := q, hasDict := true, slotNames := sn, subclasses := sub, abstract := ab, collection := col, hasDel := false } := by
    unfold W.clsIn
    rw [lk] <;> rfl
  have ht1 : W.excTail b.tl b.tl = true := by cases b <;> rfl
  refine ⟨ns, by rw [hc]; rfl, by rw [hc]; rfl, ?_, ?_, sa, no, ⟨hg, hk, hs, hd, ha, hn, ht, hm⟩, tyC, kC⟩
  · unfold W.excInitIn
    rw [lk]
    show (C == C && b.new == b.new && !false && W.excTail b.tl b.tl) = true
    rw [ht1]
    simp
  · unfold W.excOver
    rw [hc]
    show (C == C && W.excTail b.tl b.tl) = true
    rw [ht1]
    simp
/-- B.__init__(self, "refused"); self.what = what -/
def tIni (K : W.Frag) (b : EB) : TS := tSeq (tDrop (tBase K b (tCons (tVar 0) (tCons (tC (.str "refused")) tNil)))) (tWhat K (tVar 0) (tVar 1))
def rIsTB (K : W.Frag) : List V → Hp → VK → Prop := fun xs H Q => ∃ (a C : Addr) (u : V) (n : Str) (b : EB) (tp : Addr) (ts : List String) (r : Bool), xs = [.ref a, .ref tp] ∧ KeptAt K H a C u ∧ ExcK K n b C ∧ SqT K H tp (ts.map V.ty) ∧ W.kitAny K (.ref C) (ts.map Value.type) = some r ∧ Q (.bl r) H
theorem call_isTupB {X : Cx} : CallR X (.builtin "isinstance") (rIsTB X.K) := by
  intro pins s σ H xs us Q I r h
  obtain ⟨a, C, u, n, b, tp, ts, rr, rfl, hk, T, hT, e, q⟩ := h
  obtain ⟨u1, u2, rfl, r1, r2⟩ := vals2 r
  obtain rfl : u1 = Value.ref a := r1
  obtain rfl : u2 = Value.ref tp := r2
  obtain ⟨o, od, mA, J, _, _⟩ := kept_inst I hk
  obtain ⟨its, rv, ⟨⟨cls, dd, data, sl⟩, ho, hc, nn, hd⟩, _⟩ := I.tuple hT
  simp only at hc hd
  subst hc hd
  rw [tys_vals rv] at ho
  exact W.kia_tup (kept_kit T) I.kIn J ho e (by intro z; cases z) fun tk => ⟨.bl rr, H, I.tok tk, rfl, q⟩
inductive Fars (X : Cx) : List Expr → List String → Prop
  | nil : Fars X [] []
  | cons {y : Str} {p : Pos} {T : String} {es : List Expr} {ts : List String} (hm : X.mg y = none) (hb : bootBuiltins y = some (.type T)) (hk : W.kitMeta T = true) (hf : ∀ b : EB, b.tl.contains (.type T) = false) (hg : Gl X y) (hn : y ≠ "__name__") (hd : (y == ("__debug__" : Str)) = false) (hs : starEach (.Name y p :: es) X.env = (false, eval (.Name y p) X.env) :: starEach es X.env) (r : Fars X es ts) : Fars X (.Name y p :: es) (T :: ts)
theorem Fars.len {X : Cx} {es : List Expr} {ts : List String} (h : Fars X es ts) : ts.length = es.length := by
  induction h with
  | nil => rfl
  | cons _ _ _ _ _ _ _ _ _ ih => simp [ih]
def tTys (ts : List String) : TA := fun _ H Q => Q (ts.map V.ty) H
theorem fars_pa {X : Cx} {es : List Expr} {ts : List String} (h : Fars X es ts) : PA X es (tTys ts) := by
  induction h with
  | nil => exact pa_nil
  | cons hm hb hk hf hg hn hd hs r ih => exact pa_cons (pe_bltn (v := .ty _) hg hm hb rfl hn hd) ih hs
theorem fars_any {X : Cx} {es : List Expr} {ts : List String} (h : Fars X es ts) {n : Str} {b : EB} {C : Addr} (T : ExcK X.K n b C) : W.kitAny X.K (.ref C) (ts.map Value.type) = some false := by
  induction h with
  | nil => rfl
  | @cons y p t es ts hm hb hk hf hg hn hd hs r ih =>
    have e1 : W.subIn X.K (.ref C) (.type t) = some false := by
      obtain ⟨cd, h1, h2⟩ := Option.map_eq_some_iff.mp T.mro
      show W.mroIn X.K C (.type t) = _
      unfold W.mroIn
      rw [h1, Option.bind_some, h2]
      have e0 : (Value.ref C :: b.tl).isEmpty = false := rfl
      rw [if_neg (by rw [e0]; decide), List.contains_cons, hf b]
      rfl
    have e2 : W.kitOne X.K (.ref C) (.type t) = some false := by
      unfold W.kitOne
      have e3 : (Value.ref C == Value.type t) = false := beq_eq_false_iff_ne.mpr fun z => by cases z
      rw [if_neg (by rw [e3]; decide)]
      show (if W.kitMeta t = true then W.subIn X.K (.ref C) (.type t) else none) = _
      rw [if_pos hk, e1]
    rw [List.map_cons]
    unfold W.kitAny
    rw [e2]
    exact ih
theorem je_isFars {X : Cx} {W0 : WX} {e : Expr} {we : WE} {p p1 pos : Pos} {k : Nat} {es : List Expr} {ts : List String} (h : Fars X es ts) (hl : es.length ≤ 1000) (hb : X.mg "isinstance" = none) (he : JE X W0 e we) (hg : Gl X "isinstance" := by rfl)
    (hs : starEach [e, .Tuple es k p1] X.env = (false, eval e X.env) :: starEach [.Tuple es k p1] X.env := by rfl) (hs2 : starEach [.Tuple es k p1] X.env = (false, eval (.Tuple es k p1) X.env) :: starEach [] X.env := by rfl) (hpl : (backTo pos (starEach [.Tuple es k p1] X.env)).any (·.1) = false := by rfl) :
    JE X W0 (.Call (.Name "isinstance" p) [e, .Tuple es k p1] [] pos) (wIsX (fun _ _ => false) we) := by
  refine PE.of (pe_callB call_isTupB hg hb PyProof.Rows.boot_isinstance (pa_cons he (pa_cons (pe_tup (fars_pa h)) pa_nil hs2) hs) (by decide) (by decide) hs hpl) fun σ H Q ⟨G, en, c, Q0, X0, s, er, q, x0, kk⟩ => ?_
  refine ⟨G, en, c, _, X0, s, er, q, x0, fun d1 c1 v1 H1 G1 q1 g1 s1 r1 => ?_⟩
  obtain ⟨a, rfl, n, b, x, hc, q1⟩ := ptr_of q1
  obtain rfl : v1 = V.ref a := r1
  refine ⟨by rw [List.length_map, h.len, sizeL]; omega, fun tp htp => ?_⟩
  obtain ⟨s2, g2⟩ := s1.newG (o := HO.tup (ts.map V.ty)) htp
  obtain ⟨C, u, T, hk, _⟩ := s2.kept hc
  exact ⟨a, C, u, n, b, tp, ts, _, rfl, hk, T, SqT.of upd_same, fars_any h T, kk _ c1 _ _ _ q1 (g1.trans g2) s2 rfl⟩
end VL
set_option maxHeartbeats 4000000
set_option maxHeartbeats 4000000
set_option maxHeartbeats 4000000
namespace VL
open PySem PySem.Spec PyProof.Rows L2
section
variable {P : Program} {w : World} {A : Around} {E : Value → Shared → Prop} {s : Shared}
/-- what fills a set: its result -/
def fills (R : Result → Shared → Prop) (P : Program) (w : World) (A : Around) : Fin → Shared → Prop := fun fin s' => match fin with
  | .done f => R (.ok f) s'
  | .again c' => c'.quiet = true ∧ codeAny (model P w) A c' R s'
/-- an empty set S is filled from a list of ints -/
theorem fill_list {S l : Addr} {items : Array Value} {ns : List Int} {R : Result → Shared → Prop} (hh : A.handled = none) (hS : s.heap.get? S = some { cls := .type "set", dict := none, data := .set #[] 0 (.fresh 0 0 (!w.params.followText "set-order")) })
    (hl : s.heap.IsList l items) (hi : IntsAre items.toList ns) (hb : ns.length + 1 < scanBound)
    (q : ∀ h' tk c, SetR w h' S (fun j => decide (j ∈ ns)) c → c ≤ ns.length → (∀ b o, b ≠ S → s.heap.get? b = some o → h'.get? b = some o) → R (.ok (.ret .none)) { s with heap := h', toks := tk }) :
    wpAny (model P w) A.in1.in1 (Builtin.«set.__init__» ⟨[.ref S, .ref l], []⟩) (fills R P w A.in1) (fun e s' => R (.error e) s') s := by
  have hlen : items.size = ns.length := by
    have z := IntsAre.length hi
    rwa [Array.length_toList] at z
  obtain ⟨⟨kls, dct, dat, sls⟩, hg, hk, m, hd⟩ := id hl
  simp only at hk hd
  subst hk hd
  have s1 := F.sub_list_set
  have s2 := F.sub_list_frozenset
  have s3 : (Value.type "list" == Value.type "dict") = false := by decide
  have hlS : l ≠ S := fun e => by
    rw [e, hS] at hg
    have z := congrArg (Option.map Obj.cls) hg
    simp at z
  have ltl : l < s.heap.objs.size := Heap.lt_size hg
  have ltS : S < s.heap.objs.size := Heap.lt_size hS
  unfold Builtin.«set.__init__» noKeywords Builtin.Frozenset.updateFrom
  generalize hPI : pyIter = PI
  wp_walk
  subst hPI
  refine wpAny_pyIter_list hl (wpAny_bind (wpAny_runValue ?_))
  refine set_update_ints ((Walks.list (A := A.in1.in1.in1) (by simp [hh]) _ l (Nat.ne_of_lt ltl) items).toS) S ?_ ns hlen hb (fun i v hv => ?_) items.size 0 _ (Nat.sub_zero _) (Nat.zero_le _) ⟨⟨_, Heap.get?_push_size _ rfl, rfl, rfl⟩, hl.push _⟩ ⟨0, Nat.le_refl 0, setR_new_at (Heap.get?_push_of_some _ hS)⟩ fun s' c' hm hc' hR => ?_
  · simp only [List.mem_cons, List.not_mem_nil, or_false, not_or]
    exact ⟨Nat.ne_of_lt ltS, Ne.symm hlS⟩
  · have lt : i < ns.length := by rw [← hlen]; exact (Array.getElem?_eq_some_iff.mp hv).1
    obtain ⟨t, e⟩ := PyProof.Rows.IntsAre.int_at hi i v (by rw [Array.getElem?_toList]; exact hv)
    refine ⟨ns[i], t, List.getElem?_eq_getElem lt, ?_⟩
    rw [e, List.getD_eq_getElem?_getD, List.getElem?_eq_getElem lt]
    rfl
  · have es : s' = { s with heap := s'.heap, toks := s'.toks } := by
      have a1 := hm.gens
      have a2 := hm.drawn
      have a3 := hm.os
      cases s'
      cases s
      simp only at a1 a2 a3
      subst a2 a3
      cases a1
      rfl
    show wpAny _ _ _ _ _ _
    refine wpAny_pure ?_
    show wpAny _ _ (ret Value.none) _ _ _
    refine wpAny_pure ?_
    show R _ _
    rw [es]
    rw [hlen] at hc'
    refine q _ _ c' hR hc' fun b o hbS e => hm.heap b o ?_ (Heap.get?_push_of_some _ e)
    simp only [List.mem_cons, List.not_mem_nil, or_false, not_or]
    exact ⟨hbS, Nat.ne_of_lt (Heap.lt_size e)⟩
/-- the object of an empty set -/
abbrev emptyS (w : World) : Obj := { cls := .type "set", dict := none, data := .set #[] 0 (.fresh 0 0 (!w.params.followText "set-order")) }
set_option maxHeartbeats 3200000 in
/-- set(xs) -/
theorem set_list {l : Addr} {items : Array Value} {ns : List Int} {Q : Value → Shared → Prop} (hh : A.handled = none) (hl : s.heap.IsList l items) (hi : IntsAre items.toList ns) (hb : ns.length + 1 < scanBound)
    (q : ∀ h' tk c, SetR w h' s.heap.objs.size (fun j => decide (j ∈ ns)) c → c ≤ ns.length → (∀ b o, s.heap.get? b = some o → h'.get? b = some o) → Q (.ref s.heap.objs.size) { s with heap := h', toks := tk }) :
    wpAny (model P w) A (call (.type "set") [.ref l]) Q E s := by
  have T := F.called_set
  obtain ⟨c, tl, t1⟩ := T.mro
  have t2 := T.made
  have t3 := T.sub
  have t4 := T.notType
  have t5 := T.canCreate
  have t6 := F.typeCall_set_1 (.ref l)
  refine wpAny_call (codeAny_of_tree ?_)
  show wpAny _ _ (callAny (.type "set") _) _ _ _
  refine wpAny_pure ⟨Code.quiet_builtin _ (by decide +kernel), codeAny_builtin F.entry_type_call ?_⟩
  rw [Around.under_plain (weight_type_call_type "set" [.ref l] []) rfl]
  repeat (any_goals (first | assumption | wp_step))
  refine codeAny_mono (code_set_led1 (.ref l) (E := E) (Q₁ := fun v s1 => v = .ref s.heap.objs.size ∧ s1 = { s with heap := s.heap.push (emptyS w) }) ⟨rfl, rfl⟩) fun r s1 hr => ?_
  rcases r with e | f
  · exact hr
  · cases f with
    | ret v =>
      obtain ⟨rfl, rfl⟩ := hr
      have hS : (s.heap.push (emptyS w)).get? s.heap.objs.size = some (emptyS w) := Heap.get?_push_size _ rfl
      have t7 : Shared.TypeIs { s with heap := s.heap.push (emptyS w) } (.ref s.heap.objs.size) "set" := ⟨_, hS, rfl⟩
      have t8 := T.init.lookup
      have t9 := T.init.bind (.ref s.heap.objs.size)
      repeat (any_goals (first | assumption | wp_step))
      refine codeAny_mono (codeAny_call_builtin (R := wants (fun r s2 => r = .none ∧ ∃ h' tk c, s2 = { s with heap := h', toks := tk } ∧ SetR w h' s.heap.objs.size (fun j => decide (j ∈ ns)) c ∧ c ≤ ns.length ∧ ∀ b o, s.heap.get? b = some o → h'.get? b = some o) E) T.init.plain F.entry_set_init (check_set_init_1 t7 ?_)) fun r2 s2 hr2 => ?_
      · refine fill_list (R := wants _ E) hh hS (hl.push _) hi hb fun h' tk c hR hc hk => ⟨rfl, h', tk, c, rfl, hR, hc, fun b o e => hk b o (Nat.ne_of_lt (Heap.lt_size e)) (Heap.get?_push_of_some _ e)⟩
      · rcases r2 with e | f2
        · exact hr2
        · cases f2 with
          | ret v2 =>
            obtain ⟨rfl, h', tk, c, rfl, hR, hc, hk⟩ := hr2
            repeat (any_goals (first | assumption | wp_step))
            exact q h' tk c hR hc hk
          | _ => exact hr2.elim
    | _ => exact hr.elim
end
end VL
namespace VL
open PySem PySem.Spec PyProof.Rows L2
/-- the objects at T are known -/
def keepT (h : Heap) (T : List Addr) (H : Hp) : Hp := fun b => if b ∈ T then (h.get? b).map frzO else H b
def dropT (T : List Addr) (H : Hp) : Hp := fun b => if b ∈ T then none else H b
theorem keepT_in {h : Heap} {T : List Addr} {H : Hp} {b : Addr} (m : b ∈ T) : keepT h T H b = (h.get? b).map frzO := if_pos m
theorem frzO_at {P : Program} {w : World} {H : Hp} {h : Heap} {b : Addr} {o : Obj} (x : HOk P w H h) (e : H b = some (frzO o)) : h.get? b = some o := (x b _ e).1
section
variable {K : PySem.W.Frag} {G G' H H' : Hp} {T : List Addr}
/-- G' is G without known things -/
def Less (G G' : Hp) : Prop := ∀ b o, G b = some o → (∀ x, o ≠ frzO x) → G' b = some o
theorem Less.rd {xs : List V} (L : Less G G') {a : Addr} (h : SqL K G a xs) : SqL K G' a xs := by
  rcases h with (h | ⟨o, h⟩) | h
  · exact .inl (.inl (L _ _ h (fun x z => nomatch z)))
  · exact .inl (.inr ⟨o, L _ _ h (fun x z => nomatch z)⟩)
  · exact .inr h
mutual
theorem Rep.less (L : Less G G') : ∀ (d : D) (v : V), Rep K G d v → Rep K G' d v
  | .non, _, h => h
  | .bl _, _, h => h
  | .int _, _, h => h
  | .str _, _, h => h
  | .ptr _, _, h => h
  | .ty _, _, h => h
  | .tup ds, v, h => by
    obtain ⟨a, vs, e, hs, hr⟩ := h
    exact ⟨a, vs, e, L _ _ hs (fun x z => nomatch z), Reps.less L ds vs hr⟩
  | .lst ds, v, h => by
    obtain ⟨a, vs, e, hs, hr⟩ := h
    exact ⟨a, vs, e, L _ _ hs (fun x z => nomatch z), Reps.less L ds vs hr⟩
  | .scr ns, v, h => by
    obtain ⟨a, e, hs⟩ := h
    exact ⟨a, e, L.rd hs⟩
theorem Reps.less (L : Less G G') : ∀ (ds : List D) (vs : List V), Reps K G ds vs → Reps K G' ds vs
  | [], _, h => h
  | d :: ds, vs, h => by
    obtain ⟨v, r, e, h1, h2⟩ := h
    exact ⟨v, r, e, Rep.less L d v h1, Reps.less L ds r h2⟩
end
theorem RepF.less (L : Less G G') : ∀ {fs : List (Str × D)} {fv : List (Str × V)}, RepF K G fs fv → RepF K G' fs fv
  | [], _, h => h
  | (f, d) :: fs, _, ⟨v, r, e, h1, h2⟩ => ⟨v, r, e, Rep.less L _ _ h1, RepF.less L h2⟩
theorem RepK.less {κ : Type} (L : Less G G') {l : List (κ × D)} {l' : List (κ × V)} (h : RepK K G l l') : RepK K G' l l' := let ⟨vs, r, e⟩ := h; ⟨vs, Reps.less L _ _ r, e⟩
end
end VL
set_option maxHeartbeats 2000000
set_option maxHeartbeats 2000000
namespace VL
open PySem PySem.Spec PyProof.Rows L2 LamX
section
variable {Y : Cx} {pins : List (Addr × Obj)} {σ : L2.St} {H : Hp} {s : Shared} {T : List Addr}
/-- the cells, for the time of the body -/
structure Cells (Y : Cx) (s : Shared) (H : Hp) (T : List Addr) : Prop where
  at_ : ∀ b ∈ T, ∃ o, H b = some (frzO o)
theorem Cells.get (F : Cells Y s H T) (I : Inv Y pins σ H s) {b : Addr} (m : b ∈ T) : ∃ o, H b = some (frzO o) ∧ s.heap.get? b = some o := let ⟨o, e⟩ := F.at_ b m; ⟨o, e, frzO_at I.hok e⟩
theorem Cells.keep (F : Cells Y s H T) (I : Inv Y pins σ H s) {b : Addr} (m : b ∈ T) : keepT s.heap T (dropT T H) b = H b := by
  obtain ⟨o, e1, e2⟩ := F.get I m
  rw [keepT_in m, e2, e1]; rfl
end
end VL
set_option maxHeartbeats 2000000
set_option maxHeartbeats 2000000
set_option maxHeartbeats 2000000
set_option maxHeartbeats 4000000
set_option maxHeartbeats 4000000
namespace PySem
namespace HandSPX
open Builtin Builtin.ObjectAttr
section
variable {M : Model} {A : Around} {E : Value → Shared → Prop} {h : Heap} {g : Array GenState} {d : Drawn} {t : Nat} {os : OsState}
variable {nm q : Str} {C N : Addr} {bs bm bmB : List Value} {hdct : Bool} {sn : List Str} {sub : List Value} {ab : Bool} {col : Option Bool} {dd : Option Addr} {k0 k1 k2 k3 k5 : Option Value} {B newId initId : String}
theorem check_new_ownK (F : ExcBaseFacts B newId initId bmB) (hT : ∀ X : String, bm.contains (.type X) = bmB.contains (.type X)) {rest : List Value} {f : Str} {v : Value} {Q : Unit → Shared → Prop}
    (hC : h.get? C = some (excClassObj nm q C N bs bm hdct sn sub ab col dd k0 k1 k2 k3 k5 newId)) (hq : Q () ⟨h, g, d, t, os⟩) : wpAny M A (checkBuiltinCall newId ⟨.ref C :: rest, [(f, v)]⟩) Q E ⟨h, g, d, t, os⟩ := by
  have hcont : (Value.ref C :: bm).contains (.type B) = true := by rw [List.contains_cons, hT, F.hasB, Bool.or_true]
  have hstar := F.noStar
  simp only [checkBuiltinCall, F.newKind, F.newSplit, F.newRow]
  repeat (first | refine wpAny_loadPart_at hC ?_ | (refine wpAny_isSubtype_exc hC ?_; rw [hcont]) | refine wpAny_staticBase_exc hC ?_ | refine wpAny_madeBy_exc hC ?_ | simp only [bne_self_eq_false, Bool.false_eq_true, if_false] | wp_step)
  exact hq
end
section
variable {prog : Program} {w : World} {A : Around} {E : Value → Shared → Prop} {R : Result → Shared → Prop} {h : Heap} {g : Array GenState} {d : Drawn} {t : Nat} {os : OsState}
variable {nm q : Str} {C N : Addr} {bs bm bmB : List Value} {hdct : Bool} {sn : List Str} {sub : List Value} {ab : Bool} {col : Option Bool} {dd : Option Addr} {k0 k1 k2 k3 k5 : Option Value} {B newId initId : String}
theorem new_ownK (F : ExcBaseFacts B newId initId bmB) (hT : ∀ X : String, bm.contains (.type X) = bmB.contains (.type X)) {rest : List Value} {f : Str} {v : Value}
    (hC : h.get? C = some (excClassObj nm q C N bs bm hdct sn sub ab col dd k0 k1 k2 k3 k5 newId))
    (hq : R (.ok (.ret (.ref (h.objs.size + 1)))) ⟨(h.push { cls := .type "tuple", data := .seq rest.toArray }).push
      { cls := .ref C, data := .fields #[.ref h.objs.size, .none, .none, .none, .bool false, .none] }, g, d, t, os⟩) (hrest : rest.length ≤ sizeLine) :
    codeAny (model prog w) A (.builtin newId ⟨.ref C :: rest, [(f, v)]⟩) R ⟨h, g, d, t, os⟩ := by
  have hends := F.ends
  have hcB : (Value.ref C :: bm).contains (.type B) = true := by rw [List.contains_cons, hT, F.hasB, Bool.or_true]
  have hcA : (Value.ref C :: bm).contains (.type "AttributeError") = false := by rw [List.contains_cons, hT, F.noAttr]; rfl
  have hcN : (Value.ref C :: bm).contains (.type "NameError") = false := by rw [List.contains_cons, hT, F.noName]; rfl
  refine codeAny_builtinAt F.entry ?_
  unfold Builtin.«BaseException.__new__»
  refine wpAt_bind ?_
  show wpAt _ _ _ (stack >>= _) _ _ _
  refine wpAt_bind (wpAt_stack fun p below => wpAt_of_wpAny ?_)
  wp_walk
  refine wpAt_of_wpAny ?_
  rw [F.owner]
  repeat (first | with_reducible refine wpAny_madeHere_exc F.canon hC ?_ | with_reducible refine wpAny_loadPart_at hC ?_ | (with_reducible refine wpAny_isSubtype_exc hC ?_; first | rw [hcB] | rw [hcA] | rw [hcN]) | wp_step)
  show R _ _
  rw [Heap.size_push]
  exact hq
theorem type_call_ownK (F : ExcBaseFacts B newId initId bmB) (hT : ∀ X : String, bm.contains (.type X) = bmB.contains (.type X)) {rest : List Value} {f : Str} {v : Value} {fI : Addr} {Q : Fin → Shared → Prop}
    (hC : h.get? C = some (excClassObj nm q C N bs bm hdct sn sub ab col dd k0 k1 k2 k3 k5 newId))
    (hi : W.Looks (model prog w) h (typeLookup (.ref C) "__init__") (some (.ref fI))) (hb : ∀ self, W.Looks (model prog w) h (bindSpecial (.ref fI) self) (.ref fI, [self])) (hrest : rest.length ≤ sizeLine)
    (hq : codeAny (model prog w) A (.call (.ref fI) ⟨.ref (h.objs.size + 1) :: rest, [(f, v)]⟩)
      (fun r s' => match r with | .ok (.ret v) => v = .none ∧ Q (.done (.ret (.ref (h.objs.size + 1)))) s' | .ok _ => False | .error e => E e s')
      ⟨(h.push (W.kdv_tup rest)).push (excO C h.objs.size), g, d, t, os⟩) :
    wpAny (model prog w) A (Builtin.«type.__call__» ⟨.ref C :: rest, [(f, v)]⟩) Q E ⟨h, g, d, t, os⟩ := by
  repeat (first | with_reducible refine wpAny_loadPart_at hC ?_ | with_reducible refine wpAny_madeBy_exc hC ?_ | wp_step)
  refine codeAny_call_builtin_code (Code.quiet_builtin _ F.quiet) (check_new_ownK F hT hC ?_)
  refine new_ownK F hT hC ?_ hrest
  show wpAny _ _ _ _ _ _
  have k : ∀ b o, h.get? b = some o → ((h.push (W.kdv_tup rest)).push (excO C h.objs.size)).get? b = some o := fun b o e => Heap.get?_push_of_some _ (Heap.get?_push_of_some _ e)
  have hC₁ := k _ _ hC
  have hget : ((h.push (W.kdv_tup rest)).push (excO C h.objs.size)).get? (h.objs.size + 1) = some (excO C h.objs.size) := by heap_get
  have hcC : (Value.ref C :: bm).contains (.ref C) = true := by simp
  have i1 := hi.keeps k
  have b1 := (hb (.ref (h.objs.size + 1))).keeps k
  unfold isInstance
  repeat (first | with_reducible refine wpAny_loadPart_at hget ?_ | (with_reducible refine wpAny_isSubtype_exc hC₁ ?_; rw [hcC]) | wp_step)
  show wpAny _ _ (typeLookup (.ref C) _) _ _ _
  refine i1.at ?_
  refine wpAny_holding (wpAny_bind (b1.at ?_))
  refine wpAny_bind (wpAny_call (codeAny_mono hq fun r s' z => ?_))
  rcases r with e | (v | _ | _ | _) <;> first | exact z | exact z.elim | skip
  obtain ⟨rfl, z⟩ := z
  first
    | exact wpAny_pure (wpAny_pure z)
    | (wp_walk; exact z)
theorem check_type_callK {M : Model} {E : Value → Shared → Prop} {rest : List Value} {f : Str} {v : Value} {Q : Unit → Shared → Prop} (hC : h.get? C = some (excClassObj nm q C N bs bm hdct sn sub ab col dd k0 k1 k2 k3 k5 newId))
    (hq : Q () ⟨h, g, d, t, os⟩) : wpAny M A (checkBuiltinCall "type.__call__" ⟨.ref C :: rest, [(f, v)]⟩) Q E ⟨h, g, d, t, os⟩ := by
  have f3 := tc_sub
  have hT : (⟨h, g, d, t, os⟩ : Shared).TypeIs (.ref C) "type" := ⟨_, hC, rfl⟩
  simp only [checkBuiltinCall, tc_kind, tc_split]
  repeat (any_goals (first | assumption | with_reducible refine wpAny_loadPart_at hC ?_ | with_reducible refine wpAny_onRaise ?_ | with_reducible refine wpAny_map ?_ | wp_step))
theorem call_ownK (F : ExcBaseFacts B newId initId bmB) (hT : ∀ X : String, bm.contains (.type X) = bmB.contains (.type X)) {rest : List Value} {f : Str} {v : Value} {fI : Addr}
    (hC : h.get? C = some (excClassObj nm q C N bs bm hdct sn sub ab col dd k0 k1 k2 k3 k5 newId))
    (hi : W.Looks (model prog w) h (typeLookup (.ref C) "__init__") (some (.ref fI))) (hb : ∀ self, W.Looks (model prog w) h (bindSpecial (.ref fI) self) (.ref fI, [self])) (hrest : rest.length ≤ sizeLine)
    (hq : codeAny (model prog w) (A.under (.builtin "type.__call__" ⟨.ref C :: rest, [(f, v)]⟩)) (.call (.ref fI) ⟨.ref (h.objs.size + 1) :: rest, [(f, v)]⟩) (W.InitBack (h.objs.size + 1) R)
      ⟨(h.push (W.kdv_tup rest)).push (excO C h.objs.size), g, d, t, os⟩) :
    codeAny (model prog w) A (.call (.ref C) ⟨rest, [(f, v)]⟩) R ⟨h, g, d, t, os⟩ := by
  have f1 := tc_lookup
  have f2 := tc_bind (.ref C)
  have hTy : (⟨h, g, d, t, os⟩ : Shared).TypeIs (.ref C) "type" := ⟨_, hC, rfl⟩
  refine codeAny_of_tree ?_
  show wpAny _ _ (callAny (.ref C) _) _ _ _
  repeat (any_goals (first | assumption | with_reducible refine wpAny_loadPart_at hC ?_ | wp_step))
  refine ⟨rfl, ?_⟩
  refine codeAny_call_builtin_at (Code.quiet_builtin _ (by decide +kernel)) entry_typeCall (check_type_callK hC (type_call_ownK F hT hC hi hb hrest ?_))
  refine codeAny_mono hq fun r s' z => ?_
  rcases r with e | (v | _ | _ | _) <;> exact z
end
end HandSPX
end PySem
set_option maxHeartbeats 4000000
namespace VL
open PySem PySem.Spec PyProof.Rows L2
open Builtin Builtin.ObjectAttr
/-- a class whose __init__ takes its value by the name, too -/
structure MkrK (P : Program) (w : World) (K : PySem.W.Frag) (mg : Str → Option Value) (base : Heap) (n : Str) (b : EB) : Prop where
  ex : ∃ C fI fd, ExcK K n b C ∧ mg n = some (.ref C) ∧ PySem.W.findIn K (.ref C) "__init__" = some (some (.ref fI)) ∧ PySem.W.typeIn K (.ref fI) = some (.type "function") ∧ Binds K fd ["self", "what"] [] ∧ KW K fd ["self", "what"] 1 ["what"] [0, 1] ∧
    ∀ k, FnG P w K mg base (k + 1) fI fd ["self", "what"] (spI C)
/-- an exception that is made is there -/
theorem made_inv {X : Cx} {pins : List (Addr × Obj)} {σ : L2.St} {H1 H2 : Hp} {hp hp2 h2 : Heap} {g1 g2 : Array GenState} {d1 d2 : Drawn} {t1 t2 : Nat} {os1 os2 : OsState} {a C d : Addr} {fs : List (Str × V)} (hex : X.ex = []) (I1 : Inv X pins σ H1 ⟨hp, g1, d1, t1, os1⟩)
    (ha : hp.objs.size ≤ a) (k : ∀ b o, hp.get? b = some o → hp2.get? b = some o) (un : Un (frs X.stack) [] (upd H1 a (exo a C none)) H2 hp2 h2) (hok : HOk X.prog X.w H2 h2) (ho : os2 = os1) (hb : AllBare g2)
    (ea : H2 a = some (exo a C (some d))) (ed : H2 d = some (exd d fs)) (hd1 : H1 d = none) (e3 : upd (L2.del H2 a) d (.xd fs) = upd H1 d (.xd fs)) : Inv X pins σ (upd (upd H1 d (.xd fs)) a (exH a C d)) ⟨h2, g2, d2, t2, os2⟩ := by
  obtain ⟨t0, G, J, kG, ge, hoe, na⟩ := mk_end0 (d2 := d2) (t2 := t2) I1 ha k un hok ho hb ea ed hd1
  rw [e3] at J na
  have J2 : Inv X pins σ (upd H1 d (.xd fs)) ⟨h2, g2, d2, t2, os2⟩ := J.kept (t' := t2) kG
  have nlt : ∀ {c : Addr} {o : Obj}, hp.get? c = some o → c ≠ a := fun {c o} z => Nat.ne_of_lt (Nat.lt_of_lt_of_le (Heap.lt_size z) ha)
  refine VL.Inv.learn J2 na hoe rfl rfl rfl (fun o z => ?_) (fun z => ?_) fun p hpm => nlt (I1.pin p hpm).1
  · obtain ⟨o1, z1⟩ := I1.base.there a o z (by rw [hex]; simp)
    exact nlt z1 rfl
  · have := I1.lt
    rw [← z] at this
    exact absurd this (Nat.not_lt.mpr ha)
def tMkV (K : PySem.W.Frag) (n : Str) (b : EB) (ta : TA) : TE := fun σ H Q => ta σ H fun vs H1 => ∃ y, vs = [y] ∧ ∀ C a d, ExcK K n b C → H1 a = none → H1 d = none → d ≠ a → Q (.ref a) (upd (upd H1 d (.xd [(("what" : Str), y)])) a (exH a C d))
section
variable {X : Cx} {W : WX} {e : Expr} {ws : WA} {we : WE} {p p1 pos pos' : Pos} {n : Str} {b : EB} {k : Nat}
theorem pe_mkV {ta : TA} {j : Nat} (m : MkrK X.prog X.w X.K X.mg X.base n b) (hr : Room (j + 2) X.A) (hg0 : X.A.guards = some []) (hex : X.ex = []) (he : PA X [e] ta) (hgl : Gl X n := by rfl) (hdb : (n == ("__debug__" : Str)) = false := by decide)
    (hst : starEach [e] X.env = (false, eval e X.env) :: starEach [] X.env := by rfl) (hpl : (backTo pos (starEach [] X.env)).any (·.1) = false := by rfl) :
    PE X (.Call (.Name n p) [e] [] pos) (tMkV X.K n b ta) := by
  obtain ⟨C, fI, fd, T, hm, iC, tI, hb, _, F⟩ := m.ex
  refine ⟨fun pins s σ H Q I h => ?_⟩
  obtain ⟨nm, N, qn, bs, bm, hdct, sn, sub, ab, col, dd, k0, k1, k2, k3, k5, hC, hbm⟩ := W.excInit_of I.ok.mod.kin T.ini
  refine wpAny_Call_Name_kw (ld_glob I hgl hm ?_ hdb)
  refine PySem.W.callWith_K (h₀ := X.base) I.ok.mod.kin T.kC (thn (he.run pos pins s σ H _ I h) fun us s1 ⟨vs, H1, I1, r1, y, ev, q1⟩ => ⟨I1.kIn, ?_⟩) hst hpl
  show wpAny _ _ (call (.ref C) us) _ _ _
  subst ev
  obtain ⟨hp, g, dr, tk, os⟩ := s1
  have hC := I1.bk _ _ hC
  have sz : hp.objs.size ≤ hp.objs.size + 1 := Nat.le_succ _
  obtain ⟨a, ha⟩ : ∃ a, a = hp.objs.size + 1 := ⟨_, rfl⟩
  have hn : H1 a = none := by rw [ha]; exact I1.hok.fresh sz
  obtain ⟨h2, eh2⟩ : ∃ h2, h2 = (hp.push (PySem.W.kdv_tup us)).push (HandSPX.excO C hp.objs.size) := ⟨_, rfl⟩
  have kk : ∀ c o, hp.get? c = some o → h2.get? c = some o := fun c o z => by rw [eh2]; exact Heap.get?_push_of_some _ (Heap.get?_push_of_some _ z)
  have hget : h2.get? a = some (HandSPX.excO C hp.objs.size) := by rw [eh2, ha]; heap_get
  have I2 : Inv X pins σ (upd H1 a (exo a C none)) ⟨h2, g, dr, tk, os⟩ := by
    have J := I1.laid (t' := tk) (a := a) (o := exo a C none) (h' := h2) kk (by rw [ha]; exact sz) (exo_ok hget)
    exact J
  have r2 : Vals [V.ref a, y] (Value.ref a :: us) := .cons rfl r1
  have hlen : (Value.ref a :: us).length = ["self", "what"].length := r2.length.symm
  have hus : us.length ≤ sizeLine := by
    have : us.length = 1 := by simpa using hlen
    rw [this, sizeL]
    omega
  have bd := hb _ (Value.ref a :: us) I2.kIn (by rw [List.append_nil]; exact hlen)
  rw [List.append_nil] at bd
  have sp1 : spI C [V.ref a, y] (upd H1 a (exo a C none)) (fun v H2 => v = .non ∧ ∃ d, H1 d = none ∧ d ≠ a ∧ H2 = upd (upd (upd H1 a (exo a C none)) d (exd d [(("what" : Str), y)])) a (exo a C (some d))) (fun _ _ _ => False) :=
    ⟨a, y, rfl, upd_same, fun d hd hda => ⟨rfl, d, by rwa [upd_ne hda] at hd, hda, rfl⟩⟩
  have run := (F j).run _ X.stack ⟨h2, g, dr, tk, os⟩ _ ⟨Value.ref a :: us, []⟩ (Value.ref a :: us) _ _ _ (hr.make C us []) hg0 (I2.env0.make C us []) bd r2 sp1
  refine wpAny_call (HandSPX.call_own (baseE b) hbm hC (PySem.W.looks_findIn I1.kIn iC) (fun self => PySem.W.bind_fn I1.kIn self tI) hus ?_)
  rw [← ha, ← eh2]
  refine codeAny_mono run fun r s2 hq => ?_
  cases r with
  | error er =>
    obtain ⟨_, _, _, _, _, _, _, _, _, _, _, _, z⟩ := hq
    exact z.elim
  | ok fl =>
    cases fl with
    | ret u =>
      obtain ⟨v, H2, os2, bare2, un2, hok2, rv, rfl, d, hd, hda, eH2⟩ := hq
      obtain ⟨h3, g3, d3, t3, os3⟩ := s2
      have e1 : H2 a = some (exo a C (some d)) := by rw [eH2, upd_same]
      have e2 : H2 d = some (exd d [(("what" : Str), y)]) := by rw [eH2, upd_ne hda, upd_same]
      have e3 : upd (L2.del H2 a) d (.xd [(("what" : Str), y)]) = upd H1 d (.xd [(("what" : Str), y)]) := by
        funext c
        by_cases h1 : c = d
        · rw [h1, upd_same, upd_same]
        · rw [upd_ne h1, upd_ne h1]
          by_cases h2 : c = a
          · rw [h2, del_same, hn]
          · rw [del_ne h2, eH2, upd_ne h2, upd_ne h1, upd_ne h2]
      exact ⟨rv, V.ref a, _, made_inv hex I1 (by rw [ha]; exact sz) kk un2 hok2 os2 bare2 e1 e2 hd e3, rfl, q1 C a d T hn hd hda⟩
    | next => exact False.elim hq
    | brk => exact False.elim hq
    | cont => exact False.elim hq
theorem pe_mkVK {ta : TA} {j : Nat} {kp : Pos} (m : MkrK X.prog X.w X.K X.mg X.base n b) (hr : Room (j + 2) X.A) (hg0 : X.A.guards = some []) (hex : X.ex = []) (he : PK X [⟨some "what", e, kp⟩] ta) (hgl : Gl X n := by rfl) (hdb : (n == ("__debug__" : Str)) = false := by decide)
    (hall : (backToKw pos (keywordEach [⟨some "what", e, kp⟩] X.env)).all (·.1.isSome) = true := by rfl) (hks : (backToKw pos (keywordEach [⟨some "what", e, kp⟩] X.env)).filterMap (·.1) = (["what"] : List Str) := by rfl)
    (hpl : ((backTo pos (starEach [] X.env)).any (·.1) || (backToKw pos (keywordEach [⟨some "what", e, kp⟩] X.env)).any (·.1.isNone)) = false := by rfl) :
    PE X (.Call (.Name n p) [] [⟨some "what", e, kp⟩] pos) (tMkV X.K n b ta) := by
  obtain ⟨C, fI, fd, T, hm, iC, tI, _, hb, F⟩ := m.ex
  refine ⟨fun pins s σ H Q I h => ?_⟩
  obtain ⟨nm, N, qn, bs, bm, hdct, sn, sub, ab, col, dd, k0, k1, k2, k3, k5, hC, hbm⟩ := W.excInit_of I.ok.mod.kin T.ini
  refine wpAny_Call_Name_kw (ld_glob I hgl hm ?_ hdb)
  refine PySem.W.callWith_KW0 (h₀ := X.base) I.ok.mod.kin T.kC hall ?_ hpl
  refine thn (he.run pos pins s σ H _ I h) fun us s1 ⟨vs, H1, I1, r1, y, ev, q1⟩ => ⟨I1.kIn, ?_⟩
  rw [hks]
  subst ev
  obtain ⟨v, rfl, rv0⟩ := vals1 r1
  show wpAny _ _ (call (.ref C) [] [(("what" : Str), v)]) _ _ _
  obtain ⟨hp, g, dr, tk, os⟩ := s1
  have hC := I1.bk _ _ hC
  have sz : hp.objs.size ≤ hp.objs.size + 1 := Nat.le_succ _
  obtain ⟨a, ha⟩ : ∃ a, a = hp.objs.size + 1 := ⟨_, rfl⟩
  have hn : H1 a = none := by rw [ha]; exact I1.hok.fresh sz
  obtain ⟨h2, eh2⟩ : ∃ h2, h2 = (hp.push (PySem.W.kdv_tup [])).push (HandSPX.excO C hp.objs.size) := ⟨_, rfl⟩
  have kk : ∀ c o, hp.get? c = some o → h2.get? c = some o := fun c o z => by rw [eh2]; exact Heap.get?_push_of_some _ (Heap.get?_push_of_some _ z)
  have hget : h2.get? a = some (HandSPX.excO C hp.objs.size) := by rw [eh2, ha]; heap_get
  have I2 : Inv X pins σ (upd H1 a (exo a C none)) ⟨h2, g, dr, tk, os⟩ := by
    have J := I1.laid (t' := tk) (a := a) (o := exo a C none) (h' := h2) kk (by rw [ha]; exact sz) (exo_ok hget)
    exact J
  have r2 : Vals [V.ref a, y] [Value.ref a, v] := .cons rfl r1
  have bd := hb _ [Value.ref a] [v] I2.kIn rfl rfl
  have sp1 : spI C [V.ref a, y] (upd H1 a (exo a C none)) (fun v H2 => v = .non ∧ ∃ d, H1 d = none ∧ d ≠ a ∧ H2 = upd (upd (upd H1 a (exo a C none)) d (exd d [(("what" : Str), y)])) a (exo a C (some d))) (fun _ _ _ => False) :=
    ⟨a, y, rfl, upd_same, fun d hd hda => ⟨rfl, d, by rwa [upd_ne hda] at hd, hda, rfl⟩⟩
  have run := (F j).run _ X.stack ⟨h2, g, dr, tk, os⟩ _ ⟨[Value.ref a], [(("what" : Str), v)]⟩ [Value.ref a, v] _ _ _ (hr.make C [] [(("what" : Str), v)]) hg0 (I2.env0.make C [] [(("what" : Str), v)]) bd r2 sp1
  refine wpAny_call (HandSPX.call_ownK (baseE b) hbm hC (PySem.W.looks_findIn I1.kIn iC) (fun self => PySem.W.bind_fn I1.kIn self tI) (by rw [sizeL]; exact Nat.zero_le _) ?_)
  rw [← ha, ← eh2]
  refine codeAny_mono run fun r s2 hq => ?_
  cases r with
  | error er =>
    obtain ⟨_, _, _, _, _, _, _, _, _, _, _, _, z⟩ := hq
    exact z.elim
  | ok fl =>
    cases fl with
    | ret u =>
      obtain ⟨v, H2, os2, bare2, un2, hok2, rv, rfl, d, hd, hda, eH2⟩ := hq
      obtain ⟨h3, g3, d3, t3, os3⟩ := s2
      have e1 : H2 a = some (exo a C (some d)) := by rw [eH2, upd_same]
      have e2 : H2 d = some (exd d [(("what" : Str), y)]) := by rw [eH2, upd_ne hda, upd_same]
      have e3 : upd (L2.del H2 a) d (.xd [(("what" : Str), y)]) = upd H1 d (.xd [(("what" : Str), y)]) := by
        funext c
        by_cases h1 : c = d
        · rw [h1, upd_same, upd_same]
        · rw [upd_ne h1, upd_ne h1]
          by_cases h2 : c = a
          · rw [h2, del_same, hn]
          · rw [del_ne h2, eH2, upd_ne h2, upd_ne h1, upd_ne h2]
      exact ⟨rv, V.ref a, _, made_inv hex I1 (by rw [ha]; exact sz) kk un2 hok2 os2 bare2 e1 e2 hd e3, rfl, q1 C a d T hn hd hda⟩
    | next => exact False.elim hq
    | brk => exact False.elim hq
    | cont => exact False.elim hq
/-- n(v) -/
def wMkX (n : Str) (b : EB) (k : Nat) (ws : WA) : WE := fun en c Q X => 2 ≤ k ∧ ws en c (fun ds c1 => ∃ d, ds = [d] ∧ ∀ p, c1 p = none → Q (.ptr p) (cup c1 p (.exc n b d))) X
theorem mkV_rd {W : WX} {ws : WA} {σ : L2.St} {H : Hp} {Q : VK} (h : rdE X.K X.mg W (wMkX n b k ws) σ H Q) : 2 ≤ k ∧ tMkV X.K n b (rdA X.K X.mg W ws) σ H Q := by
  obtain ⟨G, en, c, Q0, X0, s, er, ⟨hk, q⟩, x0, kk⟩ := h
  refine ⟨hk, G, en, c, _, X0, s, er, q, x0, fun ds c1 vs H1 G1 ⟨d, ed, q1⟩ g1 s1 r1 => ?_⟩
  subst ed
  obtain ⟨v, rfl, rv⟩ := r1.one'
  refine ⟨v, rfl, fun C a dd T na nd hda => ?_⟩
  obtain ⟨s2, g2⟩ := s1.newG (o := HO.xd [(("what" : Str), v)]) nd
  have na2 : upd H1 dd (.xd [(("what" : Str), v)]) a = none := by rw [upd_ne (Ne.symm hda)]; exact na
  obtain ⟨s3, g3⟩ := s2.keep na2 T (upd_same (H := G1)) (Rep.mono g2.g _ _ rv)
  exact kk (.ptr a) _ (.ref a) _ _ (q1 a (s1.free na).1) (g1.trans (g2.trans g3)) s3 rfl
theorem je_mkV (m : MkrK X.prog X.w X.K X.mg X.base n b) (hr : Room k X.A) (hg0 : X.A.guards = some []) (ha : JA X W [e] ws) (hex : X.ex = [] := by rfl) (hgl : Gl X n := by rfl) (hdb : (n == ("__debug__" : Str)) = false := by decide)
    (hst : starEach [e] X.env = (false, eval e X.env) :: starEach [] X.env := by rfl) (hpl : (backTo pos (starEach [] X.env)).any (·.1) = false := by rfl) :
    JE X W (.Call (.Name n p) [e] [] pos) (wMkX n b k ws) := by
  by_cases hk : 2 ≤ k
  · obtain ⟨j, rfl⟩ : ∃ j, k = j + 2 := ⟨k - 2, by omega⟩
    exact PE.of (pe_mkV m hr hg0 hex ha hgl hdb hst hpl) fun σ H Q h => (mkV_rd h).2
  · exact ⟨fun pins s σ H Q I h => absurd (mkV_rd h).1 hk⟩
theorem je_mkVK {kp : Pos} (m : MkrK X.prog X.w X.K X.mg X.base n b) (hr : Room k X.A) (hg0 : X.A.guards = some []) (ha : JK X W [⟨some "what", e, kp⟩] ws) (hex : X.ex = [] := by rfl) (hgl : Gl X n := by rfl) (hdb : (n == ("__debug__" : Str)) = false := by decide)
    (hall : (backToKw pos (keywordEach [⟨some "what", e, kp⟩] X.env)).all (·.1.isSome) = true := by rfl) (hks : (backToKw pos (keywordEach [⟨some "what", e, kp⟩] X.env)).filterMap (·.1) = (["what"] : List Str) := by rfl)
    (hpl : ((backTo pos (starEach [] X.env)).any (·.1) || (backToKw pos (keywordEach [⟨some "what", e, kp⟩] X.env)).any (·.1.isNone)) = false := by rfl) :
    JE X W (.Call (.Name n p) [] [⟨some "what", e, kp⟩] pos) (wMkX n b k ws) := by
  by_cases hk : 2 ≤ k
  · obtain ⟨j, rfl⟩ : ∃ j, k = j + 2 := ⟨k - 2, by omega⟩
    exact PE.of (pe_mkVK m hr hg0 hex ha hgl hdb hall hks hpl) fun σ H Q h => (mkV_rd h).2
  · exact ⟨fun pins s σ H Q I h => absurd (mkV_rd h).1 hk⟩
end
def DefMK (K : PySem.W.Frag) (C : Addr) (m q : Str) (st : Stmt) : Prop := ∃ f fd, Meth K C m f ∧ Fun K m q st f fd ∧ Binds K fd ["self", "what"] [] ∧ KW K fd ["self", "what"] 1 ["what"] [0, 1]
theorem def_mkMK {K : PySem.W.Frag} {C : Addr} {m q : Str} {st : Stmt} {f : Addr} {oc : Value} {od an : Option Addr} {osl : Array (Option Value)} {kV doc pm cdv ct : Value}
    (a : PySem.W.findIn K (.ref C) m = some (some (.ref f))) (i : PySem.W.isFn K (.ref f) = true) (l : K.lookup f = some ⟨oc, od, .func (PySem.W.fnOf m q (defArgs st) (defBody st) (defScope st) .none kV doc pm an cdv ct), osl⟩) (c : PySem.W.codeIn K cdv q = true) (k : PySem.W.keepIn K (.ref f) = true)
    (hb : ∀ (kV doc pm : Value) (an : Option Addr) (cdv ct : Value) (us : List Value), us.length = (["self", "what"] : List Str).length → bindArgs (PySem.W.fnOf m q (defArgs st) (defBody st) (defScope st) .none kV doc pm an cdv ct) ⟨us, []⟩ = pure ((["self", "what"] : List Str).zip us))
    (hw : ∀ (kV doc pm : Value) (an : Option Addr) (cdv ct : Value) (us ws : List Value), us.length = 1 → ws.length = (["what"] : List Str).length → bindArgs (PySem.W.fnOf m q (defArgs st) (defBody st) (defScope st) .none kV doc pm an cdv ct) ⟨us, (["what"] : List Str).zip ws⟩ = pure ((["self", "what"] : List Str).zip (permF [0, 1] (us ++ ws)))) : DefMK K C m q st := by
  have F := fun_mk (st := st) l c k
  exact ⟨f, _, ⟨a, i, k⟩, F, F.binds hb, fun s us ws _ l1 l2 => .of_eq (hw _ _ _ _ _ _ us ws l1 l2)⟩
theorem mkrK_of {P : Program} {w : World} {K : W.Frag} {mg : Str → Option Value} {base : Heap} {n q : Str} {b : EB} {C : Addr} {st : Stmt} (T : ExcK K n b C) (G : mg n = some (.ref C)) (D : DefMK K C "__init__" q st) (S : FnScope ["self", "what"] ["self", "what"] (defScope st))
    (hb : ∀ (f : Addr) (cdv : Value) (A : Around) (outer : List PySem.Env) (s : Shared) (H : Hp) (E : XK), PSs (cxOf (L2.CX P w) P w K mg base ["self", "what"] q (defScope st) f cdv A outer s H E) (defBody st) (tIni K b)) : MkrK P w K mg base n b := by
  obtain ⟨f, fd, h1, F, bd, kw⟩ := D
  refine ⟨C, f, fd, T, G, h1.at_, beq_iff_eq.mp h1.fn, bd, kw, fun k => fnG_raw F S ?_ fun cdv A outer s H E => ⟨_, hb f cdv A outer s H E, ?_⟩⟩
  · rintro vs H Q E ⟨a, v, rfl, _⟩
    rfl
  · rintro vs Q ⟨a, v, rfl, ha, q⟩
    exact ⟨_, rfl, a, C, n, _, rfl, by simp, T, ha, _, rfl, _, rfl, a, C, n, b, rfl, T, ha, q⟩
end VL
namespace VL
open PySem PySem.Spec PyProof.Rows L2
def Bx (p : Addr) (N : Int) (c : Cs) : Prop := ∃ a b n : Int, c p = some (.lst [.int a, .int b, .int n]) ∧ 0 ≤ a ∧ 0 ≤ b ∧ b < 2147483648 ∧ 0 ≤ n ∧ n ≤ N
def Up (p : Addr) (N : Int) (c c' : Cs) : Prop := Bx p N c' ∧ ∀ q x, q ≠ p → c q = some x → c' q = some x
theorem Bx.le {p : Addr} {N M : Int} {c : Cs} (h : Bx p N c) (l : N ≤ M) : Bx p M c := by
  obtain ⟨a, b, n, h⟩ := h
  exact ⟨a, b, n, h.1, h.2.1, h.2.2.1, h.2.2.2.1, h.2.2.2.2.1, by omega⟩
theorem Up.le {p : Addr} {N M : Int} {c c' : Cs} (h : Up p N c c') (l : N ≤ M) : Up p M c c' := ⟨h.1.le l, h.2⟩
theorem Up.trans {p : Addr} {N M : Int} {c c' c'' : Cs} (h : Up p N c c') (g : Up p M c' c'') : Up p M c c'' := ⟨g.1, fun q x z e => g.2 q x z (h.2 q x z e)⟩
theorem Up.mk {p : Addr} {N : Int} {c : Cs} {a b n : Int} (h : 0 ≤ a ∧ 0 ≤ b ∧ b < 2147483648 ∧ 0 ≤ n ∧ n ≤ N) : Up p N c (cup c p (.lst [.int a, .int b, .int n])) :=
  ⟨⟨a, b, n, cup_same, h⟩, fun q x z e => by rw [cup_ne z]; exact e⟩
theorem Bx.some {p : Addr} {N : Int} {c : Cs} (h : Bx p N c) : ∃ x, c p = some x := by
  obtain ⟨a, b, n, h, _⟩ := h
  exact ⟨_, h⟩
theorem mul64 {i j : Int} (h : 0 ≤ i) (h' : i < 18446744073709551616) : MulOk i j := .inl (.inl ⟨by omega, by omega⟩)
theorem mul64' {i j : Int} (h : 0 ≤ j) (h' : j < 18446744073709551616) : MulOk i j := .inl (.inr ⟨by omega, by omega⟩)
theorem lg_ok {j : Int} {n : Nat} (h : 0 < j) (h' : j < (2 : Int) ^ n) : j.natAbs.log2 < n := by
  have h1 : j.natAbs ≠ 0 := by omega
  have : ((j.natAbs : Nat) : Int) < ((2 ^ n : Nat) : Int) := by
    rw [Int.natAbs_of_nonneg (by omega)]; push_cast; exact h'
  exact (Nat.log2_lt h1).mpr (by exact_mod_cast this)
def c_l_take (k : Nat) : Ctr := fun ds c Q _ => ∃ (p : Addr) (s N : Int) (d : Nat), ds = [.ptr p, .int s] ∧ d ≤ k ∧ d ≤ 20 ∧ 0 < s ∧ s ≤ (10000000 : Int) ^ (d + 1) ∧ Bx p N c ∧ N + 2 ^ d ≤ 70368744177664 ∧
  ∀ r c', 0 ≤ r → r < s → Up p (N + 2 ^ d) c c' → Q (.int r) c'
def w_l_take (k : Nat) : WS := (sSeq (sIf (wTst (wBin oGt (wBin oIx (wVar 0) (wC (.int 0))) (wC (.int 0)))) (sSeq (sAsg (wBi oDivmod (wCons (wBin oIx (wVar 0) (wC (.int 0))) (wCons (wVar 1) wNil))) (gTp 2 (gCons' (gSb (wVar 0) (wC (.int 0))) (gCons' (gNm 5) gNil')))) (sRet (wVar 5))) sNil) (sSeq (sIf (wTst (wBin oGt (wVar 1) (wBin oPow (wC (.int 10)) (wC (.int 7))))) (sRet (wBin oMod (wBin oAdd (wCall 2 c_l_take k (wCons (wVar 0) (wCons (wBin oPow (wC (.int 10)) (wC (.int 7))) wNil))) (wBin oMul (wBin oPow (wC (.int 10)) (wC (.int 7))) (wCall 2 c_l_take k (wCons (wVar 0) (wCons (wBin oAdd (wBin oFdiv (wBin oSub (wVar 1) (wC (.int 1))) (wBin oPow (wC (.int 10)) (wC (.int 7)))) (wC (.int 1))) wNil))))) (wVar 1))) sNil) (sSeq (sAsg (wBin oAdd (wBin oIx (wVar 0) (wC (.int 2))) (wC (.int 1))) (gSb (wVar 0) (wC (.int 2)))) (sSeq (sSet 2 (wBin oAdd (wC (.int 69621)) (wBin oMul (wBin oIx (wVar 0) (wC (.int 2))) (wBin oIx (wVar 0) (wC (.int 2)))))) (sSeq (sSet 3 (wBin oMod (wBin oMul (wBin oAdd (wBin oIx (wVar 0) (wC (.int 1))) (wBin oMul (wC (.int 39373)) (wBin oIx (wVar 0) (wC (.int 2))))) (wVar 2)) (wC (.int 2147483587)))) (sSeq (sSet 4 (wBin oMod (wBin oAdd (wBin oMul (wVar 3) (wBin oAdd (wBin oMod (wVar 3) (wC (.int 30011))) (wC (.int 5)))) (wBin oIx (wVar 0) (wC (.int 2)))) (wC (.int 2147483563)))) (sRet (wBin oMod (wBin oFdiv (wBin oMod (wBin oMul (wVar 4) (wBin oAdd (wBin oMod (wVar 4) (wC (.int 1013))) (wC (.int 3)))) (wC (.int 998244353))) (wC (.int 16))) (wVar 1)))))))))
theorem p_l_take (k : Nat) (ds : List D) (c : Cs) (Q : DK) (X0 : XK0) (hlen0 : ds.length = 2) (h : c_l_take k ds c Q X0) : w_l_take k (endOf Q) (excOf X0) (enOf 6 ds) c := by
  obtain ⟨p, s, N, d, rfl, hk, hd, h0, h1, ⟨a, b, n, hc, ha, hb, hb', hn, hN⟩, hlim, q⟩ := h
  have hlg : s.natAbs.log2 < 9000 := lg_ok h0 (Int.lt_of_le_of_lt h1 (by
    have : ∀ d : Nat, d ≤ 20 → (10000000 : Int) ^ (d + 1) < 2 ^ 9000 := by decide +kernel
    exact this d hd))
  have h10 : (1 : Int) ≤ 2 ^ d := Int.pow_pos (by omega)
  simp only [w_l_take, sRaise, sTry, wIsX, wWhat, wBack, lo_lst, e_mulV, sizeL, sNil, sSeq, sPass, sBrk, sCont, sExpr, sRet, sRetN, sIf, sNever, sSet, sAug, gNm, gTp, gNil', gCons', gSb, sAsg, sPar, sFor, wVar_z, wVar_s, wC, wChn, wTru, sPar3, wRev, wCallK, permF, List.filterMap_cons, List.filterMap_nil, wBin, wUn, wTst, wNot, wAnd, wOr, wAndV, wOrV, wNotV, wIf, wNil, wCons, wTup, wLst, wLstL, wFz, wCall, wBi, wMt, wMt0, wSl, wSlL, wPart, wNoPart, wYes, wSeq, wRg1, wRg2, wEnum, wZip, wLc, wLcL, wLRg, wFld, sFldS, sFldA, gFld, wMeth, wMake, lvl2_s, onB, e_eqI, e_neI, e_eqB, e_neB, e_eqS, e_neS, e_eqN, e_tyLT, e_ty1, isTys, tyMem, tyN_non, tyN_bl, tyN_int, tyN_str, tyN_tup, tyN_lst, Bool.true_or, Bool.or_true, Bool.or_false, Bool.false_or, Bool.not_true, Bool.not_false, inn_non, inn_bl, inn_int, inn_str, inn_tup, inn_lst, inn_ptr, e_slT, e_slL, e_slN, isT_P, isT_L, isT_T, isT_N, e_sub, e_fdiv, e_mod, e_pow, e_lt, e_le, e_gt, e_ge, e_neg, e_add, e_addS, e_addT, e_addL, e_addPP, e_addPL, e_addLP, e_mul, e_mulL, e_mulT, e_augI, e_ixT, e_ixL, e_ixN, e_ixP, e_lenT, e_lenL, e_lenN, e_lenS, e_lenP, e_abs, e_intI, e_intB, e_max, e_min, e_tupL, e_tupT, e_listL, e_listT, e_listN, e_listLL, e_listLT, e_divmod, e_isNon, e_isntNon, e_isB, e_isntB, e_setIx, e_insert, e_append, e_isL, e_isLL, e_seqP, e_seqL, e_seqT, e_seqN, it_lst, it_fz, Option.bind_some, Option.isSome_some, ix10, ix20, ix21, ix30, ix32, dl1, dl2, dl3, List.eraseIdx_cons_zero, e_pop0, e_popAt, e_rev, e_clear, e_tupP, e_listP, e_neN, e_neIN, e_neNI, e_eqIN, e_eqNI, at0, at1, at2, at3, Cell.lst.injEq, Cell.obj.injEq, Option.some.injEq, exists_eq_left', decide_eq_true_eq, true_and, and_true, cup_same, cup_cup, List.flatten_nil, List.flatten_cons, enOf, endOf, excOf, List.map_cons, List.map_nil, List.length_cons, List.length_nil, List.replicate, Nat.reduceAdd, Nat.reduceSub, List.cons_append, List.nil_append, List.set_cons_zero, List.set_cons_succ, List.getElem?_cons_zero, List.getElem?_cons_succ, List.getElem_cons_zero, List.getElem_cons_succ, reduceCtorEq, if_true, if_false, Bool.false_eq_true, decide_true, decide_false, ne_eq, not_true, not_false_eq_true, Int.reduceEq, Nat.reduceMul, true_imp_iff, Int.reduceToNat, Int.reducePow, Nat.reducePow, Int.reduceLE, Int.reduceLT, Nat.reduceLT, and_self, Nat.reduceLeDiff, Int.reduceNeg, Int.reduceAdd, Int.reduceSub, Int.reduceMul, Int.cast_ofNat_Int, hc]
  split
  · refine ⟨h0, hlg, _, CLe.refl _, q _ _ (Int.emod_nonneg _ (by omega)) (Int.emod_lt_of_pos _ h0) (Up.mk ⟨Int.ediv_nonneg ha (by omega), hb, hb', hn, by omega⟩)⟩
  · split
    · rename_i h7
      cases d with
      | zero => simp at h1; omega
      | succ d =>
        cases k with
        | zero => omega
        | succ k =>
          have e2 : (2 : Int) ^ (d + 1) = 2 ^ d + 2 ^ d := by rw [Int.pow_succ]; omega
          have e1 : (1 : Int) ≤ 2 ^ d := Int.pow_pos (by omega)
          rw [e2] at hlim q
          refine ⟨p, _, N, 0, rfl, by omega, by omega, by omega, by omega, ⟨a, b, n, hc, ha, hb, hb', hn, hN⟩, by simp; omega, fun r c1 r0 r1 u1 => ⟨by decide, ?_⟩⟩
          have s2 : (s - 1) / 10000000 + 1 ≤ (10000000 : Int) ^ (d + 1) := by
            rw [Int.pow_succ] at h1
            omega
          refine ⟨p, _, N + 1, d, rfl, by omega, by omega, by omega, s2, u1.1.le (by simp), by omega, fun r2 c2 r3 r4 u2 => ?_⟩
          simp only [sRaise, sTry, wIsX, wWhat, wBack, lo_lst, e_mulV, sizeL, sNil, sSeq, sPass, sBrk, sCont, sExpr, sRet, sRetN, sIf, sNever, sSet, sAug, gNm, gTp, gNil', gCons', gSb, sAsg, sPar, sFor, wVar_z, wVar_s, wC, wChn, wTru, sPar3, wRev, wCallK, permF, List.filterMap_cons, List.filterMap_nil, wBin, wUn, wTst, wNot, wAnd, wOr, wAndV, wOrV, wNotV, wIf, wNil, wCons, wTup, wLst, wLstL, wFz, wCall, wBi, wMt, wMt0, wSl, wSlL, wPart, wNoPart, wYes, wSeq, wRg1, wRg2, wEnum, wZip, wLc, wLcL, wLRg, wFld, sFldS, sFldA, gFld, wMeth, wMake, lvl2_s, onB, e_eqI, e_neI, e_eqB, e_neB, e_eqS, e_neS, e_eqN, e_tyLT, e_ty1, isTys, tyMem, tyN_non, tyN_bl, tyN_int, tyN_str, tyN_tup, tyN_lst, Bool.true_or, Bool.or_true, Bool.or_false, Bool.false_or, Bool.not_true, Bool.not_false, inn_non, inn_bl, inn_int, inn_str, inn_tup, inn_lst, inn_ptr, e_slT, e_slL, e_slN, isT_P, isT_L, isT_T, isT_N, e_sub, e_fdiv, e_mod, e_pow, e_lt, e_le, e_gt, e_ge, e_neg, e_add, e_addS, e_addT, e_addL, e_addPP, e_addPL, e_addLP, e_mul, e_mulL, e_mulT, e_augI, e_ixT, e_ixL, e_ixN, e_ixP, e_lenT, e_lenL, e_lenN, e_lenS, e_lenP, e_abs, e_intI, e_intB, e_max, e_min, e_tupL, e_tupT, e_listL, e_listT, e_listN, e_listLL, e_listLT, e_divmod, e_isNon, e_isntNon, e_isB, e_isntB, e_setIx, e_insert, e_append, e_isL, e_isLL, e_seqP, e_seqL, e_seqT, e_seqN, it_lst, it_fz, Option.bind_some, Option.isSome_some, ix10, ix20, ix21, ix30, ix32, dl1, dl2, dl3, List.eraseIdx_cons_zero, e_pop0, e_popAt, e_rev, e_clear, e_tupP, e_listP, e_neN, e_neIN, e_neNI, e_eqIN, e_eqNI, at0, at1, at2, at3, Cell.lst.injEq, Cell.obj.injEq, Option.some.injEq, exists_eq_left', decide_eq_true_eq, true_and, and_true, cup_same, cup_cup]
          refine ⟨mul64 (by omega) (by omega), h0, _, CLe.refl _, q _ _ (Int.emod_nonneg _ (by omega)) (Int.emod_lt_of_pos _ h0) ((u1.trans u2).le (by omega))⟩
    · have m1 := Int.emod_nonneg ((b + 39373 * (n + 1)) * (69621 + (n + 1) * (n + 1))) (show (2147483587 : Int) ≠ 0 by omega)
      have m2 := Int.emod_lt_of_pos ((b + 39373 * (n + 1)) * (69621 + (n + 1) * (n + 1))) (show (0 : Int) < 2147483587 by omega)
      refine ⟨mul64 (by omega) (by omega), mul64 (by omega) (by omega), mul64 (by omega) (by omega), mul64 m1 (by omega), ?_⟩
      generalize (b + 39373 * (n + 1)) * (69621 + (n + 1) * (n + 1)) % 2147483587 = u at *
      generalize u * (u % 30011 + 5) + (n + 1) = v
      have m1 := Int.emod_nonneg v (show (2147483563 : Int) ≠ 0 by omega)
      have m2 := Int.emod_lt_of_pos v (show (0 : Int) < 2147483563 by omega)
      refine ⟨mul64 m1 (by omega), by decide, h0, _, CLe.refl _, q _ _ (Int.emod_nonneg _ (by omega)) (Int.emod_lt_of_pos _ h0) (Up.mk ⟨ha, hb, hb', by omega, by omega⟩)⟩
def c_l_box (k : Nat) : Ctr := fun ds c Q _ => ∃ (l : List Int) (j : Int), ds = [.lst (l.map .int), .int j] ∧ 0 ≤ j ∧ j < 1000 ∧ ∀ p c', c p = none → Up p 0 c c' → Q (.ptr p) c'
def w_l_box (k : Nat) : WS := (sSeq (sSet 2 (wIf (wTst (wBin oLt (wVar 1) (wBi oLen (wCons (wVar 0) wNil)))) (wBin oIx (wVar 0) (wVar 1)) (wC (.int 0)))) (sRet (wLstL (wCons (wBin oMul (wBi oAbs (wCons (wVar 2) wNil)) (wBi oInt (wCons (wBin oGe (wBi oAbs (wCons (wVar 2) wNil)) (wBin oPow (wC (.int 10)) (wC (.int 18)))) wNil))) (wCons (wBin oMod (wBin oMul (wBin oAdd (wBin oAdd (wBin oMod (wVar 2) (wC (.int 2147483629))) (wBin oMul (wC (.int 15485863)) (wVar 1))) (wC (.int 43))) (wC (.int 48271))) (wC (.int 2147483647))) (wCons (wC (.int 0)) wNil))))))
theorem p_l_box (k : Nat) (ds : List D) (c : Cs) (Q : DK) (X0 : XK0) (hlen0 : ds.length = 2) (h : c_l_box k ds c Q X0) : w_l_box k (endOf Q) (excOf X0) (enOf 3 ds) c := by
  obtain ⟨l, j, rfl, h0, h1, q⟩ := h
  have fin : ∀ v : Int, MulOk (if v < 0 then -v else v) (if (1000000000000000000 : Int) ≤ (if v < 0 then -v else v) then 1 else 0) ∧ MulOk 15485863 j ∧ MulOk (v % 2147483629 + 15485863 * j + 43) 48271 ∧
      ∀ p, c p = none → ∃ c0, CLe c0 (cup c p (Cell.lst [D.int ((if v < 0 then -v else v) * if (1000000000000000000 : Int) ≤ (if v < 0 then -v else v) then 1 else 0), D.int ((v % 2147483629 + 15485863 * j + 43) * 48271 % 2147483647), D.int 0])) ∧ Q (D.ptr p) c0 := by
    intro v
    have hv : (0 : Int) ≤ if v < 0 then -v else v := by split <;> omega
    refine ⟨mul64' (by split <;> omega) (by split <;> omega), mul64 (by omega) (by omega), mul64' (by omega) (by omega), fun p hp => ⟨_, CLe.refl _, q p _ hp (Up.mk ⟨?_, ?_, ?_, by omega, by omega⟩)⟩⟩
    · exact Int.mul_nonneg hv (by split <;> omega)
    · exact Int.emod_nonneg _ (by omega)
    · have := Int.emod_lt_of_pos ((v % 2147483629 + 15485863 * j + 43) * 48271) (show (0 : Int) < 2147483647 by omega)
      omega
  simp only [w_l_box, sRaise, sTry, wIsX, wWhat, wBack, lo_lst, e_mulV, sizeL, sNil, sSeq, sPass, sBrk, sCont, sExpr, sRet, sRetN, sIf, sNever, sSet, sAug, gNm, gTp, gNil', gCons', gSb, sAsg, sPar, sFor, wVar_z, wVar_s, wC, wChn, wTru, sPar3, wRev, wCallK, permF, List.filterMap_cons, List.filterMap_nil, wBin, wUn, wTst, wNot, wAnd, wOr, wAndV, wOrV, wNotV, wIf, wNil, wCons, wTup, wLst, wLstL, wFz, wCall, wBi, wMt, wMt0, wSl, wSlL, wPart, wNoPart, wYes, wSeq, wRg1, wRg2, wEnum, wZip, wLc, wLcL, wLRg, wFld, sFldS, sFldA, gFld, wMeth, wMake, lvl2_s, onB, e_eqI, e_neI, e_eqB, e_neB, e_eqS, e_neS, e_eqN, e_tyLT, e_ty1, isTys, tyMem, tyN_non, tyN_bl, tyN_int, tyN_str, tyN_tup, tyN_lst, Bool.true_or, Bool.or_true, Bool.or_false, Bool.false_or, Bool.not_true, Bool.not_false, inn_non, inn_bl, inn_int, inn_str, inn_tup, inn_lst, inn_ptr, e_slT, e_slL, e_slN, isT_P, isT_L, isT_T, isT_N, e_sub, e_fdiv, e_mod, e_pow, e_lt, e_le, e_gt, e_ge, e_neg, e_add, e_addS, e_addT, e_addL, e_addPP, e_addPL, e_addLP, e_mul, e_mulL, e_mulT, e_augI, e_ixT, e_ixL, e_ixN, e_ixP, e_lenT, e_lenL, e_lenN, e_lenS, e_lenP, e_abs, e_intI, e_intB, e_max, e_min, e_tupL, e_tupT, e_listL, e_listT, e_listN, e_listLL, e_listLT, e_divmod, e_isNon, e_isntNon, e_isB, e_isntB, e_setIx, e_insert, e_append, e_isL, e_isLL, e_seqP, e_seqL, e_seqT, e_seqN, it_lst, it_fz, Option.bind_some, Option.isSome_some, ix10, ix20, ix21, ix30, ix32, dl1, dl2, dl3, List.eraseIdx_cons_zero, e_pop0, e_popAt, e_rev, e_clear, e_tupP, e_listP, e_neN, e_neIN, e_neNI, e_eqIN, e_eqNI, at0, at1, at2, at3, Cell.lst.injEq, Cell.obj.injEq, Option.some.injEq, exists_eq_left', decide_eq_true_eq, true_and, and_true, cup_same, cup_cup, List.flatten_nil, List.flatten_cons, enOf, endOf, excOf, List.map_cons, List.map_nil, List.length_cons, List.length_nil, List.replicate, Nat.reduceAdd, Nat.reduceSub, List.cons_append, List.nil_append, List.set_cons_zero, List.set_cons_succ, List.getElem?_cons_zero, List.getElem?_cons_succ, List.getElem_cons_zero, List.getElem_cons_succ, reduceCtorEq, if_true, if_false, Bool.false_eq_true, decide_true, decide_false, ne_eq, not_true, not_false_eq_true, Int.reduceEq, Nat.reduceMul, true_imp_iff, Int.reduceToNat, Int.reducePow, Nat.reducePow, Int.reduceLE, Int.reduceLT, Nat.reduceLT, and_self, Nat.reduceLeDiff, Int.reduceNeg, Int.reduceAdd, Int.reduceSub, Int.reduceMul, Int.cast_ofNat_Int]
  split
  · rename_i hj
    rw [List.length_map] at hj
    have e : atI (l.map D.int) j = some (.int (l[j.toNat]'(by omega))) := by
      rw [atI_of h0, List.getElem?_map, List.getElem?_eq_getElem (by omega)]
      rfl
    simp only [e, sRaise, sTry, wIsX, wWhat, wBack, lo_lst, e_mulV, sizeL, sNil, sSeq, sPass, sBrk, sCont, sExpr, sRet, sRetN, sIf, sNever, sSet, sAug, gNm, gTp, gNil', gCons', gSb, sAsg, sPar, sFor, wVar_z, wVar_s, wC, wChn, wTru, sPar3, wRev, wCallK, permF, List.filterMap_cons, List.filterMap_nil, wBin, wUn, wTst, wNot, wAnd, wOr, wAndV, wOrV, wNotV, wIf, wNil, wCons, wTup, wLst, wLstL, wFz, wCall, wBi, wMt, wMt0, wSl, wSlL, wPart, wNoPart, wYes, wSeq, wRg1, wRg2, wEnum, wZip, wLc, wLcL, wLRg, wFld, sFldS, sFldA, gFld, wMeth, wMake, lvl2_s, onB, e_eqI, e_neI, e_eqB, e_neB, e_eqS, e_neS, e_eqN, e_tyLT, e_ty1, isTys, tyMem, tyN_non, tyN_bl, tyN_int, tyN_str, tyN_tup, tyN_lst, Bool.true_or, Bool.or_true, Bool.or_false, Bool.false_or, Bool.not_true, Bool.not_false, inn_non, inn_bl, inn_int, inn_str, inn_tup, inn_lst, inn_ptr, e_slT, e_slL, e_slN, isT_P, isT_L, isT_T, isT_N, e_sub, e_fdiv, e_mod, e_pow, e_lt, e_le, e_gt, e_ge, e_neg, e_add, e_addS, e_addT, e_addL, e_addPP, e_addPL, e_addLP, e_mul, e_mulL, e_mulT, e_augI, e_ixT, e_ixL, e_ixN, e_ixP, e_lenT, e_lenL, e_lenN, e_lenS, e_lenP, e_abs, e_intI, e_intB, e_max, e_min, e_tupL, e_tupT, e_listL, e_listT, e_listN, e_listLL, e_listLT, e_divmod, e_isNon, e_isntNon, e_isB, e_isntB, e_setIx, e_insert, e_append, e_isL, e_isLL, e_seqP, e_seqL, e_seqT, e_seqN, it_lst, it_fz, Option.bind_some, Option.isSome_some, ix10, ix20, ix21, ix30, ix32, dl1, dl2, dl3, List.eraseIdx_cons_zero, e_pop0, e_popAt, e_rev, e_clear, e_tupP, e_listP, e_neN, e_neIN, e_neNI, e_eqIN, e_eqNI, at0, at1, at2, at3, Cell.lst.injEq, Cell.obj.injEq, Option.some.injEq, exists_eq_left', decide_eq_true_eq, true_and, and_true, cup_same, cup_cup, List.flatten_nil, List.flatten_cons, enOf, endOf, excOf, List.map_cons, List.map_nil, List.length_cons, List.length_nil, List.replicate, Nat.reduceAdd, Nat.reduceSub, List.cons_append, List.nil_append, List.set_cons_zero, List.set_cons_succ, List.getElem?_cons_zero, List.getElem?_cons_succ, List.getElem_cons_zero, List.getElem_cons_succ, reduceCtorEq, if_true, if_false, Bool.false_eq_true, decide_true, decide_false, ne_eq, not_true, not_false_eq_true, Int.reduceEq, Nat.reduceMul, true_imp_iff, Int.reduceToNat, Int.reducePow, Nat.reducePow, Int.reduceLE, Int.reduceLT, Nat.reduceLT, and_self, Nat.reduceLeDiff, Int.reduceNeg, Int.reduceAdd, Int.reduceSub, Int.reduceMul, Int.cast_ofNat_Int]
    exact fin _
  · simpa only [sRaise, sTry, wIsX, wWhat, wBack, lo_lst, e_mulV, sizeL, sNil, sSeq, sPass, sBrk, sCont, sExpr, sRet, sRetN, sIf, sNever, sSet, sAug, gNm, gTp, gNil', gCons', gSb, sAsg, sPar, sFor, wVar_z, wVar_s, wC, wChn, wTru, sPar3, wRev, wCallK, permF, List.filterMap_cons, List.filterMap_nil, wBin, wUn, wTst, wNot, wAnd, wOr, wAndV, wOrV, wNotV, wIf, wNil, wCons, wTup, wLst, wLstL, wFz, wCall, wBi, wMt, wMt0, wSl, wSlL, wPart, wNoPart, wYes, wSeq, wRg1, wRg2, wEnum, wZip, wLc, wLcL, wLRg, wFld, sFldS, sFldA, gFld, wMeth, wMake, lvl2_s, onB, e_eqI, e_neI, e_eqB, e_neB, e_eqS, e_neS, e_eqN, e_tyLT, e_ty1, isTys, tyMem, tyN_non, tyN_bl, tyN_int, tyN_str, tyN_tup, tyN_lst, Bool.true_or, Bool.or_true, Bool.or_false, Bool.false_or, Bool.not_true, Bool.not_false, inn_non, inn_bl, inn_int, inn_str, inn_tup, inn_lst, inn_ptr, e_slT, e_slL, e_slN, isT_P, isT_L, isT_T, isT_N, e_sub, e_fdiv, e_mod, e_pow, e_lt, e_le, e_gt, e_ge, e_neg, e_add, e_addS, e_addT, e_addL, e_addPP, e_addPL, e_addLP, e_mul, e_mulL, e_mulT, e_augI, e_ixT, e_ixL, e_ixN, e_ixP, e_lenT, e_lenL, e_lenN, e_lenS, e_lenP, e_abs, e_intI, e_intB, e_max, e_min, e_tupL, e_tupT, e_listL, e_listT, e_listN, e_listLL, e_listLT, e_divmod, e_isNon, e_isntNon, e_isB, e_isntB, e_setIx, e_insert, e_append, e_isL, e_isLL, e_seqP, e_seqL, e_seqT, e_seqN, it_lst, it_fz, Option.bind_some, Option.isSome_some, ix10, ix20, ix21, ix30, ix32, dl1, dl2, dl3, List.eraseIdx_cons_zero, e_pop0, e_popAt, e_rev, e_clear, e_tupP, e_listP, e_neN, e_neIN, e_neNI, e_eqIN, e_eqNI, at0, at1, at2, at3, Cell.lst.injEq, Cell.obj.injEq, Option.some.injEq, exists_eq_left', decide_eq_true_eq, true_and, and_true, cup_same, cup_cup, List.flatten_nil, List.flatten_cons, enOf, endOf, excOf, List.map_cons, List.map_nil, List.length_cons, List.length_nil, List.replicate, Nat.reduceAdd, Nat.reduceSub, List.cons_append, List.nil_append, List.set_cons_zero, List.set_cons_succ, List.getElem?_cons_zero, List.getElem?_cons_succ, List.getElem_cons_zero, List.getElem_cons_succ, reduceCtorEq, if_true, if_false, Bool.false_eq_true, decide_true, decide_false, ne_eq, not_true, not_false_eq_true, Int.reduceEq, Nat.reduceMul, true_imp_iff, Int.reduceToNat, Int.reducePow, Nat.reducePow, Int.reduceLE, Int.reduceLT, Nat.reduceLT, and_self, Nat.reduceLeDiff, Int.reduceNeg, Int.reduceAdd, Int.reduceSub, Int.reduceMul, Int.cast_ofNat_Int] using fin 0
def c_l_folded (k : Nat) : Ctr := fun ds c Q _ => ∃ (ns : List Int) (n : Int), ds = [.scr ns, .int n] ∧ ns.length ≤ 63 ∧ 0 < n ∧ n ≤ 63 ∧ ∀ ms : List Int, (ms.length : Int) ≤ n → Q (.lst (ms.map .int)) c
def w_l_folded (k : Nat) : WS := (sSeq (sSet 2 (wBi oListL (wCons (wSl (wVar 0) wNoPart (wPart (wVar 1))) wNil))) (sSeq (sFor (wEnum (wSl (wVar 0) (wPart (wVar 1)) (wPart (wC (.int 63))))) (.tup [(.nm 3), (.nm 4)]) (sAsg (wBin oAdd (wBin oIx (wVar 2) (wBin oMod (wVar 3) (wVar 1))) (wBin oMul (wVar 4) (wBin oAdd (wVar 3) (wC (.int 2))))) (gSb (wVar 2) (wBin oMod (wVar 3) (wVar 1))))) (sRet (wFz (wVar 2)))))
theorem p_l_folded (k : Nat) (ds : List D) (c : Cs) (Q : DK) (X0 : XK0) (hlen0 : ds.length = 2) (h : c_l_folded k ds c Q X0) : w_l_folded k (endOf Q) (excOf X0) (enOf 5 ds) c := by
  obtain ⟨ns, n, rfl, h63, h0, h1, q⟩ := h
  simp only [w_l_folded, sRaise, sTry, wIsX, wWhat, wBack, lo_lst, e_mulV, sizeL, sNil, sSeq, sPass, sBrk, sCont, sExpr, sRet, sRetN, sIf, sNever, sSet, sAug, gNm, gTp, gNil', gCons', gSb, sAsg, sPar, sFor, wVar_z, wVar_s, wC, wChn, wTru, sPar3, wRev, wCallK, permF, List.filterMap_cons, List.filterMap_nil, wBin, wUn, wTst, wNot, wAnd, wOr, wAndV, wOrV, wNotV, wIf, wNil, wCons, wTup, wLst, wLstL, wFz, wCall, wBi, wMt, wMt0, wSl, wSlL, wPart, wNoPart, wYes, wSeq, wRg1, wRg2, wEnum, wZip, wLc, wLcL, wLRg, wFld, sFldS, sFldA, gFld, wMeth, wMake, lvl2_s, onB, e_eqI, e_neI, e_eqB, e_neB, e_eqS, e_neS, e_eqN, e_tyLT, e_ty1, isTys, tyMem, tyN_non, tyN_bl, tyN_int, tyN_str, tyN_tup, tyN_lst, Bool.true_or, Bool.or_true, Bool.or_false, Bool.false_or, Bool.not_true, Bool.not_false, inn_non, inn_bl, inn_int, inn_str, inn_tup, inn_lst, inn_ptr, e_slT, e_slL, e_slN, isT_P, isT_L, isT_T, isT_N, e_sub, e_fdiv, e_mod, e_pow, e_lt, e_le, e_gt, e_ge, e_neg, e_add, e_addS, e_addT, e_addL, e_addPP, e_addPL, e_addLP, e_mul, e_mulL, e_mulT, e_augI, e_ixT, e_ixL, e_ixN, e_ixP, e_lenT, e_lenL, e_lenN, e_lenS, e_lenP, e_abs, e_intI, e_intB, e_max, e_min, e_tupL, e_tupT, e_listL, e_listT, e_listN, e_listLL, e_listLT, e_divmod, e_isNon, e_isntNon, e_isB, e_isntB, e_setIx, e_insert, e_append, e_isL, e_isLL, e_seqP, e_seqL, e_seqT, e_seqN, it_lst, it_fz, Option.bind_some, Option.isSome_some, ix10, ix20, ix21, ix30, ix32, dl1, dl2, dl3, List.eraseIdx_cons_zero, e_pop0, e_popAt, e_rev, e_clear, e_tupP, e_listP, e_neN, e_neIN, e_neNI, e_eqIN, e_eqNI, at0, at1, at2, at3, Cell.lst.injEq, Cell.obj.injEq, Option.some.injEq, exists_eq_left', decide_eq_true_eq, true_and, and_true, cup_same, cup_cup, List.flatten_nil, List.flatten_cons, enOf, endOf, excOf, List.map_cons, List.map_nil, List.length_cons, List.length_nil, List.replicate, Nat.reduceAdd, Nat.reduceSub, List.cons_append, List.nil_append, List.set_cons_zero, List.set_cons_succ, List.getElem?_cons_zero, List.getElem?_cons_succ, List.getElem_cons_zero, List.getElem_cons_succ, reduceCtorEq, if_true, if_false, Bool.false_eq_true, decide_true, decide_false, ne_eq, not_true, not_false_eq_true, Int.reduceEq, Nat.reduceMul, true_imp_iff, Int.reduceToNat, Int.reducePow, Nat.reducePow, Int.reduceLE, Int.reduceLT, Nat.reduceLT, and_self, Nat.reduceLeDiff, Int.reduceNeg, Int.reduceAdd, Int.reduceSub, Int.reduceMul, Int.cast_ofNat_Int]
  intro p hp _
  rw [cutL_to (by omega)]
  have hsz : ∀ i : Int, 0 ≤ i % n ∧ i % n < n := fun i => ⟨Int.emod_nonneg _ (by omega), Int.emod_lt_of_pos _ h0⟩
  refine loop_inv (fun i en c' => i ≤ 63 ∧ ∃ ms : List Int, ∃ o3 o4, en = [some (.scr ns), some (.int n), some (.ptr p), o3, o4] ∧ (ms.length : Int) ≤ n ∧ (i < ((cutL ns (some n) (some 63)).map D.int).length → (ms.length : Int) = n) ∧ c' = cup c p (.lst (ms.map .int)))
    ⟨by omega, ns.take n.toNat, _, _, rfl, by rw [List.length_take]; omega, ?_, rfl⟩ ?_ ?_
  · unfold cutL
    rw [List.length_map, List.length_take, List.length_drop, List.length_take]
    have : HT.sIx ns.length 0 (some n) = min n.toNat ns.length := by
      show (if n < 0 then (n + (ns.length : Int)).toNat else min n.toNat ns.length) = _
      rw [if_neg (by omega)]
    omega
  · rintro i en c' d hd ⟨hi, ms, o3, o4, rfl, h2, h3, rfl⟩
    obtain ⟨e, he, rfl⟩ := enD_get _ _ _ _ hd
    have hlt := (List.getElem?_eq_some_iff.mp he).1
    rw [List.getElem?_map] at he
    cases hv : (cutL ns (some n) (some 63))[i]? with
    | none => rw [hv] at he; cases he
    | some v =>
      rw [hv] at he
      cases he
      have hl := h3 hlt
      refine ⟨trivial, _, rfl, fun D1 h4 h5 h6 h7 => ?_⟩
      have hm := hsz ((0 + i : Nat) : Int)
      generalize hmm : ((0 + i : Nat) : Int) % n = m at hm
      have e : atI (ms.map D.int) m = some (.int (ms[m.toNat]'(by omega))) := by
        rw [atI_of hm.1, List.getElem?_map, List.getElem?_eq_getElem (by omega)]
        rfl
      have hcut : (cutL ns (some n) (some 63)).length ≤ 63 := by
        unfold cutL
        rw [List.length_take, List.length_drop]
        omega
      rw [List.length_map] at hlt
      simp only [sRaise, sTry, wIsX, wWhat, wBack, lo_lst, e_mulV, sizeL, sNil, sSeq, sPass, sBrk, sCont, sExpr, sRet, sRetN, sIf, sNever, sSet, sAug, gNm, gTp, gNil', gCons', gSb, sAsg, sPar, sFor, wVar_z, wVar_s, wC, wChn, wTru, sPar3, wRev, wCallK, permF, List.filterMap_cons, List.filterMap_nil, wBin, wUn, wTst, wNot, wAnd, wOr, wAndV, wOrV, wNotV, wIf, wNil, wCons, wTup, wLst, wLstL, wFz, wCall, wBi, wMt, wMt0, wSl, wSlL, wPart, wNoPart, wYes, wSeq, wRg1, wRg2, wEnum, wZip, wLc, wLcL, wLRg, wFld, sFldS, sFldA, gFld, wMeth, wMake, lvl2_s, onB, e_eqI, e_neI, e_eqB, e_neB, e_eqS, e_neS, e_eqN, e_tyLT, e_ty1, isTys, tyMem, tyN_non, tyN_bl, tyN_int, tyN_str, tyN_tup, tyN_lst, Bool.true_or, Bool.or_true, Bool.or_false, Bool.false_or, Bool.not_true, Bool.not_false, inn_non, inn_bl, inn_int, inn_str, inn_tup, inn_lst, inn_ptr, e_slT, e_slL, e_slN, isT_P, isT_L, isT_T, isT_N, e_sub, e_fdiv, e_mod, e_pow, e_lt, e_le, e_gt, e_ge, e_neg, e_add, e_addS, e_addT, e_addL, e_addPP, e_addPL, e_addLP, e_mul, e_mulL, e_mulT, e_augI, e_ixT, e_ixL, e_ixN, e_ixP, e_lenT, e_lenL, e_lenN, e_lenS, e_lenP, e_abs, e_intI, e_intB, e_max, e_min, e_tupL, e_tupT, e_listL, e_listT, e_listN, e_listLL, e_listLT, e_divmod, e_isNon, e_isntNon, e_isB, e_isntB, e_setIx, e_insert, e_append, e_isL, e_isLL, e_seqP, e_seqL, e_seqT, e_seqN, it_lst, it_fz, Option.bind_some, Option.isSome_some, ix10, ix20, ix21, ix30, ix32, dl1, dl2, dl3, List.eraseIdx_cons_zero, e_pop0, e_popAt, e_rev, e_clear, e_tupP, e_listP, e_neN, e_neIN, e_neNI, e_eqIN, e_eqNI, at0, at1, at2, at3, Cell.lst.injEq, Cell.obj.injEq, Option.some.injEq, exists_eq_left', decide_eq_true_eq, true_and, and_true, cup_same, cup_cup, List.flatten_nil, List.flatten_cons, enOf, endOf, excOf, List.map_cons, List.map_nil, List.length_cons, List.length_nil, List.replicate, Nat.reduceAdd, Nat.reduceSub, List.cons_append, List.nil_append, List.set_cons_zero, List.set_cons_succ, List.getElem?_cons_zero, List.getElem?_cons_succ, List.getElem_cons_zero, List.getElem_cons_succ, reduceCtorEq, if_true, if_false, Bool.false_eq_true, decide_true, decide_false, ne_eq, not_true, not_false_eq_true, Int.reduceEq, Nat.reduceMul, true_imp_iff, Int.reduceToNat, Int.reducePow, Nat.reducePow, Int.reduceLE, Int.reduceLT, Nat.reduceLT, and_self, Nat.reduceLeDiff, Int.reduceNeg, Int.reduceAdd, Int.reduceSub, Int.reduceMul, Int.cast_ofNat_Int, hmm, e]
      refine ⟨h0, mul64' (by omega) (by omega), h0, m.toNat, ixN_of hm.1 (by rw [List.length_map]; omega), ?_⟩
      refine h4 _ _ ⟨by omega, ms.set m.toNat (ms[m.toNat]'(by omega) + v * (((0 + i : Nat) : Int) + 2)), _, _, rfl, by rw [List.length_set]; omega, fun _ => by rw [List.length_set]; omega, ?_⟩
      rw [List.map_set]
  · rintro en c' ⟨_, ms, o3, o4, rfl, h2, _, rfl⟩
    refine ⟨trivial, ?_⟩
    simp only [sRaise, sTry, wIsX, wWhat, wBack, lo_lst, e_mulV, sizeL, sNil, sSeq, sPass, sBrk, sCont, sExpr, sRet, sRetN, sIf, sNever, sSet, sAug, gNm, gTp, gNil', gCons', gSb, sAsg, sPar, sFor, wVar_z, wVar_s, wC, wChn, wTru, sPar3, wRev, wCallK, permF, List.filterMap_cons, List.filterMap_nil, wBin, wUn, wTst, wNot, wAnd, wOr, wAndV, wOrV, wNotV, wIf, wNil, wCons, wTup, wLst, wLstL, wFz, wCall, wBi, wMt, wMt0, wSl, wSlL, wPart, wNoPart, wYes, wSeq, wRg1, wRg2, wEnum, wZip, wLc, wLcL, wLRg, wFld, sFldS, sFldA, gFld, wMeth, wMake, lvl2_s, onB, e_eqI, e_neI, e_eqB, e_neB, e_eqS, e_neS, e_eqN, e_tyLT, e_ty1, isTys, tyMem, tyN_non, tyN_bl, tyN_int, tyN_str, tyN_tup, tyN_lst, Bool.true_or, Bool.or_true, Bool.or_false, Bool.false_or, Bool.not_true, Bool.not_false, inn_non, inn_bl, inn_int, inn_str, inn_tup, inn_lst, inn_ptr, e_slT, e_slL, e_slN, isT_P, isT_L, isT_T, isT_N, e_sub, e_fdiv, e_mod, e_pow, e_lt, e_le, e_gt, e_ge, e_neg, e_add, e_addS, e_addT, e_addL, e_addPP, e_addPL, e_addLP, e_mul, e_mulL, e_mulT, e_augI, e_ixT, e_ixL, e_ixN, e_ixP, e_lenT, e_lenL, e_lenN, e_lenS, e_lenP, e_abs, e_intI, e_intB, e_max, e_min, e_tupL, e_tupT, e_listL, e_listT, e_listN, e_listLL, e_listLT, e_divmod, e_isNon, e_isntNon, e_isB, e_isntB, e_setIx, e_insert, e_append, e_isL, e_isLL, e_seqP, e_seqL, e_seqT, e_seqN, it_lst, it_fz, Option.bind_some, Option.isSome_some, ix10, ix20, ix21, ix30, ix32, dl1, dl2, dl3, List.eraseIdx_cons_zero, e_pop0, e_popAt, e_rev, e_clear, e_tupP, e_listP, e_neN, e_neIN, e_neNI, e_eqIN, e_eqNI, at0, at1, at2, at3, Cell.lst.injEq, Cell.obj.injEq, Option.some.injEq, exists_eq_left', decide_eq_true_eq, true_and, and_true, cup_same, cup_cup, List.flatten_nil, List.flatten_cons, enOf, endOf, excOf, List.map_cons, List.map_nil, List.length_cons, List.length_nil, List.replicate, Nat.reduceAdd, Nat.reduceSub, List.cons_append, List.nil_append, List.set_cons_zero, List.set_cons_succ, List.getElem?_cons_zero, List.getElem?_cons_succ, List.getElem_cons_zero, List.getElem_cons_succ, reduceCtorEq, if_true, if_false, Bool.false_eq_true, decide_true, decide_false, ne_eq, not_true, not_false_eq_true]
    exact ⟨c, CLe.cup_new hp, q ms h2⟩
theorem RdsE.zip {c : Cs} : ∀ {l m : List D}, RdsE c l m → ∀ d ∈ List.zipWith (fun x y => D.tup [x, y]) l m, ∃ x y, d = .tup [x, y] ∧ RdE c x y ∧ y ∈ m
  | _, _, .nil, _, h => by simp at h
  | _, _, .cons r h, d, hd => by
    rw [List.zipWith_cons_cons] at hd
    rcases List.mem_cons.mp hd with rfl | hd
    · exact ⟨_, _, rfl, r, List.mem_cons_self ..⟩
    · obtain ⟨x, y, e, h1, h2⟩ := RdsE.zip h d hd
      exact ⟨x, y, e, h1, List.mem_cons_of_mem _ h2⟩
def c_l_same (k : Nat) : Ctr := fun ds c Q _ => ∃ x y, ds = [x, y] ∧ RdE c x y ∧ dep y ≤ k ∧ Q (.bl true) c
theorem same_of {k : Nat} {x : D} {c : Cs} {Q : DK} {X0 : XK0} (h : pl x = true) (hd : dep x ≤ k) (q : Q (.bl true) c) : c_l_same k [x, x] c Q X0 := ⟨x, x, rfl, .self h, hd, q⟩
def w_l_same (k : Nat) : WS := (sSeq (sIf (wTst (wBi oIsi (wCons (wVar 1) (wCons (wTup (wCons (wC (.ty "list")) (wCons (wC (.ty "tuple")) wNil))) wNil)))) (sSeq (sIf (wOr (wTst (wBin oNe (wBi oIsi (wCons (wVar 0) (wCons (wC (.ty "list")) wNil))) (wBi oIsi (wCons (wVar 1) (wCons (wC (.ty "list")) wNil))))) (wTst (wBin oNe (wBi oIsi (wCons (wVar 0) (wCons (wC (.ty "tuple")) wNil))) (wBi oIsi (wCons (wVar 1) (wCons (wC (.ty "tuple")) wNil)))))) (sRet (wC (.bl false))) sNil) (sRet (wAndV (wBin oEq (wBi oLen (wCons (wVar 0) wNil)) (wBi oLen (wCons (wVar 1) wNil))) (wBi oAll (wCons (wLc (wZip (wVar 0) (wVar 1)) (.tup [(.nm 2), (.nm 3)]) wYes (wCall 2 c_l_same k (wCons (wVar 2) (wCons (wVar 3) wNil))) [2, 3]) wNil))))) sNil) (sSeq (sIf (wOr (wTst (wBin oIs (wVar 1) (wC .non))) (wTst (wBi oIsi (wCons (wVar 1) (wCons (wC (.ty "str")) wNil))))) (sRet (wAndV (wBin oEq (wVar 0) (wVar 1)) (wBin oEq (wBi oIsi (wCons (wVar 0) (wCons (wC (.ty "str")) wNil))) (wBi oIsi (wCons (wVar 1) (wCons (wC (.ty "str")) wNil)))))) sNil) (sRet (wAndV (wBi oIsi (wCons (wVar 0) (wCons (wC (.ty "int")) wNil))) (wAndV (wBin oEq (wBi oIsi (wCons (wVar 0) (wCons (wC (.ty "bool")) wNil))) (wBi oIsi (wCons (wVar 1) (wCons (wC (.ty "bool")) wNil)))) (wBin oEq (wVar 0) (wVar 1)))))))
theorem p_l_same (k : Nat) (ds : List D) (c : Cs) (Q : DK) (X0 : XK0) (hlen0 : ds.length = 2) (h : c_l_same k ds c Q X0) : w_l_same k (endOf Q) (excOf X0) (enOf 4 ds) c := by
  obtain ⟨x, y, rfl, hr, hd, q⟩ := h
  have rt : ∃ c0, CLe c0 c ∧ Q (.bl true) c0 := ⟨c, CLe.refl _, q⟩
  have seq : ∀ (chk : Cs → Prop) (x y : D) (l m : List D), chk c → RdsE c l m → deps m + 1 ≤ k → m.length ≤ sizeLine → 
      lcW chk (Tg.tup [Tg.nm 2, Tg.nm 3]) wYes (wCall 2 c_l_same k (wCons (wVar 2) (wCons (wVar 3) wNil))) [2, 3] [some x, some y, none, none]
      (fun acc c' => oAll [.lst acc] c' fun d c1 => ∃ c0, CLe c0 c1 ∧ Q d c0) (List.zipWith (fun x y => D.tup [x, y]) l m) [] c := by
    intro chk x y l m hchk hl hd hz
    refine lc_map (fun _ => .bl true) hchk (fun d hd' => ?_) ?_
    · obtain ⟨u, v, rfl, h1, h2⟩ := hl.zip d hd'
      refine ⟨_, rfl, fun Q q => ?_⟩
      simp only [sRaise, sTry, wIsX, wWhat, wBack, lo_lst, e_mulV, sizeL, sNil, sSeq, sPass, sBrk, sCont, sExpr, sRet, sRetN, sIf, sNever, sSet, sAug, gNm, gTp, gNil', gCons', gSb, sAsg, sPar, sFor, wVar_z, wVar_s, wC, wChn, wTru, sPar3, wRev, wCallK, permF, List.filterMap_cons, List.filterMap_nil, wBin, wUn, wTst, wNot, wAnd, wOr, wAndV, wOrV, wNotV, wIf, wNil, wCons, wTup, wLst, wLstL, wFz, wCall, wBi, wMt, wMt0, wSl, wSlL, wPart, wNoPart, wYes, wSeq, wRg1, wRg2, wEnum, wZip, wLc, wLcL, wLRg, wFld, sFldS, sFldA, gFld, wMeth, wMake, lvl2_s, onB, e_eqI, e_neI, e_eqB, e_neB, e_eqS, e_neS, e_eqN, e_tyLT, e_ty1, isTys, tyMem, tyN_non, tyN_bl, tyN_int, tyN_str, tyN_tup, tyN_lst, Bool.true_or, Bool.or_true, Bool.or_false, Bool.false_or, Bool.not_true, Bool.not_false, inn_non, inn_bl, inn_int, inn_str, inn_tup, inn_lst, inn_ptr, e_slT, e_slL, e_slN, isT_P, isT_L, isT_T, isT_N, e_sub, e_fdiv, e_mod, e_pow, e_lt, e_le, e_gt, e_ge, e_neg, e_add, e_addS, e_addT, e_addL, e_addPP, e_addPL, e_addLP, e_mul, e_mulL, e_mulT, e_augI, e_ixT, e_ixL, e_ixN, e_ixP, e_lenT, e_lenL, e_lenN, e_lenS, e_lenP, e_abs, e_intI, e_intB, e_max, e_min, e_tupL, e_tupT, e_listL, e_listT, e_listN, e_listLL, e_listLT, e_divmod, e_isNon, e_isntNon, e_isB, e_isntB, e_setIx, e_insert, e_append, e_isL, e_isLL, e_seqP, e_seqL, e_seqT, e_seqN, it_lst, it_fz, Option.bind_some, Option.isSome_some, ix10, ix20, ix21, ix30, ix32, dl1, dl2, dl3, List.eraseIdx_cons_zero, e_pop0, e_popAt, e_rev, e_clear, e_tupP, e_listP, e_neN, e_neIN, e_neNI, e_eqIN, e_eqNI, at0, at1, at2, at3, Cell.lst.injEq, Cell.obj.injEq, Option.some.injEq, exists_eq_left', decide_eq_true_eq, true_and, and_true, cup_same, cup_cup, List.flatten_nil, List.flatten_cons, enOf, endOf, excOf, List.map_cons, List.map_nil, List.length_cons, List.length_nil, List.replicate, Nat.reduceAdd, Nat.reduceSub, List.cons_append, List.nil_append, List.set_cons_zero, List.set_cons_succ, List.getElem?_cons_zero, List.getElem?_cons_succ, List.getElem_cons_zero, List.getElem_cons_succ, reduceCtorEq, if_true, if_false, Bool.false_eq_true, decide_true, decide_false, ne_eq, not_true, not_false_eq_true, Int.reduceEq, Nat.reduceMul, true_imp_iff, Int.reduceToNat, Int.reducePow, Nat.reducePow, Int.reduceLE, Int.reduceLT, Nat.reduceLT, and_self, Nat.reduceLeDiff, Int.reduceNeg, Int.reduceAdd, Int.reduceSub, Int.reduceMul, Int.cast_ofNat_Int, ewipe]
      cases k with
      | zero => omega
      | succ k => exact ⟨u, v, rfl, h1, deps_le.mp (show deps m ≤ k by omega) _ h2, q⟩
    · rw [show (List.zipWith (fun x y => D.tup [x, y]) l m).map (fun _ => D.bl true) = (List.replicate (List.zipWith (fun x y => D.tup [x, y]) l m).length true).map D.bl by rw [List.map_replicate]; exact List.map_const' .., e_all]
      simpa using rt
  cases hr with
  | non =>
    simp only [w_l_same, sRaise, sTry, wIsX, wWhat, wBack, lo_lst, e_mulV, sizeL, sNil, sSeq, sPass, sBrk, sCont, sExpr, sRet, sRetN, sIf, sNever, sSet, sAug, gNm, gTp, gNil', gCons', gSb, sAsg, sPar, sFor, wVar_z, wVar_s, wC, wChn, wTru, sPar3, wRev, wCallK, permF, List.filterMap_cons, List.filterMap_nil, wBin, wUn, wTst, wNot, wAnd, wOr, wAndV, wOrV, wNotV, wIf, wNil, wCons, wTup, wLst, wLstL, wFz, wCall, wBi, wMt, wMt0, wSl, wSlL, wPart, wNoPart, wYes, wSeq, wRg1, wRg2, wEnum, wZip, wLc, wLcL, wLRg, wFld, sFldS, sFldA, gFld, wMeth, wMake, lvl2_s, onB, e_eqI, e_neI, e_eqB, e_neB, e_eqS, e_neS, e_eqN, e_tyLT, e_ty1, isTys, tyMem, tyN_non, tyN_bl, tyN_int, tyN_str, tyN_tup, tyN_lst, Bool.true_or, Bool.or_true, Bool.or_false, Bool.false_or, Bool.not_true, Bool.not_false, inn_non, inn_bl, inn_int, inn_str, inn_tup, inn_lst, inn_ptr, e_slT, e_slL, e_slN, isT_P, isT_L, isT_T, isT_N, e_sub, e_fdiv, e_mod, e_pow, e_lt, e_le, e_gt, e_ge, e_neg, e_add, e_addS, e_addT, e_addL, e_addPP, e_addPL, e_addLP, e_mul, e_mulL, e_mulT, e_augI, e_ixT, e_ixL, e_ixN, e_ixP, e_lenT, e_lenL, e_lenN, e_lenS, e_lenP, e_abs, e_intI, e_intB, e_max, e_min, e_tupL, e_tupT, e_listL, e_listT, e_listN, e_listLL, e_listLT, e_divmod, e_isNon, e_isntNon, e_isB, e_isntB, e_setIx, e_insert, e_append, e_isL, e_isLL, e_seqP, e_seqL, e_seqT, e_seqN, it_lst, it_fz, Option.bind_some, Option.isSome_some, ix10, ix20, ix21, ix30, ix32, dl1, dl2, dl3, List.eraseIdx_cons_zero, e_pop0, e_popAt, e_rev, e_clear, e_tupP, e_listP, e_neN, e_neIN, e_neNI, e_eqIN, e_eqNI, at0, at1, at2, at3, Cell.lst.injEq, Cell.obj.injEq, Option.some.injEq, exists_eq_left', decide_eq_true_eq, true_and, and_true, cup_same, cup_cup, List.flatten_nil, List.flatten_cons, enOf, endOf, excOf, List.map_cons, List.map_nil, List.length_cons, List.length_nil, List.replicate, Nat.reduceAdd, Nat.reduceSub, List.cons_append, List.nil_append, List.set_cons_zero, List.set_cons_succ, List.getElem?_cons_zero, List.getElem?_cons_succ, List.getElem_cons_zero, List.getElem_cons_succ, reduceCtorEq, if_true, if_false, Bool.false_eq_true, decide_true, decide_false, ne_eq, not_true, not_false_eq_true, Int.reduceEq, Nat.reduceMul, true_imp_iff, Int.reduceToNat, Int.reducePow, Nat.reducePow, Int.reduceLE, Int.reduceLT, Nat.reduceLT, and_self, Nat.reduceLeDiff, Int.reduceNeg, Int.reduceAdd, Int.reduceSub, Int.reduceMul, Int.cast_ofNat_Int]
    exact rt
  | bl b =>
    simp only [w_l_same, sRaise, sTry, wIsX, wWhat, wBack, lo_lst, e_mulV, sizeL, sNil, sSeq, sPass, sBrk, sCont, sExpr, sRet, sRetN, sIf, sNever, sSet, sAug, gNm, gTp, gNil', gCons', gSb, sAsg, sPar, sFor, wVar_z, wVar_s, wC, wChn, wTru, sPar3, wRev, wCallK, permF, List.filterMap_cons, List.filterMap_nil, wBin, wUn, wTst, wNot, wAnd, wOr, wAndV, wOrV, wNotV, wIf, wNil, wCons, wTup, wLst, wLstL, wFz, wCall, wBi, wMt, wMt0, wSl, wSlL, wPart, wNoPart, wYes, wSeq, wRg1, wRg2, wEnum, wZip, wLc, wLcL, wLRg, wFld, sFldS, sFldA, gFld, wMeth, wMake, lvl2_s, onB, e_eqI, e_neI, e_eqB, e_neB, e_eqS, e_neS, e_eqN, e_tyLT, e_ty1, isTys, tyMem, tyN_non, tyN_bl, tyN_int, tyN_str, tyN_tup, tyN_lst, Bool.true_or, Bool.or_true, Bool.or_false, Bool.false_or, Bool.not_true, Bool.not_false, inn_non, inn_bl, inn_int, inn_str, inn_tup, inn_lst, inn_ptr, e_slT, e_slL, e_slN, isT_P, isT_L, isT_T, isT_N, e_sub, e_fdiv, e_mod, e_pow, e_lt, e_le, e_gt, e_ge, e_neg, e_add, e_addS, e_addT, e_addL, e_addPP, e_addPL, e_addLP, e_mul, e_mulL, e_mulT, e_augI, e_ixT, e_ixL, e_ixN, e_ixP, e_lenT, e_lenL, e_lenN, e_lenS, e_lenP, e_abs, e_intI, e_intB, e_max, e_min, e_tupL, e_tupT, e_listL, e_listT, e_listN, e_listLL, e_listLT, e_divmod, e_isNon, e_isntNon, e_isB, e_isntB, e_setIx, e_insert, e_append, e_isL, e_isLL, e_seqP, e_seqL, e_seqT, e_seqN, it_lst, it_fz, Option.bind_some, Option.isSome_some, ix10, ix20, ix21, ix30, ix32, dl1, dl2, dl3, List.eraseIdx_cons_zero, e_pop0, e_popAt, e_rev, e_clear, e_tupP, e_listP, e_neN, e_neIN, e_neNI, e_eqIN, e_eqNI, at0, at1, at2, at3, Cell.lst.injEq, Cell.obj.injEq, Option.some.injEq, exists_eq_left', decide_eq_true_eq, true_and, and_true, cup_same, cup_cup, List.flatten_nil, List.flatten_cons, enOf, endOf, excOf, List.map_cons, List.map_nil, List.length_cons, List.length_nil, List.replicate, Nat.reduceAdd, Nat.reduceSub, List.cons_append, List.nil_append, List.set_cons_zero, List.set_cons_succ, List.getElem?_cons_zero, List.getElem?_cons_succ, List.getElem_cons_zero, List.getElem_cons_succ, reduceCtorEq, if_true, if_false, Bool.false_eq_true, decide_true, decide_false, ne_eq, not_true, not_false_eq_true, Int.reduceEq, Nat.reduceMul, true_imp_iff, Int.reduceToNat, Int.reducePow, Nat.reducePow, Int.reduceLE, Int.reduceLT, Nat.reduceLT, and_self, Nat.reduceLeDiff, Int.reduceNeg, Int.reduceAdd, Int.reduceSub, Int.reduceMul, Int.cast_ofNat_Int]
    exact rt
  | int i =>
    simp only [w_l_same, sRaise, sTry, wIsX, wWhat, wBack, lo_lst, e_mulV, sizeL, sNil, sSeq, sPass, sBrk, sCont, sExpr, sRet, sRetN, sIf, sNever, sSet, sAug, gNm, gTp, gNil', gCons', gSb, sAsg, sPar, sFor, wVar_z, wVar_s, wC, wChn, wTru, sPar3, wRev, wCallK, permF, List.filterMap_cons, List.filterMap_nil, wBin, wUn, wTst, wNot, wAnd, wOr, wAndV, wOrV, wNotV, wIf, wNil, wCons, wTup, wLst, wLstL, wFz, wCall, wBi, wMt, wMt0, wSl, wSlL, wPart, wNoPart, wYes, wSeq, wRg1, wRg2, wEnum, wZip, wLc, wLcL, wLRg, wFld, sFldS, sFldA, gFld, wMeth, wMake, lvl2_s, onB, e_eqI, e_neI, e_eqB, e_neB, e_eqS, e_neS, e_eqN, e_tyLT, e_ty1, isTys, tyMem, tyN_non, tyN_bl, tyN_int, tyN_str, tyN_tup, tyN_lst, Bool.true_or, Bool.or_true, Bool.or_false, Bool.false_or, Bool.not_true, Bool.not_false, inn_non, inn_bl, inn_int, inn_str, inn_tup, inn_lst, inn_ptr, e_slT, e_slL, e_slN, isT_P, isT_L, isT_T, isT_N, e_sub, e_fdiv, e_mod, e_pow, e_lt, e_le, e_gt, e_ge, e_neg, e_add, e_addS, e_addT, e_addL, e_addPP, e_addPL, e_addLP, e_mul, e_mulL, e_mulT, e_augI, e_ixT, e_ixL, e_ixN, e_ixP, e_lenT, e_lenL, e_lenN, e_lenS, e_lenP, e_abs, e_intI, e_intB, e_max, e_min, e_tupL, e_tupT, e_listL, e_listT, e_listN, e_listLL, e_listLT, e_divmod, e_isNon, e_isntNon, e_isB, e_isntB, e_setIx, e_insert, e_append, e_isL, e_isLL, e_seqP, e_seqL, e_seqT, e_seqN, it_lst, it_fz, Option.bind_some, Option.isSome_some, ix10, ix20, ix21, ix30, ix32, dl1, dl2, dl3, List.eraseIdx_cons_zero, e_pop0, e_popAt, e_rev, e_clear, e_tupP, e_listP, e_neN, e_neIN, e_neNI, e_eqIN, e_eqNI, at0, at1, at2, at3, Cell.lst.injEq, Cell.obj.injEq, Option.some.injEq, exists_eq_left', decide_eq_true_eq, true_and, and_true, cup_same, cup_cup, List.flatten_nil, List.flatten_cons, enOf, endOf, excOf, List.map_cons, List.map_nil, List.length_cons, List.length_nil, List.replicate, Nat.reduceAdd, Nat.reduceSub, List.cons_append, List.nil_append, List.set_cons_zero, List.set_cons_succ, List.getElem?_cons_zero, List.getElem?_cons_succ, List.getElem_cons_zero, List.getElem_cons_succ, reduceCtorEq, if_true, if_false, Bool.false_eq_true, decide_true, decide_false, ne_eq, not_true, not_false_eq_true, Int.reduceEq, Nat.reduceMul, true_imp_iff, Int.reduceToNat, Int.reducePow, Nat.reducePow, Int.reduceLE, Int.reduceLT, Nat.reduceLT, and_self, Nat.reduceLeDiff, Int.reduceNeg, Int.reduceAdd, Int.reduceSub, Int.reduceMul, Int.cast_ofNat_Int]
    exact rt
  | str z =>
    simp only [w_l_same, sRaise, sTry, wIsX, wWhat, wBack, lo_lst, e_mulV, sizeL, sNil, sSeq, sPass, sBrk, sCont, sExpr, sRet, sRetN, sIf, sNever, sSet, sAug, gNm, gTp, gNil', gCons', gSb, sAsg, sPar, sFor, wVar_z, wVar_s, wC, wChn, wTru, sPar3, wRev, wCallK, permF, List.filterMap_cons, List.filterMap_nil, wBin, wUn, wTst, wNot, wAnd, wOr, wAndV, wOrV, wNotV, wIf, wNil, wCons, wTup, wLst, wLstL, wFz, wCall, wBi, wMt, wMt0, wSl, wSlL, wPart, wNoPart, wYes, wSeq, wRg1, wRg2, wEnum, wZip, wLc, wLcL, wLRg, wFld, sFldS, sFldA, gFld, wMeth, wMake, lvl2_s, onB, e_eqI, e_neI, e_eqB, e_neB, e_eqS, e_neS, e_eqN, e_tyLT, e_ty1, isTys, tyMem, tyN_non, tyN_bl, tyN_int, tyN_str, tyN_tup, tyN_lst, Bool.true_or, Bool.or_true, Bool.or_false, Bool.false_or, Bool.not_true, Bool.not_false, inn_non, inn_bl, inn_int, inn_str, inn_tup, inn_lst, inn_ptr, e_slT, e_slL, e_slN, isT_P, isT_L, isT_T, isT_N, e_sub, e_fdiv, e_mod, e_pow, e_lt, e_le, e_gt, e_ge, e_neg, e_add, e_addS, e_addT, e_addL, e_addPP, e_addPL, e_addLP, e_mul, e_mulL, e_mulT, e_augI, e_ixT, e_ixL, e_ixN, e_ixP, e_lenT, e_lenL, e_lenN, e_lenS, e_lenP, e_abs, e_intI, e_intB, e_max, e_min, e_tupL, e_tupT, e_listL, e_listT, e_listN, e_listLL, e_listLT, e_divmod, e_isNon, e_isntNon, e_isB, e_isntB, e_setIx, e_insert, e_append, e_isL, e_isLL, e_seqP, e_seqL, e_seqT, e_seqN, it_lst, it_fz, Option.bind_some, Option.isSome_some, ix10, ix20, ix21, ix30, ix32, dl1, dl2, dl3, List.eraseIdx_cons_zero, e_pop0, e_popAt, e_rev, e_clear, e_tupP, e_listP, e_neN, e_neIN, e_neNI, e_eqIN, e_eqNI, at0, at1, at2, at3, Cell.lst.injEq, Cell.obj.injEq, Option.some.injEq, exists_eq_left', decide_eq_true_eq, true_and, and_true, cup_same, cup_cup, List.flatten_nil, List.flatten_cons, enOf, endOf, excOf, List.map_cons, List.map_nil, List.length_cons, List.length_nil, List.replicate, Nat.reduceAdd, Nat.reduceSub, List.cons_append, List.nil_append, List.set_cons_zero, List.set_cons_succ, List.getElem?_cons_zero, List.getElem?_cons_succ, List.getElem_cons_zero, List.getElem_cons_succ, reduceCtorEq, if_true, if_false, Bool.false_eq_true, decide_true, decide_false, ne_eq, not_true, not_false_eq_true, Int.reduceEq, Nat.reduceMul, true_imp_iff, Int.reduceToNat, Int.reducePow, Nat.reducePow, Int.reduceLE, Int.reduceLT, Nat.reduceLT, and_self, Nat.reduceLeDiff, Int.reduceNeg, Int.reduceAdd, Int.reduceSub, Int.reduceMul, Int.cast_ofNat_Int]
    exact rt
  | tup hl =>
    have e := hl.len
    simp only [w_l_same, sRaise, sTry, wIsX, wWhat, wBack, lo_lst, e_mulV, sizeL, sNil, sSeq, sPass, sBrk, sCont, sExpr, sRet, sRetN, sIf, sNever, sSet, sAug, gNm, gTp, gNil', gCons', gSb, sAsg, sPar, sFor, wVar_z, wVar_s, wC, wChn, wTru, sPar3, wRev, wCallK, permF, List.filterMap_cons, List.filterMap_nil, wBin, wUn, wTst, wNot, wAnd, wOr, wAndV, wOrV, wNotV, wIf, wNil, wCons, wTup, wLst, wLstL, wFz, wCall, wBi, wMt, wMt0, wSl, wSlL, wPart, wNoPart, wYes, wSeq, wRg1, wRg2, wEnum, wZip, wLc, wLcL, wLRg, wFld, sFldS, sFldA, gFld, wMeth, wMake, lvl2_s, onB, e_eqI, e_neI, e_eqB, e_neB, e_eqS, e_neS, e_eqN, e_tyLT, e_ty1, isTys, tyMem, tyN_non, tyN_bl, tyN_int, tyN_str, tyN_tup, tyN_lst, Bool.true_or, Bool.or_true, Bool.or_false, Bool.false_or, Bool.not_true, Bool.not_false, inn_non, inn_bl, inn_int, inn_str, inn_tup, inn_lst, inn_ptr, e_slT, e_slL, e_slN, isT_P, isT_L, isT_T, isT_N, e_sub, e_fdiv, e_mod, e_pow, e_lt, e_le, e_gt, e_ge, e_neg, e_add, e_addS, e_addT, e_addL, e_addPP, e_addPL, e_addLP, e_mul, e_mulL, e_mulT, e_augI, e_ixT, e_ixL, e_ixN, e_ixP, e_lenT, e_lenL, e_lenN, e_lenS, e_lenP, e_abs, e_intI, e_intB, e_max, e_min, e_tupL, e_tupT, e_listL, e_listT, e_listN, e_listLL, e_listLT, e_divmod, e_isNon, e_isntNon, e_isB, e_isntB, e_setIx, e_insert, e_append, e_isL, e_isLL, e_seqP, e_seqL, e_seqT, e_seqN, it_lst, it_fz, Option.bind_some, Option.isSome_some, ix10, ix20, ix21, ix30, ix32, dl1, dl2, dl3, List.eraseIdx_cons_zero, e_pop0, e_popAt, e_rev, e_clear, e_tupP, e_listP, e_neN, e_neIN, e_neNI, e_eqIN, e_eqNI, at0, at1, at2, at3, Cell.lst.injEq, Cell.obj.injEq, Option.some.injEq, exists_eq_left', decide_eq_true_eq, true_and, and_true, cup_same, cup_cup, List.flatten_nil, List.flatten_cons, enOf, endOf, excOf, List.map_cons, List.map_nil, List.length_cons, List.length_nil, List.replicate, Nat.reduceAdd, Nat.reduceSub, List.cons_append, List.nil_append, List.set_cons_zero, List.set_cons_succ, List.getElem?_cons_zero, List.getElem?_cons_succ, List.getElem_cons_zero, List.getElem_cons_succ, reduceCtorEq, if_true, if_false, Bool.false_eq_true, decide_true, decide_false, ne_eq, not_true, not_false_eq_true, Int.reduceEq, Nat.reduceMul, true_imp_iff, Int.reduceToNat, Int.reducePow, Nat.reducePow, Int.reduceLE, Int.reduceLT, Nat.reduceLT, and_self, Nat.reduceLeDiff, Int.reduceNeg, Int.reduceAdd, Int.reduceSub, Int.reduceMul, Int.cast_ofNat_Int, e]
    exact fun _ hz => ⟨by rw [List.length_zipWith]; omega, seq _ _ _ _ _ trivial hl (by simpa [dep] using hd) hz⟩
  | lst hl =>
    have e := hl.len
    simp only [w_l_same, sRaise, sTry, wIsX, wWhat, wBack, lo_lst, e_mulV, sizeL, sNil, sSeq, sPass, sBrk, sCont, sExpr, sRet, sRetN, sIf, sNever, sSet, sAug, gNm, gTp, gNil', gCons', gSb, sAsg, sPar, sFor, wVar_z, wVar_s, wC, wChn, wTru, sPar3, wRev, wCallK, permF, List.filterMap_cons, List.filterMap_nil, wBin, wUn, wTst, wNot, wAnd, wOr, wAndV, wOrV, wNotV, wIf, wNil, wCons, wTup, wLst, wLstL, wFz, wCall, wBi, wMt, wMt0, wSl, wSlL, wPart, wNoPart, wYes, wSeq, wRg1, wRg2, wEnum, wZip, wLc, wLcL, wLRg, wFld, sFldS, sFldA, gFld, wMeth, wMake, lvl2_s, onB, e_eqI, e_neI, e_eqB, e_neB, e_eqS, e_neS, e_eqN, e_tyLT, e_ty1, isTys, tyMem, tyN_non, tyN_bl, tyN_int, tyN_str, tyN_tup, tyN_lst, Bool.true_or, Bool.or_true, Bool.or_false, Bool.false_or, Bool.not_true, Bool.not_false, inn_non, inn_bl, inn_int, inn_str, inn_tup, inn_lst, inn_ptr, e_slT, e_slL, e_slN, isT_P, isT_L, isT_T, isT_N, e_sub, e_fdiv, e_mod, e_pow, e_lt, e_le, e_gt, e_ge, e_neg, e_add, e_addS, e_addT, e_addL, e_addPP, e_addPL, e_addLP, e_mul, e_mulL, e_mulT, e_augI, e_ixT, e_ixL, e_ixN, e_ixP, e_lenT, e_lenL, e_lenN, e_lenS, e_lenP, e_abs, e_intI, e_intB, e_max, e_min, e_tupL, e_tupT, e_listL, e_listT, e_listN, e_listLL, e_listLT, e_divmod, e_isNon, e_isntNon, e_isB, e_isntB, e_setIx, e_insert, e_append, e_isL, e_isLL, e_seqP, e_seqL, e_seqT, e_seqN, it_lst, it_fz, Option.bind_some, Option.isSome_some, ix10, ix20, ix21, ix30, ix32, dl1, dl2, dl3, List.eraseIdx_cons_zero, e_pop0, e_popAt, e_rev, e_clear, e_tupP, e_listP, e_neN, e_neIN, e_neNI, e_eqIN, e_eqNI, at0, at1, at2, at3, Cell.lst.injEq, Cell.obj.injEq, Option.some.injEq, exists_eq_left', decide_eq_true_eq, true_and, and_true, cup_same, cup_cup, List.flatten_nil, List.flatten_cons, enOf, endOf, excOf, List.map_cons, List.map_nil, List.length_cons, List.length_nil, List.replicate, Nat.reduceAdd, Nat.reduceSub, List.cons_append, List.nil_append, List.set_cons_zero, List.set_cons_succ, List.getElem?_cons_zero, List.getElem?_cons_succ, List.getElem_cons_zero, List.getElem_cons_succ, reduceCtorEq, if_true, if_false, Bool.false_eq_true, decide_true, decide_false, ne_eq, not_true, not_false_eq_true, Int.reduceEq, Nat.reduceMul, true_imp_iff, Int.reduceToNat, Int.reducePow, Nat.reducePow, Int.reduceLE, Int.reduceLT, Nat.reduceLT, and_self, Nat.reduceLeDiff, Int.reduceNeg, Int.reduceAdd, Int.reduceSub, Int.reduceMul, Int.cast_ofNat_Int, e]
    exact fun _ hz => ⟨by rw [List.length_zipWith]; omega, seq _ _ _ _ _ trivial hl (by simpa [dep] using hd) hz⟩
  | ptr hp hl =>
    have e := hl.len
    have ht := tyN_ptr hp
    simp only [w_l_same, sRaise, sTry, wIsX, wWhat, wBack, lo_lst, e_mulV, sizeL, sNil, sSeq, sPass, sBrk, sCont, sExpr, sRet, sRetN, sIf, sNever, sSet, sAug, gNm, gTp, gNil', gCons', gSb, sAsg, sPar, sFor, wVar_z, wVar_s, wC, wChn, wTru, sPar3, wRev, wCallK, permF, List.filterMap_cons, List.filterMap_nil, wBin, wUn, wTst, wNot, wAnd, wOr, wAndV, wOrV, wNotV, wIf, wNil, wCons, wTup, wLst, wLstL, wFz, wCall, wBi, wMt, wMt0, wSl, wSlL, wPart, wNoPart, wYes, wSeq, wRg1, wRg2, wEnum, wZip, wLc, wLcL, wLRg, wFld, sFldS, sFldA, gFld, wMeth, wMake, lvl2_s, onB, e_eqI, e_neI, e_eqB, e_neB, e_eqS, e_neS, e_eqN, e_tyLT, e_ty1, isTys, tyMem, tyN_non, tyN_bl, tyN_int, tyN_str, tyN_tup, tyN_lst, Bool.true_or, Bool.or_true, Bool.or_false, Bool.false_or, Bool.not_true, Bool.not_false, inn_non, inn_bl, inn_int, inn_str, inn_tup, inn_lst, inn_ptr, e_slT, e_slL, e_slN, isT_P, isT_L, isT_T, isT_N, e_sub, e_fdiv, e_mod, e_pow, e_lt, e_le, e_gt, e_ge, e_neg, e_add, e_addS, e_addT, e_addL, e_addPP, e_addPL, e_addLP, e_mul, e_mulL, e_mulT, e_augI, e_ixT, e_ixL, e_ixN, e_ixP, e_lenT, e_lenL, e_lenN, e_lenS, e_lenP, e_abs, e_intI, e_intB, e_max, e_min, e_tupL, e_tupT, e_listL, e_listT, e_listN, e_listLL, e_listLT, e_divmod, e_isNon, e_isntNon, e_isB, e_isntB, e_setIx, e_insert, e_append, e_isL, e_isLL, e_seqP, e_seqL, e_seqT, e_seqN, it_lst, it_fz, Option.bind_some, Option.isSome_some, ix10, ix20, ix21, ix30, ix32, dl1, dl2, dl3, List.eraseIdx_cons_zero, e_pop0, e_popAt, e_rev, e_clear, e_tupP, e_listP, e_neN, e_neIN, e_neNI, e_eqIN, e_eqNI, at0, at1, at2, at3, Cell.lst.injEq, Cell.obj.injEq, Option.some.injEq, exists_eq_left', decide_eq_true_eq, true_and, and_true, cup_same, cup_cup, List.flatten_nil, List.flatten_cons, enOf, endOf, excOf, List.map_cons, List.map_nil, List.length_cons, List.length_nil, List.replicate, Nat.reduceAdd, Nat.reduceSub, List.cons_append, List.nil_append, List.set_cons_zero, List.set_cons_succ, List.getElem?_cons_zero, List.getElem?_cons_succ, List.getElem_cons_zero, List.getElem_cons_succ, reduceCtorEq, if_true, if_false, Bool.false_eq_true, decide_true, decide_false, ne_eq, not_true, not_false_eq_true, Int.reduceEq, Nat.reduceMul, true_imp_iff, Int.reduceToNat, Int.reducePow, Nat.reducePow, Int.reduceLE, Int.reduceLT, Nat.reduceLT, and_self, Nat.reduceLeDiff, Int.reduceNeg, Int.reduceAdd, Int.reduceSub, Int.reduceMul, Int.cast_ofNat_Int, ht, hp, e]
    exact fun _ hz => ⟨by rw [List.length_zipWith]; omega, seq _ _ _ _ _ hp hl (by simpa [dep] using hd) hz⟩
theorem e_allT {acc : List D} {c : Cs} {Q : DK} (h : ∀ y ∈ acc, y = .bl true) (q : Q (.bl true) c) : oAll [.lst acc] c Q := by
  have e : acc = (List.replicate acc.length true).map D.bl := by
    rw [List.map_replicate]
    exact List.eq_replicate_iff.mpr ⟨rfl, h⟩
  rw [e, e_all]
  simpa using q
end VL
set_option maxHeartbeats 1000000
namespace VL
open PySem PySem.Spec PyProof.Rows L2
/-- a row: made by place, made by name, the value -/
def row45 (c : Cs) (s : Str × EB × D) (t : D) : Prop := ∃ p q, t = .tup [.ptr p, .ptr q, s.2.2] ∧ c p = some (.exc s.1 s.2.1 s.2.2) ∧ c q = some (.exc s.1 s.2.1 s.2.2)
def rows45 (c : Cs) : List (Str × EB × D) → List D → Prop
  | [], [] => True
  | s :: ss, t :: ts => row45 c s t ∧ rows45 c ss ts
  | _, _ => False
theorem row45.le {c c' : Cs} {s : Str × EB × D} {t : D} (h : row45 c s t) (l : CLe c c') : row45 c' s t := by
  obtain ⟨p, q, e, a, b⟩ := h
  exact ⟨p, q, e, l _ _ a, l _ _ b⟩
theorem row45.set {c : Cs} {s : Str × EB × D} {t : D} {p : Addr} {l m : List D} (h : row45 c s t) (hp : c p = some (.lst l)) : row45 (cup c p (.lst m)) s t := by
  obtain ⟨a, b, e, ha, hb⟩ := h
  refine ⟨a, b, e, ?_, ?_⟩
  · rw [cup_ne fun z => by rw [z, hp] at ha; cases ha]; exact ha
  · rw [cup_ne fun z => by rw [z, hp] at hb; cases hb]; exact hb
theorem rows45.le {c c' : Cs} (l : CLe c c') : ∀ {ss : List (Str × EB × D)} {ts : List D}, rows45 c ss ts → rows45 c' ss ts
  | [], [], _ => trivial
  | s :: ss, t :: ts, h => ⟨h.1.le l, rows45.le l h.2⟩
  | [], _ :: _, h => h.elim
  | _ :: _, [], h => h.elim
theorem rows45.set {c : Cs} {p : Addr} {l m : List D} (hp : c p = some (.lst l)) : ∀ {ss : List (Str × EB × D)} {ts : List D}, rows45 c ss ts → rows45 (cup c p (.lst m)) ss ts
  | [], [], _ => trivial
  | s :: ss, t :: ts, h => ⟨h.1.set hp, rows45.set hp h.2⟩
  | [], _ :: _, h => h.elim
  | _ :: _, [], h => h.elim
theorem rows45.len {c : Cs} : ∀ {ss : List (Str × EB × D)} {ts : List D}, rows45 c ss ts → ts.length = ss.length
  | [], [], _ => rfl
  | s :: ss, t :: ts, h => by rw [List.length_cons, List.length_cons, rows45.len h.2]
  | [], _ :: _, h => h.elim
  | _ :: _, [], h => h.elim
theorem rows45.app {c : Cs} : ∀ {ss ss' : List (Str × EB × D)} {ts ts' : List D}, rows45 c ss ts → rows45 c ss' ts' → rows45 c (ss ++ ss') (ts ++ ts')
  | [], _, [], _, _, k => k
  | s :: ss, _, t :: ts, _, h, k => ⟨h.1, rows45.app h.2 k⟩
  | [], _, _ :: _, _, h, _ => h.elim
  | _ :: _, _, [], _, h, _ => h.elim
/-- a pair and its value, made -/
def wTrip (n : Str) (b : EB) (k : Nat) (we : WE) : WE := wTup (wCons (wMkX n b k (wCons we wNil)) (wCons (wMkX n b k (wCons we wNil)) (wCons we wNil)))
theorem trip_eq {n : Str} {b : EB} {k : Nat} {we : WE} : wTup (wCons (wMkX n b k (wCons we wNil)) (wCons (wMkX n b k (wCons we wNil)) (wCons we wNil))) = wTrip n b k we := rfl
theorem trip45 {n : Str} {b : EB} {k : Nat} {we : WE} {v : D} {en : En} {c : Cs} {Q : DK} {X : XD} (hk : 2 ≤ k) (he : ∀ c (Q : DK) X, Q v c → we en c Q X) (q : ∀ t c', CLe c c' → row45 c' (n, b, v) t → Q t c') :
    wTrip n b k we en c Q X := by
  refine ⟨hk, he _ _ _ ⟨v, rfl, fun p hp => ⟨hk, he _ _ _ ⟨v, rfl, fun r hr => he _ _ _ ⟨by rw [sizeL]; simp, q _ _ ?_ ⟨p, r, rfl, ?_, cup_same⟩⟩⟩⟩⟩⟩
  · exact (CLe.cup_new hp).trans (CLe.cup_new hr)
  · have : p ≠ r := fun z => by rw [← z, cup_same] at hr; cases hr
    show cup (cup c p _) r _ p = _
    rw [cup_ne this, cup_same]
theorem var45 {i : Nat} {en : En} {v : D} (e : en[i]? = some (some v)) : ∀ c (Q : DK) (X : XD), Q v c → wVar i en c Q X := fun c Q X q => by
  unfold wVar; rw [e]; exact q
theorem app45 {c : Cs} {p : Addr} {ss : List (Str × EB × D)} {l : List D} {s : Str × EB × D} {t : D} (hp : c p = some (.lst l)) (R : rows45 c ss l) (r : row45 c s t) : rows45 (cup c p (.lst (l ++ [t]))) (ss ++ [s]) (l ++ [t]) :=
  (R.set hp).app ⟨r.set hp, trivial⟩
theorem one45 {c : Cs} {s : Str × EB × D} {t : D} (r : row45 c s t) : rows45 c [s] [t] := ⟨r, trivial⟩
def vals45 (n : Int) : List (Str × EB × D) :=
  [("BadRow", .v, .int n), ("NotRising", .v, .int n), ("NoWorld", .v, .int n), ("Uneven", .v, .tup [.int n, .int (n - 1)]), ("Unlike", .v, .tup [.int n, .str "cart"]), ("BadGranary", .v, .tup [.int n, .int (n - 1)])]
def looks45 (n : Int) : List (Str × EB × D) :=
  [("NoCart", .l, .int n), ("NoGranary", .l, .int n), ("NoBearer", .l, .tup [.int n, .str "low"]), ("NoPlace", .l, .str "low"), ("NoCast", .l, .int n), ("NoLoad", .l, .int n), ("NoWish", .l, .int n), ("NoDeed", .l, .int n)]
def c_l_vals45 (k : Nat) : Ctr := fun ds c Q _ => ∃ n, ds = [.int n] ∧ 2 ≤ k ∧ ∀ l c', rows45 c' (vals45 n) l → CLe c c' → Q (.lst l) c'
def w_l_vals45 (k : Nat) : WS := (sSeq (sSet 1 (wLstL (wCons (wTup (wCons (wMkX "BadRow" EB.v k (wCons (wVar 0) wNil)) (wCons (wMkX "BadRow" EB.v k (wCons (wVar 0) wNil)) (wCons (wVar 0) wNil)))) (wCons (wTup (wCons (wMkX "NotRising" EB.v k (wCons (wVar 0) wNil)) (wCons (wMkX "NotRising" EB.v k (wCons (wVar 0) wNil)) (wCons (wVar 0) wNil)))) wNil)))) (sSeq (sExpr (wMt oAppend (wVar 1) (wCons (wTup (wCons (wMkX "NoWorld" EB.v k (wCons (wVar 0) wNil)) (wCons (wMkX "NoWorld" EB.v k (wCons (wVar 0) wNil)) (wCons (wVar 0) wNil)))) wNil))) (sSeq (sPar 2 3 (wCons (wTup (wCons (wVar 0) (wCons (wBin oSub (wVar 0) (wC (.int 1))) wNil))) (wCons (wTup (wCons (wVar 0) (wCons (wC (.str "cart")) wNil))) wNil))) (sSeq (sExpr (wMt oAppend (wVar 1) (wCons (wTup (wCons (wMkX "Uneven" EB.v k (wCons (wVar 2) wNil)) (wCons (wMkX "Uneven" EB.v k (wCons (wVar 2) wNil)) (wCons (wVar 2) wNil)))) wNil))) (sSeq (sExpr (wMt oAppend (wVar 1) (wCons (wTup (wCons (wMkX "Unlike" EB.v k (wCons (wVar 3) wNil)) (wCons (wMkX "Unlike" EB.v k (wCons (wVar 3) wNil)) (wCons (wVar 3) wNil)))) wNil))) (sRet (wBin oAdd (wVar 1) (wLst (wCons (wTup (wCons (wMkX "BadGranary" EB.v k (wCons (wVar 2) wNil)) (wCons (wMkX "BadGranary" EB.v k (wCons (wVar 2) wNil)) (wCons (wVar 2) wNil)))) wNil)))))))))
theorem p_l_vals45 (k : Nat) (ds : List D) (c : Cs) (Q : DK) (X0 : XK0) (hlen0 : ds.length = 1) (h : c_l_vals45 k ds c Q X0) : w_l_vals45 k (endOf Q) (excOf X0) (enOf 4 ds) c := by
  obtain ⟨n, rfl, hk, q⟩ := h
  simp only [w_l_vals45, trip_eq]
  try simp only [sRaise, sTry, wIsX, wWhat, wBack, lo_lst, e_mulV, sizeL, sNil, sSeq, sPass, sBrk, sCont, sExpr, sRet, sRetN, sIf, sNever, sSet, sAug, gNm, gTp, gNil', gCons', gSb, sAsg, sPar, sFor, wVar_z, wVar_s, wC, wChn, wTru, sPar3, wRev, wCallK, permF, List.filterMap_cons, List.filterMap_nil, wBin, wUn, wTst, wNot, wAnd, wOr, wAndV, wOrV, wNotV, wIf, wNil, wCons, wTup, wLst, wLstL, wFz, wCall, wBi, wMt, wMt0, wSl, wSlL, wPart, wNoPart, wYes, wSeq, wRg1, wRg2, wEnum, wZip, wLc, wLcL, wLRg, wFld, sFldS, sFldA, gFld, wMeth, wMake, lvl2_s, onB, e_eqI, e_neI, e_eqB, e_neB, e_eqS, e_neS, e_eqN, e_tyLT, e_ty1, isTys, tyMem, tyN_non, tyN_bl, tyN_int, tyN_str, tyN_tup, tyN_lst, Bool.true_or, Bool.or_true, Bool.or_false, Bool.false_or, Bool.not_true, Bool.not_false, inn_non, inn_bl, inn_int, inn_str, inn_tup, inn_lst, inn_ptr, e_slT, e_slL, e_slN, isT_P, isT_L, isT_T, isT_N, e_sub, e_fdiv, e_mod, e_pow, e_lt, e_le, e_gt, e_ge, e_neg, e_add, e_addS, e_addT, e_addL, e_addPP, e_addPL, e_addLP, e_mul, e_mulL, e_mulT, e_augI, e_ixT, e_ixL, e_ixN, e_ixP, e_lenT, e_lenL, e_lenN, e_lenS, e_lenP, e_abs, e_intI, e_intB, e_max, e_min, e_tupL, e_tupT, e_listL, e_listT, e_listN, e_listLL, e_listLT, e_divmod, e_isNon, e_isntNon, e_isB, e_isntB, e_setIx, e_insert, e_append, e_isL, e_isLL, e_seqP, e_seqL, e_seqT, e_seqN, it_lst, it_fz, Option.bind_some, Option.isSome_some, ix10, ix20, ix21, ix30, ix32, dl1, dl2, dl3, List.eraseIdx_cons_zero, e_pop0, e_popAt, e_rev, e_clear, e_tupP, e_listP, e_neN, e_neIN, e_neNI, e_eqIN, e_eqNI, at0, at1, at2, at3, Cell.lst.injEq, Cell.obj.injEq, Option.some.injEq, exists_eq_left', decide_eq_true_eq, true_and, and_true, cup_same, cup_cup, List.flatten_nil, List.flatten_cons, enOf, endOf, excOf, List.map_cons, List.map_nil, List.length_cons, List.length_nil, List.replicate, Nat.reduceAdd, Nat.reduceSub, List.cons_append, List.nil_append, List.set_cons_zero, List.set_cons_succ, List.getElem?_cons_zero, List.getElem?_cons_succ, List.getElem_cons_zero, List.getElem_cons_succ, reduceCtorEq, if_true, if_false, Bool.false_eq_true, decide_true, decide_false, ne_eq, not_true, not_false_eq_true, Int.reduceEq, Nat.reduceMul, true_imp_iff, Int.reduceToNat, Int.reducePow, Nat.reducePow, Int.reduceLE, Int.reduceLT, Nat.reduceLT, and_self, Nat.reduceLeDiff, Int.reduceNeg, Int.reduceAdd, Int.reduceSub, Int.reduceMul, Int.cast_ofNat_Int, lvl_s]
  refine trip45 hk (var45 rfl) fun t1 c1 l1 r1 => ?_
  refine trip45 hk (var45 rfl) fun t2 c2 l2 r2 => ?_
  intro p hp
  have R : rows45 c2 [("BadRow", .v, .int n), ("NotRising", .v, .int n)] [t1, t2] := ⟨r1.le l2, r2, trivial⟩
  have R := R.le (CLe.cup_new (x := .lst [t1, t2]) hp)
  have L := CLe.new (x := .lst [t1, t2]) hp (CLe.refl c2)
  have L : CLe c (cup c2 p (.lst [t1, t2])) := (l1.trans l2).trans L
  have hp0 : c p = none := by
    cases e : c p with
    | none => rfl
    | some x => have := (l1.trans l2) _ _ e; rw [hp] at this; cases this
  refine trip45 hk (var45 rfl) fun t3 c3 l3 r3 => ?_
  have H := l3 _ _ (cup_same (c := c2) (a := p) (x := .lst [t1, t2]))
  refine ⟨_, H, by simp, ?_⟩
  have R := app45 H (R.le l3) r3
  have L := CLe.new (x := .lst ([t1, t2] ++ [t3])) hp0 (L.trans l3)
  refine trip45 hk (var45 rfl) fun t4 c4 l4 r4 => ?_
  have H := l4 _ _ cup_same
  refine ⟨_, H, by simp, ?_⟩
  have R := app45 H (R.le l4) r4
  have L := CLe.new (x := .lst ([t1, t2] ++ [t3] ++ [t4])) hp0 (L.trans l4)
  refine trip45 hk (var45 rfl) fun t5 c5 l5 r5 => ?_
  have H := l5 _ _ cup_same
  refine ⟨_, H, by simp, ?_⟩
  have R := app45 H (R.le l5) r5
  have L := CLe.new (x := .lst ([t1, t2] ++ [t3] ++ [t4] ++ [t5])) hp0 (L.trans l5)
  refine trip45 hk (var45 rfl) fun t6 c6 l6 r6 => ?_
  refine ⟨_, by rw [l6 _ _ cup_same]; rfl, by simp, _, CLe.refl _, q _ _ ((R.le l6).app (one45 r6)) (L.trans l6)⟩
def c_l_looks45 (k : Nat) : Ctr := fun ds c Q _ => ∃ n, ds = [.int n] ∧ 2 ≤ k ∧ ∀ l c', rows45 c' (looks45 n) l → CLe c c' → Q (.lst l) c'
def w_l_looks45 (k : Nat) : WS := (sSeq (sPar 1 2 (wCons (wLstL (wCons (wTup (wCons (wMkX "NoCart" EB.l k (wCons (wVar 0) wNil)) (wCons (wMkX "NoCart" EB.l k (wCons (wVar 0) wNil)) (wCons (wVar 0) wNil)))) (wCons (wTup (wCons (wMkX "NoGranary" EB.l k (wCons (wVar 0) wNil)) (wCons (wMkX "NoGranary" EB.l k (wCons (wVar 0) wNil)) (wCons (wVar 0) wNil)))) wNil))) (wCons (wTup (wCons (wVar 0) (wCons (wC (.str "low")) wNil))) wNil))) (sSeq (sExpr (wMt oAppend (wVar 1) (wCons (wTup (wCons (wMkX "NoBearer" EB.l k (wCons (wVar 2) wNil)) (wCons (wMkX "NoBearer" EB.l k (wCons (wVar 2) wNil)) (wCons (wVar 2) wNil)))) wNil))) (sSeq (sSet 1 (wBin oAdd (wVar 1) (wLst (wCons (wTup (wCons (wMkX "NoPlace" EB.l k (wCons (wC (.str "low")) wNil)) (wCons (wMkX "NoPlace" EB.l k (wCons (wC (.str "low")) wNil)) (wCons (wC (.str "low")) wNil)))) (wCons (wTup (wCons (wMkX "NoCast" EB.l k (wCons (wVar 0) wNil)) (wCons (wMkX "NoCast" EB.l k (wCons (wVar 0) wNil)) (wCons (wVar 0) wNil)))) wNil))))) (sSeq (sSet 1 (wBin oAdd (wVar 1) (wLst (wCons (wTup (wCons (wMkX "NoLoad" EB.l k (wCons (wVar 0) wNil)) (wCons (wMkX "NoLoad" EB.l k (wCons (wVar 0) wNil)) (wCons (wVar 0) wNil)))) (wCons (wTup (wCons (wMkX "NoWish" EB.l k (wCons (wVar 0) wNil)) (wCons (wMkX "NoWish" EB.l k (wCons (wVar 0) wNil)) (wCons (wVar 0) wNil)))) wNil))))) (sRet (wBin oAdd (wVar 1) (wLst (wCons (wTup (wCons (wMkX "NoDeed" EB.l k (wCons (wVar 0) wNil)) (wCons (wMkX "NoDeed" EB.l k (wCons (wVar 0) wNil)) (wCons (wVar 0) wNil)))) wNil))))))))
theorem p_l_looks45 (k : Nat) (ds : List D) (c : Cs) (Q : DK) (X0 : XK0) (hlen0 : ds.length = 1) (h : c_l_looks45 k ds c Q X0) : w_l_looks45 k (endOf Q) (excOf X0) (enOf 3 ds) c := by
  obtain ⟨n, rfl, hk, q⟩ := h
  simp only [w_l_looks45, trip_eq]
  try simp only [sRaise, sTry, wIsX, wWhat, wBack, lo_lst, e_mulV, sizeL, sNil, sSeq, sPass, sBrk, sCont, sExpr, sRet, sRetN, sIf, sNever, sSet, sAug, gNm, gTp, gNil', gCons', gSb, sAsg, sPar, sFor, wVar_z, wVar_s, wC, wChn, wTru, sPar3, wRev, wCallK, permF, List.filterMap_cons, List.filterMap_nil, wBin, wUn, wTst, wNot, wAnd, wOr, wAndV, wOrV, wNotV, wIf, wNil, wCons, wTup, wLst, wLstL, wFz, wCall, wBi, wMt, wMt0, wSl, wSlL, wPart, wNoPart, wYes, wSeq, wRg1, wRg2, wEnum, wZip, wLc, wLcL, wLRg, wFld, sFldS, sFldA, gFld, wMeth, wMake, lvl2_s, onB, e_eqI, e_neI, e_eqB, e_neB, e_eqS, e_neS, e_eqN, e_tyLT, e_ty1, isTys, tyMem, tyN_non, tyN_bl, tyN_int, tyN_str, tyN_tup, tyN_lst, Bool.true_or, Bool.or_true, Bool.or_false, Bool.false_or, Bool.not_true, Bool.not_false, inn_non, inn_bl, inn_int, inn_str, inn_tup, inn_lst, inn_ptr, e_slT, e_slL, e_slN, isT_P, isT_L, isT_T, isT_N, e_sub, e_fdiv, e_mod, e_pow, e_lt, e_le, e_gt, e_ge, e_neg, e_add, e_addS, e_addT, e_addL, e_addPP, e_addPL, e_addLP, e_mul, e_mulL, e_mulT, e_augI, e_ixT, e_ixL, e_ixN, e_ixP, e_lenT, e_lenL, e_lenN, e_lenS, e_lenP, e_abs, e_intI, e_intB, e_max, e_min, e_tupL, e_tupT, e_listL, e_listT, e_listN, e_listLL, e_listLT, e_divmod, e_isNon, e_isntNon, e_isB, e_isntB, e_setIx, e_insert, e_append, e_isL, e_isLL, e_seqP, e_seqL, e_seqT, e_seqN, it_lst, it_fz, Option.bind_some, Option.isSome_some, ix10, ix20, ix21, ix30, ix32, dl1, dl2, dl3, List.eraseIdx_cons_zero, e_pop0, e_popAt, e_rev, e_clear, e_tupP, e_listP, e_neN, e_neIN, e_neNI, e_eqIN, e_eqNI, at0, at1, at2, at3, Cell.lst.injEq, Cell.obj.injEq, Option.some.injEq, exists_eq_left', decide_eq_true_eq, true_and, and_true, cup_same, cup_cup, List.flatten_nil, List.flatten_cons, enOf, endOf, excOf, List.map_cons, List.map_nil, List.length_cons, List.length_nil, List.replicate, Nat.reduceAdd, Nat.reduceSub, List.cons_append, List.nil_append, List.set_cons_zero, List.set_cons_succ, List.getElem?_cons_zero, List.getElem?_cons_succ, List.getElem_cons_zero, List.getElem_cons_succ, reduceCtorEq, if_true, if_false, Bool.false_eq_true, decide_true, decide_false, ne_eq, not_true, not_false_eq_true, Int.reduceEq, Nat.reduceMul, true_imp_iff, Int.reduceToNat, Int.reducePow, Nat.reducePow, Int.reduceLE, Int.reduceLT, Nat.reduceLT, and_self, Nat.reduceLeDiff, Int.reduceNeg, Int.reduceAdd, Int.reduceSub, Int.reduceMul, Int.cast_ofNat_Int, lvl_s]
  refine trip45 hk (var45 rfl) fun t1 c1 l1 r1 => ?_
  refine trip45 hk (var45 rfl) fun t2 c2 l2 r2 => ?_
  intro p hp
  have R : rows45 c2 [("NoCart", .l, .int n), ("NoGranary", .l, .int n)] [t1, t2] := ⟨r1.le l2, r2, trivial⟩
  have R := R.le (CLe.cup_new (x := .lst [t1, t2]) hp)
  have L := CLe.new (x := .lst [t1, t2]) hp (CLe.refl c2)
  have L : CLe c (cup c2 p (.lst [t1, t2])) := (l1.trans l2).trans L
  have hp0 : c p = none := by
    cases e : c p with
    | none => rfl
    | some x => have := (l1.trans l2) _ _ e; rw [hp] at this; cases this
  refine trip45 hk (var45 rfl) fun t3 c3 l3 r3 => ?_
  have H := l3 _ _ (cup_same (c := c2) (a := p) (x := .lst [t1, t2]))
  refine ⟨_, H, by simp, ?_⟩
  have R := app45 H (R.le l3) r3
  have L := CLe.new (x := .lst ([t1, t2] ++ [t3])) hp0 (L.trans l3)
  refine trip45 hk (fun _ _ _ q => q) fun t4 c4 l4 r4 => ?_
  refine trip45 hk (var45 rfl) fun t5 c5 l5 r5 => ?_
  have R := ((R.le l4).app (one45 r4)).le l5 |>.app (one45 r5)
  refine ⟨_, by rw [l5 _ _ (l4 _ _ cup_same)]; rfl, by simp, ?_⟩
  refine trip45 hk (var45 rfl) fun t6 c6 l6 r6 => ?_
  refine trip45 hk (var45 rfl) fun t7 c7 l7 r7 => ?_
  have R := ((R.le l6).app (one45 r6)).le l7 |>.app (one45 r7)
  refine ⟨by simp, ?_⟩
  refine trip45 hk (var45 rfl) fun t8 c8 l8 r8 => ?_
  have R := (R.le l8).app (one45 r8)
  refine ⟨by simp, _, CLe.refl _, q _ _ ?_ (L.trans (l4.trans (l5.trans (l6.trans (l7.trans l8)))))⟩
  simpa [looks45] using R
theorem exx45 {c : Cs} {p : Addr} {n : Str} {b : EB} {x : D} (h : c p = some (.exc n b x)) (F : Str → EB → D → Prop) : (∃ n b x, c p = some (Cell.exc n b x) ∧ F n b x) = F n b x :=
  propext ⟨fun ⟨n', b', x', e, q⟩ => by rw [h] at e; cases e; exact q, fun q => ⟨n, b, x, h, q⟩⟩
def c_l_kinds45 (k : Nat) : Ctr := fun ds c Q _ => ∃ p n b x, ds = [.ptr p] ∧ c p = some (.exc n b x) ∧ Q (.lst ((["BadRow", "NotRising", "NoWorld", "Uneven", "Unlike", "BadGranary", "NoCart", "NoGranary", "NoBearer", "NoPlace", "NoCast", "NoLoad", "NoWish", "NoDeed", "Barred", "Alike", "BadDeed"] : List Str).map fun m => .bl (decide (n = m)))) c
def w_l_kinds45 (k : Nat) : WS := (sSeq (sSet 1 (wLst (wCons (wIsX (fun n _ => decide (n = "BadRow")) (wVar 0)) (wCons (wIsX (fun n _ => decide (n = "NotRising")) (wVar 0)) (wCons (wIsX (fun n _ => decide (n = "NoWorld")) (wVar 0)) wNil))))) (sSeq (sSet 1 (wBin oAdd (wVar 1) (wLst (wCons (wIsX (fun n _ => decide (n = "Uneven")) (wVar 0)) (wCons (wIsX (fun n _ => decide (n = "Unlike")) (wVar 0)) (wCons (wIsX (fun n _ => decide (n = "BadGranary")) (wVar 0)) wNil)))))) (sSeq (sSet 1 (wBin oAdd (wVar 1) (wLst (wCons (wIsX (fun n _ => decide (n = "NoCart")) (wVar 0)) (wCons (wIsX (fun n _ => decide (n = "NoGranary")) (wVar 0)) (wCons (wIsX (fun n _ => decide (n = "NoBearer")) (wVar 0)) wNil)))))) (sSeq (sSet 1 (wBin oAdd (wVar 1) (wLst (wCons (wIsX (fun n _ => decide (n = "NoPlace")) (wVar 0)) (wCons (wIsX (fun n _ => decide (n = "NoCast")) (wVar 0)) (wCons (wIsX (fun n _ => decide (n = "NoLoad")) (wVar 0)) wNil)))))) (sSeq (sSet 1 (wBin oAdd (wVar 1) (wLst (wCons (wIsX (fun n _ => decide (n = "NoWish")) (wVar 0)) (wCons (wIsX (fun n _ => decide (n = "NoDeed")) (wVar 0)) (wCons (wIsX (fun n _ => decide (n = "Barred")) (wVar 0)) wNil)))))) (sRet (wBin oAdd (wVar 1) (wLst (wCons (wIsX (fun n _ => decide (n = "Alike")) (wVar 0)) (wCons (wIsX (fun n _ => decide (n = "BadDeed")) (wVar 0)) wNil))))))))))
theorem p_l_kinds45 (k : Nat) (ds : List D) (c : Cs) (Q : DK) (X0 : XK0) (hlen0 : ds.length = 1) (h : c_l_kinds45 k ds c Q X0) : w_l_kinds45 k (endOf Q) (excOf X0) (enOf 2 ds) c := by
  obtain ⟨p, n, b, x, rfl, hp, q⟩ := h
  simp only [w_l_kinds45, sRaise, sTry, wIsX, wWhat, wBack, lo_lst, e_mulV, sizeL, sNil, sSeq, sPass, sBrk, sCont, sExpr, sRet, sRetN, sIf, sNever, sSet, sAug, gNm, gTp, gNil', gCons', gSb, sAsg, sPar, sFor, wVar_z, wVar_s, wC, wChn, wTru, sPar3, wRev, wCallK, permF, List.filterMap_cons, List.filterMap_nil, wBin, wUn, wTst, wNot, wAnd, wOr, wAndV, wOrV, wNotV, wIf, wNil, wCons, wTup, wLst, wLstL, wFz, wCall, wBi, wMt, wMt0, wSl, wSlL, wPart, wNoPart, wYes, wSeq, wRg1, wRg2, wEnum, wZip, wLc, wLcL, wLRg, wFld, sFldS, sFldA, gFld, wMeth, wMake, lvl2_s, onB, e_eqI, e_neI, e_eqB, e_neB, e_eqS, e_neS, e_eqN, e_tyLT, e_ty1, isTys, tyMem, tyN_non, tyN_bl, tyN_int, tyN_str, tyN_tup, tyN_lst, Bool.true_or, Bool.or_true, Bool.or_false, Bool.false_or, Bool.not_true, Bool.not_false, inn_non, inn_bl, inn_int, inn_str, inn_tup, inn_lst, inn_ptr, e_slT, e_slL, e_slN, isT_P, isT_L, isT_T, isT_N, e_sub, e_fdiv, e_mod, e_pow, e_lt, e_le, e_gt, e_ge, e_neg, e_add, e_addS, e_addT, e_addL, e_addPP, e_addPL, e_addLP, e_mul, e_mulL, e_mulT, e_augI, e_ixT, e_ixL, e_ixN, e_ixP, e_lenT, e_lenL, e_lenN, e_lenS, e_lenP, e_abs, e_intI, e_intB, e_max, e_min, e_tupL, e_tupT, e_listL, e_listT, e_listN, e_listLL, e_listLT, e_divmod, e_isNon, e_isntNon, e_isB, e_isntB, e_setIx, e_insert, e_append, e_isL, e_isLL, e_seqP, e_seqL, e_seqT, e_seqN, it_lst, it_fz, Option.bind_some, Option.isSome_some, ix10, ix20, ix21, ix30, ix32, dl1, dl2, dl3, List.eraseIdx_cons_zero, e_pop0, e_popAt, e_rev, e_clear, e_tupP, e_listP, e_neN, e_neIN, e_neNI, e_eqIN, e_eqNI, at0, at1, at2, at3, Cell.lst.injEq, Cell.obj.injEq, Option.some.injEq, exists_eq_left', decide_eq_true_eq, true_and, and_true, cup_same, cup_cup, List.flatten_nil, List.flatten_cons, enOf, endOf, excOf, List.map_cons, List.map_nil, List.length_cons, List.length_nil, List.replicate, Nat.reduceAdd, Nat.reduceSub, List.cons_append, List.nil_append, List.set_cons_zero, List.set_cons_succ, List.getElem?_cons_zero, List.getElem?_cons_succ, List.getElem_cons_zero, List.getElem_cons_succ, reduceCtorEq, if_true, if_false, Bool.false_eq_true, decide_true, decide_false, ne_eq, not_true, not_false_eq_true, Int.reduceEq, Nat.reduceMul, true_imp_iff, Int.reduceToNat, Int.reducePow, Nat.reducePow, Int.reduceLE, Int.reduceLT, Nat.reduceLT, and_self, Nat.reduceLeDiff, Int.reduceNeg, Int.reduceAdd, Int.reduceSub, Int.reduceMul, Int.cast_ofNat_Int, exx45 hp]
  exact ⟨c, CLe.refl _, q⟩
end VL
namespace VL
open PySem PySem.Spec PyProof.Rows L2
abbrev Gn := Option Int × Option Int
abbrev Wo := List Gn × List Int
def oD : Option Int → D
  | none => .non
  | some i => .int i
def gD (g : Gn) : D := .tup [oD g.1, oD g.2]
def gsD (gs : List Gn) : D := .tup (gs.map gD)
def wD (w : Wo) : D := .tup [gsD w.1, .tup (w.2.map .int)]
mutual
/-- lists as tuples, all the way -/
def toT : D → D
  | .tup l => .tup (toTs l)
  | .lst l => .tup (toTs l)
  | .non => .non
  | .bl b => .bl b
  | .int i => .int i
  | .str x => .str x
  | .ptr a => .ptr a
  | .scr l => .scr l
  | .ty n => .ty n
def toTs : List D → List D
  | [] => []
  | d :: l => toT d :: toTs l
end
theorem toTs_map : ∀ l : List D, toTs l = l.map toT
  | [] => rfl
  | d :: l => by rw [toTs, toTs_map l]; rfl
theorem toT_oD (o : Option Int) : toT (oD o) = oD o := by cases o <;> rfl
theorem toT_gD (g : Gn) : toT (gD g) = gD g := by simp [gD, toT, toTs, toT_oD]
theorem toT_ints (l : List Int) : toT (.tup (l.map .int)) = .tup (l.map .int) := by
  rw [toT, toTs_map, List.map_map]
  congr 1
theorem toT_gsD (gs : List Gn) : toT (gsD gs) = gsD gs := by
  rw [gsD, toT, toTs_map, List.map_map]
  congr 1
  exact List.map_congr_left fun g _ => toT_gD g
theorem toT_wD (w : Wo) : toT (wD w) = wD w := by
  rw [wD, toT, toTs, toTs, toTs, toT_gsD, toT_ints]
theorem pl_oD (o : Option Int) : pl (oD o) = true := by cases o <;> rfl
theorem dep_oD (o : Option Int) : dep (oD o) = 0 := by cases o <;> rfl
theorem pl_gD (g : Gn) : pl (gD g) = true := by simp [gD, pl, pls, pl_oD]
theorem dep_gD (g : Gn) : dep (gD g) = 1 := by simp [gD, dep, deps, dep_oD]
theorem pls_ints (l : List Int) : pls (l.map .int) = true := pls_all.mpr fun d hd => by obtain ⟨i, _, rfl⟩ := List.mem_map.mp hd; rfl
theorem deps_ints (l : List Int) : deps (l.map .int) = 0 := by
  have := (deps_le (l := l.map .int) (n := 0)).mpr fun d hd => by obtain ⟨i, _, rfl⟩ := List.mem_map.mp hd; exact Nat.le_refl _
  omega
theorem pl_gsD (gs : List Gn) : pl (gsD gs) = true := by
  show pls (gs.map gD) = true
  exact pls_all.mpr fun d hd => by obtain ⟨g, _, rfl⟩ := List.mem_map.mp hd; exact pl_gD g
theorem dep_gsD (gs : List Gn) : dep (gsD gs) ≤ 2 := by
  show deps (gs.map gD) + 1 ≤ 2
  have := (deps_le (l := gs.map gD) (n := 1)).mpr fun d hd => by obtain ⟨g, _, rfl⟩ := List.mem_map.mp hd; rw [dep_gD]; exact Nat.le_refl _
  omega
theorem pl_wD (w : Wo) : pl (wD w) = true := by simp [wD, pl, pls, pl_gsD, pls_ints]
theorem dep_wD (w : Wo) : dep (wD w) ≤ 3 := by
  have h1 := dep_gsD w.1
  have h2 := deps_ints w.2
  simp only [wD, dep, deps, h2]
  omega
/-- x tells the world w, by tuples or lists -/
def WLike (x : D) (w : Wo) : Prop := toT x = wD w ∧ pl x = true ∧ dep x ≤ 3
theorem WLike.self (w : Wo) : WLike (wD w) w := ⟨toT_wD w, pl_wD w, dep_wD w⟩
def lowsOf (gs : List Gn) : List Int := gs.filterMap (·.1)
def highsOf (gs : List Gn) : List Int := gs.filterMap (·.2)
def wordOf (g : Gn) (x : Int) : Option Bool :=
  if g.1.any (fun l => x < l) then some false else if g.2.any (fun h => h < x) then some true else none
/-- the pair and the cart's load behind an exchange -/
def swapG (g : Gn) (x : Int) (b : Bool) : Gn × Option Int := if b then ((g.1, some x), g.2) else ((some x, g.2), g.1)
def loadAt (w : Wo) (i : Nat) : Int := w.2.getD i 0
def granAt (w : Wo) (j : Nat) : Gn := w.1.getD j (none, none)
def exchW (w : Wo) (i j : Nat) (b : Bool) : Wo := (w.1.set j (swapG (granAt w j) (loadAt w i) b).1, w.2.set i ((swapG (granAt w j) (loadAt w i) b).2.getD 0))
/-- a coming: the world behind, the place and its word, the toll -/
def cameW (w : Wo) (i j : Nat) : Wo × Option (Nat × Bool) × Int :=
  match wordOf (granAt w j) (loadAt w i) with
  | none => (w, none, 0)
  | some b => let w' := exchW w i j b; (w', some (j, b), if loadAt w' i - loadAt w i < 0 then -(loadAt w' i - loadAt w i) else loadAt w' i - loadAt w i)
theorem word_some {g : Gn} {x : Int} {b : Bool} (h : wordOf g x = some b) : ∃ y, (swapG g x b).2 = some y ∧ if b then y < x else x < y := by
  obtain ⟨l, u⟩ := g
  unfold wordOf at h
  split at h
  · rename_i h1
    cases h
    cases l with
    | none => simp at h1
    | some y => exact ⟨y, rfl, by simpa using h1⟩
  · split at h
    · rename_i h1
      cases h
      cases u with
      | none => simp at h1
      | some y => exact ⟨y, rfl, by simpa using h1⟩
    · cases h
end VL
namespace VL
open PySem PySem.Spec PyProof.Rows L2
def smallI (i : Int) : Prop := -1000000000 ≤ i ∧ i ≤ 1000000000
/-- a granary as the laws draw it -/
def okG (g : Gn) : Prop := (∀ l, g.1 = some l → smallI l) ∧ (∀ h, g.2 = some h → smallI h) ∧ (∀ l h, g.1 = some l → g.2 = some h → l ≤ h) ∧ (g.1.isSome = true ∨ g.2.isSome = true)
end VL
namespace VL
open PySem PySem.Spec PyProof.Rows L2
def okWs (w : Wo) : Prop := (∀ g ∈ w.1, okG g) ∧ ∀ x ∈ w.2, smallI x
theorem gran_mem {w : Wo} {j : Nat} (hj : j < w.1.length) : granAt w j ∈ w.1 := by
  rw [granAt, List.getD_eq_getElem?_getD, List.getElem?_eq_getElem hj]
  exact List.getElem_mem _
theorem load_mem {w : Wo} {i : Nat} (hi : i < w.2.length) : loadAt w i ∈ w.2 := by
  rw [loadAt, List.getD_eq_getElem?_getD, List.getElem?_eq_getElem hi]
  exact List.getElem_mem _
end VL
namespace VL
open PySem PySem.Spec PyProof.Rows L2
def allL (w : Wo) : List Int := lowsOf w.1 ++ w.2 ++ highsOf w.1
structure Same (w w' : Wo) : Prop where
  all : (allL w').Perm (allL w)
  gran : w'.1.length = w.1.length
  cart : w'.2.length = w.2.length
  low : (lowsOf w'.1).length = (lowsOf w.1).length
  high : (highsOf w'.1).length = (highsOf w.1).length
theorem Same.trans {a b c : Wo} (h : Same a b) (g : Same b c) : Same a c := ⟨g.all.trans h.all, g.gran.trans h.gran, g.cart.trans h.cart, g.low.trans h.low, g.high.trans h.high⟩
theorem okG_exch {w : Wo} {i j : Nat} {b : Bool} (ok : okWs w) (hi : i < w.2.length) (hj : j < w.1.length) (h : wordOf (granAt w j) (loadAt w i) = some b) : okWs (exchW w i j b) := by
  obtain ⟨o1, o2⟩ := ok
  have hx := o2 _ (load_mem hi)
  have hg := o1 _ (gran_mem hj)
  obtain ⟨y, hy, hlt⟩ := word_some h
  have hw := h
  unfold wordOf at hw
  obtain ⟨g1, g2, g3, g4⟩ := hg
  cases hgr : granAt w j with | mk l u =>
  rw [hgr] at hy hw g1 g2 g3 g4
  refine ⟨fun g hm => ?_, fun z hm => ?_⟩
  · have hm : g ∈ w.1.set j (swapG (granAt w j) (loadAt w i) b).1 := hm
    rcases List.mem_or_eq_of_mem_set hm with hm | rfl
    · exact o1 g hm
    · rw [hgr]
      cases b with
      | false =>
        have : l = some y := hy
        subst this
        exact ⟨fun z e => by cases e; exact hx, g2, fun a c e e' => by cases e; have := g3 y c rfl e'; simp at hlt; omega, .inl rfl⟩
      | true =>
        have : u = some y := hy
        subst this
        refine ⟨g1, fun z e => by cases e; exact hx, fun a c e e' => ?_, .inr rfl⟩
        cases e'
        have := g3 a y e rfl
        simp at hlt
        omega
  · have hm : z ∈ w.2.set i ((swapG (granAt w j) (loadAt w i) b).2.getD 0) := hm
    rcases List.mem_or_eq_of_mem_set hm with hm | rfl
    · exact o2 z hm
    · rw [hgr, hy, Option.getD_some]
      cases b with
      | false => exact g1 y hy
      | true => exact g2 y hy
theorem okWs_came {w : Wo} {i j : Nat} (ok : okWs w) (hi : i < w.2.length) (hj : j < w.1.length) : okWs (cameW w i j).1 := by
  unfold cameW
  cases h : wordOf (granAt w j) (loadAt w i) with
  | none => exact ok
  | some b => exact okG_exch ok hi hj h
end VL
namespace VL
open PySem PySem.Spec PyProof.Rows L2
/-- a row of exchanges: the world behind, the tolls, how many -/
inductive Led (w : Wo) : Wo → Int → Nat → Prop
  | refl : Led w w 0 0
  | step {w' : Wo} {t : Int} {n i j : Nat} {b : Bool} : Led w w' t n → i < w'.2.length → j < w'.1.length → wordOf (granAt w' j) (loadAt w' i) = some b → Led w (cameW w' i j).1 (t + (cameW w' i j).2.2) (n + 1)
theorem Led.ok {w w' : Wo} {t : Int} {n : Nat} (h : Led w w' t n) (ok : okWs w) : okWs w' := by
  induction h with
  | refl => exact ok
  | step h hi hj hb ih => exact okWs_came ih hi hj
end VL
namespace VL
open PySem PySem.Spec PyProof.Rows L2
def c_lawOf (k : Nat) : Ctr := fun ds c Q _ => ∃ ns : List Int, ds = [.scr ns] ∧ ns.length ≤ 63 ∧ 30 ≤ k ∧ ∀ c', Q (.bl true) c'
theorem cells_le {l : List Int} {n : Int} (h : (l.length : Int) ≤ n) : 1 ≤ (if ((l.map D.int).length : Int) > 1 then ((l.map D.int).length : Int) else 1) ∧ ((if ((l.map D.int).length : Int) > 1 then ((l.map D.int).length : Int) else 1) ≤ n ∨ (if ((l.map D.int).length : Int) > 1 then ((l.map D.int).length : Int) else 1) = 1) := by
  rw [List.length_map]
  split <;> omega
end VL
set_option maxHeartbeats 1000000
namespace VL
open PySem PySem.Spec PyProof.Rows L2
def ends45 (n : Int) : List (Str × EB × D) := [("Alike", .r, .int n), ("BadDeed", .t, .int n)]
def bar45 (n : Int) : List (Str × EB × D) := [("Barred", .r, .tup [.int n, .str "high"])]
def all45 (n : Int) : List (Str × EB × D) := vals45 n ++ looks45 n ++ bar45 n ++ ends45 n
def base45 (i : Nat) : Nat := (if 5 < i then 1 else 0) + (if 13 < i then 1 else 0) + (if 15 < i then 1 else 0)
theorem rows45.get {c : Cs} : ∀ {ss : List (Str × EB × D)} {pre post : List D} {t : D}, rows45 c ss (pre ++ t :: post) → ∃ s, ss[pre.length]? = some s ∧ row45 c s t
  | [], [], _, _, h => h.elim
  | [], _ :: _, _, _, h => h.elim
  | s :: ss, [], _, _, h => ⟨s, rfl, h.1⟩
  | s :: ss, _ :: _, _, _, h => by
    obtain ⟨s, e, r⟩ := rows45.get h.2
    exact ⟨s, e, r⟩
def nms45 : List (Str × EB) := (all45 0).map fun s => (s.1, s.2.1)
theorem nms_eq (n : Int) : (all45 n).map (fun s => (s.1, s.2.1)) = nms45 := rfl
theorem kinds_ok : ∀ i : Fin 17, ∀ s, nms45[i.1]? = some s → [decide (s.2 = EB.v), decide (s.2 = EB.l)] ++ [decide (s.2 = EB.r), decide (s.2 = EB.t)] = (List.range 4).map (fun j => decide (j = base45 i.1)) ∧
    (["BadRow", "NotRising", "NoWorld", "Uneven", "Unlike", "BadGranary", "NoCart", "NoGranary", "NoBearer", "NoPlace", "NoCast", "NoLoad", "NoWish", "NoDeed", "Barred", "Alike", "BadDeed"] : List Str).map (fun m => decide (s.1 = m)) = (List.range 17).map (fun j => decide (j = i.1)) := by
  have h : ∀ i : Fin 17, (match nms45[i.1]? with
    | some s => decide ([decide (s.2 = EB.v), decide (s.2 = EB.l)] ++ [decide (s.2 = EB.r), decide (s.2 = EB.t)] = (List.range 4).map (fun j => decide (j = base45 i.1)) ∧
    (["BadRow", "NotRising", "NoWorld", "Uneven", "Unlike", "BadGranary", "NoCart", "NoGranary", "NoBearer", "NoPlace", "NoCast", "NoLoad", "NoWish", "NoDeed", "Barred", "Alike", "BadDeed"] : List Str).map (fun m => decide (s.1 = m)) = (List.range 17).map (fun j => decide (j = i.1)))
    | none => true) = true := by decide +kernel
  intro i s e
  have := h i
  rw [e] at this
  exact of_decide_eq_true this
theorem val_ok (n : Int) : ∀ s ∈ all45 n, pl s.2.2 = true ∧ dep s.2.2 ≤ 1 := by
  intro s hs
  simp only [all45, vals45, looks45, bar45, ends45, List.cons_append, List.nil_append, List.mem_cons, List.not_mem_nil, or_false] at hs
  rcases hs with rfl | rfl | rfl | rfl | rfl | rfl | rfl | rfl | rfl | rfl | rfl | rfl | rfl | rfl | rfl | rfl | rfl <;> exact ⟨rfl, by simp [dep, deps]⟩
theorem len45 (n : Int) : (all45 n).length = 17 := rfl
def c_k45_right (k : Nat) : Ctr := fun ds c Q _ => ∃ n, ds = [.int n] ∧ 10 ≤ k ∧ ∀ c', CLe c c' → Q (.bl true) c'
def w_k45_right (k : Nat) : WS := (sSeq (sSet 1 (wTup (wCons (wVar 0) (wCons (wC (.str "high")) wNil)))) (sSeq (sSet 2 (wBin oAdd (wBin oAdd (wCall 1 c_l_vals45 k (wCons (wVar 0) wNil)) (wCall 1 c_l_looks45 k (wCons (wVar 0) wNil))) (wLst (wCons (wTup (wCons (wMkX "Barred" EB.r k (wCons (wVar 1) wNil)) (wCons (wMkX "Barred" EB.r k (wCons (wVar 1) wNil)) (wCons (wVar 1) wNil)))) wNil)))) (sSeq (sSet 2 (wBin oAdd (wVar 2) (wLst (wCons (wTup (wCons (wMkX "Alike" EB.r k (wCons (wVar 0) wNil)) (wCons (wMkX "Alike" EB.r k (wCons (wVar 0) wNil)) (wCons (wVar 0) wNil)))) (wCons (wTup (wCons (wMkX "BadDeed" EB.t k (wCons (wVar 0) wNil)) (wCons (wMkX "BadDeed" EB.t k (wCons (wVar 0) wNil)) (wCons (wVar 0) wNil)))) wNil))))) (sSeq (sFor (wEnum (wVar 2)) (.tup [(.nm 3), (.tup [(.nm 6), (.nm 7), (.nm 8)])]) (sSeq (sSet 4 (wBin oAdd (wBin oAdd (wBi oInt (wCons (wBin oGt (wVar 3) (wC (.int 5))) wNil)) (wBi oInt (wCons (wBin oGt (wVar 3) (wC (.int 13))) wNil))) (wBi oInt (wCons (wBin oGt (wVar 3) (wC (.int 15))) wNil)))) (sFor (wSeq (wTup (wCons (wVar 6) (wCons (wVar 7) wNil)))) (.nm 5) (sSeq (sSet 9 (wLst (wCons (wIsX (fun _ b => decide (b = EB.v)) (wVar 5)) (wCons (wIsX (fun _ b => decide (b = EB.l)) (wVar 5)) wNil)))) (sSeq (sSet 9 (wBin oAdd (wVar 9) (wLst (wCons (wIsX (fun _ b => decide (b = EB.r)) (wVar 5)) (wCons (wIsX (fun _ b => decide (b = EB.t)) (wVar 5)) wNil))))) (sSeq (sIf (wOr (wTst (wBin oNe (wVar 9) (wLc (wRg1 (wC (.int 4))) (.nm 10) wYes (wBin oEq (wVar 10) (wVar 4)) [10]))) (wTst (wBin oNe (wCall 1 c_l_kinds45 k (wCons (wVar 5) wNil)) (wLc (wRg1 (wC (.int 17))) (.nm 10) wYes (wBin oEq (wVar 10) (wVar 3)) [10])))) (sRet (wC (.bl false))) sNil) (sIf (wOr (wTst (wIsX (fun _ _ => false) (wVar 5))) (wNot (wTst (wCall 2 c_l_same k (wCons (wWhat (wVar 5)) (wCons (wVar 8) wNil)))))) (sRet (wC (.bl false))) sNil))))))) (sRet (wC (.bl true)))))))
theorem p_k45_right (k : Nat) (ds : List D) (c : Cs) (Q : DK) (X0 : XK0) (hlen0 : ds.length = 1) (h : c_k45_right k ds c Q X0) : w_k45_right k (endOf Q) (excOf X0) (enOf 11 ds) c := by
  obtain ⟨n, rfl, hk, q⟩ := h
  obtain ⟨k, rfl⟩ : ∃ k', k = k' + 10 := ⟨k - 10, by omega⟩
  simp only [w_k45_right, trip_eq]
  try simp only [sRaise, sTry, wIsX, wWhat, wBack, lo_lst, e_mulV, sizeL, sNil, sSeq, sPass, sBrk, sCont, sExpr, sRet, sRetN, sIf, sNever, sSet, sAug, gNm, gTp, gNil', gCons', gSb, sAsg, sPar, sFor, wVar_z, wVar_s, wC, wChn, wTru, sPar3, wRev, wCallK, permF, List.filterMap_cons, List.filterMap_nil, wBin, wUn, wTst, wNot, wAnd, wOr, wAndV, wOrV, wNotV, wIf, wNil, wCons, wTup, wLst, wLstL, wFz, wCall, wBi, wMt, wMt0, wSl, wSlL, wPart, wNoPart, wYes, wSeq, wRg1, wRg2, wEnum, wZip, wLc, wLcL, wLRg, wFld, sFldS, sFldA, gFld, wMeth, wMake, lvl2_s, onB, e_eqI, e_neI, e_eqB, e_neB, e_eqS, e_neS, e_eqN, e_tyLT, e_ty1, isTys, tyMem, tyN_non, tyN_bl, tyN_int, tyN_str, tyN_tup, tyN_lst, Bool.true_or, Bool.or_true, Bool.or_false, Bool.false_or, Bool.not_true, Bool.not_false, inn_non, inn_bl, inn_int, inn_str, inn_tup, inn_lst, inn_ptr, e_slT, e_slL, e_slN, isT_P, isT_L, isT_T, isT_N, e_sub, e_fdiv, e_mod, e_pow, e_lt, e_le, e_gt, e_ge, e_neg, e_add, e_addS, e_addT, e_addL, e_addPP, e_addPL, e_addLP, e_mul, e_mulL, e_mulT, e_augI, e_ixT, e_ixL, e_ixN, e_ixP, e_lenT, e_lenL, e_lenN, e_lenS, e_lenP, e_abs, e_intI, e_intB, e_max, e_min, e_tupL, e_tupT, e_listL, e_listT, e_listN, e_listLL, e_listLT, e_divmod, e_isNon, e_isntNon, e_isB, e_isntB, e_setIx, e_insert, e_append, e_isL, e_isLL, e_seqP, e_seqL, e_seqT, e_seqN, it_lst, it_fz, Option.bind_some, Option.isSome_some, ix10, ix20, ix21, ix30, ix32, dl1, dl2, dl3, List.eraseIdx_cons_zero, e_pop0, e_popAt, e_rev, e_clear, e_tupP, e_listP, e_neN, e_neIN, e_neNI, e_eqIN, e_eqNI, at0, at1, at2, at3, Cell.lst.injEq, Cell.obj.injEq, Option.some.injEq, exists_eq_left', decide_eq_true_eq, true_and, and_true, cup_same, cup_cup, List.flatten_nil, List.flatten_cons, enOf, endOf, excOf, List.map_cons, List.map_nil, List.length_cons, List.length_nil, List.replicate, Nat.reduceAdd, Nat.reduceSub, List.cons_append, List.nil_append, List.set_cons_zero, List.set_cons_succ, List.getElem?_cons_zero, List.getElem?_cons_succ, List.getElem_cons_zero, List.getElem_cons_succ, reduceCtorEq, if_true, if_false, Bool.false_eq_true, decide_true, decide_false, ne_eq, not_true, not_false_eq_true, Int.reduceEq, Nat.reduceMul, true_imp_iff, Int.reduceToNat, Int.reducePow, Nat.reducePow, Int.reduceLE, Int.reduceLT, Nat.reduceLT, and_self, Nat.reduceLeDiff, Int.reduceNeg, Int.reduceAdd, Int.reduceSub, Int.reduceMul, Int.cast_ofNat_Int, lvl_s]
  refine ⟨n, rfl, by omega, fun l1 c1 R1 L1 => ?_⟩
  try simp only [sRaise, sTry, wIsX, wWhat, wBack, lo_lst, e_mulV, sizeL, sNil, sSeq, sPass, sBrk, sCont, sExpr, sRet, sRetN, sIf, sNever, sSet, sAug, gNm, gTp, gNil', gCons', gSb, sAsg, sPar, sFor, wVar_z, wVar_s, wC, wChn, wTru, sPar3, wRev, wCallK, permF, List.filterMap_cons, List.filterMap_nil, wBin, wUn, wTst, wNot, wAnd, wOr, wAndV, wOrV, wNotV, wIf, wNil, wCons, wTup, wLst, wLstL, wFz, wCall, wBi, wMt, wMt0, wSl, wSlL, wPart, wNoPart, wYes, wSeq, wRg1, wRg2, wEnum, wZip, wLc, wLcL, wLRg, wFld, sFldS, sFldA, gFld, wMeth, wMake, lvl2_s, onB, e_eqI, e_neI, e_eqB, e_neB, e_eqS, e_neS, e_eqN, e_tyLT, e_ty1, isTys, tyMem, tyN_non, tyN_bl, tyN_int, tyN_str, tyN_tup, tyN_lst, Bool.true_or, Bool.or_true, Bool.or_false, Bool.false_or, Bool.not_true, Bool.not_false, inn_non, inn_bl, inn_int, inn_str, inn_tup, inn_lst, inn_ptr, e_slT, e_slL, e_slN, isT_P, isT_L, isT_T, isT_N, e_sub, e_fdiv, e_mod, e_pow, e_lt, e_le, e_gt, e_ge, e_neg, e_add, e_addS, e_addT, e_addL, e_addPP, e_addPL, e_addLP, e_mul, e_mulL, e_mulT, e_augI, e_ixT, e_ixL, e_ixN, e_ixP, e_lenT, e_lenL, e_lenN, e_lenS, e_lenP, e_abs, e_intI, e_intB, e_max, e_min, e_tupL, e_tupT, e_listL, e_listT, e_listN, e_listLL, e_listLT, e_divmod, e_isNon, e_isntNon, e_isB, e_isntB, e_setIx, e_insert, e_append, e_isL, e_isLL, e_seqP, e_seqL, e_seqT, e_seqN, it_lst, it_fz, Option.bind_some, Option.isSome_some, ix10, ix20, ix21, ix30, ix32, dl1, dl2, dl3, List.eraseIdx_cons_zero, e_pop0, e_popAt, e_rev, e_clear, e_tupP, e_listP, e_neN, e_neIN, e_neNI, e_eqIN, e_eqNI, at0, at1, at2, at3, Cell.lst.injEq, Cell.obj.injEq, Option.some.injEq, exists_eq_left', decide_eq_true_eq, true_and, and_true, cup_same, cup_cup, List.flatten_nil, List.flatten_cons, enOf, endOf, excOf, List.map_cons, List.map_nil, List.length_cons, List.length_nil, List.replicate, Nat.reduceAdd, Nat.reduceSub, List.cons_append, List.nil_append, List.set_cons_zero, List.set_cons_succ, List.getElem?_cons_zero, List.getElem?_cons_succ, List.getElem_cons_zero, List.getElem_cons_succ, reduceCtorEq, if_true, if_false, Bool.false_eq_true, decide_true, decide_false, ne_eq, not_true, not_false_eq_true, Int.reduceEq, Nat.reduceMul, true_imp_iff, Int.reduceToNat, Int.reducePow, Nat.reducePow, Int.reduceLE, Int.reduceLT, Nat.reduceLT, and_self, Nat.reduceLeDiff, Int.reduceNeg, Int.reduceAdd, Int.reduceSub, Int.reduceMul, Int.cast_ofNat_Int, lvl_s]
  refine ⟨n, rfl, by omega, fun l2 c2 R2 L2 => ?_⟩
  try simp only [sRaise, sTry, wIsX, wWhat, wBack, lo_lst, e_mulV, sizeL, sNil, sSeq, sPass, sBrk, sCont, sExpr, sRet, sRetN, sIf, sNever, sSet, sAug, gNm, gTp, gNil', gCons', gSb, sAsg, sPar, sFor, wVar_z, wVar_s, wC, wChn, wTru, sPar3, wRev, wCallK, permF, List.filterMap_cons, List.filterMap_nil, wBin, wUn, wTst, wNot, wAnd, wOr, wAndV, wOrV, wNotV, wIf, wNil, wCons, wTup, wLst, wLstL, wFz, wCall, wBi, wMt, wMt0, wSl, wSlL, wPart, wNoPart, wYes, wSeq, wRg1, wRg2, wEnum, wZip, wLc, wLcL, wLRg, wFld, sFldS, sFldA, gFld, wMeth, wMake, lvl2_s, onB, e_eqI, e_neI, e_eqB, e_neB, e_eqS, e_neS, e_eqN, e_tyLT, e_ty1, isTys, tyMem, tyN_non, tyN_bl, tyN_int, tyN_str, tyN_tup, tyN_lst, Bool.true_or, Bool.or_true, Bool.or_false, Bool.false_or, Bool.not_true, Bool.not_false, inn_non, inn_bl, inn_int, inn_str, inn_tup, inn_lst, inn_ptr, e_slT, e_slL, e_slN, isT_P, isT_L, isT_T, isT_N, e_sub, e_fdiv, e_mod, e_pow, e_lt, e_le, e_gt, e_ge, e_neg, e_add, e_addS, e_addT, e_addL, e_addPP, e_addPL, e_addLP, e_mul, e_mulL, e_mulT, e_augI, e_ixT, e_ixL, e_ixN, e_ixP, e_lenT, e_lenL, e_lenN, e_lenS, e_lenP, e_abs, e_intI, e_intB, e_max, e_min, e_tupL, e_tupT, e_listL, e_listT, e_listN, e_listLL, e_listLT, e_divmod, e_isNon, e_isntNon, e_isB, e_isntB, e_setIx, e_insert, e_append, e_isL, e_isLL, e_seqP, e_seqL, e_seqT, e_seqN, it_lst, it_fz, Option.bind_some, Option.isSome_some, ix10, ix20, ix21, ix30, ix32, dl1, dl2, dl3, List.eraseIdx_cons_zero, e_pop0, e_popAt, e_rev, e_clear, e_tupP, e_listP, e_neN, e_neIN, e_neNI, e_eqIN, e_eqNI, at0, at1, at2, at3, Cell.lst.injEq, Cell.obj.injEq, Option.some.injEq, exists_eq_left', decide_eq_true_eq, true_and, and_true, cup_same, cup_cup, List.flatten_nil, List.flatten_cons, enOf, endOf, excOf, List.map_cons, List.map_nil, List.length_cons, List.length_nil, List.replicate, Nat.reduceAdd, Nat.reduceSub, List.cons_append, List.nil_append, List.set_cons_zero, List.set_cons_succ, List.getElem?_cons_zero, List.getElem?_cons_succ, List.getElem_cons_zero, List.getElem_cons_succ, reduceCtorEq, if_true, if_false, Bool.false_eq_true, decide_true, decide_false, ne_eq, not_true, not_false_eq_true, Int.reduceEq, Nat.reduceMul, true_imp_iff, Int.reduceToNat, Int.reducePow, Nat.reducePow, Int.reduceLE, Int.reduceLT, Nat.reduceLT, and_self, Nat.reduceLeDiff, Int.reduceNeg, Int.reduceAdd, Int.reduceSub, Int.reduceMul, Int.cast_ofNat_Int, lvl_s]
  have n1 := R1.len
  have n2 := R2.len
  refine ⟨by rw [n1, n2]; exact (by decide : 6 + 8 ≤ 16777216), ?_⟩
  refine trip45 (by omega) (var45 rfl) fun t3 c3 l3 r3 => ⟨by rw [List.length_append, n1, n2]; exact (by decide : 6 + 8 ≤ 16777215), ?_⟩
  refine trip45 (by omega) (var45 rfl) fun t4 c4 l4 r4 => ?_
  refine trip45 (by omega) (var45 rfl) fun t5 c5 l5 r5 => ?_
  have R : rows45 c5 (all45 n) (l1 ++ l2 ++ [t3] ++ [t4, t5]) := ((((R1.le L2).app R2).le (l3.trans (l4.trans l5))).app (one45 (s := ("Barred", .r, .tup [.int n, .str "high"])) (r3.le (l4.trans l5)))).app (ss' := ends45 n) ⟨r4.le l5, r5, trivial⟩
  have L : CLe c c5 := L1.trans (L2.trans (l3.trans (l4.trans l5)))
  have nl := R.len
  generalize l1 ++ l2 ++ [t3] = l6 at R nl ⊢
  refine ⟨by rw [List.length_append] at nl; have : l6.length ≤ (all45 n).length := by omega
             exact Nat.le_trans this (by rw [len45]; decide), fun _ => ?_⟩
  generalize l6 ++ [t4, t5] = l7 at R nl ⊢
  rw [show l7 = l7.map fun d => d from (List.map_id' l7).symm]
  refine loopE (fun d => d) (fun pre en c' => (∃ o1 o3 o4 o5 o6 o7 o8 o9, en = [some (.int n), o1, some (.lst l7), o3, o4, o5, o6, o7, o8, o9, none]) ∧ c' = c5) ⟨⟨_, _, _, _, _, _, _, _, by rw [List.map_id']⟩, rfl⟩ ?_ ?_
  · rintro pre t post en c' hs ⟨⟨o1, o3, o4, o5, o6, o7, o8, o9, rfl⟩, rfl⟩
    rw [hs] at R
    obtain ⟨⟨m, b, v⟩, hm, p, q', rfl, hp, hq⟩ := rows45.get R
    refine ⟨trivial, _, rfl, fun D1 st => ?_⟩
    have hi : pre.length < 17 := by
      have := (List.getElem?_eq_some_iff.mp hm).1
      rwa [len45] at this
    have hk2 := kinds_ok ⟨pre.length, hi⟩ (m, b) (by rw [← nms_eq n, List.getElem?_map, hm]; rfl)
    have hv := val_ok n _ (List.mem_of_getElem? hm)
    try simp only [sRaise, sTry, wIsX, wWhat, wBack, lo_lst, e_mulV, sizeL, sNil, sSeq, sPass, sBrk, sCont, sExpr, sRet, sRetN, sIf, sNever, sSet, sAug, gNm, gTp, gNil', gCons', gSb, sAsg, sPar, sFor, wVar_z, wVar_s, wC, wChn, wTru, sPar3, wRev, wCallK, permF, List.filterMap_cons, List.filterMap_nil, wBin, wUn, wTst, wNot, wAnd, wOr, wAndV, wOrV, wNotV, wIf, wNil, wCons, wTup, wLst, wLstL, wFz, wCall, wBi, wMt, wMt0, wSl, wSlL, wPart, wNoPart, wYes, wSeq, wRg1, wRg2, wEnum, wZip, wLc, wLcL, wLRg, wFld, sFldS, sFldA, gFld, wMeth, wMake, lvl2_s, onB, e_eqI, e_neI, e_eqB, e_neB, e_eqS, e_neS, e_eqN, e_tyLT, e_ty1, isTys, tyMem, tyN_non, tyN_bl, tyN_int, tyN_str, tyN_tup, tyN_lst, Bool.true_or, Bool.or_true, Bool.or_false, Bool.false_or, Bool.not_true, Bool.not_false, inn_non, inn_bl, inn_int, inn_str, inn_tup, inn_lst, inn_ptr, e_slT, e_slL, e_slN, isT_P, isT_L, isT_T, isT_N, e_sub, e_fdiv, e_mod, e_pow, e_lt, e_le, e_gt, e_ge, e_neg, e_add, e_addS, e_addT, e_addL, e_addPP, e_addPL, e_addLP, e_mul, e_mulL, e_mulT, e_augI, e_ixT, e_ixL, e_ixN, e_ixP, e_lenT, e_lenL, e_lenN, e_lenS, e_lenP, e_abs, e_intI, e_intB, e_max, e_min, e_tupL, e_tupT, e_listL, e_listT, e_listN, e_listLL, e_listLT, e_divmod, e_isNon, e_isntNon, e_isB, e_isntB, e_setIx, e_insert, e_append, e_isL, e_isLL, e_seqP, e_seqL, e_seqT, e_seqN, it_lst, it_fz, Option.bind_some, Option.isSome_some, ix10, ix20, ix21, ix30, ix32, dl1, dl2, dl3, List.eraseIdx_cons_zero, e_pop0, e_popAt, e_rev, e_clear, e_tupP, e_listP, e_neN, e_neIN, e_neNI, e_eqIN, e_eqNI, at0, at1, at2, at3, Cell.lst.injEq, Cell.obj.injEq, Option.some.injEq, exists_eq_left', decide_eq_true_eq, true_and, and_true, cup_same, cup_cup, List.flatten_nil, List.flatten_cons, enOf, endOf, excOf, List.map_cons, List.map_nil, List.length_cons, List.length_nil, List.replicate, Nat.reduceAdd, Nat.reduceSub, List.cons_append, List.nil_append, List.set_cons_zero, List.set_cons_succ, List.getElem?_cons_zero, List.getElem?_cons_succ, List.getElem_cons_zero, List.getElem_cons_succ, reduceCtorEq, if_true, if_false, Bool.false_eq_true, decide_true, decide_false, ne_eq, not_true, not_false_eq_true, Int.reduceEq, Nat.reduceMul, true_imp_iff, Int.reduceToNat, Int.reducePow, Nat.reducePow, Int.reduceLE, Int.reduceLT, Nat.reduceLT, and_self, Nat.reduceLeDiff, Int.reduceNeg, Int.reduceAdd, Int.reduceSub, Int.reduceMul, Int.cast_ofNat_Int, lvl_s]
    rw [show (((if (5 : Int) < (pre.length : Nat) then (1 : Int) else 0) + if (13 : Int) < (pre.length : Nat) then 1 else 0) + if (15 : Int) < (pre.length : Nat) then 1 else 0) = ((base45 pre.length : Nat) : Int) by unfold base45; push_cast; repeat' (first | split | omega)]
    rw [show ([D.ptr p, D.ptr q'] : List D) = [p, q'].map D.ptr from rfl]
    refine loopP D.ptr (fun pre2 en c2 => (∃ o5 o9, en = [some (.int n), o1, some (.lst l7), some (.int (pre.length : Nat)), some (.int (base45 pre.length : Nat)), o5, some (.ptr p), some (.ptr q'), some v, o9, none]) ∧ c2 = c') ⟨⟨_, _, rfl⟩, rfl⟩ ?_ ?_
    · rintro pre2 a post2 en c2 hs2 ⟨⟨o5, o9, rfl⟩, rfl⟩
      have ha : c2 a = some (.exc m b v) := by
        have : a ∈ [p, q'] := by rw [hs2]; simp
        rcases List.mem_cons.mp this with rfl | h
        · exact hp
        · rw [List.mem_singleton.mp h]; exact hq
      refine ⟨trivial, _, rfl, fun D2 st2 => ?_⟩
      have e0 := exx45 ha
      try simp only [e0, sRaise, sTry, wIsX, wWhat, wBack, lo_lst, e_mulV, sizeL, sNil, sSeq, sPass, sBrk, sCont, sExpr, sRet, sRetN, sIf, sNever, sSet, sAug, gNm, gTp, gNil', gCons', gSb, sAsg, sPar, sFor, wVar_z, wVar_s, wC, wChn, wTru, sPar3, wRev, wCallK, permF, List.filterMap_cons, List.filterMap_nil, wBin, wUn, wTst, wNot, wAnd, wOr, wAndV, wOrV, wNotV, wIf, wNil, wCons, wTup, wLst, wLstL, wFz, wCall, wBi, wMt, wMt0, wSl, wSlL, wPart, wNoPart, wYes, wSeq, wRg1, wRg2, wEnum, wZip, wLc, wLcL, wLRg, wFld, sFldS, sFldA, gFld, wMeth, wMake, lvl2_s, onB, e_eqI, e_neI, e_eqB, e_neB, e_eqS, e_neS, e_eqN, e_tyLT, e_ty1, isTys, tyMem, tyN_non, tyN_bl, tyN_int, tyN_str, tyN_tup, tyN_lst, Bool.true_or, Bool.or_true, Bool.or_false, Bool.false_or, Bool.not_true, Bool.not_false, inn_non, inn_bl, inn_int, inn_str, inn_tup, inn_lst, inn_ptr, e_slT, e_slL, e_slN, isT_P, isT_L, isT_T, isT_N, e_sub, e_fdiv, e_mod, e_pow, e_lt, e_le, e_gt, e_ge, e_neg, e_add, e_addS, e_addT, e_addL, e_addPP, e_addPL, e_addLP, e_mul, e_mulL, e_mulT, e_augI, e_ixT, e_ixL, e_ixN, e_ixP, e_lenT, e_lenL, e_lenN, e_lenS, e_lenP, e_abs, e_intI, e_intB, e_max, e_min, e_tupL, e_tupT, e_listL, e_listT, e_listN, e_listLL, e_listLT, e_divmod, e_isNon, e_isntNon, e_isB, e_isntB, e_setIx, e_insert, e_append, e_isL, e_isLL, e_seqP, e_seqL, e_seqT, e_seqN, it_lst, it_fz, Option.bind_some, Option.isSome_some, ix10, ix20, ix21, ix30, ix32, dl1, dl2, dl3, List.eraseIdx_cons_zero, e_pop0, e_popAt, e_rev, e_clear, e_tupP, e_listP, e_neN, e_neIN, e_neNI, e_eqIN, e_eqNI, at0, at1, at2, at3, Cell.lst.injEq, Cell.obj.injEq, Option.some.injEq, exists_eq_left', decide_eq_true_eq, true_and, and_true, cup_same, cup_cup, List.flatten_nil, List.flatten_cons, enOf, endOf, excOf, List.map_cons, List.map_nil, List.length_cons, List.length_nil, List.replicate, Nat.reduceAdd, Nat.reduceSub, List.cons_append, List.nil_append, List.set_cons_zero, List.set_cons_succ, List.getElem?_cons_zero, List.getElem?_cons_succ, List.getElem_cons_zero, List.getElem_cons_succ, reduceCtorEq, if_true, if_false, Bool.false_eq_true, decide_true, decide_false, ne_eq, not_true, not_false_eq_true, Int.reduceEq, Nat.reduceMul, true_imp_iff, Int.reduceToNat, Int.reducePow, Nat.reducePow, Int.reduceLE, Int.reduceLT, Nat.reduceLT, and_self, Nat.reduceLeDiff, Int.reduceNeg, Int.reduceAdd, Int.reduceSub, Int.reduceMul, Int.cast_ofNat_Int, lvl_s]
      rw [show rgD 0 4 = (List.range 4).map fun (i : Nat) => D.int (i : Nat) from rgD_nat 4]
      refine ⟨by simp, ?_⟩
      refine lcM (fun (i : Nat) => D.int (i : Nat)) (fun j => .bl (decide (j = base45 pre.length))) trivial ?_ ?_
      · intro j _
        refine ⟨_, rfl, fun Q q => ?_⟩
        try simp only [ewipe, sRaise, sTry, wIsX, wWhat, wBack, lo_lst, e_mulV, sizeL, sNil, sSeq, sPass, sBrk, sCont, sExpr, sRet, sRetN, sIf, sNever, sSet, sAug, gNm, gTp, gNil', gCons', gSb, sAsg, sPar, sFor, wVar_z, wVar_s, wC, wChn, wTru, sPar3, wRev, wCallK, permF, List.filterMap_cons, List.filterMap_nil, wBin, wUn, wTst, wNot, wAnd, wOr, wAndV, wOrV, wNotV, wIf, wNil, wCons, wTup, wLst, wLstL, wFz, wCall, wBi, wMt, wMt0, wSl, wSlL, wPart, wNoPart, wYes, wSeq, wRg1, wRg2, wEnum, wZip, wLc, wLcL, wLRg, wFld, sFldS, sFldA, gFld, wMeth, wMake, lvl2_s, onB, e_eqI, e_neI, e_eqB, e_neB, e_eqS, e_neS, e_eqN, e_tyLT, e_ty1, isTys, tyMem, tyN_non, tyN_bl, tyN_int, tyN_str, tyN_tup, tyN_lst, Bool.true_or, Bool.or_true, Bool.or_false, Bool.false_or, Bool.not_true, Bool.not_false, inn_non, inn_bl, inn_int, inn_str, inn_tup, inn_lst, inn_ptr, e_slT, e_slL, e_slN, isT_P, isT_L, isT_T, isT_N, e_sub, e_fdiv, e_mod, e_pow, e_lt, e_le, e_gt, e_ge, e_neg, e_add, e_addS, e_addT, e_addL, e_addPP, e_addPL, e_addLP, e_mul, e_mulL, e_mulT, e_augI, e_ixT, e_ixL, e_ixN, e_ixP, e_lenT, e_lenL, e_lenN, e_lenS, e_lenP, e_abs, e_intI, e_intB, e_max, e_min, e_tupL, e_tupT, e_listL, e_listT, e_listN, e_listLL, e_listLT, e_divmod, e_isNon, e_isntNon, e_isB, e_isntB, e_setIx, e_insert, e_append, e_isL, e_isLL, e_seqP, e_seqL, e_seqT, e_seqN, it_lst, it_fz, Option.bind_some, Option.isSome_some, ix10, ix20, ix21, ix30, ix32, dl1, dl2, dl3, List.eraseIdx_cons_zero, e_pop0, e_popAt, e_rev, e_clear, e_tupP, e_listP, e_neN, e_neIN, e_neNI, e_eqIN, e_eqNI, at0, at1, at2, at3, Cell.lst.injEq, Cell.obj.injEq, Option.some.injEq, exists_eq_left', decide_eq_true_eq, true_and, and_true, cup_same, cup_cup, List.flatten_nil, List.flatten_cons, enOf, endOf, excOf, List.map_cons, List.map_nil, List.length_cons, List.length_nil, List.replicate, Nat.reduceAdd, Nat.reduceSub, List.cons_append, List.nil_append, List.set_cons_zero, List.set_cons_succ, List.getElem?_cons_zero, List.getElem?_cons_succ, List.getElem_cons_zero, List.getElem_cons_succ, reduceCtorEq, if_true, if_false, Bool.false_eq_true, decide_true, decide_false, ne_eq, not_true, not_false_eq_true, Int.reduceEq, Nat.reduceMul, true_imp_iff, Int.reduceToNat, Int.reducePow, Nat.reducePow, Int.reduceLE, Int.reduceLT, Nat.reduceLT, and_self, Nat.reduceLeDiff, Int.reduceNeg, Int.reduceAdd, Int.reduceSub, Int.reduceMul, Int.cast_ofNat_Int, lvl_s]
        rw [show decide ((j : Int) = (base45 pre.length : Nat)) = decide (j = base45 pre.length) from decide_eq_decide.mpr Int.ofNat_inj]
        exact q
      have m1 : ((List.range 4).map fun j => D.bl (decide (j = base45 pre.length))) = ([decide (b = EB.v), decide (b = EB.l)] ++ [decide (b = EB.r), decide (b = EB.t)]).map D.bl := by
        rw [hk2.1, List.map_map]; rfl
      rw [m1]
      refine e_neSelf rfl (by simp [dep, deps]) ?_
      try simp only [sRaise, sTry, wIsX, wWhat, wBack, lo_lst, e_mulV, sizeL, sNil, sSeq, sPass, sBrk, sCont, sExpr, sRet, sRetN, sIf, sNever, sSet, sAug, gNm, gTp, gNil', gCons', gSb, sAsg, sPar, sFor, wVar_z, wVar_s, wC, wChn, wTru, sPar3, wRev, wCallK, permF, List.filterMap_cons, List.filterMap_nil, wBin, wUn, wTst, wNot, wAnd, wOr, wAndV, wOrV, wNotV, wIf, wNil, wCons, wTup, wLst, wLstL, wFz, wCall, wBi, wMt, wMt0, wSl, wSlL, wPart, wNoPart, wYes, wSeq, wRg1, wRg2, wEnum, wZip, wLc, wLcL, wLRg, wFld, sFldS, sFldA, gFld, wMeth, wMake, lvl2_s, onB, e_eqI, e_neI, e_eqB, e_neB, e_eqS, e_neS, e_eqN, e_tyLT, e_ty1, isTys, tyMem, tyN_non, tyN_bl, tyN_int, tyN_str, tyN_tup, tyN_lst, Bool.true_or, Bool.or_true, Bool.or_false, Bool.false_or, Bool.not_true, Bool.not_false, inn_non, inn_bl, inn_int, inn_str, inn_tup, inn_lst, inn_ptr, e_slT, e_slL, e_slN, isT_P, isT_L, isT_T, isT_N, e_sub, e_fdiv, e_mod, e_pow, e_lt, e_le, e_gt, e_ge, e_neg, e_add, e_addS, e_addT, e_addL, e_addPP, e_addPL, e_addLP, e_mul, e_mulL, e_mulT, e_augI, e_ixT, e_ixL, e_ixN, e_ixP, e_lenT, e_lenL, e_lenN, e_lenS, e_lenP, e_abs, e_intI, e_intB, e_max, e_min, e_tupL, e_tupT, e_listL, e_listT, e_listN, e_listLL, e_listLT, e_divmod, e_isNon, e_isntNon, e_isB, e_isntB, e_setIx, e_insert, e_append, e_isL, e_isLL, e_seqP, e_seqL, e_seqT, e_seqN, it_lst, it_fz, Option.bind_some, Option.isSome_some, ix10, ix20, ix21, ix30, ix32, dl1, dl2, dl3, List.eraseIdx_cons_zero, e_pop0, e_popAt, e_rev, e_clear, e_tupP, e_listP, e_neN, e_neIN, e_neNI, e_eqIN, e_eqNI, at0, at1, at2, at3, Cell.lst.injEq, Cell.obj.injEq, Option.some.injEq, exists_eq_left', decide_eq_true_eq, true_and, and_true, cup_same, cup_cup, List.flatten_nil, List.flatten_cons, enOf, endOf, excOf, List.map_cons, List.map_nil, List.length_cons, List.length_nil, List.replicate, Nat.reduceAdd, Nat.reduceSub, List.cons_append, List.nil_append, List.set_cons_zero, List.set_cons_succ, List.getElem?_cons_zero, List.getElem?_cons_succ, List.getElem_cons_zero, List.getElem_cons_succ, reduceCtorEq, if_true, if_false, Bool.false_eq_true, decide_true, decide_false, ne_eq, not_true, not_false_eq_true, Int.reduceEq, Nat.reduceMul, true_imp_iff, Int.reduceToNat, Int.reducePow, Nat.reducePow, Int.reduceLE, Int.reduceLT, Nat.reduceLT, and_self, Nat.reduceLeDiff, Int.reduceNeg, Int.reduceAdd, Int.reduceSub, Int.reduceMul, Int.cast_ofNat_Int, lvl_s]
      refine ⟨a, m, b, v, rfl, ha, ?_⟩
      try simp only [sRaise, sTry, wIsX, wWhat, wBack, lo_lst, e_mulV, sizeL, sNil, sSeq, sPass, sBrk, sCont, sExpr, sRet, sRetN, sIf, sNever, sSet, sAug, gNm, gTp, gNil', gCons', gSb, sAsg, sPar, sFor, wVar_z, wVar_s, wC, wChn, wTru, sPar3, wRev, wCallK, permF, List.filterMap_cons, List.filterMap_nil, wBin, wUn, wTst, wNot, wAnd, wOr, wAndV, wOrV, wNotV, wIf, wNil, wCons, wTup, wLst, wLstL, wFz, wCall, wBi, wMt, wMt0, wSl, wSlL, wPart, wNoPart, wYes, wSeq, wRg1, wRg2, wEnum, wZip, wLc, wLcL, wLRg, wFld, sFldS, sFldA, gFld, wMeth, wMake, lvl2_s, onB, e_eqI, e_neI, e_eqB, e_neB, e_eqS, e_neS, e_eqN, e_tyLT, e_ty1, isTys, tyMem, tyN_non, tyN_bl, tyN_int, tyN_str, tyN_tup, tyN_lst, Bool.true_or, Bool.or_true, Bool.or_false, Bool.false_or, Bool.not_true, Bool.not_false, inn_non, inn_bl, inn_int, inn_str, inn_tup, inn_lst, inn_ptr, e_slT, e_slL, e_slN, isT_P, isT_L, isT_T, isT_N, e_sub, e_fdiv, e_mod, e_pow, e_lt, e_le, e_gt, e_ge, e_neg, e_add, e_addS, e_addT, e_addL, e_addPP, e_addPL, e_addLP, e_mul, e_mulL, e_mulT, e_augI, e_ixT, e_ixL, e_ixN, e_ixP, e_lenT, e_lenL, e_lenN, e_lenS, e_lenP, e_abs, e_intI, e_intB, e_max, e_min, e_tupL, e_tupT, e_listL, e_listT, e_listN, e_listLL, e_listLT, e_divmod, e_isNon, e_isntNon, e_isB, e_isntB, e_setIx, e_insert, e_append, e_isL, e_isLL, e_seqP, e_seqL, e_seqT, e_seqN, it_lst, it_fz, Option.bind_some, Option.isSome_some, ix10, ix20, ix21, ix30, ix32, dl1, dl2, dl3, List.eraseIdx_cons_zero, e_pop0, e_popAt, e_rev, e_clear, e_tupP, e_listP, e_neN, e_neIN, e_neNI, e_eqIN, e_eqNI, at0, at1, at2, at3, Cell.lst.injEq, Cell.obj.injEq, Option.some.injEq, exists_eq_left', decide_eq_true_eq, true_and, and_true, cup_same, cup_cup, List.flatten_nil, List.flatten_cons, enOf, endOf, excOf, List.map_cons, List.map_nil, List.length_cons, List.length_nil, List.replicate, Nat.reduceAdd, Nat.reduceSub, List.cons_append, List.nil_append, List.set_cons_zero, List.set_cons_succ, List.getElem?_cons_zero, List.getElem?_cons_succ, List.getElem_cons_zero, List.getElem_cons_succ, reduceCtorEq, if_true, if_false, Bool.false_eq_true, decide_true, decide_false, ne_eq, not_true, not_false_eq_true, Int.reduceEq, Nat.reduceMul, true_imp_iff, Int.reduceToNat, Int.reducePow, Nat.reducePow, Int.reduceLE, Int.reduceLT, Nat.reduceLT, and_self, Nat.reduceLeDiff, Int.reduceNeg, Int.reduceAdd, Int.reduceSub, Int.reduceMul, Int.cast_ofNat_Int, lvl_s]
      rw [show rgD 0 17 = (List.range 17).map fun (i : Nat) => D.int (i : Nat) from rgD_nat 17]
      refine ⟨by simp, ?_⟩
      refine lcM (fun (i : Nat) => D.int (i : Nat)) (fun j => .bl (decide (j = pre.length))) trivial ?_ ?_
      · intro j _
        refine ⟨_, rfl, fun Q q => ?_⟩
        try simp only [ewipe, sRaise, sTry, wIsX, wWhat, wBack, lo_lst, e_mulV, sizeL, sNil, sSeq, sPass, sBrk, sCont, sExpr, sRet, sRetN, sIf, sNever, sSet, sAug, gNm, gTp, gNil', gCons', gSb, sAsg, sPar, sFor, wVar_z, wVar_s, wC, wChn, wTru, sPar3, wRev, wCallK, permF, List.filterMap_cons, List.filterMap_nil, wBin, wUn, wTst, wNot, wAnd, wOr, wAndV, wOrV, wNotV, wIf, wNil, wCons, wTup, wLst, wLstL, wFz, wCall, wBi, wMt, wMt0, wSl, wSlL, wPart, wNoPart, wYes, wSeq, wRg1, wRg2, wEnum, wZip, wLc, wLcL, wLRg, wFld, sFldS, sFldA, gFld, wMeth, wMake, lvl2_s, onB, e_eqI, e_neI, e_eqB, e_neB, e_eqS, e_neS, e_eqN, e_tyLT, e_ty1, isTys, tyMem, tyN_non, tyN_bl, tyN_int, tyN_str, tyN_tup, tyN_lst, Bool.true_or, Bool.or_true, Bool.or_false, Bool.false_or, Bool.not_true, Bool.not_false, inn_non, inn_bl, inn_int, inn_str, inn_tup, inn_lst, inn_ptr, e_slT, e_slL, e_slN, isT_P, isT_L, isT_T, isT_N, e_sub, e_fdiv, e_mod, e_pow, e_lt, e_le, e_gt, e_ge, e_neg, e_add, e_addS, e_addT, e_addL, e_addPP, e_addPL, e_addLP, e_mul, e_mulL, e_mulT, e_augI, e_ixT, e_ixL, e_ixN, e_ixP, e_lenT, e_lenL, e_lenN, e_lenS, e_lenP, e_abs, e_intI, e_intB, e_max, e_min, e_tupL, e_tupT, e_listL, e_listT, e_listN, e_listLL, e_listLT, e_divmod, e_isNon, e_isntNon, e_isB, e_isntB, e_setIx, e_insert, e_append, e_isL, e_isLL, e_seqP, e_seqL, e_seqT, e_seqN, it_lst, it_fz, Option.bind_some, Option.isSome_some, ix10, ix20, ix21, ix30, ix32, dl1, dl2, dl3, List.eraseIdx_cons_zero, e_pop0, e_popAt, e_rev, e_clear, e_tupP, e_listP, e_neN, e_neIN, e_neNI, e_eqIN, e_eqNI, at0, at1, at2, at3, Cell.lst.injEq, Cell.obj.injEq, Option.some.injEq, exists_eq_left', decide_eq_true_eq, true_and, and_true, cup_same, cup_cup, List.flatten_nil, List.flatten_cons, enOf, endOf, excOf, List.map_cons, List.map_nil, List.length_cons, List.length_nil, List.replicate, Nat.reduceAdd, Nat.reduceSub, List.cons_append, List.nil_append, List.set_cons_zero, List.set_cons_succ, List.getElem?_cons_zero, List.getElem?_cons_succ, List.getElem_cons_zero, List.getElem_cons_succ, reduceCtorEq, if_true, if_false, Bool.false_eq_true, decide_true, decide_false, ne_eq, not_true, not_false_eq_true, Int.reduceEq, Nat.reduceMul, true_imp_iff, Int.reduceToNat, Int.reducePow, Nat.reducePow, Int.reduceLE, Int.reduceLT, Nat.reduceLT, and_self, Nat.reduceLeDiff, Int.reduceNeg, Int.reduceAdd, Int.reduceSub, Int.reduceMul, Int.cast_ofNat_Int, lvl_s]
        rw [show decide ((j : Int) = (pre.length : Nat)) = decide (j = pre.length) from decide_eq_decide.mpr Int.ofNat_inj]
        exact q
      have m2 := hk2.2
      have m2 := congrArg (List.map D.bl) m2
      rw [List.map_map, List.map_map] at m2
      rw [show ((List.range 17).map fun j => D.bl (decide (j = pre.length))) = _ from m2.symm]
      refine e_neSelf rfl (by simp [dep, deps]) ?_
      have hs3 : ∀ {Q : DK} {X : XK0}, Q (.bl true) c2 → c_l_same (k + 9) [v, v] c2 Q X := fun {Q X} q => same_of hv.1 (by have h2 : dep v ≤ 1 := hv.2; omega) q
      try simp only [e0, sRaise, sTry, wIsX, wWhat, wBack, lo_lst, e_mulV, sizeL, sNil, sSeq, sPass, sBrk, sCont, sExpr, sRet, sRetN, sIf, sNever, sSet, sAug, gNm, gTp, gNil', gCons', gSb, sAsg, sPar, sFor, wVar_z, wVar_s, wC, wChn, wTru, sPar3, wRev, wCallK, permF, List.filterMap_cons, List.filterMap_nil, wBin, wUn, wTst, wNot, wAnd, wOr, wAndV, wOrV, wNotV, wIf, wNil, wCons, wTup, wLst, wLstL, wFz, wCall, wBi, wMt, wMt0, wSl, wSlL, wPart, wNoPart, wYes, wSeq, wRg1, wRg2, wEnum, wZip, wLc, wLcL, wLRg, wFld, sFldS, sFldA, gFld, wMeth, wMake, lvl2_s, onB, e_eqI, e_neI, e_eqB, e_neB, e_eqS, e_neS, e_eqN, e_tyLT, e_ty1, isTys, tyMem, tyN_non, tyN_bl, tyN_int, tyN_str, tyN_tup, tyN_lst, Bool.true_or, Bool.or_true, Bool.or_false, Bool.false_or, Bool.not_true, Bool.not_false, inn_non, inn_bl, inn_int, inn_str, inn_tup, inn_lst, inn_ptr, e_slT, e_slL, e_slN, isT_P, isT_L, isT_T, isT_N, e_sub, e_fdiv, e_mod, e_pow, e_lt, e_le, e_gt, e_ge, e_neg, e_add, e_addS, e_addT, e_addL, e_addPP, e_addPL, e_addLP, e_mul, e_mulL, e_mulT, e_augI, e_ixT, e_ixL, e_ixN, e_ixP, e_lenT, e_lenL, e_lenN, e_lenS, e_lenP, e_abs, e_intI, e_intB, e_max, e_min, e_tupL, e_tupT, e_listL, e_listT, e_listN, e_listLL, e_listLT, e_divmod, e_isNon, e_isntNon, e_isB, e_isntB, e_setIx, e_insert, e_append, e_isL, e_isLL, e_seqP, e_seqL, e_seqT, e_seqN, it_lst, it_fz, Option.bind_some, Option.isSome_some, ix10, ix20, ix21, ix30, ix32, dl1, dl2, dl3, List.eraseIdx_cons_zero, e_pop0, e_popAt, e_rev, e_clear, e_tupP, e_listP, e_neN, e_neIN, e_neNI, e_eqIN, e_eqNI, at0, at1, at2, at3, Cell.lst.injEq, Cell.obj.injEq, Option.some.injEq, exists_eq_left', decide_eq_true_eq, true_and, and_true, cup_same, cup_cup, List.flatten_nil, List.flatten_cons, enOf, endOf, excOf, List.map_cons, List.map_nil, List.length_cons, List.length_nil, List.replicate, Nat.reduceAdd, Nat.reduceSub, List.cons_append, List.nil_append, List.set_cons_zero, List.set_cons_succ, List.getElem?_cons_zero, List.getElem?_cons_succ, List.getElem_cons_zero, List.getElem_cons_succ, reduceCtorEq, if_true, if_false, Bool.false_eq_true, decide_true, decide_false, ne_eq, not_true, not_false_eq_true, Int.reduceEq, Nat.reduceMul, true_imp_iff, Int.reduceToNat, Int.reducePow, Nat.reducePow, Int.reduceLE, Int.reduceLT, Nat.reduceLT, and_self, Nat.reduceLeDiff, Int.reduceNeg, Int.reduceAdd, Int.reduceSub, Int.reduceMul, Int.cast_ofNat_Int, lvl_s]
      refine hs3 ?_
      try simp only [sRaise, sTry, wIsX, wWhat, wBack, lo_lst, e_mulV, sizeL, sNil, sSeq, sPass, sBrk, sCont, sExpr, sRet, sRetN, sIf, sNever, sSet, sAug, gNm, gTp, gNil', gCons', gSb, sAsg, sPar, sFor, wVar_z, wVar_s, wC, wChn, wTru, sPar3, wRev, wCallK, permF, List.filterMap_cons, List.filterMap_nil, wBin, wUn, wTst, wNot, wAnd, wOr, wAndV, wOrV, wNotV, wIf, wNil, wCons, wTup, wLst, wLstL, wFz, wCall, wBi, wMt, wMt0, wSl, wSlL, wPart, wNoPart, wYes, wSeq, wRg1, wRg2, wEnum, wZip, wLc, wLcL, wLRg, wFld, sFldS, sFldA, gFld, wMeth, wMake, lvl2_s, onB, e_eqI, e_neI, e_eqB, e_neB, e_eqS, e_neS, e_eqN, e_tyLT, e_ty1, isTys, tyMem, tyN_non, tyN_bl, tyN_int, tyN_str, tyN_tup, tyN_lst, Bool.true_or, Bool.or_true, Bool.or_false, Bool.false_or, Bool.not_true, Bool.not_false, inn_non, inn_bl, inn_int, inn_str, inn_tup, inn_lst, inn_ptr, e_slT, e_slL, e_slN, isT_P, isT_L, isT_T, isT_N, e_sub, e_fdiv, e_mod, e_pow, e_lt, e_le, e_gt, e_ge, e_neg, e_add, e_addS, e_addT, e_addL, e_addPP, e_addPL, e_addLP, e_mul, e_mulL, e_mulT, e_augI, e_ixT, e_ixL, e_ixN, e_ixP, e_lenT, e_lenL, e_lenN, e_lenS, e_lenP, e_abs, e_intI, e_intB, e_max, e_min, e_tupL, e_tupT, e_listL, e_listT, e_listN, e_listLL, e_listLT, e_divmod, e_isNon, e_isntNon, e_isB, e_isntB, e_setIx, e_insert, e_append, e_isL, e_isLL, e_seqP, e_seqL, e_seqT, e_seqN, it_lst, it_fz, Option.bind_some, Option.isSome_some, ix10, ix20, ix21, ix30, ix32, dl1, dl2, dl3, List.eraseIdx_cons_zero, e_pop0, e_popAt, e_rev, e_clear, e_tupP, e_listP, e_neN, e_neIN, e_neNI, e_eqIN, e_eqNI, at0, at1, at2, at3, Cell.lst.injEq, Cell.obj.injEq, Option.some.injEq, exists_eq_left', decide_eq_true_eq, true_and, and_true, cup_same, cup_cup, List.flatten_nil, List.flatten_cons, enOf, endOf, excOf, List.map_cons, List.map_nil, List.length_cons, List.length_nil, List.replicate, Nat.reduceAdd, Nat.reduceSub, List.cons_append, List.nil_append, List.set_cons_zero, List.set_cons_succ, List.getElem?_cons_zero, List.getElem?_cons_succ, List.getElem_cons_zero, List.getElem_cons_succ, reduceCtorEq, if_true, if_false, Bool.false_eq_true, decide_true, decide_false, ne_eq, not_true, not_false_eq_true, Int.reduceEq, Nat.reduceMul, true_imp_iff, Int.reduceToNat, Int.reducePow, Nat.reducePow, Int.reduceLE, Int.reduceLT, Nat.reduceLT, and_self, Nat.reduceLeDiff, Int.reduceNeg, Int.reduceAdd, Int.reduceSub, Int.reduceMul, Int.cast_ofNat_Int, lvl_s]
      exact st2.1 _ _ ⟨⟨_, _, rfl⟩, rfl⟩
    · rintro en c2 ⟨⟨o5, o9, rfl⟩, rfl⟩
      exact ⟨trivial, st.1 _ _ ⟨⟨_, _, _, _, _, _, _, _, rfl⟩, rfl⟩⟩
  · rintro en c' ⟨⟨o1, o3, o4, o5, o6, o7, o8, o9, rfl⟩, rfl⟩
    refine ⟨trivial, ?_⟩
    try simp only [sRaise, sTry, wIsX, wWhat, wBack, lo_lst, e_mulV, sizeL, sNil, sSeq, sPass, sBrk, sCont, sExpr, sRet, sRetN, sIf, sNever, sSet, sAug, gNm, gTp, gNil', gCons', gSb, sAsg, sPar, sFor, wVar_z, wVar_s, wC, wChn, wTru, sPar3, wRev, wCallK, permF, List.filterMap_cons, List.filterMap_nil, wBin, wUn, wTst, wNot, wAnd, wOr, wAndV, wOrV, wNotV, wIf, wNil, wCons, wTup, wLst, wLstL, wFz, wCall, wBi, wMt, wMt0, wSl, wSlL, wPart, wNoPart, wYes, wSeq, wRg1, wRg2, wEnum, wZip, wLc, wLcL, wLRg, wFld, sFldS, sFldA, gFld, wMeth, wMake, lvl2_s, onB, e_eqI, e_neI, e_eqB, e_neB, e_eqS, e_neS, e_eqN, e_tyLT, e_ty1, isTys, tyMem, tyN_non, tyN_bl, tyN_int, tyN_str, tyN_tup, tyN_lst, Bool.true_or, Bool.or_true, Bool.or_false, Bool.false_or, Bool.not_true, Bool.not_false, inn_non, inn_bl, inn_int, inn_str, inn_tup, inn_lst, inn_ptr, e_slT, e_slL, e_slN, isT_P, isT_L, isT_T, isT_N, e_sub, e_fdiv, e_mod, e_pow, e_lt, e_le, e_gt, e_ge, e_neg, e_add, e_addS, e_addT, e_addL, e_addPP, e_addPL, e_addLP, e_mul, e_mulL, e_mulT, e_augI, e_ixT, e_ixL, e_ixN, e_ixP, e_lenT, e_lenL, e_lenN, e_lenS, e_lenP, e_abs, e_intI, e_intB, e_max, e_min, e_tupL, e_tupT, e_listL, e_listT, e_listN, e_listLL, e_listLT, e_divmod, e_isNon, e_isntNon, e_isB, e_isntB, e_setIx, e_insert, e_append, e_isL, e_isLL, e_seqP, e_seqL, e_seqT, e_seqN, it_lst, it_fz, Option.bind_some, Option.isSome_some, ix10, ix20, ix21, ix30, ix32, dl1, dl2, dl3, List.eraseIdx_cons_zero, e_pop0, e_popAt, e_rev, e_clear, e_tupP, e_listP, e_neN, e_neIN, e_neNI, e_eqIN, e_eqNI, at0, at1, at2, at3, Cell.lst.injEq, Cell.obj.injEq, Option.some.injEq, exists_eq_left', decide_eq_true_eq, true_and, and_true, cup_same, cup_cup, List.flatten_nil, List.flatten_cons, enOf, endOf, excOf, List.map_cons, List.map_nil, List.length_cons, List.length_nil, List.replicate, Nat.reduceAdd, Nat.reduceSub, List.cons_append, List.nil_append, List.set_cons_zero, List.set_cons_succ, List.getElem?_cons_zero, List.getElem?_cons_succ, List.getElem_cons_zero, List.getElem_cons_succ, reduceCtorEq, if_true, if_false, Bool.false_eq_true, decide_true, decide_false, ne_eq, not_true, not_false_eq_true, Int.reduceEq, Nat.reduceMul, true_imp_iff, Int.reduceToNat, Int.reducePow, Nat.reducePow, Int.reduceLE, Int.reduceLT, Nat.reduceLT, and_self, Nat.reduceLeDiff, Int.reduceNeg, Int.reduceAdd, Int.reduceSub, Int.reduceMul, Int.cast_ofNat_Int, lvl_s]
    exact ⟨_, CLe.refl _, q _ L⟩
def c_k45_law := c_lawOf
def w_k45_law (k : Nat) : WS := (sSeq (sSet 1 (wCall 2 c_l_folded k (wCons (wVar 0) (wCons (wC (.int 3)) wNil)))) (sRet (wBi oAll (wCons (wLc (wRg1 (wBi oMax (wCons (wC (.int 1)) (wCons (wBi oLen (wCons (wVar 1) wNil)) wNil)))) (.nm 2) wYes (wCall 1 c_k45_right k (wCons (wBin oAdd (wC (.int 1)) (wCall 2 c_l_take k (wCons (wCall 2 c_l_box k (wCons (wVar 1) (wCons (wVar 2) wNil))) (wCons (wBin oPow (wC (.int 10)) (wC (.int 9))) wNil)))) wNil)) [2]) wNil))))
theorem p_k45_law (k : Nat) (ds : List D) (c : Cs) (Q : DK) (X0 : XK0) (hlen0 : ds.length = 1) (h : c_k45_law k ds c Q X0) : w_k45_law k (endOf Q) (excOf X0) (enOf 3 ds) c := by
  obtain ⟨ns, rfl, h63, hk, q⟩ := h
  obtain ⟨k, rfl⟩ : ∃ k', k = k' + 30 := ⟨k - 30, by omega⟩
  simp only [w_k45_law, sRaise, sTry, wIsX, wWhat, wBack, lo_lst, e_mulV, sizeL, sNil, sSeq, sPass, sBrk, sCont, sExpr, sRet, sRetN, sIf, sNever, sSet, sAug, gNm, gTp, gNil', gCons', gSb, sAsg, sPar, sFor, wVar_z, wVar_s, wC, wChn, wTru, sPar3, wRev, wCallK, permF, List.filterMap_cons, List.filterMap_nil, wBin, wUn, wTst, wNot, wAnd, wOr, wAndV, wOrV, wNotV, wIf, wNil, wCons, wTup, wLst, wLstL, wFz, wCall, wBi, wMt, wMt0, wSl, wSlL, wPart, wNoPart, wYes, wSeq, wRg1, wRg2, wEnum, wZip, wLc, wLcL, wLRg, wFld, sFldS, sFldA, gFld, wMeth, wMake, lvl2_s, onB, e_eqI, e_neI, e_eqB, e_neB, e_eqS, e_neS, e_eqN, e_tyLT, e_ty1, isTys, tyMem, tyN_non, tyN_bl, tyN_int, tyN_str, tyN_tup, tyN_lst, Bool.true_or, Bool.or_true, Bool.or_false, Bool.false_or, Bool.not_true, Bool.not_false, inn_non, inn_bl, inn_int, inn_str, inn_tup, inn_lst, inn_ptr, e_slT, e_slL, e_slN, isT_P, isT_L, isT_T, isT_N, e_sub, e_fdiv, e_mod, e_pow, e_lt, e_le, e_gt, e_ge, e_neg, e_add, e_addS, e_addT, e_addL, e_addPP, e_addPL, e_addLP, e_mul, e_mulL, e_mulT, e_augI, e_ixT, e_ixL, e_ixN, e_ixP, e_lenT, e_lenL, e_lenN, e_lenS, e_lenP, e_abs, e_intI, e_intB, e_max, e_min, e_tupL, e_tupT, e_listL, e_listT, e_listN, e_listLL, e_listLT, e_divmod, e_isNon, e_isntNon, e_isB, e_isntB, e_setIx, e_insert, e_append, e_isL, e_isLL, e_seqP, e_seqL, e_seqT, e_seqN, it_lst, it_fz, Option.bind_some, Option.isSome_some, ix10, ix20, ix21, ix30, ix32, dl1, dl2, dl3, List.eraseIdx_cons_zero, e_pop0, e_popAt, e_rev, e_clear, e_tupP, e_listP, e_neN, e_neIN, e_neNI, e_eqIN, e_eqNI, at0, at1, at2, at3, Cell.lst.injEq, Cell.obj.injEq, Option.some.injEq, exists_eq_left', decide_eq_true_eq, true_and, and_true, cup_same, cup_cup, List.flatten_nil, List.flatten_cons, enOf, endOf, excOf, List.map_cons, List.map_nil, List.length_cons, List.length_nil, List.replicate, Nat.reduceAdd, Nat.reduceSub, List.cons_append, List.nil_append, List.set_cons_zero, List.set_cons_succ, List.getElem?_cons_zero, List.getElem?_cons_succ, List.getElem_cons_zero, List.getElem_cons_succ, reduceCtorEq, if_true, if_false, Bool.false_eq_true, decide_true, decide_false, ne_eq, not_true, not_false_eq_true, Int.reduceEq, Nat.reduceMul, true_imp_iff, Int.reduceToNat, Int.reducePow, Nat.reducePow, Int.reduceLE, Int.reduceLT, Nat.reduceLT, and_self, Nat.reduceLeDiff, Int.reduceNeg, Int.reduceAdd, Int.reduceSub, Int.reduceMul, Int.cast_ofNat_Int, lvl_s]
  refine ⟨ns, 3, rfl, h63, by omega, by omega, fun ms hms => ?_⟩
  have hc := cells_le hms
  simp only [sRaise, sTry, wIsX, wWhat, wBack, lo_lst, e_mulV, sizeL, sNil, sSeq, sPass, sBrk, sCont, sExpr, sRet, sRetN, sIf, sNever, sSet, sAug, gNm, gTp, gNil', gCons', gSb, sAsg, sPar, sFor, wVar_z, wVar_s, wC, wChn, wTru, sPar3, wRev, wCallK, permF, List.filterMap_cons, List.filterMap_nil, wBin, wUn, wTst, wNot, wAnd, wOr, wAndV, wOrV, wNotV, wIf, wNil, wCons, wTup, wLst, wLstL, wFz, wCall, wBi, wMt, wMt0, wSl, wSlL, wPart, wNoPart, wYes, wSeq, wRg1, wRg2, wEnum, wZip, wLc, wLcL, wLRg, wFld, sFldS, sFldA, gFld, wMeth, wMake, lvl2_s, onB, e_eqI, e_neI, e_eqB, e_neB, e_eqS, e_neS, e_eqN, e_tyLT, e_ty1, isTys, tyMem, tyN_non, tyN_bl, tyN_int, tyN_str, tyN_tup, tyN_lst, Bool.true_or, Bool.or_true, Bool.or_false, Bool.false_or, Bool.not_true, Bool.not_false, inn_non, inn_bl, inn_int, inn_str, inn_tup, inn_lst, inn_ptr, e_slT, e_slL, e_slN, isT_P, isT_L, isT_T, isT_N, e_sub, e_fdiv, e_mod, e_pow, e_lt, e_le, e_gt, e_ge, e_neg, e_add, e_addS, e_addT, e_addL, e_addPP, e_addPL, e_addLP, e_mul, e_mulL, e_mulT, e_augI, e_ixT, e_ixL, e_ixN, e_ixP, e_lenT, e_lenL, e_lenN, e_lenS, e_lenP, e_abs, e_intI, e_intB, e_max, e_min, e_tupL, e_tupT, e_listL, e_listT, e_listN, e_listLL, e_listLT, e_divmod, e_isNon, e_isntNon, e_isB, e_isntB, e_setIx, e_insert, e_append, e_isL, e_isLL, e_seqP, e_seqL, e_seqT, e_seqN, it_lst, it_fz, Option.bind_some, Option.isSome_some, ix10, ix20, ix21, ix30, ix32, dl1, dl2, dl3, List.eraseIdx_cons_zero, e_pop0, e_popAt, e_rev, e_clear, e_tupP, e_listP, e_neN, e_neIN, e_neNI, e_eqIN, e_eqNI, at0, at1, at2, at3, Cell.lst.injEq, Cell.obj.injEq, Option.some.injEq, exists_eq_left', decide_eq_true_eq, true_and, and_true, cup_same, cup_cup, List.flatten_nil, List.flatten_cons, enOf, endOf, excOf, List.map_cons, List.map_nil, List.length_cons, List.length_nil, List.replicate, Nat.reduceAdd, Nat.reduceSub, List.cons_append, List.nil_append, List.set_cons_zero, List.set_cons_succ, List.getElem?_cons_zero, List.getElem?_cons_succ, List.getElem_cons_zero, List.getElem_cons_succ, reduceCtorEq, if_true, if_false, Bool.false_eq_true, decide_true, decide_false, ne_eq, not_true, not_false_eq_true, Int.reduceEq, Nat.reduceMul, true_imp_iff, Int.reduceToNat, Int.reducePow, Nat.reducePow, Int.reduceLE, Int.reduceLT, Nat.reduceLT, and_self, Nat.reduceLeDiff, Int.reduceNeg, Int.reduceAdd, Int.reduceSub, Int.reduceMul, Int.cast_ofNat_Int, lvl_s]
  generalize (if ((ms.map D.int).length : Int) > 1 then ((ms.map D.int).length : Int) else 1) = mx at hc ⊢
  refine ⟨by omega, by omega, by rw [rgD0_len]; omega, ?_⟩
  refine lc_inv (fun i acc c' => ∀ y ∈ acc, y = .bl true) (by simp) ?_ ?_
  · intro i acc c' d hd hacc
    obtain ⟨rfl, hj⟩ := rgD0_get hd
    refine ⟨trivial, _, rfl, fun Nx kk => ?_⟩
    simp only [sRaise, sTry, wIsX, wWhat, wBack, lo_lst, e_mulV, sizeL, sNil, sSeq, sPass, sBrk, sCont, sExpr, sRet, sRetN, sIf, sNever, sSet, sAug, gNm, gTp, gNil', gCons', gSb, sAsg, sPar, sFor, wVar_z, wVar_s, wC, wChn, wTru, sPar3, wRev, wCallK, permF, List.filterMap_cons, List.filterMap_nil, wBin, wUn, wTst, wNot, wAnd, wOr, wAndV, wOrV, wNotV, wIf, wNil, wCons, wTup, wLst, wLstL, wFz, wCall, wBi, wMt, wMt0, wSl, wSlL, wPart, wNoPart, wYes, wSeq, wRg1, wRg2, wEnum, wZip, wLc, wLcL, wLRg, wFld, sFldS, sFldA, gFld, wMeth, wMake, lvl2_s, onB, e_eqI, e_neI, e_eqB, e_neB, e_eqS, e_neS, e_eqN, e_tyLT, e_ty1, isTys, tyMem, tyN_non, tyN_bl, tyN_int, tyN_str, tyN_tup, tyN_lst, Bool.true_or, Bool.or_true, Bool.or_false, Bool.false_or, Bool.not_true, Bool.not_false, inn_non, inn_bl, inn_int, inn_str, inn_tup, inn_lst, inn_ptr, e_slT, e_slL, e_slN, isT_P, isT_L, isT_T, isT_N, e_sub, e_fdiv, e_mod, e_pow, e_lt, e_le, e_gt, e_ge, e_neg, e_add, e_addS, e_addT, e_addL, e_addPP, e_addPL, e_addLP, e_mul, e_mulL, e_mulT, e_augI, e_ixT, e_ixL, e_ixN, e_ixP, e_lenT, e_lenL, e_lenN, e_lenS, e_lenP, e_abs, e_intI, e_intB, e_max, e_min, e_tupL, e_tupT, e_listL, e_listT, e_listN, e_listLL, e_listLT, e_divmod, e_isNon, e_isntNon, e_isB, e_isntB, e_setIx, e_insert, e_append, e_isL, e_isLL, e_seqP, e_seqL, e_seqT, e_seqN, it_lst, it_fz, Option.bind_some, Option.isSome_some, ix10, ix20, ix21, ix30, ix32, dl1, dl2, dl3, List.eraseIdx_cons_zero, e_pop0, e_popAt, e_rev, e_clear, e_tupP, e_listP, e_neN, e_neIN, e_neNI, e_eqIN, e_eqNI, at0, at1, at2, at3, Cell.lst.injEq, Cell.obj.injEq, Option.some.injEq, exists_eq_left', decide_eq_true_eq, true_and, and_true, cup_same, cup_cup, List.flatten_nil, List.flatten_cons, enOf, endOf, excOf, List.map_cons, List.map_nil, List.length_cons, List.length_nil, List.replicate, Nat.reduceAdd, Nat.reduceSub, List.cons_append, List.nil_append, List.set_cons_zero, List.set_cons_succ, List.getElem?_cons_zero, List.getElem?_cons_succ, List.getElem_cons_zero, List.getElem_cons_succ, reduceCtorEq, if_true, if_false, Bool.false_eq_true, decide_true, decide_false, ne_eq, not_true, not_false_eq_true, Int.reduceEq, Nat.reduceMul, true_imp_iff, Int.reduceToNat, Int.reducePow, Nat.reducePow, Int.reduceLE, Int.reduceLT, Nat.reduceLT, and_self, Nat.reduceLeDiff, Int.reduceNeg, Int.reduceAdd, Int.reduceSub, Int.reduceMul, Int.cast_ofNat_Int, ewipe, lvl_s]
    refine ⟨ms, _, rfl, by omega, by omega, fun p c1 hp u => ?_⟩
    simp only [sRaise, sTry, wIsX, wWhat, wBack, lo_lst, e_mulV, sizeL, sNil, sSeq, sPass, sBrk, sCont, sExpr, sRet, sRetN, sIf, sNever, sSet, sAug, gNm, gTp, gNil', gCons', gSb, sAsg, sPar, sFor, wVar_z, wVar_s, wC, wChn, wTru, sPar3, wRev, wCallK, permF, List.filterMap_cons, List.filterMap_nil, wBin, wUn, wTst, wNot, wAnd, wOr, wAndV, wOrV, wNotV, wIf, wNil, wCons, wTup, wLst, wLstL, wFz, wCall, wBi, wMt, wMt0, wSl, wSlL, wPart, wNoPart, wYes, wSeq, wRg1, wRg2, wEnum, wZip, wLc, wLcL, wLRg, wFld, sFldS, sFldA, gFld, wMeth, wMake, lvl2_s, onB, e_eqI, e_neI, e_eqB, e_neB, e_eqS, e_neS, e_eqN, e_tyLT, e_ty1, isTys, tyMem, tyN_non, tyN_bl, tyN_int, tyN_str, tyN_tup, tyN_lst, Bool.true_or, Bool.or_true, Bool.or_false, Bool.false_or, Bool.not_true, Bool.not_false, inn_non, inn_bl, inn_int, inn_str, inn_tup, inn_lst, inn_ptr, e_slT, e_slL, e_slN, isT_P, isT_L, isT_T, isT_N, e_sub, e_fdiv, e_mod, e_pow, e_lt, e_le, e_gt, e_ge, e_neg, e_add, e_addS, e_addT, e_addL, e_addPP, e_addPL, e_addLP, e_mul, e_mulL, e_mulT, e_augI, e_ixT, e_ixL, e_ixN, e_ixP, e_lenT, e_lenL, e_lenN, e_lenS, e_lenP, e_abs, e_intI, e_intB, e_max, e_min, e_tupL, e_tupT, e_listL, e_listT, e_listN, e_listLL, e_listLT, e_divmod, e_isNon, e_isntNon, e_isB, e_isntB, e_setIx, e_insert, e_append, e_isL, e_isLL, e_seqP, e_seqL, e_seqT, e_seqN, it_lst, it_fz, Option.bind_some, Option.isSome_some, ix10, ix20, ix21, ix30, ix32, dl1, dl2, dl3, List.eraseIdx_cons_zero, e_pop0, e_popAt, e_rev, e_clear, e_tupP, e_listP, e_neN, e_neIN, e_neNI, e_eqIN, e_eqNI, at0, at1, at2, at3, Cell.lst.injEq, Cell.obj.injEq, Option.some.injEq, exists_eq_left', decide_eq_true_eq, true_and, and_true, cup_same, cup_cup, List.flatten_nil, List.flatten_cons, enOf, endOf, excOf, List.map_cons, List.map_nil, List.length_cons, List.length_nil, List.replicate, Nat.reduceAdd, Nat.reduceSub, List.cons_append, List.nil_append, List.set_cons_zero, List.set_cons_succ, List.getElem?_cons_zero, List.getElem?_cons_succ, List.getElem_cons_zero, List.getElem_cons_succ, reduceCtorEq, if_true, if_false, Bool.false_eq_true, decide_true, decide_false, ne_eq, not_true, not_false_eq_true, Int.reduceEq, Nat.reduceMul, true_imp_iff, Int.reduceToNat, Int.reducePow, Nat.reducePow, Int.reduceLE, Int.reduceLT, Nat.reduceLT, and_self, Nat.reduceLeDiff, Int.reduceNeg, Int.reduceAdd, Int.reduceSub, Int.reduceMul, Int.cast_ofNat_Int, ewipe, lvl_s]
    refine ⟨p, _, _, 1, rfl, by omega, by omega, by omega, by omega, u.1, by omega, fun r c2 r0 r1 u2 => ?_⟩
    simp only [sRaise, sTry, wIsX, wWhat, wBack, lo_lst, e_mulV, sizeL, sNil, sSeq, sPass, sBrk, sCont, sExpr, sRet, sRetN, sIf, sNever, sSet, sAug, gNm, gTp, gNil', gCons', gSb, sAsg, sPar, sFor, wVar_z, wVar_s, wC, wChn, wTru, sPar3, wRev, wCallK, permF, List.filterMap_cons, List.filterMap_nil, wBin, wUn, wTst, wNot, wAnd, wOr, wAndV, wOrV, wNotV, wIf, wNil, wCons, wTup, wLst, wLstL, wFz, wCall, wBi, wMt, wMt0, wSl, wSlL, wPart, wNoPart, wYes, wSeq, wRg1, wRg2, wEnum, wZip, wLc, wLcL, wLRg, wFld, sFldS, sFldA, gFld, wMeth, wMake, lvl2_s, onB, e_eqI, e_neI, e_eqB, e_neB, e_eqS, e_neS, e_eqN, e_tyLT, e_ty1, isTys, tyMem, tyN_non, tyN_bl, tyN_int, tyN_str, tyN_tup, tyN_lst, Bool.true_or, Bool.or_true, Bool.or_false, Bool.false_or, Bool.not_true, Bool.not_false, inn_non, inn_bl, inn_int, inn_str, inn_tup, inn_lst, inn_ptr, e_slT, e_slL, e_slN, isT_P, isT_L, isT_T, isT_N, e_sub, e_fdiv, e_mod, e_pow, e_lt, e_le, e_gt, e_ge, e_neg, e_add, e_addS, e_addT, e_addL, e_addPP, e_addPL, e_addLP, e_mul, e_mulL, e_mulT, e_augI, e_ixT, e_ixL, e_ixN, e_ixP, e_lenT, e_lenL, e_lenN, e_lenS, e_lenP, e_abs, e_intI, e_intB, e_max, e_min, e_tupL, e_tupT, e_listL, e_listT, e_listN, e_listLL, e_listLT, e_divmod, e_isNon, e_isntNon, e_isB, e_isntB, e_setIx, e_insert, e_append, e_isL, e_isLL, e_seqP, e_seqL, e_seqT, e_seqN, it_lst, it_fz, Option.bind_some, Option.isSome_some, ix10, ix20, ix21, ix30, ix32, dl1, dl2, dl3, List.eraseIdx_cons_zero, e_pop0, e_popAt, e_rev, e_clear, e_tupP, e_listP, e_neN, e_neIN, e_neNI, e_eqIN, e_eqNI, at0, at1, at2, at3, Cell.lst.injEq, Cell.obj.injEq, Option.some.injEq, exists_eq_left', decide_eq_true_eq, true_and, and_true, cup_same, cup_cup, List.flatten_nil, List.flatten_cons, enOf, endOf, excOf, List.map_cons, List.map_nil, List.length_cons, List.length_nil, List.replicate, Nat.reduceAdd, Nat.reduceSub, List.cons_append, List.nil_append, List.set_cons_zero, List.set_cons_succ, List.getElem?_cons_zero, List.getElem?_cons_succ, List.getElem_cons_zero, List.getElem_cons_succ, reduceCtorEq, if_true, if_false, Bool.false_eq_true, decide_true, decide_false, ne_eq, not_true, not_false_eq_true, Int.reduceEq, Nat.reduceMul, true_imp_iff, Int.reduceToNat, Int.reducePow, Nat.reducePow, Int.reduceLE, Int.reduceLT, Nat.reduceLT, and_self, Nat.reduceLeDiff, Int.reduceNeg, Int.reduceAdd, Int.reduceSub, Int.reduceMul, Int.cast_ofNat_Int, ewipe, lvl_s]
    refine ⟨_, rfl, by omega, fun c' u' => kk _ _ fun y hy => ?_⟩
    rcases List.mem_append.mp hy with hy | hy
    · exact hacc y hy
    · exact List.mem_singleton.mp hy
  · intro acc c' hacc
    exact ⟨trivial, e_allT hacc ⟨c', CLe.refl _, q _⟩⟩
theorem k45_ct (ns : List Int) (h : ns.length ≤ 63) : c_k45_law 40 [.scr ns] (fun _ => none) (fun d _ => d = .bl true) (fun _ _ _ => False) := ⟨ns, rfl, h, by omega, fun _ => rfl⟩
end VL
namespace VL
open PySem PySem.Spec PyProof.Rows L2
def topS (i : Nat) : Stmt := PySem.Challenge.pw_midcarts_k45_refusals_made_by_hand.main.body.getD i (.Pass ⟨0, 0, 0, 0⟩)
abbrev s_l_box : Stmt := topS 19
theorem sc_l_box : FnScope ["_law_script", "_law_k", "_law_cell"] ["_law_script", "_law_k"] (defScope s_l_box) := ⟨rfl, rfl, rfl, by decide +kernel, rfl, by decide +kernel, by decide +kernel⟩
abbrev s_l_take : Stmt := topS 20
theorem sc_l_take : FnScope ["_law_box_here", "_law_size", "_law_step", "_law_once", "_law_twice", "_law_found"] ["_law_box_here", "_law_size"] (defScope s_l_take) := ⟨rfl, rfl, rfl, by decide +kernel, rfl, by decide +kernel, by decide +kernel⟩
abbrev s_l_folded : Stmt := topS 21
theorem sc_l_folded : FnScope ["_law_script", "_law_size", "_law_cells", "_law_k", "_law_cell"] ["_law_script", "_law_size"] (defScope s_l_folded) := ⟨rfl, rfl, rfl, by decide +kernel, rfl, by decide +kernel, by decide +kernel⟩
abbrev s_l_same : Stmt := topS 22
theorem sc_l_same : FnScope ["_law_found", "_law_wanted", "_law_one", "_law_other"] ["_law_found", "_law_wanted"] (defScope s_l_same) := ⟨rfl, rfl, rfl, by decide +kernel, rfl, by decide +kernel, by decide +kernel⟩
abbrev s_l_values : Stmt := topS 23
theorem sc_l_values : FnScope ["_law_n", "_law_found", "_law_loads", "_law_bearer"] ["_law_n"] (defScope s_l_values) := ⟨rfl, rfl, rfl, by decide +kernel, rfl, by decide +kernel, by decide +kernel⟩
abbrev s_l_lookups : Stmt := topS 24
theorem sc_l_lookups : FnScope ["_law_n", "_law_found", "_law_bearer"] ["_law_n"] (defScope s_l_lookups) := ⟨rfl, rfl, rfl, by decide +kernel, rfl, by decide +kernel, by decide +kernel⟩
abbrev s_l_kinds : Stmt := topS 25
theorem sc_l_kinds : FnScope ["_law_error", "_law_found"] ["_law_error"] (defScope s_l_kinds) := ⟨rfl, rfl, rfl, by decide +kernel, rfl, by decide +kernel, by decide +kernel⟩
abbrev s_l_right : Stmt := topS 26
theorem sc_l_right : FnScope ["_law_n", "_law_spot", "_law_rows", "_law_at", "_law_base", "_law_error", "_law_by_place", "_law_by_name", "_law_value", "_law_bases", "_law_k"] ["_law_n"] (defScope s_l_right) := ⟨rfl, rfl, rfl, by decide +kernel, rfl, by decide +kernel, by decide +kernel⟩
abbrev s_law : Stmt := topS 27
theorem sc_law : FnScope ["_law_script", "_law_cells", "_law_k"] ["_law_script"] (defScope s_law) := ⟨rfl, rfl, rfl, by decide +kernel, rfl, by decide +kernel, by decide +kernel⟩
section
variable {P : Program} {w : World} {K : PySem.W.Frag} {mg : Str → Option Value} {base : Heap} {k : Nat} {X_BadRow : Addr} {X_NotRising : Addr} {X_NoWorld : Addr} {X_Uneven : Addr} {X_Unlike : Addr} {X_BadGranary : Addr} {X_NoCart : Addr} {X_NoGranary : Addr} {X_NoBearer : Addr} {X_NoPlace : Addr} {X_NoCast : Addr} {X_NoLoad : Addr} {X_NoWish : Addr} {X_NoDeed : Addr} {X_Barred : Addr} {X_Alike : Addr} {X_BadDeed : Addr}
theorem d_l_box (b_len : mg "len" = none) (b_abs : mg "abs" = none) (b_int : mg "int" = none) (f : Addr) (cdv : Value) (A : Around) (outer : List PySem.Env) (s : Shared) (H : Hp) (E : XK) (hr : Room k (A.deeper (envOfC "_law_box" (defScope s_l_box) s.heap.objs.size f cdv))) (hg : A.guards = some []) :
    JSs (cxOf (L2.CX P w) P w K mg base ["_law_script", "_law_k", "_law_cell"] "_law_box" (defScope s_l_box) f cdv A outer s H E) (WXE E) (defBody s_l_box) (w_l_box k) := by
  have S := sc_l_box
  have tk : Takes (cxOf (L2.CX P w) P w K mg base ["_law_script", "_law_k", "_law_cell"] "_law_box" (defScope s_l_box) f cdv A outer s H E) (WXE E) := takes_of rfl rfl rfl rfl
  exact (jss_cons (js_set 2 S.nd (je_ifx (jt_cmp r_lt (je_var 1) (je_bi c_len b_len PySem.boot_len (ja_cons (je_var 0) ja_nil))) (je_ix (je_var 0) (je_var 1)) je_int)) (jss_one (js_ret (je_lstL (ja_cons (je_bin r_mul (je_bi c_abs b_abs PyProof.Rows.boot_abs (ja_cons (je_var 2) ja_nil)) (je_bt c_int b_int PyProof.Rows.boot_int (ja_cons (je_cmp r_ge (je_bi c_abs b_abs PyProof.Rows.boot_abs (ja_cons (je_var 2) ja_nil)) (je_bin r_pow je_int je_int)) ja_nil))) (ja_cons (je_bin r_mod (je_bin r_mul (je_bin r_add (je_bin r_add (je_bin r_mod (je_var 2) je_int) (je_bin r_mul je_int (je_var 1))) je_int) je_int) je_int) (ja_cons je_int ja_nil)))))))
theorem d_l_take (b_divmod : mg "divmod" = none) (C_l_take : Cal P w K mg base k "_law_take" 2 c_l_take) (f : Addr) (cdv : Value) (A : Around) (outer : List PySem.Env) (s : Shared) (H : Hp) (E : XK) (hr : Room k (A.deeper (envOfC "_law_take" (defScope s_l_take) s.heap.objs.size f cdv))) (hg : A.guards = some []) :
    JSs (cxOf (L2.CX P w) P w K mg base ["_law_box_here", "_law_size", "_law_step", "_law_once", "_law_twice", "_law_found"] "_law_take" (defScope s_l_take) f cdv A outer s H E) (WXE E) (defBody s_l_take) (w_l_take k) := by
  have S := sc_l_take
  have tk : Takes (cxOf (L2.CX P w) P w K mg base ["_law_box_here", "_law_size", "_law_step", "_law_once", "_law_twice", "_law_found"] "_law_take" (defScope s_l_take) f cdv A outer s H E) (WXE E) := takes_of rfl rfl rfl rfl
  exact (jss_cons (js_if (jt_cmp r_gt (je_ix (je_var 0) je_int) je_int) (jss_cons (js_asg (je_bi c_divmod b_divmod PyProof.Rows.boot_divmod (ja_cons (je_ix (je_var 0) je_int) (ja_cons (je_var 1) ja_nil))) (jg_tp rfl (jgs_cons (jg_sb (je_var 0) je_int) (jgs_cons (jg_nm 5 S.nd) jgs_nil)))) (jss_one (js_ret (je_var 5)))) jss_nil) (jss_cons (js_if (jt_cmp r_gt (je_var 1) (je_bin r_pow je_int je_int)) (jss_one (js_ret (je_bin r_mod (je_bin r_add (je_call C_l_take hr hg tk (ja_cons (je_var 0) (ja_cons (je_bin r_pow je_int je_int) ja_nil))) (je_bin r_mul (je_bin r_pow je_int je_int) (je_call C_l_take hr hg tk (ja_cons (je_var 0) (ja_cons (je_bin r_add (je_bin r_fdiv (je_bin r_sub (je_var 1) je_int) (je_bin r_pow je_int je_int)) je_int) ja_nil))))) (je_var 1)))) jss_nil) (jss_cons (js_asg (je_bin r_add (je_ix (je_var 0) je_int) je_int) (jg_sb (je_var 0) je_int)) (jss_cons (js_set 2 S.nd (je_bin r_add je_int (je_bin r_mul (je_ix (je_var 0) je_int) (je_ix (je_var 0) je_int)))) (jss_cons (js_set 3 S.nd (je_bin r_mod (je_bin r_mul (je_bin r_add (je_ix (je_var 0) je_int) (je_bin r_mul je_int (je_ix (je_var 0) je_int))) (je_var 2)) je_int)) (jss_cons (js_set 4 S.nd (je_bin r_mod (je_bin r_add (je_bin r_mul (je_var 3) (je_bin r_add (je_bin r_mod (je_var 3) je_int) je_int)) (je_ix (je_var 0) je_int)) je_int)) (jss_one (js_ret (je_bin r_mod (je_bin r_fdiv (je_bin r_mod (je_bin r_mul (je_var 4) (je_bin r_add (je_bin r_mod (je_var 4) je_int) je_int)) je_int) je_int) (je_var 1))))))))))
theorem d_l_folded (b_list : mg "list" = none) (b_enumerate : mg "enumerate" = none) (f : Addr) (cdv : Value) (A : Around) (outer : List PySem.Env) (s : Shared) (H : Hp) (E : XK) (hr : Room k (A.deeper (envOfC "_law_folded" (defScope s_l_folded) s.heap.objs.size f cdv))) (hg : A.guards = some []) :
    JSs (cxOf (L2.CX P w) P w K mg base ["_law_script", "_law_size", "_law_cells", "_law_k", "_law_cell"] "_law_folded" (defScope s_l_folded) f cdv A outer s H E) (WXE E) (defBody s_l_folded) (w_l_folded k) := by
  have S := sc_l_folded
  have tk : Takes (cxOf (L2.CX P w) P w K mg base ["_law_script", "_law_size", "_law_cells", "_law_k", "_law_cell"] "_law_folded" (defScope s_l_folded) f cdv A outer s H E) (WXE E) := takes_of rfl rfl rfl rfl
  exact (jss_cons (js_set 2 S.nd (je_bt c_listL b_list PyProof.Rows.boot_list (ja_cons (je_sl (je_var 0) jo_none (jo_some (je_var 1))) ja_nil))) (jss_cons (js_for (passes_of rfl) rfl (ji_enum b_enumerate (je_sl (je_var 0) (jo_some (je_var 1)) (jo_some je_int))) (jt_tp rfl (jtgs_cons (jt_nm 3 S.nd) (jtgs_cons (jt_nm 4 S.nd) jtgs_nil))) (jss_one (js_asg (je_bin r_add (je_ix (je_var 2) (je_bin r_mod (je_var 3) (je_var 1))) (je_bin r_mul (je_var 4) (je_bin r_add (je_var 3) je_int))) (jg_sb (je_var 2) (je_bin r_mod (je_var 3) (je_var 1)))))) (jss_one (js_ret (je_fz (je_var 2))))))
theorem d_l_same (b_list : mg "list" = none) (b_tuple : mg "tuple" = none) (b_isinstance : mg "isinstance" = none) (b_len : mg "len" = none) (b_zip : mg "zip" = none) (b_all : mg "all" = none) (b_str : mg "str" = none) (b_int : mg "int" = none) (b_bool : mg "bool" = none) (C_l_same : Cal P w K mg base k "_law_same" 2 c_l_same) (f : Addr) (cdv : Value) (A : Around) (outer : List PySem.Env) (s : Shared) (H : Hp) (E : XK) (hr : Room k (A.deeper (envOfC "_law_same" (defScope s_l_same) s.heap.objs.size f cdv))) (hg : A.guards = some []) :
    JSs (cxOf (L2.CX P w) P w K mg base ["_law_found", "_law_wanted", "_law_one", "_law_other"] "_law_same" (defScope s_l_same) f cdv A outer s H E) (WXE E) (defBody s_l_same) (w_l_same k) := by
  have S := sc_l_same
  have tk : Takes (cxOf (L2.CX P w) P w K mg base ["_law_found", "_law_wanted", "_law_one", "_law_other"] "_law_same" (defScope s_l_same) f cdv A outer s H E) (WXE E) := takes_of rfl rfl rfl rfl
  exact (jss_cons (js_if (jt_val (je_bi c_isi b_isinstance PyProof.Rows.boot_isinstance (ja_cons (je_var 1) (ja_cons (je_tup (ja_cons (je_ty (n := "list") b_list PyProof.Rows.boot_list) (ja_cons (je_ty (n := "tuple") b_tuple PyProof.Rows.boot_tuple) ja_nil))) ja_nil)))) (jss_cons (js_if (JW.jt (jw_or (jt_cmp (r_ne hr) (je_bi c_isi b_isinstance PyProof.Rows.boot_isinstance (ja_cons (je_var 0) (ja_cons (je_ty (n := "list") b_list PyProof.Rows.boot_list) ja_nil))) (je_bi c_isi b_isinstance PyProof.Rows.boot_isinstance (ja_cons (je_var 1) (ja_cons (je_ty (n := "list") b_list PyProof.Rows.boot_list) ja_nil)))) (jw_or1 (jt_cmp (r_ne hr) (je_bi c_isi b_isinstance PyProof.Rows.boot_isinstance (ja_cons (je_var 0) (ja_cons (je_ty (n := "tuple") b_tuple PyProof.Rows.boot_tuple) ja_nil))) (je_bi c_isi b_isinstance PyProof.Rows.boot_isinstance (ja_cons (je_var 1) (ja_cons (je_ty (n := "tuple") b_tuple PyProof.Rows.boot_tuple) ja_nil))))))) (jss_one (js_ret je_bl)) jss_nil) (jss_one (js_ret (je_and (je_cmp (r_eq hr) (je_bi c_len b_len PySem.boot_len (ja_cons (je_var 0) ja_nil)) (je_bi c_len b_len PySem.boot_len (ja_cons (je_var 1) ja_nil))) (je_one (je_bi (c_all rfl) b_all PyProof.Rows.boot_all (ja_cons (je_lc (own := [("_law_one", 2), ("_law_other", 3)]) rfl S.nd (ji_zip b_zip (je_var 0) (je_var 1)) (blkOk_by rfl) (fun _ _ _ _ _ => (jt_tp rfl (jtgs_cons (jt_nm 2 S.nd) (jtgs_cons (jt_nm 3 S.nd) jtgs_nil)))) (fun _ _ _ _ _ => jts_nil) (fun _ _ _ _ _ => (je_call C_l_same hr hg takes0 (ja_cons (je_var 2) (ja_cons (je_var 3) ja_nil))))) ja_nil))))))) jss_nil) (jss_cons (js_if (JW.jt (jw_or (jt_cmp r_is (je_var 1) je_non) (jw_or1 (jt_val (je_bi c_isi b_isinstance PyProof.Rows.boot_isinstance (ja_cons (je_var 1) (ja_cons (je_ty (n := "str") b_str (by decide +kernel)) ja_nil))))))) (jss_one (js_ret (je_and (je_cmp (r_eq hr) (je_var 0) (je_var 1)) (je_one (je_cmp (r_eq hr) (je_bi c_isi b_isinstance PyProof.Rows.boot_isinstance (ja_cons (je_var 0) (ja_cons (je_ty (n := "str") b_str (by decide +kernel)) ja_nil))) (je_bi c_isi b_isinstance PyProof.Rows.boot_isinstance (ja_cons (je_var 1) (ja_cons (je_ty (n := "str") b_str (by decide +kernel)) ja_nil)))))))) jss_nil) (jss_one (js_ret (je_and (je_bi c_isi b_isinstance PyProof.Rows.boot_isinstance (ja_cons (je_var 0) (ja_cons (je_ty (n := "int") b_int PyProof.Rows.boot_int) ja_nil))) (je_and (je_cmp (r_eq hr) (je_bi c_isi b_isinstance PyProof.Rows.boot_isinstance (ja_cons (je_var 0) (ja_cons (je_ty (n := "bool") b_bool (by decide +kernel)) ja_nil))) (je_bi c_isi b_isinstance PyProof.Rows.boot_isinstance (ja_cons (je_var 1) (ja_cons (je_ty (n := "bool") b_bool (by decide +kernel)) ja_nil)))) (je_one (je_cmp (r_eq hr) (je_var 0) (je_var 1)))))))))
theorem d_l_values (R_BadRow : MkrK P w K mg base "BadRow" EB.v) (R_NotRising : MkrK P w K mg base "NotRising" EB.v) (R_NoWorld : MkrK P w K mg base "NoWorld" EB.v) (R_Uneven : MkrK P w K mg base "Uneven" EB.v) (R_Unlike : MkrK P w K mg base "Unlike" EB.v) (R_BadGranary : MkrK P w K mg base "BadGranary" EB.v) (f : Addr) (cdv : Value) (A : Around) (outer : List PySem.Env) (s : Shared) (H : Hp) (E : XK) (hr : Room k (A.deeper (envOfC "_law_values" (defScope s_l_values) s.heap.objs.size f cdv))) (hg : A.guards = some []) :
    JSs (cxOf (L2.CX P w) P w K mg base ["_law_n", "_law_found", "_law_loads", "_law_bearer"] "_law_values" (defScope s_l_values) f cdv A outer s H E) (WXE E) (defBody s_l_values) (w_l_vals45 k) := by
  have S := sc_l_values
  have tk : Takes (cxOf (L2.CX P w) P w K mg base ["_law_n", "_law_found", "_law_loads", "_law_bearer"] "_law_values" (defScope s_l_values) f cdv A outer s H E) (WXE E) := takes_of rfl rfl rfl rfl
  exact (jss_cons (js_set 1 S.nd (je_lstL (ja_cons (je_tup (ja_cons (je_mkV R_BadRow hr hg (ja_cons (je_var 0) ja_nil)) (ja_cons (je_mkVK R_BadRow hr hg (jk_cons (je_var 0) jk_nil)) (ja_cons (je_var 0) ja_nil)))) (ja_cons (je_tup (ja_cons (je_mkV R_NotRising hr hg (ja_cons (je_var 0) ja_nil)) (ja_cons (je_mkVK R_NotRising hr hg (jk_cons (je_var 0) jk_nil)) (ja_cons (je_var 0) ja_nil)))) ja_nil)))) (jss_cons (js_expr (je_mt m_append PySem.F.plainAttrs_list PySem.F.slot_list_append PySem.F.type_list_append (je_var 1) (ja_cons (je_tup (ja_cons (je_mkV R_NoWorld hr hg (ja_cons (je_var 0) ja_nil)) (ja_cons (je_mkVK R_NoWorld hr hg (jk_cons (je_var 0) jk_nil)) (ja_cons (je_var 0) ja_nil)))) ja_nil))) (jss_cons (js_par 2 3 rfl S.nd (ja_cons (je_tup (ja_cons (je_var 0) (ja_cons (je_bin r_sub (je_var 0) je_int) ja_nil))) (ja_cons (je_tup (ja_cons (je_var 0) (ja_cons je_str ja_nil))) ja_nil))) (jss_cons (js_expr (je_mt m_append PySem.F.plainAttrs_list PySem.F.slot_list_append PySem.F.type_list_append (je_var 1) (ja_cons (je_tup (ja_cons (je_mkV R_Uneven hr hg (ja_cons (je_var 2) ja_nil)) (ja_cons (je_mkVK R_Uneven hr hg (jk_cons (je_var 2) jk_nil)) (ja_cons (je_var 2) ja_nil)))) ja_nil))) (jss_cons (js_expr (je_mt m_append PySem.F.plainAttrs_list PySem.F.slot_list_append PySem.F.type_list_append (je_var 1) (ja_cons (je_tup (ja_cons (je_mkV R_Unlike hr hg (ja_cons (je_var 3) ja_nil)) (ja_cons (je_mkVK R_Unlike hr hg (jk_cons (je_var 3) jk_nil)) (ja_cons (je_var 3) ja_nil)))) ja_nil))) (jss_one (js_ret (je_bin r_add (je_var 1) (je_lst (ja_cons (je_tup (ja_cons (je_mkV R_BadGranary hr hg (ja_cons (je_var 2) ja_nil)) (ja_cons (je_mkVK R_BadGranary hr hg (jk_cons (je_var 2) jk_nil)) (ja_cons (je_var 2) ja_nil)))) ja_nil))))))))))
theorem d_l_lookups (R_NoCart : MkrK P w K mg base "NoCart" EB.l) (R_NoGranary : MkrK P w K mg base "NoGranary" EB.l) (R_NoBearer : MkrK P w K mg base "NoBearer" EB.l) (R_NoPlace : MkrK P w K mg base "NoPlace" EB.l) (R_NoCast : MkrK P w K mg base "NoCast" EB.l) (R_NoLoad : MkrK P w K mg base "NoLoad" EB.l) (R_NoWish : MkrK P w K mg base "NoWish" EB.l) (R_NoDeed : MkrK P w K mg base "NoDeed" EB.l) (f : Addr) (cdv : Value) (A : Around) (outer : List PySem.Env) (s : Shared) (H : Hp) (E : XK) (hr : Room k (A.deeper (envOfC "_law_lookups" (defScope s_l_lookups) s.heap.objs.size f cdv))) (hg : A.guards = some []) :
    JSs (cxOf (L2.CX P w) P w K mg base ["_law_n", "_law_found", "_law_bearer"] "_law_lookups" (defScope s_l_lookups) f cdv A outer s H E) (WXE E) (defBody s_l_lookups) (w_l_looks45 k) := by
  have S := sc_l_lookups
  have tk : Takes (cxOf (L2.CX P w) P w K mg base ["_law_n", "_law_found", "_law_bearer"] "_law_lookups" (defScope s_l_lookups) f cdv A outer s H E) (WXE E) := takes_of rfl rfl rfl rfl
  exact (jss_cons (js_par 1 2 rfl S.nd (ja_cons (je_lstL (ja_cons (je_tup (ja_cons (je_mkV R_NoCart hr hg (ja_cons (je_var 0) ja_nil)) (ja_cons (je_mkVK R_NoCart hr hg (jk_cons (je_var 0) jk_nil)) (ja_cons (je_var 0) ja_nil)))) (ja_cons (je_tup (ja_cons (je_mkV R_NoGranary hr hg (ja_cons (je_var 0) ja_nil)) (ja_cons (je_mkVK R_NoGranary hr hg (jk_cons (je_var 0) jk_nil)) (ja_cons (je_var 0) ja_nil)))) ja_nil))) (ja_cons (je_tup (ja_cons (je_var 0) (ja_cons je_str ja_nil))) ja_nil))) (jss_cons (js_expr (je_mt m_append PySem.F.plainAttrs_list PySem.F.slot_list_append PySem.F.type_list_append (je_var 1) (ja_cons (je_tup (ja_cons (je_mkV R_NoBearer hr hg (ja_cons (je_var 2) ja_nil)) (ja_cons (je_mkVK R_NoBearer hr hg (jk_cons (je_var 2) jk_nil)) (ja_cons (je_var 2) ja_nil)))) ja_nil))) (jss_cons (js_set 1 S.nd (je_bin r_add (je_var 1) (je_lst (ja_cons (je_tup (ja_cons (je_mkV R_NoPlace hr hg (ja_cons je_str ja_nil)) (ja_cons (je_mkVK R_NoPlace hr hg (jk_cons je_str jk_nil)) (ja_cons je_str ja_nil)))) (ja_cons (je_tup (ja_cons (je_mkV R_NoCast hr hg (ja_cons (je_var 0) ja_nil)) (ja_cons (je_mkVK R_NoCast hr hg (jk_cons (je_var 0) jk_nil)) (ja_cons (je_var 0) ja_nil)))) ja_nil))))) (jss_cons (js_set 1 S.nd (je_bin r_add (je_var 1) (je_lst (ja_cons (je_tup (ja_cons (je_mkV R_NoLoad hr hg (ja_cons (je_var 0) ja_nil)) (ja_cons (je_mkVK R_NoLoad hr hg (jk_cons (je_var 0) jk_nil)) (ja_cons (je_var 0) ja_nil)))) (ja_cons (je_tup (ja_cons (je_mkV R_NoWish hr hg (ja_cons (je_var 0) ja_nil)) (ja_cons (je_mkVK R_NoWish hr hg (jk_cons (je_var 0) jk_nil)) (ja_cons (je_var 0) ja_nil)))) ja_nil))))) (jss_one (js_ret (je_bin r_add (je_var 1) (je_lst (ja_cons (je_tup (ja_cons (je_mkV R_NoDeed hr hg (ja_cons (je_var 0) ja_nil)) (ja_cons (je_mkVK R_NoDeed hr hg (jk_cons (je_var 0) jk_nil)) (ja_cons (je_var 0) ja_nil)))) ja_nil)))))))))
theorem d_l_kinds (b_isinstance : mg "isinstance" = none) (T_BadRow : ExcK K "BadRow" EB.v X_BadRow) (G_BadRow : mg "BadRow" = some (.ref X_BadRow)) (T_NotRising : ExcK K "NotRising" EB.v X_NotRising) (G_NotRising : mg "NotRising" = some (.ref X_NotRising)) (T_NoWorld : ExcK K "NoWorld" EB.v X_NoWorld) (G_NoWorld : mg "NoWorld" = some (.ref X_NoWorld)) (T_Uneven : ExcK K "Uneven" EB.v X_Uneven) (G_Uneven : mg "Uneven" = some (.ref X_Uneven)) (T_Unlike : ExcK K "Unlike" EB.v X_Unlike) (G_Unlike : mg "Unlike" = some (.ref X_Unlike)) (T_BadGranary : ExcK K "BadGranary" EB.v X_BadGranary) (G_BadGranary : mg "BadGranary" = some (.ref X_BadGranary)) (T_NoCart : ExcK K "NoCart" EB.l X_NoCart) (G_NoCart : mg "NoCart" = some (.ref X_NoCart)) (T_NoGranary : ExcK K "NoGranary" EB.l X_NoGranary) (G_NoGranary : mg "NoGranary" = some (.ref X_NoGranary)) (T_NoBearer : ExcK K "NoBearer" EB.l X_NoBearer) (G_NoBearer : mg "NoBearer" = some (.ref X_NoBearer)) (T_NoPlace : ExcK K "NoPlace" EB.l X_NoPlace) (G_NoPlace : mg "NoPlace" = some (.ref X_NoPlace)) (T_NoCast : ExcK K "NoCast" EB.l X_NoCast) (G_NoCast : mg "NoCast" = some (.ref X_NoCast)) (T_NoLoad : ExcK K "NoLoad" EB.l X_NoLoad) (G_NoLoad : mg "NoLoad" = some (.ref X_NoLoad)) (T_NoWish : ExcK K "NoWish" EB.l X_NoWish) (G_NoWish : mg "NoWish" = some (.ref X_NoWish)) (T_NoDeed : ExcK K "NoDeed" EB.l X_NoDeed) (G_NoDeed : mg "NoDeed" = some (.ref X_NoDeed)) (T_Barred : ExcK K "Barred" EB.r X_Barred) (G_Barred : mg "Barred" = some (.ref X_Barred)) (T_Alike : ExcK K "Alike" EB.r X_Alike) (G_Alike : mg "Alike" = some (.ref X_Alike)) (T_BadDeed : ExcK K "BadDeed" EB.t X_BadDeed) (G_BadDeed : mg "BadDeed" = some (.ref X_BadDeed)) (f : Addr) (cdv : Value) (A : Around) (outer : List PySem.Env) (s : Shared) (H : Hp) (E : XK) (hr : Room k (A.deeper (envOfC "_law_kinds" (defScope s_l_kinds) s.heap.objs.size f cdv))) (hg : A.guards = some []) :
    JSs (cxOf (L2.CX P w) P w K mg base ["_law_error", "_law_found"] "_law_kinds" (defScope s_l_kinds) f cdv A outer s H E) (WXE E) (defBody s_l_kinds) (w_l_kinds45 k) := by
  have S := sc_l_kinds
  have tk : Takes (cxOf (L2.CX P w) P w K mg base ["_law_error", "_law_found"] "_law_kinds" (defScope s_l_kinds) f cdv A outer s H E) (WXE E) := takes_of rfl rfl rfl rfl
  exact (jss_cons (js_set 1 S.nd (je_lst (ja_cons (je_isOwn T_BadRow b_isinstance G_BadRow (je_var 0)) (ja_cons (je_isOwn T_NotRising b_isinstance G_NotRising (je_var 0)) (ja_cons (je_isOwn T_NoWorld b_isinstance G_NoWorld (je_var 0)) ja_nil))))) (jss_cons (js_set 1 S.nd (je_bin r_add (je_var 1) (je_lst (ja_cons (je_isOwn T_Uneven b_isinstance G_Uneven (je_var 0)) (ja_cons (je_isOwn T_Unlike b_isinstance G_Unlike (je_var 0)) (ja_cons (je_isOwn T_BadGranary b_isinstance G_BadGranary (je_var 0)) ja_nil)))))) (jss_cons (js_set 1 S.nd (je_bin r_add (je_var 1) (je_lst (ja_cons (je_isOwn T_NoCart b_isinstance G_NoCart (je_var 0)) (ja_cons (je_isOwn T_NoGranary b_isinstance G_NoGranary (je_var 0)) (ja_cons (je_isOwn T_NoBearer b_isinstance G_NoBearer (je_var 0)) ja_nil)))))) (jss_cons (js_set 1 S.nd (je_bin r_add (je_var 1) (je_lst (ja_cons (je_isOwn T_NoPlace b_isinstance G_NoPlace (je_var 0)) (ja_cons (je_isOwn T_NoCast b_isinstance G_NoCast (je_var 0)) (ja_cons (je_isOwn T_NoLoad b_isinstance G_NoLoad (je_var 0)) ja_nil)))))) (jss_cons (js_set 1 S.nd (je_bin r_add (je_var 1) (je_lst (ja_cons (je_isOwn T_NoWish b_isinstance G_NoWish (je_var 0)) (ja_cons (je_isOwn T_NoDeed b_isinstance G_NoDeed (je_var 0)) (ja_cons (je_isOwn T_Barred b_isinstance G_Barred (je_var 0)) ja_nil)))))) (jss_one (js_ret (je_bin r_add (je_var 1) (je_lst (ja_cons (je_isOwn T_Alike b_isinstance G_Alike (je_var 0)) (ja_cons (je_isOwn T_BadDeed b_isinstance G_BadDeed (je_var 0)) ja_nil)))))))))))
theorem d_l_right (b_enumerate : mg "enumerate" = none) (b_int : mg "int" = none) (b_isinstance : mg "isinstance" = none) (b_ValueError : mg "ValueError" = none) (b_LookupError : mg "LookupError" = none) (b_RuntimeError : mg "RuntimeError" = none) (b_TypeError : mg "TypeError" = none) (b_range : mg "range" = none) (b_KeyError : mg "KeyError" = none) (b_IndexError : mg "IndexError" = none) (C_l_values : Cal P w K mg base k "_law_values" 1 c_l_vals45) (C_l_lookups : Cal P w K mg base k "_law_lookups" 1 c_l_looks45) (C_l_kinds : Cal P w K mg base k "_law_kinds" 1 c_l_kinds45) (C_l_same : Cal P w K mg base k "_law_same" 2 c_l_same) (R_Barred : MkrK P w K mg base "Barred" EB.r) (R_Alike : MkrK P w K mg base "Alike" EB.r) (R_BadDeed : MkrK P w K mg base "BadDeed" EB.t) (f : Addr) (cdv : Value) (A : Around) (outer : List PySem.Env) (s : Shared) (H : Hp) (E : XK) (hr : Room k (A.deeper (envOfC "_law_right" (defScope s_l_right) s.heap.objs.size f cdv))) (hg : A.guards = some []) :
    JSs (cxOf (L2.CX P w) P w K mg base ["_law_n", "_law_spot", "_law_rows", "_law_at", "_law_base", "_law_error", "_law_by_place", "_law_by_name", "_law_value", "_law_bases", "_law_k"] "_law_right" (defScope s_l_right) f cdv A outer s H E) (WXE E) (defBody s_l_right) (w_k45_right k) := by
  have S := sc_l_right
  have tk : Takes (cxOf (L2.CX P w) P w K mg base ["_law_n", "_law_spot", "_law_rows", "_law_at", "_law_base", "_law_error", "_law_by_place", "_law_by_name", "_law_value", "_law_bases", "_law_k"] "_law_right" (defScope s_l_right) f cdv A outer s H E) (WXE E) := takes_of rfl rfl rfl rfl
  exact (jss_cons (js_set 1 S.nd (je_tup (ja_cons (je_var 0) (ja_cons je_str ja_nil)))) (jss_cons (js_set 2 S.nd (je_bin r_add (je_bin r_add (je_call C_l_values hr hg tk (ja_cons (je_var 0) ja_nil)) (je_call C_l_lookups hr hg tk (ja_cons (je_var 0) ja_nil))) (je_lst (ja_cons (je_tup (ja_cons (je_mkV R_Barred hr hg (ja_cons (je_var 1) ja_nil)) (ja_cons (je_mkVK R_Barred hr hg (jk_cons (je_var 1) jk_nil)) (ja_cons (je_var 1) ja_nil)))) ja_nil)))) (jss_cons (js_set 2 S.nd (je_bin r_add (je_var 2) (je_lst (ja_cons (je_tup (ja_cons (je_mkV R_Alike hr hg (ja_cons (je_var 0) ja_nil)) (ja_cons (je_mkVK R_Alike hr hg (jk_cons (je_var 0) jk_nil)) (ja_cons (je_var 0) ja_nil)))) (ja_cons (je_tup (ja_cons (je_mkV R_BadDeed hr hg (ja_cons (je_var 0) ja_nil)) (ja_cons (je_mkVK R_BadDeed hr hg (jk_cons (je_var 0) jk_nil)) (ja_cons (je_var 0) ja_nil)))) ja_nil))))) (jss_cons (js_for (passes_of rfl) rfl (ji_enum b_enumerate (je_var 2)) (jt_tp rfl (jtgs_cons (jt_nm 3 S.nd) (jtgs_cons (jt_tp rfl (jtgs_cons (jt_nm 6 S.nd) (jtgs_cons (jt_nm 7 S.nd) (jtgs_cons (jt_nm 8 S.nd) jtgs_nil)))) jtgs_nil))) (jss_cons (js_set 4 S.nd (je_bin r_add (je_bin r_add (je_bt c_int b_int PyProof.Rows.boot_int (ja_cons (je_cmp r_gt (je_var 3) je_int) ja_nil)) (je_bt c_int b_int PyProof.Rows.boot_int (ja_cons (je_cmp r_gt (je_var 3) je_int) ja_nil))) (je_bt c_int b_int PyProof.Rows.boot_int (ja_cons (je_cmp r_gt (je_var 3) je_int) ja_nil)))) (jss_one (js_for (passes_of rfl) rfl (ji_seq (je_tup (ja_cons (je_var 6) (ja_cons (je_var 7) ja_nil)))) (jt_nm 5 S.nd) (jss_cons (js_set 9 S.nd (je_lst (ja_cons (je_isBase (b' := EB.v) b_isinstance b_ValueError rfl (je_var 5)) (ja_cons (je_isBase (b' := EB.l) b_isinstance b_LookupError rfl (je_var 5)) ja_nil)))) (jss_cons (js_set 9 S.nd (je_bin r_add (je_var 9) (je_lst (ja_cons (je_isBase (b' := EB.r) b_isinstance b_RuntimeError rfl (je_var 5)) (ja_cons (je_isBase (b' := EB.t) b_isinstance b_TypeError rfl (je_var 5)) ja_nil))))) (jss_cons (js_if (JW.jt (jw_or (jt_cmp (r_ne hr) (je_var 9) (je_lc (own := [("_law_k", 10)]) rfl S.nd (ji_rg1 b_range je_int) (blkOk_by rfl) (fun _ _ _ _ _ => (jt_nm 10 S.nd)) (fun _ _ _ _ _ => jts_nil) (fun _ _ _ _ _ => (je_cmp (r_eq hr) (je_var 10) (je_var 4))))) (jw_or1 (jt_cmp (r_ne hr) (je_call C_l_kinds hr hg tk (ja_cons (je_var 5) ja_nil)) (je_lc (own := [("_law_k", 10)]) rfl S.nd (ji_rg1 b_range je_int) (blkOk_by rfl) (fun _ _ _ _ _ => (jt_nm 10 S.nd)) (fun _ _ _ _ _ => jts_nil) (fun _ _ _ _ _ => (je_cmp (r_eq hr) (je_var 10) (je_var 3)))))))) (jss_one (js_ret je_bl)) jss_nil) (jss_one (js_if (JW.jt (jw_or (jt_val (je_isFars (.cons b_IndexError PyProof.Rows.Boot.«IndexError» (by decide +kernel) (by intro b; cases b <;> rfl) rfl (by decide) (by decide) rfl (.cons b_KeyError PyProof.Rows.Boot.«KeyError» (by decide +kernel) (by intro b; cases b <;> rfl) rfl (by decide) (by decide) rfl .nil)) (by decide) b_isinstance (je_var 5))) (jw_or1 (jt_not (jt_val (je_call C_l_same hr hg tk (ja_cons (je_what (je_var 5)) (ja_cons (je_var 8) ja_nil)))))))) (jss_one (js_ret je_bl)) jss_nil))))))))) (jss_one (js_ret je_bl))))))
theorem d_law (b_len : mg "len" = none) (b_max : mg "max" = none) (b_range : mg "range" = none) (b_all : mg "all" = none) (C_l_folded : Cal P w K mg base k "_law_folded" 2 c_l_folded) (C_l_box : Cal P w K mg base k "_law_box" 2 c_l_box) (C_l_take : Cal P w K mg base k "_law_take" 2 c_l_take) (C_l_right : Cal P w K mg base k "_law_right" 1 c_k45_right) (f : Addr) (cdv : Value) (A : Around) (outer : List PySem.Env) (s : Shared) (H : Hp) (E : XK) (hr : Room k (A.deeper (envOfC "law" (defScope s_law) s.heap.objs.size f cdv))) (hg : A.guards = some []) :
    JSs (cxOf (L2.CX P w) P w K mg base ["_law_script", "_law_cells", "_law_k"] "law" (defScope s_law) f cdv A outer s H E) (WXE E) (defBody s_law) (w_k45_law k) := by
  have S := sc_law
  have tk : Takes (cxOf (L2.CX P w) P w K mg base ["_law_script", "_law_cells", "_law_k"] "law" (defScope s_law) f cdv A outer s H E) (WXE E) := takes_of rfl rfl rfl rfl
  exact (jss_cons (js_set 1 S.nd (je_call C_l_folded hr hg tk (ja_cons (je_var 0) (ja_cons je_int ja_nil)))) (jss_one (js_ret (je_bi (c_all rfl) b_all PyProof.Rows.boot_all (ja_cons (je_lc (own := [("_law_k", 2)]) rfl S.nd (ji_rg1 b_range (je_bi (c_max rfl) b_max PyProof.Rows.boot_max (ja_cons je_int (ja_cons (je_bi c_len b_len PySem.boot_len (ja_cons (je_var 1) ja_nil)) ja_nil)))) (blkOk_by rfl) (fun _ _ _ _ _ => (jt_nm 2 S.nd)) (fun _ _ _ _ _ => jts_nil) (fun _ _ _ _ _ => (je_call C_l_right hr hg takes0 (ja_cons (je_bin r_add je_int (je_call C_l_take hr hg takes0 (ja_cons (je_call C_l_box hr hg takes0 (ja_cons (je_var 1) (ja_cons (je_var 2) ja_nil))) (ja_cons (je_bin r_pow je_int je_int) ja_nil)))) ja_nil)))) ja_nil)))))
end
abbrev s_BadRow_init : Stmt := inClass (topS 1) 0
theorem sc_BadRow_init : FnScope ["self", "what"] ["self", "what"] (defScope s_BadRow_init) := ⟨rfl, rfl, rfl, by decide +kernel, rfl, by decide +kernel, by decide +kernel⟩
theorem mkr_BadRow {P : Program} {w : World} {K : PySem.W.Frag} {mg : Str → Option Value} {base : Heap} {X_BadRow : Addr} (T : ExcK K "BadRow" EB.v X_BadRow) (G : mg "BadRow" = some (.ref X_BadRow)) (B : mg "ValueError" = none) (V : PySem.W.findCls K (.type "ValueError") (.type "type") "__init__" = some (.val (.builtin "ValueError.__init__"))) (D : DefMK K X_BadRow "__init__" "BadRow.__init__" s_BadRow_init) : MkrK P w K mg base "BadRow" EB.v := by
  refine mkrK_of T G D sc_BadRow_init fun f cdv A outer s H E => ?_
  have S := sc_BadRow_init
  exact pss_cons (ps_expr (pe_base EB.v rfl B V (pa_cons (pe_var (i := 0) rfl (Or.inl rfl)) (pa_cons pe_str pa_nil)))) (pss_one (ps_what (pe_var (i := 0) rfl (Or.inl rfl)) (pe_var (i := 1) rfl (Or.inl rfl))))
abbrev s_NotRising_init : Stmt := inClass (topS 2) 0
theorem sc_NotRising_init : FnScope ["self", "what"] ["self", "what"] (defScope s_NotRising_init) := ⟨rfl, rfl, rfl, by decide +kernel, rfl, by decide +kernel, by decide +kernel⟩
theorem mkr_NotRising {P : Program} {w : World} {K : PySem.W.Frag} {mg : Str → Option Value} {base : Heap} {X_NotRising : Addr} (T : ExcK K "NotRising" EB.v X_NotRising) (G : mg "NotRising" = some (.ref X_NotRising)) (B : mg "ValueError" = none) (V : PySem.W.findCls K (.type "ValueError") (.type "type") "__init__" = some (.val (.builtin "ValueError.__init__"))) (D : DefMK K X_NotRising "__init__" "NotRising.__init__" s_NotRising_init) : MkrK P w K mg base "NotRising" EB.v := by
  refine mkrK_of T G D sc_NotRising_init fun f cdv A outer s H E => ?_
  have S := sc_NotRising_init
  exact pss_cons (ps_expr (pe_base EB.v rfl B V (pa_cons (pe_var (i := 0) rfl (Or.inl rfl)) (pa_cons pe_str pa_nil)))) (pss_one (ps_what (pe_var (i := 0) rfl (Or.inl rfl)) (pe_var (i := 1) rfl (Or.inl rfl))))
abbrev s_NoWorld_init : Stmt := inClass (topS 3) 0
theorem sc_NoWorld_init : FnScope ["self", "what"] ["self", "what"] (defScope s_NoWorld_init) := ⟨rfl, rfl, rfl, by decide +kernel, rfl, by decide +kernel, by decide +kernel⟩
theorem mkr_NoWorld {P : Program} {w : World} {K : PySem.W.Frag} {mg : Str → Option Value} {base : Heap} {X_NoWorld : Addr} (T : ExcK K "NoWorld" EB.v X_NoWorld) (G : mg "NoWorld" = some (.ref X_NoWorld)) (B : mg "ValueError" = none) (V : PySem.W.findCls K (.type "ValueError") (.type "type") "__init__" = some (.val (.builtin "ValueError.__init__"))) (D : DefMK K X_NoWorld "__init__" "NoWorld.__init__" s_NoWorld_init) : MkrK P w K mg base "NoWorld" EB.v := by
  refine mkrK_of T G D sc_NoWorld_init fun f cdv A outer s H E => ?_
  have S := sc_NoWorld_init
  exact pss_cons (ps_expr (pe_base EB.v rfl B V (pa_cons (pe_var (i := 0) rfl (Or.inl rfl)) (pa_cons pe_str pa_nil)))) (pss_one (ps_what (pe_var (i := 0) rfl (Or.inl rfl)) (pe_var (i := 1) rfl (Or.inl rfl))))
abbrev s_Uneven_init : Stmt := inClass (topS 4) 0
theorem sc_Uneven_init : FnScope ["self", "what"] ["self", "what"] (defScope s_Uneven_init) := ⟨rfl, rfl, rfl, by decide +kernel, rfl, by decide +kernel, by decide +kernel⟩
theorem mkr_Uneven {P : Program} {w : World} {K : PySem.W.Frag} {mg : Str → Option Value} {base : Heap} {X_Uneven : Addr} (T : ExcK K "Uneven" EB.v X_Uneven) (G : mg "Uneven" = some (.ref X_Uneven)) (B : mg "ValueError" = none) (V : PySem.W.findCls K (.type "ValueError") (.type "type") "__init__" = some (.val (.builtin "ValueError.__init__"))) (D : DefMK K X_Uneven "__init__" "Uneven.__init__" s_Uneven_init) : MkrK P w K mg base "Uneven" EB.v := by
  refine mkrK_of T G D sc_Uneven_init fun f cdv A outer s H E => ?_
  have S := sc_Uneven_init
  exact pss_cons (ps_expr (pe_base EB.v rfl B V (pa_cons (pe_var (i := 0) rfl (Or.inl rfl)) (pa_cons pe_str pa_nil)))) (pss_one (ps_what (pe_var (i := 0) rfl (Or.inl rfl)) (pe_var (i := 1) rfl (Or.inl rfl))))
abbrev s_Unlike_init : Stmt := inClass (topS 5) 0
theorem sc_Unlike_init : FnScope ["self", "what"] ["self", "what"] (defScope s_Unlike_init) := ⟨rfl, rfl, rfl, by decide +kernel, rfl, by decide +kernel, by decide +kernel⟩
theorem mkr_Unlike {P : Program} {w : World} {K : PySem.W.Frag} {mg : Str → Option Value} {base : Heap} {X_Unlike : Addr} (T : ExcK K "Unlike" EB.v X_Unlike) (G : mg "Unlike" = some (.ref X_Unlike)) (B : mg "ValueError" = none) (V : PySem.W.findCls K (.type "ValueError") (.type "type") "__init__" = some (.val (.builtin "ValueError.__init__"))) (D : DefMK K X_Unlike "__init__" "Unlike.__init__" s_Unlike_init) : MkrK P w K mg base "Unlike" EB.v := by
  refine mkrK_of T G D sc_Unlike_init fun f cdv A outer s H E => ?_
  have S := sc_Unlike_init
  exact pss_cons (ps_expr (pe_base EB.v rfl B V (pa_cons (pe_var (i := 0) rfl (Or.inl rfl)) (pa_cons pe_str pa_nil)))) (pss_one (ps_what (pe_var (i := 0) rfl (Or.inl rfl)) (pe_var (i := 1) rfl (Or.inl rfl))))
abbrev s_BadGranary_init : Stmt := inClass (topS 6) 0
theorem sc_BadGranary_init : FnScope ["self", "what"] ["self", "what"] (defScope s_BadGranary_init) := ⟨rfl, rfl, rfl, by decide +kernel, rfl, by decide +kernel, by decide +kernel⟩
theorem mkr_BadGranary {P : Program} {w : World} {K : PySem.W.Frag} {mg : Str → Option Value} {base : Heap} {X_BadGranary : Addr} (T : ExcK K "BadGranary" EB.v X_BadGranary) (G : mg "BadGranary" = some (.ref X_BadGranary)) (B : mg "ValueError" = none) (V : PySem.W.findCls K (.type "ValueError") (.type "type") "__init__" = some (.val (.builtin "ValueError.__init__"))) (D : DefMK K X_BadGranary "__init__" "BadGranary.__init__" s_BadGranary_init) : MkrK P w K mg base "BadGranary" EB.v := by
  refine mkrK_of T G D sc_BadGranary_init fun f cdv A outer s H E => ?_
  have S := sc_BadGranary_init
  exact pss_cons (ps_expr (pe_base EB.v rfl B V (pa_cons (pe_var (i := 0) rfl (Or.inl rfl)) (pa_cons pe_str pa_nil)))) (pss_one (ps_what (pe_var (i := 0) rfl (Or.inl rfl)) (pe_var (i := 1) rfl (Or.inl rfl))))
abbrev s_NoCart_init : Stmt := inClass (topS 7) 0
theorem sc_NoCart_init : FnScope ["self", "what"] ["self", "what"] (defScope s_NoCart_init) := ⟨rfl, rfl, rfl, by decide +kernel, rfl, by decide +kernel, by decide +kernel⟩
theorem mkr_NoCart {P : Program} {w : World} {K : PySem.W.Frag} {mg : Str → Option Value} {base : Heap} {X_NoCart : Addr} (T : ExcK K "NoCart" EB.l X_NoCart) (G : mg "NoCart" = some (.ref X_NoCart)) (B : mg "LookupError" = none) (V : PySem.W.findCls K (.type "LookupError") (.type "type") "__init__" = some (.val (.builtin "LookupError.__init__"))) (D : DefMK K X_NoCart "__init__" "NoCart.__init__" s_NoCart_init) : MkrK P w K mg base "NoCart" EB.l := by
  refine mkrK_of T G D sc_NoCart_init fun f cdv A outer s H E => ?_
  have S := sc_NoCart_init
  exact pss_cons (ps_expr (pe_base EB.l rfl B V (pa_cons (pe_var (i := 0) rfl (Or.inl rfl)) (pa_cons pe_str pa_nil)))) (pss_one (ps_what (pe_var (i := 0) rfl (Or.inl rfl)) (pe_var (i := 1) rfl (Or.inl rfl))))
abbrev s_NoGranary_init : Stmt := inClass (topS 8) 0
theorem sc_NoGranary_init : FnScope ["self", "what"] ["self", "what"] (defScope s_NoGranary_init) := ⟨rfl, rfl, rfl, by decide +kernel, rfl, by decide +kernel, by decide +kernel⟩
theorem mkr_NoGranary {P : Program} {w : World} {K : PySem.W.Frag} {mg : Str → Option Value} {base : Heap} {X_NoGranary : Addr} (T : ExcK K "NoGranary" EB.l X_NoGranary) (G : mg "NoGranary" = some (.ref X_NoGranary)) (B : mg "LookupError" = none) (V : PySem.W.findCls K (.type "LookupError") (.type "type") "__init__" = some (.val (.builtin "LookupError.__init__"))) (D : DefMK K X_NoGranary "__init__" "NoGranary.__init__" s_NoGranary_init) : MkrK P w K mg base "NoGranary" EB.l := by
  refine mkrK_of T G D sc_NoGranary_init fun f cdv A outer s H E => ?_
  have S := sc_NoGranary_init
  exact pss_cons (ps_expr (pe_base EB.l rfl B V (pa_cons (pe_var (i := 0) rfl (Or.inl rfl)) (pa_cons pe_str pa_nil)))) (pss_one (ps_what (pe_var (i := 0) rfl (Or.inl rfl)) (pe_var (i := 1) rfl (Or.inl rfl))))
abbrev s_NoBearer_init : Stmt := inClass (topS 9) 0
theorem sc_NoBearer_init : FnScope ["self", "what"] ["self", "what"] (defScope s_NoBearer_init) := ⟨rfl, rfl, rfl, by decide +kernel, rfl, by decide +kernel, by decide +kernel⟩
theorem mkr_NoBearer {P : Program} {w : World} {K : PySem.W.Frag} {mg : Str → Option Value} {base : Heap} {X_NoBearer : Addr} (T : ExcK K "NoBearer" EB.l X_NoBearer) (G : mg "NoBearer" = some (.ref X_NoBearer)) (B : mg "LookupError" = none) (V : PySem.W.findCls K (.type "LookupError") (.type "type") "__init__" = some (.val (.builtin "LookupError.__init__"))) (D : DefMK K X_NoBearer "__init__" "NoBearer.__init__" s_NoBearer_init) : MkrK P w K mg base "NoBearer" EB.l := by
  refine mkrK_of T G D sc_NoBearer_init fun f cdv A outer s H E => ?_
  have S := sc_NoBearer_init
  exact pss_cons (ps_expr (pe_base EB.l rfl B V (pa_cons (pe_var (i := 0) rfl (Or.inl rfl)) (pa_cons pe_str pa_nil)))) (pss_one (ps_what (pe_var (i := 0) rfl (Or.inl rfl)) (pe_var (i := 1) rfl (Or.inl rfl))))
abbrev s_NoPlace_init : Stmt := inClass (topS 10) 0
theorem sc_NoPlace_init : FnScope ["self", "what"] ["self", "what"] (defScope s_NoPlace_init) := ⟨rfl, rfl, rfl, by decide +kernel, rfl, by decide +kernel, by decide +kernel⟩
theorem mkr_NoPlace {P : Program} {w : World} {K : PySem.W.Frag} {mg : Str → Option Value} {base : Heap} {X_NoPlace : Addr} (T : ExcK K "NoPlace" EB.l X_NoPlace) (G : mg "NoPlace" = some (.ref X_NoPlace)) (B : mg "LookupError" = none) (V : PySem.W.findCls K (.type "LookupError") (.type "type") "__init__" = some (.val (.builtin "LookupError.__init__"))) (D : DefMK K X_NoPlace "__init__" "NoPlace.__init__" s_NoPlace_init) : MkrK P w K mg base "NoPlace" EB.l := by
  refine mkrK_of T G D sc_NoPlace_init fun f cdv A outer s H E => ?_
  have S := sc_NoPlace_init
  exact pss_cons (ps_expr (pe_base EB.l rfl B V (pa_cons (pe_var (i := 0) rfl (Or.inl rfl)) (pa_cons pe_str pa_nil)))) (pss_one (ps_what (pe_var (i := 0) rfl (Or.inl rfl)) (pe_var (i := 1) rfl (Or.inl rfl))))
abbrev s_NoCast_init : Stmt := inClass (topS 11) 0
theorem sc_NoCast_init : FnScope ["self", "what"] ["self", "what"] (defScope s_NoCast_init) := ⟨rfl, rfl, rfl, by decide +kernel, rfl, by decide +kernel, by decide +kernel⟩
theorem mkr_NoCast {P : Program} {w : World} {K : PySem.W.Frag} {mg : Str → Option Value} {base : Heap} {X_NoCast : Addr} (T : ExcK K "NoCast" EB.l X_NoCast) (G : mg "NoCast" = some (.ref X_NoCast)) (B : mg "LookupError" = none) (V : PySem.W.findCls K (.type "LookupError") (.type "type") "__init__" = some (.val (.builtin "LookupError.__init__"))) (D : DefMK K X_NoCast "__init__" "NoCast.__init__" s_NoCast_init) : MkrK P w K mg base "NoCast" EB.l := by
  refine mkrK_of T G D sc_NoCast_init fun f cdv A outer s H E => ?_
  have S := sc_NoCast_init
  exact pss_cons (ps_expr (pe_base EB.l rfl B V (pa_cons (pe_var (i := 0) rfl (Or.inl rfl)) (pa_cons pe_str pa_nil)))) (pss_one (ps_what (pe_var (i := 0) rfl (Or.inl rfl)) (pe_var (i := 1) rfl (Or.inl rfl))))
abbrev s_NoLoad_init : Stmt := inClass (topS 12) 0
theorem sc_NoLoad_init : FnScope ["self", "what"] ["self", "what"] (defScope s_NoLoad_init) := ⟨rfl, rfl, rfl, by decide +kernel, rfl, by decide +kernel, by decide +kernel⟩
theorem mkr_NoLoad {P : Program} {w : World} {K : PySem.W.Frag} {mg : Str → Option Value} {base : Heap} {X_NoLoad : Addr} (T : ExcK K "NoLoad" EB.l X_NoLoad) (G : mg "NoLoad" = some (.ref X_NoLoad)) (B : mg "LookupError" = none) (V : PySem.W.findCls K (.type "LookupError") (.type "type") "__init__" = some (.val (.builtin "LookupError.__init__"))) (D : DefMK K X_NoLoad "__init__" "NoLoad.__init__" s_NoLoad_init) : MkrK P w K mg base "NoLoad" EB.l := by
  refine mkrK_of T G D sc_NoLoad_init fun f cdv A outer s H E => ?_
  have S := sc_NoLoad_init
  exact pss_cons (ps_expr (pe_base EB.l rfl B V (pa_cons (pe_var (i := 0) rfl (Or.inl rfl)) (pa_cons pe_str pa_nil)))) (pss_one (ps_what (pe_var (i := 0) rfl (Or.inl rfl)) (pe_var (i := 1) rfl (Or.inl rfl))))
abbrev s_NoWish_init : Stmt := inClass (topS 13) 0
theorem sc_NoWish_init : FnScope ["self", "what"] ["self", "what"] (defScope s_NoWish_init) := ⟨rfl, rfl, rfl, by decide +kernel, rfl, by decide +kernel, by decide +kernel⟩
theorem mkr_NoWish {P : Program} {w : World} {K : PySem.W.Frag} {mg : Str → Option Value} {base : Heap} {X_NoWish : Addr} (T : ExcK K "NoWish" EB.l X_NoWish) (G : mg "NoWish" = some (.ref X_NoWish)) (B : mg "LookupError" = none) (V : PySem.W.findCls K (.type "LookupError") (.type "type") "__init__" = some (.val (.builtin "LookupError.__init__"))) (D : DefMK K X_NoWish "__init__" "NoWish.__init__" s_NoWish_init) : MkrK P w K mg base "NoWish" EB.l := by
  refine mkrK_of T G D sc_NoWish_init fun f cdv A outer s H E => ?_
  have S := sc_NoWish_init
  exact pss_cons (ps_expr (pe_base EB.l rfl B V (pa_cons (pe_var (i := 0) rfl (Or.inl rfl)) (pa_cons pe_str pa_nil)))) (pss_one (ps_what (pe_var (i := 0) rfl (Or.inl rfl)) (pe_var (i := 1) rfl (Or.inl rfl))))
abbrev s_NoDeed_init : Stmt := inClass (topS 14) 0
theorem sc_NoDeed_init : FnScope ["self", "what"] ["self", "what"] (defScope s_NoDeed_init) := ⟨rfl, rfl, rfl, by decide +kernel, rfl, by decide +kernel, by decide +kernel⟩
theorem mkr_NoDeed {P : Program} {w : World} {K : PySem.W.Frag} {mg : Str → Option Value} {base : Heap} {X_NoDeed : Addr} (T : ExcK K "NoDeed" EB.l X_NoDeed) (G : mg "NoDeed" = some (.ref X_NoDeed)) (B : mg "LookupError" = none) (V : PySem.W.findCls K (.type "LookupError") (.type "type") "__init__" = some (.val (.builtin "LookupError.__init__"))) (D : DefMK K X_NoDeed "__init__" "NoDeed.__init__" s_NoDeed_init) : MkrK P w K mg base "NoDeed" EB.l := by
  refine mkrK_of T G D sc_NoDeed_init fun f cdv A outer s H E => ?_
  have S := sc_NoDeed_init
  exact pss_cons (ps_expr (pe_base EB.l rfl B V (pa_cons (pe_var (i := 0) rfl (Or.inl rfl)) (pa_cons pe_str pa_nil)))) (pss_one (ps_what (pe_var (i := 0) rfl (Or.inl rfl)) (pe_var (i := 1) rfl (Or.inl rfl))))
abbrev s_Barred_init : Stmt := inClass (topS 15) 0
theorem sc_Barred_init : FnScope ["self", "what"] ["self", "what"] (defScope s_Barred_init) := ⟨rfl, rfl, rfl, by decide +kernel, rfl, by decide +kernel, by decide +kernel⟩
theorem mkr_Barred {P : Program} {w : World} {K : PySem.W.Frag} {mg : Str → Option Value} {base : Heap} {X_Barred : Addr} (T : ExcK K "Barred" EB.r X_Barred) (G : mg "Barred" = some (.ref X_Barred)) (B : mg "RuntimeError" = none) (V : PySem.W.findCls K (.type "RuntimeError") (.type "type") "__init__" = some (.val (.builtin "RuntimeError.__init__"))) (D : DefMK K X_Barred "__init__" "Barred.__init__" s_Barred_init) : MkrK P w K mg base "Barred" EB.r := by
  refine mkrK_of T G D sc_Barred_init fun f cdv A outer s H E => ?_
  have S := sc_Barred_init
  exact pss_cons (ps_expr (pe_base EB.r rfl B V (pa_cons (pe_var (i := 0) rfl (Or.inl rfl)) (pa_cons pe_str pa_nil)))) (pss_one (ps_what (pe_var (i := 0) rfl (Or.inl rfl)) (pe_var (i := 1) rfl (Or.inl rfl))))
abbrev s_Alike_init : Stmt := inClass (topS 16) 0
theorem sc_Alike_init : FnScope ["self", "what"] ["self", "what"] (defScope s_Alike_init) := ⟨rfl, rfl, rfl, by decide +kernel, rfl, by decide +kernel, by decide +kernel⟩
theorem mkr_Alike {P : Program} {w : World} {K : PySem.W.Frag} {mg : Str → Option Value} {base : Heap} {X_Alike : Addr} (T : ExcK K "Alike" EB.r X_Alike) (G : mg "Alike" = some (.ref X_Alike)) (B : mg "RuntimeError" = none) (V : PySem.W.findCls K (.type "RuntimeError") (.type "type") "__init__" = some (.val (.builtin "RuntimeError.__init__"))) (D : DefMK K X_Alike "__init__" "Alike.__init__" s_Alike_init) : MkrK P w K mg base "Alike" EB.r := by
  refine mkrK_of T G D sc_Alike_init fun f cdv A outer s H E => ?_
  have S := sc_Alike_init
  exact pss_cons (ps_expr (pe_base EB.r rfl B V (pa_cons (pe_var (i := 0) rfl (Or.inl rfl)) (pa_cons pe_str pa_nil)))) (pss_one (ps_what (pe_var (i := 0) rfl (Or.inl rfl)) (pe_var (i := 1) rfl (Or.inl rfl))))
abbrev s_BadDeed_init : Stmt := inClass (topS 17) 0
theorem sc_BadDeed_init : FnScope ["self", "what"] ["self", "what"] (defScope s_BadDeed_init) := ⟨rfl, rfl, rfl, by decide +kernel, rfl, by decide +kernel, by decide +kernel⟩
theorem mkr_BadDeed {P : Program} {w : World} {K : PySem.W.Frag} {mg : Str → Option Value} {base : Heap} {X_BadDeed : Addr} (T : ExcK K "BadDeed" EB.t X_BadDeed) (G : mg "BadDeed" = some (.ref X_BadDeed)) (B : mg "TypeError" = none) (V : PySem.W.findCls K (.type "TypeError") (.type "type") "__init__" = some (.val (.builtin "TypeError.__init__"))) (D : DefMK K X_BadDeed "__init__" "BadDeed.__init__" s_BadDeed_init) : MkrK P w K mg base "BadDeed" EB.t := by
  refine mkrK_of T G D sc_BadDeed_init fun f cdv A outer s H E => ?_
  have S := sc_BadDeed_init
  exact pss_cons (ps_expr (pe_base EB.t rfl B V (pa_cons (pe_var (i := 0) rfl (Or.inl rfl)) (pa_cons pe_str pa_nil)))) (pss_one (ps_what (pe_var (i := 0) rfl (Or.inl rfl)) (pe_var (i := 1) rfl (Or.inl rfl))))
structure AllC (P : Program) (w : World) (K : PySem.W.Frag) (mg : Str → Option Value) (base : Heap) (k : Nat) : Prop where
  a_l_box : Cal P w K mg base k "_law_box" 2 c_l_box
  a_l_take : Cal P w K mg base k "_law_take" 2 c_l_take
  a_l_folded : Cal P w K mg base k "_law_folded" 2 c_l_folded
  a_l_same : Cal P w K mg base k "_law_same" 2 c_l_same
  a_l_values : Cal P w K mg base k "_law_values" 1 c_l_vals45
  a_l_lookups : Cal P w K mg base k "_law_lookups" 1 c_l_looks45
  a_l_kinds : Cal P w K mg base k "_law_kinds" 1 c_l_kinds45
  a_l_right : Cal P w K mg base k "_law_right" 1 c_k45_right
theorem all_ok {P : Program} {w : World} {K : PySem.W.Frag} {mg : Str → Option Value} {base : Heap} {X_BadRow : Addr} {X_NotRising : Addr} {X_NoWorld : Addr} {X_Uneven : Addr} {X_Unlike : Addr} {X_BadGranary : Addr} {X_NoCart : Addr} {X_NoGranary : Addr} {X_NoBearer : Addr} {X_NoPlace : Addr} {X_NoCast : Addr} {X_NoLoad : Addr} {X_NoWish : Addr} {X_NoDeed : Addr} {X_Barred : Addr} {X_Alike : Addr} {X_BadDeed : Addr} (b_ValueError : mg "ValueError" = none) (b_LookupError : mg "LookupError" = none) (b_RuntimeError : mg "RuntimeError" = none) (b_TypeError : mg "TypeError" = none) (b_len : mg "len" = none) (b_abs : mg "abs" = none) (b_int : mg "int" = none) (b_divmod : mg "divmod" = none) (b_list : mg "list" = none) (b_enumerate : mg "enumerate" = none) (b_tuple : mg "tuple" = none) (b_isinstance : mg "isinstance" = none) (b_zip : mg "zip" = none) (b_all : mg "all" = none) (b_str : mg "str" = none) (b_bool : mg "bool" = none) (b_range : mg "range" = none) (b_KeyError : mg "KeyError" = none) (b_IndexError : mg "IndexError" = none) (b_max : mg "max" = none) (D_l_box : DefAt K mg "_law_box" s_l_box ["_law_script", "_law_k"]) (D_l_take : DefAt K mg "_law_take" s_l_take ["_law_box_here", "_law_size"]) (D_l_folded : DefAt K mg "_law_folded" s_l_folded ["_law_script", "_law_size"]) (D_l_same : DefAt K mg "_law_same" s_l_same ["_law_found", "_law_wanted"]) (D_l_values : DefAt K mg "_law_values" s_l_values ["_law_n"]) (D_l_lookups : DefAt K mg "_law_lookups" s_l_lookups ["_law_n"]) (D_l_kinds : DefAt K mg "_law_kinds" s_l_kinds ["_law_error"]) (D_l_right : DefAt K mg "_law_right" s_l_right ["_law_n"]) (T_BadRow : ExcK K "BadRow" EB.v X_BadRow) (G_BadRow : mg "BadRow" = some (.ref X_BadRow)) (T_NotRising : ExcK K "NotRising" EB.v X_NotRising) (G_NotRising : mg "NotRising" = some (.ref X_NotRising)) (T_NoWorld : ExcK K "NoWorld" EB.v X_NoWorld) (G_NoWorld : mg "NoWorld" = some (.ref X_NoWorld)) (T_Uneven : ExcK K "Uneven" EB.v X_Uneven) (G_Uneven : mg "Uneven" = some (.ref X_Uneven)) (T_Unlike : ExcK K "Unlike" EB.v X_Unlike) (G_Unlike : mg "Unlike" = some (.ref X_Unlike)) (T_BadGranary : ExcK K "BadGranary" EB.v X_BadGranary) (G_BadGranary : mg "BadGranary" = some (.ref X_BadGranary)) (T_NoCart : ExcK K "NoCart" EB.l X_NoCart) (G_NoCart : mg "NoCart" = some (.ref X_NoCart)) (T_NoGranary : ExcK K "NoGranary" EB.l X_NoGranary) (G_NoGranary : mg "NoGranary" = some (.ref X_NoGranary)) (T_NoBearer : ExcK K "NoBearer" EB.l X_NoBearer) (G_NoBearer : mg "NoBearer" = some (.ref X_NoBearer)) (T_NoPlace : ExcK K "NoPlace" EB.l X_NoPlace) (G_NoPlace : mg "NoPlace" = some (.ref X_NoPlace)) (T_NoCast : ExcK K "NoCast" EB.l X_NoCast) (G_NoCast : mg "NoCast" = some (.ref X_NoCast)) (T_NoLoad : ExcK K "NoLoad" EB.l X_NoLoad) (G_NoLoad : mg "NoLoad" = some (.ref X_NoLoad)) (T_NoWish : ExcK K "NoWish" EB.l X_NoWish) (G_NoWish : mg "NoWish" = some (.ref X_NoWish)) (T_NoDeed : ExcK K "NoDeed" EB.l X_NoDeed) (G_NoDeed : mg "NoDeed" = some (.ref X_NoDeed)) (T_Barred : ExcK K "Barred" EB.r X_Barred) (G_Barred : mg "Barred" = some (.ref X_Barred)) (T_Alike : ExcK K "Alike" EB.r X_Alike) (G_Alike : mg "Alike" = some (.ref X_Alike)) (T_BadDeed : ExcK K "BadDeed" EB.t X_BadDeed) (G_BadDeed : mg "BadDeed" = some (.ref X_BadDeed)) (R_BadRow : MkrK P w K mg base "BadRow" EB.v) (R_NotRising : MkrK P w K mg base "NotRising" EB.v) (R_NoWorld : MkrK P w K mg base "NoWorld" EB.v) (R_Uneven : MkrK P w K mg base "Uneven" EB.v) (R_Unlike : MkrK P w K mg base "Unlike" EB.v) (R_BadGranary : MkrK P w K mg base "BadGranary" EB.v) (R_NoCart : MkrK P w K mg base "NoCart" EB.l) (R_NoGranary : MkrK P w K mg base "NoGranary" EB.l) (R_NoBearer : MkrK P w K mg base "NoBearer" EB.l) (R_NoPlace : MkrK P w K mg base "NoPlace" EB.l) (R_NoCast : MkrK P w K mg base "NoCast" EB.l) (R_NoLoad : MkrK P w K mg base "NoLoad" EB.l) (R_NoWish : MkrK P w K mg base "NoWish" EB.l) (R_NoDeed : MkrK P w K mg base "NoDeed" EB.l) (R_Barred : MkrK P w K mg base "Barred" EB.r) (R_Alike : MkrK P w K mg base "Alike" EB.r) (R_BadDeed : MkrK P w K mg base "BadDeed" EB.t) : ∀ k, AllC P w K mg base k
  | 0 => ⟨cal_zero D_l_box, cal_zero D_l_take, cal_zero D_l_folded, cal_zero D_l_same, cal_zero D_l_values, cal_zero D_l_lookups, cal_zero D_l_kinds, cal_zero D_l_right⟩
  | k + 1 => by
    have ih := all_ok (P := P) (w := w) (K := K) (mg := mg) (base := base) b_ValueError b_LookupError b_RuntimeError b_TypeError b_len b_abs b_int b_divmod b_list b_enumerate b_tuple b_isinstance b_zip b_all b_str b_bool b_range b_KeyError b_IndexError b_max D_l_box D_l_take D_l_folded D_l_same D_l_values D_l_lookups D_l_kinds D_l_right T_BadRow G_BadRow T_NotRising G_NotRising T_NoWorld G_NoWorld T_Uneven G_Uneven T_Unlike G_Unlike T_BadGranary G_BadGranary T_NoCart G_NoCart T_NoGranary G_NoGranary T_NoBearer G_NoBearer T_NoPlace G_NoPlace T_NoCast G_NoCast T_NoLoad G_NoLoad T_NoWish G_NoWish T_NoDeed G_NoDeed T_Barred G_Barred T_Alike G_Alike T_BadDeed G_BadDeed R_BadRow R_NotRising R_NoWorld R_Uneven R_Unlike R_BadGranary R_NoCart R_NoGranary R_NoBearer R_NoPlace R_NoCast R_NoLoad R_NoWish R_NoDeed R_Barred R_Alike R_BadDeed k
    exact ⟨cal_succ D_l_box sc_l_box (d_l_box b_len b_abs b_int) (p_l_box k),
      cal_succ D_l_take sc_l_take (d_l_take b_divmod ih.a_l_take) (p_l_take k),
      cal_succ D_l_folded sc_l_folded (d_l_folded b_list b_enumerate) (p_l_folded k),
      cal_succ D_l_same sc_l_same (d_l_same b_list b_tuple b_isinstance b_len b_zip b_all b_str b_int b_bool ih.a_l_same) (p_l_same k),
      cal_succ D_l_values sc_l_values (d_l_values R_BadRow R_NotRising R_NoWorld R_Uneven R_Unlike R_BadGranary) (p_l_vals45 k),
      cal_succ D_l_lookups sc_l_lookups (d_l_lookups R_NoCart R_NoGranary R_NoBearer R_NoPlace R_NoCast R_NoLoad R_NoWish R_NoDeed) (p_l_looks45 k),
      cal_succ D_l_kinds sc_l_kinds (d_l_kinds b_isinstance T_BadRow G_BadRow T_NotRising G_NotRising T_NoWorld G_NoWorld T_Uneven G_Uneven T_Unlike G_Unlike T_BadGranary G_BadGranary T_NoCart G_NoCart T_NoGranary G_NoGranary T_NoBearer G_NoBearer T_NoPlace G_NoPlace T_NoCast G_NoCast T_NoLoad G_NoLoad T_NoWish G_NoWish T_NoDeed G_NoDeed T_Barred G_Barred T_Alike G_Alike T_BadDeed G_BadDeed) (p_l_kinds45 k),
      cal_succ D_l_right sc_l_right (d_l_right b_enumerate b_int b_isinstance b_ValueError b_LookupError b_RuntimeError b_TypeError b_range b_KeyError b_IndexError ih.a_l_values ih.a_l_lookups ih.a_l_kinds ih.a_l_same R_Barred R_Alike R_BadDeed) (p_k45_right k)⟩
theorem all_mk {P : Program} {w : World} {K : PySem.W.Frag} {mg : Str → Option Value} {h : Heap} {fa : Addr} {X_BadRow : Addr} {X_NotRising : Addr} {X_NoWorld : Addr} {X_Uneven : Addr} {X_Unlike : Addr} {X_BadGranary : Addr} {X_NoCart : Addr} {X_NoGranary : Addr} {X_NoBearer : Addr} {X_NoPlace : Addr} {X_NoCast : Addr} {X_NoLoad : Addr} {X_NoWish : Addr} {X_NoDeed : Addr} {X_Barred : Addr} {X_Alike : Addr} {X_BadDeed : Addr} (X : K.In h) (G : h.Ns mainGlobals mg) (hmg : mg "law" = some (.ref fa)) (b_ValueError : mg "ValueError" = none) (b_LookupError : mg "LookupError" = none) (b_RuntimeError : mg "RuntimeError" = none) (b_TypeError : mg "TypeError" = none) (b_len : mg "len" = none) (b_abs : mg "abs" = none) (b_int : mg "int" = none) (b_divmod : mg "divmod" = none) (b_list : mg "list" = none) (b_enumerate : mg "enumerate" = none) (b_tuple : mg "tuple" = none) (b_isinstance : mg "isinstance" = none) (b_zip : mg "zip" = none) (b_all : mg "all" = none) (b_str : mg "str" = none) (b_bool : mg "bool" = none) (b_range : mg "range" = none) (b_KeyError : mg "KeyError" = none) (b_IndexError : mg "IndexError" = none) (b_max : mg "max" = none) (D_l_box : DefAt K mg "_law_box" s_l_box ["_law_script", "_law_k"]) (D_l_take : DefAt K mg "_law_take" s_l_take ["_law_box_here", "_law_size"]) (D_l_folded : DefAt K mg "_law_folded" s_l_folded ["_law_script", "_law_size"]) (D_l_same : DefAt K mg "_law_same" s_l_same ["_law_found", "_law_wanted"]) (D_l_values : DefAt K mg "_law_values" s_l_values ["_law_n"]) (D_l_lookups : DefAt K mg "_law_lookups" s_l_lookups ["_law_n"]) (D_l_kinds : DefAt K mg "_law_kinds" s_l_kinds ["_law_error"]) (D_l_right : DefAt K mg "_law_right" s_l_right ["_law_n"]) (T_BadRow : ExcK K "BadRow" EB.v X_BadRow) (G_BadRow : mg "BadRow" = some (.ref X_BadRow)) (T_NotRising : ExcK K "NotRising" EB.v X_NotRising) (G_NotRising : mg "NotRising" = some (.ref X_NotRising)) (T_NoWorld : ExcK K "NoWorld" EB.v X_NoWorld) (G_NoWorld : mg "NoWorld" = some (.ref X_NoWorld)) (T_Uneven : ExcK K "Uneven" EB.v X_Uneven) (G_Uneven : mg "Uneven" = some (.ref X_Uneven)) (T_Unlike : ExcK K "Unlike" EB.v X_Unlike) (G_Unlike : mg "Unlike" = some (.ref X_Unlike)) (T_BadGranary : ExcK K "BadGranary" EB.v X_BadGranary) (G_BadGranary : mg "BadGranary" = some (.ref X_BadGranary)) (T_NoCart : ExcK K "NoCart" EB.l X_NoCart) (G_NoCart : mg "NoCart" = some (.ref X_NoCart)) (T_NoGranary : ExcK K "NoGranary" EB.l X_NoGranary) (G_NoGranary : mg "NoGranary" = some (.ref X_NoGranary)) (T_NoBearer : ExcK K "NoBearer" EB.l X_NoBearer) (G_NoBearer : mg "NoBearer" = some (.ref X_NoBearer)) (T_NoPlace : ExcK K "NoPlace" EB.l X_NoPlace) (G_NoPlace : mg "NoPlace" = some (.ref X_NoPlace)) (T_NoCast : ExcK K "NoCast" EB.l X_NoCast) (G_NoCast : mg "NoCast" = some (.ref X_NoCast)) (T_NoLoad : ExcK K "NoLoad" EB.l X_NoLoad) (G_NoLoad : mg "NoLoad" = some (.ref X_NoLoad)) (T_NoWish : ExcK K "NoWish" EB.l X_NoWish) (G_NoWish : mg "NoWish" = some (.ref X_NoWish)) (T_NoDeed : ExcK K "NoDeed" EB.l X_NoDeed) (G_NoDeed : mg "NoDeed" = some (.ref X_NoDeed)) (T_Barred : ExcK K "Barred" EB.r X_Barred) (G_Barred : mg "Barred" = some (.ref X_Barred)) (T_Alike : ExcK K "Alike" EB.r X_Alike) (G_Alike : mg "Alike" = some (.ref X_Alike)) (T_BadDeed : ExcK K "BadDeed" EB.t X_BadDeed) (G_BadDeed : mg "BadDeed" = some (.ref X_BadDeed)) (V_v : PySem.W.findCls K (.type "ValueError") (.type "type") "__init__" = some (.val (.builtin "ValueError.__init__"))) (V_l : PySem.W.findCls K (.type "LookupError") (.type "type") "__init__" = some (.val (.builtin "LookupError.__init__"))) (V_r : PySem.W.findCls K (.type "RuntimeError") (.type "type") "__init__" = some (.val (.builtin "RuntimeError.__init__"))) (V_t : PySem.W.findCls K (.type "TypeError") (.type "type") "__init__" = some (.val (.builtin "TypeError.__init__"))) (DI_BadRow : DefMK K X_BadRow "__init__" "BadRow.__init__" s_BadRow_init) (DI_NotRising : DefMK K X_NotRising "__init__" "NotRising.__init__" s_NotRising_init) (DI_NoWorld : DefMK K X_NoWorld "__init__" "NoWorld.__init__" s_NoWorld_init) (DI_Uneven : DefMK K X_Uneven "__init__" "Uneven.__init__" s_Uneven_init) (DI_Unlike : DefMK K X_Unlike "__init__" "Unlike.__init__" s_Unlike_init) (DI_BadGranary : DefMK K X_BadGranary "__init__" "BadGranary.__init__" s_BadGranary_init) (DI_NoCart : DefMK K X_NoCart "__init__" "NoCart.__init__" s_NoCart_init) (DI_NoGranary : DefMK K X_NoGranary "__init__" "NoGranary.__init__" s_NoGranary_init) (DI_NoBearer : DefMK K X_NoBearer "__init__" "NoBearer.__init__" s_NoBearer_init) (DI_NoPlace : DefMK K X_NoPlace "__init__" "NoPlace.__init__" s_NoPlace_init) (DI_NoCast : DefMK K X_NoCast "__init__" "NoCast.__init__" s_NoCast_init) (DI_NoLoad : DefMK K X_NoLoad "__init__" "NoLoad.__init__" s_NoLoad_init) (DI_NoWish : DefMK K X_NoWish "__init__" "NoWish.__init__" s_NoWish_init) (DI_NoDeed : DefMK K X_NoDeed "__init__" "NoDeed.__init__" s_NoDeed_init) (DI_Barred : DefMK K X_Barred "__init__" "Barred.__init__" s_Barred_init) (DI_Alike : DefMK K X_Alike "__init__" "Alike.__init__" s_Alike_init) (DI_BadDeed : DefMK K X_BadDeed "__init__" "BadDeed.__init__" s_BadDeed_init) (D_law : DefAt K mg "law" s_law ["_law_script"]) : ∃ fd : FuncData, (∀ (s : Shared) (u : Value), BindsTo s fd ⟨[u], []⟩ [("_law_script", u)]) ∧ ∀ base : Heap, K.In base → base.Ns mainGlobals mg → FnG P w K mg base (40 + 1) fa fd ["_law_script"] (spD K mg 1 (c_k45_law 40)) := by
  refine law_mk (ct := c_k45_law) D_law hmg sc_law (fun _ _ _ _ _ _ _ => rfl) ?_ (p_k45_law 40)
  intro base _ _
  have R_BadRow := mkr_BadRow (P := P) (w := w) (base := base) T_BadRow G_BadRow b_ValueError V_v DI_BadRow
  have R_NotRising := mkr_NotRising (P := P) (w := w) (base := base) T_NotRising G_NotRising b_ValueError V_v DI_NotRising
  have R_NoWorld := mkr_NoWorld (P := P) (w := w) (base := base) T_NoWorld G_NoWorld b_ValueError V_v DI_NoWorld
  have R_Uneven := mkr_Uneven (P := P) (w := w) (base := base) T_Uneven G_Uneven b_ValueError V_v DI_Uneven
  have R_Unlike := mkr_Unlike (P := P) (w := w) (base := base) T_Unlike G_Unlike b_ValueError V_v DI_Unlike
  have R_BadGranary := mkr_BadGranary (P := P) (w := w) (base := base) T_BadGranary G_BadGranary b_ValueError V_v DI_BadGranary
  have R_NoCart := mkr_NoCart (P := P) (w := w) (base := base) T_NoCart G_NoCart b_LookupError V_l DI_NoCart
  have R_NoGranary := mkr_NoGranary (P := P) (w := w) (base := base) T_NoGranary G_NoGranary b_LookupError V_l DI_NoGranary
  have R_NoBearer := mkr_NoBearer (P := P) (w := w) (base := base) T_NoBearer G_NoBearer b_LookupError V_l DI_NoBearer
  have R_NoPlace := mkr_NoPlace (P := P) (w := w) (base := base) T_NoPlace G_NoPlace b_LookupError V_l DI_NoPlace
  have R_NoCast := mkr_NoCast (P := P) (w := w) (base := base) T_NoCast G_NoCast b_LookupError V_l DI_NoCast
  have R_NoLoad := mkr_NoLoad (P := P) (w := w) (base := base) T_NoLoad G_NoLoad b_LookupError V_l DI_NoLoad
  have R_NoWish := mkr_NoWish (P := P) (w := w) (base := base) T_NoWish G_NoWish b_LookupError V_l DI_NoWish
  have R_NoDeed := mkr_NoDeed (P := P) (w := w) (base := base) T_NoDeed G_NoDeed b_LookupError V_l DI_NoDeed
  have R_Barred := mkr_Barred (P := P) (w := w) (base := base) T_Barred G_Barred b_RuntimeError V_r DI_Barred
  have R_Alike := mkr_Alike (P := P) (w := w) (base := base) T_Alike G_Alike b_RuntimeError V_r DI_Alike
  have R_BadDeed := mkr_BadDeed (P := P) (w := w) (base := base) T_BadDeed G_BadDeed b_TypeError V_t DI_BadDeed
  have A := all_ok (P := P) (w := w) (base := base) b_ValueError b_LookupError b_RuntimeError b_TypeError b_len b_abs b_int b_divmod b_list b_enumerate b_tuple b_isinstance b_zip b_all b_str b_bool b_range b_KeyError b_IndexError b_max D_l_box D_l_take D_l_folded D_l_same D_l_values D_l_lookups D_l_kinds D_l_right T_BadRow G_BadRow T_NotRising G_NotRising T_NoWorld G_NoWorld T_Uneven G_Uneven T_Unlike G_Unlike T_BadGranary G_BadGranary T_NoCart G_NoCart T_NoGranary G_NoGranary T_NoBearer G_NoBearer T_NoPlace G_NoPlace T_NoCast G_NoCast T_NoLoad G_NoLoad T_NoWish G_NoWish T_NoDeed G_NoDeed T_Barred G_Barred T_Alike G_Alike T_BadDeed G_BadDeed R_BadRow R_NotRising R_NoWorld R_Uneven R_Unlike R_BadGranary R_NoCart R_NoGranary R_NoBearer R_NoPlace R_NoCast R_NoLoad R_NoWish R_NoDeed R_Barred R_Alike R_BadDeed 40
  exact d_law b_len b_max b_range b_all A.a_l_folded A.a_l_box A.a_l_take A.a_l_right
end VL
open PySem PySem.W PyProof.Rows in
set_option maxRecDepth 100000 in
set_option maxHeartbeats 0 in
theorem PySem.Challenge.cw_midcarts_k45_refusals_made_by_hand_holds : PySem.Challenge.rw_midcarts_k45_refusals_made_by_hand.Holds := by
  w_on; o_law; k_head; (case hw => w_witness2)
  k_fill
  refine VL.walk_ofG (l := PySem.Challenge.rw_midcarts_k45_refusals_made_by_hand) (n := 63) (k := 40 + 1) (ct := VL.c_k45_law 40) (x := "_law_script") rfl (by decide) rfl ⟨rfl, by decide, by decide⟩ (fun w h Y => PySem.W.kIn_of Y) ?F (fun ns hl => VL.k45_ct ns hl)
  case F =>
    intro w mg fa h KX G hmg
    refine' VL.all_mk KX G hmg ?b_ValueError ?b_LookupError ?b_RuntimeError ?b_TypeError ?b_len ?b_abs ?b_int ?b_divmod ?b_list ?b_enumerate ?b_tuple ?b_isinstance ?b_zip ?b_all ?b_str ?b_bool ?b_range ?b_KeyError ?b_IndexError ?b_max ?D_l_box ?D_l_take ?D_l_folded ?D_l_same ?D_l_values ?D_l_lookups ?D_l_kinds ?D_l_right ?T_BadRow ?G_BadRow ?T_NotRising ?G_NotRising ?T_NoWorld ?G_NoWorld ?T_Uneven ?G_Uneven ?T_Unlike ?G_Unlike ?T_BadGranary ?G_BadGranary ?T_NoCart ?G_NoCart ?T_NoGranary ?G_NoGranary ?T_NoBearer ?G_NoBearer ?T_NoPlace ?G_NoPlace ?T_NoCast ?G_NoCast ?T_NoLoad ?G_NoLoad ?T_NoWish ?G_NoWish ?T_NoDeed ?G_NoDeed ?T_Barred ?G_Barred ?T_Alike ?G_Alike ?T_BadDeed ?G_BadDeed ?V_v ?V_l ?V_r ?V_t ?DI_BadRow ?DI_NotRising ?DI_NoWorld ?DI_Uneven ?DI_Unlike ?DI_BadGranary ?DI_NoCart ?DI_NoGranary ?DI_NoBearer ?DI_NoPlace ?DI_NoCast ?DI_NoLoad ?DI_NoWish ?DI_NoDeed ?DI_Barred ?DI_Alike ?DI_BadDeed ?D_law
    case T_BadRow =>
      refine' VL.exck_mk ?ns ?lk ?e1 ?e2 ?sa ?no ?hg ?hk ?hs ?hd ?ha ?hn ?ht ?hm ?tyC ?kC
      (case ns => k_is); (case lk => k_is); (case e1 => rfl); (case e2 => rfl); (case sa => k_is); (case no => k_is); (case hg => k_is); (case hk => k_is); (case hs => k_is); (case hd => k_is); (case ha => k_is); (case hn => k_is); (case ht => k_is); (case hm => k_is); (case tyC => k_is); (case kC => k_is)
    (case G_BadRow => exact PySem.W.mg_of KX G (by k_is))
    case T_NotRising =>
      refine' VL.exck_mk ?ns ?lk ?e1 ?e2 ?sa ?no ?hg ?hk ?hs ?hd ?ha ?hn ?ht ?hm ?tyC ?kC
      (case ns => k_is); (case lk => k_is); (case e1 => rfl); (case e2 => rfl); (case sa => k_is); (case no => k_is); (case hg => k_is); (case hk => k_is); (case hs => k_is); (case hd => k_is); (case ha => k_is); (case hn => k_is); (case ht => k_is); (case hm => k_is); (case tyC => k_is); (case kC => k_is)
    (case G_NotRising => exact PySem.W.mg_of KX G (by k_is))
    case T_NoWorld =>
      refine' VL.exck_mk ?ns ?lk ?e1 ?e2 ?sa ?no ?hg ?hk ?hs ?hd ?ha ?hn ?ht ?hm ?tyC ?kC
      (case ns => k_is); (case lk => k_is); (case e1 => rfl); (case e2 => rfl); (case sa => k_is); (case no => k_is); (case hg => k_is); (case hk => k_is); (case hs => k_is); (case hd => k_is); (case ha => k_is); (case hn => k_is); (case ht => k_is); (case hm => k_is); (case tyC => k_is); (case kC => k_is)
    (case G_NoWorld => exact PySem.W.mg_of KX G (by k_is))
    case T_Uneven =>
      refine' VL.exck_mk ?ns ?lk ?e1 ?e2 ?sa ?no ?hg ?hk ?hs ?hd ?ha ?hn ?ht ?hm ?tyC ?kC
      (case ns => k_is); (case lk => k_is); (case e1 => rfl); (case e2 => rfl); (case sa => k_is); (case no => k_is); (case hg => k_is); (case hk => k_is); (case hs => k_is); (case hd => k_is); (case ha => k_is); (case hn => k_is); (case ht => k_is); (case hm => k_is); (case tyC => k_is); (case kC => k_is)
    (case G_Uneven => exact PySem.W.mg_of KX G (by k_is))
    case T_Unlike =>
      refine' VL.exck_mk ?ns ?lk ?e1 ?e2 ?sa ?no ?hg ?hk ?hs ?hd ?ha ?hn ?ht ?hm ?tyC ?kC
      (case ns => k_is); (case lk => k_is); (case e1 => rfl); (case e2 => rfl); (case sa => k_is); (case no => k_is); (case hg => k_is); (case hk => k_is); (case hs => k_is); (case hd => k_is); (case ha => k_is); (case hn => k_is); (case ht => k_is); (case hm => k_is); (case tyC => k_is); (case kC => k_is)
    (case G_Unlike => exact PySem.W.mg_of KX G (by k_is))
    case T_BadGranary =>
      refine' VL.exck_mk ?ns ?lk ?e1 ?e2 ?sa ?no ?hg ?hk ?hs ?hd ?ha ?hn ?ht ?hm ?tyC ?kC
      (case ns => k_is); (case lk => k_is); (case e1 => rfl); (case e2 => rfl); (case sa => k_is); (case no => k_is); (case hg => k_is); (case hk => k_is); (case hs => k_is); (case hd => k_is); (case ha => k_is); (case hn => k_is); (case ht => k_is); (case hm => k_is); (case tyC => k_is); (case kC => k_is)
    (case G_BadGranary => exact PySem.W.mg_of KX G (by k_is))
    case T_NoCart =>
      refine' VL.exck_mk ?ns ?lk ?e1 ?e2 ?sa ?no ?hg ?hk ?hs ?hd ?ha ?hn ?ht ?hm ?tyC ?kC
      (case ns => k_is); (case lk => k_is); (case e1 => rfl); (case e2 => rfl); (case sa => k_is); (case no => k_is); (case hg => k_is); (case hk => k_is); (case hs => k_is); (case hd => k_is); (case ha => k_is); (case hn => k_is); (case ht => k_is); (case hm => k_is); (case tyC => k_is); (case kC => k_is)
    (case G_NoCart => exact PySem.W.mg_of KX G (by k_is))
    case T_NoGranary =>
      refine' VL.exck_mk ?ns ?lk ?e1 ?e2 ?sa ?no ?hg ?hk ?hs ?hd ?ha ?hn ?ht ?hm ?tyC ?kC
      (case ns => k_is); (case lk => k_is); (case e1 => rfl); (case e2 => rfl); (case sa => k_is); (case no => k_is); (case hg => k_is); (case hk => k_is); (case hs => k_is); (case hd => k_is); (case ha => k_is); (case hn => k_is); (case ht => k_is); (case hm => k_is); (case tyC => k_is); (case kC => k_is)
    (case G_NoGranary => exact PySem.W.mg_of KX G (by k_is))
    case T_NoBearer =>
      refine' VL.exck_mk ?ns ?lk ?e1 ?e2 ?sa ?no ?hg ?hk ?hs ?hd ?ha ?hn ?ht ?hm ?tyC ?kC
      (case ns => k_is); (case lk => k_is); (case e1 => rfl); (case e2 => rfl); (case sa => k_is); (case no => k_is); (case hg => k_is); (case hk => k_is); (case hs => k_is); (case hd => k_is); (case ha => k_is); (case hn => k_is); (case ht => k_is); (case hm => k_is); (case tyC => k_is); (case kC => k_is)
    (case G_NoBearer => exact PySem.W.mg_of KX G (by k_is))
    case T_NoPlace =>
      refine' VL.exck_mk ?ns ?lk ?e1 ?e2 ?sa ?no ?hg ?hk ?hs ?hd ?ha ?hn ?ht ?hm ?tyC ?kC
      (case ns => k_is); (case lk => k_is); (case e1 => rfl); (case e2 => rfl); (case sa => k_is); (case no => k_is); (case hg => k_is); (case hk => k_is); (case hs => k_is); (case hd => k_is); (case ha => k_is); (case hn => k_is); (case ht => k_is); (case hm => k_is); (case tyC => k_is); (case kC => k_is)
    (case G_NoPlace => exact PySem.W.mg_of KX G (by k_is))
    case T_NoCast =>
      refine' VL.exck_mk ?ns ?lk ?e1 ?e2 ?sa ?no ?hg ?hk ?hs ?hd ?ha ?hn ?ht ?hm ?tyC ?kC
      (case ns => k_is); (case lk => k_is); (case e1 => rfl); (case e2 => rfl); (case sa => k_is); (case no => k_is); (case hg => k_is); (case hk => k_is); (case hs => k_is); (case hd => k_is); (case ha => k_is); (case hn => k_is); (case ht => k_is); (case hm => k_is); (case tyC => k_is); (case kC => k_is)
    (case G_NoCast => exact PySem.W.mg_of KX G (by k_is))
    case T_NoLoad =>
      refine' VL.exck_mk ?ns ?lk ?e1 ?e2 ?sa ?no ?hg ?hk ?hs ?hd ?ha ?hn ?ht ?hm ?tyC ?kC
      (case ns => k_is); (case lk => k_is); (case e1 => rfl); (case e2 => rfl); (case sa => k_is); (case no => k_is); (case hg => k_is); (case hk => k_is); (case hs => k_is); (case hd => k_is); (case ha => k_is); (case hn => k_is); (case ht => k_is); (case hm => k_is); (case tyC => k_is); (case kC => k_is)
    (case G_NoLoad => exact PySem.W.mg_of KX G (by k_is))
    case T_NoWish =>
      refine' VL.exck_mk ?ns ?lk ?e1 ?e2 ?sa ?no ?hg ?hk ?hs ?hd ?ha ?hn ?ht ?hm ?tyC ?kC
      (case ns => k_is); (case lk => k_is); (case e1 => rfl); (case e2 => rfl); (case sa => k_is); (case no => k_is); (case hg => k_is); (case hk => k_is); (case hs => k_is); (case hd => k_is); (case ha => k_is); (case hn => k_is); (case ht => k_is); (case hm => k_is); (case tyC => k_is); (case kC => k_is)
    (case G_NoWish => exact PySem.W.mg_of KX G (by k_is))
    case T_NoDeed =>
      refine' VL.exck_mk ?ns ?lk ?e1 ?e2 ?sa ?no ?hg ?hk ?hs ?hd ?ha ?hn ?ht ?hm ?tyC ?kC
      (case ns => k_is); (case lk => k_is); (case e1 => rfl); (case e2 => rfl); (case sa => k_is); (case no => k_is); (case hg => k_is); (case hk => k_is); (case hs => k_is); (case hd => k_is); (case ha => k_is); (case hn => k_is); (case ht => k_is); (case hm => k_is); (case tyC => k_is); (case kC => k_is)
    (case G_NoDeed => exact PySem.W.mg_of KX G (by k_is))
    case T_Barred =>
      refine' VL.exck_mk ?ns ?lk ?e1 ?e2 ?sa ?no ?hg ?hk ?hs ?hd ?ha ?hn ?ht ?hm ?tyC ?kC
      (case ns => k_is); (case lk => k_is); (case e1 => rfl); (case e2 => rfl); (case sa => k_is); (case no => k_is); (case hg => k_is); (case hk => k_is); (case hs => k_is); (case hd => k_is); (case ha => k_is); (case hn => k_is); (case ht => k_is); (case hm => k_is); (case tyC => k_is); (case kC => k_is)
    (case G_Barred => exact PySem.W.mg_of KX G (by k_is))
    case T_Alike =>
      refine' VL.exck_mk ?ns ?lk ?e1 ?e2 ?sa ?no ?hg ?hk ?hs ?hd ?ha ?hn ?ht ?hm ?tyC ?kC
      (case ns => k_is); (case lk => k_is); (case e1 => rfl); (case e2 => rfl); (case sa => k_is); (case no => k_is); (case hg => k_is); (case hk => k_is); (case hs => k_is); (case hd => k_is); (case ha => k_is); (case hn => k_is); (case ht => k_is); (case hm => k_is); (case tyC => k_is); (case kC => k_is)
    (case G_Alike => exact PySem.W.mg_of KX G (by k_is))
    case T_BadDeed =>
      refine' VL.exck_mk ?ns ?lk ?e1 ?e2 ?sa ?no ?hg ?hk ?hs ?hd ?ha ?hn ?ht ?hm ?tyC ?kC
      (case ns => k_is); (case lk => k_is); (case e1 => rfl); (case e2 => rfl); (case sa => k_is); (case no => k_is); (case hg => k_is); (case hk => k_is); (case hs => k_is); (case hd => k_is); (case ha => k_is); (case hn => k_is); (case ht => k_is); (case hm => k_is); (case tyC => k_is); (case kC => k_is)
    (case G_BadDeed => exact PySem.W.mg_of KX G (by k_is))
    (case V_v => k_is)
    (case V_l => k_is)
    (case V_r => k_is)
    (case V_t => k_is)
    case DI_BadRow =>
      refine' VL.def_mkMK ?a ?i ?l ?c ?k ?b ?w
      (case a => k_is); (case i => k_is); (case l => k_is); (case c => k_is); (case k => k_is)
      (case b => exact fun _ _ _ _ _ _ us hl => match us, hl with | [_, _], _ => rfl)
      (case w => exact fun _ _ _ _ _ _ us ws l1 l2 => match us, ws, l1, l2 with | [_], [_], _, _ => rfl)
    case DI_NotRising =>
      refine' VL.def_mkMK ?a ?i ?l ?c ?k ?b ?w
      (case a => k_is); (case i => k_is); (case l => k_is); (case c => k_is); (case k => k_is)
      (case b => exact fun _ _ _ _ _ _ us hl => match us, hl with | [_, _], _ => rfl)
      (case w => exact fun _ _ _ _ _ _ us ws l1 l2 => match us, ws, l1, l2 with | [_], [_], _, _ => rfl)
    case DI_NoWorld =>
      refine' VL.def_mkMK ?a ?i ?l ?c ?k ?b ?w
      (case a => k_is); (case i => k_is); (case l => k_is); (case c => k_is); (case k => k_is)
      (case b => exact fun _ _ _ _ _ _ us hl => match us, hl with | [_, _], _ => rfl)
      (case w => exact fun _ _ _ _ _ _ us ws l1 l2 => match us, ws, l1, l2 with | [_], [_], _, _ => rfl)
    case DI_Uneven =>
      refine' VL.def_mkMK ?a ?i ?l ?c ?k ?b ?w
      (case a => k_is); (case i => k_is); (case l => k_is); (case c => k_is); (case k => k_is)
      (case b => exact fun _ _ _ _ _ _ us hl => match us, hl with | [_, _], _ => rfl)
      (case w => exact fun _ _ _ _ _ _ us ws l1 l2 => match us, ws, l1, l2 with | [_], [_], _, _ => rfl)
    case DI_Unlike =>
      refine' VL.def_mkMK ?a ?i ?l ?c ?k ?b ?w
      (case a => k_is); (case i => k_is); (case l => k_is); (case c => k_is); (case k => k_is)
      (case b => exact fun _ _ _ _ _ _ us hl => match us, hl with | [_, _], _ => rfl)
      (case w => exact fun _ _ _ _ _ _ us ws l1 l2 => match us, ws, l1, l2 with | [_], [_], _, _ => rfl)
    case DI_BadGranary =>
      refine' VL.def_mkMK ?a ?i ?l ?c ?k ?b ?w
      (case a => k_is); (case i => k_is); (case l => k_is); (case c => k_is); (case k => k_is)
      (case b => exact fun _ _ _ _ _ _ us hl => match us, hl with | [_, _], _ => rfl)
      (case w => exact fun _ _ _ _ _ _ us ws l1 l2 => match us, ws, l1, l2 with | [_], [_], _, _ => rfl)
    case DI_NoCart =>
      refine' VL.def_mkMK ?a ?i ?l ?c ?k ?b ?w
      (case a => k_is); (case i => k_is); (case l => k_is); (case c => k_is); (case k => k_is)
      (case b => exact fun _ _ _ _ _ _ us hl => match us, hl with | [_, _], _ => rfl)
      (case w => exact fun _ _ _ _ _ _ us ws l1 l2 => match us, ws, l1, l2 with | [_], [_], _, _ => rfl)
    case DI_NoGranary =>
      refine' VL.def_mkMK ?a ?i ?l ?c ?k ?b ?w
      (case a => k_is); (case i => k_is); (case l => k_is); (case c => k_is); (case k => k_is)
      (case b => exact fun _ _ _ _ _ _ us hl => match us, hl with | [_, _], _ => rfl)
      (case w => exact fun _ _ _ _ _ _ us ws l1 l2 => match us, ws, l1, l2 with | [_], [_], _, _ => rfl)
    case DI_NoBearer =>
      refine' VL.def_mkMK ?a ?i ?l ?c ?k ?b ?w
      (case a => k_is); (case i => k_is); (case l => k_is); (case c => k_is); (case k => k_is)
      (case b => exact fun _ _ _ _ _ _ us hl => match us, hl with | [_, _], _ => rfl)
      (case w => exact fun _ _ _ _ _ _ us ws l1 l2 => match us, ws, l1, l2 with | [_], [_], _, _ => rfl)
    case DI_NoPlace =>
      refine' VL.def_mkMK ?a ?i ?l ?c ?k ?b ?w
      (case a => k_is); (case i => k_is); (case l => k_is); (case c => k_is); (case k => k_is)
      (case b => exact fun _ _ _ _ _ _ us hl => match us, hl with | [_, _], _ => rfl)
      (case w => exact fun _ _ _ _ _ _ us ws l1 l2 => match us, ws, l1, l2 with | [_], [_], _, _ => rfl)
    case DI_NoCast =>
      refine' VL.def_mkMK ?a ?i ?l ?c ?k ?b ?w
      (case a => k_is); (case i => k_is); (case l => k_is); (case c => k_is); (case k => k_is)
      (case b => exact fun _ _ _ _ _ _ us hl => match us, hl with | [_, _], _ => rfl)
      (case w => exact fun _ _ _ _ _ _ us ws l1 l2 => match us, ws, l1, l2 with | [_], [_], _, _ => rfl)
    case DI_NoLoad =>
      refine' VL.def_mkMK ?a ?i ?l ?c ?k ?b ?w
      (case a => k_is); (case i => k_is); (case l => k_is); (case c => k_is); (case k => k_is)
      (case b => exact fun _ _ _ _ _ _ us hl => match us, hl with | [_, _], _ => rfl)
      (case w => exact fun _ _ _ _ _ _ us ws l1 l2 => match us, ws, l1, l2 with | [_], [_], _, _ => rfl)
    case DI_NoWish =>
      refine' VL.def_mkMK ?a ?i ?l ?c ?k ?b ?w
      (case a => k_is); (case i => k_is); (case l => k_is); (case c => k_is); (case k => k_is)
      (case b => exact fun _ _ _ _ _ _ us hl => match us, hl with | [_, _], _ => rfl)
      (case w => exact fun _ _ _ _ _ _ us ws l1 l2 => match us, ws, l1, l2 with | [_], [_], _, _ => rfl)
    case DI_NoDeed =>
      refine' VL.def_mkMK ?a ?i ?l ?c ?k ?b ?w
      (case a => k_is); (case i => k_is); (case l => k_is); (case c => k_is); (case k => k_is)
      (case b => exact fun _ _ _ _ _ _ us hl => match us, hl with | [_, _], _ => rfl)
      (case w => exact fun _ _ _ _ _ _ us ws l1 l2 => match us, ws, l1, l2 with | [_], [_], _, _ => rfl)
    case DI_Barred =>
      refine' VL.def_mkMK ?a ?i ?l ?c ?k ?b ?w
      (case a => k_is); (case i => k_is); (case l => k_is); (case c => k_is); (case k => k_is)
      (case b => exact fun _ _ _ _ _ _ us hl => match us, hl with | [_, _], _ => rfl)
      (case w => exact fun _ _ _ _ _ _ us ws l1 l2 => match us, ws, l1, l2 with | [_], [_], _, _ => rfl)
    case DI_Alike =>
      refine' VL.def_mkMK ?a ?i ?l ?c ?k ?b ?w
      (case a => k_is); (case i => k_is); (case l => k_is); (case c => k_is); (case k => k_is)
      (case b => exact fun _ _ _ _ _ _ us hl => match us, hl with | [_, _], _ => rfl)
      (case w => exact fun _ _ _ _ _ _ us ws l1 l2 => match us, ws, l1, l2 with | [_], [_], _, _ => rfl)
    case DI_BadDeed =>
      refine' VL.def_mkMK ?a ?i ?l ?c ?k ?b ?w
      (case a => k_is); (case i => k_is); (case l => k_is); (case c => k_is); (case k => k_is)
      (case b => exact fun _ _ _ _ _ _ us hl => match us, hl with | [_, _], _ => rfl)
      (case w => exact fun _ _ _ _ _ _ us ws l1 l2 => match us, ws, l1, l2 with | [_], [_], _, _ => rfl)
    (case b_ValueError => exact PySem.W.mg_none_of KX G (by k_is))
    (case b_LookupError => exact PySem.W.mg_none_of KX G (by k_is))
    (case b_RuntimeError => exact PySem.W.mg_none_of KX G (by k_is))
    (case b_TypeError => exact PySem.W.mg_none_of KX G (by k_is))
    (case b_len => exact PySem.W.mg_none_of KX G (by k_is))
    (case b_abs => exact PySem.W.mg_none_of KX G (by k_is))
    (case b_int => exact PySem.W.mg_none_of KX G (by k_is))
    (case b_divmod => exact PySem.W.mg_none_of KX G (by k_is))
    (case b_list => exact PySem.W.mg_none_of KX G (by k_is))
    (case b_enumerate => exact PySem.W.mg_none_of KX G (by k_is))
    (case b_tuple => exact PySem.W.mg_none_of KX G (by k_is))
    (case b_isinstance => exact PySem.W.mg_none_of KX G (by k_is))
    (case b_zip => exact PySem.W.mg_none_of KX G (by k_is))
    (case b_all => exact PySem.W.mg_none_of KX G (by k_is))
    (case b_str => exact PySem.W.mg_none_of KX G (by k_is))
    (case b_bool => exact PySem.W.mg_none_of KX G (by k_is))
    (case b_range => exact PySem.W.mg_none_of KX G (by k_is))
    (case b_KeyError => exact PySem.W.mg_none_of KX G (by k_is))
    (case b_IndexError => exact PySem.W.mg_none_of KX G (by k_is))
    (case b_max => exact PySem.W.mg_none_of KX G (by k_is))
    case D_l_box =>
      refine' VL.def_mk KX G ?a ?l ?c ?k ?b
      (case a => k_is); (case l => k_is); (case c => k_is); (case k => k_is)
      (case b => exact fun _ _ _ _ _ _ us hl => match us, hl with | [_, _], _ => rfl)
    case D_l_take =>
      refine' VL.def_mk KX G ?a ?l ?c ?k ?b
      (case a => k_is); (case l => k_is); (case c => k_is); (case k => k_is)
      (case b => exact fun _ _ _ _ _ _ us hl => match us, hl with | [_, _], _ => rfl)
    case D_l_folded =>
      refine' VL.def_mk KX G ?a ?l ?c ?k ?b
      (case a => k_is); (case l => k_is); (case c => k_is); (case k => k_is)
      (case b => exact fun _ _ _ _ _ _ us hl => match us, hl with | [_, _], _ => rfl)
    case D_l_same =>
      refine' VL.def_mk KX G ?a ?l ?c ?k ?b
      (case a => k_is); (case l => k_is); (case c => k_is); (case k => k_is)
      (case b => exact fun _ _ _ _ _ _ us hl => match us, hl with | [_, _], _ => rfl)
    case D_l_values =>
      refine' VL.def_mk KX G ?a ?l ?c ?k ?b
      (case a => k_is); (case l => k_is); (case c => k_is); (case k => k_is)
      (case b => exact fun _ _ _ _ _ _ us hl => match us, hl with | [_], _ => rfl)
    case D_l_lookups =>
      refine' VL.def_mk KX G ?a ?l ?c ?k ?b
      (case a => k_is); (case l => k_is); (case c => k_is); (case k => k_is)
      (case b => exact fun _ _ _ _ _ _ us hl => match us, hl with | [_], _ => rfl)
    case D_l_kinds =>
      refine' VL.def_mk KX G ?a ?l ?c ?k ?b
      (case a => k_is); (case l => k_is); (case c => k_is); (case k => k_is)
      (case b => exact fun _ _ _ _ _ _ us hl => match us, hl with | [_], _ => rfl)
    case D_l_right =>
      refine' VL.def_mk KX G ?a ?l ?c ?k ?b
      (case a => k_is); (case l => k_is); (case c => k_is); (case k => k_is)
      (case b => exact fun _ _ _ _ _ _ us hl => match us, hl with | [_], _ => rfl)
    case D_law =>
      refine' VL.def_mk KX G ?a ?l ?c ?k ?b
      (case a => k_is); (case l => k_is); (case c => k_is); (case k => k_is)
      (case b => exact fun _ _ _ _ _ _ us hl => match us, hl with | [_], _ => rfl)
