import PyProof.Rows.All
import Wide.All
import OpenK.AllK
import Wide.FinOn
import HandS.ForMost
import HandS.Walk
import HandS.ForExc
import HandS.Deep
import HandS.TupAny
import HandS.IsInst
import HandS.FStr
import HandS.Property
import HandS.OwnEq
import HandS.Zip
import HandS.Codes
import HandS.TryMany
import HandS.ExcSuper
import HandS.ExcField
import HandS.ExcIs
import HandS.HotCalls
import HandS.RaiseFrom
import HandS.SuiteRaise
import HandS.Lambda
import HandS.Nested
import HandS.ClsMeth
import HandS.Star
import HandS.MethStar
import HandS.MakeKw
import HandS.Defaults
import HandS.SortRule
import HandS.TupSets
import HandS.DictTup
import HandS.DictComp
import HandS.GenCall
import HandS.GenList
import HandS.HeadHook4
import HandS.HeadEnd
import HandS.CallRecv
import HandS.Head2
import HandS.Flow
import HandS.Style
import HandS.Finally
import HandS.Remove
import HandS.StrMore
import HandS.NoneIn
import KE.GoesEnum
import HandS.Conv
import HandS.More
import HandS.MakeKwOnly
import KE.KStateDown
import HandS.Head0
import HandS.Head1
import HandS.HeadHook1
import HandS.HeadHook2
import KE.KExcSuper
import HandS.ExcInit
import KE.KDflt
import HandS.EndOwn
import PyProof.StrLaws
import PySem.Challenge.RW_feintkeys_k07_keys_in_boards
set_option Elab.async false
set_option linter.all false
set_option maxRecDepth 100000
set_option maxHeartbeats 4000000
namespace R
open PySem PySem.Spec PyProof.Rows L2

/-! ### data -/
inductive D where
  | non | bl (b : Bool) | int (i : Int) | str (x : Str)
  | lst (xs : List D) | tup (xs : List D)
  | dK (kvs : List (Key × D)) | dT (kvs : List (List Key × D))
  | ins (c : Nat) (fs : List (Str × D))
  | scr (ns : List Int)
  | exc (c : Nat) (fs : List (Str × D))
  | fnc (i : Nat) (ws : List D)
  | lam (i : Nat)
/-- the classes of the program, by number -/
def clsNames : List Str := ["Board", "Bounds", "Play", "Rule", "Seeker", "Case", "Paper", "Keyboard", "Busy", "Shelf", "Desk", "FeintError", "BadNumber", "BadText", "BadKey", "BadWord", "BadLook", "BadState", "BadRow", "TooWide", "Unlike", "TooSoon", "Steady", "BadName", "TakenName", "Full", "BadCommand", "BadLimit", "NoName", "NothingLeft"]
/-- a global's address -/
def gA (K : PySem.W.Frag) (x : Str) : Addr := match PySem.W.nsIn K mainGlobals x with
  | some (some (.ref a)) => a
  | _ => 0
def cA (K : PySem.W.Frag) (c : Nat) : Addr := gA K (clsNames.getD c Str.empty)

/-! lambdas: their texts, by number -/
structure LamT where
  qual : Str
  params : Arguments
  body : Expr
  scope : Scope
  /-- the captured names -/
  fr : List Str
  /-- has one parameter, 0 if none is given -/
  dfl : Bool
  /-- its parameter's name -/
  pn : List Str
  /-- its other names -/
  loc : List Str
abbrev LamT.N (T : LamT) : List Str := T.pn ++ (T.fr ++ T.loc)
class Keys where
  txt : Nat → LamT
  /-- the tables of code objects -/
  tab : Nat → Addr
  tq : Nat → Str
  /-- the cells of the frame that makes them -/
  cells : List (Str × Addr)
/-- an error of the class C, its dict at d -/
structure XO (C d : Addr) (o : Obj) : Prop where
  cls : o.cls = .ref C
  dict : o.dict = some d
  data : ∃ vs, o.data = .fields vs
/-- at a: this very object -/
def ObjX (a : Addr) (o : Obj) : HO := .ext fun h => h.get? a = some o
def lamFd (T : LamT) (cl : List (Str × Addr)) (c' : Addr) (tp : Addr) (pm ctv doc : Value) : FuncData :=
  { name := "<lambda>", qualname := T.qual, params := T.params, body := .expr T.body, scope := T.scope, globals := mainGlobals, closure := cl, defaults := if T.dfl then .ref tp else .none, kwdefaults := .none, doc := doc, pyModule := pm, annotations := none, code := .ref c', closureTuple := ctv, builtins := builtinsNs }
/-- at f: the lambda T over the cells cl -/
def LamO (f : Addr) (T : LamT) (cl : List (Str × Addr)) (c' tp : Addr) : HO := .ext fun h => ∃ pm ctv doc, h.get? f = some { cls := .type "function", data := .func (lamFd T cl c' tp pm ctv doc) }
structure LamG (G : Hp) (f : Addr) (T : LamT) (cl : List (Str × Addr)) (c' tp : Addr) : Prop where
  f : G f = some (LamO f T cl c' tp)
  c : G c' = some (LamX.CodeO c' T.qual)
  t : T.dfl = true → G tp = some (.tup [.int 0])
theorem LamG.mono {G G' : Hp} {f : Addr} {T : LamT} {cl : List (Str × Addr)} {c' tp : Addr} (e : ∀ a o, G a = some o → G' a = some o) (h : LamG G f T cl c' tp) : LamG G' f T cl c' tp := ⟨e _ _ h.f, e _ _ h.c, fun z => e _ _ (h.t z)⟩
/-- the captured cells hold the values vs -/
structure CelG (G : Hp) (T : LamT) (cl : List (Str × Addr)) (vs : List V) : Prop where
  len : vs.length = T.fr.length
  inj : ∀ x y c, cl.lookup x = some c → cl.lookup y = some c → x = y
  own : ∀ y c, cl.lookup y = some c → y ∈ T.fr
  has : ∀ (k : Nat) y v, T.fr[k]? = some y → vs[k]? = some v → ∃ c o u, cl.lookup y = some c ∧ G c = some (ObjX c o) ∧ o.data = .cell (some u) ∧ RelV v u
theorem CelG.mono {G G' : Hp} {T : LamT} {cl : List (Str × Addr)} {vs : List V} (e : ∀ a o, G a = some o → G' a = some o) (h : CelG G T cl vs) : CelG G' T cl vs :=
  ⟨h.len, h.inj, h.own, fun k y v h1 h2 => by obtain ⟨c, o, u, a, b, r⟩ := h.has k y v h1 h2; exact ⟨c, o, u, a, e _ _ b, r⟩⟩
variable [Keys]
mutual
/-- at v stands the data d, by what G tells -/
inductive Rp [Keys] (K : PySem.W.Frag) (G : Hp) : V → D → Prop
  | non : Rp K G .non .non
  | bl (b : Bool) : Rp K G (.bl b) (.bl b)
  | int (i : Int) : Rp K G (.int i) (.int i)
  | str (x : Str) : Rp K G (.str x) (.str x)
  | lst {a : Addr} {xs : List V} {ds : List D} : G a = some (.lst xs) → Rps K G xs ds → Rp K G (.ref a) (.lst ds)
  | scr {a : Addr} {ns : List Int} : SqL K G a (ns.map V.int) → Rp K G (.ref a) (.scr ns)
  | tup {a : Addr} {xs : List V} {ds : List D} : SqT K G a xs → Rps K G xs ds → Rp K G (.ref a) (.tup ds)
  | dK {a : Addr} {xs : List (Key × V)} {ds : List (Key × D)} : Rd G a (.dK xs) → RpK K G xs ds → Rp K G (.ref a) (.dK ds)
  | dT {a : Addr} {xs : List (List Key × V)} {ds : List (List Key × D)} : Rd G a (.dT xs) → RpT K G xs ds → Rp K G (.ref a) (.dT ds)
  | ins {a dx : Addr} {c : Nat} {gs : List (Str × V)} {fs : List (Str × D)} : G a = some (.ins (cA K c) dx gs) → RpF K G gs fs → Rp K G (.ref a) (.ins c fs)
  | exc {a dx : Addr} {c : Nat} {gs : List (Str × V)} {fs : List (Str × D)} {o : Obj} : G a = some (ObjX a o) → XO (cA K c) dx o → G dx = some (.xd gs) → RpF K G gs fs → Rp K G (.ref a) (.exc c fs)
  | fnc {f c' tp : Addr} {i : Nat} {cl : List (Str × Addr)} {vs : List V} {ws : List D} : LamG G f (Keys.txt i) cl c' tp → CelG G (Keys.txt i) cl vs → Rps K G vs ws → Rp K G (.ref f) (.fnc i ws)
  | lam {f c' tp : Addr} {i : Nat} : LamG G f (Keys.txt i) (cloFrom Keys.cells (Keys.txt i).scope.names []) c' tp → Rp K G (.ref f) (.lam i)
inductive Rps [Keys] (K : PySem.W.Frag) (G : Hp) : List V → List D → Prop
  | nil : Rps K G [] []
  | cons {v : V} {vs : List V} {d : D} {ds : List D} : Rp K G v d → Rps K G vs ds → Rps K G (v :: vs) (d :: ds)
inductive RpF [Keys] (K : PySem.W.Frag) (G : Hp) : List (Str × V) → List (Str × D) → Prop
  | nil : RpF K G [] []
  | cons {n : Str} {v : V} {vs : List (Str × V)} {d : D} {ds : List (Str × D)} : Rp K G v d → RpF K G vs ds → RpF K G ((n, v) :: vs) ((n, d) :: ds)
inductive RpK [Keys] (K : PySem.W.Frag) (G : Hp) : List (Key × V) → List (Key × D) → Prop
  | nil : RpK K G [] []
  | cons {n : Key} {v : V} {vs : List (Key × V)} {d : D} {ds : List (Key × D)} : Rp K G v d → RpK K G vs ds → RpK K G ((n, v) :: vs) ((n, d) :: ds)
inductive RpT [Keys] (K : PySem.W.Frag) (G : Hp) : List (List Key × V) → List (List Key × D) → Prop
  | nil : RpT K G [] []
  | cons {n : List Key} {v : V} {vs : List (List Key × V)} {d : D} {ds : List (List Key × D)} : Rp K G v d → RpT K G vs ds → RpT K G ((n, v) :: vs) ((n, d) :: ds)
end

def isDic : HO → Bool
  | .dK _ => true
  | .dT _ => true
  | _ => false
/-- what G tells stands in H (a dict may be locked) -/
def Le (G H : Hp) : Prop := ∀ a o, G a = some o → H a = some o ∨ (isDic o = true ∧ ∃ ob, H a = some (.frz ob o))
theorem Le.refl (G : Hp) : Le G G := fun _ _ h => .inl h
/-- plain extension -/
def Ex (H H' : Hp) : Prop := ∀ a o, H a = some o → H' a = some o
theorem Ex.refl (H : Hp) : Ex H H := fun _ _ h => h
theorem Ex.trans {H H1 H2 : Hp} (a : Ex H H1) (b : Ex H1 H2) : Ex H H2 := fun x o h => b x o (a x o h)
theorem Ex.new {H : Hp} {p : Addr} {o : HO} (h : H p = none) : Ex H (upd H p o) := fun a u e => by
  rw [upd_ne (ne_of_none e h)]; exact e
theorem Ex.le {G H : Hp} (e : Ex G H) : Le G H := fun a o h => .inl (e a o h)
theorem Ex.Le {G G' H : Hp} (e : Ex G G') (l : Le G' H) : R.Le G H := fun a o h => l a o (e a o h)
theorem Le.ex {G H H' : Hp} (l : Le G H) (e : Ex H H') : Le G H' := fun a o h => (l a o h).elim (fun z => .inl (e _ _ z)) fun ⟨z, ob, w⟩ => .inr ⟨z, ob, e _ _ w⟩
theorem Le.rd {G H : Hp} {a : Addr} {u : HO} (e : Le G H) (h : Rd G a u) : Rd H a u := by
  rcases h with h | ⟨o, h⟩
  · rcases e a _ h with z | ⟨_, ob, z⟩
    · exact .inl z
    · exact .inr ⟨ob, z⟩
  · rcases e a _ h with z | ⟨w, ob, z⟩
    · exact .inr ⟨o, z⟩
    · cases w
theorem Le.l {K : PySem.W.Frag} {G H : Hp} {a : Addr} {xs : List V} (e : Le G H) (h : SqL K G a xs) : SqL K H a xs := by
  rcases h with h | h
  · exact .inl (e.rd h)
  · exact .inr h
theorem Le.t {K : PySem.W.Frag} {G H : Hp} {a : Addr} {xs : List V} (e : Le G H) (h : SqT K G a xs) : SqT K H a xs := by
  rcases h with h | h
  · exact .inl (e.rd h)
  · exact .inr h
theorem Le.lst {G H : Hp} {a : Addr} {xs : List V} (e : Le G H) (h : G a = some (.lst xs)) : H a = some (.lst xs) := by
  rcases e a _ h with z | ⟨w, _⟩
  · exact z
  · cases w
theorem Le.ins {G H : Hp} {a C dx : Addr} {fs : List (Str × V)} (e : Le G H) (h : G a = some (.ins C dx fs)) : H a = some (.ins C dx fs) := by
  rcases e a _ h with z | ⟨w, _⟩
  · exact z
  · cases w
theorem Ex.rd {G H : Hp} {a : Addr} {u : HO} (e : Ex G H) (h : Rd G a u) : Rd H a u := by
  rcases h with h | ⟨o, h⟩
  · exact .inl (e a _ h)
  · exact .inr ⟨o, e a _ h⟩
theorem Ex.l {K : PySem.W.Frag} {G H : Hp} {a : Addr} {xs : List V} (e : Ex G H) (h : SqL K G a xs) : SqL K H a xs := e.le.l h
theorem Ex.t {K : PySem.W.Frag} {G H : Hp} {a : Addr} {xs : List V} (e : Ex G H) (h : SqT K G a xs) : SqT K H a xs := e.le.t h

section
variable {K : PySem.W.Frag} {G G' : Hp}
mutual
theorem Rp.mono (e : Ex G G') : ∀ {v : V} {d : D}, Rp K G v d → Rp K G' v d
  | _, _, .non => .non
  | _, _, .bl b => .bl b
  | _, _, .int i => .int i
  | _, _, .str x => .str x
  | _, _, .lst h r => .lst (e _ _ h) (Rps.mono e r)
  | _, _, .scr h => .scr (e.l h)
  | _, _, .tup h r => .tup (e.t h) (Rps.mono e r)
  | _, _, .dK h r => .dK (e.rd h) (RpK.mono e r)
  | _, _, .dT h r => .dT (e.rd h) (RpT.mono e r)
  | _, _, .ins h r => .ins (e _ _ h) (RpF.mono e r)
  | _, _, .exc h1 h0 h2 r => .exc (e _ _ h1) h0 (e _ _ h2) (RpF.mono e r)
  | _, _, .fnc h1 h2 r => .fnc (h1.mono e) (h2.mono e) (Rps.mono e r)
  | _, _, .lam h => .lam (h.mono e)
theorem Rps.mono (e : Ex G G') : ∀ {v : List V} {d : List D}, Rps K G v d → Rps K G' v d
  | _, _, .nil => .nil
  | _, _, .cons h r => .cons (Rp.mono e h) (Rps.mono e r)
theorem RpF.mono (e : Ex G G') : ∀ {v : List (Str × V)} {d : List (Str × D)}, RpF K G v d → RpF K G' v d
  | _, _, .nil => .nil
  | _, _, .cons h r => .cons (Rp.mono e h) (RpF.mono e r)
theorem RpK.mono (e : Ex G G') : ∀ {v : List (Key × V)} {d : List (Key × D)}, RpK K G v d → RpK K G' v d
  | _, _, .nil => .nil
  | _, _, .cons h r => .cons (Rp.mono e h) (RpK.mono e r)
theorem RpT.mono (e : Ex G G') : ∀ {v : List (List Key × V)} {d : List (List Key × D)}, RpT K G v d → RpT K G' v d
  | _, _, .nil => .nil
  | _, _, .cons h r => .cons (Rp.mono e h) (RpT.mono e r)
end
theorem Rps.length : ∀ {vs : List V} {ds : List D}, Rps K G vs ds → vs.length = ds.length
  | _, _, .nil => rfl
  | _, _, .cons _ r => congrArg Nat.succ (Rps.length r)
theorem Rps.get : ∀ {vs : List V} {ds : List D} {i : Nat} {d : D}, Rps K G vs ds → ds[i]? = some d → ∃ v, vs[i]? = some v ∧ Rp K G v d
  | _, _, _, _, .nil, e => by simp at e
  | _, _, 0, _, .cons h _, e => by simp at e; subst e; exact ⟨_, rfl, h⟩
  | _, _, i + 1, _, .cons _ r, e => by
    obtain ⟨v, h1, h2⟩ := Rps.get (i := i) r (by simpa using e)
    exact ⟨v, by simpa using h1, h2⟩
theorem Rps.getV : ∀ {vs : List V} {ds : List D} {i : Nat} {v : V}, Rps K G vs ds → vs[i]? = some v → ∃ d, ds[i]? = some d ∧ Rp K G v d
  | _, _, _, _, .nil, e => by simp at e
  | _, _, 0, _, .cons h _, e => by simp at e; subst e; exact ⟨_, rfl, h⟩
  | _, _, i + 1, _, .cons _ r, e => by
    obtain ⟨v, h1, h2⟩ := Rps.getV (i := i) r (by simpa using e)
    exact ⟨v, by simpa using h1, h2⟩
theorem Rps.append : ∀ {vs ws : List V} {ds es : List D}, Rps K G vs ds → Rps K G ws es → Rps K G (vs ++ ws) (ds ++ es)
  | _, _, _, _, .nil, s => s
  | _, _, _, _, .cons h r, s => .cons h (Rps.append r s)
theorem Rps.drop : ∀ {vs : List V} {ds : List D} (n : Nat), Rps K G vs ds → Rps K G (vs.drop n) (ds.drop n)
  | _, _, 0, r => r
  | _, _, _ + 1, .nil => .nil
  | _, _, n + 1, .cons _ r => Rps.drop n r
theorem Rps.take : ∀ {vs : List V} {ds : List D} (n : Nat), Rps K G vs ds → Rps K G (vs.take n) (ds.take n)
  | _, _, 0, _ => .nil
  | _, _, _ + 1, .nil => .nil
  | _, _, n + 1, .cons h r => .cons h (Rps.take n r)
theorem RpF.lookup : ∀ {gs : List (Str × V)} {fs : List (Str × D)} {n : Str} {d : D}, RpF K G gs fs → fs.lookup n = some d → ∃ v, gs.lookup n = some v ∧ Rp K G v d
  | _, _, _, _, .nil, e => by cases e
  | _, _, n, d, .cons (n := m) (v := v) (vs := vs) (d := d') (ds := ds) h r, e => by
    rw [List.lookup_cons] at e ⊢
    cases q : (n == m) with
    | true => rw [q] at e; cases e; exact ⟨_, rfl, h⟩
    | false => rw [q] at e; exact RpF.lookup r e
theorem RpF.lookupN : ∀ {gs : List (Str × V)} {fs : List (Str × D)} {n : Str}, RpF K G gs fs → fs.lookup n = none → gs.lookup n = none
  | _, _, _, .nil, e => rfl
  | _, _, n, .cons (n := m) (v := v) (vs := vs) (d := d') (ds := ds) h r, e => by
    rw [List.lookup_cons] at e ⊢
    cases q : (n == m) with
    | true => rw [q] at e; cases e
    | false => rw [q] at e; exact RpF.lookupN r e
end

/-! ### slots, mutable objects -/
inductive Sl where
  | un | dat (d : D) | mu (j : Nat) | raw (v : V)
inductive MO where
  | fz (d : Option D) | hand | tab (i : Nat)
  | lst (xs : List Sl)
  | dK (kvs : List (Key × Sl)) | dT (kvs : List (List Key × Sl))
  | ins (c : Nat) (fs : List (Str × Sl))
/-- may change -/
def MO.live : MO → Prop
  | .fz _ => False
  | _ => True

/-- what stands in v -/
def RpS (K : PySem.W.Frag) (Ad : List Addr) (G : Hp) (v : V) : Sl → Prop
  | .un => True
  | .dat d => Rp K G v d
  | .mu j => ∃ a, Ad[j]? = some a ∧ v = .ref a
  | .raw w => v = w
def RpSs (K : PySem.W.Frag) (Ad : List Addr) (G : Hp) (vs : List V) (ss : List Sl) : Prop := Paired (RpS K Ad G) vs ss
def RpSf {κ : Type} (K : PySem.W.Frag) (Ad : List Addr) (G : Hp) (vs : List (κ × V)) (ss : List (κ × Sl)) : Prop := Paired (fun p q => p.1 = q.1 ∧ RpS K Ad G p.2 q.2) vs ss

/-- the law's hand: the numbers to draw from, and four ints -/
def HandOk (K : PySem.W.Frag) (G H : Hp) (a : Addr) : Prop :=
  ∃ (s : Addr) (ns : List Int) (i d x y : Int), H a = some (.lst [.ref s, .int i, .int d, .int x, .int y]) ∧ G s = some (.lst (ns.map V.int)) ∧ ns.length ≤ 63 ∧ 0 ≤ i ∧ 0 ≤ x ∧ x < 2147483647

def MOk (K : PySem.W.Frag) (Ad : List Addr) (G H : Hp) (a : Addr) : MO → Prop
  | .fz o => (∃ u, G a = some u ∧ ∀ ob, u ≠ ObjX a ob) ∧ ∀ d, o = some d → Rp K G (.ref a) d
  | .hand => HandOk K G H a
  | .tab i => a = Keys.tab i ∧ ∃ ps : Array Value, H a = some (.tbl ps) ∧ TriplesOk ps.toList ∧ ∀ (pos : Pos) (cv : Value), codeAmong pos ps.toList = some cv → ∃ c, cv = .ref c ∧ G c = some (LamX.CodeO c (Keys.tq i))
  | .lst xs => ∃ vs, H a = some (.lst vs) ∧ RpSs K Ad G vs xs
  | .dK xs => ∃ vs, H a = some (.dK vs) ∧ RpSf K Ad G vs xs
  | .dT xs => ∃ vs, H a = some (.dT vs) ∧ RpSf K Ad G vs xs
  | .ins c fs => ∃ dx gs, H a = some (.ins (cA K c) dx gs) ∧ RpSf K Ad G gs fs

structure MS (K : PySem.W.Frag) (Ad : List Addr) (G : Hp) (M : List MO) (H : Hp) : Prop where
  le : Le G H
  len : Ad.length = M.length
  nd : Ad.Nodup
  mo : ∀ (j : Nat) a m, Ad[j]? = some a → M[j]? = some m → (m.live → G a = none) ∧ MOk K Ad G H a m
  dom : ∀ a ∈ Ad, H a ≠ none

structure EnvR (K : PySem.W.Frag) (Ad : List Addr) (G : Hp) (σ : L2.St) (ρ : List Sl) : Prop where
  len : σ.length = ρ.length
  at_ : ∀ (i : Nat) s, ρ[i]? = some s → s = .un ∨ ∃ v, σ[i]? = some (some v) ∧ RpS K Ad G v s

structure Grow (Ad : List Addr) (G H : Hp) (Ad' : List Addr) (G' H' : Hp) : Prop where
  ex : Ex G G'
  pre : ∃ more, Ad' = Ad ++ more ∧ ∀ a ∈ more, H a = none
  fr : ∀ a o, H a = some o → a ∉ Ad → H' a = some o
  gh : ∀ a, H a ≠ none → a ∉ Ad → G' a = G a
  dom : ∀ a, H a ≠ none → H' a ≠ none

theorem Grow.refl (Ad : List Addr) (G H : Hp) : Grow Ad G H Ad G H := ⟨Ex.refl G, ⟨[], by simp, by simp⟩, fun _ _ h _ => h, fun _ _ _ => rfl, fun _ h => h⟩
theorem Grow.trans {Ad Ad1 Ad2 : List Addr} {G G1 G2 H H1 H2 : Hp} (a : Grow Ad G H Ad1 G1 H1) (b : Grow Ad1 G1 H1 Ad2 G2 H2) : Grow Ad G H Ad2 G2 H2 := by
  obtain ⟨m1, e1, n1⟩ := a.pre
  obtain ⟨m2, e2, n2⟩ := b.pre
  have nin : ∀ x, H x ≠ none → x ∉ Ad → x ∉ Ad1 := fun x hx h z => by
    rw [e1] at z
    rcases List.mem_append.mp z with z | z
    · exact h z
    · exact hx (n1 x z)
  refine ⟨a.ex.trans b.ex, ⟨m1 ++ m2, by rw [e2, e1, List.append_assoc], fun x hx => ?_⟩, fun x o h hn => ?_, fun x h hn => ?_, fun x h => b.dom x (a.dom x h)⟩
  · rcases List.mem_append.mp hx with z | z
    · exact n1 x z
    · have h1 := n2 x z
      cases q : H x with
      | none => rfl
      | some o => exact absurd h1 (a.dom x (by rw [q]; simp))
  · exact b.fr x o (a.fr x o h hn) (nin x (by rw [h]; simp) hn)
  · rw [b.gh x (a.dom x h) (nin x h hn), a.gh x h hn]
theorem Grow.get {Ad Ad' : List Addr} {G G' H H' : Hp} (g : Grow Ad G H Ad' G' H') {j : Nat} {a : Addr} (h : Ad[j]? = some a) : Ad'[j]? = some a := by
  obtain ⟨m, e, _⟩ := g.pre
  rw [e, List.getElem?_append_left (List.getElem?_eq_some_iff.mp h).1]; exact h

section
variable {K : PySem.W.Frag} {Ad Ad' : List Addr} {G G' H H' : Hp} {M M' : List MO} {ρ : List Sl} {σ : L2.St}
theorem RpS.mono {v : V} {s : Sl} (e : Ex G G') (p : ∀ (j : Nat) a, Ad[j]? = some a → Ad'[j]? = some a) (h : RpS K Ad G v s) : RpS K Ad' G' v s := by
  cases s with
  | un => trivial
  | dat d => exact Rp.mono e h
  | mu j => obtain ⟨a, h1, h2⟩ := h; exact ⟨a, p _ _ h1, h2⟩
  | raw w => exact h
theorem RpS.grow {v : V} {s : Sl} (g : Grow Ad G H Ad' G' H') (h : RpS K Ad G v s) : RpS K Ad' G' v s := h.mono g.ex fun _ _ => g.get
theorem RpSs.mono {vs : List V} {ss : List Sl} (e : Ex G G') (p : ∀ (j : Nat) a, Ad[j]? = some a → Ad'[j]? = some a) (h : RpSs K Ad G vs ss) : RpSs K Ad' G' vs ss := Paired.mapP h fun _ _ z => z.mono e p
theorem RpSs.grow {vs : List V} {ss : List Sl} (g : Grow Ad G H Ad' G' H') (h : RpSs K Ad G vs ss) : RpSs K Ad' G' vs ss := h.mono g.ex fun _ _ => g.get
theorem RpSf.mono {κ : Type} {vs : List (κ × V)} {ss : List (κ × Sl)} (e : Ex G G') (p : ∀ (j : Nat) a, Ad[j]? = some a → Ad'[j]? = some a) (h : RpSf K Ad G vs ss) : RpSf K Ad' G' vs ss := Paired.mapP h fun _ _ z => ⟨z.1, z.2.mono e p⟩
theorem EnvR.grow (g : Grow Ad G H Ad' G' H') (h : EnvR K Ad G σ ρ) : EnvR K Ad' G' σ ρ := ⟨h.len, fun i s e => (h.at_ i s e).elim .inl fun ⟨v, e1, r⟩ => .inr ⟨v, e1, r.grow g⟩⟩
theorem EnvR.set {i : Nat} {v : V} {s : Sl} (h : EnvR K Ad G σ ρ) (r : RpS K Ad G v s) : EnvR K Ad G (σ.set i (some v)) (ρ.set i s) := by
  refine ⟨by rw [List.length_set, List.length_set]; exact h.len, fun j t e => ?_⟩
  by_cases hj : i = j
  · subst hj
    rw [List.getElem?_set] at e
    split at e
    · split at e
      · cases e
        refine .inr ⟨v, ?_, r⟩
        rw [List.getElem?_set_self (by rw [h.len]; assumption)]
      · cases e
    · exact absurd rfl ‹_›
  · rw [List.getElem?_set_ne hj] at e ⊢
    exact h.at_ j t e
theorem HandOk.mono {a : Addr} (e : Ex G G') (hh : H' a = H a) (h : HandOk K G H a) : HandOk K G' H' a := by
  obtain ⟨s, ns, i, d, x, y, h1, h2, h3⟩ := h
  exact ⟨s, ns, i, d, x, y, by rw [hh]; exact h1, e _ _ h2, h3⟩
theorem MOk.mono {a : Addr} {m : MO} (e : Ex G G') (p : ∀ (j : Nat) a, Ad[j]? = some a → Ad'[j]? = some a) (hh : H' a = H a) (h : MOk K Ad G H a m) : MOk K Ad' G' H' a m := by
  cases m with
  | fz o => exact ⟨h.1.imp fun u q => ⟨e _ _ q.1, q.2⟩, fun d q => Rp.mono e (h.2 d q)⟩
  | hand => exact HandOk.mono (K := K) e hh h
  | tab i =>
    obtain ⟨h0, ps, h1, h2, h3⟩ := h
    exact ⟨h0, ps, by rw [hh]; exact h1, h2, fun pos cv hc => by obtain ⟨c, e1, e2⟩ := h3 pos cv hc; exact ⟨c, e1, e _ _ e2⟩⟩
  | lst xs => obtain ⟨vs, h1, h2⟩ := h; exact ⟨vs, by rw [hh]; exact h1, h2.mono e p⟩
  | dK xs => obtain ⟨vs, h1, h2⟩ := h; exact ⟨vs, by rw [hh]; exact h1, RpSf.mono e p h2⟩
  | dT xs => obtain ⟨vs, h1, h2⟩ := h; exact ⟨vs, by rw [hh]; exact h1, RpSf.mono e p h2⟩
  | ins C fs => obtain ⟨dx, vs, h1, h2⟩ := h; exact ⟨dx, vs, by rw [hh]; exact h1, RpSf.mono e p h2⟩

/-- a pure step: nothing that stood changes, G tells more of what is new -/
structure Pure (G H G' H' : Hp) : Prop where
  ex : Ex G G'
  le : Le G' H'
  fr : Ex H H'
  gh : ∀ a, H a ≠ none → G' a = G a
theorem Pure.refl (l : Le G H) : Pure G H G H := ⟨Ex.refl G, l, Ex.refl H, fun _ _ => rfl⟩
theorem Pure.trans {G1 H1 G2 H2 : Hp} (a : Pure G H G1 H1) (b : Pure G1 H1 G2 H2) : Pure G H G2 H2 :=
  ⟨a.ex.trans b.ex, b.le, a.fr.trans b.fr, fun x h => by
    rw [b.gh x, a.gh x h]
    cases q : H x with
    | none => exact absurd q h
    | some o => rw [a.fr x o q]; simp⟩
/-- a new object, told -/
theorem Pure.new {p : Addr} {o : HO} (l : Le G H) (h : H p = none) : Pure G H (upd G p o) (upd H p o) := by
  have gp : G p = none := by
    cases q : G p with
    | none => rfl
    | some u =>
      rcases l p u q with z | ⟨_, _, z⟩ <;> rw [h] at z <;> cases z
  refine ⟨Ex.new gp, fun a u e => ?_, Ex.new h, fun a hh => ?_⟩
  · by_cases q : a = p
    · subst q; rw [upd_same] at e ⊢; exact .inl e
    · rw [upd_ne q] at e ⊢; exact l a u e
  · by_cases q : a = p
    · subst q; exact absurd h hh
    · rw [upd_ne q]
theorem MS.pure (ms : MS K Ad G M H) (p : Pure G H G' H') : MS K Ad G' M H' := by
  refine ⟨p.le, ms.len, ms.nd, fun j a m h1 h2 => ?_, fun a ha => ?_⟩
  · have ha : H a ≠ none := ms.dom a (List.mem_of_getElem? h1)
    obtain ⟨q1, q2⟩ := ms.mo j a m h1 h2
    refine ⟨fun z => by rw [p.gh a ha]; exact q1 z, q2.mono p.ex (fun _ _ z => z) ?_⟩
    cases q : H a with
    | none => exact absurd q ha
    | some o => exact p.fr a o q
  · cases q : H a with
    | none => exact absurd q (ms.dom a ha)
    | some o => rw [p.fr a o q]; simp
theorem Pure.grow (p : Pure G H G' H') : Grow Ad G H Ad G' H' := ⟨p.ex, ⟨[], by simp, by simp⟩, fun a o h _ => p.fr a o h, fun a h _ => p.gh a h, fun a h => by
  cases q : H a with
  | none => exact absurd q h
  | some o => rw [p.fr a o q]; simp⟩
theorem MS.ad (ms : MS K Ad G M H) {j : Nat} {m : MO} (h : M[j]? = some m) : ∃ a, Ad[j]? = some a ∧ H a ≠ none := by
  have hl : j < Ad.length := by rw [ms.len]; exact (List.getElem?_eq_some_iff.mp h).1
  exact ⟨Ad[j], by simp [hl], ms.dom _ (List.getElem_mem hl)⟩
theorem MS.inj (ms : MS K Ad G M H) {i j : Nat} {a : Addr} (h1 : Ad[i]? = some a) (h2 : Ad[j]? = some a) : i = j := by
  obtain ⟨l1, e1⟩ := List.getElem?_eq_some_iff.mp h1
  obtain ⟨l2, e2⟩ := List.getElem?_eq_some_iff.mp h2
  exact (List.getElem_inj ms.nd).mp (e1.trans e2.symm)
/-- the j-th mutable object is changed -/
theorem MS.write (ms : MS K Ad G M H) {j : Nat} {a : Addr} {m m' : MO} {o : HO} (h1 : Ad[j]? = some a) (h2 : M[j]? = some m) (hm : m.live) (hk : MOk K Ad G (upd H a o) a m') : MS K Ad G (M.set j m') (upd H a o) := by
  have ga : G a = none := (ms.mo j a m h1 h2).1 hm
  refine ⟨fun b u e => ?_, by rw [List.length_set]; exact ms.len, ms.nd, fun i b mi e1 e2 => ?_, fun b hb => ?_⟩
  · have : b ≠ a := fun z => by rw [z, ga] at e; cases e
    rw [upd_ne this]
    exact ms.le b u e
  · by_cases q : i = j
    · subst q
      rw [h1] at e1; cases e1
      rw [List.getElem?_set_self (List.getElem?_eq_some_iff.mp h2).1] at e2
      cases e2
      exact ⟨fun _ => ga, hk⟩
    · rw [List.getElem?_set_ne (Ne.symm q)] at e2
      have : b ≠ a := fun z => q (ms.inj e1 (z ▸ h1))
      obtain ⟨q1, q2⟩ := ms.mo i b mi e1 e2
      exact ⟨q1, q2.mono (Ex.refl G) (fun _ _ z => z) (upd_ne this)⟩
  · by_cases q : b = a
    · subst q; rw [upd_same]; simp
    · rw [upd_ne q]; exact ms.dom b hb
theorem Grow.write {a : Addr} {o : HO} (h : a ∈ Ad) (hd : H a ≠ none) : Grow Ad G H Ad G (upd H a o) := ⟨Ex.refl G, ⟨[], by simp, by simp⟩, fun b u e n => by
    have q : b ≠ a := fun z => n (by rw [z]; exact h)
    rw [upd_ne q]; exact e, fun _ _ _ => rfl, fun b e => by
    by_cases q : b = a
    · subst q; rw [upd_same]; simp
    · rw [upd_ne q]; exact e⟩
/-- a new mutable object -/
theorem MS.newM (ms : MS K Ad G M H) {p : Addr} {m : MO} {o : HO} (h : H p = none) (hk : MOk K (Ad ++ [p]) G (upd H p o) p m) : MS K (Ad ++ [p]) G (M ++ [m]) (upd H p o) ∧ Grow Ad G H (Ad ++ [p]) G (upd H p o) := by
  have gp : G p = none := by
    cases q : G p with
    | none => rfl
    | some u =>
      rcases ms.le p u q with z | ⟨_, _, z⟩ <;> rw [h] at z <;> cases z
  have np : p ∉ Ad := fun z => ms.dom p z h
  have look : ∀ (j : Nat) a, Ad[j]? = some a → (Ad ++ [p])[j]? = some a := fun j a e => by
    rw [List.getElem?_append_left (List.getElem?_eq_some_iff.mp e).1]; exact e
  refine ⟨⟨ms.le.ex (Ex.new h), by simp [ms.len], ?_, fun j a mj e1 e2 => ?_, fun a ha => ?_⟩, ⟨Ex.refl G, ⟨[p], rfl, fun a ha => by
      have : a = p := by simpa using ha
      subst this; exact h⟩, fun a u e _ => Ex.new h a u e, fun _ _ _ => rfl, fun a e => ?_⟩⟩
  · rw [List.nodup_append]
    refine ⟨ms.nd, by simp, fun a ha b hb => ?_⟩
    have : b = p := by simpa using hb
    subst this
    exact fun z => np (z ▸ ha)
  · by_cases q : j < Ad.length
    · rw [List.getElem?_append_left q] at e1
      rw [List.getElem?_append_left (by rw [← ms.len]; exact q)] at e2
      obtain ⟨q1, q2⟩ := ms.mo j a mj e1 e2
      have : a ≠ p := fun z => np (z ▸ List.mem_of_getElem? e1)
      exact ⟨q1, q2.mono (Ex.refl G) look (upd_ne this)⟩
    · rw [List.getElem?_append_right (by omega)] at e1
      rw [List.getElem?_append_right (by rw [← ms.len]; omega)] at e2
      have z : j - Ad.length = 0 := by
        cases hz : j - Ad.length with
        | zero => rfl
        | succ n => rw [hz] at e1; simp at e1
      rw [z] at e1
      rw [← ms.len, z] at e2
      simp at e1 e2
      subst e1 e2
      exact ⟨fun _ => gp, hk⟩
  · rcases List.mem_append.mp ha with z | z
    · have : a ≠ p := fun w => np (w ▸ z)
      rw [upd_ne this]; exact ms.dom a z
    · have : a = p := by simpa using z
      subst this; rw [upd_same]; simp
  · by_cases q : a = p
    · subst q; rw [upd_same]; simp
    · rw [upd_ne q]; exact e
end
end R

set_option Elab.async false
set_option linter.all false
set_option maxRecDepth 100000
set_option maxHeartbeats 4000000
namespace R
open PySem PySem.Spec PyProof.Rows L2
variable [Keys]

/-! ### runs: a value, no answer, a drawn number -/
inductive T (α : Type) : Type where
  | ret (a : α)
  | bad
  | draw (n : Int) (k : Int → T α)
def T.bind {α β : Type} : T α → (α → T β) → T β
  | .ret a, f => f a
  | .bad, _ => .bad
  | .draw n k, f => .draw n fun d => (k d).bind f
def wp {α : Type} : T α → (α → Prop) → Prop
  | .ret a, Q => Q a
  | .bad, _ => False
  | .draw n k, Q => ∀ d, 0 ≤ d → d < n → wp (k d) Q
theorem wp_bind {α β : Type} {f : α → T β} {Q : β → Prop} : ∀ {t : T α}, wp (t.bind f) Q ↔ wp t fun a => wp (f a) Q
  | .ret _ => Iff.rfl
  | .bad => Iff.rfl
  | .draw n k => by
    show (∀ d, 0 ≤ d → d < n → wp ((k d).bind f) Q) ↔ ∀ d, 0 ≤ d → d < n → wp (k d) _
    exact ⟨fun h d a b => wp_bind.mp (h d a b), fun h d a b => wp_bind.mpr (h d a b)⟩
theorem wp_mono {α : Type} {Q Q' : α → Prop} (w : ∀ a, Q a → Q' a) : ∀ {t : T α}, wp t Q → wp t Q'
  | .ret _, h => w _ h
  | .bad, h => h
  | .draw _ _, h => fun d a b => wp_mono w (h d a b)
/-- every answer passes a test, by going through all draws -/
def T.all {α : Type} (p : α → Bool) : T α → Bool
  | .ret a => p a
  | .bad => false
  | .draw n k => (List.range n.toNat).all fun d => (k (d : Nat)).all p
theorem wp_all {α : Type} {p : α → Bool} : ∀ {t : T α}, t.all p = true → wp t fun a => p a = true
  | .ret _, h => h
  | .bad, h => by cases h
  | .draw n k, h => fun d a b => by
    have h' : ((List.range n.toNat).all fun d => (k (d : Nat)).all p) = true := h
    rw [List.all_eq_true] at h'
    have := h' d.toNat (List.mem_range.mpr (by omega))
    rw [Int.toNat_of_nonneg a] at this
    exact wp_all this
/-- an answer or an exception, and the objects behind it -/
inductive Re (α : Type) : Type where
  | ok (a : α) (M : List MO)
  | ex (c : Nat) (fs : List (Str × D)) (M : List MO)
abbrev Ev (α : Type) : Type := List MO → T (Re α)
def reK {α β : Type} (f : α → Ev β) : Re α → T (Re β)
  | .ok a M => f a M
  | .ex c fs M => .ret (.ex c fs M)
def Ev.bind {α β : Type} (m : Ev α) (f : α → Ev β) : Ev β := fun M => (m M).bind (reK f)
def ok {α : Type} (a : α) : Ev α := fun M => .ret (.ok a M)
def bad {α : Type} : Ev α := fun _ => .bad
def ofO {α : Type} : Option α → Ev α
  | some a => ok a
  | none => bad
/-- an answer with other objects -/
def ofM {α : Type} (f : List MO → Option (α × List MO)) : Ev α := fun M => match f M with
  | some (a, M') => .ret (.ok a M')
  | none => .bad
abbrev CE : Type := List Sl → Ev Sl
abbrev CA : Type := List Sl → Ev (List Sl)
abbrev CT : Type := List Sl → Ev Bool
inductive Fl : Type where
  | nx (ρ : List Sl) | rt (s : Sl) | bk (ρ : List Sl) | ct (ρ : List Sl)
abbrev CS : Type := List Sl → Ev Fl
theorem wp_ofM {α : Type} {f : List MO → Option (α × List MO)} {M : List MO} {Q : Re α → Prop} : wp (ofM f M) Q ↔ ∃ a M', f M = some (a, M') ∧ Q (.ok a M') := by
  unfold ofM
  cases e : f M with
  | none => exact ⟨fun h => h.elim, fun ⟨_, _, q, _⟩ => by cases q⟩
  | some p => obtain ⟨a, M'⟩ := p; exact ⟨fun h => ⟨a, M', rfl, h⟩, fun ⟨_, _, q, h⟩ => by cases q; exact h⟩
theorem wp_ofO {α : Type} {f : Option α} {M : List MO} {Q : Re α → Prop} : wp (ofO f M) Q ↔ ∃ a, f = some a ∧ Q (.ok a M) := by
  cases f with
  | none => exact ⟨fun h => h.elim, fun ⟨_, q, _⟩ => by cases q⟩
  | some a => exact ⟨fun h => ⟨a, rfl, h⟩, fun ⟨_, q, h⟩ => by cases q; exact h⟩
theorem wp_evbind {α β : Type} {m : Ev α} {f : α → Ev β} {M : List MO} {Q : Re β → Prop} : wp (Ev.bind m f M) Q ↔ wp (m M) fun r => wp (reK f r) Q := wp_bind

/-! ### the weakest readings -/
section
variable (X : Cx)
def wE (e : Expr) : TE := fun σ H Q => ∀ pins s, Inv X pins σ H s → wpAny (model X.prog X.w) X.A (eval e X.env) (EP X pins σ Q) X.xe s
def wT (e : Expr) : TT := fun σ H Q => ∀ pins s, Inv X pins σ H s → wpAny (model X.prog X.w) X.A (isTrue e X.env (eval e X.env)) (TP X pins σ Q) X.xe s
def wW (e : Expr) : TT := fun σ H Q => ∀ whole pins s, Inv X pins σ H s → wpAny (model X.prog X.w) X.A (isTrue e X.env whole) (TP X pins σ Q) X.xe s
def wA (es : List Expr) : TA := fun σ H Q => ∀ pos pins s, Inv X pins σ H s → wpAny (model X.prog X.w) X.A (spliced (backTo pos (starEach es X.env))) (AP X pins σ Q) X.xe s
def wS (st : Stmt) : TS := fun D σ H => ∀ pins s, Inv X pins σ H s → wpAny (model X.prog X.w) X.A (exec st X.env) (SP X pins D) X.xe s
def wB (st : List Stmt) : TS := fun D σ H => ∀ pins s, Inv X pins σ H s → wpAny (model X.prog X.w) X.A (execs st X.env) (SP X pins D) X.xe s
def wG (tg : Expr) : TG := fun v σ H Q => ∀ pins s u, Inv X pins σ H s → RelV v u → wpAny (model X.prog X.w) X.A (assign tg X.env u) (fun _ s' => ∃ σ' H', Inv X pins σ' H' s' ∧ Q σ' H') X.xe s
def wI (tg iter : Expr) : TI := fun σ H R => ∀ pins s, Inv X pins σ H s →
    wpAny (model X.prog X.w) X.A (eval iter X.env) (fun v s1 => wpAny (model X.prog X.w) X.A (pyIter v) (PIE X pins σ tg R) X.xe s1) X.xe s
end
section
variable {X : Cx} {e tg it : Expr} {es : List Expr} {st : Stmt} {sts : List Stmt}
theorem pe_w : PE X e (wE X e) := ⟨fun pins s _ _ _ I h => h pins s I⟩
theorem pt_w : PT X e (wT X e) := ⟨fun pins s _ _ _ I h => h pins s I⟩
theorem pw_w : PW X e (wW X e) := ⟨fun wh pins s _ _ _ I h => h wh pins s I⟩
theorem pa_w : PA X es (wA X es) := ⟨fun pos pins s _ _ _ I h => h pos pins s I⟩
theorem ps_w : PS X st (wS X st) := ⟨fun pins s _ _ _ I h => h pins s I⟩
theorem pss_w : PSs X sts (wB X sts) := ⟨fun pins s _ _ _ I h => h pins s I⟩
theorem pg_w : PG X tg (wG X tg) := ⟨fun pins s _ _ _ u _ I r h => h pins s u I r⟩
theorem pi_w : PI X tg it (wI X tg it) := ⟨fun pins s _ _ _ I h => h pins s I⟩
theorem toE {t : TE} (h : PE X e t) {σ H Q} (q : t σ H Q) : wE X e σ H Q := fun pins s I => h.run pins s σ H Q I q
theorem toT {t : TT} (h : PT X e t) {σ H Q} (q : t σ H Q) : wT X e σ H Q := fun pins s I => h.run pins s σ H Q I q
theorem toW {t : TT} (h : PW X e t) {σ H Q} (q : t σ H Q) : wW X e σ H Q := fun wh pins s I => h.run wh pins s σ H Q I q
theorem toA {t : TA} (h : PA X es t) {σ H Q} (q : t σ H Q) : wA X es σ H Q := fun pos pins s I => h.run pos pins s σ H Q I q
theorem toS {t : TS} (h : PS X st t) {σ H D} (q : t D σ H) : wS X st D σ H := fun pins s I => h.run pins s σ H D I q
theorem toB {t : TS} (h : PSs X sts t) {σ H D} (q : t D σ H) : wB X sts D σ H := fun pins s I => h.run pins s σ H D I q
theorem toG {t : TG} (h : PG X tg t) {v σ H Q} (q : t v σ H Q) : wG X tg v σ H Q := fun pins s u I r => h.run pins s σ H v u Q I r q
theorem toI {t : TI} (h : PI X tg it t) {σ H R} (q : t σ H R) : wI X tg it σ H R := fun pins s I => h.run pins s σ H R I q
end

/-! ### what an answer promises -/
section
variable (X : Cx) (W : WX)
/-- an exception of the class c with the attributes fs -/
def PX (σ : L2.St) (Ad : List Addr) (G H : Hp) (c : Nat) (fs : List (Str × D)) (M' : List MO) : Prop :=
  ∀ Ad' G' H' d gs, Grow Ad G H Ad' G' H' → MS X.K Ad' G' M' H' → G' d = some (.xd gs) → RpF X.K G' gs fs → W (.ref (cA X.K c)) (some d) σ H'
def Po {α β : Type} (Rl : List Addr → Hp → β → α → Prop) (Q : β → Hp → Prop) (σ : L2.St) (Ad : List Addr) (G H : Hp) : Re α → Prop
  | .ok a M' => ∀ Ad' G' H' b, Grow Ad G H Ad' G' H' → MS X.K Ad' G' M' H' → Rl Ad' G' b a → Q b H'
  | .ex c fs M' => PX X W σ Ad G H c fs M'
abbrev RlT : List Addr → Hp → Bool → Bool → Prop := fun _ _ b a => b = a
def PoS (D : Ends) (Ad : List Addr) (G H : Hp) : Re Fl → Prop
  | .ok (.nx ρ') M' => ∀ Ad' G' H' σ', Grow Ad G H Ad' G' H' → MS X.K Ad' G' M' H' → EnvR X.K Ad' G' σ' ρ' → D.nx σ' H'
  | .ok (.rt s) M' => ∀ Ad' G' H' v, Grow Ad G H Ad' G' H' → MS X.K Ad' G' M' H' → RpS X.K Ad' G' v s → D.rt v H'
  | .ok (.bk ρ') M' => ∀ Ad' G' H' σ', Grow Ad G H Ad' G' H' → MS X.K Ad' G' M' H' → EnvR X.K Ad' G' σ' ρ' → D.bk σ' H'
  | .ok (.ct ρ') M' => ∀ Ad' G' H' σ', Grow Ad G H Ad' G' H' → MS X.K Ad' G' M' H' → EnvR X.K Ad' G' σ' ρ' → D.ct σ' H'
  | .ex c fs M' => ∀ σ', PX X W σ' Ad G H c fs M'
end
section
variable {X : Cx} {W : WX} {Ad Ad1 : List Addr} {G G1 H H1 : Hp} {σ : L2.St}
theorem PX.shift {c : Nat} {fs : List (Str × D)} {M' : List MO} (g : Grow Ad G H Ad1 G1 H1) (h : PX X W σ Ad G H c fs M') : PX X W σ Ad1 G1 H1 c fs M' := fun _ _ _ _ _ g' => h _ _ _ _ _ (g.trans g')
theorem Po.shift {α β : Type} {Rl : List Addr → Hp → β → α → Prop} {Q : β → Hp → Prop} {r : Re α} (g : Grow Ad G H Ad1 G1 H1) (h : Po X W Rl Q σ Ad G H r) : Po X W Rl Q σ Ad1 G1 H1 r := by
  cases r with
  | ok a M' => exact fun _ _ _ _ g' => h _ _ _ _ (g.trans g')
  | ex c fs M' => exact PX.shift g h
theorem PoS.shift {D : Ends} {r : Re Fl} (g : Grow Ad G H Ad1 G1 H1) (h : PoS X W D Ad G H r) : PoS X W D Ad1 G1 H1 r := by
  cases r with
  | ok a M' =>
    cases a with
    | nx ρ => exact fun _ _ _ _ g' => h _ _ _ _ (g.trans g')
    | rt ρ => exact fun _ _ _ _ g' => h _ _ _ _ (g.trans g')
    | bk ρ => exact fun _ _ _ _ g' => h _ _ _ _ (g.trans g')
    | ct ρ => exact fun _ _ _ _ g' => h _ _ _ _ (g.trans g')
  | ex c fs M' => exact fun σ' => PX.shift g (h σ')
end

/-! ### a text is told by a function -/
structure SE (X : Cx) (W : WX) (e : Expr) (f : CE) : Prop where
  run : ∀ ρ M Ad G σ H Q, MS X.K Ad G M H → EnvR X.K Ad G σ ρ → wp (f ρ M) (Po X W (RpS X.K) Q σ Ad G H) → wE X e σ H Q
structure SA (X : Cx) (W : WX) (es : List Expr) (f : CA) : Prop where
  run : ∀ ρ M Ad G σ H Q, MS X.K Ad G M H → EnvR X.K Ad G σ ρ → wp (f ρ M) (Po X W (RpSs X.K) Q σ Ad G H) → wA X es σ H Q
structure ST (X : Cx) (W : WX) (e : Expr) (f : CT) : Prop where
  run : ∀ ρ M Ad G σ H Q, MS X.K Ad G M H → EnvR X.K Ad G σ ρ → wp (f ρ M) (Po X W RlT Q σ Ad G H) → wT X e σ H Q
structure SW (X : Cx) (W : WX) (e : Expr) (f : CT) : Prop where
  run : ∀ ρ M Ad G σ H Q, MS X.K Ad G M H → EnvR X.K Ad G σ ρ → wp (f ρ M) (Po X W RlT Q σ Ad G H) → wW X e σ H Q
structure SS (X : Cx) (W : WX) (st : Stmt) (f : CS) : Prop where
  run : ∀ ρ M Ad G σ H D, MS X.K Ad G M H → EnvR X.K Ad G σ ρ → wp (f ρ M) (PoS X W D Ad G H) → wS X st D σ H
structure SB (X : Cx) (W : WX) (st : List Stmt) (f : CS) : Prop where
  run : ∀ ρ M Ad G σ H D, MS X.K Ad G M H → EnvR X.K Ad G σ ρ → wp (f ρ M) (PoS X W D Ad G H) → wB X st D σ H

section
variable {X : Cx} {W : WX} {a b e : Expr} {es : List Expr} {fa : CE} {fas : CA} {ft : CT} {ρ : List Sl} {M : List MO} {Ad : List Addr} {G H : Hp} {σ : L2.St} {α β : Type} {Rl : List Addr → Hp → β → α → Prop} {Q : β → Hp → Prop}
/-- a part, then the rest -/
theorem SE.seq (h : SE X W a fa) (ms : MS X.K Ad G M H) (en : EnvR X.K Ad G σ ρ) {k : Sl → Ev α} (w : wp (Ev.bind (fa ρ) k M) (Po X W Rl Q σ Ad G H)) {Q' : VK}
    (n : ∀ Ad1 G1 M1 H1 v s, Grow Ad G H Ad1 G1 H1 → MS X.K Ad1 G1 M1 H1 → RpS X.K Ad1 G1 v s → wp (k s M1) (Po X W Rl Q σ Ad1 G1 H1) → Q' v H1) : wE X a σ H Q' :=
  h.run ρ M Ad G σ H Q' ms en (wp_mono (fun r hr => by
    cases r with
    | ok s M1 => exact fun Ad1 G1 H1 v g m r => n Ad1 G1 M1 H1 v s g m r (wp_mono (fun _ => Po.shift g) hr)
    | ex c fs M1 => exact hr) (wp_evbind.mp w))
theorem ST.seq (h : ST X W a ft) (ms : MS X.K Ad G M H) (en : EnvR X.K Ad G σ ρ) {k : Bool → Ev α} (w : wp (Ev.bind (ft ρ) k M) (Po X W Rl Q σ Ad G H)) {Q' : Bool → Hp → Prop}
    (n : ∀ Ad1 G1 M1 H1 v, Grow Ad G H Ad1 G1 H1 → MS X.K Ad1 G1 M1 H1 → wp (k v M1) (Po X W Rl Q σ Ad1 G1 H1) → Q' v H1) : wT X a σ H Q' :=
  h.run ρ M Ad G σ H Q' ms en (wp_mono (fun r hr => by
    cases r with
    | ok s M1 => exact fun Ad1 G1 H1 v g m r => by have r : v = s := r; subst r; exact n Ad1 G1 M1 H1 v g m (wp_mono (fun _ => Po.shift g) hr)
    | ex c fs M1 => exact hr) (wp_evbind.mp w))
theorem SA.seq (h : SA X W es fas) (ms : MS X.K Ad G M H) (en : EnvR X.K Ad G σ ρ) {k : List Sl → Ev α} (w : wp (Ev.bind (fas ρ) k M) (Po X W Rl Q σ Ad G H)) {Q' : List V → Hp → Prop}
    (n : ∀ Ad1 G1 M1 H1 v s, Grow Ad G H Ad1 G1 H1 → MS X.K Ad1 G1 M1 H1 → RpSs X.K Ad1 G1 v s → wp (k s M1) (Po X W Rl Q σ Ad1 G1 H1) → Q' v H1) : wA X es σ H Q' :=
  h.run ρ M Ad G σ H Q' ms en (wp_mono (fun r hr => by
    cases r with
    | ok s M1 => exact fun Ad1 G1 H1 v g m r => n Ad1 G1 M1 H1 v s g m r (wp_mono (fun _ => Po.shift g) hr)
    | ex c fs M1 => exact hr) (wp_evbind.mp w))
/-- an expression within a statement -/
theorem SE.seqS (h : SE X W a fa) (ms : MS X.K Ad G M H) (en : EnvR X.K Ad G σ ρ) {k : Sl → Ev Fl} {D : Ends} (w : wp (Ev.bind (fa ρ) k M) (PoS X W D Ad G H)) {Q' : VK}
    (n : ∀ Ad1 G1 M1 H1 v s, Grow Ad G H Ad1 G1 H1 → MS X.K Ad1 G1 M1 H1 → RpS X.K Ad1 G1 v s → wp (k s M1) (PoS X W D Ad1 G1 H1) → Q' v H1) : wE X a σ H Q' :=
  h.run ρ M Ad G σ H Q' ms en (wp_mono (fun r hr => by
    cases r with
    | ok s M1 => exact fun Ad1 G1 H1 v g m r => n Ad1 G1 M1 H1 v s g m r (wp_mono (fun _ => PoS.shift g) hr)
    | ex c fs M1 => exact hr σ) (wp_evbind.mp w))
theorem ST.seqS (h : ST X W a ft) (ms : MS X.K Ad G M H) (en : EnvR X.K Ad G σ ρ) {k : Bool → Ev Fl} {D : Ends} (w : wp (Ev.bind (ft ρ) k M) (PoS X W D Ad G H)) {Q' : Bool → Hp → Prop}
    (n : ∀ Ad1 G1 M1 H1 v, Grow Ad G H Ad1 G1 H1 → MS X.K Ad1 G1 M1 H1 → wp (k v M1) (PoS X W D Ad1 G1 H1) → Q' v H1) : wT X a σ H Q' :=
  h.run ρ M Ad G σ H Q' ms en (wp_mono (fun r hr => by
    cases r with
    | ok s M1 => exact fun Ad1 G1 H1 v g m r => by have r : v = s := r; subst r; exact n Ad1 G1 M1 H1 v g m (wp_mono (fun _ => PoS.shift g) hr)
    | ex c fs M1 => exact hr σ) (wp_evbind.mp w))
theorem SA.seqS (h : SA X W es fas) (ms : MS X.K Ad G M H) (en : EnvR X.K Ad G σ ρ) {k : List Sl → Ev Fl} {D : Ends} (w : wp (Ev.bind (fas ρ) k M) (PoS X W D Ad G H)) {Q' : List V → Hp → Prop}
    (n : ∀ Ad1 G1 M1 H1 v s, Grow Ad G H Ad1 G1 H1 → MS X.K Ad1 G1 M1 H1 → RpSs X.K Ad1 G1 v s → wp (k s M1) (PoS X W D Ad1 G1 H1) → Q' v H1) : wA X es σ H Q' :=
  h.run ρ M Ad G σ H Q' ms en (wp_mono (fun r hr => by
    cases r with
    | ok s M1 => exact fun Ad1 G1 H1 v g m r => n Ad1 G1 M1 H1 v s g m r (wp_mono (fun _ => PoS.shift g) hr)
    | ex c fs M1 => exact hr σ) (wp_evbind.mp w))
end

/-! ### leaves -/
theorem rs_int {K : PySem.W.Frag} {Ad : List Addr} {G : Hp} {i : Int} : RpS K Ad G (.int i) (.dat (.int i)) := Rp.int i
theorem rs_str {K : PySem.W.Frag} {Ad : List Addr} {G : Hp} {i : Str} : RpS K Ad G (.str i) (.dat (.str i)) := Rp.str i
theorem rs_bl {K : PySem.W.Frag} {Ad : List Addr} {G : Hp} {i : Bool} : RpS K Ad G (.bl i) (.dat (.bl i)) := Rp.bl i
theorem rs_non {K : PySem.W.Frag} {Ad : List Addr} {G : Hp} : RpS K Ad G .non (.dat .non) := Rp.non
theorem rp_int {K : PySem.W.Frag} {Ad : List Addr} {G : Hp} {v : V} {i : Int} (h : RpS K Ad G v (.dat (.int i))) : v = .int i := by cases h; rfl
theorem rp_str {K : PySem.W.Frag} {Ad : List Addr} {G : Hp} {v : V} {i : Str} (h : RpS K Ad G v (.dat (.str i))) : v = .str i := by cases h; rfl
theorem rp_bl {K : PySem.W.Frag} {Ad : List Addr} {G : Hp} {v : V} {i : Bool} (h : RpS K Ad G v (.dat (.bl i))) : v = .bl i := by cases h; rfl
theorem rp_non {K : PySem.W.Frag} {Ad : List Addr} {G : Hp} {v : V} (h : RpS K Ad G v (.dat .non)) : v = .non := by cases h; rfl
/-- a frozen object is its data -/
def nrm (M : List MO) : Sl → Sl
  | .mu j => match M[j]? with
    | some (.fz (some d)) => .dat d
    | _ => .mu j
  | s => s
theorem nrm_ok {K : PySem.W.Frag} {Ad : List Addr} {G H : Hp} {M : List MO} {v : V} {s : Sl} (ms : MS K Ad G M H) (r : RpS K Ad G v s) : RpS K Ad G v (nrm M s) := by
  cases s with
  | mu j =>
    unfold nrm
    dsimp only
    split
    · rename_i d hm
      obtain ⟨a, h1, rfl⟩ := r
      exact (ms.mo j a _ h1 hm).2.2 d rfl
    · exact r
  | _ => exact r
section
variable {X : Cx} {W : WX} {ρ : List Sl} {M : List MO} {Ad : List Addr} {G H : Hp} {σ : L2.St} {pos : Pos}
theorem se_leaf {e : Expr} {v : V} {s : Sl} (pe : PE X e (tC v)) (r : ∀ Ad G, RpS X.K Ad G v s) : SE X W e fun _ => ok s :=
  ⟨fun ρ M Ad G σ H Q ms en h => toE pe (h Ad G H v (Grow.refl _ _ _) ms (r _ _))⟩
def eVar (i : Nat) : CE := fun ρ M => match ρ[i]? with
  | some .un => .bad
  | some s => .ret (.ok (nrm M s) M)
  | none => .bad
/-- facts of the names of a context -/
structure VFx (X : Cx) (x : Str) (i : Nat) : Prop where
  ix : X.N[i]? = some x
  vis : Vis X.env.scope x
  nd : (x == ("__debug__" : Str)) = false
  nc : (x == ("__classdict__" : Str)) = false
structure LFx (X : Cx) (x : Str) (i : Nat) : Prop where
  ix : X.N[i]? = some x
  loc : Loc X.env.scope x
  fn : X.fn x = true ∨ X.env.scope.names.lookup x = some .local
  nd : X.N.Nodup
structure GFx (X : Cx) (x : Str) : Prop where
  gl : Gl X x
  nd : (x == ("__debug__" : Str)) = false
theorem se_var {x : Str} {i : Nat} (F : VFx X x i) : SE X W (.Name x pos) (eVar i) := ⟨fun ρ M Ad G σ H Q ms en h => by
  unfold eVar at h
  split at h
  · exact h.elim
  · rename_i s hs hn
    rcases en.at_ i s hn with z | ⟨v, e1, r⟩
    · exact absurd z hs
    · exact toE (pe_var F.ix F.vis F.nd F.nc) ⟨v, e1, h Ad G H v (Grow.refl _ _ _) ms (nrm_ok ms r)⟩
  · exact h.elim⟩
theorem se_int {i : Int} {j : Nat} : SE X W (.Constant (.int i) j pos) fun _ => ok (.dat (.int i)) := se_leaf pe_int fun _ _ => rs_int
theorem se_bl {b : Bool} {j : Nat} : SE X W (.Constant (.bool b) j pos) fun _ => ok (.dat (.bl b)) := se_leaf pe_bl fun _ _ => rs_bl
theorem se_non {j : Nat} : SE X W (.Constant .none j pos) fun _ => ok (.dat .non) := se_leaf pe_non fun _ _ => rs_non
theorem se_str {x : Str} {j : Nat} : SE X W (.Constant (.str x) j pos) fun _ => ok (.dat (.str x)) := se_leaf pe_str fun _ _ => rs_str
theorem se_gI {x : Str} {i : Int} {t : Tok} (F : GFx X x) (hm : X.mg x = some (.int i t)) : SE X W (.Name x pos) fun _ => ok (.dat (.int i)) := se_leaf (v := .int i) (pe_glob F.gl hm ⟨t, rfl⟩ F.nd) fun _ _ => rs_int
theorem se_gS {x z : Str} {t : Tok} (F : GFx X x) (hm : X.mg x = some (.str z t)) : SE X W (.Name x pos) fun _ => ok (.dat (.str z)) := se_leaf (v := .str z) (pe_glob F.gl hm ⟨t, rfl⟩ F.nd) fun _ _ => rs_str
/-! ### argument lists, displays -/
def eNil : CA := fun _ => ok []
def eCons (f : CE) (g : CA) : CA := fun ρ => (f ρ).bind fun s => (g ρ).bind fun ss => ok (s :: ss)
theorem sa_nil : SA X W [] eNil := ⟨fun ρ M Ad G σ H Q ms en h => toA pa_nil (h Ad G H [] (Grow.refl _ _ _) ms .nil)⟩
theorem sa_cons {e : Expr} {es : List Expr} {f : CE} {g : CA} (h1 : SE X W e f) (h2 : SA X W es g) (hs : starEach (e :: es) X.env = (false, eval e X.env) :: starEach es X.env := by rfl) : SA X W (e :: es) (eCons f g) := ⟨fun ρ M Ad G σ H Q ms en h =>
  toA (pa_cons pe_w pa_w hs) (h1.seq ms en h fun Ad1 G1 M1 H1 v s g1 m1 r1 w1 => h2.seq m1 (en.grow g1) w1 fun Ad2 G2 M2 H2 vs ss g2 m2 r2 w2 => w2 Ad2 G2 H2 (v :: vs) (Grow.refl _ _ _) m2 (.cons (r1.grow g2) r2))⟩
end
end R

set_option Elab.async false
set_option linter.all false
set_option maxRecDepth 100000
set_option maxHeartbeats 4000000
namespace R
open PySem PySem.Spec PyProof.Rows L2
variable [Keys]

/-! ### sequences as they are seen -/
def lstOf (M : List MO) : Sl → Option (List Sl)
  | .dat (.lst ds) => some (ds.map .dat)
  | .mu j => match M[j]? with
    | some (.lst xs) => some xs
    | _ => none
  | _ => none
def tupOf : Sl → Option (List Sl)
  | .dat (.tup ds) => some (ds.map .dat)
  | _ => none
def lenOf (M : List MO) : Sl → Option Nat
  | .dat (.str z) => some z.length
  | .dat (.tup ds) => some ds.length
  | .dat (.lst ds) => some ds.length
  | .mu j => match M[j]? with
    | some (.lst xs) => some xs.length
    | _ => none
  | _ => none
section
variable {K : PySem.W.Frag} {Ad : List Addr} {G H : Hp} {M : List MO}
theorem RpSs.ofRps : ∀ {vs : List V} {ds : List D}, Rps K G vs ds → RpSs K Ad G vs (ds.map .dat)
  | _, _, .nil => .nil
  | _, _, .cons h r => .cons h (RpSs.ofRps r)
theorem RpSs.toRps : ∀ {vs : List V} {ds : List D}, RpSs K Ad G vs (ds.map .dat) → Rps K G vs ds
  | _, [], .nil => .nil
  | _, _ :: _, .cons h r => .cons h (RpSs.toRps r)
theorem RpSs.length {vs : List V} {ss : List Sl} (h : RpSs K Ad G vs ss) : vs.length = ss.length := Paired.length h
theorem RpSs.get : ∀ {vs : List V} {ss : List Sl} {i : Nat} {s : Sl}, RpSs K Ad G vs ss → ss[i]? = some s → ∃ v, vs[i]? = some v ∧ RpS K Ad G v s
  | _, _, _, _, .nil, e => by simp at e
  | _, _, 0, _, .cons h _, e => by simp at e; subst e; exact ⟨_, rfl, h⟩
  | _, _, i + 1, _, .cons _ r, e => by
    obtain ⟨v, h1, h2⟩ := RpSs.get (i := i) r (by simpa using e)
    exact ⟨v, by simpa using h1, h2⟩
theorem RpSs.getV : ∀ {vs : List V} {ss : List Sl} {i : Nat} {v : V}, RpSs K Ad G vs ss → vs[i]? = some v → ∃ s, ss[i]? = some s ∧ RpS K Ad G v s
  | _, _, _, _, .nil, e => by simp at e
  | _, _, 0, _, .cons h _, e => by simp at e; subst e; exact ⟨_, rfl, h⟩
  | _, _, i + 1, _, .cons _ r, e => by
    obtain ⟨v, h1, h2⟩ := RpSs.getV (i := i) r (by simpa using e)
    exact ⟨v, by simpa using h1, h2⟩
theorem RpSs.append : ∀ {vs ws : List V} {ss ts : List Sl}, RpSs K Ad G vs ss → RpSs K Ad G ws ts → RpSs K Ad G (vs ++ ws) (ss ++ ts)
  | _, _, _, _, .nil, s => s
  | _, _, _, _, .cons h r, s => .cons h (RpSs.append r s)
theorem RpSs.set {v : V} {s : Sl} (hr : RpS K Ad G v s) : ∀ {vs : List V} {ss : List Sl} (i : Nat), RpSs K Ad G vs ss → RpSs K Ad G (vs.set i v) (ss.set i s)
  | _, _, _, .nil => .nil
  | _, _, 0, .cons _ t => .cons hr t
  | _, _, i + 1, .cons q t => .cons q (RpSs.set hr i t)
theorem RpSs.take : ∀ {vs : List V} {ss : List Sl} (n : Nat), RpSs K Ad G vs ss → RpSs K Ad G (vs.take n) (ss.take n)
  | _, _, 0, _ => .nil
  | _, _, _ + 1, .nil => .nil
  | _, _, n + 1, .cons r t => .cons r (RpSs.take n t)
theorem RpSs.drop : ∀ {vs : List V} {ss : List Sl} (n : Nat), RpSs K Ad G vs ss → RpSs K Ad G (vs.drop n) (ss.drop n)
  | _, _, 0, r => r
  | _, _, _ + 1, .nil => .nil
  | _, _, n + 1, .cons _ r => RpSs.drop n r
theorem lst_at {v : V} {s : Sl} {xs : List Sl} (ms : MS K Ad G M H) (r : RpS K Ad G v s) (h : lstOf M s = some xs) : ∃ p vs, v = .ref p ∧ H p = some (.lst vs) ∧ RpSs K Ad G vs xs := by
  cases s with
  | un => cases h
  | raw w => cases h
  | dat d =>
    cases d with
    | lst ds =>
      cases h
      cases r with
      | lst h r => exact ⟨_, _, rfl, ms.le.lst h, RpSs.ofRps r⟩
    | _ => cases h
  | mu j =>
    unfold lstOf at h
    dsimp only at h
    split at h
    · rename_i ys hm
      cases h
      obtain ⟨a, h1, h2⟩ := r
      obtain ⟨vs, h3, h4⟩ := (ms.mo j a _ h1 hm).2
      exact ⟨a, vs, h2, h3, h4⟩
    · cases h
theorem tup_at {v : V} {s : Sl} {xs : List Sl} (le : Le G H) (r : RpS K Ad G v s) (h : tupOf s = some xs) : ∃ p vs, v = .ref p ∧ SqT K H p vs ∧ RpSs K Ad G vs xs := by
  cases s with
  | un => cases h
  | raw w => cases h
  | mu j => cases h
  | dat d =>
    cases d with
    | tup ds =>
      cases h
      cases r with
      | tup h r => exact ⟨_, _, rfl, le.t h, RpSs.ofRps r⟩
    | _ => cases h
theorem len_at {v : V} {s : Sl} {n : Nat} (ms : MS K Ad G M H) (r : RpS K Ad G v s) (h : lenOf M s = some n) (hn : n ≤ sizeLine) : LenV K v H n := by
  cases s with
  | un => cases h
  | raw w => cases h
  | dat d =>
    cases d with
    | str z => cases h; cases r; exact ⟨hn, rfl⟩
    | lst ds =>
      cases h
      cases r with
      | lst h r => exact .inl ⟨_, SqL.of (ms.le.lst h), r.length.symm⟩
    | tup ds =>
      cases h
      cases r with
      | tup h r => exact .inr ⟨_, ms.le.t h, r.length.symm⟩
    | _ => cases h
  | mu j =>
    unfold lenOf at h
    dsimp only at h
    split at h
    · rename_i ys hm
      cases h
      obtain ⟨a, h1, h2⟩ := r
      obtain ⟨vs, h3, h4⟩ := (ms.mo j a _ h1 hm).2
      subst h2
      exact .inl ⟨vs, SqL.of h3, h4.length.symm⟩
    · cases h
theorem atI_pair {vs : List V} {ss : List Sl} {i : Int} {s : Sl} (r : RpSs K Ad G vs ss) (h : atI ss i = some s) : ∃ v, atI vs i = some v ∧ RpS K Ad G v s := by
  unfold atI at h ⊢
  rw [r.length]
  cases q : ixN ss.length i with
  | none => rw [q] at h; cases h
  | some j =>
    rw [q] at h
    exact r.get (show ss[j]? = some s from h)
theorem atI_dat {ds : List D} {i : Int} {d : D} (h : atI ds i = some d) : atI (ds.map Sl.dat) i = some (.dat d) := by
  unfold atI at h ⊢
  rw [List.length_map]
  cases q : ixN ds.length i with
  | none => rw [q] at h; cases h
  | some j =>
    rw [q] at h
    show (ds.map Sl.dat)[j]? = _
    rw [List.getElem?_map, show ds[j]? = some d from h]; rfl
end

def eqS : D → D → Option Bool
  | .int i, .int j => some (decide (i = j))
  | .str i, .str j => some (decide (i = j))
  | .bl i, .bl j => some (decide (i = j))
  | .non, .non => some true
  | .non, .int _ => some false
  | .int _, .non => some false
  | .non, .str _ => some false
  | .str _, .non => some false
  | .non, .bl _ => some false
  | .bl _, .non => some false
  | .int _, .str _ => some false
  | .str _, .int _ => some false
  | .bl _, .str _ => some false
  | .str _, .bl _ => some false
  | _, _ => none
theorem eqS_ok {K : PySem.W.Frag} {G : Hp} {v u : V} {d f : D} {k : Bool} (h : eqS d f = some k) (r1 : Rp K G v d) (r2 : Rp K G u f) : scal v u = true ∧ decide (v = u) = k := by
  cases r1 <;> cases r2 <;> first
    | (cases h; done)
    | (cases h; refine ⟨rfl, ?_⟩; simp)
/-- is None -/
def isNon : D → Bool
  | .non => true
  | _ => false
/-! ### equality of data at any depth -/
mutual
def py : D → PyData
  | .non => .none
  | .bl b => .bool b
  | .int i => .int i
  | .str x => .str x
  | .lst xs => .list (pys xs)
  | .tup xs => .tuple (pys xs)
  | .dK _ => .none
  | .dT _ => .none
  | .ins _ _ => .none
  | .scr _ => .none
  | .exc _ _ => .none
  | .fnc _ _ => .none
  | .lam _ => .none
def pys : List D → List PyData
  | [] => []
  | x :: xs => py x :: pys xs
end
mutual
/-- plain data without dicts and instances, its texts well formed, its depth at most n -/
def plain : Nat → D → Bool
  | _, .non => true
  | _, .bl _ => true
  | _, .int _ => true
  | _, .str x => PyData.strOk x
  | 0, _ => false
  | n + 1, .lst xs => plains n xs
  | n + 1, .tup xs => plains n xs
  | _ + 1, .dK _ => false
  | _ + 1, .dT _ => false
  | _ + 1, .ins _ _ => false
  | _ + 1, .scr _ => false
  | _ + 1, .exc _ _ => false
  | _ + 1, .fnc _ _ => false
  | _ + 1, .lam _ => false
def plains : Nat → List D → Bool
  | _, [] => true
  | n, x :: xs => plain n x && plains n xs
end
mutual
theorem plain_dp {K : PySem.W.Frag} {G H : Hp} (le : Le G H) : ∀ (n : Nat) (d : D) (v : V), plain n d = true → Rp K G v d → Dp K H v (py d)
  | _, .non, _, _, .non => by unfold py; exact .non
  | _, .bl b, _, _, .bl _ => by unfold py; exact .bl b
  | _, .int i, _, _, .int _ => by unfold py; exact .int i
  | _, .str x, _, _, .str _ => by unfold py; exact .str x
  | n + 1, .lst xs, _, h, .lst hq r => by unfold py; exact .lst (SqL.of (le.lst hq)) (plains_dp le n xs _ (by simpa [plain] using h) r)
  | n + 1, .tup xs, _, h, .tup hq r => by unfold py; exact .tup (le.t hq) (plains_dp le n xs _ (by simpa [plain] using h) r)
  | 0, .lst _, _, h, _ => by simp [plain] at h
  | 0, .tup _, _, h, _ => by simp [plain] at h
  | 0, .dK _, _, h, _ => by simp [plain] at h
  | 0, .dT _, _, h, _ => by simp [plain] at h
  | 0, .ins _ _, _, h, _ => by simp [plain] at h
  | 0, .scr _, _, h, _ => by simp [plain] at h
  | 0, .exc _ _, _, h, _ => by simp [plain] at h
  | 0, .fnc _ _, _, h, _ => by simp [plain] at h
  | 0, .lam _, _, h, _ => by simp [plain] at h
  | n + 1, .scr _, _, h, _ => by simp [plain] at h
  | n + 1, .exc _ _, _, h, _ => by simp [plain] at h
  | n + 1, .fnc _ _, _, h, _ => by simp [plain] at h
  | n + 1, .lam _, _, h, _ => by simp [plain] at h
  | n + 1, .dK _, _, h, _ => by simp [plain] at h
  | n + 1, .dT _, _, h, _ => by simp [plain] at h
  | n + 1, .ins _ _, _, h, _ => by simp [plain] at h
theorem plains_dp {K : PySem.W.Frag} {G H : Hp} (le : Le G H) : ∀ (n : Nat) (ds : List D) (vs : List V), plains n ds = true → Rps K G vs ds → DpAll K H vs (pys ds)
  | _, [], _, _, .nil => by unfold pys; exact .nil
  | n, d :: ds, _, h, .cons r rr => by
    unfold plains at h
    rw [Bool.and_eq_true] at h
    unfold pys
    exact .cons (plain_dp le n d _ h.1 r) (plains_dp le n ds _ h.2 rr)
end
mutual
theorem plain_lay : ∀ (n : Nat) (d : D), plain n d = true → (py d).canLay0 = true ∧ (py d).depth ≤ n + 1
  | _, .non, _ => by simp [py, PyData.canLay0, PyData.depth]
  | _, .bl b, _ => by simp [py, PyData.canLay0, PyData.depth]
  | _, .int i, _ => by simp [py, PyData.canLay0, PyData.depth]
  | _, .str x, h => by
    have : PyData.strOk x = true := by simpa [plain] using h
    simp [py, PyData.canLay0, PyData.depth, this]
  | n + 1, .lst xs, h => by
    obtain ⟨h1, h2⟩ := plains_lay n xs (by simpa [plain] using h)
    simp [py, PyData.canLay0, PyData.depth, h1]; omega
  | n + 1, .tup xs, h => by
    obtain ⟨h1, h2⟩ := plains_lay n xs (by simpa [plain] using h)
    simp [py, PyData.canLay0, PyData.depth, h1]; omega
  | 0, .lst _, h => by simp [plain] at h
  | 0, .tup _, h => by simp [plain] at h
  | 0, .dK _, h => by simp [plain] at h
  | 0, .dT _, h => by simp [plain] at h
  | 0, .ins _ _, h => by simp [plain] at h
  | 0, .scr _, h => by simp [plain] at h
  | 0, .exc _ _, h => by simp [plain] at h
  | 0, .fnc _ _, h => by simp [plain] at h
  | 0, .lam _, h => by simp [plain] at h
  | n + 1, .scr _, h => by simp [plain] at h
  | n + 1, .exc _ _, h => by simp [plain] at h
  | n + 1, .fnc _ _, h => by simp [plain] at h
  | n + 1, .lam _, h => by simp [plain] at h
  | n + 1, .dK _, h => by simp [plain] at h
  | n + 1, .dT _, h => by simp [plain] at h
  | n + 1, .ins _ _, h => by simp [plain] at h
theorem plains_lay : ∀ (n : Nat) (ds : List D), plains n ds = true → PyData.canLayAll0 (pys ds) = true ∧ PyData.depthAll (pys ds) ≤ n + 1
  | _, [], _ => by simp [pys, PyData.canLayAll0, PyData.depthAll]
  | n, d :: ds, h => by
    unfold plains at h
    rw [Bool.and_eq_true] at h
    obtain ⟨h1, h2⟩ := plain_lay n d h.1
    obtain ⟨h3, h4⟩ := plains_lay n ds h.2
    simp [pys, PyData.canLayAll0, PyData.depthAll, h1, h3]; omega
end
theorem shaped_py {n : Nat} {d : D} (h : plain n d = true) (hn : n ≤ 60) : SeqAt.shaped (py d) = true := by
  obtain ⟨h1, h2⟩ := plain_lay n d h
  unfold SeqAt.shaped
  rw [h1, Bool.true_and, decide_eq_true_eq]; omega
mutual
/-- no truth values within -/
def nob : D → Bool
  | .bl _ => false
  | .lst xs => nobs xs
  | .tup xs => nobs xs
  | _ => true
def nobs : List D → Bool
  | [] => true
  | x :: xs => nob x && nobs xs
end
mutual
theorem eqv_nob : ∀ (n : Nat) (d e : D), plain n d = true → plain n e = true → nob d = true → nob e = true → (PyData.eqv (py d) (py e) = true ↔ d = e)
  | n, .non, e, _, h, _, hb => by cases e <;> cases n <;> simp_all [py, PyData.eqv, plain, nob]
  | n, .int i, e, _, h, _, hb => by cases e <;> cases n <;> simp_all [py, PyData.eqv, plain, nob]
  | n, .str i, e, _, h, _, hb => by cases e <;> cases n <;> simp_all [py, PyData.eqv, plain, nob]
  | _, .bl _, _, _, _, h, _ => by simp [nob] at h
  | 0, .lst _, _, h, _, _, _ => by simp [plain] at h
  | 0, .tup _, _, h, _, _, _ => by simp [plain] at h
  | 0, .dK _, _, h, _, _, _ => by simp [plain] at h
  | 0, .dT _, _, h, _, _, _ => by simp [plain] at h
  | 0, .ins _ _, _, h, _, _, _ => by simp [plain] at h
  | 0, .scr _, _, h, _, _, _ => by simp [plain] at h
  | 0, .exc _ _, _, h, _, _, _ => by simp [plain] at h
  | 0, .fnc _ _, _, h, _, _, _ => by simp [plain] at h
  | 0, .lam _, _, h, _, _, _ => by simp [plain] at h
  | _ + 1, .scr _, _, h, _, _, _ => by simp [plain] at h
  | _ + 1, .exc _ _, _, h, _, _, _ => by simp [plain] at h
  | _ + 1, .fnc _ _, _, h, _, _, _ => by simp [plain] at h
  | _ + 1, .lam _, _, h, _, _, _ => by simp [plain] at h
  | _ + 1, .dK _, _, h, _, _, _ => by simp [plain] at h
  | _ + 1, .dT _, _, h, _, _, _ => by simp [plain] at h
  | _ + 1, .ins _ _, _, h, _, _, _ => by simp [plain] at h
  | n + 1, .lst xs, .lst ys, h1, h2, b1, b2 => by
    have := eqv_nobs n xs ys (by simpa [plain] using h1) (by simpa [plain] using h2) (by simpa [nob] using b1) (by simpa [nob] using b2)
    simp [py, PyData.eqv, this]
  | n + 1, .tup xs, .tup ys, h1, h2, b1, b2 => by
    have := eqv_nobs n xs ys (by simpa [plain] using h1) (by simpa [plain] using h2) (by simpa [nob] using b1) (by simpa [nob] using b2)
    simp [py, PyData.eqv, this]
  | n + 1, .lst xs, .non, _, _, _, _ => by simp [py, PyData.eqv]
  | n + 1, .lst xs, .int _, _, _, _, _ => by simp [py, PyData.eqv]
  | n + 1, .lst xs, .str _, _, _, _, _ => by simp [py, PyData.eqv]
  | n + 1, .lst xs, .tup _, _, _, _, _ => by simp [py, PyData.eqv]
  | n + 1, .lst xs, .bl _, _, _, _, h => by simp [nob] at h
  | n + 1, .lst xs, .dK _, _, h, _, _ => by simp [plain] at h
  | n + 1, .lst xs, .dT _, _, h, _, _ => by simp [plain] at h
  | n + 1, .lst xs, .ins _ _, _, h, _, _ => by simp [plain] at h
  | n + 1, .lst xs, .scr _, _, h, _, _ => by simp [plain] at h
  | n + 1, .lst xs, .exc _ _, _, h, _, _ => by simp [plain] at h
  | n + 1, .lst xs, .fnc _ _, _, h, _, _ => by simp [plain] at h
  | n + 1, .lst xs, .lam _, _, h, _, _ => by simp [plain] at h
  | n + 1, .tup xs, .non, _, _, _, _ => by simp [py, PyData.eqv]
  | n + 1, .tup xs, .int _, _, _, _, _ => by simp [py, PyData.eqv]
  | n + 1, .tup xs, .str _, _, _, _, _ => by simp [py, PyData.eqv]
  | n + 1, .tup xs, .lst _, _, _, _, _ => by simp [py, PyData.eqv]
  | n + 1, .tup xs, .bl _, _, _, _, h => by simp [nob] at h
  | n + 1, .tup xs, .dK _, _, h, _, _ => by simp [plain] at h
  | n + 1, .tup xs, .dT _, _, h, _, _ => by simp [plain] at h
  | n + 1, .tup xs, .ins _ _, _, h, _, _ => by simp [plain] at h
  | n + 1, .tup xs, .scr _, _, h, _, _ => by simp [plain] at h
  | n + 1, .tup xs, .exc _ _, _, h, _, _ => by simp [plain] at h
  | n + 1, .tup xs, .fnc _ _, _, h, _, _ => by simp [plain] at h
  | n + 1, .tup xs, .lam _, _, h, _, _ => by simp [plain] at h
theorem eqv_nobs : ∀ (n : Nat) (d e : List D), plains n d = true → plains n e = true → nobs d = true → nobs e = true → (PyData.eqvAll (pys d) (pys e) = true ↔ d = e)
  | _, [], [], _, _, _, _ => by simp [pys, PyData.eqvAll]
  | _, [], _ :: _, _, _, _, _ => by simp [pys, PyData.eqvAll]
  | _, _ :: _, [], _, _, _, _ => by simp [pys, PyData.eqvAll]
  | n, x :: xs, y :: ys, h1, h2, b1, b2 => by
    unfold plains at h1 h2
    unfold nobs at b1 b2
    rw [Bool.and_eq_true] at h1 h2 b1 b2
    have e1 := eqv_nob n x y h1.1 h2.1 b1.1 b2.1
    have e2 := eqv_nobs n xs ys h1.2 h2.2 b1.2 b2.2
    simp [pys, PyData.eqvAll, e1, e2]
end
/-- the items of a slice -/
def cutD {α : Type} (xs : List α) (lo hi : Option Int) : List α := (xs.drop (HT.sIx xs.length 0 lo)).take (HT.sIx xs.length xs.length hi - HT.sIx xs.length 0 lo)
section
variable {K : PySem.W.Frag}
theorem rps_ints {G : Hp} : ∀ (ns : List Int), Rps K G (ns.map V.int) (ns.map D.int)
  | [] => .nil
  | n :: r => .cons (.int n) (rps_ints r)
theorem rps_intsV {G : Hp} : ∀ {ns : List Int} {vs : List V}, Rps K G vs (ns.map D.int) → vs = ns.map V.int
  | [], _, .nil => rfl
  | _ :: _, _, .cons h r => by cases h; rw [rps_intsV r]; rfl
end
theorem rps_flat {K : PySem.W.Frag} {G : Hp} {vs : List V} {xs : List D} (r : Rps K G vs xs) : ∀ n : Nat, Rps K G (List.replicate n vs).flatten (List.replicate n xs).flatten
  | 0 => .nil
  | n + 1 => by rw [List.replicate_succ, List.replicate_succ, List.flatten_cons, List.flatten_cons]; exact Rps.append r (rps_flat r n)
theorem rps_strs {K : PySem.W.Frag} {G : Hp} : ∀ {vs : List V} {ys : List Str}, Rps K G vs (ys.map D.str) → vs = ys.map V.str
  | _, [], .nil => rfl
  | _, y :: ys, .cons h r => by cases h; rw [rps_strs r]; rfl
theorem rps_bls {K : PySem.W.Frag} {G : Hp} : ∀ {vs : List V} {ys : List Bool}, Rps K G vs (ys.map D.bl) → vs = ys.map V.bl
  | _, [], .nil => rfl
  | _, y :: ys, .cons h r => by cases h; rw [rps_bls r]; rfl
theorem op_repS : OpR X (binaryOp .Mult) (fun x y H Q => ∃ z n, x = .str z ∧ y = .int n ∧ MulOk z n ∧ Q (.str (Txt.mul z n)) H) := by
  intro pins s σ H x y v u Q I rx ry h
  obtain ⟨z, n, rfl, rfl, hk, q⟩ := h
  obtain ⟨t, rfl⟩ := rx
  obtain ⟨t', rfl⟩ := ry
  exact SB.mul hk fun t' k => ⟨.str _, H, I.tok k, ⟨_, rfl⟩, q⟩

theorem rs_tup {K : PySem.W.Frag} {Ad : List Addr} {G : Hp} {p : Addr} {vs : List V} {ds : List D} (h : SqT K G p vs) (r : Rps K G vs ds) : RpS K Ad G (.ref p) (.dat (.tup ds)) := Rp.tup h r
theorem rs_lst {K : PySem.W.Frag} {Ad : List Addr} {G : Hp} {p : Addr} {vs : List V} {ds : List D} (h : G p = some (.lst vs)) (r : Rps K G vs ds) : RpS K Ad G (.ref p) (.dat (.lst ds)) := Rp.lst h r
theorem rs_mu {K : PySem.W.Frag} {Ad : List Addr} {G : Hp} {p : Addr} {j : Nat} (h : Ad[j]? = some p) : RpS K Ad G (.ref p) (.mu j) := ⟨p, h, rfl⟩
/-- all are data -/
def datsOf : List Sl → Option (List D)
  | [] => some []
  | .dat d :: r => (datsOf r).map (d :: ·)
  | _ :: _ => none
theorem datsOf_eq : ∀ {ss : List Sl} {ds : List D}, datsOf ss = some ds → ss = ds.map .dat
  | [], _, h => by cases h; rfl
  | .dat d :: r, _, h => by
    unfold datsOf at h
    cases e : datsOf r with
    | none => rw [e] at h; cases h
    | some es => rw [e] at h; cases h; rw [datsOf_eq e]; rfl
  | .un :: _, _, h => by cases h
  | .mu _ :: _, _, h => by cases h
  | .raw _ :: _, _, h => by cases h
@[simp] theorem datsOf_map : ∀ ds : List D, datsOf (ds.map .dat) = some ds
  | [] => rfl
  | d :: r => by rw [List.map_cons, datsOf, datsOf_map r]; rfl
@[simp] theorem datsOf_mapf {α : Type} (g : α → D) (xs : List α) : datsOf (xs.map fun a => .dat (g a)) = some (xs.map g) := by
  have := datsOf_map (xs.map g)
  rw [List.map_map] at this; exact this
/-- the items of a list, all data -/
def lstD (M : List MO) : Sl → Option (List D)
  | .dat (.lst ds) => some ds
  | .mu j => match M[j]? with
    | some (.lst xs) => datsOf xs
    | _ => none
  | _ => none
theorem lstD_ok {M : List MO} {s : Sl} {ds : List D} (h : lstD M s = some ds) : lstOf M s = some (ds.map .dat) := by
  cases s with
  | dat d => cases d <;> first | (cases h; done) | (cases h; rfl)
  | mu j =>
    unfold lstD at h
    unfold lstOf
    dsimp only at h ⊢
    split at h
    · rename_i xs e; rw [datsOf_eq h]
    · cases h
  | _ => cases h
/-- the value as data, without freezing it -/
def viewD (M : List MO) : Sl → Option D
  | .dat d => some d
  | .mu j => match M[j]? with
    | some (.lst xs) => (datsOf xs).map .lst
    | _ => none
  | _ => none
theorem view_dp {K : PySem.W.Frag} {Ad : List Addr} {G H : Hp} {M : List MO} {v : V} {s : Sl} {d : D} {n : Nat} (ms : MS K Ad G M H) (r : RpS K Ad G v s) (h : viewD M s = some d) (hp : plain n d = true) : Dp K H v (py d) := by
  cases s with
  | dat f => cases h; exact plain_dp ms.le n _ _ hp r
  | mu j =>
    unfold viewD at h
    dsimp only at h
    split at h
    · rename_i xs e
      cases q : datsOf xs with
      | none => rw [q] at h; cases h
      | some ds =>
        rw [q] at h; cases h
        obtain ⟨p, vs, e1, e2, e3⟩ := lst_at ms r (show lstOf M (.mu j) = some xs by unfold lstOf; dsimp only; rw [e])
        rw [datsOf_eq q] at e3
        cases n with
        | zero => simp [plain] at hp
        | succ n =>
          rw [e1]
          unfold py
          exact .lst (SqL.of e2) (plains_dp ms.le n ds _ (by simpa [plain] using hp) (RpSs.toRps e3))
    · cases h
  | _ => cases h

/-! ### operations by values -/
def V1 (X : Cx) (r : V → Hp → VK → Prop) (g : List MO → Sl → Option (Sl × List MO)) : Prop :=
  ∀ x M s M' Ad G H vx Q, g M x = some (s, M') → MS X.K Ad G M H → RpS X.K Ad G vx x → (∀ Ad' G' H' v, Grow Ad G H Ad' G' H' → MS X.K Ad' G' M' H' → RpS X.K Ad' G' v s → Q v H') → r vx H Q
def V2 (X : Cx) (r : R2) (g : List MO → Sl → Sl → Option (Sl × List MO)) : Prop :=
  ∀ x y M s M' Ad G H vx vy Q, g M x y = some (s, M') → MS X.K Ad G M H → RpS X.K Ad G vx x → RpS X.K Ad G vy y → (∀ Ad' G' H' v, Grow Ad G H Ad' G' H' → MS X.K Ad' G' M' H' → RpS X.K Ad' G' v s → Q v H') → r vx vy H Q
def VL (X : Cx) (r : List V → Hp → VK → Prop) (g : List MO → List Sl → Option (Sl × List MO)) : Prop :=
  ∀ x M s M' Ad G H vx Q, g M x = some (s, M') → MS X.K Ad G M H → RpSs X.K Ad G vx x → (∀ Ad' G' H' v, Grow Ad G H Ad' G' H' → MS X.K Ad' G' M' H' → RpS X.K Ad' G' v s → Q v H') → r vx H Q
def eOp1 (g : List MO → Sl → Option (Sl × List MO)) (fa : CE) : CE := fun ρ => (fa ρ).bind fun x => ofM fun M => g M x
def eOp2 (g : List MO → Sl → Sl → Option (Sl × List MO)) (fa fb : CE) : CE := fun ρ => (fa ρ).bind fun x => (fb ρ).bind fun y => ofM fun M => g M x y
def eOpL (g : List MO → List Sl → Option (Sl × List MO)) (fa : CA) : CE := fun ρ => (fa ρ).bind fun x => ofM fun M => g M x
section
variable {X : Cx} {W : WX} {e a b : Expr} {es : List Expr} {fa fb : CE} {fs : CA}
theorem se_op1 {r : V → Hp → VK → Prop} {g} (pe : PE X e (tUn r (wE X a))) (h1 : SE X W a fa) (hv : V1 X r g) : SE X W e (eOp1 g fa) := ⟨fun ρ M Ad G σ H Q ms en h =>
  toE pe (h1.seq ms en h fun Ad1 G1 M1 H1 v1 x g1 m1 r1 w1 => by
    obtain ⟨s, M', e, q⟩ := wp_ofM.mp w1
    exact hv x M1 s M' Ad1 G1 H1 v1 Q e m1 r1 fun Ad' G' H' v g' m' r' => q Ad' G' H' v g' m' r')⟩
theorem se_op2 {r : R2} {g} (pe : PE X e (tOp r (wE X a) (wE X b))) (h1 : SE X W a fa) (h2 : SE X W b fb) (hv : V2 X r g) : SE X W e (eOp2 g fa fb) := ⟨fun ρ M Ad G σ H Q ms en h =>
  toE pe (h1.seq ms en h fun Ad1 G1 M1 H1 v1 x g1 m1 r1 w1 => h2.seq m1 (en.grow g1) w1 fun Ad2 G2 M2 H2 v2 y g2 m2 r2 w2 => by
    obtain ⟨s, M', e, q⟩ := wp_ofM.mp w2
    exact hv x y M2 s M' Ad2 G2 H2 v1 v2 Q e m2 (r1.grow g2) r2 fun Ad' G' H' v g' m' r' => q Ad' G' H' v g' m' r')⟩
theorem se_opL {r : List V → Hp → VK → Prop} {g} (pe : PE X e (tCB r (wA X es))) (h1 : SA X W es fs) (hv : VL X r g) : SE X W e (eOpL g fs) := ⟨fun ρ M Ad G σ H Q ms en h =>
  toE pe (h1.seq ms en h fun Ad1 G1 M1 H1 v1 x g1 m1 r1 w1 => by
    obtain ⟨s, M', e, q⟩ := wp_ofM.mp w1
    exact hv x M1 s M' Ad1 G1 H1 v1 Q e m1 r1 fun Ad' G' H' v g' m' r' => q Ad' G' H' v g' m' r')⟩
end
/-- any rule will do -/
def wOp (X : Cx) (f : Value → Value → Sem Value) : R2 := fun vx vy H Q => ∃ r, OpR X f r ∧ r vx vy H Q
theorem op_w {X : Cx} {f : Value → Value → Sem Value} : OpR X f (wOp X f) := fun pins s σ H x y v u Q I rx ry ⟨r, ho, h⟩ => ho pins s σ H x y v u Q I rx ry h
def wIx (X : Cx) : R2 := fun vx vy H Q => ∃ r, IxR X r ∧ r vx vy H Q
theorem ix_w {X : Cx} : IxR X (wIx X) := fun va sl pins s σ H x y v u Q I rx ry ⟨r, ho, h⟩ => ho va sl pins s σ H x y v u Q I rx ry h
def wSl (X : Cx) : V → Option Int → Option Int → Hp → VK → Prop := fun x lo hi H Q => ∃ r, L2.SlR X r ∧ r x lo hi H Q
theorem sl_w {X : Cx} : L2.SlR X (wSl X) := fun pins s σ H x v vl vu lo hi sl Q I rx hs pl pu ⟨r, ho, h⟩ => ho pins s σ H x v vl vu lo hi sl Q I rx hs pl pu h
def wCl (X : Cx) (f : Value) : List V → Hp → VK → Prop := fun vs H Q => ∃ r, CallR X f r ∧ r vs H Q
theorem cl_w {X : Cx} {f : Value} : CallR X f (wCl X f) := fun pins s σ H vs us Q I rv ⟨r, ho, h⟩ => ho pins s σ H vs us Q I rv h
/-- a data result, new at p -/
theorem new_lst {K : PySem.W.Frag} {Ad : List Addr} {G H : Hp} {M : List MO} {vs : List V} {ds : List D} {Q : VK} (ms : MS K Ad G M H) (r : Rps K G vs ds) (q : ∀ Ad' G' H' v, Grow Ad G H Ad' G' H' → MS K Ad' G' M H' → RpS K Ad' G' v (.dat (.lst ds)) → Q v H') {l : Addr} (hl : H l = none) : Q (.ref l) (upd H l (.lst vs)) := by
  have pu := Pure.new (o := .lst vs) ms.le hl
  exact q _ _ _ _ pu.grow (ms.pure pu) (rs_lst upd_same (Rps.mono pu.ex r))
theorem new_tup {K : PySem.W.Frag} {Ad : List Addr} {G H : Hp} {M : List MO} {vs : List V} {ds : List D} {Q : VK} (ms : MS K Ad G M H) (r : Rps K G vs ds) (q : ∀ Ad' G' H' v, Grow Ad G H Ad' G' H' → MS K Ad' G' M H' → RpS K Ad' G' v (.dat (.tup ds)) → Q v H') {l : Addr} (hl : H l = none) : Q (.ref l) (upd H l (.tup vs)) := by
  have pu := Pure.new (o := .tup vs) ms.le hl
  exact q _ _ _ _ pu.grow (ms.pure pu) (rs_tup (.inl (.inl upd_same)) (Rps.mono pu.ex r))
/-- a new list that will change -/
theorem new_mu {K : PySem.W.Frag} {Ad : List Addr} {G H : Hp} {M : List MO} {vs : List V} {ss : List Sl} {Q : VK} (ms : MS K Ad G M H) (r : RpSs K Ad G vs ss) (q : ∀ Ad' G' H' v, Grow Ad G H Ad' G' H' → MS K Ad' G' (M ++ [.lst ss]) H' → RpS K Ad' G' v (.mu M.length) → Q v H') {l : Addr} (hl : H l = none) : Q (.ref l) (upd H l (.lst vs)) := by
  obtain ⟨m2, g2⟩ := ms.newM (m := .lst ss) (o := .lst vs) hl ⟨vs, upd_same, r.mono (Ex.refl G) fun j a e => by rw [List.getElem?_append_left (List.getElem?_eq_some_iff.mp e).1]; exact e⟩
  exact q _ _ _ _ g2 m2 (rs_mu (by rw [← ms.len, List.getElem?_append_right (Nat.le_refl _), Nat.sub_self]; rfl))
/-- a new list: data, or one that will change -/
def mkL (m : Bool) (M : List MO) (ds : List D) : Sl × List MO := if m then (.mu M.length, M ++ [.lst (ds.map .dat)]) else (.dat (.lst ds), M)
theorem new_mk {K : PySem.W.Frag} {Ad : List Addr} {G H : Hp} {M : List MO} {vs : List V} {ds : List D} {m : Bool} {Q : VK} (ms : MS K Ad G M H) (r : Rps K G vs ds) (q : ∀ Ad' G' H' v, Grow Ad G H Ad' G' H' → MS K Ad' G' (mkL m M ds).2 H' → RpS K Ad' G' v (mkL m M ds).1 → Q v H') {l : Addr} (hl : H l = none) : Q (.ref l) (upd H l (.lst vs)) := by
  cases m with
  | true => exact new_mu ms (RpSs.ofRps r) q hl
  | false => exact new_lst ms r q hl

/-! ### arithmetic, joining -/
def bin (op : Operator) (M : List MO) : Sl → Sl → Option (Sl × List MO)
  | .dat (.int i), .dat (.int j) => match op with
    | .Add => some (.dat (.int (i + j)), M)
    | .Sub => some (.dat (.int (i - j)), M)
    | .Mult => if (-(2 ^ 64) < i ∧ i < 2 ^ 64) ∨ (-(2 ^ 64) < j ∧ j < 2 ^ 64) then some (.dat (.int (i * j)), M) else none
    | .Mod => if 0 < j then some (.dat (.int (i % j)), M) else none
    | .FloorDiv => if 0 < j ∧ j < 1073741824 then some (.dat (.int (i / j)), M) else none
    | .Pow => if 0 ≤ j ∧ j ≤ 1000000 ∧ i.natAbs < 2 ^ 64 then some (.dat (.int (i ^ j.toNat)), M) else none
    | _ => none
  | .dat (.str u), .dat (.str v) => match op with
    | .Add => if u.length + v.length ≤ sizeLine then some (.dat (.str (u ++ v)), M) else none
    | _ => none
  | .dat (.tup xs), .dat (.tup ys) => match op with
    | .Add => if xs.length + ys.length ≤ sizeLine then some (.dat (.tup (xs ++ ys)), M) else none
    | _ => none
  | .dat (.str u), .dat (.int i) => match op with
    | .Mult => if -(2 ^ 63) ≤ i ∧ i ≤ 16777216 ∧ u.length * i.toNat ≤ 16777216 then some (.dat (.str (Txt.mul u i)), M) else none
    | _ => none
  | s, .dat (.int i) => match op with
    | .Mult => match lstD M s with
      | some xs => if (-(2 ^ 63) ≤ i ∧ i < 2 ^ 63) ∧ xs.length * i.toNat ≤ sizeLine then some (.dat (.lst (List.replicate i.toNat xs).flatten), M) else none
      | none => none
    | _ => none
  | s, t => match op with
    | .Add => match lstD M s, lstD M t with
      | some xs, some ys => if xs.length + ys.length ≤ sizeLine then some (.dat (.lst (xs ++ ys)), M) else none
      | _, _ => none
    | _ => none

theorem mulOk_b {u : Str} {i : Int} (c : -(2 ^ 63) ≤ i ∧ i ≤ 16777216 ∧ u.length * i.toNat ≤ 16777216) : MulOk u i := mulOk_of u.length i.toNat (Nat.le_refl _) (by omega) c.1 (by omega) c.2.2
theorem bin_ok {X : Cx} {op : Operator} : V2 X (wOp X (binaryOp op)) (bin op) := by
  intro x y M s M' Ad G H vx vy Q h ms rx ry q
  have fin : ∀ {v : V} {t : Sl}, (∀ Ad G, RpS X.K Ad G v t) → (s = t ∧ M' = M) → Q v H := fun {v t} hr ⟨e1, e2⟩ => by
    subst e1 e2; exact q Ad G H v (Grow.refl _ _ _) ms (hr _ _)
  unfold bin at h
  split at h
  · have ex := rp_int rx
    have ey := rp_int ry
    subst ex ey
    cases op <;> dsimp only at h <;> first | (cases h; done) | skip
    · cases h; exact ⟨_, op_add, _, _, rfl, rfl, fin (fun _ _ => rs_int) ⟨rfl, rfl⟩⟩
    · cases h; exact ⟨_, op_sub, _, _, rfl, rfl, fin (fun _ _ => rs_int) ⟨rfl, rfl⟩⟩
    · split at h
      · rename_i c; cases h; exact ⟨_, op_mul, _, _, rfl, rfl, c, fin (fun _ _ => rs_int) ⟨rfl, rfl⟩⟩
      · cases h
    · split at h
      · rename_i c; cases h; exact ⟨_, op_mod, _, _, rfl, rfl, c, fin (fun _ _ => rs_int) ⟨rfl, rfl⟩⟩
      · cases h
    · split at h
      · rename_i c; cases h; exact ⟨_, op_pow, _, _, rfl, rfl, c, fin (fun _ _ => rs_int) ⟨rfl, rfl⟩⟩
      · cases h
    · split at h
      · rename_i c; cases h; exact ⟨_, op_fdiv, _, _, rfl, rfl, c, fin (fun _ _ => rs_int) ⟨rfl, rfl⟩⟩
      · cases h
  · have ex := rp_str rx
    have ey := rp_str ry
    subst ex ey
    cases op <;> dsimp only at h <;> first | (cases h; done) | skip
    split at h
    · rename_i c; cases h; exact ⟨_, op_add_str, _, _, rfl, rfl, c, fin (fun _ _ => rs_str) ⟨rfl, rfl⟩⟩
    · cases h
  · rename_i xs ys
    cases op <;> dsimp only at h <;> first | (cases h; done) | skip
    split at h
    · rename_i c
      cases h
      refine ⟨_, op_catA, ?_⟩
      obtain ⟨p1, vs, w1, w2, w3⟩ := tup_at (Ad := Ad) ms.le rx rfl
      obtain ⟨p2, ws, z1, z2, z3⟩ := tup_at (Ad := Ad) ms.le ry rfl
      have l1 := w3.length
      have l2 := z3.length
      rw [List.length_map] at l1 l2
      refine ⟨p1, p2, vs, ws, w1, z1, w2, z2, by omega, fun e => ?_, fun e1 e2 => ?_, fun e1 e2 l hl => ?_⟩
      · have : xs = [] := by rw [e] at l1; exact List.length_eq_zero_iff.mp l1.symm
        subst this
        exact q _ _ _ _ (Grow.refl _ _ _) ms (by rw [← z1]; exact ry)
      · have : ys = [] := by rw [e2] at l2; exact List.length_eq_zero_iff.mp l2.symm
        subst this
        exact q _ _ _ _ (Grow.refl _ _ _) ms (by rw [← w1, List.append_nil]; exact rx)
      · exact new_tup ms (Rps.append (RpSs.toRps w3) (RpSs.toRps z3)) q hl
    · cases h
  · have ex := rp_str rx
    have ey := rp_int ry
    subst ex ey
    cases op <;> dsimp only at h <;> first | (cases h; done) | skip
    split at h
    · rename_i c
      cases h
      exact ⟨_, op_repS, _, _, rfl, rfl, mulOk_b c, fin (fun _ _ => rs_str) ⟨rfl, rfl⟩⟩
    · cases h
  · have ey := rp_int ry
    subst ey
    cases op <;> dsimp only at h <;> first | (cases h; done) | skip
    split at h
    · rename_i xs hx
      split at h
      · rename_i c
        cases h
        obtain ⟨p1, vs, w1, w2, w3⟩ := lst_at ms rx (lstD_ok hx)
        exact ⟨_, op_rep, p1, _, vs, w1, rfl, w2, c.1.1, c.1.2, by rw [w3.length, List.length_map]; exact c.2, fun l hl => new_lst ms (rps_flat (RpSs.toRps w3) _) q hl⟩
      · cases h
    · cases h
  · cases op <;> dsimp only at h <;> first | (cases h; done) | skip
    split at h
    · rename_i xs ys hx hy
      split at h
      · rename_i c
        cases h
        obtain ⟨p1, vs, w1, w2, w3⟩ := lst_at ms rx (lstD_ok hx)
        obtain ⟨p2, ws, z1, z2, z3⟩ := lst_at ms ry (lstD_ok hy)
        exact ⟨_, op_cat, p1, p2, vs, ws, w1, z1, w2, z2, by rw [w3.length, z3.length, List.length_map, List.length_map]; exact c, fun l hl => new_lst ms (Rps.append (RpSs.toRps w3) (RpSs.toRps z3)) q hl⟩
      · cases h
    · cases h
section
variable {X : Cx} {W : WX} {a b c e : Expr} {es : List Expr} {fa fb fc : CE} {ft : CT} {pos : Pos}
theorem se_bin {op : Operator} (h1 : SE X W a fa) (h2 : SE X W b fb) : SE X W (.BinOp a op b pos) (eOp2 (bin op) fa fb) := se_op2 (pe_op op_w pe_w pe_w) h1 h2 bin_ok
def negD (M : List MO) : Sl → Option (Sl × List MO)
  | .dat (.int i) => some (.dat (.int (-i)), M)
  | _ => none
theorem se_neg (h1 : SE X W a fa) : SE X W (.UnaryOp .USub a pos) (eOp1 negD fa) := se_op1 (pe_un un_neg pe_w) h1 fun x M s M' Ad G H vx Q h ms rx q => by
  unfold negD at h
  split at h
  · cases h; exact ⟨_, rp_int rx, q _ _ _ _ (Grow.refl _ _ _) ms rs_int⟩
  · cases h

/-! ### comparisons -/
def cmpV (op : CmpOp) (M : List MO) : Sl → Sl → Option Bool
  | .dat (.int i), .dat (.int j) => match op with
    | .Lt => some (decide (i < j))
    | .LtE => some (decide (i ≤ j))
    | .Gt => some (decide (j < i))
    | .GtE => some (decide (j ≤ i))
    | .Eq => some (decide (i = j))
    | .NotEq => some (!decide (i = j))
    | _ => none
  | .dat (.str u), .dat (.str v) => match op with
    | .Gt => some (decide (v.cps.toList < u.cps.toList))
    | .Eq => some (decide (u = v))
    | .NotEq => some (!decide (u = v))
    | .In => match u.cps.toList with
      | [c] => some (decide (c ∈ v.cps.toList))
      | _ => none
    | .NotIn => match u.cps.toList with
      | [c] => some (!decide (c ∈ v.cps.toList))
      | _ => none
    | _ => none
  | .dat d, .dat .non => match op with
    | .Is => some (isNon d)
    | .IsNot => some (!isNon d)
    | .Eq => eqS d .non
    | .NotEq => (eqS d .non).map (!·)
    | _ => none
  | x, y => match op with
    | .Eq => match viewD M x, viewD M y with
      | some d, some f => if plain 58 d && plain 58 f then some (PyData.eqv (py d) (py f)) else none
      | _, _ => none
    | .NotEq => match viewD M x, viewD M y with
      | some d, some f => if plain 58 d && plain 58 f then some (!PyData.eqv (py d) (py f)) else none
      | _, _ => none
    | .In => match viewD M x, viewD M y with
      | some d, some (.lst ds) => if plain 58 d && plains 58 ds then some ((pys ds).any fun z => PyData.eqv z (py d)) else none
      | some d, some (.tup ds) => if plain 58 d && plains 58 ds then some ((pys ds).any fun z => PyData.eqv z (py d)) else none
      | _, _ => none
    | .NotIn => match viewD M x, viewD M y with
      | some d, some (.lst ds) => if plain 58 d && plains 58 ds then some (!(pys ds).any fun z => PyData.eqv z (py d)) else none
      | some d, some (.tup ds) => if plain 58 d && plains 58 ds then some (!(pys ds).any fun z => PyData.eqv z (py d)) else none
      | _, _ => none
    | _ => none
def cmp (op : CmpOp) (M : List MO) (x y : Sl) : Option (Sl × List MO) := (cmpV op M x y).map fun b => (.dat (.bl b), M)
def rInT (K : PySem.W.Frag) : R2 := fun x y H Q => ∃ d ds, Dp K H x d ∧ Dp K H y (.tuple ds) ∧ SeqAt.shaped d = true ∧ SeqAt.shaped (.tuple ds) = true ∧ Q (.bl (ds.any fun z => PyData.eqv z d)) H
def rNotInT (K : PySem.W.Frag) : R2 := fun x y H Q => ∃ d ds, Dp K H x d ∧ Dp K H y (.tuple ds) ∧ SeqAt.shaped d = true ∧ SeqAt.shaped (.tuple ds) = true ∧ Q (.bl (!ds.any fun z => PyData.eqv z d)) H
theorem op_inT (hu : X.A.units + 65 < cLine) : OpR X (compareOp .In) (rInT X.K) := by
  intro pins s σ H x y v u Q I rx ry h
  obtain ⟨d, ds, hd, he, sd, se, q⟩ := h
  obtain ⟨as, r1⟩ := Dp.reads I d x v hd rx
  obtain ⟨bs, r2⟩ := Dp.reads I (.tuple ds) y u he ry
  exact SeqAt.in_tuple_reads r2 r1 (SeqAt.canLay_of_shaped se) (SeqAt.canLay_of_shaped sd) (room_in_shaped sd hu) ⟨.bl _, H, I, rfl, q⟩
theorem op_notInT (hu : X.A.units + 65 < cLine) : OpR X (compareOp .NotIn) (rNotInT X.K) := by
  intro pins s σ H x y v u Q I rx ry h
  obtain ⟨d, ds, hd, he, sd, se, q⟩ := h
  obtain ⟨as, r1⟩ := Dp.reads I d x v hd rx
  obtain ⟨bs, r2⟩ := Dp.reads I (.tuple ds) y u he ry
  exact SeqAt.notIn_tuple_reads r2 r1 (SeqAt.canLay_of_shaped se) (SeqAt.canLay_of_shaped sd) (room_in_shaped sd hu) ⟨.bl _, H, I, rfl, q⟩
theorem one_sign {u : Str} {c : Nat} (h : u.cps.toList = [c]) : u = ⟨#[c]⟩ := by
  cases u with
  | mk cps => cases cps; simp at h; subst h; rfl
theorem cmp_ok {op : CmpOp} (hu : X.A.units + 65 < cLine) : V2 X (wOp X (compareOp op)) (cmp op) := by
  intro x y M s M' Ad G H vx vy Q h ms rx ry q
  unfold cmp at h
  cases hc : cmpV op M x y with
  | none => rw [hc] at h; cases h
  | some b =>
    rw [hc] at h
    cases h
    have fin : ∀ {r : Bool}, r = b → Q (.bl r) H := fun {r} e => by subst e; exact q Ad G H _ (Grow.refl _ _ _) ms rs_bl
    have shp : ∀ {d : D}, plain 58 d = true → SeqAt.shaped (py d) = true := fun h => shaped_py h (by decide)
    have shl : ∀ {ds : List D}, plains 58 ds = true → SeqAt.shaped (py (.lst ds)) = true := fun {ds} h => shaped_py (n := 59) (d := .lst ds) (by simpa [plain] using h) (by decide)
    have sht : ∀ {ds : List D}, plains 58 ds = true → SeqAt.shaped (py (.tup ds)) = true := fun {ds} h => shaped_py (n := 59) (d := .tup ds) (by simpa [plain] using h) (by decide)
    have pl : ∀ {ds : List D}, plains 58 ds = true → plain 59 (.lst ds) = true := fun {ds} h => by simpa [plain] using h
    have pt : ∀ {ds : List D}, plains 58 ds = true → plain 59 (.tup ds) = true := fun {ds} h => by simpa [plain] using h
    unfold cmpV at hc
    split at hc
    · have ex := rp_int rx
      have ey := rp_int ry
      subst ex ey
      cases op <;> dsimp only at hc <;> first | (cases hc; done) | skip
      · cases hc; exact ⟨_, op_eq, rfl, fin (by simp)⟩
      · cases hc; exact ⟨_, op_ne, rfl, fin (by simp)⟩
      · cases hc; exact ⟨_, op_lt, _, _, rfl, rfl, fin rfl⟩
      · cases hc; exact ⟨_, op_le, _, _, rfl, rfl, fin rfl⟩
      · cases hc; exact ⟨_, op_gt, _, _, rfl, rfl, fin rfl⟩
      · cases hc; exact ⟨_, op_ge, _, _, rfl, rfl, fin rfl⟩
    · have ex := rp_str rx
      have ey := rp_str ry
      subst ex ey
      cases op <;> dsimp only at hc <;> first | (cases hc; done) | skip
      · cases hc; exact ⟨_, op_eq, rfl, fin (by simp)⟩
      · cases hc; exact ⟨_, op_ne, rfl, fin (by simp)⟩
      · cases hc; exact ⟨_, op_gt_str, _, _, rfl, rfl, fin rfl⟩
      · split at hc
        · rename_i c e; cases hc; exact ⟨_, op_in_sign, c, _, by rw [one_sign e], rfl, fin rfl⟩
        · cases hc
      · split at hc
        · rename_i c e; cases hc; exact ⟨_, op_notIn_sign, c, _, by rw [one_sign e], rfl, fin rfl⟩
        · cases hc
    · rename_i d
      have ey := rp_non ry
      have hn : decide (vx = V.non) = isNon d := by cases rx <;> simp [isNon]
      cases op <;> dsimp only at hc <;> first | (cases hc; done) | skip
      · obtain ⟨h1, h2⟩ := eqS_ok hc rx ry
        exact ⟨_, op_eq, h1, fin h2⟩
      · cases hq : eqS d .non with
        | none => rw [hq] at hc; cases hc
        | some k =>
          rw [hq] at hc; cases hc
          obtain ⟨h1, h2⟩ := eqS_ok hq rx ry
          exact ⟨_, op_ne, h1, fin (by rw [h2])⟩
      · cases hc; exact ⟨_, op_isN, ey, fin hn⟩
      · cases hc; exact ⟨_, op_notN, ey, fin (by rw [hn])⟩
    · cases op <;> dsimp only at hc <;> first | (cases hc; done) | skip
      · split at hc
        · rename_i d f h1 h2
          split at hc
          · rename_i hp
            rw [Bool.and_eq_true] at hp
            cases hc
            exact ⟨_, op_eqD (by omega), _, _, view_dp ms rx h1 hp.1, view_dp ms ry h2 hp.2, shp hp.1, shp hp.2, fin rfl⟩
          · cases hc
        · cases hc
      · split at hc
        · rename_i d f h1 h2
          split at hc
          · rename_i hp
            rw [Bool.and_eq_true] at hp
            cases hc
            exact ⟨_, op_neD (by omega), _, _, view_dp ms rx h1 hp.1, view_dp ms ry h2 hp.2, shp hp.1, shp hp.2, fin rfl⟩
          · cases hc
        · cases hc
      · split at hc
        · rename_i d ds h1 h2
          split at hc
          · rename_i hp
            rw [Bool.and_eq_true] at hp
            cases hc
            exact ⟨_, L2.op_inD hu, _, _, view_dp ms rx h1 hp.1, view_dp ms ry h2 (pl hp.2), shp hp.1, shl hp.2, fin rfl⟩
          · cases hc
        · rename_i d ds h1 h2
          split at hc
          · rename_i hp
            rw [Bool.and_eq_true] at hp
            cases hc
            exact ⟨_, op_inT hu, _, _, view_dp ms rx h1 hp.1, view_dp ms ry h2 (pt hp.2), shp hp.1, sht hp.2, fin rfl⟩
          · cases hc
        · cases hc
      · split at hc
        · rename_i d ds h1 h2
          split at hc
          · rename_i hp
            rw [Bool.and_eq_true] at hp
            cases hc
            exact ⟨_, L2.op_notInD hu, _, _, view_dp ms rx h1 hp.1, view_dp ms ry h2 (pl hp.2), shp hp.1, shl hp.2, fin rfl⟩
          · cases hc
        · rename_i d ds h1 h2
          split at hc
          · rename_i hp
            rw [Bool.and_eq_true] at hp
            cases hc
            exact ⟨_, op_notInT hu, _, _, view_dp ms rx h1 hp.1, view_dp ms ry h2 (pt hp.2), shp hp.1, sht hp.2, fin rfl⟩
          · cases hc
        · cases hc
theorem se_cmp {op : CmpOp} (hu : X.A.units + 65 < cLine) (h1 : SE X W a fa) (h2 : SE X W b fb) (hm : behindInMarks op b = false := by rfl) : SE X W (.Compare a [op] [b] pos) (eOp2 (cmp op) fa fb) := se_op2 (pe_cmpR op_w pe_w pe_w hm) h1 h2 (cmp_ok hu)
end
end R

set_option Elab.async false
set_option linter.all false
set_option maxRecDepth 100000
set_option maxHeartbeats 4000000
namespace R
open PySem PySem.Spec PyProof.Rows L2
variable [Keys]

/-! ### tests -/
def asB : Sl → Ev Bool
  | .dat (.bl b) => ok b
  | _ => bad
theorem wp_asB {s : Sl} {M : List MO} {Q : Re Bool → Prop} (h : wp (asB s M) Q) : ∃ b, s = .dat (.bl b) ∧ Q (.ok b M) := by
  unfold asB at h
  split at h
  · exact ⟨_, rfl, h⟩
  · exact h.elim
def tVal (f : CE) : CT := fun ρ => (f ρ).bind asB
def tNot (f : CT) : CT := fun ρ => (f ρ).bind fun b => ok (!b)
def tAnd (f g : CT) : CT := fun ρ => (f ρ).bind fun b => if b then g ρ else ok false
def tOr (f g : CT) : CT := fun ρ => (f ρ).bind fun b => if b then ok true else g ρ
def eAnd (f g : CE) : CE := fun ρ => (f ρ).bind fun s => match s with
  | .dat (.bl true) => g ρ
  | .dat (.bl false) => ok (.dat (.bl false))
  | _ => bad
def eOr (f g : CE) : CE := fun ρ => (f ρ).bind fun s => match s with
  | .dat (.bl true) => ok (.dat (.bl true))
  | .dat (.bl false) => g ρ
  | _ => bad
def eNot (f : CE) : CE := fun ρ => (f ρ).bind fun s => match s with
  | .dat (.bl b) => ok (.dat (.bl (!b)))
  | _ => bad
def eIf (c : CT) (f g : CE) : CE := fun ρ => (c ρ).bind fun b => if b then f ρ else g ρ
def chn (op op' : CmpOp) (fa fb fc : CE) : CE := fun ρ => (fa ρ).bind fun x => (fb ρ).bind fun y => fun M => match cmpV op M x y with
  | some true => (fc ρ).bind (fun z => ofM fun M => cmp op' M y z) M
  | some false => .ret (.ok (.dat (.bl false)) M)
  | none => .bad
section
variable {X : Cx} {W : WX} {a b c e o : Expr} {es : List Expr} {fa fb fc : CE} {fs : CA} {ft gt : CT} {pos p2 apos p : Pos}
theorem st_val (h1 : SE X W e fa) (he : ∀ whole, isTrue e X.env whole = (do let v ← whole; standAt e.pos; holding [v] (truthy v)) := by intro _; rfl) : ST X W e (tVal fa) := ⟨fun ρ M Ad G σ H Q ms en h =>
  toT (pt_val pe_w he) (h1.seq ms en h fun Ad1 G1 M1 H1 v1 s g1 m1 r1 w1 => by
    obtain ⟨b, rfl, w1⟩ := wp_asB w1
    exact ⟨_, rp_bl r1, w1 Ad1 G1 H1 _ (Grow.refl _ _ _) m1 rfl⟩)⟩
theorem st_cmp {op : CmpOp} (hu : X.A.units + 65 < cLine) (h1 : SE X W a fa) (h2 : SE X W b fb) (hm : behindInMarks op b = false := by rfl) : ST X W (.Compare a [op] [b] pos) (tVal (eOp2 (cmp op) fa fb)) := ⟨fun ρ M Ad G σ H Q ms en h => by
  have h' : wp (Ev.bind (fa ρ) (fun x => Ev.bind (fb ρ) fun y => Ev.bind (ofM fun M => cmp op M x y) asB) M) (Po X W RlT Q σ Ad G H) := by
    refine wp_evbind.mpr (wp_mono (fun r hr => ?_) (wp_evbind.mp (wp_evbind.mp h)))
    cases r with
    | ex c fs M1 => exact hr
    | ok x M1 =>
      refine wp_evbind.mpr (wp_mono (fun r hr => ?_) (wp_evbind.mp hr))
      cases r with
      | ex c fs M1 => exact hr
      | ok y M2 => exact wp_evbind.mpr hr
  refine toT (pt_cmpR op_w pe_w pe_w hm) (h1.seq ms en h' fun Ad1 G1 M1 H1 v1 x g1 m1 r1 w1 => h2.seq m1 (en.grow g1) w1 fun Ad2 G2 M2 H2 v2 y g2 m2 r2 w2 => ?_)
  obtain ⟨s, M', e, q⟩ := wp_ofM.mp (wp_evbind.mp w2)
  refine cmp_ok hu x y M2 s M' Ad2 G2 H2 v1 v2 _ e m2 (r1.grow g2) r2 fun Ad' G' H' v g' m' r' => ?_
  obtain ⟨b, rfl, q⟩ := wp_asB q
  exact ⟨_, rp_bl r', q _ _ _ _ g' m' rfl⟩⟩
theorem st_not (h1 : ST X W a ft) : ST X W (.UnaryOp .Not a pos) (tNot ft) := ⟨fun ρ M Ad G σ H Q ms en h =>
  toT (pt_not pt_w) (h1.seq ms en h fun Ad1 G1 M1 H1 k g1 m1 w1 => w1 Ad1 G1 H1 _ (Grow.refl _ _ _) m1 rfl)⟩
theorem st_W (h1 : SW X W e ft) : ST X W e ft := ⟨fun ρ M Ad G σ H Q ms en h => toT (PW.pt pw_w) (h1.run ρ M Ad G σ H Q ms en h)⟩
theorem sw_one {op : BoolOp} (h1 : ST X W a ft) : SW X W (.BoolOp op [a] pos) ft := ⟨fun ρ M Ad G σ H Q ms en h => by
  cases op
  · exact toW (pw_and1 pt_w) (h1.run ρ M Ad G σ H Q ms en h)
  · exact toW (pw_or1 pt_w) (h1.run ρ M Ad G σ H Q ms en h)⟩
theorem sw_and (h1 : ST X W a ft) (h2 : SW X W (.BoolOp .And (b :: es) pos) gt) : SW X W (.BoolOp .And (a :: b :: es) pos) (tAnd ft gt) := ⟨fun ρ M Ad G σ H Q ms en h =>
  toW (pw_and pt_w pw_w) (h1.seq ms en h fun Ad1 G1 M1 H1 k g1 m1 w1 => by
    cases k with
    | true => exact iteT (h2.run ρ M1 Ad1 G1 σ H1 Q m1 (en.grow g1) w1)
    | false => exact iteF (w1 Ad1 G1 H1 _ (Grow.refl _ _ _) m1 rfl))⟩
theorem sw_or (h1 : ST X W a ft) (h2 : SW X W (.BoolOp .Or (b :: es) pos) gt) : SW X W (.BoolOp .Or (a :: b :: es) pos) (tOr ft gt) := ⟨fun ρ M Ad G σ H Q ms en h =>
  toW (pw_or pt_w pw_w) (h1.seq ms en h fun Ad1 G1 M1 H1 k g1 m1 w1 => by
    cases k with
    | false => exact iteF (h2.run ρ M1 Ad1 G1 σ H1 Q m1 (en.grow g1) w1)
    | true => exact iteT (w1 Ad1 G1 H1 _ (Grow.refl _ _ _) m1 rfl))⟩
theorem se_if (h0 : ST X W c ft) (h1 : SE X W a fa) (h2 : SE X W b fb) : SE X W (.IfExp c a b pos) (eIf ft fa fb) := ⟨fun ρ M Ad G σ H Q ms en h =>
  toE (pe_ifExp pt_w pe_w pe_w) (h0.seq ms en h fun Ad1 G1 M1 H1 k g1 m1 w1 => by
    cases k with
    | true => exact iteT (h1.run ρ M1 Ad1 G1 σ H1 Q m1 (en.grow g1) w1)
    | false => exact iteF (h2.run ρ M1 Ad1 G1 σ H1 Q m1 (en.grow g1) w1))⟩
theorem se_not (h1 : SE X W a fa) : SE X W (.UnaryOp .Not a pos) (eNot fa) := ⟨fun ρ M Ad G σ H Q ms en h =>
  toE (pe_not pe_w) (h1.seq ms en h fun Ad1 G1 M1 H1 v s g1 m1 r1 w1 => by
    split at w1
    · exact ⟨_, rp_bl r1, w1 Ad1 G1 H1 _ (Grow.refl _ _ _) m1 rs_bl⟩
    · exact w1.elim)⟩
theorem se_one {op : BoolOp} (h1 : SE X W a fa) : SE X W (.BoolOp op [a] pos) fa := ⟨fun ρ M Ad G σ H Q ms en h => toE (pe_one pe_w) (h1.run ρ M Ad G σ H Q ms en h)⟩
theorem se_and (h1 : SE X W a fa) (h2 : SE X W (.BoolOp .And (b :: es) pos) fb) : SE X W (.BoolOp .And (a :: b :: es) pos) (eAnd fa fb) := ⟨fun ρ M Ad G σ H Q ms en h =>
  toE (pe_and pe_w pe_w) (h1.seq ms en h fun Ad1 G1 M1 H1 v s g1 m1 r1 w1 => by
    split at w1
    · exact ⟨_, rp_bl r1, iteT (h2.run ρ M1 Ad1 G1 σ H1 Q m1 (en.grow g1) w1)⟩
    · exact ⟨_, rp_bl r1, iteF (w1 Ad1 G1 H1 _ (Grow.refl _ _ _) m1 rs_bl)⟩
    · exact w1.elim)⟩
theorem se_or (h1 : SE X W a fa) (h2 : SE X W (.BoolOp .Or (b :: es) pos) fb) : SE X W (.BoolOp .Or (a :: b :: es) pos) (eOr fa fb) := ⟨fun ρ M Ad G σ H Q ms en h =>
  toE (pe_or pe_w pe_w) (h1.seq ms en h fun Ad1 G1 M1 H1 v s g1 m1 r1 w1 => by
    split at w1
    · exact ⟨_, rp_bl r1, iteT (w1 Ad1 G1 H1 _ (Grow.refl _ _ _) m1 rs_bl)⟩
    · exact ⟨_, rp_bl r1, iteF (h2.run ρ M1 Ad1 G1 σ H1 Q m1 (en.grow g1) w1)⟩
    · exact w1.elim)⟩
theorem cmp_of {op : CmpOp} {M : List MO} {x y : Sl} {k : Bool} (h : cmpV op M x y = some k) : cmp op M x y = some (.dat (.bl k), M) := by unfold cmp; rw [h]; rfl
theorem se_chain {op op' : CmpOp} (hu : X.A.units + 65 < cLine) (h1 : SE X W a fa) (h2 : SE X W b fb) (h3 : SE X W c fc) (hm : lastMarks [op, op'] [b, c] = false := by with_unfolding_all rfl) : SE X W (.Compare a [op, op'] [b, c] pos) (chn op op' fa fb fc) := ⟨fun ρ M Ad G σ H Q ms en h =>
  toE (pe_chain op_w op_w pe_w pe_w pe_w hm) (h1.seq ms en h fun Ad1 G1 M1 H1 v1 x g1 m1 r1 w1 => h2.seq m1 (en.grow g1) w1 fun Ad2 G2 M2 H2 v2 y g2 m2 r2 w2 => by
    split at w2
    · rename_i hc
      refine cmp_ok hu x y M2 _ M2 Ad2 G2 H2 v1 v2 _ (cmp_of hc) m2 (r1.grow g2) r2 fun Ad3 G3 H3 v3 g3 m3 r3 => ⟨_, rp_bl r3, iteT ?_⟩
      refine h3.seq m3 ((en.grow (g1.trans g2)).grow g3) (wp_mono (fun _ => Po.shift g3) w2) fun Ad4 G4 M4 H4 v4 z g4 m4 r4 w4 => ?_
      obtain ⟨s, M', e, q⟩ := wp_ofM.mp w4
      exact cmp_ok hu y z M4 s M' Ad4 G4 H4 v2 v4 _ e m4 ((r2.grow g3).grow g4) r4 fun Ad5 G5 H5 v5 g5 m5 r5 => q _ _ _ _ g5 m5 r5
    · rename_i hc
      exact cmp_ok hu x y M2 _ M2 Ad2 G2 H2 v1 v2 _ (cmp_of hc) m2 (r1.grow g2) r2 fun Ad3 G3 H3 v3 g3 m3 r3 => ⟨_, rp_bl r3, iteF (w2 _ _ _ _ g3 m3 rs_bl)⟩
    · exact w2.elim)⟩
theorem st_chain {op op' : CmpOp} (hu : X.A.units + 65 < cLine) (h1 : SE X W a fa) (h2 : SE X W b fb) (h3 : SE X W c fc) (hm : lastMarks [op, op'] [b, c] = false := by with_unfolding_all rfl) : ST X W (.Compare a [op, op'] [b, c] pos) (tVal (chn op op' fa fb fc)) := ⟨fun ρ M Ad G σ H Q ms en h => by
  have h' : wp (Ev.bind (fa ρ) (fun x => Ev.bind (fb ρ) fun y => fun M => match cmpV op M x y with
    | some true => Ev.bind (fc ρ) (fun z => Ev.bind (ofM fun M => cmp op' M y z) asB) M
    | some false => .ret (.ok false M)
    | none => .bad) M) (Po X W RlT Q σ Ad G H) := by
    refine wp_evbind.mpr (wp_mono (fun r hr => ?_) (wp_evbind.mp (wp_evbind.mp h)))
    cases r with
    | ex c fs M1 => exact hr
    | ok x M1 =>
      refine wp_evbind.mpr (wp_mono (fun r hr => ?_) (wp_evbind.mp hr))
      cases r with
      | ex c fs M1 => exact hr
      | ok y M2 =>
        dsimp only [reK] at hr ⊢
        cases hc : cmpV op M2 x y with
        | none => rw [hc] at hr; exact hr.elim
        | some k =>
          rw [hc] at hr
          cases k with
          | false => exact hr
          | true =>
            refine wp_evbind.mpr (wp_mono (fun r hr => ?_) (wp_evbind.mp hr))
            cases r with
            | ex c fs M1 => exact hr
            | ok z M3 => exact wp_evbind.mpr hr
  refine toT (pt_chain op_w op_w pe_w pe_w pe_w hm) (h1.seq ms en h' fun Ad1 G1 M1 H1 v1 x g1 m1 r1 w1 => h2.seq m1 (en.grow g1) w1 fun Ad2 G2 M2 H2 v2 y g2 m2 r2 w2 => ?_)
  split at w2
  · rename_i hc
    refine cmp_ok hu x y M2 _ M2 Ad2 G2 H2 v1 v2 _ (cmp_of hc) m2 (r1.grow g2) r2 fun Ad3 G3 H3 v3 g3 m3 r3 => ⟨_, rp_bl r3, iteT ?_⟩
    refine h3.seq m3 ((en.grow (g1.trans g2)).grow g3) (wp_mono (fun _ => Po.shift g3) w2) fun Ad4 G4 M4 H4 v4 z g4 m4 r4 w4 => ?_
    obtain ⟨s, M', e, q⟩ := wp_ofM.mp (wp_evbind.mp w4)
    refine cmp_ok hu y z M4 s M' Ad4 G4 H4 v2 v4 _ e m4 ((r2.grow g3).grow g4) r4 fun Ad5 G5 H5 v5 g5 m5 r5 => ?_
    obtain ⟨b, rfl, q⟩ := wp_asB q
    exact ⟨_, rp_bl r5, q _ _ _ _ g5 m5 rfl⟩
  · rename_i hc
    exact cmp_ok hu x y M2 _ M2 Ad2 G2 H2 v1 v2 _ (cmp_of hc) m2 (r1.grow g2) r2 fun Ad3 G3 H3 v3 g3 m3 r3 => ⟨_, rp_bl r3, iteF ⟨_, rfl, w2 _ _ _ _ g3 m3 rfl⟩⟩
  · exact w2.elim⟩
end
end R

set_option Elab.async false
set_option linter.all false
set_option maxRecDepth 100000
set_option maxHeartbeats 4000000
namespace R
open PySem PySem.Spec PyProof.Rows L2
variable [Keys]

/-! ### freezing -/
def datN (M : List MO) : Sl → Option D
  | .dat d => some d
  | .mu j => match M[j]? with
    | some (.fz (some d)) => some d
    | _ => none
  | _ => none
def datsN (M : List MO) : List Sl → Option (List D)
  | [] => some []
  | s :: r => match datN M s, datsN M r with
    | some d, some ds => some (d :: ds)
    | _, _ => none
def datsF {κ : Type} (M : List MO) : List (κ × Sl) → Option (List (κ × D))
  | [] => some []
  | (k, s) :: r => match datN M s, datsF M r with
    | some d, some ds => some ((k, d) :: ds)
    | _, _ => none
@[simp] theorem datsN_map (M : List MO) : ∀ ds : List D, datsN M (ds.map .dat) = some ds
  | [] => rfl
  | d :: r => by rw [List.map_cons, datsN, datsN_map M r]; rfl
/-- the object, from now on unchanged -/
def fzO (M : List MO) : MO → Option D
  | .lst xs => (datsN M xs).map .lst
  | .dK xs => (datsF M xs).map .dK
  | .dT xs => (datsF M xs).map .dT
  | .ins c xs => (datsF M xs).map (.ins c)
  | .fz (some d) => some d
  | _ => none
def fz1 (M : List MO) : Sl → Option (D × List MO)
  | .dat d => some (d, M)
  | .mu j => match M[j]? with
    | some m => match fzO M m with
      | some d => some (d, M.set j (.fz (some d)))
      | none => none
    | none => none
  | _ => none
def fzL (M : List MO) : List Sl → Option (List D × List MO)
  | [] => some ([], M)
  | s :: r => match fz1 M s with
    | some (d, M1) => match fzL M1 r with
      | some (ds, M2) => some (d :: ds, M2)
      | none => none
    | none => none
@[simp] theorem fzL_map (M : List MO) : ∀ ds : List D, fzL M (ds.map .dat) = some (ds, M)
  | [] => rfl
  | d :: r => by rw [List.map_cons, fzL]; dsimp only [fz1]; rw [fzL_map M r]
section
variable {K : PySem.W.Frag} {Ad : List Addr} {G H : Hp} {M : List MO}
theorem datN_ok {v : V} {s : Sl} {d : D} (ms : MS K Ad G M H) (r : RpS K Ad G v s) (h : datN M s = some d) : Rp K G v d := by
  cases s with
  | dat f => cases h; exact r
  | mu j =>
    unfold datN at h
    dsimp only at h
    split at h
    · rename_i f hm
      cases h
      obtain ⟨a, h1, rfl⟩ := r
      exact (ms.mo j a _ h1 hm).2.2 d rfl
    · cases h
  | _ => cases h
theorem datsN_ok (ms : MS K Ad G M H) : ∀ {vs : List V} {ss : List Sl} {ds : List D}, RpSs K Ad G vs ss → datsN M ss = some ds → Rps K G vs ds
  | _, _, _, .nil, h => by cases h; exact .nil
  | _, s :: r, _, .cons h1 h2, h => by
    unfold datsN at h
    split at h
    · rename_i d ds e1 e2; cases h; exact .cons (datN_ok ms h1 e1) (datsN_ok ms h2 e2)
    · cases h
theorem datsF_K (ms : MS K Ad G M H) : ∀ {vs : List (Key × V)} {ss : List (Key × Sl)} {ds : List (Key × D)}, RpSf K Ad G vs ss → datsF M ss = some ds → RpK K G vs ds
  | _, _, _, .nil, h => by cases h; exact .nil
  | (k, v) :: _, (k', s) :: r, _, .cons ⟨h0, h1⟩ h2, h => by
    have h0 : k = k' := h0
    subst h0
    unfold datsF at h
    split at h
    · rename_i d ds e1 e2; cases h; exact .cons (datN_ok ms h1 e1) (datsF_K ms h2 e2)
    · cases h
theorem datsF_T (ms : MS K Ad G M H) : ∀ {vs : List (List Key × V)} {ss : List (List Key × Sl)} {ds : List (List Key × D)}, RpSf K Ad G vs ss → datsF M ss = some ds → RpT K G vs ds
  | _, _, _, .nil, h => by cases h; exact .nil
  | (k, v) :: _, (k', s) :: r, _, .cons ⟨h0, h1⟩ h2, h => by
    have h0 : k = k' := h0
    subst h0
    unfold datsF at h
    split at h
    · rename_i d ds e1 e2; cases h; exact .cons (datN_ok ms h1 e1) (datsF_T ms h2 e2)
    · cases h
theorem datsF_F (ms : MS K Ad G M H) : ∀ {vs : List (Str × V)} {ss : List (Str × Sl)} {ds : List (Str × D)}, RpSf K Ad G vs ss → datsF M ss = some ds → RpF K G vs ds
  | _, _, _, .nil, h => by cases h; exact .nil
  | (k, v) :: _, (k', s) :: r, _, .cons ⟨h0, h1⟩ h2, h => by
    have h0 : k = k' := h0
    subst h0
    unfold datsF at h
    split at h
    · rename_i d ds e1 e2; cases h; exact .cons (datN_ok ms h1 e1) (datsF_F ms h2 e2)
    · cases h
/-- an object is told -/
theorem ms_tellM {j : Nat} {a : Addr} {m : MO} {u : HO} {d : D} (ms : MS K Ad G M H) (e1 : Ad[j]? = some a) (e2 : M[j]? = some m) (ga : G a = none) (hu : H a = some u) (hx : ∀ ob, u ≠ ObjX a ob) (hd : Rp K (upd G a u) (.ref a) d) :
    MS K Ad (upd G a u) (M.set j (.fz (some d))) H ∧ Grow Ad G H Ad (upd G a u) H := by
  have ex : Ex G (upd G a u) := Ex.new ga
  refine ⟨⟨fun b o q => ?_, by rw [List.length_set]; exact ms.len, ms.nd, fun i b mi f1 f2 => ?_, ms.dom⟩, ⟨ex, ⟨[], by simp, by simp⟩, fun _ _ h _ => h, fun b _ hn => upd_ne fun z => hn (z ▸ List.mem_of_getElem? e1), fun _ h => h⟩⟩
  · by_cases z : b = a
    · subst z; rw [upd_same] at q; cases q; exact .inl hu
    · rw [upd_ne z] at q; exact ms.le b o q
  · by_cases z : i = j
    · subst z
      rw [e1] at f1; cases f1
      rw [List.getElem?_set_self (List.getElem?_eq_some_iff.mp e2).1] at f2
      cases f2
      exact ⟨fun q => q.elim, ⟨u, upd_same, hx⟩, fun d' q => by cases q; exact hd⟩
    · rw [List.getElem?_set_ne (Ne.symm z)] at f2
      have nb : b ≠ a := fun q => z (ms.inj f1 (q ▸ e1))
      obtain ⟨q1, q2⟩ := ms.mo i b mi f1 f2
      exact ⟨fun y => by rw [upd_ne nb]; exact q1 y, q2.mono ex (fun _ _ y => y) rfl⟩
theorem fz1_ok {v : V} {s : Sl} {d : D} {M' : List MO} (ms : MS K Ad G M H) (r : RpS K Ad G v s) (h : fz1 M s = some (d, M')) : ∃ G', MS K Ad G' M' H ∧ Grow Ad G H Ad G' H ∧ Rp K G' v d := by
  cases s with
  | dat f => cases h; exact ⟨G, ms, Grow.refl _ _ _, r⟩
  | mu j =>
    unfold fz1 at h
    dsimp only at h
    split at h
    · rename_i m hm
      split at h
      · rename_i f hf
        cases h
        obtain ⟨a, h1, rfl⟩ := r
        obtain ⟨q1, q2⟩ := ms.mo j a _ h1 hm
        cases m with
        | lst xs =>
          obtain ⟨vs, e1, e2⟩ := q2
          cases hx : datsN M xs with
          | none => unfold fzO at hf; dsimp only at hf; rw [hx] at hf; cases hf
          | some ds =>
            unfold fzO at hf; dsimp only at hf; rw [hx] at hf; cases hf
            obtain ⟨m2, g2⟩ := ms_tellM ms h1 hm (q1 trivial) e1 (fun ob z => by unfold ObjX at z; cases z) (.lst upd_same (Rps.mono (Ex.new (q1 trivial)) (datsN_ok ms e2 hx)))
            exact ⟨_, m2, g2, .lst upd_same (Rps.mono (Ex.new (q1 trivial)) (datsN_ok ms e2 hx))⟩
        | dK xs =>
          obtain ⟨vs, e1, e2⟩ := q2
          cases hx : datsF M xs with
          | none => unfold fzO at hf; dsimp only at hf; rw [hx] at hf; cases hf
          | some ds =>
            unfold fzO at hf; dsimp only at hf; rw [hx] at hf; cases hf
            obtain ⟨m2, g2⟩ := ms_tellM ms h1 hm (q1 trivial) e1 (fun ob z => by unfold ObjX at z; cases z) (.dK (.inl upd_same) (RpK.mono (Ex.new (q1 trivial)) (datsF_K ms e2 hx)))
            exact ⟨_, m2, g2, .dK (.inl upd_same) (RpK.mono (Ex.new (q1 trivial)) (datsF_K ms e2 hx))⟩
        | dT xs =>
          obtain ⟨vs, e1, e2⟩ := q2
          cases hx : datsF M xs with
          | none => unfold fzO at hf; dsimp only at hf; rw [hx] at hf; cases hf
          | some ds =>
            unfold fzO at hf; dsimp only at hf; rw [hx] at hf; cases hf
            obtain ⟨m2, g2⟩ := ms_tellM ms h1 hm (q1 trivial) e1 (fun ob z => by unfold ObjX at z; cases z) (.dT (.inl upd_same) (RpT.mono (Ex.new (q1 trivial)) (datsF_T ms e2 hx)))
            exact ⟨_, m2, g2, .dT (.inl upd_same) (RpT.mono (Ex.new (q1 trivial)) (datsF_T ms e2 hx))⟩
        | ins c xs =>
          obtain ⟨dx, vs, e1, e2⟩ := q2
          cases hx : datsF M xs with
          | none => unfold fzO at hf; dsimp only at hf; rw [hx] at hf; cases hf
          | some ds =>
            unfold fzO at hf; dsimp only at hf; rw [hx] at hf; cases hf
            obtain ⟨m2, g2⟩ := ms_tellM ms h1 hm (q1 trivial) e1 (fun ob z => by unfold ObjX at z; cases z) (.ins upd_same (RpF.mono (Ex.new (q1 trivial)) (datsF_F ms e2 hx)))
            exact ⟨_, m2, g2, .ins upd_same (RpF.mono (Ex.new (q1 trivial)) (datsF_F ms e2 hx))⟩
        | fz o =>
          cases o with
          | none => cases hf
          | some f =>
            cases hf
            have e : M.set j (.fz (some d)) = M := by
              refine List.ext_getElem? fun i => ?_
              by_cases z : i = j
              · subst z; rw [List.getElem?_set_self (List.getElem?_eq_some_iff.mp hm).1, hm]
              · rw [List.getElem?_set_ne (Ne.symm z)]
            rw [e]
            exact ⟨G, ms, Grow.refl _ _ _, q2.2 d rfl⟩
        | hand => cases hf
        | tab q => cases hf
      · cases h
    · cases h
  | _ => cases h
theorem fzL_ok : ∀ {vs : List V} {ss : List Sl} {G : Hp} {M : List MO} {ds : List D} {M' : List MO}, MS K Ad G M H → RpSs K Ad G vs ss → fzL M ss = some (ds, M') → ∃ G', MS K Ad G' M' H ∧ Grow Ad G H Ad G' H ∧ Rps K G' vs ds
  | _, _, G, M, _, _, ms, .nil, h => by cases h; exact ⟨G, ms, Grow.refl _ _ _, .nil⟩
  | _, s :: r, G, M, _, _, ms, .cons h1 h2, h => by
    unfold fzL at h
    split at h
    · rename_i d M1 e1
      split at h
      · rename_i ds M2 e2
        cases h
        obtain ⟨G1, m1, g1, r1⟩ := fz1_ok ms h1 e1
        obtain ⟨G2, m2, g2, r2⟩ := fzL_ok m1 (RpSs.grow g1 h2) e2
        exact ⟨G2, m2, g1.trans g2, .cons (r1.mono g2.ex) r2⟩
      · cases h
    · cases h
end

/-! ### displays -/
def eTup (f : CA) : CE := fun ρ => (f ρ).bind fun ss => ofM fun M => match fzL M ss with
  | some (ds, M') => if ds.length ≤ sizeLine then some (.dat (.tup ds), M') else none
  | none => none
/-- a written list: data, or one that will change -/
def eLst (m : Bool) (f : CA) : CE := fun ρ => (f ρ).bind fun ss => ofM fun M => if ss.length ≤ sizeLine then (if m then some (.mu M.length, M ++ [.lst ss]) else match fzL M ss with
  | some (ds, M') => some (.dat (.lst ds), M')
  | none => none) else none
section
variable {X : Cx} {W : WX} {a b c e o : Expr} {es : List Expr} {fa fb fc : CE} {fs : CA} {ft gt : CT} {pos p2 apos p : Pos}
theorem se_tup {k : Nat} (h1 : SA X W es fs) : SE X W (.Tuple es k pos) (eTup fs) := ⟨fun ρ M Ad G σ H Q ms en h =>
  toE (pe_tup pa_w) (h1.seq ms en h fun Ad1 G1 M1 H1 vs ss g1 m1 r1 w1 => by
    obtain ⟨s, M', e, q⟩ := wp_ofM.mp w1
    split at e
    · rename_i ds M2 e1
      split at e
      · rename_i hz
        cases e
        obtain ⟨G2, m2, g2, r2⟩ := fzL_ok m1 r1 e1
        refine ⟨by rw [r2.length]; exact hz, fun l hl => ?_⟩
        exact new_tup m2 r2 (fun Ad' G' H' v g m r => q Ad' G' H' v (g2.trans g) m r) hl
      · cases e
    · cases e)⟩
theorem se_lst (m : Bool) (h1 : SA X W es fs) : SE X W (.List es pos) (eLst m fs) := ⟨fun ρ M Ad G σ H Q ms en h =>
  toE (pe_lst pa_w) (h1.seq ms en h fun Ad1 G1 M1 H1 vs ss g1 m1 r1 w1 => by
    obtain ⟨s, M', e, q⟩ := wp_ofM.mp w1
    split at e
    · rename_i hz
      refine ⟨by rw [r1.length]; exact hz, fun l hl => ?_⟩
      cases m with
      | true =>
        rw [if_pos rfl] at e
        cases e
        exact new_mu m1 r1 (fun Ad' G' H' v g m r => q Ad' G' H' v g m r) hl
      | false =>
        rw [if_neg (by decide)] at e
        split at e
        · rename_i ds M2 e1
          cases e
          obtain ⟨G2, m2, g2, r2⟩ := fzL_ok m1 r1 e1
          exact new_lst m2 r2 (fun Ad' G' H' v g m r => q Ad' G' H' v (g2.trans g) m r) hl
        · cases e
    · cases e)⟩

/-! ### items, slices -/
def ixV (M : List MO) (x y : Sl) : Option (Sl × List MO) := match y with
  | .dat (.int i) => match x with
    | .dat (.str z) => if z.length ≤ sizeLine then (atI z.cps.toList i).map fun c => (.dat (.str ⟨#[c]⟩), M) else none
    | .dat (.tup ds) => (atI ds i).map fun d => (.dat d, M)
    | .dat (.lst ds) => (atI ds i).map fun d => (.dat d, M)
    | .mu j => match M[j]? with
      | some (.lst xs) => (atI xs i).map fun s => (nrm M s, M)
      | _ => none
    | _ => none
  | _ => none
theorem ixV_ok : V2 X (wIx X) ixV := by
  intro x y M s M' Ad G H vx vy Q h ms rx ry q
  unfold ixV at h
  split at h
  · rename_i i
    have ey := rp_int ry
    split at h
    · split at h
      · rename_i z hz
        cases e : atI z.cps.toList i with
        | none => rw [e] at h; cases h
        | some c => rw [e] at h; cases h; exact ⟨_, ix_str, z, i, c, rp_str rx, ey, hz, e, q _ _ _ _ (Grow.refl _ _ _) ms rs_str⟩
      · cases h
    · rename_i ds
      cases e : atI ds i with
      | none => rw [e] at h; cases h
      | some d =>
        rw [e] at h; cases h
        obtain ⟨p, vs, e4, e5, e6⟩ := tup_at ms.le rx rfl
        obtain ⟨v, e7, e8⟩ := atI_pair e6 (atI_dat e)
        exact ⟨_, ix_tup, p, vs, i, v, e4, ey, e5, e7, q _ _ _ _ (Grow.refl _ _ _) ms e8⟩
    · rename_i ds
      cases e : atI ds i with
      | none => rw [e] at h; cases h
      | some d =>
        rw [e] at h; cases h
        obtain ⟨p, vs, e4, e5, e6⟩ := lst_at ms rx rfl
        obtain ⟨v, e7, e8⟩ := atI_pair e6 (atI_dat e)
        exact ⟨_, ix_list, p, vs, i, v, e4, ey, SqL.of e5, e7, q _ _ _ _ (Grow.refl _ _ _) ms e8⟩
    · rename_i j
      split at h
      · rename_i xs hm
        cases e : atI xs i with
        | none => rw [e] at h; cases h
        | some t =>
          rw [e] at h; cases h
          obtain ⟨p, vs, e4, e5, e6⟩ := lst_at ms rx (show lstOf M (.mu j) = some xs by unfold lstOf; dsimp only; rw [hm])
          obtain ⟨v, e7, e8⟩ := atI_pair e6 e
          exact ⟨_, ix_list, p, vs, i, v, e4, ey, SqL.of e5, e7, q _ _ _ _ (Grow.refl _ _ _) ms (nrm_ok ms e8)⟩
      · cases h
    · cases h
  · cases h
theorem se_ix (h1 : SE X W a fa) (h2 : SE X W b fb) (hs : PlainIx b := by intro _ _; rfl) : SE X W (.Subscript a b pos) (eOp2 ixV fa fb) := se_op2 (pe_ix ix_w pe_w pe_w hs) h1 h2 ixV_ok
/-- a bound of a slice -/
def CO : Type := List Sl → Ev (Option Int)
def oNone : CO := fun _ => ok none
def oSome (f : CE) : CO := fun ρ => (f ρ).bind fun s => match s with
  | .dat (.int i) => ok (some i)
  | _ => bad
structure SO (X : Cx) (W : WX) (e : Option Expr) (f : CO) : Prop where
  run : ∃ t : TO, PO X e t ∧ ∀ ρ M Ad G σ H (Q : Option Int → Hp → Prop), MS X.K Ad G M H → EnvR X.K Ad G σ ρ → wp (f ρ M) (Po X W (fun _ _ b a => b = a) Q σ Ad G H) → t σ H Q
theorem so_none : SO X W none oNone := ⟨_, po_none, fun ρ M Ad G σ H Q ms en h => h Ad G H _ (Grow.refl _ _ _) ms rfl⟩
theorem so_some (h1 : SE X W e fa) : SO X W (some e) (oSome fa) := ⟨_, po_some pe_w, fun ρ M Ad G σ H Q ms en h => h1.seq ms en h fun Ad1 G1 M1 H1 v s g1 m1 r1 w1 => by
  split at w1
  · exact ⟨_, rp_int r1, w1 Ad1 G1 H1 _ (Grow.refl _ _ _) m1 rfl⟩
  · exact w1.elim⟩
def slV (M : List MO) (x : Sl) (l u : Option Int) : Option (Sl × List MO) := match x with
  | .dat (.str z) => if z.length ≤ sizeLine then some (.dat (.str (cutS z l u)), M) else none
  | .dat (.scr ns) => some (.dat (.lst ((cutD ns l u).map .int)), M)
  | .dat (.tup ds) => some (.dat (.tup (cutD ds l u)), M)
  | s => match lstD M s with
    | some ds => some (.dat (.lst (cutD ds l u)), M)
    | none => none
theorem slV_ok {x : Sl} {l u : Option Int} {M M' : List MO} {s : Sl} {Ad : List Addr} {G H : Hp} {vx : V} {Q : VK} (h : slV M x l u = some (s, M')) (ms : MS X.K Ad G M H) (r1 : RpS X.K Ad G vx x) (q : ∀ Ad' G' H' v, Grow Ad G H Ad' G' H' → MS X.K Ad' G' M' H' → RpS X.K Ad' G' v s → Q v H') : wSl X vx l u H Q := by
  unfold slV at h
  split at h
  · split at h
    · rename_i hz; cases h; exact ⟨_, sl_str, _, rp_str r1, hz, q _ _ _ _ (Grow.refl _ _ _) ms rs_str⟩
    · cases h
  · rename_i ns
    cases h
    cases r1 with
    | scr hq =>
      refine ⟨_, sl_list, _, _, rfl, ms.le.l hq, fun pl hl => ?_⟩
      have e : cutV (ns.map V.int) l u = (cutD ns l u).map V.int := by unfold cutV cutD; rw [List.length_map, List.map_take, List.map_drop]
      rw [e]
      exact new_lst ms (rps_ints _) q hl
  · rename_i ds
    cases h
    obtain ⟨p, vs, e1, e2, e3⟩ := tup_at (Ad := Ad) ms.le r1 rfl
    have hl : vs.length = ds.length := by rw [e3.length, List.length_map]
    have rr : Rps X.K G (cutV vs l u) (cutD ds l u) := by
      unfold cutV cutD
      rw [hl]
      exact Rps.take _ (Rps.drop _ (RpSs.toRps e3))
    refine ⟨_, sl_tupA, p, vs, e1, e2, fun hw => ?_, fun hw p hp => ?_⟩
    · have : cutD ds l u = ds := by unfold cutD; rw [← hl, hw.1, hw.2]; simp [hl]
      exact q _ _ _ _ (Grow.refl _ _ _) ms (by rw [this, ← e1]; exact r1)
    · exact new_tup ms rr q hp
  · split at h
    · rename_i ds hd
      cases h
      obtain ⟨p, vs, e1, e2, e3⟩ := lst_at ms r1 (lstD_ok hd)
      refine ⟨_, sl_list, p, vs, e1, SqL.of e2, fun pl hl => ?_⟩
      refine new_lst ms ?_ q hl
      unfold cutV cutD
      rw [e3.length, List.length_map]
      exact Rps.take _ (Rps.drop _ (RpSs.toRps e3))
    · cases h
def eSl (f : CE) (g h : CO) : CE := fun ρ => (f ρ).bind fun x => Ev.bind (g ρ) fun l => Ev.bind (h ρ) fun u => ofM fun M => slV M x l u
theorem se_slice {lo hi : Option Expr} {g h : CO} (h1 : SE X W e fa) (h2 : SO X W lo g) (h3 : SO X W hi h) : SE X W (.Subscript e (.Slice lo hi none p2) pos) (eSl fa g h) := by
  obtain ⟨t2, p2', q2⟩ := h2.run
  obtain ⟨t3, p3', q3⟩ := h3.run
  refine ⟨fun ρ M Ad G σ H Q ms en w => toE (pe_slice sl_w pe_w p2' p3') (h1.seq ms en w fun Ad1 G1 M1 H1 v1 x g1 m1 r1 w1 => ?_)⟩
  refine q2 ρ M1 Ad1 G1 σ H1 _ m1 (en.grow g1) (wp_mono (fun r hr => ?_) (wp_evbind.mp w1))
  cases r with
  | ex c fs M2 => exact hr
  | ok l M2 =>
    intro Ad2 G2 H2 b g2 m2 hb
    subst hb
    refine q3 ρ M2 Ad2 G2 σ H2 _ m2 (en.grow (g1.trans g2)) (wp_mono (fun r hr => ?_) (wp_evbind.mp hr))
    cases r with
    | ex c fs M3 => exact PX.shift g2 hr
    | ok u M3 =>
      intro Ad3 G3 H3 b' g3 m3 hb
      subst hb
      obtain ⟨s, M', e, q⟩ := wp_ofM.mp (show wp (ofM (fun M => slV M x b b') M3) _ from hr)
      exact slV_ok e m3 ((r1.grow g2).grow g3) fun Ad4 G4 H4 v g4 m4 r4 => q _ _ _ _ ((g2.trans g3).trans g4) m4 r4

/-! ### texts -/
def fmtV (M : List MO) : Sl → Option (Sl × List MO)
  | .dat (.str y) => if y.length ≤ sizeLine then some (.dat (.str y), M) else none
  | .dat (.int i) => if i.natAbs.log2 < 1920 then some (.dat (.str (toString i)), M) else none
  | _ => none
theorem se_fmt (h1 : SE X W e fa) : SE X W (.FormattedValue e (-1) none pos) (eOp1 fmtV fa) := ⟨fun ρ M Ad G σ H Q ms en h =>
  toE (pe_fmt pe_w) (h1.seq ms en h fun Ad1 G1 M1 H1 v s g1 m1 r1 w1 => by
    obtain ⟨t, M', e, q⟩ := wp_ofM.mp w1
    unfold fmtV at e
    split at e
    · split at e
      · rename_i hz; cases e; exact .inl ⟨_, rp_str r1, hz, q _ _ _ _ (Grow.refl _ _ _) m1 rs_str⟩
      · cases e
    · split at e
      · rename_i hz; cases e; exact .inr ⟨_, rp_int r1, hz, q _ _ _ _ (Grow.refl _ _ _) m1 rs_str⟩
      · cases e
    · cases e)⟩
def asS : Sl → Ev Str
  | .dat (.str y) => ok y
  | _ => bad
theorem wp_asS {s : Sl} {M : List MO} {Q : Re Str → Prop} (h : wp (asS s M) Q) : ∃ b, s = .dat (.str b) ∧ Q (.ok b M) := by
  unfold asS at h
  split at h
  · exact ⟨_, rfl, h⟩
  · exact h.elim
def jsL : List CE → Str → CE
  | [], acc, _ => ok (.dat (.str acc))
  | f :: fs, acc, ρ => (f ρ).bind fun s => (asS s).bind fun y => if (acc ++ y).length ≤ sizeLine then jsL fs (acc ++ y) ρ else bad
theorem pj_w : ∀ es : List Expr, PJ X es (es.map (wE X))
  | [] => .nil
  | _ :: es => .cons pe_w (pj_w es)
inductive SEs (X : Cx) (W : WX) : List Expr → List CE → Prop
  | nil : SEs X W [] []
  | cons {e : Expr} {es : List Expr} {f : CE} {fs : List CE} : SE X W e f → SEs X W es fs → SEs X W (e :: es) (f :: fs)
theorem js_run {ρ : List Sl} : ∀ (es : List Expr) (fs : List CE) (acc : Str) (M : List MO), SEs X W es fs → ∀ Ad G σ H (Q : VK), MS X.K Ad G M H → EnvR X.K Ad G σ ρ → wp (jsL fs acc ρ M) (Po X W (RpS X.K) Q σ Ad G H) → tJs (es.map (wE X)) acc σ H fun z H' => Q (.str z) H'
  | [], _, acc, M, .nil, Ad, G, σ, H, Q, ms, en, h => h Ad G H _ (Grow.refl _ _ _) ms rs_str
  | e :: es, f :: fs, acc, M, .cons h1 h2, Ad, G, σ, H, Q, ms, en, h => by
    refine h1.seq ms en h fun Ad1 G1 M1 H1 v s g1 m1 r1 w1 => ?_
    obtain ⟨y, rfl, w2⟩ := wp_asS (wp_evbind.mp w1)
    have w2 : wp ((if (acc ++ y).length ≤ sizeLine then jsL fs (acc ++ y) ρ else bad) M1) (Po X W (RpS X.K) Q σ Ad1 G1 H1) := w2
    split at w2
    · rename_i hz
      exact ⟨y, rp_str r1, hz, js_run es fs (acc ++ y) M1 h2 Ad1 G1 σ H1 Q m1 (en.grow g1) w2⟩
    · exact w2.elim
theorem se_js {e1 e2 : Expr} {fs : List CE} (h : SEs X W (e1 :: e2 :: es) fs) : SE X W (.JoinedStr (e1 :: e2 :: es) pos) (jsL fs Str.empty) := ⟨fun ρ M Ad G σ H Q ms en w =>
  toE (pe_joined (pj_w _)) (js_run _ fs _ M h Ad G σ H Q ms en w)⟩
end
end R

set_option Elab.async false
set_option linter.all false
set_option maxRecDepth 100000
set_option maxHeartbeats 4000000
namespace R
open PySem PySem.Spec PyProof.Rows L2
variable [Keys]

/-- slots may be forgotten -/
def LeS : List Sl → List Sl → Prop
  | [], [] => True
  | a :: as, b :: bs => (b = .un ∨ a = b) ∧ LeS as bs
  | _, _ => False
theorem LeS.refl : ∀ ρ : List Sl, LeS ρ ρ
  | [] => trivial
  | _ :: r => ⟨.inr rfl, LeS.refl r⟩
theorem LeS.len : ∀ {ρ τ : List Sl}, LeS ρ τ → ρ.length = τ.length
  | [], [], _ => rfl
  | _ :: _, _ :: _, h => congrArg Nat.succ (LeS.len h.2)
  | [], _ :: _, h => h.elim
  | _ :: _, [], h => h.elim
theorem LeS.get : ∀ {ρ τ : List Sl} {i : Nat} {s : Sl}, LeS ρ τ → τ[i]? = some s → s = .un ∨ ρ[i]? = some s
  | [], [], _, _, _, e => by simp at e
  | _ :: _, _ :: _, 0, s, h, e => by
    simp at e; subst e
    exact h.1.imp id fun z => by simp [z]
  | _ :: _, _ :: _, i + 1, s, h, e => by
    simpa using LeS.get h.2 (by simpa using e)
  | [], _ :: _, _, _, h, _ => h.elim
  | _ :: _, [], _, _, h, _ => h.elim
theorem EnvR.le {K : PySem.W.Frag} {Ad : List Addr} {G : Hp} {σ : L2.St} {ρ τ : List Sl} (h : EnvR K Ad G σ ρ) (l : LeS ρ τ) : EnvR K Ad G σ τ :=
  ⟨h.len.trans l.len, fun i s e => (l.get e).elim .inl fun z => h.at_ i s z⟩
def Touch (ts : List Nat) (σ σ' : L2.St) : Prop := ∀ ws : List Nat, (∀ i ∈ ts, i ∈ ws) → wipe σ' ws = wipe σ ws
theorem wipe_set {i : Nat} {x : Option V} : ∀ (σ : L2.St) (ws : List Nat), i ∈ ws → wipe (σ.set i x) ws = wipe σ ws
  | σ, [], h => by simp at h
  | σ, w :: ws, h => by
    unfold wipe
    by_cases hi : i ∈ ws
    · rw [wipe_set σ ws hi]
    · have e : i = w := by simpa [hi] using h
      subst e
      have z : ∀ ws : List Nat, i ∉ ws → wipe (σ.set i x) ws = (wipe σ ws).set i x := by
        intro ws
        induction ws with
        | nil => intro _; rfl
        | cons w ws ih =>
          intro hn
          unfold wipe
          rw [ih (fun q => hn (List.mem_cons_of_mem _ q)), List.set_comm _ _ (fun q => hn (by rw [← q]; exact List.mem_cons_self))]
      rw [z ws hi, List.set_set]
theorem touch_name {i : Nat} {x : Option V} {σ : L2.St} : Touch [i] σ (σ.set i x) := fun ws h => wipe_set σ ws (h i (by simp))
theorem Touch.app {ts us : List Nat} {σ σ1 σ2 : L2.St} (a : Touch ts σ σ1) (b : Touch us σ1 σ2) : Touch (ts ++ us) σ σ2 := fun ws h =>
  (b ws fun i hi => h i (List.mem_append_right _ hi)).trans (a ws fun i hi => h i (List.mem_append_left _ hi))
def wGs (X : Cx) (ts : List Expr) : TGs := fun vs σ H Q => ∀ pins s us, Inv X pins σ H s → Vals vs us → wpAny (model X.prog X.w) X.A (assignInOrder ((assignEach ts X.env).map (·.2)) us) (fun _ s' => ∃ σ' H', Inv X pins σ' H' s' ∧ Q σ' H') X.xe s
theorem pgs_w : PGs X es (wGs X es) := ⟨fun pins s _ _ _ us _ I r h => h pins s us I r⟩
theorem toGs {t : TGs} (h : PGs X es t) {v σ H Q} (q : t v σ H Q) : wGs X es v σ H Q := fun pins s u I r => h.run pins s σ H v u Q I r q
def wipeS (ρ : List Sl) : List Nat → List Sl
  | [] => ρ
  | v :: vs => (wipeS ρ vs).set v .un
theorem EnvR.wipe {K : PySem.W.Frag} {Ad : List Addr} {G : Hp} {σ : L2.St} (h : EnvR K Ad G σ ρ) : ∀ vs : List Nat, EnvR K Ad G (wipe σ vs) (wipeS ρ vs)
  | [] => h
  | v :: vs => by
    have r := EnvR.wipe h vs
    refine ⟨by unfold L2.wipe wipeS; rw [List.length_set, List.length_set]; exact r.len, fun i s e => ?_⟩
    unfold wipeS at e
    unfold L2.wipe
    by_cases hv : v = i
    · subst hv
      rw [List.getElem?_set] at e
      split at e
      · split at e
        · cases e; exact .inl rfl
        · cases e
      · exact absurd rfl ‹_›
    · rw [List.getElem?_set_ne hv] at e ⊢
      exact r.at_ i s e

/-! ### targets -/
abbrev CG : Type := Sl → List Sl → Option (List Sl)
structure GT (X : Cx) (tg : Expr) (ts : List Nat) (f : CG) : Prop where
  run : ∀ s ρ ρ' Ad G σ H v, f s ρ = some ρ' → Le G H → EnvR X.K Ad G σ ρ → RpS X.K Ad G v s → ∀ Q : L2.St → Hp → Prop, (∀ σ', EnvR X.K Ad G σ' ρ' → Touch ts σ σ' → Q σ' H) → wG X tg v σ H Q
structure GTs (X : Cx) (tg : List Expr) (ts : List Nat) (f : List D → List Sl → Option (List Sl)) : Prop where
  run : ∀ ds ρ ρ' Ad G σ H vs, f ds ρ = some ρ' → Le G H → EnvR X.K Ad G σ ρ → Rps X.K G vs ds → ∀ Q : L2.St → Hp → Prop, (∀ σ', EnvR X.K Ad G σ' ρ' → Touch ts σ σ' → Q σ' H) → wGs X tg vs σ H Q
def gNm (i : Nat) : CG := fun s ρ => some (ρ.set i s)
def gsNil : List D → List Sl → Option (List Sl)
  | [], ρ => some ρ
  | _ :: _, _ => none
def gsCons (f : CG) (g : List D → List Sl → Option (List Sl)) : List D → List Sl → Option (List Sl)
  | [], _ => none
  | d :: ds, ρ => match f (.dat d) ρ with
    | some ρ1 => g ds ρ1
    | none => none
def gTp (n : Nat) (f : List D → List Sl → Option (List Sl)) : CG := fun s ρ => match s with
  | .dat (.tup ds) => if ds.length = n then f ds ρ else none
  | _ => none
section
variable {X : Cx} {W : WX} {tg e a b o it : Expr} {es : List Expr} {ts us : List Nat} {f : CG} {g : List D → List Sl → Option (List Sl)} {pos p' : Pos} {fa fb fc : CE} {fs : CA} {ft : CT} {st : Stmt} {sts body orelse : List Stmt} {fst gst : CS}
theorem gt_nm {x : Str} {i : Nat} (F : LFx X x i) : GT X (.Name x pos) [i] (gNm i) := ⟨fun s ρ ρ' Ad G σ H v h le en r Q q => by
  cases h
  exact toG (pg_name F.nd F.ix F.loc F.fn) (q _ (en.set r) touch_name)⟩
theorem gs_nil : GTs X [] [] gsNil := ⟨fun ds ρ ρ' Ad G σ H vs h le en r Q q => by
  cases ds with
  | nil => cases h; cases r; exact toGs pgs_nil ⟨rfl, q _ en fun _ _ => rfl⟩
  | cons d ds => cases h⟩
theorem gs_cons (h1 : GT X e ts f) (h2 : GTs X es us g) (hs : (assignEach (e :: es) X.env).map (·.2) = assign e X.env :: (assignEach es X.env).map (·.2) := by rfl) : GTs X (e :: es) (ts ++ us) (gsCons f g) := ⟨fun ds ρ ρ' Ad G σ H vs h le en r Q q => by
  cases ds with
  | nil => cases h
  | cons d ds =>
    cases r with
    | cons r rr =>
      unfold gsCons at h
      dsimp only at h
      split at h
      · rename_i ρ1 e1
        exact toGs (pgs_cons pg_w pgs_w hs) ⟨_, _, rfl, h1.run (.dat d) ρ ρ1 Ad G σ H _ e1 le en r _ fun σ1 en1 tc1 => h2.run ds ρ1 ρ' Ad G σ1 H _ h le en1 rr Q fun σ2 en2 tc2 => q σ2 en2 (tc1.app tc2)⟩
      · cases h⟩
theorem gt_tp {k n : Nat} (h1 : GTs X es ts g) (hc : X.calm = true) (hn : (assignEach es X.env).length = n := by rfl) (hst : (assignEach es X.env).findIdx? (·.1) = none := by rfl) : GT X (.Tuple es k pos) ts (gTp n g) := ⟨fun s ρ ρ' Ad G σ H v h le en r Q q => by
  unfold gTp at h
  split at h
  · rename_i ds
    split at h
    · rename_i hl
      obtain ⟨p, vs, e1, e2, e3⟩ := tup_at (Ad := Ad) le r rfl
      subst e1
      have e4 : Rps X.K G vs ds := RpSs.toRps e3
      exact toG (pg_tup hc pgs_w hn hst) ⟨p, vs, rfl, e2, by rw [e4.length, hl], h1.run ds ρ ρ' Ad G σ H vs h le en e4 Q q⟩
    · cases h
  · cases h⟩

/-! ### small statements -/
def sNil : CS := fun ρ => ok (.nx ρ)
def seqK (g : CS) : Fl → Ev Fl
  | .nx ρ => g ρ
  | r => ok r
def sSeq (f g : CS) : CS := fun ρ => (f ρ).bind (seqK g)
def sSet (i : Nat) (f : CE) : CS := fun ρ => (f ρ).bind fun s => ok (.nx (ρ.set i s))
def sTgt (g : CG) (f : CE) : CS := fun ρ => (f ρ).bind fun s => ofO ((g s ρ).map .nx)
def sPar2 (i j : Nat) (f g : CE) : CS := fun ρ => (f ρ).bind fun s => (g ρ).bind fun t => ok (.nx ((ρ.set i s).set j t))
def sPar3 (i j l : Nat) (f g h : CE) : CS := fun ρ => (f ρ).bind fun s => (g ρ).bind fun t => (h ρ).bind fun u => ok (.nx (((ρ.set i s).set j t).set l u))
def sRet (f : CE) : CS := fun ρ => (f ρ).bind fun s => ok (.rt s)
def sRetN : CS := fun _ => ok (.rt (.dat .non))
def sExpr (f : CE) : CS := fun ρ => (f ρ).bind fun _ => ok (.nx ρ)
def sIf (c : CT) (f g : CS) : CS := fun ρ => (c ρ).bind fun b => if b then f ρ else g ρ
def sBrk : CS := fun ρ => ok (.bk ρ)
def sCnt : CS := fun ρ => ok (.ct ρ)
/-- some slots forgotten behind -/
def fgtF (vs : List Nat) : Fl → Fl
  | .nx ρ => .nx (wipeS ρ vs)
  | .bk ρ => .bk (wipeS ρ vs)
  | .ct ρ => .ct (wipeS ρ vs)
  | r => r
def sFgt (vs : List Nat) (f : CS) : CS := fun ρ => (f ρ).bind fun r => ok (fgtF vs r)
theorem LeS.set : ∀ {ρ τ : List Sl} (i : Nat), LeS ρ τ → LeS ρ (τ.set i .un)
  | [], [], _, h => h
  | _ :: _, _ :: _, 0, h => ⟨.inl rfl, h.2⟩
  | _ :: _, _ :: _, i + 1, h => ⟨h.1, LeS.set i h.2⟩
  | [], _ :: _, _, h => h.elim
  | _ :: _, [], _, h => h.elim
theorem LeS.wipe (ρ : List Sl) : ∀ vs : List Nat, LeS ρ (wipeS ρ vs)
  | [] => LeS.refl ρ
  | v :: vs => (LeS.wipe ρ vs).set v
theorem sb_nil : SB X W [] sNil := ⟨fun ρ M Ad G σ H D ms en h => toB pss_nil (h Ad G H σ (Grow.refl _ _ _) ms en)⟩
theorem sb_cons (h1 : SS X W st fst) (h2 : SB X W sts gst) : SB X W (st :: sts) (sSeq fst gst) := ⟨fun ρ M Ad G σ H D ms en h =>
  toB (pss_cons ps_w pss_w) (h1.run ρ M Ad G σ H { D with nx := wB X sts D } ms en (wp_mono (fun r hr => by
    cases r with
    | ex c fs M1 => exact hr
    | ok a M1 =>
      cases a with
      | nx ρ1 => exact fun Ad1 G1 H1 σ1 g1 m1 e1 => h2.run ρ1 M1 Ad1 G1 σ1 H1 D m1 e1 (wp_mono (fun _ => PoS.shift g1) (show wp (gst ρ1 M1) _ from hr))
      | rt s => exact hr
      | bk ρ1 => exact hr
      | ct ρ1 => exact hr) (wp_evbind.mp h)))⟩
theorem sb_one (h1 : SS X W st fst) : SB X W [st] fst := ⟨fun ρ M Ad G σ H D ms en h => toB (pss_one ps_w) (h1.run ρ M Ad G σ H D ms en h)⟩
theorem ss_fgt (vs : List Nat) (h1 : SS X W st fst) : SS X W st (sFgt vs fst) := ⟨fun ρ M Ad G σ H D ms en h =>
  h1.run ρ M Ad G σ H D ms en (wp_mono (fun r hr => by
    cases r with
    | ex c fs M1 => exact hr
    | ok a M1 =>
      cases a with
      | nx ρ1 => exact fun Ad1 G1 H1 σ1 g1 m1 e1 => hr Ad1 G1 H1 σ1 g1 m1 (e1.le (LeS.wipe ρ1 vs))
      | rt s => exact hr
      | bk ρ1 => exact fun Ad1 G1 H1 σ1 g1 m1 e1 => hr Ad1 G1 H1 σ1 g1 m1 (e1.le (LeS.wipe ρ1 vs))
      | ct ρ1 => exact fun Ad1 G1 H1 σ1 g1 m1 e1 => hr Ad1 G1 H1 σ1 g1 m1 (e1.le (LeS.wipe ρ1 vs))) (wp_evbind.mp h))⟩
theorem ss_set {x : Str} {i : Nat} {px : Pos} (F : LFx X x i) (h1 : SE X W e fa) (hs : swapsWith e (some (.Name x px)) pos.line X.env = pure false := by rfl) : SS X W (.Assign [.Name x px] e pos) (sSet i fa) := ⟨fun ρ M Ad G σ H D ms en h =>
  toS (ps_set F.nd F.ix F.loc pe_w hs F.fn) (h1.seqS ms en h fun Ad1 G1 M1 H1 v s g1 m1 r1 w1 => w1 Ad1 G1 H1 _ (Grow.refl _ _ _) m1 ((en.grow g1).set r1))⟩
theorem ss_tgt (hg : GT X tg ts f) (h1 : SE X W e fa) (hs : swapsWithSole [tg] e pos.line X.env = pure false := by rfl) (hw : swappedStores [tg] e X.env = pure none := by rfl)
    (ha : (assignEach [tg] X.env).map (·.2) = [assign tg X.env] := by rfl) : SS X W (.Assign [tg] e pos) (sTgt f fa) := ⟨fun ρ M Ad G σ H D ms en h =>
  toS (ps_asg pe_w pg_w hs hw ha) (h1.seqS ms en h fun Ad1 G1 M1 H1 v s g1 m1 r1 w1 => by
    obtain ⟨a, e1, q⟩ := wp_ofO.mp w1
    cases hf : f s ρ with
    | none => rw [hf] at e1; cases e1
    | some ρ1 =>
      rw [hf] at e1; cases e1
      exact hg.run s ρ ρ1 Ad1 G1 σ H1 v hf m1.le (en.grow g1) r1 D.nx fun σ' en' _ => q Ad1 G1 H1 σ' (Grow.refl _ _ _) m1 en')⟩
theorem ss_par2 {i j : Nat} {x y : Str} {px py pt pt2 : Pos} {kt k2} (F1 : LFx X x i) (F2 : LFx X y j) (h1 : SE X W a fa) (h2 : SE X W b fb) (hc : X.calm = true) (hij : i ≠ j) (hx : X.env.scope.names.lookup x = some .local) (hy : X.env.scope.names.lookup y = some .local)
    (hs1 : starEach [a, b] X.env = (false, eval a X.env) :: starEach [b] X.env := by rfl) (hs2 : starEach [b] X.env = (false, eval b X.env) :: starEach [] X.env := by rfl)
    (hw : swappedStores [.Tuple [.Name x px, .Name y py] kt pt] (.Tuple [a, b] k2 pt2) X.env = pure (some [x, y]) := by rfl)
    (hs : swapsWithSole [.Tuple [.Name x px, .Name y py] kt pt] (.Tuple [a, b] k2 pt2) pos.line X.env = pure false := by rfl) :
    SS X W (.Assign [.Tuple [.Name x px, .Name y py] kt pt] (.Tuple [a, b] k2 pt2) pos) (sPar2 i j fa fb) := ⟨fun ρ M Ad G σ H D ms en h =>
  toS (ps_par hc F1.nd F1.ix F2.ix hij hx hy (pa_cons pe_w (pa_cons pe_w pa_nil hs2) hs1) hw hs) (h1.seqS ms en h fun Ad1 G1 M1 H1 v s g1 m1 r1 w1 => h2.seqS m1 (en.grow g1) w1 fun Ad2 G2 M2 H2 v2 t g2 m2 r2 w2 =>
    ⟨_, _, rfl, w2 Ad2 G2 H2 _ (Grow.refl _ _ _) m2 (((en.grow (g1.trans g2)).set (r1.grow g2)).set r2)⟩)⟩
theorem ss_ret (h1 : SE X W e fa) : SS X W (.Return (some e) pos) (sRet fa) := ⟨fun ρ M Ad G σ H D ms en h =>
  toS (ps_ret pe_w) (h1.seqS ms en h fun Ad1 G1 M1 H1 v s g1 m1 r1 w1 => w1 Ad1 G1 H1 v (Grow.refl _ _ _) m1 r1)⟩
theorem ss_retN : SS X W (.Return none pos) sRetN := ⟨fun ρ M Ad G σ H D ms en h => toS ps_retN (h Ad G H .non (Grow.refl _ _ _) ms rs_non)⟩
theorem ss_expr (h1 : SE X W e fa) (hs : swapsWith e none pos.line X.env = pure false := by rfl) : SS X W (.Expr e pos) (sExpr fa) := ⟨fun ρ M Ad G σ H D ms en h =>
  toS (ps_expr pe_w hs) (h1.seqS ms en h fun Ad1 G1 M1 H1 v s g1 m1 r1 w1 => w1 Ad1 G1 H1 σ (Grow.refl _ _ _) m1 (en.grow g1))⟩
theorem ss_if (h0 : ST X W e ft) (h1 : SB X W body fst) (h2 : SB X W orelse gst) : SS X W (.If e body orelse pos) (sIf ft fst gst) := ⟨fun ρ M Ad G σ H D ms en h =>
  toS (ps_if pt_w pss_w pss_w) (h0.seqS ms en h fun Ad1 G1 M1 H1 k g1 m1 w1 => by
    cases k with
    | true => exact iteT (h1.run ρ M1 Ad1 G1 σ H1 D m1 (en.grow g1) w1)
    | false => exact iteF (h2.run ρ M1 Ad1 G1 σ H1 D m1 (en.grow g1) w1))⟩
theorem ss_pass : SS X W (.Pass pos) sNil := ⟨fun ρ M Ad G σ H D ms en h => toS ps_pass (h Ad G H σ (Grow.refl _ _ _) ms en)⟩
theorem ss_brk : SS X W (.Break pos) sBrk := ⟨fun ρ M Ad G σ H D ms en h => toS ps_break (h Ad G H σ (Grow.refl _ _ _) ms en)⟩
theorem ss_cnt : SS X W (.Continue pos) sCnt := ⟨fun ρ M Ad G σ H D ms en h => toS ps_continue (h Ad G H σ (Grow.refl _ _ _) ms en)⟩

/-! ### what is walked -/
inductive Its : Type where
  | data (ds : List D)
  | live (n : Nat) (item : List MO → Nat → Option Sl) (fin : List MO → Bool)
def Its.n : Its → Nat
  | .data ds => ds.length
  | .live n _ _ => n
def Its.at_ : Its → List MO → Nat → Option Sl
  | .data ds, _, i => ds[i]?.map .dat
  | .live _ f _, M, i => f M i
/-- the end is reached -/
def Its.end_ : Its → List MO → Bool
  | .data _, _ => true
  | .live _ _ f, M => f M
/-- later: what is told stays, the objects too -/
structure Ltr (Ad : List Addr) (G : Hp) (Ad' : List Addr) (G' : Hp) : Prop where
  ex : Ex G G'
  pre : ∃ more, Ad' = Ad ++ more
theorem Grow.ltr {Ad Ad' : List Addr} {G H G' H' : Hp} (g : Grow Ad G H Ad' G' H') : Ltr Ad G Ad' G' := ⟨g.ex, let ⟨m, e, _⟩ := g.pre; ⟨m, e⟩⟩
theorem Ltr.refl (Ad : List Addr) (G : Hp) : Ltr Ad G Ad G := ⟨Ex.refl G, [], by simp⟩
theorem Ltr.trans {Ad Ad1 Ad2 : List Addr} {G G1 G2 : Hp} (a : Ltr Ad G Ad1 G1) (b : Ltr Ad1 G1 Ad2 G2) : Ltr Ad G Ad2 G2 := ⟨a.ex.trans b.ex, let ⟨m, e⟩ := a.pre; let ⟨n, f⟩ := b.pre; ⟨m ++ n, by rw [f, e, List.append_assoc]⟩⟩
theorem Ltr.get {Ad Ad' : List Addr} {G G' : Hp} (g : Ltr Ad G Ad' G') {j : Nat} {a : Addr} (h : Ad[j]? = some a) : Ad'[j]? = some a := by
  obtain ⟨m, e⟩ := g.pre
  rw [e, List.getElem?_append_left (List.getElem?_eq_some_iff.mp h).1]; exact h
theorem EnvR.ltr {K : PySem.W.Frag} {Ad Ad' : List Addr} {G G' : Hp} {σ : L2.St} {ρ : List Sl} (h : EnvR K Ad G σ ρ) (g : Ltr Ad G Ad' G') : EnvR K Ad' G' σ ρ := ⟨h.len, fun i s e => (h.at_ i s e).elim .inl fun ⟨v, e1, r⟩ => .inr ⟨v, e1, r.mono g.ex fun _ _ => g.get⟩⟩
structure WalkI (K : PySem.W.Frag) (J : It) (its : Its) (Ad : List Addr) (G : Hp) : Prop where
  goes : ∀ i Ad' G' M' H', i < its.n → Ltr Ad G Ad' G' → MS K Ad' G' M' H' → (its.at_ M' i).isSome = true → J.go i H'
  stops : ∀ Ad' G' M' H', Ltr Ad G Ad' G' → MS K Ad' G' M' H' → its.end_ M' = true → J.stop its.n H'
  yld : ∀ (i : Nat) Ad' G' M' H' x H2 s, i < its.n → Ltr Ad G Ad' G' → MS K Ad' G' M' H' → its.at_ M' i = some s → J.yld i H' x H2 → ∃ Gc, Pure G' H' Gc H2 ∧ RpS K Ad' Gc x s
theorem WalkI.shift {K : PySem.W.Frag} {J : It} {its : Its} {Ad Ad1 : List Addr} {G G1 : Hp} (w : WalkI K J its Ad G) (g : Ltr Ad G Ad1 G1) : WalkI K J its Ad1 G1 :=
  ⟨fun i _ _ _ _ h g' => w.goes i _ _ _ _ h (g.trans g'), fun _ _ _ _ g' => w.stops _ _ _ _ (g.trans g'), fun i _ _ _ _ _ _ _ h g' => w.yld i _ _ _ _ _ _ _ h (g.trans g')⟩
abbrev CI : Type := List Sl → Ev Its
structure SI (X : Cx) (W : WX) (tg it : Expr) (f : CI) : Prop where
  run : ∀ ρ M Ad G σ H (R : It → Hp → Prop), MS X.K Ad G M H → EnvR X.K Ad G σ ρ → wp (f ρ M) (Po X W (fun Ad' G' J its => WalkI X.K J its Ad' G') R σ Ad G H) → wI X tg it σ H R
/-! ### loops -/
def forK (k : List Sl → Ev Fl) : Fl → Ev Fl
  | .nx ρ => k ρ
  | .ct ρ => k ρ
  | .bk ρ => ok (.nx ρ)
  | .rt s => ok (.rt s)
def forD (g : CG) (b : CS) : List D → CS
  | [], ρ => ok (.nx ρ)
  | d :: ds, ρ => match g (.dat d) ρ with
    | some ρ1 => (b ρ1).bind (forK (forD g b ds))
    | none => bad
/-- over what may change: n turns to go, from the i-th on -/
def forL (item : List MO → Nat → Option Sl) (fin : List MO → Bool) (g : CG) (b : CS) : Nat → Nat → CS
  | 0, i, ρ => fun M => if fin M then .ret (.ok (.nx ρ) M) else .bad
  | n + 1, i, ρ => fun M => match item M i with
    | none => .bad
    | some s => match g s ρ with
      | some ρ1 => (b ρ1).bind (forK (forL item fin g b n (i + 1))) M
      | none => .bad
def sFor (fi : CI) (g : CG) (b : CS) : CS := fun ρ => Ev.bind (fi ρ) fun its => match its with
  | .data ds => forD g b ds ρ
  | .live n item fin => forL item fin g b n 0 ρ
def whileF (c : CT) (b : CS) : Nat → CS
  | 0, _ => bad
  | n + 1, ρ => (c ρ).bind fun k => if k then (b ρ).bind (forK (whileF c b n)) else ok (.nx ρ)
def sWhile (c : CT) (b : CS) : CS := whileF c b 200
def remF (its : Its) (g : CG) (b : CS) (i : Nat) : CS := match its with
  | .data ds => forD g b (ds.drop i)
  | .live n item fin => forL item fin g b (n - i) i
theorem rem_go {its : Its} {g : CG} {b : CS} {i : Nat} {ρ : List Sl} {M : List MO} {Q : Re Fl → Prop} (hi : i < its.n) (h : wp (remF its g b i ρ M) Q) : ∃ s ρ1, its.at_ M i = some s ∧ g s ρ = some ρ1 ∧ wp ((b ρ1).bind (forK (remF its g b (i + 1))) M) Q := by
  cases its with
  | data ds =>
    have hi : i < ds.length := hi
    have h : wp (forD g b (ds.drop i) ρ M) Q := h
    rw [List.drop_eq_getElem_cons hi] at h
    cases e : g (.dat ds[i]) ρ with
    | none => simp only [forD, e] at h; exact h.elim
    | some ρ1 =>
      simp only [forD, e] at h
      exact ⟨_, ρ1, by show ds[i]?.map Sl.dat = _; rw [List.getElem?_eq_getElem hi]; rfl, e, h⟩
  | live n item fin =>
    have hi : i < n := hi
    have h : wp (forL item fin g b (n - i) i ρ M) Q := h
    obtain ⟨m, hm⟩ : ∃ m, n - i = m + 1 := ⟨n - i - 1, by omega⟩
    rw [hm] at h
    cases e : item M i with
    | none => simp only [forL, e] at h; exact h.elim
    | some s =>
      cases e1 : g s ρ with
      | none => simp only [forL, e, e1] at h; exact h.elim
      | some ρ1 =>
        simp only [forL, e, e1] at h
        refine ⟨s, ρ1, e, e1, ?_⟩
        have : n - (i + 1) = m := by omega
        show wp ((b ρ1).bind (forK (forL item fin g b (n - (i + 1)) (i + 1))) M) Q
        rw [this]; exact h
theorem rem_end {its : Its} {g : CG} {b : CS} {ρ : List Sl} {M : List MO} {Q : Re Fl → Prop} (h : wp (remF its g b its.n ρ M) Q) : its.end_ M = true ∧ Q (.ok (.nx ρ) M) := by
  cases its with
  | data ds =>
    have h : wp (forD g b (ds.drop ds.length) ρ M) Q := h
    rw [List.drop_length] at h
    exact ⟨rfl, h⟩
  | live n item fin =>
    have h : wp (forL item fin g b (n - n) n ρ M) Q := h
    rw [Nat.sub_self] at h
    cases e : fin M with
    | false => simp only [forL, e] at h; exact h.elim
    | true => simp only [forL, e] at h; exact ⟨e, h⟩
theorem forK_ends {k : List Sl → Ev Fl} {D : Ends} {N : L2.St → Hp → Prop} {Ad Ad1 : List Addr} {G H G1 H1 : Hp} {r : Re Fl} (g1 : Grow Ad G H Ad1 G1 H1) (h : wp (reK (forK k) r) (PoS X W D Ad G H))
    (hn : ∀ ρ2 M2, wp (k ρ2 M2) (PoS X W D Ad G H) → ∀ Ad' G' H' σ', Grow Ad1 G1 H1 Ad' G' H' → MS X.K Ad' G' M2 H' → EnvR X.K Ad' G' σ' ρ2 → N σ' H') : PoS X W { D with nx := N, ct := N, bk := D.nx } Ad1 G1 H1 r := by
  cases r with
  | ex c fs M1 => exact PoS.shift (r := .ex c fs M1) g1 h
  | ok a M1 =>
    cases a with
    | nx ρ1 => exact hn ρ1 M1 h
    | ct ρ1 => exact hn ρ1 M1 h
    | bk ρ1 => exact PoS.shift (r := .ok (.nx ρ1) M1) g1 h
    | rt s => exact PoS.shift (r := .ok (.rt s) M1) g1 h
theorem ss_for {fi : CI} {bd : CS} (hi : SI X W tg it fi) (hg : GT X tg ts f) (hb : SB X W body bd) (hp : PassesOwn (model X.prog X.w) X.A X.env X.xe) (hc : X.calm = true) (hs : ∀ x, foldedSetIterable it X.env x = pure x := by intro _; rfl) :
    SS X W (.For tg it body [] pos) (sFor fi f bd) := ⟨fun ρ M Ad G σ H D ms en h => by
  refine toS (ps_for hp hc pi_w pg_w pss_w hs) (hi.run ρ M Ad G σ H _ ms en (wp_mono (fun r hr => ?_) (wp_evbind.mp h)))
  cases r with
  | ex c fs M1 => exact hr σ
  | ok its M1 =>
    intro Ad1 G1 H1 J g1 m1 wk
    have h0 : wp (remF its f bd 0 ρ M1) (PoS X W D Ad G H) := by
      cases its with
      | data ds => exact hr
      | live n item fin => exact hr
    refine ⟨fun i m σ' H' => m = its.n - i ∧ i ≤ its.n ∧ ∃ Ad' G' M' ρ', Grow Ad1 G1 H1 Ad' G' H' ∧ MS X.K Ad' G' M' H' ∧ EnvR X.K Ad' G' σ' ρ' ∧ wp (remF its f bd i ρ' M') (PoS X W D Ad G H), ⟨its.n, by simp, Nat.zero_le _, Ad1, G1, M1, ρ, Grow.refl _ _ _, m1, en.grow g1, h0⟩, ?_⟩
    rintro i m σ' H' ⟨rfl, hle, Ad', G', M', ρ', g', ms', en', ii⟩
    by_cases hlt : i < its.n
    · obtain ⟨s, ρ1, e1, e2, e3⟩ := rem_go hlt ii
      refine .inr ⟨wk.goes i Ad' G' M' H' hlt g'.ltr ms' (by rw [e1]; rfl), fun σ2 H2 => ∃ Ad' G' M' ρ', Grow Ad1 G1 H1 Ad' G' H2 ∧ MS X.K Ad' G' M' H2 ∧ EnvR X.K Ad' G' σ2 ρ' ∧ wp (remF its f bd (i + 1) ρ' M') (PoS X W D Ad G H), fun σ2 H2 z => ⟨its.n - (i + 1), by omega, rfl, hlt, z⟩, fun x H2 y => ?_⟩
      obtain ⟨Gc, pu, r⟩ := wk.yld i Ad' G' M' H' x H2 s hlt g'.ltr ms' e1 y
      have g2 := g'.trans (pu.grow (Ad := Ad'))
      refine hg.run s ρ' ρ1 Ad' Gc σ' H2 x e2 pu.le (en'.grow (pu.grow (Ad := Ad'))) r _ fun σ3 en3 _ => ?_
      refine hb.run ρ1 M' Ad' Gc σ3 H2 _ (ms'.pure pu) en3 (wp_mono (fun r hr => forK_ends (g1.trans g2) hr fun ρ2 M2 hk Ad4 G4 H4 σ4 g4 m4 e4 => ⟨Ad4, G4, M2, ρ2, g2.trans g4, m4, e4, hk⟩) (wp_evbind.mp e3))
    · have e : i = its.n := by omega
      subst e
      obtain ⟨e1, e2⟩ := rem_end ii
      exact .inl ⟨wk.stops Ad' G' M' H' g'.ltr ms' e1, e2 _ _ _ _ (g1.trans g') ms' en'⟩⟩
theorem ss_while {bd : CS} (h0 : ST X W e ft) (hb : SB X W body bd) (hp : PassesOwn (model X.prog X.w) X.A X.env X.xe) : SS X W (.While e body [] pos) (sWhile ft bd) := ⟨fun ρ M Ad G σ H D ms en h => by
  refine toS (ps_while hp pt_w pss_w) ⟨fun m σ' H' => ∃ Ad' G' M' ρ', Grow Ad G H Ad' G' H' ∧ MS X.K Ad' G' M' H' ∧ EnvR X.K Ad' G' σ' ρ' ∧ wp (whileF ft bd m ρ' M') (PoS X W D Ad' G' H'), ⟨200, Ad, G, M, ρ, Grow.refl _ _ _, ms, en, h⟩, ?_⟩
  rintro m σ' H' ⟨Ad', G', M', ρ', g', ms', en', ii⟩
  cases m with
  | zero => exact (show False from ii).elim
  | succ m =>
    refine h0.seqS ms' en' ii fun Ad2 G2 M2 H2 k g2 m2 w2 => ?_
    cases k with
    | false => exact w2 Ad2 G2 H2 _ (Grow.refl _ _ _) m2 (en'.grow g2)
    | true =>
      refine ⟨fun σ3 H3 => ∃ Ad3 G3 M3 ρ3, Grow Ad G H Ad3 G3 H3 ∧ MS X.K Ad3 G3 M3 H3 ∧ EnvR X.K Ad3 G3 σ3 ρ3 ∧ wp (whileF ft bd m ρ3 M3) (PoS X W D Ad3 G3 H3), fun σ3 H3 ⟨Ad3, G3, M3, ρ3, z1, z2, z3, z4⟩ => ⟨m, Nat.lt_succ_self m, Ad3, G3, M3, ρ3, z1, z2, z3, z4⟩, ?_⟩
      have w2 : wp (Ev.bind (bd ρ') (forK (whileF ft bd m)) M2) (PoS X W D Ad2 G2 H2) := w2
      exact hb.run ρ' M2 Ad2 G2 σ' H2 _ m2 (en'.grow g2) (wp_mono (fun r hr => forK_ends (Grow.refl _ _ _) hr fun ρ2 M3 hk Ad4 G4 H4 σ4 g4 m4 e4 => ⟨Ad4, G4, M3, ρ2, (g'.trans g2).trans g4, m4, e4, wp_mono (fun _ => PoS.shift g4) hk⟩) (wp_evbind.mp w2))⟩
end
end R

set_option Elab.async false
set_option linter.all false
set_option maxRecDepth 100000
set_option maxHeartbeats 4000000
namespace R
open PySem PySem.Spec PyProof.Rows L2
variable [Keys]

/-! ### comprehensions -/
def noXk {α : Type} : Re α → T (Re α)
  | .ok a M => .ret (.ok a M)
  | .ex _ _ _ => .bad
/-- an exception is no answer here -/
def noX {α : Type} (m : Ev α) : Ev α := fun M => (m M).bind noXk
theorem wp_noX {α : Type} {m : Ev α} {M : List MO} {Q : Re α → Prop} (h : wp (noX m M) Q) : wp (m M) fun r => ∃ a M', r = .ok a M' ∧ Q (.ok a M') :=
  wp_mono (fun r hr => by
    cases r with
    | ok a M' => exact ⟨a, M', rfl, hr⟩
    | ex c fs M' => exact hr.elim) (wp_bind.mp h)
def frz (s : Sl) : Ev D := ofM fun M => fz1 M s
def compD (turn : Sl → Ev (List D)) : List D → Ev (List D)
  | [] => ok []
  | d :: ds => Ev.bind (turn (.dat d)) fun a => Ev.bind (compD turn ds) fun b => ok (a ++ b)
def compL (item : List MO → Nat → Option Sl) (fin : List MO → Bool) (turn : Sl → Ev (List D)) : Nat → Nat → Ev (List D)
  | 0, i => fun M => if fin M then .ret (.ok [] M) else .bad
  | n + 1, i => fun M => match item M i with
    | none => .bad
    | some s => Ev.bind (turn s) (fun a => Ev.bind (compL item fin turn n (i + 1)) fun b => ok (a ++ b)) M
def compR (its : Its) (turn : Sl → Ev (List D)) (i : Nat) : Ev (List D) := match its with
  | .data ds => compD turn (ds.drop i)
  | .live n item fin => compL item fin turn (n - i) i
def oneT (g : CG) (t : CT) (e : CE) (ρ : List Sl) : Sl → Ev (List D) := fun s => match g s ρ with
  | some ρ1 => Ev.bind (noX (t ρ1)) fun k => if k then Ev.bind (noX (Ev.bind (e ρ1) frz)) fun d => ok [d] else ok []
  | none => bad
def twoT (g : CG) (t : CT) (fi1 : CI) (vs1 : List Nat) (g1 : CG) (t1 : CT) (e : CE) (ρ : List Sl) : Sl → Ev (List D) := fun s => match g s ρ with
  | some ρ1 => Ev.bind (noX (t ρ1)) fun k => if k then Ev.bind (noX (fi1 ρ1)) fun its => if its.n ≤ 4000 then compR its (oneT g1 t1 e (wipeS ρ1 vs1)) 0 else bad else ok []
  | none => bad
def eLc (m : Bool) (own : List Nat) (fi : CI) (g : CG) (t : CT) (e : CE) : CE := fun ρ => Ev.bind (fi ρ) fun its => if its.n < sizeLine then Ev.bind (compR its (oneT g t e (wipeS ρ own)) 0) fun ds => ofM fun M => some (mkL m M ds) else bad
def eLc2 (m : Bool) (own : List Nat) (fi : CI) (g : CG) (t : CT) (fi1 : CI) (vs1 : List Nat) (g1 : CG) (t1 : CT) (e : CE) : CE := fun ρ => Ev.bind (fi ρ) fun its => if its.n ≤ 4000 then Ev.bind (compR its (twoT g t fi1 vs1 g1 t1 e (wipeS ρ own)) 0) fun ds => ofM fun M => some (mkL m M ds) else bad
def tYesF : CT := fun _ => ok true
abbrev W0 : WX := fun _ _ _ _ => False
theorem comp_go {its : Its} {turn : Sl → Ev (List D)} {i : Nat} {M : List MO} {Q : Re (List D) → Prop} (hi : i < its.n) (h : wp (compR its turn i M) Q) : ∃ s, its.at_ M i = some s ∧ wp (Ev.bind (turn s) (fun a => Ev.bind (compR its turn (i + 1)) fun b => ok (a ++ b)) M) Q := by
  cases its with
  | data ds =>
    have hi : i < ds.length := hi
    have h : wp (compD turn (ds.drop i) M) Q := h
    rw [List.drop_eq_getElem_cons hi] at h
    exact ⟨_, by show ds[i]?.map Sl.dat = _; rw [List.getElem?_eq_getElem hi]; rfl, h⟩
  | live n item fin =>
    have hi : i < n := hi
    have h : wp (compL item fin turn (n - i) i M) Q := h
    obtain ⟨m, hm⟩ : ∃ m, n - i = m + 1 := ⟨n - i - 1, by omega⟩
    rw [hm] at h
    cases e : item M i with
    | none => simp only [compL, e] at h; exact h.elim
    | some s =>
      simp only [compL, e] at h
      refine ⟨s, e, ?_⟩
      have : n - (i + 1) = m := by omega
      show wp (Ev.bind (turn s) (fun a => Ev.bind (compL item fin turn (n - (i + 1)) (i + 1)) fun b => ok (a ++ b)) M) Q
      rw [this]; exact h
theorem comp_end {its : Its} {turn : Sl → Ev (List D)} {M : List MO} {Q : Re (List D) → Prop} (h : wp (compR its turn its.n M) Q) : its.end_ M = true ∧ Q (.ok [] M) := by
  cases its with
  | data ds =>
    have h : wp (compD turn (ds.drop ds.length) M) Q := h
    rw [List.drop_length] at h
    exact ⟨rfl, h⟩
  | live n item fin =>
    have h : wp (compL item fin turn (n - n) n M) Q := h
    rw [Nat.sub_self] at h
    cases e : fin M with
    | false => simp only [compL, e] at h; exact h.elim
    | true => simp only [compL, e] at h; exact ⟨e, h⟩
/-- what is wanted of the items made from now on: k of all of them -/
def Pa (acc : List D) (k : List D → List MO → Prop) : Re (List D) → Prop
  | .ok b M => k (acc ++ b) M
  | .ex _ _ _ => True
theorem pa_turn {its : Its} {turn : Sl → Ev (List D)} {i : Nat} {M : List MO} {acc : List D} {k : List D → List MO → Prop} {m : Ev (List D)} (h : wp (Ev.bind m (fun a => Ev.bind (compR its turn (i + 1)) fun b => ok (a ++ b)) M) (Pa acc k)) :
    wp (m M) (Pa acc fun acc' M' => wp (compR its turn (i + 1) M') (Pa acc' k)) := wp_mono (fun r hr => by
  cases r with
  | ex c fs M1 => trivial
  | ok a M1 =>
    refine wp_mono (fun r hr => ?_) (wp_evbind.mp (show wp (Ev.bind (compR its turn (i + 1)) (fun b => ok (a ++ b)) M1) _ from hr))
    cases r with
    | ex c fs M2 => trivial
    | ok b M2 =>
      have z : k (acc ++ (a ++ b)) M2 := hr
      show k ((acc ++ a) ++ b) M2
      rw [List.append_assoc]; exact z) (wp_evbind.mp h)

abbrev Cx.cb (X : Cx) (scope : Scope) (s : Shared) (H : Hp) (C : Addr) (cl : List (Str × Addr)) (fp : List Addr) : Cx := X.blk s H scope (compEnvC scope cl C X.env) fp
theorem ms_off {K : PySem.W.Frag} {Ad : List Addr} {G H : Hp} {Dl : Addr} {o : HO} (ms : MS K Ad G M H) (h : Dl ∉ Ad) (g : G Dl = none) : MS K Ad G M (upd H Dl o) := by
  refine ⟨fun a u e => ?_, ms.len, ms.nd, fun j a m e1 e2 => ?_, fun a ha => ?_⟩
  · have : a ≠ Dl := fun z => by rw [z, g] at e; cases e
    rw [upd_ne this]; exact ms.le a u e
  · have : a ≠ Dl := fun z => h (z ▸ List.mem_of_getElem? e1)
    obtain ⟨q1, q2⟩ := ms.mo j a m e1 e2
    exact ⟨q1, q2.mono (Ex.refl G) (fun _ _ z => z) (upd_ne this)⟩
  · have : a ≠ Dl := fun z => h (z ▸ ha)
    rw [upd_ne this]; exact ms.dom a ha
theorem grow_off {Ad Ad' : List Addr} {G H G' H' : Hp} {Dl : Addr} {o : HO} (g : Grow Ad G H Ad' G' H') (h : H Dl = none) : Grow Ad G H Ad' G' (upd H' Dl o) := by
  refine ⟨g.ex, g.pre, fun a u e n => ?_, g.gh, fun a e => ?_⟩
  · rw [upd_ne (ne_of_none e h)]; exact g.fr a u e n
  · by_cases q : a = Dl
    · subst q; exact absurd h e
    · rw [upd_ne q]; exact g.dom a e
theorem ms_tell {K : PySem.W.Frag} {Ad : List Addr} {G H : Hp} {Dl : Addr} {o : HO} (ms : MS K Ad G M H) (h : Dl ∉ Ad) (g : G Dl = none) (e : H Dl = some o) : MS K Ad (upd G Dl o) M H := by
  have ex : Ex G (upd G Dl o) := Ex.new g
  refine ⟨fun a u q => ?_, ms.len, ms.nd, fun j a m e1 e2 => ?_, ms.dom⟩
  · by_cases z : a = Dl
    · subst z; rw [upd_same] at q; cases q; exact .inl e
    · rw [upd_ne z] at q; exact ms.le a u q
  · have : a ≠ Dl := fun z => h (z ▸ List.mem_of_getElem? e1)
    obtain ⟨q1, q2⟩ := ms.mo j a m e1 e2
    exact ⟨fun z => by rw [upd_ne this]; exact q1 z, q2.mono ex (fun _ _ z => z) rfl⟩
theorem grow_tell {Ad Ad' : List Addr} {G H G' H' : Hp} {Dl : Addr} {o : HO} (g : Grow Ad G H Ad' G' H') (h : H Dl = none) (h' : G' Dl = none) : Grow Ad G H Ad' (upd G' Dl o) H' :=
  ⟨g.ex.trans (Ex.new h'), g.pre, g.fr, fun a e n => by
    have : a ≠ Dl := fun z => e (z ▸ h)
    rw [upd_ne this]; exact g.gh a e n, g.dom⟩
/-- an address outside stays outside -/
theorem grow_out {Ad Ad' : List Addr} {G H G' H' : Hp} {Dl : Addr} {o : HO} (g : Grow Ad G H Ad' G' H') (h : Dl ∉ Ad) (hg : G Dl = none) (e : H Dl = some o) : Dl ∉ Ad' ∧ G' Dl = none ∧ H' Dl = some o := by
  obtain ⟨more, e1, e2⟩ := g.pre
  refine ⟨fun z => ?_, by rw [g.gh Dl (by rw [e]; simp) h]; exact hg, g.fr Dl o e h⟩
  rw [e1] at z
  rcases List.mem_append.mp z with z | z
  · exact h z
  · have := e2 Dl z
    rw [e] at this; cases this
theorem wipe_idem {σ : L2.St} {i : Nat} : ∀ ws : List Nat, i ∈ ws → (wipe σ ws).set i none = wipe σ ws
  | [], h => by simp at h
  | w :: ws, h => by
    unfold L2.wipe
    by_cases hi : i ∈ ws
    · by_cases e : w = i
      · subst e; rw [List.set_set]
      · rw [List.set_comm _ _ e, wipe_idem ws hi]
    · have e : i = w := by simpa [hi] using h
      subst e; rw [List.set_set]
theorem wipe_sub (σ : L2.St) (ws : List Nat) : ∀ vs : List Nat, (∀ i ∈ vs, i ∈ ws) → wipe (wipe σ ws) vs = wipe σ ws
  | [], _ => rfl
  | v :: vs, h => by
    show (wipe (wipe σ ws) vs).set v none = wipe σ ws
    rw [wipe_sub σ ws vs fun i hi => h i (List.mem_cons_of_mem _ hi)]
    exact wipe_idem ws (h v List.mem_cons_self)
theorem wipe_wipe (σ : L2.St) (ws : List Nat) : wipe (wipe σ ws) ws = wipe σ ws := wipe_sub σ ws ws fun _ h => h

/-! tests of a comprehension -/
structure SIf (X : Cx) (ifs : List Expr) (f : CT) : Prop where
  run : ∃ t, PTs X ifs t ∧ ∀ ρ M Ad G σ H (Q : Bool → Hp → Prop), MS X.K Ad G M H → EnvR X.K Ad G σ ρ → wp (noX (f ρ) M) (Po X W0 RlT Q σ Ad G H) → t σ H Q
section
variable {X : Cx} {W : WX} {c tg it elt tg1 it1 : Expr} {ifs ifs1 : List Expr} {ts ts1 : List Nat} {g g1 : CG} {t t1 : CT} {e : CE} {fi fi1 : CI} {scope : Scope} {own : List (Str × Nat)} {vs1 : List Nat} {pos : Pos}
theorem sif_nil : SIf X [] tYesF := ⟨_, pts_nil, fun ρ M Ad G σ H Q ms en h => h Ad G H _ (Grow.refl _ _ _) ms rfl⟩
theorem sif_one (h : ST X W0 c t) : SIf X [c] t := ⟨_, pts_one pt_w, fun ρ M Ad G σ H Q ms en w => h.run ρ M Ad G σ H Q ms en (wp_mono (fun r ⟨a, M', e1, q⟩ => by rw [e1]; exact q) (wp_noX w))⟩
def gBk (X : Cx) (scope : Scope) (tg : Expr) : TG := fun v σ H Q => ∀ s H0 C cl fp, wG (Cx.cb X scope s H0 C cl fp) tg v σ H Q
def PTsW (X : Cx) (ifs : List Expr) : TT := fun σ H Q => ∃ t, PTs X ifs t ∧ t σ H Q
theorem pts_w {ifs : List Expr} : PTs X ifs (PTsW X ifs) := ⟨fun pins s σ H Q I ⟨t, h1, h2⟩ => h1.run pins s σ H Q I h2⟩
def tBk (X : Cx) (scope : Scope) (ifs : List Expr) : TT := fun σ H Q => ∀ s H0 C cl fp, PTsW (Cx.cb X scope s H0 C cl fp) ifs σ H Q
def eBk (X : Cx) (scope : Scope) (e : Expr) : TE := fun σ H Q => ∀ s H0 C cl fp, wE (Cx.cb X scope s H0 C cl fp) e σ H Q
def iBk (X : Cx) (scope : Scope) (tg it : Expr) : TI := fun σ H R => ∀ s H0 C cl fp, wI (Cx.cb X scope s H0 C cl fp) tg it σ H R
theorem pi_bk (s H0 C cl fp) : PI (Cx.cb X scope s H0 C cl fp) tg it (iBk X scope tg it) := ⟨fun pins s' _ _ _ I h => h s H0 C cl fp pins s' I⟩
theorem pg_bk (s H0 C cl fp) : PG (Cx.cb X scope s H0 C cl fp) tg (gBk X scope tg) := ⟨fun pins s' _ _ _ u _ I r h => h s H0 C cl fp pins s' u I r⟩
theorem pt_bk (s H0 C cl fp) : PTs (Cx.cb X scope s H0 C cl fp) ifs (tBk X scope ifs) := ⟨fun pins s' σ H Q I h => pts_w.run pins s' σ H Q I (h s H0 C cl fp)⟩
theorem pe_bk (s H0 C cl fp) : PE (Cx.cb X scope s H0 C cl fp) elt (eBk X scope elt) := ⟨fun pins s' _ _ _ I h => h s H0 C cl fp pins s' I⟩
/-- the state within a comprehension: the list made so far stands at Dl, untold -/
structure Acc (K : PySem.W.Frag) (Dl : Addr) (Ad1 : List Addr) (G1 H1 : Hp) (acc : List D) (Ad' : List Addr) (G' : Hp) (M' : List MO) (H' : Hp) : Prop where
  gr : Grow Ad1 G1 H1 Ad' G' H'
  out : Dl ∉ Ad'
  gn : G' Dl = none
  ms : MS K Ad' G' M' H'
  at_ : ∃ vs, H' Dl = some (.lst vs) ∧ Rps K G' vs acc
theorem Acc.grow {K : PySem.W.Frag} {Dl : Addr} {Ad1 Ad' Ad2 : List Addr} {G1 H1 G' H' G2 H2 : Hp} {acc : List D} {M' M2 : List MO} (a : Acc K Dl Ad1 G1 H1 acc Ad' G' M' H') (g : Grow Ad' G' H' Ad2 G2 H2) (m : MS K Ad2 G2 M2 H2) : Acc K Dl Ad1 G1 H1 acc Ad2 G2 M2 H2 := by
  obtain ⟨vs, hv, rv⟩ := a.at_
  obtain ⟨n2, gd2, hv2⟩ := grow_out g a.out a.gn hv
  exact ⟨a.gr.trans g, n2, gd2, m, vs, hv2, rv.mono g.ex⟩
theorem Acc.push {K : PySem.W.Frag} {Dl : Addr} {Ad1 Ad' : List Addr} {G1 H1 G' H' : Hp} {acc : List D} {M' : List MO} {v : V} {d : D} (hD : H1 Dl = none) (a : Acc K Dl Ad1 G1 H1 acc Ad' G' M' H') (r : Rp K G' v d) (hl : acc.length < sizeLine) :
    ∃ vs, H' Dl = some (.lst vs) ∧ vs.length < sizeLine ∧ Acc K Dl Ad1 G1 H1 (acc ++ [d]) Ad' G' M' (upd H' Dl (.lst (vs ++ [v]))) := by
  obtain ⟨vs, hv, rv⟩ := a.at_
  exact ⟨vs, hv, by rw [rv.length]; exact hl, grow_off a.gr hD, a.out, a.gn, ms_off a.ms a.out a.gn, vs ++ [v], upd_same, rv.append (.cons r .nil)⟩
/-- one turn -/
theorem one_turn {Dl : Addr} {Ad1 Ad' : List Addr} {G1 H1 G' H' : Hp} {acc : List D} {M' : List MO} {s : Sl} {ρ : List Sl} {σw : L2.St} {x : V} {k : List D → List MO → Prop} {Nx : Hp → Prop} {os : List Nat} (hD : H1 Dl = none)
    (hg : ∀ s H0 C cl fp, GT (Cx.cb X scope s H0 C cl fp) tg ts g) (hts : ∀ i ∈ ts, i ∈ os) (ht : ∀ s H0 C cl fp, SIf (Cx.cb X scope s H0 C cl fp) ifs t) (he : ∀ s H0 C cl fp, SE (Cx.cb X scope s H0 C cl fp) W0 elt e)
    (a : Acc X.K Dl Ad1 G1 H1 acc Ad' G' M' H') (en : EnvR X.K Ad' G' (wipe σw os) ρ) (r : RpS X.K Ad' G' x s) (hl : acc.length < sizeLine) (w : wp (oneT g t e ρ s M') (Pa acc k))
    (fin : ∀ Ad2 G2 M2 H2 acc', acc'.length ≤ acc.length + 1 → Ltr Ad' G' Ad2 G2 → Acc X.K Dl Ad1 G1 H1 acc' Ad2 G2 M2 H2 → k acc' M2 → Nx H2) :
    gBk X scope tg x (wipe σw os) H' fun σ2 H2 => wipe σ2 os = wipe σw os ∧ tBk X scope ifs σ2 H2 fun b H3 => if b = true then eBk X scope elt σ2 H3 fun y H4 => ∃ acc, H4 Dl = some (.lst acc) ∧ acc.length < sizeLine ∧ Nx (upd H4 Dl (.lst (acc ++ [y]))) else Nx H3 := by
  cases eg : g s ρ with
  | none => simp only [oneT, eg] at w; exact w.elim
  | some ρ1 =>
    simp only [oneT, eg] at w
    intro s0 H0 C cl fp
    refine (hg s0 H0 C cl fp).run s ρ ρ1 Ad' G' (wipe σw os) H' x eg a.ms.le en r _ fun σ2 en2 tc => ⟨by rw [tc _ hts]; exact wipe_wipe _ _, fun s1 H1' C1 cl1 fp1 => ?_⟩
    obtain ⟨tt, htt, hrun⟩ := (ht s1 H1' C1 cl1 fp1).run
    refine ⟨tt, htt, hrun ρ1 M' Ad' G' σ2 H' _ a.ms en2 ?_⟩
    have w1 := wp_evbind.mp w
    refine wp_bind.mpr (wp_mono (fun r hr => ?_) (wp_noX w1))
    obtain ⟨b, M2, rfl, hr⟩ := hr
    intro Ad2 G2 H2 b' g2 m2 hb
    have hb : b' = b := hb
    subst hb
    have a2 := a.grow g2 m2
    cases b' with
    | false =>
      exact iteF (fin Ad2 G2 M2 H2 acc (Nat.le_succ _) g2.ltr a2 (by have z : k (acc ++ []) M2 := hr; rw [List.append_nil] at z; exact z))
    | true =>
      refine iteT fun s4 H4 C4 cl4 fp4 => ?_
      have hr : wp (Ev.bind (noX (Ev.bind (e ρ1) frz)) (fun d => ok [d]) M2) (Pa acc k) := hr
      refine (he s4 H4 C4 cl4 fp4).run ρ1 M2 Ad2 G2 σ2 H2 _ m2 (en2.grow g2) (wp_mono (fun r hr => ?_) (wp_evbind.mp (wp_noX (wp_evbind.mp hr))))
      cases r with
      | ex c fs M3 => obtain ⟨_, _, z, _⟩ := hr; cases z
      | ok sv M3 =>
        intro Ad3 G3 H3 v g3 m3 r3
        obtain ⟨d, M4, ef, b2, M5, eo, q⟩ := wp_ofM.mp (show wp (ofM (fun M => fz1 M sv) M3) _ from hr)
        cases eo
        obtain ⟨G4, m4, g4, r4⟩ := fz1_ok m3 r3 ef
        have a4 := a2.grow (g3.trans g4) m4
        obtain ⟨vs, e1, e2, e3⟩ := a4.push hD r4 hl
        exact ⟨vs, e1, e2, fin Ad3 G4 M4 _ (acc ++ [d]) (by simp) (g2.trans (g3.trans g4)).ltr e3 q⟩
/-- a new list, at its end: data, or one that will change -/
theorem acc_end {Dl : Addr} {Ad Ad1 Ad' : List Addr} {G G1 H H1 G' H' : Hp} {acc : List D} {M' : List MO} {m : Bool} {Q : VK} (hD : H1 Dl = none) (g1 : Grow Ad G H Ad1 G1 H1) (a : Acc X.K Dl Ad1 G1 H1 acc Ad' G' M' H')
    (q : ∀ Ad2 G2 H2 v, Grow Ad G H Ad2 G2 H2 → MS X.K Ad2 G2 (mkL m M' acc).2 H2 → RpS X.K Ad2 G2 v (mkL m M' acc).1 → Q v H2) : Q (.ref Dl) H' := by
  obtain ⟨vs, hv, rv⟩ := a.at_
  cases m with
  | false => exact q Ad' (upd G' Dl (.lst vs)) H' _ (g1.trans (grow_tell a.gr hD a.gn)) (ms_tell a.ms a.out a.gn hv) (rs_lst upd_same (rv.mono (Ex.new a.gn)))
  | true =>
    have ms := a.ms
    have look : ∀ (j : Nat) b, Ad'[j]? = some b → (Ad' ++ [Dl])[j]? = some b := fun j b e => by
      rw [List.getElem?_append_left (List.getElem?_eq_some_iff.mp e).1]; exact e
    have m2 : MS X.K (Ad' ++ [Dl]) G' (M' ++ [.lst (acc.map .dat)]) H' := by
      refine ⟨ms.le, by simp [ms.len], ?_, fun j b mj e1 e2 => ?_, fun b hb => ?_⟩
      · rw [List.nodup_append]
        refine ⟨ms.nd, by simp, fun b hb c hc => ?_⟩
        have : c = Dl := by simpa using hc
        subst this
        exact fun z => a.out (z ▸ hb)
      · by_cases hj : j < Ad'.length
        · rw [List.getElem?_append_left hj] at e1
          rw [List.getElem?_append_left (by rw [← ms.len]; exact hj)] at e2
          obtain ⟨q1, q2⟩ := ms.mo j b mj e1 e2
          exact ⟨q1, q2.mono (Ex.refl G') look rfl⟩
        · rw [List.getElem?_append_right (by omega)] at e1
          rw [List.getElem?_append_right (by rw [← ms.len]; omega)] at e2
          have z : j - Ad'.length = 0 := by
            cases hz : j - Ad'.length with
            | zero => rfl
            | succ n => rw [hz] at e1; simp at e1
          rw [z] at e1
          rw [← ms.len, z] at e2
          simp at e1 e2
          subst e1 e2
          exact ⟨fun _ => a.gn, vs, hv, RpSs.ofRps rv⟩
      · rcases List.mem_append.mp hb with z | z
        · exact ms.dom b z
        · have : b = Dl := by simpa using z
          subst this; rw [hv]; simp
    have g2 : Grow Ad1 G1 H1 (Ad' ++ [Dl]) G' H' := by
      obtain ⟨more, e1, e2⟩ := a.gr.pre
      refine ⟨a.gr.ex, ⟨more ++ [Dl], by rw [e1, List.append_assoc], fun b hb => ?_⟩, a.gr.fr, a.gr.gh, a.gr.dom⟩
      rcases List.mem_append.mp hb with z | z
      · exact e2 b z
      · have : b = Dl := by simpa using z
        subst this; exact hD
    exact q (Ad' ++ [Dl]) G' H' _ (g1.trans g2) m2 (rs_mu (by rw [← ms.len, List.getElem?_append_right (Nat.le_refl _), Nat.sub_self]; rfl))
theorem acc_start {Dl : Addr} {Ad1 : List Addr} {G1 H1 : Hp} {M1 : List MO} (hD : H1 Dl = none) (ms : MS X.K Ad1 G1 M1 H1) : Acc X.K Dl Ad1 G1 H1 [] Ad1 G1 M1 (upd H1 Dl (.lst [])) := by
  have nA : Dl ∉ Ad1 := fun z => ms.dom Dl z hD
  have gD : G1 Dl = none := by
    cases q : G1 Dl with
    | none => rfl
    | some u => rcases ms.le Dl u q with z | ⟨_, _, z⟩ <;> rw [hD] at z <;> cases z
  exact ⟨grow_off (Grow.refl _ _ _) hD, nA, gD, ms_off ms nA gD, [], upd_same, .nil⟩
theorem lc_sound {its : Its} {Ad1 : List Addr} {G1 H1 : Hp} {M1 : List MO} {σ : L2.St} {ρ : List Sl} {J : It} {k : List D → List MO → Prop} {Q : VK}
    (hg : ∀ s H0 C cl fp, GT (Cx.cb X scope s H0 C cl fp) tg ts g) (hts : ∀ i ∈ ts, i ∈ own.map (·.2)) (ht : ∀ s H0 C cl fp, SIf (Cx.cb X scope s H0 C cl fp) ifs t) (he : ∀ s H0 C cl fp, SE (Cx.cb X scope s H0 C cl fp) W0 elt e)
    (wk : WalkI X.K J its Ad1 G1) (m1 : MS X.K Ad1 G1 M1 H1) (en : EnvR X.K Ad1 G1 σ ρ) (hz : its.n < sizeLine) (w : wp (compR its (oneT g t e (wipeS ρ (own.map (·.2)))) 0 M1) (Pa [] k))
    (fin : ∀ Dl Ad' G' M' H' acc, H1 Dl = none → Acc X.K Dl Ad1 G1 H1 acc Ad' G' M' H' → k acc M' → Q (.ref Dl) H') :
    ∀ Dl, H1 Dl = none → ∃ W : Nat → Nat → Hp → Prop, (∃ m, W 0 m (upd H1 Dl (.lst []))) ∧ ∀ i m H, W i m H →
      (J.stop i H ∧ Q (.ref Dl) H) ∨ (J.go i H ∧ ∃ Nx : Hp → Prop, (∀ H', Nx H' → ∃ m', m' < m ∧ W (i + 1) m' H') ∧ ∀ x H', J.yld i H x H' → gBk X scope tg x (wipe σ (own.map (·.2))) H' fun σ2 H2 => wipe σ2 (own.map (·.2)) = wipe σ (own.map (·.2)) ∧ tBk X scope ifs σ2 H2 fun b H3 =>
        if b = true then eBk X scope elt σ2 H3 fun y H4 => ∃ acc, H4 Dl = some (.lst acc) ∧ acc.length < sizeLine ∧ Nx (upd H4 Dl (.lst (acc ++ [y]))) else Nx H3) := by
  intro Dl hD
  let Sv : Nat → Hp → Prop := fun i H' => ∃ Ad' G' M' acc, Acc X.K Dl Ad1 G1 H1 acc Ad' G' M' H' ∧ acc.length ≤ i ∧ wp (compR its (oneT g t e (wipeS ρ (own.map (·.2)))) i M') (Pa acc k)
  refine ⟨fun i m H' => m = its.n - i ∧ i ≤ its.n ∧ Sv i H', ⟨its.n, by simp, Nat.zero_le _, Ad1, G1, M1, [], acc_start hD m1, Nat.le_refl _, w⟩, ?_⟩
  rintro i m H' ⟨rfl, hi, Ad', G', M', acc, a, hl, ii⟩
  by_cases hlt : i < its.n
  · obtain ⟨s, e1, e2⟩ := comp_go hlt ii
    refine .inr ⟨wk.goes i Ad' G' M' H' hlt a.gr.ltr a.ms (by rw [e1]; rfl), Sv (i + 1), fun H2 z => ⟨its.n - (i + 1), by omega, rfl, hlt, z⟩, fun x H2 y => ?_⟩
    obtain ⟨Gc, pu, r⟩ := wk.yld i Ad' G' M' H' x H2 s hlt a.gr.ltr a.ms e1 y
    have a2 := a.grow (pu.grow (Ad := Ad')) (a.ms.pure pu)
    exact one_turn hD hg hts ht he a2 ((en.ltr a2.gr.ltr).wipe _) r (by omega) (pa_turn e2) fun Ad2 G2 M2 H3 acc' hl' _ a3 hk => ⟨Ad2, G2, M2, acc', a3, by omega, hk⟩
  · have e : i = its.n := by omega
    subst e
    obtain ⟨e1, e2⟩ := comp_end ii
    exact .inl ⟨wk.stops Ad' G' M' H' a.gr.ltr a.ms e1, fin Dl Ad' G' M' H' acc hD a (by have z : k (acc ++ []) M' := e2; rw [List.append_nil] at z; exact z)⟩
theorem se_lc (m : Bool) (hi : SI X W tg it fi) (hg : ∀ s H0 C cl fp, GT (Cx.cb X scope s H0 C cl fp) tg ts g) (hts : ∀ i ∈ ts, i ∈ own.map (·.2)) (ht : ∀ s H0 C cl fp, SIf (Cx.cb X scope s H0 C cl fp) ifs t) (he : ∀ s H0 C cl fp, SE (Cx.cb X scope s H0 C cl fp) W0 elt e)
    (hc : X.calm = true) (hN : X.N.Nodup) (ok : BlkOk X.N X.env.scope scope own) (hs : ∀ x, foldedSetIterable it X.env x = pure x := by intro _; rfl) :
    SE X W (.ListComp elt [⟨tg, it, ifs, 0⟩] scope pos) (eLc m (own.map (·.2)) fi g t e) := ⟨fun ρ M Ad G σ H Q ms en h =>
  toE (pe_lc hc hN pi_w ok pg_bk pt_bk pe_bk hs) (hi.run ρ M Ad G σ H _ ms en (wp_mono (fun r hr => by
    cases r with
    | ex c fs M1 => exact hr
    | ok its M1 =>
      intro Ad1 G1 H1 J g1 m1 wk
      have hr : wp ((if its.n < sizeLine then Ev.bind (compR its (oneT g t e (wipeS ρ (own.map (·.2)))) 0) fun ds => ofM fun M => some (mkL m M ds) else bad : Ev Sl) M1) (Po X W (RpS X.K) Q σ Ad G H) := hr
      split at hr
      · rename_i hz
        refine lc_sound (k := fun acc M2 => ∀ Ad2 G2 H2 v, Grow Ad G H Ad2 G2 H2 → MS X.K Ad2 G2 (mkL m M2 acc).2 H2 → RpS X.K Ad2 G2 v (mkL m M2 acc).1 → Q v H2) hg hts ht he wk m1 (en.grow g1) hz (wp_mono (fun r hr => ?_) (wp_evbind.mp hr)) fun Dl Ad' G' M' H' acc hD a q => acc_end hD g1 a q
        cases r with
        | ex c fs M2 => trivial
        | ok b M2 => exact fun Ad2 G2 H2 v g2 m2 r2 => hr Ad2 G2 H2 v g2 m2 r2
      · exact hr.elim) (wp_evbind.mp h)))⟩
/-- y = [..] on one line -/
theorem ss_setLc (m : Bool) {y : Str} {i : Nat} {py spos : Pos} (F : LFx X y i) (hy : X.env.scope.names.lookup y = some .local) (hi : SI X W tg it fi) (hg : ∀ s H0 C cl fp, GT (Cx.cb X scope s H0 C cl fp) tg ts g) (hts : ∀ i ∈ ts, i ∈ own.map (·.2)) (ht : ∀ s H0 C cl fp, SIf (Cx.cb X scope s H0 C cl fp) ifs t) (he : ∀ s H0 C cl fp, SE (Cx.cb X scope s H0 C cl fp) W0 elt e)
    (hc : X.calm = true) (ok : BlkOk X.N X.env.scope scope own) (hsw : swapsWith (.ListComp elt [⟨tg, it, ifs, 0⟩] scope pos) (some (.Name y py)) spos.line X.env = pure true) (hs : ∀ x, foldedSetIterable it X.env x = pure x := by intro _; rfl) :
    SS X W (.Assign [.Name y py] (.ListComp elt [⟨tg, it, ifs, 0⟩] scope pos) spos) (sSet i (eLc m (own.map (·.2)) fi g t e)) := ⟨fun ρ M Ad G σ H D ms en h =>
  toS (ps_setLc (i := i) hc F.nd F.ix hy hsw pi_w ok pg_bk pt_bk pe_bk hs) (hi.run ρ M Ad G σ H _ ms en (by
    refine wp_mono (fun r hr => ?_) (wp_evbind.mp (wp_evbind.mp h))
    cases r with
    | ex c fs M1 => exact hr σ
    | ok its M1 =>
      intro Ad1 G1 H1 J g1 m1 wk
      have hr : wp ((if its.n < sizeLine then Ev.bind (compR its (oneT g t e (wipeS ρ (own.map (·.2)))) 0) fun ds => ofM fun M => some (mkL m M ds) else bad : Ev Sl) M1) (fun r => wp (reK (fun s => R.ok (.nx (ρ.set i s))) r) (PoS X W D Ad G H)) := hr
      split at hr
      · rename_i hz
        refine lc_sound (Q := fun v H' => gName i v σ H' D.nx) (k := fun acc M2 => ∀ Ad2 G2 H2 v, Grow Ad G H Ad2 G2 H2 → MS X.K Ad2 G2 (mkL m M2 acc).2 H2 → RpS X.K Ad2 G2 v (mkL m M2 acc).1 → D.nx (σ.set i (some v)) H2) hg hts ht he wk m1 (en.grow g1) hz (wp_mono (fun r hr => ?_) (wp_evbind.mp hr)) fun Dl Ad' G' M' H' acc hD a q => acc_end (Q := fun v H' => D.nx (σ.set i (some v)) H') hD g1 a q
        cases r with
        | ex c fs M2 => trivial
        | ok b M2 => exact fun Ad2 G2 H2 v g2 m2 r2 => hr Ad2 G2 H2 _ g2 m2 ((en.grow g2).set r2)
      · exact hr.elim))⟩

theorem lc2_sound {its : Its} {Ad1 : List Addr} {G1 H1 : Hp} {M1 : List MO} {σ : L2.St} {ρ : List Sl} {J : It} {k : List D → List MO → Prop} {Q : VK}
    (hg : ∀ s H0 C cl fp, GT (Cx.cb X scope s H0 C cl fp) tg ts g) (hts : ∀ i ∈ ts, i ∈ own.map (·.2)) (ht : ∀ s H0 C cl fp, SIf (Cx.cb X scope s H0 C cl fp) ifs t) (hi1 : ∀ s H0 C cl fp, SI (Cx.cb X scope s H0 C cl fp) W0 tg1 it1 fi1)
    (hg1 : ∀ s H0 C cl fp, GT (Cx.cb X scope s H0 C cl fp) tg1 ts1 g1) (hts1 : ∀ i ∈ ts1, i ∈ vs1) (ht1 : ∀ s H0 C cl fp, SIf (Cx.cb X scope s H0 C cl fp) ifs1 t1) (he : ∀ s H0 C cl fp, SE (Cx.cb X scope s H0 C cl fp) W0 elt e)
    (wk : WalkI X.K J its Ad1 G1) (m1 : MS X.K Ad1 G1 M1 H1) (en : EnvR X.K Ad1 G1 σ ρ) (hz : its.n ≤ 4000) (w : wp (compR its (twoT g t fi1 vs1 g1 t1 e (wipeS ρ (own.map (·.2)))) 0 M1) (Pa [] k))
    (fin : ∀ Dl Ad' G' M' H' acc, H1 Dl = none → Acc X.K Dl Ad1 G1 H1 acc Ad' G' M' H' → k acc M' → Q (.ref Dl) H') :
    ∀ Dl, H1 Dl = none → ∃ W : Nat → Nat → Hp → Prop, (∃ m, W 0 m (upd H1 Dl (.lst []))) ∧ ∀ i m H, W i m H →
      (J.stop i H ∧ Q (.ref Dl) H) ∨ (J.go i H ∧ ∃ Nx : Hp → Prop, (∀ H', Nx H' → ∃ m', m' < m ∧ W (i + 1) m' H') ∧ ∀ x H', J.yld i H x H' → gBk X scope tg x (wipe σ (own.map (·.2))) H' fun σ2 H2 => wipe σ2 (own.map (·.2)) = wipe σ (own.map (·.2)) ∧ tBk X scope ifs σ2 H2 fun b H3 =>
        if b = true then iBk X scope tg1 it1 σ2 H3 fun J1 H4 => ∃ W1 : Nat → Nat → Hp → Prop, (∃ m, W1 0 m H4) ∧ ∀ j k H, W1 j k H →
          (J1.stop j H ∧ Nx H) ∨ (J1.go j H ∧ ∃ Nx1 : Hp → Prop, (∀ H', Nx1 H' → ∃ k', k' < k ∧ W1 (j + 1) k' H') ∧ ∀ x H', J1.yld j H x H' → gBk X scope tg1 x (wipe σ2 vs1) H' fun σ3 H5 => wipe σ3 vs1 = wipe σ2 vs1 ∧ tBk X scope ifs1 σ3 H5 fun b H6 =>
            if b = true then eBk X scope elt σ3 H6 fun y H7 => ∃ acc, H7 Dl = some (.lst acc) ∧ acc.length < sizeLine ∧ Nx1 (upd H7 Dl (.lst (acc ++ [y]))) else Nx1 H6)
        else Nx H3) := by
  intro Dl hD
  let Tn := twoT g t fi1 vs1 g1 t1 e (wipeS ρ (own.map (·.2)))
  let Sv : Nat → Hp → Prop := fun i H' => ∃ Ad' G' M' acc, Acc X.K Dl Ad1 G1 H1 acc Ad' G' M' H' ∧ acc.length ≤ i * 4000 ∧ wp (compR its Tn i M') (Pa acc k)
  refine ⟨fun i m H' => m = its.n - i ∧ i ≤ its.n ∧ Sv i H', ⟨its.n, by simp, Nat.zero_le _, Ad1, G1, M1, [], acc_start hD m1, Nat.zero_le _, w⟩, ?_⟩
  rintro i m H' ⟨rfl, hi, Ad', G', M', acc, a, hl, ii⟩
  by_cases hlt : i < its.n
  · obtain ⟨s, e1, e2⟩ := comp_go hlt ii
    refine .inr ⟨wk.goes i Ad' G' M' H' hlt a.gr.ltr a.ms (by rw [e1]; rfl), Sv (i + 1), fun H2 z => ⟨its.n - (i + 1), by omega, rfl, hlt, z⟩, fun x H2 y => ?_⟩
    obtain ⟨Gc, pu, r⟩ := wk.yld i Ad' G' M' H' x H2 s hlt a.gr.ltr a.ms e1 y
    have a2 := a.grow (pu.grow (Ad := Ad')) (a.ms.pure pu)
    have e3 := pa_turn e2
    cases eg : g s (wipeS ρ (own.map (·.2))) with
    | none => simp only [Tn, twoT, eg] at e3; exact e3.elim
    | some ρ1 =>
      simp only [Tn, twoT, eg] at e3
      intro s0 H0 C cl fp
      refine (hg s0 H0 C cl fp).run s _ ρ1 Ad' Gc (wipe σ (own.map (·.2))) H2 x eg a2.ms.le ((en.ltr a2.gr.ltr).wipe _) r _ ?_
      intro σ2 en2 tc
      refine ⟨by rw [tc _ hts]; exact wipe_wipe _ _, fun s1 H1' C1 cl1 fp1 => ?_⟩
      obtain ⟨tt, htt, hrun⟩ := (ht s1 H1' C1 cl1 fp1).run
      refine ⟨tt, htt, hrun ρ1 M' Ad' Gc σ2 H2 _ a2.ms en2 ?_⟩
      refine wp_bind.mpr (wp_mono (fun r hr => ?_) (wp_noX (wp_evbind.mp e3)))
      obtain ⟨b, M2, rfl, hr⟩ := hr
      intro Ad2 G2 H3 b' g2 m2 hb
      have hb : b' = b := hb
      subst hb
      have a3 := a2.grow g2 m2
      cases b' with
      | false => exact iteF (show Sv (i + 1) H3 from ⟨Ad2, G2, M2, acc, a3, by omega, by have z : wp (compR its Tn (i + 1) M2) (Pa (acc ++ []) k) := hr; rw [List.append_nil] at z; exact z⟩)
      | true =>
        refine iteT fun s4 H4' C4 cl4 fp4 => ?_
        have hr : wp (Ev.bind (noX (fi1 ρ1)) (fun its1 => if its1.n ≤ 4000 then compR its1 (oneT g1 t1 e (wipeS ρ1 vs1)) 0 else bad) M2) (Pa acc fun acc' M' => wp (compR its Tn (i + 1) M') (Pa acc' k)) := hr
        refine (hi1 s4 H4' C4 cl4 fp4).run ρ1 M2 Ad2 G2 σ2 H3 _ m2 (en2.grow g2) (wp_mono (fun r hr => ?_) (wp_noX (wp_evbind.mp hr)))
        obtain ⟨its1, M3, rfl, hr⟩ := hr
        intro Ad3 G3 H4 J1 g3 m3 wk1
        have hr : wp ((if its1.n ≤ 4000 then compR its1 (oneT g1 t1 e (wipeS ρ1 vs1)) 0 else bad : Ev (List D)) M3) (Pa acc fun acc' M' => wp (compR its Tn (i + 1) M') (Pa acc' k)) := hr
        split at hr
        · rename_i hz1
          have a4 := a3.grow g3 m3
          let Sv1 : Nat → Hp → Prop := fun j H' => ∃ Ad' G' M' acc', Acc X.K Dl Ad1 G1 H1 acc' Ad' G' M' H' ∧ Ltr Ad3 G3 Ad' G' ∧ acc'.length ≤ i * 4000 + j ∧ wp (compR its1 (oneT g1 t1 e (wipeS ρ1 vs1)) j M') (Pa acc' fun acc' M' => wp (compR its Tn (i + 1) M') (Pa acc' k))
          refine ⟨fun j m H' => m = its1.n - j ∧ j ≤ its1.n ∧ Sv1 j H', ⟨its1.n, by simp, Nat.zero_le _, Ad3, G3, M3, acc, a4, Ltr.refl _ _, by omega, hr⟩, ?_⟩
          rintro j m H5 ⟨rfl, hj, Ad5, G5, M5, acc5, a5, l5, hl5, ii5⟩
          by_cases hlt5 : j < its1.n
          · obtain ⟨s5, f1, f2⟩ := comp_go hlt5 ii5
            refine .inr ⟨wk1.goes j Ad5 G5 M5 H5 hlt5 l5 a5.ms (by rw [f1]; rfl), Sv1 (j + 1), fun H2 z => ⟨its1.n - (j + 1), by omega, rfl, hlt5, z⟩, fun x6 H6 y6 => ?_⟩
            obtain ⟨Gc6, pu6, r6⟩ := wk1.yld j Ad5 G5 M5 H5 x6 H6 s5 hlt5 l5 a5.ms f1 y6
            have a6 := a5.grow (pu6.grow (Ad := Ad5)) (a5.ms.pure pu6)
            have l6 := l5.trans (pu6.grow (Ad := Ad5)).ltr
            have hsz : acc5.length < sizeLine := by unfold sizeLine; omega
            exact one_turn hD hg1 hts1 ht1 he a6 ((en2.ltr ((g2.trans g3).ltr.trans l6)).wipe _) r6 hsz (pa_turn f2) fun Ad7 G7 M7 H7 acc' hl' l7 a7 hk => ⟨Ad7, G7, M7, acc', a7, l6.trans l7, by omega, hk⟩
          · have e : j = its1.n := by omega
            subst e
            obtain ⟨f1, f2⟩ := comp_end ii5
            refine .inl ⟨wk1.stops Ad5 G5 M5 H5 l5 a5.ms f1, Ad5, G5, M5, acc5, a5, by omega, ?_⟩
            have z : wp (compR its Tn (i + 1) M5) (Pa (acc5 ++ []) k) := f2
            rw [List.append_nil] at z; exact z
        · exact hr.elim
  · have e : i = its.n := by omega
    subst e
    obtain ⟨e1, e2⟩ := comp_end ii
    exact .inl ⟨wk.stops Ad' G' M' H' a.gr.ltr a.ms e1, fin Dl Ad' G' M' H' acc hD a (by have z : k (acc ++ []) M' := e2; rw [List.append_nil] at z; exact z)⟩
theorem se_lc2 (m : Bool) (hi : SI X W tg it fi) (hg : ∀ s H0 C cl fp, GT (Cx.cb X scope s H0 C cl fp) tg ts g) (hts : ∀ i ∈ ts, i ∈ own.map (·.2)) (ht : ∀ s H0 C cl fp, SIf (Cx.cb X scope s H0 C cl fp) ifs t) (hi1 : ∀ s H0 C cl fp, SI (Cx.cb X scope s H0 C cl fp) W0 tg1 it1 fi1)
    (hg1 : ∀ s H0 C cl fp, GT (Cx.cb X scope s H0 C cl fp) tg1 ts1 g1) (hts1 : ∀ i ∈ ts1, i ∈ vs1) (ht1 : ∀ s H0 C cl fp, SIf (Cx.cb X scope s H0 C cl fp) ifs1 t1) (he : ∀ s H0 C cl fp, SE (Cx.cb X scope s H0 C cl fp) W0 elt e)
    (hc : X.calm = true) (hN : X.N.Nodup) (ok : BlkOk X.N X.env.scope scope own) (hv : ∀ i ∈ vs1, i ∈ own.map (·.2)) (hs : ∀ x, foldedSetIterable it X.env x = pure x := by intro _; rfl) (hs1 : ∀ env x, foldedSetIterable it1 env x = pure x := by intro _ _; rfl) :
    SE X W (.ListComp elt [⟨tg, it, ifs, 0⟩, ⟨tg1, it1, ifs1, 0⟩] scope pos) (eLc2 m (own.map (·.2)) fi g t fi1 vs1 g1 t1 e) := ⟨fun ρ M Ad G σ H Q ms en h =>
  toE (pe_lc2 hc hN pi_w ok hv pg_bk pt_bk pi_bk pg_bk pt_bk pe_bk hs hs1) (hi.run ρ M Ad G σ H _ ms en (wp_mono (fun r hr => by
    cases r with
    | ex c fs M1 => exact hr
    | ok its M1 =>
      intro Ad1 G1 H1 J gr m1 wk
      have hr : wp ((if its.n ≤ 4000 then Ev.bind (compR its (twoT g t fi1 vs1 g1 t1 e (wipeS ρ (own.map (·.2)))) 0) fun ds => ofM fun M => some (mkL m M ds) else bad : Ev Sl) M1) (Po X W (RpS X.K) Q σ Ad G H) := hr
      split at hr
      · rename_i hz
        refine lc2_sound (k := fun acc M2 => ∀ Ad2 G2 H2 v, Grow Ad G H Ad2 G2 H2 → MS X.K Ad2 G2 (mkL m M2 acc).2 H2 → RpS X.K Ad2 G2 v (mkL m M2 acc).1 → Q v H2) hg hts ht hi1 hg1 hts1 ht1 he wk m1 (en.grow gr) hz (wp_mono (fun r hr => ?_) (wp_evbind.mp hr)) fun Dl Ad' G' M' H' acc hD a q => acc_end hD gr a q
        cases r with
        | ex c fs M2 => trivial
        | ok b M2 => exact fun Ad2 G2 H2 v g2 m2 r2 => hr Ad2 G2 H2 v g2 m2 r2
      · exact hr.elim) (wp_evbind.mp h)))⟩
end
end R

set_option Elab.async false
set_option linter.all false
set_option maxRecDepth 100000
set_option maxHeartbeats 4000000
namespace R
open PySem PySem.Spec PyProof.Rows L2
variable [Keys]

/-- the signs of a text -/
def sgn (c : Nat) : D := .str ⟨#[c]⟩
def sgns (z : Str) : List D := z.cps.toList.map sgn
def rng (lo : Int) (n : Nat) : List D := (List.range n).map fun i : Nat => .int (lo + i)
def enumD : Nat → List D → List D
  | _, [] => []
  | i, d :: ds => .tup [.int (i : Nat), d] :: enumD (i + 1) ds
def zipD : List D → List D → List D
  | d :: ds, e :: es => .tup [d, e] :: zipD ds es
  | _, _ => []
theorem enumD_get : ∀ (ds : List D) (k i : Nat), (enumD k ds)[i]? = ds[i]?.map fun d => D.tup [.int ((k + i : Nat) : Int), d]
  | [], _, _ => by simp [enumD]
  | d :: ds, k, 0 => by simp [enumD]
  | d :: ds, k, i + 1 => by
    rw [enumD, List.getElem?_cons_succ, List.getElem?_cons_succ, enumD_get ds (k + 1) i]
    have : k + 1 + i = k + (i + 1) := by omega
    rw [this]
theorem enumD_len : ∀ (ds : List D) (k : Nat), (enumD k ds).length = ds.length
  | [], _ => rfl
  | _ :: ds, k => congrArg Nat.succ (enumD_len ds (k + 1))
theorem zipD_get : ∀ (ds es : List D) (i : Nat), (zipD ds es)[i]? = match ds[i]?, es[i]? with
    | some d, some e => some (.tup [d, e])
    | _, _ => none
  | [], _, _ => by simp [zipD]
  | _ :: _, [], i => by simp [zipD]
  | d :: ds, e :: es, 0 => by simp [zipD]
  | d :: ds, e :: es, i + 1 => by rw [zipD, List.getElem?_cons_succ, List.getElem?_cons_succ, List.getElem?_cons_succ, zipD_get ds es i]
theorem zipD_len : ∀ (ds es : List D), (zipD ds es).length = min ds.length es.length
  | [], _ => by simp [zipD]
  | _ :: _, [] => by simp [zipD]
  | _ :: ds, _ :: es => by simp [zipD, zipD_len ds es]
/-! ### enumerate over whatever begins and draws -/
theorem meets_enum1 {v : Value} {o : Obj} {H : Heap → Prop} (B : Begins v o H) :
    Meets (Builtin.«enumerate.__new__» ⟨[.type "enumerate", v], []⟩) (fun _ R s => H s.heap ∧
      R (.ok (.ret (.ref (s.heap.push o).objs.size))) { s with heap := (s.heap.push o).push { cls := .type "enumerate", data := .fields #[.none, .bool false, .ref s.heap.objs.size, rawInt 0, .none, .none] } }) :=
  .of_wp fun prog w A R s h => by
    obtain ⟨hp, g, d, tk, os⟩ := s; obtain ⟨h1, h⟩ := h
    have hsub := sub_enumerate
    have q1 : ∀ {A' : Around} {E : Value → Shared → Prop} {Q : Value → Shared → Prop}, Q (.ref hp.objs.size) ⟨hp.push o, g, d, tk, os⟩ → wpAny (model prog w) A' (pyIter v) Q E ⟨hp, g, d, tk, os⟩ :=
      fun q => B.iter prog w _ _ ⟨hp, g, d, tk, os⟩ _ h1 q
    wp_walk using q1
    refine wpAny_stack_any fun st => wpAny_pure ?_
    split
    · rename_i c _ _ _ _ _
      cases (c == Value.type "enumerate")
      · wp_walk using q1
        exact ⟨_, rfl, h⟩
      · wp_walk using q1
        exact ⟨_, rfl, h⟩
    · wp_walk using q1
      exact ⟨_, rfl, h⟩
theorem call_enum1 {prog : Program} {w : World} {A : Around} {E : Value → Shared → Prop} {s : Shared} {v : Value} {o : Obj} {H : Heap → Prop} {Q : Value → Shared → Prop} (B : Begins v o H) (h1 : H s.heap)
    (h : ∀ h', IsEnum h' (s.heap.objs.size + 1) s.heap.objs.size 0 .none → h'.get? s.heap.objs.size = some o → h'.objs.size = s.heap.objs.size + 2 →
      (∀ b o, s.heap.get? b = some o → h'.get? b = some o) → Q (.ref (s.heap.objs.size + 1)) { s with heap := h' }) :
    wpAny (model prog w) A (call (.type "enumerate") [v]) Q E s := by
  refine callType_new F.called_enumerate (by decide) (F.typeCall_enumerate_1 _) (F.newCall_enumerate_1 _) (fun obj => F.args_object_init_2 obj _) F.entry_enumerate_new
    (meets_enum1 B) ⟨h1, ?_⟩
  have hz : (s.heap.push o).objs.size = s.heap.objs.size + 1 := Heap.size_push ..
  show _ ∧ _
  rw [hz]
  have he : IsEnum ((s.heap.push o).push { cls := .type "enumerate", data := .fields #[.none, .bool false, .ref s.heap.objs.size, rawInt 0, .none, .none] }) (s.heap.objs.size + 1) s.heap.objs.size 0 .none := by
    have := Heap.get?_push_size (s.heap.push o) (o := { cls := .type "enumerate", data := .fields #[.none, .bool false, .ref s.heap.objs.size, rawInt 0, .none, .none] }) rfl
    rw [hz] at this; exact this
  refine ⟨⟨_, he, rfl⟩, h _ he (Heap.get?_push_of_some _ (Heap.get?_push_size _ B.free)) (by rw [Heap.size_push, hz]) fun b o x => Heap.get?_push_of_some _ (Heap.get?_push_of_some _ x)⟩

/-- the pairs of a text's signs -/
def IteS (z : Str) : It := ⟨fun i H => i < z.cps.size, fun i H v H' => ∃ T c, v = .ref T ∧ H T = none ∧ H' = upd H T (.tup [.int (i : Nat), .str ⟨#[c]⟩]) ∧ z.cps[i]? = some c, fun i H => i = z.cps.size⟩
/-- the pairs of a tuple's items -/
def IteT (K : PySem.W.Frag) (a : Addr) : It :=
  ⟨fun i H => ∃ (xs : List V) (x : V), SqT K H a xs ∧ xs[i]? = some x, fun i H v H' => ∃ T x, v = .ref T ∧ H T = none ∧ H' = upd H T (.tup [.int (i : Nat), x]) ∧ ∀ xs, SqT K H a xs → xs[i]? = some x, fun i H => ∃ xs : List V, SqT K H a xs ∧ xs.length = i⟩
section
variable {P : Program} {w : World} {K : PySem.W.Frag} {elts : List Expr} {kk : Nat} {tpos : Pos}
/-- one turn of enumerate, by what the inner iterator draws -/
theorem enum_item {X : Cx} {i : Nat} {pins : List (Addr × Obj)} {s : Shared} {σ : L2.St} {H : Hp} {E : Value → Shared → Prop} {e it : Addr} {n : Nat} {fp : List Addr} {Pv : Nat → Value → Prop} {St : Nat → Heap → Prop} (D : Draws X.prog X.w X.A.in1 it fp n Pv St) (I : Inv X pins σ H s) (hf : ∀ b ∈ [e, it], FpOk X pins H b)
    (he : ∃ old, IsEnum s.heap e it ((i : Nat) : Int) old) (hst : St i s.heap) (hlt : i < n) (hne : e ≠ it) (hef : e ∉ fp) {R : V → Hp → Prop} {tn : Heap → Prop} (htn : ∀ h', (∃ old, IsEnum h' e it (((i + 1 : Nat) : Nat) : Int) old) → St (i + 1) h' → tn h') {Y : Prop → Prop}
    (fin : ∀ u x, Pv i u → RelV x u → ∀ T H', H T = none → H' = upd H T (.tup [.int (i : Nat), x]) → R (.ref T) H') (hv : ∀ u, Pv i u → ∃ x, RelV x u) :
    wpAny (model X.prog X.w) X.A (pyNext (.ref e)) (fun r s' => ∃ u, r = some u ∧ wpAny (model X.prog X.w) X.A (letOwnedTupleGo (.Tuple elts kk tpos) (.ref e) u) (fun _ s'' => ∃ v H', Inv X pins σ H' s'' ∧ RelV v u ∧ R v H' ∧ tn s''.heap ∧ ∀ b ∈ [e, it], H' b = none) E s') E s := by
  obtain ⟨old, he⟩ := he
  have hel : e < s.heap.objs.size := Heap.lt_size he
  have hil : it < s.heap.objs.size := by obtain ⟨_, q⟩ := D.live _ _ hst; exact Heap.lt_size q
  refine wpAny_pyNext_enum_itemD D he hst hlt hne hef fun u h' tk hP ho hst' hT hsz hk => ?_
  obtain ⟨x, rx⟩ := hv u hP
  refine ⟨_, rfl, wpAny_letOwnedTupleGo_enum (s := { s with heap := h', toks := tk + 1 }) ho fun h'' he' sb => ?_⟩
  have hT2 : h''.get? s.heap.objs.size = some { cls := .type "tuple", data := .seq #[.int i tk, u] } := (sb.2 _ (Nat.ne_of_gt hel)).trans hT
  have new : ObjOk X.prog X.w (upd H s.heap.objs.size (.tup [.int (i : Nat), x])) h'' s.heap.objs.size (.tup [.int (i : Nat), x]) :=
    ⟨by show 2 ≤ sizeLine; decide, [.int i tk, u], .cons ⟨_, rfl⟩ (.cons rx .nil), ⟨_, hT2, rfl, _, rfl⟩⟩
  have I1 : Inv X pins σ (upd H s.heap.objs.size (.tup [.int (i : Nat), x])) { s with heap := h'', toks := tk + 1 } :=
    I.turnedNew (ch := [e, it]) (fun b ob hb q => (sb.2 b (fun z => hb (by simp [z]))).trans (hk b ob (fun z => hb (by simp [z])) (fun z => hb (by simp [z])) q)) hf (Nat.le_refl _) new
  refine ⟨.ref s.heap.objs.size, _, I1, rfl, fin u x hP rx _ _ (I.hok.fresh (Nat.le_refl _)) rfl, htn _ ⟨u, ?_⟩ (D.frame _ _ _ hst' fun b hb o q => (sb.2 b fun z => hef (z ▸ hb)).trans q), fun b hb => ?_⟩
  · have e1 : ((i + 1 : Nat) : Int) = (i : Int) + 1 := by omega
    rw [e1]; exact he'
  · have hb' : b < s.heap.objs.size := by
      have e' : b = e ∨ b = it := by simpa using hb
      rcases e' with z | z
      · rw [z]; exact hel
      · rw [z]; exact hil
    rw [upd_ne (Nat.ne_of_lt hb')]
    exact (hf b hb).1
theorem turn_enumS (z : Str) (t : Tok) (e it : Addr) :
    Turn P w K (.Tuple elts kk tpos) (IteS z) [e, it] e (fun i h => (∃ old, IsEnum h e it ((i : Nat) : Int) old) ∧ h.IsStrIter it (strIterType z) z t i ∧ e ≠ it) where
  mem := by simp
  obj := fun i h st b hb => by
    obtain ⟨⟨old, he⟩, ⟨o, ho, hc, hd⟩, _⟩ := st
    have e' : b = e ∨ b = it := by simpa using hb
    rcases e' with z | z
    · rw [z]; exact ⟨_, he, fun v q => nomatch q⟩
    · rw [z]; exact ⟨o, ho, fun v q => by rw [hd] at q; cases q⟩
  keep := fun i h h' st k => let ⟨⟨old, he⟩, ⟨o, ho, r⟩, hne⟩ := st; ⟨⟨old, k e (by simp) _ he⟩, ⟨o, k it (by simp) _ ho, r⟩, hne⟩
  item := by
    intro X hP hw hK hc i pins s σ H E I hf st hg
    subst hP hw hK
    obtain ⟨he, hit, hne⟩ := st
    refine enum_item (Draws.text (A := X.A.in1) (I.ok.hd hc) it z t) I hf he hit hg hne (by simpa using hne) (tn := fun h => (∃ old, IsEnum h e it ((i + 1 : Nat) : Int) old) ∧ h.IsStrIter it (strIterType z) z t (i + 1) ∧ e ≠ it) (fun h' w1 w2 => ⟨w1, w2, hne⟩) (Y := fun x => x) (R := (IteS z).yld i H) (fun u x hP rx T H' hT hH => ?_) (fun u hP => ?_)
    · obtain ⟨c, tk, hc, rfl⟩ := hP
      have : x = .str ⟨#[c]⟩ := by
        cases x with
        | str y => obtain ⟨t', q⟩ := (show ∃ t', Value.str ⟨#[c]⟩ tk = Value.str y t' from rx); cases q; rfl
        | _ => first | (obtain ⟨_, q⟩ := rx; cases q; done) | (cases rx; done)
      subst this
      exact ⟨T, c, rfl, hT, hH, hc⟩
    · obtain ⟨c, tk, hc, rfl⟩ := hP
      exact ⟨.str ⟨#[c]⟩, tk, rfl⟩
  done := by
    intro X hP hw hK hc i pins s σ H E I hf st hg
    subst hP hw hK
    obtain ⟨⟨old, he⟩, hit, hne⟩ := st
    obtain ⟨f0, f1, f2, f3, f4, f5⟩ := hf it (by simp)
    obtain rfl : i = z.cps.size := hg
    exact wpAny_pyNext_enum_endD (Draws.text (A := X.A.in1) (I.ok.hd hc) it z t) he hit fun h' eb => ⟨rfl, I.turned (t' := s.toks) (fun b o hb q => eb b o hb q) f0 f1 f3 f4 f5⟩
  self := fun A i s Q E st h => let ⟨⟨_, he⟩, _⟩ := st; wpAny_pyIter_enum he h
theorem turn_enumT (a e it : Addr) (its : Array Value) :
    Turn P w K (.Tuple elts kk tpos) (IteT K a) [e, it] e (fun i h => (∃ old, IsEnum h e it ((i : Nat) : Int) old) ∧ h.IsTupleIter it a i ∧ e ≠ it ∧ a ≠ it ∧ a ≠ e) where
  mem := by simp
  obj := fun i h st b hb => by
    obtain ⟨⟨old, he⟩, ⟨o, ho, hc, hd⟩, _⟩ := st
    have e' : b = e ∨ b = it := by simpa using hb
    rcases e' with z | z
    · rw [z]; exact ⟨_, he, fun v q => nomatch q⟩
    · rw [z]; exact ⟨o, ho, fun v q => by rw [hd] at q; cases q⟩
  keep := fun i h h' st k => let ⟨⟨old, he⟩, hi, hne⟩ := st; ⟨⟨old, k e (by simp) _ he⟩, hi.at fun o q => k it (by simp) o q, hne⟩
  item := by
    intro X hP hw hK hc i pins s σ H E I hf st hg
    subst hP hw hK
    obtain ⟨he, hit, hne, hai, hae⟩ := st
    obtain ⟨xs, x, hq, hx⟩ := hg
    obtain ⟨its, rv, p, hz⟩ := I.tuple hq
    have hlt : i < its.length := by rw [← rv.length]; exact (List.getElem?_eq_some_iff.mp hx).1
    refine enum_item (Draws.tuple (A := X.A.in1) (I.ok.hd hc) it a hai its.toArray) I hf he ⟨hit, p⟩ (by simpa using hlt) hne (by simp; exact ⟨hne, fun z => hae z.symm⟩) (tn := fun h => (∃ old, IsEnum h e it ((i + 1 : Nat) : Int) old) ∧ h.IsTupleIter it a (i + 1) ∧ e ≠ it ∧ a ≠ it ∧ a ≠ e) (fun h' w1 w2 => ⟨w1, w2.1, hne, hai, hae⟩) (Y := fun x => x) (R := (IteT X.K a).yld i H) (fun u y hP ry T H' hT hH => ?_) (fun u hP => ?_)
    · obtain ⟨u', hu, ru⟩ := rv.get hx
      have hP' : its[i]? = some u := by simpa using hP
      rw [hu] at hP'; cases hP'
      have : y = x := L2.RelV.inj ry ru
      subst this
      exact ⟨T, y, rfl, hT, hH, fun ys hy => by rw [I.tuple_inj hy hq]; exact hx⟩
    · obtain ⟨u', hu, ru⟩ := rv.get hx
      have hP' : its[i]? = some u := by simpa using hP
      rw [hu] at hP'; cases hP'
      exact ⟨x, ru⟩
  done := by
    intro X hP hw hK hc i pins s σ H E I hf st hg
    subst hP hw hK
    obtain ⟨⟨old, he⟩, hit, hne, hai, hae⟩ := st
    obtain ⟨xs, hq, hx⟩ := hg
    obtain ⟨its, rv, p, hz⟩ := I.tuple hq
    obtain ⟨f0, f1, f2, f3, f4, f5⟩ := hf it (by simp)
    have hn : its.toArray.size = i := by rw [List.size_toArray, ← rv.length]; exact hx
    subst hn
    exact wpAny_pyNext_enum_endD (Draws.tuple (A := X.A.in1) (I.ok.hd hc) it a hai its.toArray) he ⟨hit, p⟩ fun h' eb => ⟨rfl, I.turned (t' := s.toks) (fun b o hb q => eb b o hb q) f0 f1 f3 f4 f5⟩
  self := fun A i s Q E st h => let ⟨⟨_, he⟩, _⟩ := st; wpAny_pyIter_enum he h
end

/-! ### walks -/
section
variable {K : PySem.W.Frag} {Ad : List Addr} {G H : Hp}
theorem data_at {ds : List D} {i : Nat} {M : List MO} {s : Sl} (h : (Its.data ds).at_ M i = some s) : ∃ d, ds[i]? = some d ∧ s = .dat d := by
  have h : ds[i]?.map Sl.dat = some s := h
  cases e : ds[i]? with
  | none => rw [e] at h; cases h
  | some d => rw [e] at h; cases h; exact ⟨d, rfl, rfl⟩
theorem wk_list {a : Addr} {xs : List V} {ds : List D} (h : SqL K G a xs) (r : Rps K G xs ds) : WalkI K (Itl K a) (.data ds) Ad G where
  goes i Ad' G' M' H' hi l ms _ := by
    have hi : i < ds.length := hi
    exact ⟨xs, xs[i]'(by rw [r.length]; exact hi), ms.le.l (l.ex.l h), by simp⟩
  stops Ad' G' M' H' l ms _ := ⟨xs, ms.le.l (l.ex.l h), by show xs.length ≤ ds.length; rw [r.length]; exact Nat.le_refl _⟩
  yld i Ad' G' M' H' x H2 s hi l ms hs y := by
    obtain ⟨d, hd, rfl⟩ := data_at hs
    obtain ⟨rfl, hx⟩ := y
    obtain ⟨v, h1, h2⟩ := r.get hd
    have := hx xs (ms.le.l (l.ex.l h))
    rw [h1] at this; cases this
    exact ⟨G', Pure.refl ms.le, h2.mono l.ex⟩
theorem wk_tup {a : Addr} {xs : List V} {ds : List D} (h : SqT K G a xs) (r : Rps K G xs ds) : WalkI K (Itt K a) (.data ds) Ad G where
  goes i Ad' G' M' H' hi l ms _ := by
    have hi : i < ds.length := hi
    exact ⟨xs, xs[i]'(by rw [r.length]; exact hi), ms.le.t (l.ex.t h), by simp⟩
  stops Ad' G' M' H' l ms _ := ⟨xs, ms.le.t (l.ex.t h), by show xs.length ≤ ds.length; rw [r.length]; exact Nat.le_refl _⟩
  yld i Ad' G' M' H' x H2 s hi l ms hs y := by
    obtain ⟨d, hd, rfl⟩ := data_at hs
    obtain ⟨rfl, hx⟩ := y
    obtain ⟨v, h1, h2⟩ := r.get hd
    have := hx xs (ms.le.t (l.ex.t h))
    rw [h1] at this; cases this
    exact ⟨G', Pure.refl ms.le, h2.mono l.ex⟩
theorem wk_str {z : Str} : WalkI K (L2.Its z) (.data (sgns z)) Ad G where
  goes i Ad' G' M' H' hi l ms _ := by
    have hi : i < (sgns z).length := hi
    show i < z.cps.size
    simpa [sgns] using hi
  stops Ad' G' M' H' l ms _ := by show z.cps.size ≤ (sgns z).length; simp [sgns]
  yld i Ad' G' M' H' x H2 s hi l ms hs y := by
    obtain ⟨d, hd, rfl⟩ := data_at hs
    obtain ⟨rfl, c, h1, rfl⟩ := y
    refine ⟨G', Pure.refl ms.le, ?_⟩
    unfold sgns at hd
    rw [List.getElem?_map, Array.getElem?_toList, h1] at hd
    cases hd
    exact Rp.str _
theorem wk_range {lo : Int} {n : Nat} : WalkI K (Itr lo n) (.data (rng lo n)) Ad G where
  goes i Ad' G' M' H' hi l ms _ := by
    have hi : i < (rng lo n).length := hi
    show i < n
    simpa [rng] using hi
  stops Ad' G' M' H' l ms _ := by show n ≤ (rng lo n).length; simp [rng]
  yld i Ad' G' M' H' x H2 s hi l ms hs y := by
    obtain ⟨d, hd, rfl⟩ := data_at hs
    obtain ⟨rfl, rfl⟩ := y
    refine ⟨G', Pure.refl ms.le, ?_⟩
    unfold rng at hd
    rw [List.getElem?_map] at hd
    cases q : (List.range n)[i]? with
    | none => rw [q] at hd; cases hd
    | some j =>
      rw [q] at hd
      obtain ⟨h1, h2⟩ := List.getElem?_eq_some_iff.mp q
      have e : j = i := by rw [← h2]; simp
      subst e
      cases hd
      exact Rp.int _
/-- a new pair -/
theorem pair_new {G' H' : Hp} {T : Addr} {u v : V} {d1 d2 : D} (l : Le G' H') (hT : H' T = none) (r1 : Rp K G' u d1) (r2 : Rp K G' v d2) : ∃ Gc, Pure G' H' Gc (upd H' T (.tup [u, v])) ∧ Rp K Gc (.ref T) (.tup [d1, d2]) := by
  have pu := Pure.new (o := .tup [u, v]) l hT
  exact ⟨_, pu, .tup (.inl (.inl upd_same)) (.cons (r1.mono pu.ex) (.cons (r2.mono pu.ex) .nil))⟩
theorem wk_enumL {a : Addr} {xs : List V} {ds : List D} (h : SqL K G a xs) (r : Rps K G xs ds) : WalkI K (Ite K a) (.data (enumD 0 ds)) Ad G where
  goes i Ad' G' M' H' hi l ms _ := by
    have hi : i < (enumD 0 ds).length := hi
    rw [enumD_len] at hi
    exact ⟨xs, xs[i]'(by rw [r.length]; exact hi), ms.le.l (l.ex.l h), by simp⟩
  stops Ad' G' M' H' l ms _ := ⟨xs, ms.le.l (l.ex.l h), by show xs.length ≤ (enumD 0 ds).length; rw [r.length, enumD_len]; exact Nat.le_refl _⟩
  yld i Ad' G' M' H' x H2 s hi l ms hs y := by
    obtain ⟨d, hd, rfl⟩ := data_at hs
    obtain ⟨T, v, rfl, hT, rfl, hx⟩ := y
    rw [enumD_get] at hd
    cases e : ds[i]? with
    | none => rw [e] at hd; cases hd
    | some f =>
      rw [e] at hd
      have e0 : (0 + i) = i := Nat.zero_add i
      rw [e0] at hd
      cases hd
      obtain ⟨w, h1, h2⟩ := r.get e
      have := hx xs (ms.le.l (l.ex.l h))
      rw [h1] at this; cases this
      exact pair_new ms.le hT (.int _) (h2.mono l.ex)
theorem wk_enumT {a : Addr} {xs : List V} {ds : List D} (h : SqT K G a xs) (r : Rps K G xs ds) : WalkI K (IteT K a) (.data (enumD 0 ds)) Ad G where
  goes i Ad' G' M' H' hi l ms _ := by
    have hi : i < (enumD 0 ds).length := hi
    rw [enumD_len] at hi
    exact ⟨xs, xs[i]'(by rw [r.length]; exact hi), ms.le.t (l.ex.t h), by simp⟩
  stops Ad' G' M' H' l ms _ := ⟨xs, ms.le.t (l.ex.t h), by show xs.length = (enumD 0 ds).length; rw [r.length, enumD_len]⟩
  yld i Ad' G' M' H' x H2 s hi l ms hs y := by
    obtain ⟨d, hd, rfl⟩ := data_at hs
    obtain ⟨T, v, rfl, hT, rfl, hx⟩ := y
    rw [enumD_get] at hd
    cases e : ds[i]? with
    | none => rw [e] at hd; cases hd
    | some f =>
      rw [e] at hd
      have e0 : (0 + i) = i := Nat.zero_add i
      rw [e0] at hd
      cases hd
      obtain ⟨w, h1, h2⟩ := r.get e
      have := hx xs (ms.le.t (l.ex.t h))
      rw [h1] at this; cases this
      exact pair_new ms.le hT (.int _) (h2.mono l.ex)
theorem wk_enumS {z : Str} : WalkI K (IteS z) (.data (enumD 0 (sgns z))) Ad G where
  goes i Ad' G' M' H' hi l ms _ := by
    have hi : i < (enumD 0 (sgns z)).length := hi
    rw [enumD_len] at hi
    show i < z.cps.size
    simpa [sgns] using hi
  stops Ad' G' M' H' l ms _ := by show (enumD 0 (sgns z)).length = z.cps.size; rw [enumD_len]; simp [sgns]
  yld i Ad' G' M' H' x H2 s hi l ms hs y := by
    obtain ⟨d, hd, rfl⟩ := data_at hs
    obtain ⟨T, c, rfl, hT, rfl, hc⟩ := y
    rw [enumD_get] at hd
    unfold sgns at hd
    rw [List.getElem?_map, Array.getElem?_toList, hc] at hd
    have e0 : (0 + i) = i := Nat.zero_add i
    rw [e0] at hd
    cases hd
    exact pair_new ms.le hT (.int _) (.str _)
theorem wk_zipL {a b : Addr} {xs ys : List V} {ds es : List D} (h : SqL K G a xs) (r : Rps K G xs ds) (h2 : SqL K G b ys) (r2 : Rps K G ys es) : WalkI K (Itz K a b) (.data (zipD ds es)) Ad G where
  goes i Ad' G' M' H' hi l ms _ := by
    have hi : i < (zipD ds es).length := hi
    rw [zipD_len] at hi
    exact ⟨xs, ys, xs[i]'(by rw [r.length]; omega), ys[i]'(by rw [r2.length]; omega), ms.le.l (l.ex.l h), ms.le.l (l.ex.l h2), by simp, by simp⟩
  stops Ad' G' M' H' l ms _ := ⟨xs, ys, ms.le.l (l.ex.l h), ms.le.l (l.ex.l h2), by show xs.length ≤ (zipD ds es).length ∨ ys.length ≤ (zipD ds es).length; rw [zipD_len, r.length, r2.length]; omega⟩
  yld i Ad' G' M' H' x H2 s hi l ms hs y := by
    obtain ⟨d, hd, rfl⟩ := data_at hs
    obtain ⟨T, u, v, rfl, hT, rfl, hx, hy⟩ := y
    rw [zipD_get] at hd
    split at hd
    · rename_i d1 d2 e1 e2
      cases hd
      obtain ⟨w1, q1, q2⟩ := r.get e1
      obtain ⟨w2, p1, p2⟩ := r2.get e2
      have z1 := hx xs (ms.le.l (l.ex.l h))
      have z2 := hy ys (ms.le.l (l.ex.l h2))
      rw [q1] at z1; cases z1
      rw [p1] at z2; cases z2
      exact pair_new ms.le hT (q2.mono l.ex) (p2.mono l.ex)
    · cases hd
/-! over a list that may change -/
def liveI (j : Nat) : List MO → Nat → Option Sl := fun M i => match M[j]? with
  | some (.lst xs) => xs[i]?.map (nrm M)
  | _ => none
def liveF (j n : Nat) : List MO → Bool := fun M => match M[j]? with
  | some (.lst xs) => xs.length == n
  | _ => false
def liveE (j : Nat) : List MO → Nat → Option Sl := fun M i => match M[j]? with
  | some (.lst xs) => match xs[i]? with
    | some (.dat d) => some (.dat (.tup [.int (i : Nat), d]))
    | _ => none
  | _ => none
theorem live_at {j : Nat} {a : Addr} {G' H' : Hp} {Ad' : List Addr} {M' : List MO} {xs : List Sl} (h : Ad[j]? = some a) (l : Ltr Ad G Ad' G') (ms : MS K Ad' G' M' H') (e : M'[j]? = some (.lst xs)) : ∃ vs, H' a = some (.lst vs) ∧ RpSs K Ad' G' vs xs := by
  exact (ms.mo j a _ (l.get h) e).2
theorem wk_live {j : Nat} {a : Addr} {n : Nat} (h : Ad[j]? = some a) : WalkI K (Itl K a) (.live n (liveI j) (liveF j n)) Ad G where
  goes i Ad' G' M' H' hi l ms hs := by
    have hs : (liveI j M' i).isSome = true := hs
    unfold liveI at hs
    split at hs
    · rename_i xs e
      obtain ⟨vs, h1, h2⟩ := live_at h l ms e
      cases ex : xs[i]? with
      | none => rw [ex] at hs; cases hs
      | some s =>
        obtain ⟨v, e1, _⟩ := h2.get ex
        exact ⟨vs, v, SqL.of h1, e1⟩
    · cases hs
  stops Ad' G' M' H' l ms hs := by
    have hs : liveF j n M' = true := hs
    unfold liveF at hs
    split at hs
    · rename_i xs e
      obtain ⟨vs, h1, h2⟩ := live_at h l ms e
      exact ⟨vs, SqL.of h1, by show vs.length ≤ n; rw [h2.length]; exact Nat.le_of_eq (eq_of_beq hs)⟩
    · cases hs
  yld i Ad' G' M' H' x H2 s hi l ms hs y := by
    have hs : liveI j M' i = some s := hs
    obtain ⟨rfl, hx⟩ := y
    unfold liveI at hs
    split at hs
    · rename_i xs e
      obtain ⟨vs, h1, h2⟩ := live_at h l ms e
      cases ex : xs[i]? with
      | none => rw [ex] at hs; cases hs
      | some t =>
        rw [ex] at hs; cases hs
        obtain ⟨v, e1, e2⟩ := h2.get ex
        have := hx vs (SqL.of h1)
        rw [e1] at this; cases this
        exact ⟨G', Pure.refl ms.le, nrm_ok ms e2⟩
    · cases hs
theorem wk_liveE {j : Nat} {a : Addr} {n : Nat} (h : Ad[j]? = some a) : WalkI K (Ite K a) (.live n (liveE j) (liveF j n)) Ad G where
  goes i Ad' G' M' H' hi l ms hs := by
    have hs : (liveE j M' i).isSome = true := hs
    unfold liveE at hs
    split at hs
    · rename_i xs e
      obtain ⟨vs, h1, h2⟩ := live_at h l ms e
      split at hs
      · rename_i d ex
        obtain ⟨v, e1, _⟩ := h2.get ex
        exact ⟨vs, v, SqL.of h1, e1⟩
      · cases hs
    · cases hs
  stops Ad' G' M' H' l ms hs := by
    have hs : liveF j n M' = true := hs
    unfold liveF at hs
    split at hs
    · rename_i xs e
      obtain ⟨vs, h1, h2⟩ := live_at h l ms e
      exact ⟨vs, SqL.of h1, by show vs.length ≤ n; rw [h2.length]; exact Nat.le_of_eq (eq_of_beq hs)⟩
    · cases hs
  yld i Ad' G' M' H' x H2 s hi l ms hs y := by
    have hs : liveE j M' i = some s := hs
    obtain ⟨T, u, rfl, hT, rfl, hx⟩ := y
    unfold liveE at hs
    split at hs
    · rename_i xs e
      obtain ⟨vs, h1, h2⟩ := live_at h l ms e
      split at hs
      · rename_i d ex
        cases hs
        obtain ⟨v, e1, e2⟩ := h2.get ex
        have := hx vs (SqL.of h1)
        rw [e1] at this; cases this
        exact pair_new ms.le hT (.int _) e2
      · cases hs
    · cases hs
end

/-! ### the walked expressions -/
section
variable {X : Cx} {W : WX} {tg e a b : Expr} {elts : List Expr} {kk : Nat} {tpos p pos : Pos} {fa fb : CE}
def itV (M : List MO) : Sl → Option Its
  | .dat (.lst ds) => some (.data ds)
  | .dat (.tup ds) => some (.data ds)
  | .dat (.str z) => some (.data (sgns z))
  | .mu j => match M[j]? with
    | some (.lst xs) => some (.live xs.length (liveI j) (liveF j xs.length))
    | _ => none
  | _ => none
def iVal (f : CE) : CI := fun ρ => (f ρ).bind fun s => fun M => match itV M s with
  | some its => .ret (.ok its M)
  | none => .bad
def iterV (X : Cx) (tg : Expr) (x : V) (H : Hp) (R : It → Hp → Prop) : Prop := ∀ pins σ s v, Inv X pins σ H s → RelV x v → wpAny (model X.prog X.w) X.A (pyIter v) (PIE X pins σ tg R) X.xe s
theorem iv_list {a : Addr} {xs : List V} {H : Hp} {R : It → Hp → Prop} (hq : SqL X.K H a xs) (q : R (Itl X.K a) H) : iterV X tg (.ref a) H R := fun pins σ s v I r => by
  cases r
  obtain ⟨its, rv, p, hz⟩ := I.list hq
  refine wpAny_pyIter_list p.isList ?_
  refine ⟨s.heap.objs.size, [s.heap.objs.size], _, _, H, rfl, I.kept (t' := s.toks) fun b o e => Heap.get?_push_of_some _ e, turn_list a _, ⟨_, Heap.get?_push_size _ rfl, rfl, rfl⟩, fun b hb => ?_, q⟩
  have e : b = s.heap.objs.size := by simpa using hb
  subst e
  exact I.fpOk (Nat.le_refl _) (I.hok.fresh (Nat.le_refl _))
theorem iv_tup {a : Addr} {xs : List V} {H : Hp} {R : It → Hp → Prop} (hq : SqT X.K H a xs) (q : R (Itt X.K a) H) : iterV X tg (.ref a) H R := fun pins σ s v I r => by
  cases r
  obtain ⟨its, rv, p, hz⟩ := I.tuple hq
  refine wpAny_pyIter_tuple (show s.heap.IsTuple a its.toArray from p) ?_
  refine ⟨s.heap.objs.size, [s.heap.objs.size], _, _, H, rfl, I.kept (t' := s.toks) fun b o e => Heap.get?_push_of_some _ e, turn_tuple a _, ⟨_, Heap.get?_push_size _ rfl, rfl, rfl⟩, fun b hb => ?_, q⟩
  have e : b = s.heap.objs.size := by simpa using hb
  subst e
  exact I.fpOk (Nat.le_refl _) (I.hok.fresh (Nat.le_refl _))
theorem iv_str {z : Str} {H : Hp} {R : It → Hp → Prop} (q : R (L2.Its z) H) : iterV X tg (.str z) H R := fun pins σ s v I r => by
  obtain ⟨t, rfl⟩ := r
  cases ha : z.cps.all (· < 128)
  · exact wpAny_pyIter_wide ha (pi_one (tk := s.toks) I _ (turn_str _ z t "str_iterator" (.inr rfl)) ⟨_, Heap.get?_push_size _ rfl, rfl, rfl⟩ q)
  · exact wpAny_pyIter_ascii ha (pi_one (tk := s.toks) I _ (turn_str _ z t "str_ascii_iterator" (.inl rfl)) ⟨_, Heap.get?_push_size _ rfl, rfl, rfl⟩ q)
theorem itV_ok {M : List MO} {s : Sl} {its : Its} {Ad : List Addr} {G H : Hp} {x : V} {R : It → Hp → Prop} (h : itV M s = some its) (ms : MS X.K Ad G M H) (r : RpS X.K Ad G x s) (q : ∀ J, WalkI X.K J its Ad G → R J H) : iterV X tg x H R := by
  unfold itV at h
  split at h
  · cases h
    cases r with
    | lst hq r => exact iv_list (SqL.of (ms.le.lst hq)) (q _ (wk_list (SqL.of hq) r))
  · cases h
    cases r with
    | tup hq r => exact iv_tup (ms.le.t hq) (q _ (wk_tup hq r))
  · cases h
    cases r
    exact iv_str (q _ wk_str)
  · rename_i j
    split at h
    · rename_i xs hm
      cases h
      obtain ⟨a, e1, rfl⟩ := r
      obtain ⟨vs, e2, e3⟩ := (ms.mo j a _ e1 hm).2
      exact iv_list (SqL.of e2) (q _ (wk_live e1))
    · cases h
  · cases h
theorem si_val (h1 : SE X W e fa) : SI X W tg e (iVal fa) := ⟨fun ρ M Ad G σ H R ms en h => by
  intro pins s I
  have hw : wE X e σ H fun v H1 => iterV X tg v H1 R := h1.seq ms en h fun Ad1 G1 M1 H1 v s g1 m1 r1 w1 => by
    cases hi : itV M1 s with
    | none => simp only [hi] at w1; exact w1.elim
    | some its =>
      simp only [hi] at w1
      exact itV_ok hi m1 r1 fun J wk => w1 Ad1 G1 H1 J (Grow.refl _ _ _) m1 wk
  exact thn (hw pins s I) fun v s1 ⟨x, H1, I1, r1, q1⟩ => q1 pins σ s1 v I1 r1⟩
def iRg1 (f : CE) : CI := fun ρ => (f ρ).bind fun s => match s with
  | .dat (.int n) => if -(2 ^ 62) ≤ n ∧ n < 2 ^ 62 then ok (.data (rng 0 n.toNat)) else bad
  | _ => bad
theorem si_rg1 (F : GFx X "range") (hm : X.mg "range" = none) (h1 : SE X W e fa) (hs : starEach [e] X.env = [(false, eval e X.env)] := by rfl) : SI X W tg (.Call (.Name "range" p) [e] [] pos) (iRg1 fa) := ⟨fun ρ M Ad G σ H R ms en h =>
  toI (pi_range1 F.gl hm (pa_cons pe_w pa_nil hs) hs) (h1.seq ms en h fun Ad1 G1 M1 H1 v s g1 m1 r1 w1 => by
    split at w1
    · split at w1
      · rename_i n hb
        exact ⟨n, by rw [rp_int r1], hb.1, hb.2, w1 Ad1 G1 H1 _ (Grow.refl _ _ _) m1 wk_range⟩
      · exact w1.elim
    · exact w1.elim)⟩
def rg2 (s t : Sl) : Option Its := match s, t with
  | .dat (.int i), .dat (.int n) => if -(2 ^ 62) ≤ i ∧ i < 2 ^ 62 ∧ -(2 ^ 62) ≤ n ∧ n < 2 ^ 62 then some (.data (rng i (n - i).toNat)) else none
  | _, _ => none
def iRg2 (f g : CE) : CI := fun ρ => (f ρ).bind fun s => (g ρ).bind fun t => ofO (rg2 s t)
theorem si_rg2 (F : GFx X "range") (hm : X.mg "range" = none) (h1 : SE X W a fa) (h2 : SE X W b fb) (hs : starEach [a, b] X.env = [(false, eval a X.env), (false, eval b X.env)] := by rfl) (hs2 : starEach [b] X.env = [(false, eval b X.env)] := by rfl) : SI X W tg (.Call (.Name "range" p) [a, b] [] pos) (iRg2 fa fb) := ⟨fun ρ M Ad G σ H R ms en h =>
  toI (pi_range2 F.gl hm (pa_cons pe_w (pa_cons pe_w pa_nil hs2) (by rw [hs, hs2])) hs hs2) (h1.seq ms en h fun Ad1 G1 M1 H1 v s g1 m1 r1 w1 => h2.seq m1 (en.grow g1) w1 fun Ad2 G2 M2 H2 v2 t g2 m2 r2 w2 => by
    obtain ⟨its, e1, q⟩ := wp_ofO.mp w2
    unfold rg2 at e1
    split at e1
    · split at e1
      · rename_i i n hb
        cases e1
        exact ⟨i, n, by rw [rp_int r1, rp_int r2], hb, q Ad2 G2 H2 _ (Grow.refl _ _ _) m2 wk_range⟩
      · cases e1
    · cases e1)⟩
def enV (M : List MO) : Sl → Option Its
  | .dat (.lst ds) => some (.data (enumD 0 ds))
  | .dat (.tup ds) => some (.data (enumD 0 ds))
  | .dat (.str z) => some (.data (enumD 0 (sgns z)))
  | .mu j => match M[j]? with
    | some (.lst xs) => some (.live xs.length (liveE j) (liveF j xs.length))
    | _ => none
  | _ => none
def iEn (f : CE) : CI := fun ρ => (f ρ).bind fun s => fun M => match enV M s with
  | some its => .ret (.ok its M)
  | none => .bad
theorem si_en (F : GFx X "enumerate") (hm : X.mg "enumerate" = none) (h1 : SE X W e fa) (hs : starEach [e] X.env = [(false, eval e X.env)] := by rfl) : SI X W (.Tuple elts kk tpos) (.Call (.Name "enumerate" p) [e] [] pos) (iEn fa) := ⟨fun ρ M Ad G σ H R ms en h => by
  intro pins s I
  have hw : wE X e σ H fun v H1 => (∃ a xs, v = .ref a ∧ SqL X.K H1 a xs ∧ R (Ite X.K a) H1) ∨ (∃ a xs, v = .ref a ∧ SqT X.K H1 a xs ∧ R (IteT X.K a) H1) ∨ ∃ z, v = .str z ∧ R (IteS z) H1 := by
    refine h1.seq ms en h fun Ad1 G1 M1 H1 v s g1 m1 r1 w1 => ?_
    cases hi : enV M1 s with
    | none => simp only [hi] at w1; exact w1.elim
    | some its =>
      simp only [hi] at w1
      have q : ∀ J, WalkI X.K J its Ad1 G1 → R J H1 := fun J wk => w1 Ad1 G1 H1 J (Grow.refl _ _ _) m1 wk
      unfold enV at hi
      split at hi
      · cases hi
        cases r1 with
        | lst hq r => exact .inl ⟨_, _, rfl, SqL.of (m1.le.lst hq), q _ (wk_enumL (SqL.of hq) r)⟩
      · cases hi
        cases r1 with
        | tup hq r => exact .inr (.inl ⟨_, _, rfl, m1.le.t hq, q _ (wk_enumT hq r)⟩)
      · cases hi
        cases r1
        exact .inr (.inr ⟨_, rfl, q _ wk_enumS⟩)
      · rename_i j
        split at hi
        · rename_i xs hj
          cases hi
          obtain ⟨a, e1, rfl⟩ := r1
          obtain ⟨vs, e2, e3⟩ := (m1.mo j a _ e1 hj).2
          exact .inl ⟨_, _, rfl, SqL.of e2, q _ (wk_liveE e1)⟩
        · cases hi
      · cases hi
  refine Call_ (ld_blt I F.gl hm boot_enumerate (PyProof.Rows.callWith_type1 (thn (PA.run (pa_cons (pe_w (X := X) (e := e)) pa_nil hs) pos pins s σ H (fun vs H1 => ∃ v, vs = [v] ∧ ((∃ a xs, v = .ref a ∧ SqL X.K H1 a xs ∧ R (Ite X.K a) H1) ∨ (∃ a xs, v = .ref a ∧ SqT X.K H1 a xs ∧ R (IteT X.K a) H1) ∨ ∃ z, v = .str z ∧ R (IteS z) H1)) I ?_) fun us s1 ⟨vs, H1, I1, r1, q1⟩ => ?_) hs rfl))
  · exact fun pins s I => wpAny_mono (hw pins s I) (fun w s' ⟨v, H', I', rv, q⟩ => ⟨v, H', I', rv, ⟨v, rfl, q⟩⟩) fun _ _ x => x
  obtain ⟨v, ex, q1⟩ := q1
  subst ex
  cases r1 with
  | cons r rr =>
    cases rr
    have fpk : ∀ b ∈ [s1.heap.objs.size + 1, s1.heap.objs.size], FpOk X pins H1 b := fun b hb => by
      have e' : b = s1.heap.objs.size + 1 ∨ b = s1.heap.objs.size := by simpa using hb
      have hle : s1.heap.objs.size ≤ b := by
        rcases e' with z | z
        · rw [z]; exact Nat.le_add_right _ _
        · rw [z]; exact Nat.le_refl _
      exact I1.fpOk hle (I1.hok.fresh hle)
    rcases q1 with ⟨a, xs, ev, hq, q⟩ | ⟨a, xs, ev, hq, q⟩ | ⟨z, ev, q⟩
    · subst ev
      cases r
      obtain ⟨its, rv, p', hz⟩ := I1.list hq
      refine call_enumerate_list p'.isList fun h' he hit hsz hk => wpAny_pyIter_enum he ?_
      exact ⟨s1.heap.objs.size + 1, [s1.heap.objs.size + 1, s1.heap.objs.size], _, _, H1, rfl, I1.kept (t' := s1.toks) hk, turn_enum a (s1.heap.objs.size + 1) s1.heap.objs.size, ⟨⟨.none, he⟩, hit, Nat.succ_ne_self _⟩, fpk, q⟩
    · subst ev
      cases r
      obtain ⟨its, rv, p', hz⟩ := I1.tuple hq
      have hlt : a < s1.heap.objs.size := by obtain ⟨o, ho, _⟩ := p'; exact Heap.lt_size ho
      refine call_enum1 (begins_tuple a its.toArray) p' fun h' he hit hsz hk => wpAny_pyIter_enum he ?_
      exact ⟨s1.heap.objs.size + 1, [s1.heap.objs.size + 1, s1.heap.objs.size], _, _, H1, rfl, I1.kept (t' := s1.toks) hk, turn_enumT a (s1.heap.objs.size + 1) s1.heap.objs.size its.toArray, ⟨⟨.none, he⟩, ⟨_, hit, rfl, rfl⟩, Nat.succ_ne_self _, Nat.ne_of_lt hlt, Nat.ne_of_lt (Nat.lt_succ_of_lt hlt)⟩, fpk, q⟩
    · subst ev
      obtain ⟨t, rfl⟩ := r
      refine call_enum1 (begins_text z t) trivial fun h' he hit hsz hk => wpAny_pyIter_enum he ?_
      exact ⟨s1.heap.objs.size + 1, [s1.heap.objs.size + 1, s1.heap.objs.size], _, _, H1, rfl, I1.kept (t' := s1.toks) hk, turn_enumS z t (s1.heap.objs.size + 1) s1.heap.objs.size, ⟨⟨.none, he⟩, ⟨_, hit, rfl, rfl⟩, Nat.succ_ne_self _⟩, fpk, q⟩⟩
/-- two sequences of one kind -/
def zpV (M : List MO) (s t : Sl) : Option Its := match s, t with
  | .dat (.tup ds), .dat (.tup es) => some (.data (zipD ds es))
  | .dat (.lst ds), .dat (.lst es) => some (.data (zipD ds es))
  | .dat (.str z), .dat (.str y) => some (.data (zipD (sgns z) (sgns y)))
  | _, _ => none
def iZp (f g : CE) : CI := fun ρ => (f ρ).bind fun s => (g ρ).bind fun t => fun M => match zpV M s t with
  | some its => .ret (.ok its M)
  | none => .bad
end
end R

set_option Elab.async false
set_option linter.all false
set_option maxRecDepth 100000
set_option maxHeartbeats 4000000
namespace R
open PySem PySem.Spec PyProof.Rows L2
variable [Keys]

/-! ### at a def's end: the objects made by it and no longer told are forgotten -/
def clS (n : Nat) : Sl → Bool
  | .mu j => decide (j < n)
  | _ => true
def clMO (n : Nat) : MO → Bool
  | .lst xs => xs.all (clS n)
  | .dK xs => xs.all fun p => clS n p.2
  | .dT xs => xs.all fun p => clS n p.2
  | .ins _ xs => xs.all fun p => clS n p.2
  | _ => true
def closed (n : Nat) (M : List MO) : Bool := (M.take n).all (clMO n)
def cut (n : Nat) (M : List MO) : List MO := if closed n M then M.take n else M
def isDatS : Sl → Bool
  | .dat _ => true
  | _ => false
def isDatM : MO → Bool
  | .lst xs => xs.all isDatS
  | .dK xs => xs.all fun p => isDatS p.2
  | .dT xs => xs.all fun p => isDatS p.2
  | .ins _ xs => xs.all fun p => isDatS p.2
  | _ => false
/-- a def's answer: frozen (m false), or a new object that may change (m true) -/
def clean (m : Bool) (n : Nat) (s : Sl) : Ev Sl := fun M => match s with
  | .mu j => if j < n then .ret (.ok s (cut n M)) else if m then (match M[j]? with
      | some o => if isDatM o && closed n M && decide (n ≤ M.length) then .ret (.ok (.mu n) (M.take n ++ [o])) else .ret (.ok s M)
      | none => .bad) else (match fz1 M s with
      | some (d, M') => .ret (.ok (.dat d) (cut n M'))
      | none => .bad)
  | s => .ret (.ok s (cut n M))
section
variable {K : PySem.W.Frag} {Ad Ad' : List Addr} {G G' H H' : Hp} {M M' : List MO}
theorem clS_ok {n : Nat} {v : V} {s : Sl} (h : clS n s = true) (r : RpS K Ad G v s) : RpS K (Ad.take n) G v s := by
  cases s with
  | mu j =>
    have hj : j < n := of_decide_eq_true h
    obtain ⟨a, e1, e2⟩ := r
    exact ⟨a, by rw [List.getElem?_take_of_lt hj]; exact e1, e2⟩
  | _ => exact r
theorem clSs_ok {n : Nat} : ∀ {vs : List V} {ss : List Sl}, ss.all (clS n) = true → RpSs K Ad G vs ss → RpSs K (Ad.take n) G vs ss
  | _, _, _, .nil => .nil
  | _, _ :: _, h, .cons r t => by
    rw [List.all_cons, Bool.and_eq_true] at h
    exact .cons (clS_ok h.1 r) (clSs_ok h.2 t)
theorem clSf_ok {κ : Type} {n : Nat} : ∀ {vs : List (κ × V)} {ss : List (κ × Sl)}, (ss.all fun p => clS n p.2) = true → RpSf K Ad G vs ss → RpSf K (Ad.take n) G vs ss
  | _, _, _, .nil => .nil
  | _, _ :: _, h, .cons r t => by
    rw [List.all_cons, Bool.and_eq_true] at h
    exact .cons ⟨r.1, clS_ok h.1 r.2⟩ (clSf_ok h.2 t)
theorem clMO_ok {n : Nat} {a : Addr} {m : MO} (h : clMO n m = true) (k : MOk K Ad G H a m) : MOk K (Ad.take n) G H a m := by
  cases m with
  | fz o => exact k
  | hand => exact k
  | tab i => exact k
  | lst xs => obtain ⟨vs, e, r⟩ := k; exact ⟨vs, e, clSs_ok h r⟩
  | dK xs => obtain ⟨vs, e, r⟩ := k; exact ⟨vs, e, clSf_ok h r⟩
  | dT xs => obtain ⟨vs, e, r⟩ := k; exact ⟨vs, e, clSf_ok h r⟩
  | ins c xs => obtain ⟨dx, vs, e, r⟩ := k; exact ⟨dx, vs, e, clSf_ok h r⟩
theorem ms_take {n : Nat} (ms : MS K Ad G M H) (h : closed n M = true) : MS K (Ad.take n) G (M.take n) H := by
  refine ⟨ms.le, by rw [List.length_take, List.length_take, ms.len], ms.nd.sublist (List.take_sublist _ _), fun j a m e1 e2 => ?_, fun a ha => ms.dom a (List.mem_of_mem_take ha)⟩
  have hj : j < n := by
    have := (List.getElem?_eq_some_iff.mp e2).1
    rw [List.length_take] at this; omega
  rw [List.getElem?_take_of_lt hj] at e1 e2
  obtain ⟨q1, q2⟩ := ms.mo j a m e1 e2
  refine ⟨q1, clMO_ok ?_ q2⟩
  have := List.all_eq_true.mp h m
  exact this (List.mem_take_iff_getElem.mpr ⟨j, by have := (List.getElem?_eq_some_iff.mp e2).1; omega, by have := (List.getElem?_eq_some_iff.mp e2).2; exact this⟩)
theorem grow_take (g : Grow Ad G H Ad' G' H') : Grow Ad G H (Ad'.take Ad.length) G' H' := by
  obtain ⟨m, e, _⟩ := g.pre
  refine ⟨g.ex, ⟨[], by rw [e]; simp, by simp⟩, g.fr, g.gh, g.dom⟩
/-- dropped or not, all holds -/
theorem cut_ok {R0 : Prop} (ms : MS K Ad G M H) (g : Grow Ad G H Ad' G' H') (m' : MS K Ad' G' M' H') (q : ∀ Ad2, Grow Ad G H Ad2 G' H' → MS K Ad2 G' (cut Ad.length M') H' → (∀ (j : Nat) a, Ad[j]? = some a → Ad2[j]? = some a) → R0) : R0 := by
  unfold cut at q
  by_cases h : closed Ad.length M' = true
  · rw [if_pos h] at q
    refine q _ (grow_take g) (ms_take m' h) fun j a e => ?_
    have := g.get e
    rw [List.getElem?_take_of_lt (List.getElem?_eq_some_iff.mp e).1]; exact this
  · rw [if_neg h] at q
    exact q Ad' g m' fun j a e => g.get e
end

/-! ### what a def promises: its function -/
def PoC (K : PySem.W.Frag) (Q : VK) (E : XK) (Ad : List Addr) (G H : Hp) : Re Sl → Prop
  | .ok s M' => ∀ Ad' G' H' v, Grow Ad G H Ad' G' H' → MS K Ad' G' M' H' → RpS K Ad' G' v s → Q v H'
  | .ex c fs M' => ∀ Ad' G' H' d gs, Grow Ad G H Ad' G' H' → MS K Ad' G' M' H' → G' d = some (.xd gs) → RpF K G' gs fs → E (.ref (cA K c)) (some d) H'
theorem PoC.shift {K : PySem.W.Frag} {Q : VK} {E : XK} {Ad Ad1 : List Addr} {G H G1 H1 : Hp} {r : Re Sl} (g : Grow Ad G H Ad1 G1 H1) (h : PoC K Q E Ad G H r) : PoC K Q E Ad1 G1 H1 r := by
  cases r with
  | ok s M' => exact fun _ _ _ _ g' => h _ _ _ _ (g.trans g')
  | ex c fs M' => exact fun _ _ _ _ _ g' => h _ _ _ _ _ (g.trans g')
abbrev Fn : Type := List Sl → Ev Sl
def spF (K : PySem.W.Frag) (np : Nat) (F : Fn) : Sp := fun vs H Q E => ∃ Ad G M ss, MS K Ad G M H ∧ RpSs K Ad G vs ss ∧ ss.length = np ∧ wp (F ss M) (PoC K Q E Ad G H)
def retK (m : Bool) (n : Nat) : Re Fl → T (Re Sl)
  | .ok (.nx _) M => .ret (.ok (.dat .non) (cut n M))
  | .ok (.rt s) M => clean m n s M
  | .ok (.bk _) _ => .bad
  | .ok (.ct _) _ => .bad
  | .ex c fs M => .ret (.ex c fs (cut n M))
/-- a def by its body: np parameters, n slots -/
def mkFn (m : Bool) (np n : Nat) (b : CS) : Fn := fun ss M => if ss.length = np then (b (ss ++ List.replicate (n - np) .un) M).bind (retK m M.length) else .bad
theorem mkFn_len {m : Bool} {np n : Nat} {b : CS} {ss : List Sl} {M : List MO} {Q : Re Sl → Prop} (h : wp (mkFn m np n b ss M) Q) : ss.length = np := by
  unfold mkFn at h
  split at h
  · assumption
  · exact h.elim
theorem env_start {K : PySem.W.Frag} {Ad : List Addr} {G : Hp} {vs : List V} {ss : List Sl} {N : List Str} (r : RpSs K Ad G vs ss) : EnvR K Ad G (L2.start N vs) (ss ++ List.replicate (N.length - ss.length) .un) := by
  unfold L2.start
  refine ⟨by simp [r.length], fun i s e => ?_⟩
  by_cases h : i < ss.length
  · rw [List.getElem?_append_left h] at e
    obtain ⟨v, h1, h2⟩ := r.get e
    refine .inr ⟨v, ?_, h2⟩
    rw [List.getElem?_append_left (by simpa [r.length] using h), List.getElem?_map, h1]; rfl
  · rw [List.getElem?_append_right (by omega), List.getElem?_replicate] at e
    split at e
    · exact .inl (Option.some.inj e).symm
    · cases e
theorem clean_ok {K : PySem.W.Frag} {Q : VK} {E : XK} {Ad Ad' : List Addr} {G H G' H' : Hp} {M M' : List MO} {m : Bool} {v : V} {s : Sl} (ms : MS K Ad G M H) (g : Grow Ad G H Ad' G' H') (m' : MS K Ad' G' M' H') (r : RpS K Ad' G' v s)
    (h : wp (clean m M.length s M') (PoC K Q E Ad G H)) : Q v H' := by
  have hn : M.length = Ad.length := ms.len.symm
  unfold clean at h
  rw [hn] at h
  split at h
  · rename_i j
    split at h
    · rename_i hj
      refine cut_ok ms g m' fun Ad2 g2 m2 lk => h Ad2 G' H' v g2 m2 ?_
      obtain ⟨a, e1, e2⟩ := r
      have hA : Ad[j]? = some Ad[j] := by simp [hj]
      have := g.get hA
      rw [this] at e1; cases e1
      exact ⟨_, lk j _ hA, e2⟩
    · rename_i hj
      split at h
      · split at h
        · rename_i o ho
          split at h
          · rename_i hb
            rw [Bool.and_eq_true, Bool.and_eq_true, decide_eq_true_eq] at hb
            obtain ⟨⟨hd, hc⟩, hl⟩ := hb
            obtain ⟨a, e1, rfl⟩ := r
            obtain ⟨q1, q2⟩ := m'.mo j a o e1 ho
            obtain ⟨more, ep, hm⟩ := g.pre
            have hna : a ∉ Ad'.take Ad.length := fun z => by
              obtain ⟨i, hi, hie⟩ := List.mem_take_iff_getElem.mp z
              have : i = j := m'.inj (a := a) (by rw [List.getElem?_eq_getElem (by omega), hie]) e1
              omega
            have hH : H a = none := hm a (by
              rw [ep, List.getElem?_append_right (by omega)] at e1
              exact List.mem_of_getElem? e1)
            have mt := ms_take m' hc
            have hlen : (Ad'.take Ad.length).length = Ad.length := by rw [List.length_take, ep, List.length_append]; omega
            have hlenM : (M'.take Ad.length).length = Ad.length := by rw [List.length_take, ← m'.len, ep, List.length_append]; omega
            have isd : ∀ {ss : List Sl} {Ad1 : List Addr} {vs : List V}, ss.all isDatS = true → RpSs K Ad' G' vs ss → RpSs K Ad1 G' vs ss := fun {ss Ad1 vs} => by
              intro hs hr
              induction hr with
              | nil => exact .nil
              | cons r1 _ ih =>
                rw [List.all_cons, Bool.and_eq_true] at hs
                refine .cons ?_ (ih hs.2)
                rename_i b _ _ _
                cases b with
                | dat d => exact r1
                | _ => cases hs.1
            have isf : ∀ {κ : Type} {ss : List (κ × Sl)} {Ad1 : List Addr} {vs : List (κ × V)}, (ss.all fun p => isDatS p.2) = true → RpSf K Ad' G' vs ss → RpSf K Ad1 G' vs ss := fun {κ ss Ad1 vs} => by
              intro hs hr
              induction hr with
              | nil => exact .nil
              | cons r1 _ ih =>
                rw [List.all_cons, Bool.and_eq_true] at hs
                refine .cons ⟨r1.1, ?_⟩ (ih hs.2)
                rename_i b _ _ _
                obtain ⟨k, b⟩ := b
                cases b with
                | dat d => exact r1.2
                | _ => cases hs.1
            have okO : ∀ Ad1, MOk K Ad1 G' H' a o := fun Ad1 => by
              cases o with
              | fz _ => cases hd
              | hand => cases hd
              | tab i => cases hd
              | lst xs => obtain ⟨vs, w1, w2⟩ := q2; exact ⟨vs, w1, isd hd w2⟩
              | dK xs => obtain ⟨vs, w1, w2⟩ := q2; exact ⟨vs, w1, isf hd w2⟩
              | dT xs => obtain ⟨vs, w1, w2⟩ := q2; exact ⟨vs, w1, isf hd w2⟩
              | ins c xs => obtain ⟨dx, vs, w1, w2⟩ := q2; exact ⟨dx, vs, w1, isf hd w2⟩
            have liv : o.live := by cases o <;> first | (cases hd; done) | trivial
            have m2 : MS K (Ad'.take Ad.length ++ [a]) G' (M'.take Ad.length ++ [o]) H' := by
              refine ⟨mt.le, by simp [mt.len], ?_, fun i b mi f1 f2 => ?_, fun b hb => ?_⟩
              · rw [List.nodup_append]
                refine ⟨mt.nd, by simp, fun b hb c hc => ?_⟩
                have : c = a := by simpa using hc
                subst this
                exact fun z => hna (z ▸ hb)
              · by_cases hi : i < Ad.length
                · rw [List.getElem?_append_left (by rw [hlen]; exact hi)] at f1
                  rw [List.getElem?_append_left (by rw [hlenM]; exact hi)] at f2
                  obtain ⟨p1, p2⟩ := mt.mo i b mi f1 f2
                  exact ⟨p1, p2.mono (Ex.refl G') (fun j c e => by rw [List.getElem?_append_left (List.getElem?_eq_some_iff.mp e).1]; exact e) rfl⟩
                · rw [List.getElem?_append_right (by rw [hlen]; omega), hlen] at f1
                  rw [List.getElem?_append_right (by rw [hlenM]; omega), hlenM] at f2
                  have z : i - Ad.length = 0 := by
                    cases hz : i - Ad.length with
                    | zero => rfl
                    | succ n => rw [hz] at f1; simp at f1
                  rw [z] at f1 f2
                  simp at f1 f2
                  subst f1 f2
                  exact ⟨fun _ => q1 liv, okO _⟩
              · rcases List.mem_append.mp hb with z | z
                · exact mt.dom b z
                · have : b = a := by simpa using z
                  subst this; exact m'.dom _ (List.mem_of_getElem? e1)
            have g2 : Grow Ad G H (Ad'.take Ad.length ++ [a]) G' H' := by
              have gt := grow_take g
              refine ⟨gt.ex, ⟨[a], by rw [ep]; simp, fun b hb => ?_⟩, gt.fr, gt.gh, gt.dom⟩
              have : b = a := by simpa using hb
              subst this; exact hH
            exact h _ G' H' _ g2 m2 (rs_mu (by rw [List.getElem?_append_right (by rw [hlen]; exact Nat.le_refl _), hlen, Nat.sub_self]; rfl))
          · exact h Ad' G' H' v g m' r
        · exact h.elim
      · split at h
        · rename_i d M2 hf
          obtain ⟨G2, m2, g2, r2⟩ := fz1_ok m' r hf
          exact cut_ok ms (g.trans g2) m2 fun Ad3 g3 m3 _ => h Ad3 G2 H' v g3 m3 r2
        · exact h.elim
  · rename_i hs
    refine cut_ok ms g m' fun Ad2 g2 m2 lk => h Ad2 G' H' v g2 m2 ?_
    cases s with
    | mu j => exact absurd rfl (hs j)
    | un => exact r
    | dat d => exact r
    | raw w => exact r
end R

set_option Elab.async false
set_option linter.all false
set_option maxRecDepth 100000
set_option maxHeartbeats 4000000
namespace R
open PySem PySem.Spec PyProof.Rows L2
variable [Keys]

section
variable {P : Program} {w : World} {K : PySem.W.Frag} {mg : Str → Option Value} {base : Heap} {x qual : Str} {stt : Stmt} {f : Addr} {fd : FuncData} {N ps : List Str} {k : Nat}
/-- the context of a def's body -/
abbrev bx (P : Program) (w : World) (K : PySem.W.Frag) (mg : Str → Option Value) (base : Heap) (N : List Str) (qual : Str) (sc : Scope) (f : Addr) (cdv : Value) (A : Around) (outer : List Env) (s : Shared) (H : Hp) (E : XK) : Cx := cxOf (L2.CX P w) P w K mg base N qual sc f cdv A outer s H E
theorem fn_ok (m : Bool) (F : Fun K x qual stt f fd) (S : FnScope N ps (defScope stt)) {fB : CS}
    (body : ∀ cdv A outer s H E, Room k (A.deeper (envOfC qual (defScope stt) s.heap.objs.size f cdv)) →
      SB (bx P w K mg base N qual (defScope stt) f cdv A outer s H E) (fun cls d _ H => E cls d H) (defBody stt) fB) : FnOk P w K mg base (L2.CX P w) (k + 1) f fd ps (spF K ps.length (mkFn m ps.length N.length fB)) := by
  refine F.okX S (fun vs H Q E h => ?_) (fun cdv A outer s H vs Q E hr h => ?_)
  · obtain ⟨Ad, G, M, ss, _, r, e, _⟩ := h
    rw [r.length, e]
  · obtain ⟨Ad, G, M, ss, ms, r, e, h⟩ := h
    have en := env_start (K := K) (Ad := Ad) (G := G) (N := N) r
    rw [e] at en
    unfold mkFn at h
    rw [if_pos e] at h
    refine ⟨_, pss_w, (body cdv A outer s H E hr).run _ M Ad G (L2.start N vs) H { nx := fun _ H' => Q .non H', rt := Q } ms en (wp_mono (fun r hr => ?_) (wp_bind.mp h))⟩
    cases r with
    | ex c fs M1 =>
      intro σ' Ad' G' H' d gs g1 m1 e1 r1
      rw [show M.length = Ad.length from ms.len.symm] at hr
      exact cut_ok ms g1 m1 fun Ad2 g2 m2 _ => hr Ad2 G' H' d gs g2 m2 e1 r1
    | ok a M1 =>
      cases a with
      | nx ρ1 =>
        intro Ad' G' H' σ' g1 m1 _
        have hr : PoC K Q E Ad G H (.ok (.dat .non) (cut M.length M1)) := hr
        rw [show M.length = Ad.length from ms.len.symm] at hr
        exact cut_ok ms g1 m1 fun Ad2 g2 m2 _ => hr Ad2 G' H' .non g2 m2 rs_non
      | rt s1 => exact fun Ad' G' H' v g1 m1 r1 => clean_ok ms g1 m1 r1 hr
      | bk ρ1 => exact (show False from hr).elim
      | ct ρ1 => exact (show False from hr).elim
end

/-- what a context knows of the module -/
structure Wd where
  prog : Program
  w : World
  K : PySem.W.Frag
  mg : Str → Option Value
  base : Heap
abbrev _root_.L2.Cx.wd (X : Cx) : Wd := ⟨X.prog, X.w, X.K, X.mg, X.base⟩
/-! ### calls -/
section
variable {X : Cx} {W : WX} {e o : Expr} {es : List Expr} {fa : CE} {fs : CA} {x m : Str} {p pos apos : Pos} {F : Fn} {k n : Nat} {ps : List Str}
/-- a def of the module, told by its function -/
structure CalF (D : Wd) (k : Nat) (x : Str) (np : Nat) (F : Fn) : Prop where
  ex : ∃ f fd ps, FnOk D.prog D.w D.K D.mg D.base (L2.CX D.prog D.w) k f fd ps (spF D.K np F) ∧ D.mg x = some (.ref f) ∧ PySem.W.keepIn D.K (.ref f) = true ∧ Binds D.K fd ps []
def eCall (F : Fn) (fs : CA) : CE := fun ρ => (fs ρ).bind F
theorem se_call (C : CalF X.wd k x n F) (hl : ∀ {ss M Q}, wp (F ss M) Q → ss.length = n) (hr : Room k X.A) (G : GFx X x) (tk : Takes X W) (h1 : SA X W (e :: es) fs)
    (he : starEach (e :: es) X.env = (false, eval e X.env) :: starEach es X.env := by rfl) (hpl : (backTo pos (starEach es X.env)).any (·.1) = false := by rfl) : SE X W (.Call (.Name x p) (e :: es) [] pos) (eCall F fs) := ⟨fun ρ M Ad Gh σ H Q ms en h => by
  obtain ⟨f, fd, ps, FO, hm, hk, hb⟩ := C.ex
  exact toE (pe_callS FO hr G.gl hm hk hb (fun σ => passAt tk σ) pa_w G.nd he hpl) (h1.seq ms en h fun Ad1 G1 M1 H1 vs ss g1 m1 r1 w1 => ⟨Ad1, G1, M1, ss, m1, r1, hl w1, wp_mono (fun r hr => by
    cases r with
    | ok s M2 => exact hr
    | ex c fs M2 => exact hr) w1⟩)⟩
/-! methods -/
/-- the class of an instance without an own m -/
def insAt (M : List MO) (m : Str) : Sl → Option Nat
  | .dat (.ins c fs) => if (fs.lookup m).isNone then some c else none
  | .mu j => match M[j]? with
    | some (.ins c fs) => if (fs.lookup m).isNone then some c else none
    | _ => none
  | _ => none
theorem RpF.lookupN' {K : PySem.W.Frag} {G : Hp} {gs : List (Str × V)} {fs : List (Str × D)} {n : Str} (h : RpF K G gs fs) (e : fs.lookup n = none) : gs.lookup n = none := h.lookupN e
theorem RpSf.lookupN {K : PySem.W.Frag} {Ad : List Addr} {G : Hp} {n : Str} : ∀ {gs : List (Str × V)} {fs : List (Str × Sl)}, RpSf K Ad G gs fs → fs.lookup n = none → gs.lookup n = none
  | _, _, .nil, e => rfl
  | (g, x) :: gs, (g', y) :: fs, .cons ⟨e0, r⟩ t, e => by
    have e0 : g = g' := e0
    subst e0
    rw [List.lookup_cons] at e ⊢
    cases q : (n == g) with
    | true => rw [q] at e; cases e
    | false => rw [q] at e; exact RpSf.lookupN t e
theorem ins_at {K : PySem.W.Frag} {Ad : List Addr} {G H : Hp} {M : List MO} {v : V} {s : Sl} {c : Nat} (ms : MS K Ad G M H) (r : RpS K Ad G v s) (h : insAt M m s = some c) : ∃ a dx gs, v = .ref a ∧ H a = some (.ins (cA K c) dx gs) ∧ gs.lookup m = none := by
  cases s with
  | dat d =>
    cases d with
    | ins c' fs =>
      unfold insAt at h
      dsimp only at h
      split at h
      · rename_i hn
        cases h
        cases r with
        | ins ha hf => exact ⟨_, _, _, rfl, ms.le.ins ha, hf.lookupN (Option.isNone_iff_eq_none.mp hn)⟩
      · cases h
    | _ => cases h
  | mu j =>
    unfold insAt at h
    dsimp only at h
    split at h
    · rename_i c' fs hj
      split at h
      · rename_i hn
        cases h
        obtain ⟨a, e1, rfl⟩ := r
        obtain ⟨dx, gs, e2, e3⟩ := (ms.mo j a _ e1 hj).2
        exact ⟨a, dx, gs, rfl, e2, e3.lookupN (Option.isNone_iff_eq_none.mp hn)⟩
      · cases h
    · cases h
  | _ => cases h
/-- a method m of the class c -/
structure MetF (D : Wd) (k : Nat) (c : Nat) (m : Str) (np : Nat) (F : Fn) : Prop where
  ex : ∃ f fd ps, FnOk D.prog D.w D.K D.mg D.base (L2.CX D.prog D.w) k f fd ps (spF D.K np F) ∧ Meth D.K (cA D.K c) m f ∧ Cls D.K (cA D.K c) ∧ Binds D.K fd ps []
  len : ∀ {ss M Q}, wp (F ss M) Q → ss.length = np
abbrev Tbl : Type := List (Nat × Fn)
def MetT (D : Wd) (k : Nat) (m : Str) (t : Tbl) : Prop := ∀ c F, t.lookup c = some F → ∃ np, MetF D k c m np F
def eMet (m : Str) (t : Tbl) (fa : CE) (fs : CA) : CE := fun ρ => (fa ρ).bind fun o => fun M => match insAt M m o with
  | some c => match t.lookup c with
    | some F => Ev.bind (fs ρ) (fun ss => F (o :: ss)) M
    | none => .bad
  | none => .bad
theorem run_met {pins : List (Addr × Obj)} {σ : L2.St} {H : Hp} {s : Shared} {Q : VK} {c : Nat} {a : Addr} {f : Addr} {fd : FuncData} {Ad : List Addr} {G : Hp} {M : List MO} {us : List Value} {vs : List V} {so : Sl} {ss : List Sl} (FO : FnOk X.prog X.w X.K X.mg X.base (L2.CX X.prog X.w) k f fd ps (spF X.K n F)) (hb : Binds X.K fd ps []) (hl : ∀ {ss M Q}, wp (F ss M) Q → ss.length = n) (hr : Room k X.A) (tk : Takes X W)
    (I : Inv X pins σ H s) (rv : Vals vs us) (ms : MS X.K Ad G M H) (r0 : RpS X.K Ad G (.ref a) so) (r : RpSs X.K Ad G vs ss) (w : wp (F (so :: ss) M) (Po X W (RpS X.K) Q σ Ad G H)) : wpAny (model X.prog X.w) X.A (call (.ref f) (.ref a :: us)) (EP X pins σ Q) X.xe s :=
  run_fnS (us := .ref a :: us) (vs := .ref a :: vs) FO hr hb (passAt tk σ) I (.cons rfl rv) ⟨Ad, G, M, so :: ss, ms, .cons r0 r, hl w, wp_mono (fun r hr => by
    cases r with
    | ok s M2 => exact hr
    | ex c fs M2 => exact hr) w⟩
/-- o.m(..), the class of o told by its value -/
theorem se_met {pl : Sem Bool} (T : MetT X.wd k m t) (hr : Room k X.A) (tk : Takes X W) (h0 : SE X W o fa) (h1 : SA X W (e :: es) fs)
    (hst : starEach (e :: es) X.env = (false, eval e X.env) :: starEach es X.env := by rfl) (hpl : (backTo pos (starEach es X.env)).any (·.1) = false := by rfl)
    (ht : eval (.Call (.Attribute o m apos) (e :: es) [] pos) X.env = (do
      let ov ← eval o X.env
      standAt apos.atName
      let (f, first) ← holding [ov] (getMethod ov m pl)
      callWith pos f first (backTo pos (starEach (e :: es) X.env)) (backToKw pos (keywordEach [] X.env))) := by rfl) : SE X W (.Call (.Attribute o m apos) (e :: es) [] pos) (eMet m t fa fs) := ⟨fun ρ M Ad G σ H Q ms en h => by
  intro pins s I
  have hw : wE X o σ H fun v H1 => ∃ Ad1 G1 M1 s1, Grow Ad G H Ad1 G1 H1 ∧ MS X.K Ad1 G1 M1 H1 ∧ RpS X.K Ad1 G1 v s1 ∧ ∃ c F, insAt M1 m s1 = some c ∧ t.lookup c = some F ∧ wp (Ev.bind (fs ρ) (fun ss => F (s1 :: ss)) M1) (Po X W (RpS X.K) Q σ Ad1 G1 H1) :=
    h0.seq ms en h fun Ad1 G1 M1 H1 v s1 g1 m1 r1 w1 => by
      cases hc : insAt M1 m s1 with
      | none => simp only [hc] at w1; exact w1.elim
      | some c =>
        cases hF : t.lookup c with
        | none => simp only [hc, hF] at w1; exact w1.elim
        | some F => simp only [hc, hF] at w1; exact ⟨Ad1, G1, M1, s1, g1, m1, r1, c, F, hc, hF, w1⟩
  refine PySem.W.methodCall_KW (pl := pl) (thn (hw pins s I) fun u s1 ⟨v, H1, I1, rx, Ad1, G1, M1, sl, g1, m1, r1, c, F, hc, hF, w1⟩ => ?_) ht
  obtain ⟨a, dx, gs, rfl, ea, l⟩ := ins_at m1 r1 hc
  obtain rfl : u = Value.ref a := rx
  obtain ⟨np, MF⟩ := T c F hF
  obtain ⟨f, fd, ps, FO, hm, cl, hb⟩ := MF.ex
  refine getmeth_ok I1 ea cl hm l ?_
  have hargs := h1.seq m1 (en.grow g1) w1 (Q' := fun vs H2 => ∃ Ad2 G2 M2 ss, Grow Ad1 G1 H1 Ad2 G2 H2 ∧ MS X.K Ad2 G2 M2 H2 ∧ RpSs X.K Ad2 G2 vs ss ∧ wp (F (sl :: ss) M2) (Po X W (RpS X.K) Q σ Ad2 G2 H2)) fun Ad2 G2 M2 H2 vs ss g2 m2 r2 w2 => ⟨Ad2, G2, M2, ss, g2, m2, r2, w2⟩
  refine PySem.W.callWith_K (first := [.ref a]) (h₀ := X.base) I.ok.mod.kin hm.kp (thn (hargs pos pins s1 I1) fun us s2 ⟨vs, H2, I2, rv, Ad2, G2, M2, ss, g2, m2, r2, w2⟩ => ⟨I2.kIn, ?_⟩) hst hpl
  exact run_met (c := c) FO hb MF.len hr tk I2 rv m2 (r1.grow g2) r2 w2⟩
def eMet0 (m : Str) (t : Tbl) (fa : CE) : CE := fun ρ => (fa ρ).bind fun o => fun M => match insAt M m o with
  | some c => match t.lookup c with
    | some F => F [o] M
    | none => .bad
  | none => .bad
theorem se_met0 {pl : Sem Bool} (T : MetT X.wd k m t) (hr : Room k X.A) (tk : Takes X W) (h0 : SE X W o fa)
    (ht : eval (.Call (.Attribute o m apos) [] [] pos) X.env = (do
      let ov ← eval o X.env
      standAt apos.atName
      let (f, first) ← holding [ov] (getMethod ov m pl)
      callWith pos f first (backTo pos (starEach [] X.env)) (backToKw pos (keywordEach [] X.env))) := by rfl) : SE X W (.Call (.Attribute o m apos) [] [] pos) (eMet0 m t fa) := ⟨fun ρ M Ad G σ H Q ms en h => by
  intro pins s I
  have hw : wE X o σ H fun v H1 => ∃ Ad1 G1 M1 s1, Grow Ad G H Ad1 G1 H1 ∧ MS X.K Ad1 G1 M1 H1 ∧ RpS X.K Ad1 G1 v s1 ∧ ∃ c F, insAt M1 m s1 = some c ∧ t.lookup c = some F ∧ wp (F [s1] M1) (Po X W (RpS X.K) Q σ Ad1 G1 H1) :=
    h0.seq ms en h fun Ad1 G1 M1 H1 v s1 g1 m1 r1 w1 => by
      cases hc : insAt M1 m s1 with
      | none => simp only [hc] at w1; exact w1.elim
      | some c =>
        cases hF : t.lookup c with
        | none => simp only [hc, hF] at w1; exact w1.elim
        | some F => simp only [hc, hF] at w1; exact ⟨Ad1, G1, M1, s1, g1, m1, r1, c, F, hc, hF, w1⟩
  refine PySem.W.methodCall_KW (pl := pl) (thn (hw pins s I) fun u s1 ⟨v, H1, I1, rx, Ad1, G1, M1, sl, g1, m1, r1, c, F, hc, hF, w1⟩ => ?_) ht
  obtain ⟨a, dx, gs, rfl, ea, l⟩ := ins_at m1 r1 hc
  obtain rfl : u = Value.ref a := rx
  obtain ⟨np, MF⟩ := T c F hF
  obtain ⟨f, fd, ps, FO, hm, cl, hb⟩ := MF.ex
  refine getmeth_ok I1 ea cl hm l ?_
  exact PySem.W.callWith_K0 I1.kIn hm.kp (run_met (c := c) (us := []) (vs := []) FO hb MF.len hr tk I1 .nil m1 r1 .nil w1)⟩

/-! ### fields -/
def fldV (f : Str) (M : List MO) : Sl → Option (Sl × List MO)
  | .dat (.ins _ fs) => (fs.lookup f).map fun d => (.dat d, M)
  | .mu j => match M[j]? with
    | some (.ins _ fs) => (fs.lookup f).map fun s => (nrm M s, M)
    | some (.fz (some (.ins _ fs))) => (fs.lookup f).map fun d => (.dat d, M)
    | _ => none
  | _ => none
/-- the class of an instance -/
def clsAt (M : List MO) : Sl → Option Nat
  | .dat (.ins c _) => some c
  | .mu j => match M[j]? with
    | some (.ins c _) => some c
    | some (.fz (some (.ins c _))) => some c
    | _ => none
  | _ => none
structure FAt (K : PySem.W.Frag) (C : Addr) (f : Str) : Prop where
  cls : Cls K C
  no : NoAttr K C f
/-- the field f of the classes cs -/
def eFld (f : Str) (cs : List Nat) (fa : CE) : CE := fun ρ => (fa ρ).bind fun s => ofM fun M => match clsAt M s with
  | some c => if cs.contains c then fldV f M s else none
  | none => none
theorem se_fld {f : Str} {cs : List Nat} (hf : ∀ c ∈ cs, FAt X.K (cA X.K c) f) (h1 : SE X W e fa) (hb : attributeBase e f X.env (eval e X.env) = eval e X.env := by rfl) : SE X W (.Attribute e f pos) (eFld f cs fa) := ⟨fun ρ M Ad G σ H Q ms en h =>
  toE (pe_fld pe_w hb) (h1.seq ms en h fun Ad1 G1 M1 H1 v s g1 m1 r1 w1 => by
    obtain ⟨t, M', e1, q⟩ := wp_ofM.mp w1
    cases hc : clsAt M1 s with
    | none => simp only [hc] at e1; cases e1
    | some c =>
      simp only [hc] at e1
      split at e1
      · rename_i hm
        have FA := hf c (by simpa using hm)
        cases s with
        | dat d =>
          cases d with
          | ins c' fs =>
            cases hc
            unfold fldV at e1
            dsimp only at e1
            cases hl : fs.lookup f with
            | none => rw [hl] at e1; cases e1
            | some d' =>
              rw [hl] at e1; cases e1
              cases r1 with
              | ins hx hf' =>
                obtain ⟨u, e3, e4⟩ := hf'.lookup hl
                exact ⟨_, _, _, _, u, rfl, m1.le.ins hx, FA.cls, FA.no, e3, q _ _ _ _ (Grow.refl _ _ _) m1 e4⟩
          | _ => cases hc
        | mu j =>
          obtain ⟨a, e3, rfl⟩ := r1
          unfold clsAt at hc
          unfold fldV at e1
          dsimp only at hc e1
          split at hc
          · rename_i c' fs hj
            cases hc
            rw [hj] at e1
            dsimp only at e1
            cases hl : fs.lookup f with
            | none => rw [hl] at e1; cases e1
            | some s' =>
              rw [hl] at e1; cases e1
              obtain ⟨dx, gs, e4, e5⟩ := (m1.mo j a _ e3 hj).2
              have lk : ∀ {gs : List (Str × V)} {fs : List (Str × Sl)}, RpSf X.K Ad1 G1 gs fs → fs.lookup f = some s' → ∃ v, gs.lookup f = some v ∧ RpS X.K Ad1 G1 v s' := by
                intro gs fs h
                induction h with
                | nil => intro z; cases z
                | cons r1 _ ih =>
                  rename_i p q _ _ _
                  obtain ⟨g, x⟩ := p
                  obtain ⟨g', y⟩ := q
                  have e0 : g = g' := r1.1
                  subst e0
                  intro z
                  rw [List.lookup_cons] at z ⊢
                  cases qq : (f == g) with
                  | true => rw [qq] at z; cases z; exact ⟨_, rfl, r1.2⟩
                  | false => rw [qq] at z; exact ih z
              obtain ⟨u, e6, e7⟩ := lk e5 hl
              exact ⟨a, _, dx, gs, u, rfl, e4, FA.cls, FA.no, e6, q _ _ _ _ (Grow.refl _ _ _) m1 (nrm_ok m1 e7)⟩
          · rename_i c' fs hj
            cases hc
            rw [hj] at e1
            dsimp only at e1
            cases hl : fs.lookup f with
            | none => rw [hl] at e1; cases e1
            | some s' =>
              rw [hl] at e1; cases e1
              have r2 := (m1.mo j a _ e3 hj).2.2 _ rfl
              cases r2 with
              | ins hx hf' =>
                obtain ⟨u, e4, e5⟩ := hf'.lookup hl
                exact ⟨_, _, _, _, u, rfl, m1.le.ins hx, FA.cls, FA.no, e4, q _ _ _ _ (Grow.refl _ _ _) m1 e5⟩
          · cases hc
        | _ => cases hc
      · cases e1)⟩
end
end R

set_option Elab.async false
set_option linter.all false
set_option maxRecDepth 100000
set_option maxHeartbeats 4000000
namespace R
open PySem PySem.Spec PyProof.Rows L2
variable [Keys]

section
variable {X : Cx} {W : WX} {e o : Expr} {es : List Expr} {fa fv : CE} {fs : CA} {x m : Str} {p pos apos p' : Pos} {F : Fn} {k n : Nat} {ps : List Str} {c : Nat}
/-! ### constructors -/
def mkK (fz : Bool) (n : Nat) : Re Sl → T (Re Sl)
  | .ok (.dat .non) M' => if fz then (match fz1 M' (.mu n) with
      | some (d, M2) => .ret (.ok (.dat d) (cut n M2))
      | none => .bad) else .ret (.ok (.mu n) M')
  | .ok _ _ => .bad
  | .ex c fs M' => .ret (.ex c fs (cut n M'))
/-- C(..): a new instance, then __init__; fz: it will not change any more -/
def eMake (fz : Bool) (c : Nat) (F : Fn) (fs : CA) : CE := fun ρ => (fs ρ).bind fun ss => fun M => (F (.mu M.length :: ss) (M ++ [.ins c []])).bind (mkK fz M.length)
structure MakF (D : Wd) (k : Nat) (x : Str) (c np : Nat) (F : Fn) : Prop where
  ex : ∃ f fd ps, FnOk D.prog D.w D.K D.mg D.base (L2.CX D.prog D.w) k f fd ps (spF D.K np F) ∧ Mk D.K (cA D.K c) f ∧ D.mg x = some (.ref (cA D.K c)) ∧ Binds D.K fd ps []
  len : ∀ {ss M Q}, wp (F ss M) Q → ss.length = np
theorem run_makeS {C f : Addr} {fd : FuncData} {sp : Sp} {E : L2.St → XK} {pins : List (Addr × Obj)} {σ : L2.St} {H : Hp} {s : Shared} {Q : VK} {us : List Value} {vs : List V} (M : Mk X.K C f) (F : FnOk X.prog X.w X.K X.mg X.base (L2.CX X.prog X.w) k f fd ps sp) (hr : Room (k + 1) X.A) (hb : Binds X.K fd ps [])
    (hx : PassesAt (L2.CX X.prog X.w) X σ (E σ)) (I : Inv X pins σ H s) (r : Vals vs us)
    (h : ∀ x dx, H x = none → H dx = none → dx ≠ x → sp (.ref x :: vs) (upd (upd H dx (.own x)) x (.ins C dx [])) (fun v H2 => v = .non ∧ Q (.ref x) H2) (E σ)) :
    wpAny (model X.prog X.w) X.A (call (.ref C) us) (EP X pins σ Q) X.xe s := by
  have hq := h (s.heap.objs.size + 1) s.heap.objs.size (I.hok.fresh (Nat.le_succ _)) (I.hok.fresh (Nat.le_refl _)) (Nat.ne_of_lt (Nat.lt_succ_self _))
  have I2 := Inv.made (C := C) I
  have r2 : Vals (V.ref (s.heap.objs.size + 1) :: vs) (Value.ref (s.heap.objs.size + 1) :: us) := .cons rfl r
  have hl : (Value.ref (s.heap.objs.size + 1) :: us).length = ps.length := by
    have e := r2.length
    rw [F.len _ _ _ _ hq] at e
    exact e.symm
  have b := hb _ (Value.ref (s.heap.objs.size + 1) :: us) I2.kIn (by rw [List.append_nil]; exact hl)
  rw [List.append_nil] at b
  refine wpAny_call (make_map (f := f) I.kIn M.makes M.init (beq_iff_eq.mp M.fn) (codeAny_mono (F.run _ X.stack _ _ ⟨Value.ref (s.heap.objs.size + 1) :: us, []⟩ (Value.ref (s.heap.objs.size + 1) :: us) _ _ (E σ) (hr.make C us [])
    (I2.env0.make C us []) b r2 hq) fun r s' hq' => ?_))
  cases r with
  | error e => exact hx pins _ _ e s' I2 hq'
  | ok fl =>
    cases fl with
    | ret u =>
      obtain ⟨v, H', I3, rv, ev, q3⟩ := I2.after hq'
      subst ev
      exact ⟨rv, ⟨V.ref (s.heap.objs.size + 1), H', I3, rfl, q3⟩⟩
    | next => exact False.elim hq'
    | brk => exact False.elim hq'
    | cont => exact False.elim hq'
theorem ms_made {K : PySem.W.Frag} {Ad : List Addr} {G H : Hp} {M : List MO} {y dx : Addr} (ms : MS K Ad G M H) (hy : H y = none) (hd : H dx = none) (hn : dx ≠ y) :
    MS K (Ad ++ [y]) G (M ++ [.ins c []]) (upd (upd H dx (.own y)) y (.ins (cA K c) dx [])) ∧ Grow Ad G H (Ad ++ [y]) G (upd (upd H dx (.own y)) y (.ins (cA K c) dx [])) := by
  have nd : dx ∉ Ad := fun z => ms.dom dx z hd
  have gd : G dx = none := by
    cases q : G dx with
    | none => rfl
    | some u => rcases ms.le dx u q with z | ⟨_, _, z⟩ <;> rw [hd] at z <;> cases z
  have m1 : MS K Ad G M (upd H dx (.own y)) := ms_off ms nd gd
  have g1 : Grow Ad G H Ad G (upd H dx (.own y)) := grow_off (Grow.refl _ _ _) hd
  have hy1 : (upd H dx (.own y)) y = none := by rw [upd_ne (Ne.symm hn)]; exact hy
  obtain ⟨m2, g2⟩ := m1.newM (m := .ins c []) (o := .ins (cA K c) dx []) hy1 ⟨dx, [], upd_same, .nil⟩
  exact ⟨m2, g1.trans g2⟩
theorem se_make (fz : Bool) (C : MakF X.wd k x c n F) (hr : Room (k + 1) X.A) (G : GFx X x) (tk : Takes X W) (h1 : SA X W (e :: es) fs)
    (he : starEach (e :: es) X.env = (false, eval e X.env) :: starEach es X.env := by rfl) (hpl : (backTo pos (starEach es X.env)).any (·.1) = false := by rfl) : SE X W (.Call (.Name x p) (e :: es) [] pos) (eMake fz c F fs) := ⟨fun ρ M Ad Gh σ H Q ms en h => by
  obtain ⟨f, fd, ps, FO, MK, hm, hb⟩ := C.ex
  intro pins s I
  have hargs := h1.seq ms en h (Q' := fun vs H1 => ∃ Ad1 G1 M1 ss, Grow Ad Gh H Ad1 G1 H1 ∧ MS X.K Ad1 G1 M1 H1 ∧ RpSs X.K Ad1 G1 vs ss ∧ wp ((F (.mu M1.length :: ss) (M1 ++ [.ins c []])).bind (mkK fz M1.length)) (Po X W (RpS X.K) Q σ Ad1 G1 H1)) fun Ad1 G1 M1 H1 vs ss g1 m1 r1 w1 => ⟨Ad1, G1, M1, ss, g1, m1, r1, w1⟩
  refine wpAny_Call_Name_kw (ld_glob I G.gl hm ?_ G.nd)
  refine PySem.W.callWith_K (h₀ := X.base) I.ok.mod.kin MK.kp (thn (hargs pos pins s I) fun us s1 ⟨vs, H1, I1, r, Ad1, G1, M1, ss, g1, m1, r1, w1⟩ => ⟨I1.kIn, ?_⟩) he hpl
  refine run_makeS MK FO hr hb (passAt tk σ) I1 r fun y dx hy hd hne => ?_
  obtain ⟨m2, g2⟩ := ms_made (c := c) m1 hy hd hne
  have w2 := wp_bind.mp w1
  refine ⟨Ad1 ++ [y], G1, M1 ++ [.ins c []], .mu M1.length :: ss, m2, .cons (rs_mu (by rw [← m1.len, List.getElem?_append_right (Nat.le_refl _), Nat.sub_self]; rfl)) (r1.grow g2), C.len w2, wp_mono (fun rr hr => ?_) w2⟩
  cases rr with
  | ex c' fs' M3 =>
    intro Ad3 G3 H3 d gs g3 m3 e3 r3
    have hr : PX X W σ Ad1 G1 H1 c' fs' (cut M1.length M3) := hr
    rw [show M1.length = Ad1.length from m1.len.symm] at hr
    exact cut_ok m1 (g2.trans g3) m3 fun Ad4 g4 m4 _ => hr Ad4 G3 H3 d gs g4 m4 e3 r3
  | ok s3 M3 =>
    intro Ad3 G3 H3 v g3 m3 r3
    unfold mkK at hr
    split at hr
    · rename_i M4 _
      rename_i e4
      cases e4
      refine ⟨rp_non r3, ?_⟩
      have ry : RpS X.K Ad3 G3 (.ref y) (.mu M1.length) := rs_mu (g3.get (by rw [← m1.len, List.getElem?_append_right (Nat.le_refl _), Nat.sub_self]; rfl))
      split at hr
      · split at hr
        · rename_i d M5 hf
          obtain ⟨G5, m5, g5, r5⟩ := fz1_ok m3 ry hf
          have hr : wp (.ret (.ok (.dat d) (cut M1.length M5)) : T (Re Sl)) (Po X W (RpS X.K) Q σ Ad1 G1 H1) := hr
          rw [show M1.length = Ad1.length from m1.len.symm] at hr
          exact cut_ok m1 ((g2.trans g3).trans g5) m5 fun Ad6 g6 m6 _ => hr Ad6 G5 H3 (.ref y) g6 m6 r5
        · exact hr.elim
      · exact hr Ad3 G3 H3 (.ref y) (g2.trans g3) m3 ry
    · exact hr.elim
    · rename_i e4; cases e4⟩

/-! ### properties -/
structure ProF (D : Wd) (k : Nat) (c : Nat) (f : Str) (F : Fn) : Prop where
  ex : ∃ p g fd ps, FnOk D.prog D.w D.K D.mg D.base (L2.CX D.prog D.w) k g fd ps (spF D.K 1 F) ∧ Cls D.K (cA D.K c) ∧ PropOf D.K (cA D.K c) f p g ∧ Binds D.K fd ps []
def ProT (D : Wd) (k : Nat) (f : Str) (t : Tbl) : Prop := ∀ c F, t.lookup c = some F → ProF D k c f F
def ePro (t : Tbl) (fa : CE) : CE := fun ρ => (fa ρ).bind fun o => fun M => match clsAt M o with
  | some c => match t.lookup c with
    | some F => noX (F [o]) M
    | none => .bad
  | none => .bad
theorem cls_at {K : PySem.W.Frag} {Ad : List Addr} {G H : Hp} {M : List MO} {v : V} {s : Sl} {c : Nat} (ms : MS K Ad G M H) (r : RpS K Ad G v s) (h : clsAt M s = some c) : ∃ a dx gs, v = .ref a ∧ H a = some (.ins (cA K c) dx gs) := by
  cases s with
  | dat d =>
    cases d with
    | ins c' fs =>
      cases h
      cases r with
      | ins ha hf => exact ⟨_, _, _, rfl, ms.le.ins ha⟩
    | _ => cases h
  | mu j =>
    unfold clsAt at h
    dsimp only at h
    split at h
    · rename_i c' fs hj
      cases h
      obtain ⟨a, e1, rfl⟩ := r
      obtain ⟨dx, gs, e2, e3⟩ := (ms.mo j a _ e1 hj).2
      exact ⟨a, dx, gs, rfl, e2⟩
    · rename_i c' fs hj
      cases h
      obtain ⟨a, e1, rfl⟩ := r
      have r2 := (ms.mo j a _ e1 hj).2.2 _ rfl
      cases r2 with
      | ins hx hf' => exact ⟨_, _, _, rfl, ms.le.ins hx⟩
    · cases h
  | _ => cases h
theorem noX_ok {σ : L2.St} {Ad : List Addr} {G H : Hp} {Q : VK} {m : Ev Sl} {M : List MO} (h : wp (noX m M) (Po X W (RpS X.K) Q σ Ad G H)) : wp (m M) (PoC X.K Q (fun _ _ _ => False) Ad G H) := wp_mono (fun r hr => by
  obtain ⟨a, M', rfl, q⟩ := hr
  exact q) (wp_noX h)
theorem se_pro {f : Str} {t : Tbl} (P : ProT X.wd k f t) (hr : Room (k + 1) X.A) (h1 : SE X W e fa) (hab : attributeBase e f X.env (eval e X.env) = eval e X.env := by rfl) : SE X W (.Attribute e f pos) (ePro t fa) := ⟨fun ρ M Ad G σ H Q ms en h => by
  intro pins s I
  have hw : wE X e σ H fun v H1 => ∃ Ad1 G1 M1 s1, Grow Ad G H Ad1 G1 H1 ∧ MS X.K Ad1 G1 M1 H1 ∧ RpS X.K Ad1 G1 v s1 ∧ ∃ c F, clsAt M1 s1 = some c ∧ t.lookup c = some F ∧ wp (noX (F [s1]) M1) (Po X W (RpS X.K) Q σ Ad1 G1 H1) :=
    h1.seq ms en h fun Ad1 G1 M1 H1 v s1 g1 m1 r1 w1 => by
      cases hc : clsAt M1 s1 with
      | none => simp only [hc] at w1; exact w1.elim
      | some c =>
        cases hF : t.lookup c with
        | none => simp only [hc, hF] at w1; exact w1.elim
        | some F => simp only [hc, hF] at w1; exact ⟨Ad1, G1, M1, s1, g1, m1, r1, c, F, hc, hF, w1⟩
  refine attr_of hab (thn (hw pins s I) fun u s1 ⟨v, H1, I1, rx, Ad1, G1, M1, sl, g1, m1, r1, c, F, hc, hF, w1⟩ => ?_)
  obtain ⟨a, dx, gs, rfl, ea⟩ := cls_at m1 r1 hc
  obtain rfl : u = Value.ref a := rx
  obtain ⟨pp, g, fd, ps, FO, cl, hp, hb⟩ := (P c F hF).ex
  exact getprop_ok (E := fun _ _ _ => False) I1 ea cl hp FO hr hb .nil passL ⟨Ad1, G1, M1, [sl], m1, .cons r1 .nil, rfl, noX_ok w1⟩⟩

/-! ### o.f = e -/
def putS (f : Str) (v : Sl) : List (Str × Sl) → List (Str × Sl)
  | [] => [(f, v)]
  | (g, x) :: r => if g = f then (g, v) :: r else (g, x) :: putS f v r
theorem RpSf.put {K : PySem.W.Frag} {Ad : List Addr} {G : Hp} {f : Str} {v : V} {s : Sl} (h : RpS K Ad G v s) : ∀ {gs : List (Str × V)} {fs : List (Str × Sl)}, RpSf K Ad G gs fs → RpSf K Ad G (putF f v gs) (putS f s fs)
  | _, _, .nil => .cons ⟨rfl, h⟩ .nil
  | (g, x) :: gs, (g', y) :: fs, .cons ⟨e, r⟩ t => by
    have e : g = g' := e
    subst e
    unfold putF putS
    by_cases q : g = f
    · rw [if_pos q, if_pos q]; exact .cons ⟨rfl, h⟩ t
    · rw [if_neg q, if_neg q]; exact .cons ⟨rfl, r⟩ (RpSf.put h t)
def stF (f : Str) (cs : List Nat) (M : List MO) (v o : Sl) : Option (List MO) := match o with
  | .mu j => match M[j]? with
    | some (.ins c fs) => if cs.contains c && decide (fs.length < 1000) then some (M.set j (.ins c (putS f v fs))) else none
    | _ => none
  | _ => none
def sFld (f : Str) (cs : List Nat) (fv fo : CE) : CS := fun ρ => (fv ρ).bind fun v => (fo ρ).bind fun o => ofM fun M => (stF f cs M v o).map fun M' => (.nx ρ, M')
theorem ss_fld {f : Str} {cs : List Nat} (hf : ∀ c ∈ cs, FAt X.K (cA X.K c) f) (h1 : SE X W e fv) (h2 : SE X W o fa) (hs : swapsWith e (some (.Attribute o f p')) pos.line X.env = pure false := by rfl) : SS X W (.Assign [.Attribute o f p'] e pos) (sFld f cs fv fa) := ⟨fun ρ M Ad G σ H D ms en h =>
  toS (ps_fld pe_w pe_w hs) (h1.seqS ms en h fun Ad1 G1 M1 H1 v s g1 m1 r1 w1 => h2.seqS m1 (en.grow g1) w1 fun Ad2 G2 M2 H2 v2 s2 g2 m2 r2 w2 => by
    obtain ⟨t, M', e1, q⟩ := wp_ofM.mp w2
    cases hst : stF f cs M2 s s2 with
    | none => rw [hst] at e1; cases e1
    | some M3 =>
      rw [hst] at e1; cases e1
      unfold stF at hst
      split at hst
      · rename_i j
        split at hst
        · rename_i c fs hj
          split at hst
          · rename_i hc
            rw [Bool.and_eq_true, decide_eq_true_eq] at hc
            cases hst
            have FA := hf c (by simpa using hc.1)
            obtain ⟨a, e3, rfl⟩ := r2
            obtain ⟨dx, gs, e4, e5⟩ := (m2.mo j a _ e3 hj).2
            have gw : Grow Ad2 G2 H2 Ad2 G2 (upd H2 a (.ins (cA X.K c) dx (putF f v gs))) := Grow.write (List.mem_of_getElem? e3) (by rw [e4]; simp)
            exact ⟨a, _, dx, gs, rfl, e4, FA.cls, FA.no, by rw [show gs.length = fs.length from Paired.length e5]; exact hc.2, q _ _ _ _ gw (m2.write (m' := .ins c (putS f s fs)) e3 hj trivial ⟨dx, _, upd_same, RpSf.put (r1.grow g2) e5⟩) (en.grow ((g1.trans g2).trans gw))⟩
          · cases hst
        · cases hst
      · cases hst)⟩
end
end R

set_option Elab.async false
set_option linter.all false
set_option maxRecDepth 100000
set_option maxHeartbeats 4000000
namespace R
open PySem PySem.Spec PyProof.Rows L2
variable [Keys]

/-! ### built-in functions, by values -/
/-- what a built-in answers: no exception -/
def eOpT (g : List Sl → Ev Sl) (fs : CA) : CE := fun ρ => (fs ρ).bind fun ss => noX (g ss)
def VT (X : Cx) (r : List V → Hp → VK → Prop) (g : List Sl → Ev Sl) : Prop :=
  ∀ ss M Ad G H vs Q, MS X.K Ad G M H → RpSs X.K Ad G vs ss → wp (g ss M) (PoC X.K Q (fun _ _ _ => False) Ad G H) → r vs H Q
section
variable {X : Cx} {W : WX} {e o a b : Expr} {es : List Expr} {fa fb fv : CE} {fs : CA} {x m : Str} {p p2 pos apos p' tpos : Pos} {F : Fn} {k n : Nat} {ps : List Str} {c : Nat} {bid : String}
theorem se_opT {r : List V → Hp → VK → Prop} {g} {e : Expr} {es : List Expr} (pe : PE X e (tCB r (wA X es))) (h1 : SA X W es fs) (hv : VT X r g) : SE X W e (eOpT g fs) := ⟨fun ρ M Ad G σ H Q ms en h =>
  toE pe (h1.seq ms en h fun Ad1 G1 M1 H1 v1 x g1 m1 r1 w1 => hv x M1 Ad1 G1 H1 v1 Q m1 r1 (noX_ok w1))⟩
theorem se_bi {g} (G : GFx X x) (hm : X.mg x = none) (hb : bootBuiltins x = some (.builtin bid)) (hn : x ≠ "__name__") (hv : VT X (wCl X (.builtin bid)) g) (h1 : SA X W (e :: es) fs)
    (he : starEach (e :: es) X.env = (false, eval e X.env) :: starEach es X.env := by rfl) (hpl : (backTo pos (starEach es X.env)).any (·.1) = false := by rfl) : SE X W (.Call (.Name x p) (e :: es) [] pos) (eOpT g fs) :=
  se_opT (pe_callB cl_w G.gl hm hb pa_w hn G.nd he hpl) h1 hv
theorem se_bt {g} (G : GFx X x) (hm : X.mg x = none) (hb : bootBuiltins x = some (.type bid)) (hn : x ≠ "__name__") (hv : VT X (wCl X (.type bid)) g) (h1 : SA X W (e :: es) fs)
    (he : starEach (e :: es) X.env = (false, eval e X.env) :: starEach es X.env := by rfl) (hpl : (backTo pos (starEach es X.env)).any (·.1) = false := by rfl) : SE X W (.Call (.Name x p) (e :: es) [] pos) (eOpT g fs) :=
  se_opT (pe_callTy cl_w G.gl hm hb pa_w hn G.nd he hpl) h1 hv
/-- a special method of the class c -/
structure DunF (D : Wd) (k : Nat) (c : Nat) (m : Str) (np : Nat) (F : Fn) : Prop where
  ex : ∃ f fd ps, FnOk D.prog D.w D.K D.mg D.base (L2.CX D.prog D.w) k f fd ps (spF D.K np F) ∧ PySem.W.findIn D.K (.ref (cA D.K c)) m = some (some (.ref f)) ∧ PySem.W.isFn D.K (.ref f) = true ∧ Binds D.K fd ps []
  len : ∀ {ss M Q}, wp (F ss M) Q → ss.length = np
def DunT (D : Wd) (k : Nat) (m : Str) (np : Nat) (t : Tbl) : Prop := ∀ c F, t.lookup c = some F → DunF D k c m np F
theorem call_in {f : Addr} {fd : FuncData} {sp : Sp} {pins : List (Addr × Obj)} {σ : L2.St} {H : Hp} {s : Shared} {Q : VK} {us : List Value} {vs : List V} {A1 : Around} (F : FnOk X.prog X.w X.K X.mg X.base (L2.CX X.prog X.w) k f fd ps sp) (hr : Room k A1) (hf : A1.frames = X.A.frames) (hb : Binds X.K fd ps [])
    (I : Inv X pins σ H s) (r : Vals vs us) (h : sp vs H Q (fun _ _ _ => False)) : wpAny (model X.prog X.w) A1 (call (.ref f) us) (EP X pins σ Q) X.xe s := by
  have e0 : Env0 X.prog X.w X.K X.mg X.base A1 X.stack s H := by
    have e := I.env0
    exact ⟨by rw [hf]; exact e.frames, e.mod, e.bs, e.bsz, e.funs, e.frf, e.hok, e.bare⟩
  have hl : us.length = ps.length := by rw [← r.length]; exact F.len _ _ _ _ h
  refine wpAny_call (codeAny_mono (F.run A1 X.stack s H ⟨us, []⟩ us vs Q _ hr e0 (by
    have := hb s us I.kIn (by simpa using hl)
    simpa using this) r h) fun r s' hq => ?_)
  cases r with
  | error e => exact passL pins σ H s e s' I hq
  | ok fl =>
    cases fl with
    | ret w => exact I.after hq
    | next => exact False.elim hq
    | brk => exact False.elim hq
    | cont => exact False.elim hq
/-- a pure answer -/
def pu (g : List MO → List Sl → Option (Sl × List MO)) : List Sl → Ev Sl := fun ss => ofM fun M => g M ss
theorem vt_pu {r : List V → Hp → VK → Prop} {g} (h : VL X r g) : VT X r (pu g) := fun ss M Ad G H vs Q ms r w => by
  obtain ⟨s, M', e, q⟩ := wp_ofM.mp w
  exact h ss M s M' Ad G H vs Q e ms r q
theorem vl_w {f : Value} {r : List V → Hp → VK → Prop} {g} (hc : CallR X f r) (h : VL X r g) : VL X (wCl X f) g := fun ss M s M' Ad G H vs Q e ms rr q => ⟨r, hc, h ss M s M' Ad G H vs Q e ms rr q⟩
/-! len -/
def chkLen : Re Sl → T (Re Sl)
  | .ok (.dat (.int i)) M => if 0 ≤ i ∧ i < 2 ^ 63 then .ret (.ok (.dat (.int i)) M) else .bad
  | _ => .bad
def lenG (t : Tbl) : List Sl → Ev Sl
  | [s] => fun M => match lenOf M s with
    | some n => if n ≤ sizeLine then .ret (.ok (.dat (.int (n : Nat))) M) else .bad
    | none => match clsAt M s with
      | some c => match t.lookup c with
        | some F => (F [s] M).bind chkLen
        | none => .bad
      | none => .bad
  | _ => bad
theorem len_ok {t : Tbl} (hr : Room (k + 1) X.A) (T : DunT X.wd k "__len__" 1 t) : VT X (wCl X (.builtin "len")) (lenG t) := fun ss M Ad G H vs Q ms r w => by
  cases r with
  | nil => exact (show False from w).elim
  | cons r rr =>
    cases rr with
    | cons _ _ => exact (show False from w).elim
    | nil =>
      rename_i v s
      unfold lenG at w
      dsimp only at w
      split at w
      · rename_i n hn
        split at w
        · rename_i hz
          exact ⟨_, call_len, v, n, rfl, len_at ms r hn hz, w _ _ _ _ (Grow.refl _ _ _) ms rs_int⟩
        · exact w.elim
      · split at w
        · rename_i c hc
          split at w
          · rename_i F hF
            obtain ⟨f, fd, ps, FO, hfi, hfn, hb⟩ := (T c F hF).ex
            obtain ⟨a, dx, gs, rfl, ea⟩ := cls_at ms r hc
            refine ⟨fun xs H Q => ∃ a dx fs, xs = [.ref a] ∧ H a = some (.ins (cA X.K c) dx fs) ∧ spF X.K 1 F [.ref a] H (fun v H' => ∃ n : Int, v = .int n ∧ 0 ≤ n ∧ n < 2 ^ 63 ∧ Q (.int n) H') (fun _ _ _ => False), ?_, a, dx, gs, rfl, ea, Ad, G, M, [s], ms, .cons r .nil, rfl, ?_⟩
            · intro pins s σ H xs us Q I r h
              obtain ⟨a, dx, fs, rfl, ea, hsp⟩ := h
              cases r with
              | cons r0 r1 =>
                cases r1
                cases r0
                obtain ⟨mA, J, _⟩ := ins_get I.hok ea
                obtain ⟨od, J, _⟩ := J.look
                obtain ⟨m, hF⟩ := I.fr
                refine PySem.W.len_K hF I.ok.mod.kin J hfi hfn (wpAny_mono (call_in (A1 := X.A.in1) (vs := [.ref a]) FO (Room.in1 hr) rfl hb I (.cons rfl .nil) hsp) (fun v s' z => ?_) fun _ _ x => x)
                obtain ⟨w, H', I', rw', n, ew, h0, h1, hq⟩ := z
                subst ew
                obtain ⟨t, rfl⟩ := rw'
                exact ⟨⟨h0, h1⟩, ⟨.int n, H', I'.tok _, ⟨_, rfl⟩, hq⟩⟩
            · refine wp_mono (fun r hr => ?_) (wp_bind.mp w)
              unfold chkLen at hr
              split at hr
              · split at hr
                · rename_i i M2 hi
                  intro Ad' G' H' v g m r'
                  exact ⟨i, rp_int r', hi.1, hi.2, hr _ _ _ _ g m rs_int⟩
                · exact hr.elim
              · exact hr.elim
          · exact w.elim
        · exact w.elim
/-! repr, of an instance -/
def chkStr : Re Sl → T (Re Sl)
  | .ok (.dat (.str i)) M => .ret (.ok (.dat (.str i)) M)
  | _ => .bad
def chkBl (g : Bool → Bool) : Re Sl → T (Re Sl)
  | .ok (.dat (.bl i)) M => .ret (.ok (.dat (.bl (g i))) M)
  | _ => .bad
def reprG (t : Tbl) : List Sl → Ev Sl
  | [s] => fun M => match clsAt M s with
      | some c => match t.lookup c with
        | some F => (F [s] M).bind chkStr
        | none => .bad
      | none => .bad
  | _ => bad
theorem repr_ok {t : Tbl} (hr : Room (k + 1) X.A) (T : DunT X.wd k "__repr__" 1 t) : VT X (wCl X (.builtin "repr")) (reprG t) := fun ss M Ad G H vs Q ms r w => by
  cases r with
  | nil => exact (show False from w).elim
  | cons r rr =>
    cases rr with
    | cons _ _ => exact (show False from w).elim
    | nil =>
      rename_i v s
      unfold reprG at w
      dsimp only at w
      split at w
      · rename_i c hc
        split at w
        · rename_i F hF
          obtain ⟨f, fd, ps, FO, hfi, hfn, hb⟩ := (T c F hF).ex
          obtain ⟨a, dx, gs, rfl, ea⟩ := cls_at ms r hc
          refine ⟨fun xs H Q => ∃ a dx fs, xs = [.ref a] ∧ H a = some (.ins (cA X.K c) dx fs) ∧ spF X.K 1 F [.ref a] H (fun v H' => ∃ n : Str, v = .str n ∧ Q (.str n) H') (fun _ _ _ => False), ?_, a, dx, gs, rfl, ea, Ad, G, M, [s], ms, .cons r .nil, rfl, ?_⟩
          · intro pins s σ H xs us Q I r h
            obtain ⟨a, dx, fs, rfl, ea, hsp⟩ := h
            cases r with
            | cons r0 r1 =>
              cases r1
              cases r0
              obtain ⟨mA, J, _⟩ := ins_get I.hok ea
              obtain ⟨od, J, _⟩ := J.look
              obtain ⟨m, hF⟩ := I.fr
              refine PySem.W.repr_K (Room.in1 hr).units0 hF I.ok.mod.kin J hfi hfn (wpAny_mono (call_in (A1 := X.A.in1) (vs := [.ref a]) FO (Room.in1 hr) rfl hb I (.cons rfl .nil) hsp) (fun v s' z => ?_) fun _ _ x => x)
              obtain ⟨w, H', I', rw', n, ew, hq⟩ := z
              subst ew
              obtain ⟨t, rfl⟩ := rw'
              exact ⟨.str n, H', I', ⟨_, rfl⟩, hq⟩
          · refine wp_mono (fun r hr => ?_) (wp_bind.mp w)
            unfold chkStr at hr
            split at hr
            · rename_i i M2
              intro Ad' G' H' v g m r'
              exact ⟨i, rp_str r', hr _ _ _ _ g m rs_str⟩
            · exact hr.elim
        · exact w.elim
      · exact w.elim
/-! int, str, list, all, any, max, min -/
def intG (M : List MO) : List Sl → Option (Sl × List MO)
  | [.dat (.int i)] => some (.dat (.int i), M)
  | [.dat (.bl b)] => some (.dat (.int (if b then 1 else 0)), M)
  | _ => none
theorem int_ok : VT X (wCl X (.type "int")) (pu intG) := vt_pu (vl_w call_int1 fun ss M s M' Ad G H vs Q e ms r q => by
  unfold intG at e
  split at e
  · cases e
    cases r with
    | cons r rr => cases rr; exact .inl ⟨_, by rw [rp_int r], q _ _ _ _ (Grow.refl _ _ _) ms rs_int⟩
  · cases e
    cases r with
    | cons r rr => cases rr; exact .inr ⟨_, by rw [rp_bl r], q _ _ _ _ (Grow.refl _ _ _) ms rs_int⟩
  · cases e)
def strG (M : List MO) : List Sl → Option (Sl × List MO)
  | [.dat (.int i)] => if i.natAbs.log2 < 1920 then some (.dat (.str (toString i)), M) else none
  | _ => none
theorem str_ok : VT X (wCl X (.type "str")) (pu strG) := vt_pu (vl_w call_str_int fun ss M s M' Ad G H vs Q e ms r q => by
  unfold strG at e
  split at e
  · split at e
    · rename_i hl
      cases e
      cases r with
      | cons r rr => cases rr; exact ⟨_, by rw [rp_int r], hl, q _ _ _ _ (Grow.refl _ _ _) ms rs_str⟩
    · cases e
  · cases e)
def listG (m : Bool) (M : List MO) : List Sl → Option (Sl × List MO)
  | [s] => (lstD M s).map fun ds => mkL m M ds
  | _ => none
theorem list_ok (mm : Bool) : VT X (wCl X (.type "list")) (pu (listG mm)) := vt_pu (vl_w call_list_of fun ss M s M' Ad G H vs Q e ms r q => by
  unfold listG at e
  split at e
  · rename_i t
    cases hd : lstD M t with
    | none => rw [hd] at e; cases e
    | some ds =>
      rw [hd] at e
      have e : mkL mm M ds = (s, M') := Option.some.inj e
      cases r with
      | cons r rr =>
        cases rr
        obtain ⟨p, vs, e2, e3, e4⟩ := lst_at ms r (lstD_ok hd)
        refine ⟨p, vs, by rw [e2], .inl (SqL.of e3), fun l hl => ?_⟩
        exact new_mk (m := mm) ms (RpSs.toRps e4) (by rw [e]; exact q) hl
  · cases e)
def blsOf : List D → Option (List Bool)
  | [] => some []
  | .bl b :: r => (blsOf r).map (b :: ·)
  | _ :: _ => none
theorem blsOf_eq : ∀ {ds : List D} {bs : List Bool}, blsOf ds = some bs → ds = bs.map .bl
  | [], _, h => by cases h; rfl
  | .bl d :: r, _, h => by
    unfold blsOf at h
    cases e : blsOf r with
    | none => rw [e] at h; cases h
    | some es => rw [e] at h; cases h; rw [blsOf_eq e]; rfl
  | .non :: _, _, h => by cases h
  | .int _ :: _, _, h => by cases h
  | .str _ :: _, _, h => by cases h
  | .lst _ :: _, _, h => by cases h
  | .tup _ :: _, _, h => by cases h
  | .dK _ :: _, _, h => by cases h
  | .dT _ :: _, _, h => by cases h
  | .ins _ _ :: _, _, h => by cases h
  | .scr _ :: _, _, h => by cases h
  | .exc _ _ :: _, _, h => by cases h
  | .fnc _ _ :: _, _, h => by cases h
  | .lam _ :: _, _, h => by cases h
@[simp] theorem blsOf_map : ∀ bs : List Bool, blsOf (bs.map .bl) = some bs
  | [] => rfl
  | b :: r => by rw [List.map_cons, blsOf, blsOf_map r]; rfl
def anyG (al : Bool) (M : List MO) : List Sl → Option (Sl × List MO)
  | [s] => match lstD M s with
    | some ds => (blsOf ds).map fun bs => (.dat (.bl (if al then bs.all id else bs.any id)), M)
    | none => none
  | _ => none
theorem all_ok (hc : X.calm = true) : VT X (wCl X (.builtin "all")) (pu (anyG true)) := vt_pu (vl_w (cr_all hc) fun ss M s M' Ad G H vs Q e ms r q => by
  unfold anyG at e
  split at e
  · rename_i t
    split at e
    · rename_i ds hd
      cases hb : blsOf ds with
      | none => rw [hb] at e; cases e
      | some bs =>
        rw [hb] at e; cases e
        cases r with
        | cons r rr =>
          cases rr
          obtain ⟨p, vs, e1, e2, e3⟩ := lst_at ms r (lstD_ok hd)
          rw [blsOf_eq hb] at e3
          refine ⟨p, bs, by rw [e1], ?_, q _ _ _ _ (Grow.refl _ _ _) ms rs_bl⟩
          rw [← rps_bls (RpSs.toRps e3)]; exact SqL.of e2
    · cases e
  · cases e)
theorem any_ok (hc : X.calm = true) : VT X (wCl X (.builtin "any")) (pu (anyG false)) := vt_pu (vl_w (cr_any hc) fun ss M s M' Ad G H vs Q e ms r q => by
  unfold anyG at e
  split at e
  · rename_i t
    split at e
    · rename_i ds hd
      cases hb : blsOf ds with
      | none => rw [hb] at e; cases e
      | some bs =>
        rw [hb] at e; cases e
        cases r with
        | cons r rr =>
          cases rr
          obtain ⟨p, vs, e1, e2, e3⟩ := lst_at ms r (lstD_ok hd)
          rw [blsOf_eq hb] at e3
          refine ⟨p, bs, by rw [e1], ?_, q _ _ _ _ (Grow.refl _ _ _) ms rs_bl⟩
          rw [← rps_bls (RpSs.toRps e3)]; exact SqL.of e2
    · cases e
  · cases e)
def max2G (M : List MO) : List Sl → Option (Sl × List MO)
  | [.dat (.int i), .dat (.int j)] => some (.dat (.int (if j > i then j else i)), M)
  | _ => none
def min2G (M : List MO) : List Sl → Option (Sl × List MO)
  | [.dat (.int i), .dat (.int j)] => some (.dat (.int (if j < i then j else i)), M)
  | _ => none
theorem max2_ok (hc : X.calm = true) : VT X (wCl X (.builtin "max")) (pu max2G) := vt_pu (vl_w (call_max2 hc) fun ss M s M' Ad G H vs Q e ms r q => by
  unfold max2G at e
  split at e
  · cases e
    cases r with
    | cons r rr =>
      cases rr with
      | cons r' rr => cases rr; exact ⟨_, _, by rw [rp_int r, rp_int r'], q _ _ _ _ (Grow.refl _ _ _) ms rs_int⟩
  · cases e)
theorem min2_ok (hc : X.calm = true) : VT X (wCl X (.builtin "min")) (pu min2G) := vt_pu (vl_w (call_min2 hc) fun ss M s M' Ad G H vs Q e ms r q => by
  unfold min2G at e
  split at e
  · cases e
    cases r with
    | cons r rr =>
      cases rr with
      | cons r' rr => cases rr; exact ⟨_, _, by rw [rp_int r, rp_int r'], q _ _ _ _ (Grow.refl _ _ _) ms rs_int⟩
  · cases e)
/-- tuple(x) -/
def tupG (M : List MO) : Sl → Option (Sl × List MO)
  | .dat (.tup ds) => some (.dat (.tup ds), M)
  | s => (lstD M s).map fun ds => (.dat (.tup ds), M)
theorem se_tupleOf (G : GFx X "tuple") (hm : X.mg "tuple" = none) (h1 : SE X W e fa) (hs : starEach [e] X.env = [(false, eval e X.env)] := by rfl) : SE X W (.Call (.Name "tuple" p) [e] [] pos) (eOp1 tupG fa) := ⟨fun ρ M Ad G0 σ H Q ms en h =>
  toE (pe_tupleOf G.gl hm pe_w hs) (h1.seq ms en h fun Ad1 G1 M1 H1 v s g1 m1 r1 w1 => by
    obtain ⟨t, M', e1, q⟩ := wp_ofM.mp w1
    unfold tupG at e1
    split at e1
    · cases e1
      obtain ⟨p, vs, e1, e2, e3⟩ := tup_at (Ad := Ad1) m1.le r1 rfl
      exact .inr ⟨p, vs, e1, e2, q _ _ _ _ (Grow.refl _ _ _) m1 (e1 ▸ r1)⟩
    · cases hd : lstD M1 s with
      | none => rw [hd] at e1; cases e1
      | some ds =>
        rw [hd] at e1; cases e1
        obtain ⟨p, vs, e1, e2, e3⟩ := lst_at m1 r1 (lstD_ok hd)
        exact .inl ⟨p, vs, e1, SqL.of e2, fun l hl => new_tup m1 (RpSs.toRps e3) q hl⟩)⟩
theorem rps_rgV {K : PySem.W.Frag} {G : Hp} {i j : Int} : Rps K G (rgV i j) (rng i (j - i).toNat) := by
  unfold rgV rng
  generalize List.range (j - i).toNat = l
  induction l with
  | nil => exact .nil
  | cons a l ih => exact .cons (.int _) ih
/-- list(range(n)) -/
def lrgG (m : Bool) (M : List MO) : Sl → Option (Sl × List MO)
  | .dat (.int i) => if -(2 ^ 62) ≤ i ∧ i ≤ 16777216 then some (mkL m M (rng 0 i.toNat)) else none
  | _ => none
theorem se_lrg (mm : Bool) (G1 : GFx X "list") (hm : X.mg "list" = none) (G2 : GFx X "range") (hm2 : X.mg "range" = none) (hc : X.calm = true) (h1 : SE X W e fa)
    (hs : starEach [e] X.env = [(false, eval e X.env)] := by rfl) (hs2 : starEach [.Call (.Name "range" p2) [e] [] tpos] X.env = [(false, eval (.Call (.Name "range" p2) [e] [] tpos) X.env)] := by rfl) : SE X W (.Call (.Name "list" p) [.Call (.Name "range" p2) [e] [] tpos] [] pos) (eOp1 (lrgG mm) fa) := ⟨fun ρ M Ad G0 σ H Q ms en h =>
  toE (pe_listRg hc G1.gl hm (prg_1 G2.gl hm2 pe_w hs) hs2) (h1.seq ms en h fun Ad1 Gh M1 H1 v s g1 m1 r1 w1 => by
    obtain ⟨t, M', e1, q⟩ := wp_ofM.mp w1
    unfold lrgG at e1
    split at e1
    · split at e1
      · rename_i i hb
        have e1 : mkL mm M1 (rng 0 i.toNat) = (t, M') := Option.some.inj e1
        refine ⟨i, rp_int r1, ⟨by decide, by decide, hb.1, by omega, by omega⟩, fun l hl => ?_⟩
        have rr : Rps X.K Gh (rgV 0 i) (rng 0 i.toNat) := by have := rps_rgV (K := X.K) (G := Gh) (i := 0) (j := i); rwa [Int.sub_zero] at this
        exact new_mk (m := mm) m1 rr (by rw [e1]; exact q) hl
      · cases e1
    · cases e1)⟩
/-! ### methods of built-in objects -/
def strsOf : List D → Option (List Str)
  | [] => some []
  | .str b :: r => (strsOf r).map (b :: ·)
  | _ :: _ => none
theorem strsOf_eq : ∀ {ds : List D} {bs : List Str}, strsOf ds = some bs → ds = bs.map .str
  | [], _, h => by cases h; rfl
  | .str d :: r, _, h => by
    unfold strsOf at h
    cases e : strsOf r with
    | none => rw [e] at h; cases h
    | some es => rw [e] at h; cases h; rw [strsOf_eq e]; rfl
  | .non :: _, _, h => by cases h
  | .int _ :: _, _, h => by cases h
  | .bl _ :: _, _, h => by cases h
  | .lst _ :: _, _, h => by cases h
  | .tup _ :: _, _, h => by cases h
  | .dK _ :: _, _, h => by cases h
  | .dT _ :: _, _, h => by cases h
  | .ins _ _ :: _, _, h => by cases h
  | .scr _ :: _, _, h => by cases h
  | .exc _ _ :: _, _, h => by cases h
  | .fnc _ _ :: _, _, h => by cases h
  | .lam _ :: _, _, h => by cases h
@[simp] theorem strsOf_map : ∀ bs : List Str, strsOf (bs.map .str) = some bs
  | [] => rfl
  | b :: r => by rw [List.map_cons, strsOf, strsOf_map r]; rfl
def joinG (u : Str) (M : List MO) (s : Sl) : Option (Sl × List MO) := match lstD M s with
  | some ds => match strsOf ds with
    | some ys => if (ys.map (·.length)).sum + ys.length * u.length ≤ 16777216 then some (.dat (.str (Txt.join u ys)), M) else none
    | none => none
  | none => none
def eJoin (fa fb : CE) : CE := fun ρ => (fa ρ).bind fun x => (asS x).bind fun u => (fb ρ).bind fun y => ofM fun M => joinG u M y
theorem se_join (h0 : SE X W o fa) (h1 : SE X W e fb) (hbase : attributeBase o "join" X.env (eval o X.env) = eval o X.env := by rfl)
    (hfew : ((backTo pos (starEach [e] X.env)).all (fun x => !x.1) && (backToKw pos (keywordEach [] X.env)).all (fun x => x.1.isSome)
      && decide (([e] : List Expr).length + ([] : List Keyword).length + (if ([] : List Keyword).isEmpty then 0 else 1) < 30)) = true := by rfl)
    (hline : (apos.endLine == pos.line) = true := by rfl) (hs : starEach [e] X.env = [(false, eval e X.env)] := by rfl) : SE X W (.Call (.Attribute o "join" apos) [e] [] pos) (eJoin fa fb) := ⟨fun ρ M Ad G σ H Q ms en h =>
  toE (pe_bm PySem.F.plainAttrs_str PySem.F.slot_str_join PySem.F.type_str_join mt_join pe_w (pa_cons pe_w pa_nil hs) hbase hfew hline hs rfl) (h0.seq ms en h fun Ad1 G1 M1 H1 v1 s1 g1 m1 r1 w1 => by
    obtain ⟨u, rfl, w2⟩ := wp_asS (wp_evbind.mp w1)
    have w2 : wp (Ev.bind (fb ρ) (fun y => ofM fun M => joinG u M y) M1) (Po X W (RpS X.K) Q σ Ad1 G1 H1) := w2
    refine ⟨by rw [rp_str r1]; rfl, h1.seq m1 (en.grow g1) w2 fun Ad2 G2 M2 H2 v2 s2 g2 m2 r2 w3 => ?_⟩
    obtain ⟨t, M', e1, q⟩ := wp_ofM.mp w3
    unfold joinG at e1
    split at e1
    · rename_i ds hd
      split at e1
      · rename_i ys hy
        split at e1
        · rename_i hz
          cases e1
          obtain ⟨p, vs, e1, e2, e3⟩ := lst_at m2 r2 (lstD_ok hd)
          rw [strsOf_eq hy] at e3
          refine ⟨u, p, ys, rp_str r1, by rw [e1], .inl ?_, hz, q _ _ _ _ (Grow.refl _ _ _) m2 rs_str⟩
          rw [← rps_strs (RpSs.toRps e3)]; exact SqL.of e2
        · cases e1
      · cases e1
    · cases e1)⟩
/-! lists that change: append, insert -/
def muL (s : Sl) (M : List MO) : Option (Nat × List Sl) := match s with
  | .mu j => match M[j]? with
    | some (.lst xs) => some (j, xs)
    | _ => none
  | _ => none
theorem muL_ok {K : PySem.W.Frag} {Ad : List Addr} {G H : Hp} {M : List MO} {v : V} {s : Sl} {j : Nat} {xs : List Sl} (h : muL s M = some (j, xs)) (ms : MS K Ad G M H) (r : RpS K Ad G v s) : s = .mu j ∧ M[j]? = some (.lst xs) ∧ ∃ a vs, Ad[j]? = some a ∧ v = .ref a ∧ H a = some (.lst vs) ∧ RpSs K Ad G vs xs := by
  unfold muL at h
  split at h
  · split at h
    · rename_i hm
      cases h
      obtain ⟨a, e1, e2⟩ := r
      obtain ⟨vs, e3, e4⟩ := (ms.mo _ a _ e1 hm).2
      exact ⟨rfl, hm, a, vs, e1, e2, e3, e4⟩
    · cases h
  · cases h
def eApp (fa fb : CE) : CE := fun ρ => (fa ρ).bind fun x => fun M => match muL x M with
  | some _ => Ev.bind (fb ρ) (fun s => ofM fun M2 => match muL x M2 with
    | some (j, ys) => if ys.length < sizeLine then some (.dat .non, M2.set j (.lst (ys ++ [s]))) else none
    | none => none) M
  | none => .bad
theorem se_app (h0 : SE X W o fa) (h1 : SE X W e fb) (hbase : attributeBase o "append" X.env (eval o X.env) = eval o X.env := by rfl)
    (hfew : ((backTo pos (starEach [e] X.env)).all (fun x => !x.1) && (backToKw pos (keywordEach [] X.env)).all (fun x => x.1.isSome)
      && decide (([e] : List Expr).length + ([] : List Keyword).length + (if ([] : List Keyword).isEmpty then 0 else 1) < 30)) = true := by rfl)
    (hline : (apos.endLine == pos.line) = true := by rfl) (hs : starEach [e] X.env = [(false, eval e X.env)] := by rfl) : SE X W (.Call (.Attribute o "append" apos) [e] [] pos) (eApp fa fb) := ⟨fun ρ M Ad G σ H Q ms en h =>
  toE (pe_bm PySem.F.plainAttrs_list PySem.F.slot_list_append PySem.F.type_list_append mt_append pe_w (pa_cons pe_w pa_nil hs) hbase hfew hline hs rfl) (h0.seq ms en h fun Ad1 G1 M1 H1 v1 s1 g1 m1 r1 w1 => by
    cases hx : muL s1 M1 with
    | none => simp only [hx] at w1; exact w1.elim
    | some p =>
      obtain ⟨j, xs⟩ := p
      simp only [hx] at w1
      obtain ⟨rfl, hm, a, vs, e1, rfl, e3, e4⟩ := muL_ok hx m1 r1
      refine ⟨.inl ⟨rfl, _, SqL.of e3⟩, h1.seq m1 (en.grow g1) w1 fun Ad2 G2 M2 H2 v2 s2 g2 m2 r2 w3 => ?_⟩
      obtain ⟨t, M', e5, q⟩ := wp_ofM.mp w3
      split at e5
      · rename_i j' ys hy
        split at e5
        · rename_i hz
          cases e5
          obtain ⟨ej, hm2, a', ws, f1, f2, f3, f4⟩ := muL_ok hy m2 (RpS.grow g2 r1)
          cases ej
          cases f2
          have gw : Grow Ad2 G2 H2 Ad2 G2 (upd H2 a (.lst (ws ++ [v2]))) := Grow.write (List.mem_of_getElem? f1) (by rw [f3]; simp)
          exact ⟨a, ws, v2, rfl, rfl, f3, by rw [f4.length]; exact hz, q _ _ _ _ gw (m2.write (m' := .lst (ys ++ [s2])) f1 hm2 trivial ⟨_, upd_same, f4.append (.cons r2 .nil)⟩) rs_non⟩
        · cases e5
      · cases e5)⟩
end
end R

set_option Elab.async false
set_option linter.all false
set_option maxRecDepth 100000
set_option maxHeartbeats 4000000
namespace R
open PySem PySem.Spec PyProof.Rows L2
variable [Keys]

section
variable {prog : Program} {w : World} {A : Around} {E : Value → Shared → Prop} {s : Shared} {K : PySem.W.Frag} {x C f : Addr} {ox : Obj} {od : Option Obj} {b : Value}
theorem entry_neO {Q : Fin → Shared → Prop} (hu : A.units < cLine) (X : K.In s.heap) (I : PySem.W.InstAt s.heap x ox C od) (hs : PySem.W.findIn K (.ref C) "__eq__" = some (some (.ref f))) (hf : PySem.W.isFn K (.ref f) = true)
    (h : wpAny (model prog w) A (call (.ref f) [.ref x, b]) (fun v s' => ∃ q, v = .bool q ∧ Q (.done (.ret (.bool (!q)))) s') E s) : wpAny (model prog w) A (Builtin.«object.__ne__» ⟨[.ref x, b], []⟩) Q E s := by
  unfold Builtin.«object.__ne__»
  repeat (first
    | with_reducible refine wpAny_cRoomFor hu ?_
    | (refine wpAny_bind (m := callSpecialIfBound? (.ref x) (Str.ofString "__eq__") [b])
        (PySem.W.ifBound_K X I hs hf (wpAny_mono h (fun r s' hr => by
          obtain ⟨b, rfl, hq⟩ := hr
          repeat (first | exact hq | exact wpAny_pure hq | exact wpAny_truthy_bool hq | (refine wpAny_bind (m := truthy (.bool _)) (wpAny_truthy_bool ?_)) | wp_step)) fun _ _ e => e)))
    | wp_step)
theorem call_neO {Q : Value → Shared → Prop} (hu : A.in1.units < cLine) (X : K.In s.heap) (I : PySem.W.InstAt s.heap x ox C od) (hm : PySem.W.mroIn K C (.type "object") = some true) (hs : PySem.W.findIn K (.ref C) "__eq__" = some (some (.ref f))) (hf : PySem.W.isFn K (.ref f) = true)
    (h : wpAny (model prog w) A.in1 (call (.ref f) [.ref x, b]) (fun v s' => ∃ q, v = .bool q ∧ Q (.bool (!q)) s') E s) : wpAny (model prog w) A (call (.builtin "object.__ne__") [.ref x, b]) Q E s := by
  refine wpAny_call (codeAny_call_builtin F.cmp_object.ne.plain F.cmpEntry_ne (PySem.W.check_slot F.cmpKind_ne F.cmpSplit_ne (I.type.andThen (PySem.W.looks_mroIn X hm)) (F.cmpArgs_ne _ _) (entry_neO (A := A.in1) hu X I hs hf (wpAny_mono h (fun v s' z => ?_) fun _ _ e => e))))
  exact z
theorem ifBound_neO {M : Model} {args : List Value} {Q : Option Value → Shared → Prop} (X : K.In s.heap) (I : PySem.W.InstAt s.heap x ox C od) (hs : PySem.W.findIn K (.ref C) "__ne__" = some (some (.builtin "object.__ne__")))
    (h : wpAny M A (call (.builtin "object.__ne__") (.ref x :: args)) (fun v => Q (some v)) E s) : wpAny M A (callSpecialIfBound? (.ref x) "__ne__" args) Q E s := by
  simp only [callSpecialIfBound?, bindSpecialIfBound?]
  refine wpAny_holding (wpAny_bind (wpAny_bind (wpAny_bind (I.type.here ((PySem.W.looks_findIn X hs).here ?_)))))
  refine wpAny_bind (wpAny_askSetting (wpAny_ite ?_))
  have fin : wpAny M A (call (.builtin "object.__ne__") ([.ref x] ++ args) >>= fun v => pure (some v)) Q E s := wpAny_bind (wpAny_mono h (fun v s' h' => wpAny_pure h') fun _ _ h' => h')
  split
  · exact wpAny_bind (wpAny_of_eq (F.cmp_object.ne.bind _) (wpAny_pure (by exact fin)))
  · exact wpAny_tryCatch (wpAny_bind (wpAny_of_eq (F.cmp_object.ne.bind _) (wpAny_pure (by exact fin))))
theorem rc_neO {tb : Value} {Q : Value → Shared → Prop} (hu : A.units < cLine) (hu1 : A.in1.units < cLine) (X : K.In s.heap) (I : PySem.W.InstAt s.heap x ox C od) (hb : PySem.W.Looks (model prog w) s.heap (typeOf b) tb) (hn : PySem.W.notFirst K C tb = true) (hm : PySem.W.mroIn K C (.type "object") = some true)
    (hne : PySem.W.findIn K (.ref C) "__ne__" = some (some (.builtin "object.__ne__"))) (hs : PySem.W.findIn K (.ref C) "__eq__" = some (some (.ref f))) (hf : PySem.W.isFn K (.ref f) = true)
    (h : wpAny (model prog w) A.in1 (call (.ref f) [.ref x, b]) (fun v s' => ∃ q, v = .bool q ∧ Q (.bool (!q)) s') E s) : wpAny (model prog w) A (richCompare .NotEq (.ref x) b) Q E s := by
  have one : wpAny (model prog w) A (tryCompare (.ref x) "__ne__" b) (fun r s' => ∃ v, r = some v ∧ Q v s') E s := by
    unfold tryCompare
    refine wpAny_bind (ifBound_neO X I hne (call_neO hu1 X I hm hs hf (wpAny_mono h (fun v s' hv => ?_) fun _ _ e => e)))
    obtain ⟨q, rfl, hq⟩ := hv
    exact ⟨q, rfl, wpAny_pure ⟨_, rfl, hq⟩⟩
  unfold richCompare
  simp only [oneThing_ref]
  refine wpAny_holding (wpAny_bind (wpAny_cRoomFor hu ?_))
  refine wpAny_bind (I.type.here (wpAny_bind (hb.here ?_)))
  split
  · rename_i q
    have e : PySem.W.subIn K tb (.ref C) = some false := by
      rcases Bool.or_eq_true_iff.mp hn with e | e
      · rw [beq_iff_eq.mp e] at q; simp at q
      · exact beq_iff_eq.mp e
    refine wpAny_bind ((PySem.W.looks_subIn X e).here ?_)
    simp only [Bool.false_eq_true, if_false]
    refine wpAny_bind (wpAny_mono one (fun r s' z => ?_) fun _ _ e => e)
    obtain ⟨v, rfl, hq⟩ := z
    exact wpAny_pure hq
  · refine wpAny_bind (wpAny_pure ?_)
    simp only [Bool.false_eq_true, if_false]
    refine wpAny_bind (wpAny_mono one (fun r s' z => ?_) fun _ _ e => e)
    obtain ⟨v, rfl, hq⟩ := z
    exact wpAny_pure hq
theorem contains_O {Q : Bool → Shared → Prop} (X : K.In s.heap) (I : PySem.W.InstAt s.heap x ox C od) (hs : PySem.W.findIn K (.ref C) "__contains__" = some (some (.ref f))) (hf : PySem.W.isFn K (.ref f) = true)
    (h : wpAny (model prog w) A (call (.ref f) [.ref x, b]) (fun v s' => ∃ q, v = .bool q ∧ Q q s') E s) : wpAny (model prog w) A (contains (.ref x) b) Q E s := by
  unfold contains
  refine wpAny_holding ?_
  rw [stdlibNamesSay?_ref]
  refine wpAny_bind (wpAny_bind (I.type.here ((PySem.W.looks_findIn X hs).here ?_)))
  rw [if_neg (by simp)]
  refine wpAny_bind ?_
  unfold callSpecialUnlessNone?
  refine wpAny_bind (wpAny_bind (I.type.here ((PySem.W.looks_findIn X hs).here ?_)))
  refine wpAny_holding (wpAny_bind ((PySem.W.bind_fn X _ (beq_iff_eq.mp hf)).here ?_))
  dsimp only
  rw [if_neg (by simp)]
  refine wpAny_bind (wpAny_mono h (fun v s' hv => ?_) fun _ _ e => e)
  obtain ⟨q, rfl, hq⟩ := hv
  exact wpAny_pure (wpAny_truthy_bool hq)
end
def tyD : D → String
  | .non => "NoneType"
  | .bl _ => "bool"
  | .int _ => "int"
  | .str _ => "str"
  | .lst _ => "list"
  | .tup _ => "tuple"
  | .dK _ => "dict"
  | .dT _ => "dict"
  | .ins _ _ => ""
  | .scr _ => "list"
  | .exc _ _ => ""
  | .fnc _ _ => ""
  | .lam _ => ""
def noIns : D → Bool
  | .ins _ _ => false
  | .dT _ => false
  | .exc _ _ => false
  | .fnc _ _ => false
  | .lam _ => false
  | _ => true
theorem tyx_of {K : PySem.W.Frag} {G H : Hp} {v : V} {d : D} (le : Le G H) (r : Rp K G v d) (h : noIns d = true) : TyX K H v (.type (tyD d)) := by
  cases r with
  | non => exact .base .non
  | bl b => exact .base (.bl b)
  | int i => exact .base (.int i)
  | str x => exact .base (.str x)
  | lst hq _ => exact .base (.lst (le.lst hq))
  | scr hq =>
    rcases le.l hq with (z | ⟨o, z⟩) | ⟨o, its, n, z, z2, _⟩
    · exact .base (.lst z)
    · exact .base (.frz z)
    · exact .kList z z2
  | tup hq _ =>
    rcases le.t hq with (z | ⟨o, z⟩) | ⟨o, its, n, z, z2, _⟩
    · exact .base (.tup z)
    · exact .fTuple z
    · exact .kTuple z z2
  | dK hq _ =>
    rcases le.rd hq with z | ⟨o, z⟩
    · exact .base (.dK z)
    · exact .fDict z
  | dT _ _ => cases h
  | ins _ _ => cases h
  | exc _ _ _ _ => cases h
  | fnc _ _ _ => cases h
  | lam _ => cases h

/-- the default != -/
structure NeO (K : PySem.W.Frag) (C : Addr) : Prop where
  ne : PySem.W.findIn K (.ref C) "__ne__" = some (some (.builtin "object.__ne__"))
  ob : PySem.W.mroIn K C (.type "object") = some true
def tyNames : List String := ["NoneType", "bool", "int", "str", "list", "tuple", "dict"]
theorem tyD_mem {d : D} (h : noIns d = true) : tyD d ∈ tyNames := by cases d <;> first | (cases h; done) | (simp [tyD, tyNames])
/-- what the own == of a class wants to know -/
structure EqF (D : Wd) (k : Nat) (c : Nat) (F : Fn) : Prop where
  dun : DunF D k c "__eq__" 2 F
  ne : NeO D.K (cA D.K c)
  nf : ∀ n ∈ tyNames, PySem.W.notFirst D.K (cA D.K c) (.type n) = true
def EqT (D : Wd) (k : Nat) (t : Tbl) : Prop := ∀ c F, t.lookup c = some F → EqF D k c F
def othOk (M : List MO) (c : Nat) (y : Sl) : Bool := match clsAt M y with
  | some c' => c' == c
  | none => match y with
    | .dat d => noIns d
    | _ => false
def cmpG (op : CmpOp) (tEq tIn : Tbl) (x y : Sl) : Ev Sl := fun M => match cmpV op M x y with
  | some b => .ret (.ok (.dat (.bl b)) M)
  | none => match op with
    | .Eq => match clsAt M x with
      | some c => match tEq.lookup c with
        | some F => if othOk M c y then (F [x, y] M).bind (chkBl fun b => b) else .bad
        | none => .bad
      | none => .bad
    | .NotEq => match clsAt M x with
      | some c => match tEq.lookup c with
        | some F => if othOk M c y then (F [x, y] M).bind (chkBl fun b => !b) else .bad
        | none => .bad
      | none => .bad
    | .In => match clsAt M y with
      | some c => match tIn.lookup c with
        | some F => (F [y, x] M).bind (chkBl fun b => b)
        | none => .bad
      | none => .bad
    | .NotIn => match clsAt M y with
      | some c => match tIn.lookup c with
        | some F => (F [y, x] M).bind (chkBl fun b => !b)
        | none => .bad
      | none => .bad
    | _ => .bad
def VT2 (X : Cx) (r : R2) (g : Sl → Sl → Ev Sl) : Prop :=
  ∀ x y M Ad G H vx vy Q, MS X.K Ad G M H → RpS X.K Ad G vx x → RpS X.K Ad G vy y → wp (g x y M) (PoC X.K Q (fun _ _ _ => False) Ad G H) → r vx vy H Q
def eOp2T (g : Sl → Sl → Ev Sl) (fa fb : CE) : CE := fun ρ => (fa ρ).bind fun x => (fb ρ).bind fun y => noX (g x y)
section
variable {X : Cx} {W : WX} {e o a b : Expr} {es : List Expr} {fa fb fv : CE} {fs : CA} {ft : CT} {x m : Str} {p p2 pos apos p' tpos : Pos} {F : Fn} {k n : Nat} {ps : List Str} {c : Nat} {tEq tIn : Tbl}
theorem oth_looks {pins : List (Addr × Obj)} {σ : L2.St} {Ad : List Addr} {G H : Hp} {M : List MO} {s : Shared} {v : V} {w : Value} {y : Sl} (I : Inv X pins σ H s) (ms : MS X.K Ad G M H) (rv : L2.RelV v w) (r : RpS X.K Ad G v y) (o : othOk M c y = true) (nf : ∀ n ∈ tyNames, PySem.W.notFirst X.K (cA X.K c) (.type n) = true) : ∃ tb, PySem.W.Looks (model X.prog X.w) s.heap (typeOf w) tb ∧ PySem.W.notFirst X.K (cA X.K c) tb = true := by
  unfold othOk at o
  split at o
  · rename_i c' hc
    have e : c' = c := eq_of_beq o
    subst e
    obtain ⟨a, dx, gs, rfl, ea⟩ := cls_at ms r hc
    cases rv
    obtain ⟨mA, J, _⟩ := ins_get I.hok ea
    obtain ⟨od, J, _⟩ := J.look
    exact ⟨_, J.type, by simp [PySem.W.notFirst]⟩
  · split at o
    · rename_i d _
      obtain ⟨P, kx, hp, _⟩ := kit_of I rv (tyx_of ms.le r o)
      exact ⟨_, kx.ty _ _ I.kIn hp, nf _ (tyD_mem o)⟩
    · cases o
theorem chk_wp {g : Bool → Bool} {F : Fn} {ss : List Sl} {M : List MO} {Ad : List Addr} {G H : Hp} {Q Q1 : VK} (w : wp ((F ss M).bind (chkBl g)) (PoC X.K Q (fun _ _ _ => False) Ad G H)) (hq : ∀ (n : Bool) H', Q (.bl (g n)) H' → Q1 (.bl n) H') : wp (F ss M) (PoC X.K Q1 (fun _ _ _ => False) Ad G H) :=
  wp_mono (fun r hr => by
    unfold chkBl at hr
    split at hr
    · rename_i i M2
      intro Ad' G' H' v g' m r'
      rw [rp_bl r']
      exact hq _ _ (hr _ _ _ _ g' m rs_bl)
    · exact hr.elim) (wp_bind.mp w)
theorem cmpG_ok {op : CmpOp} (hu : X.A.units + 65 < cLine) (hr : Room (k + 1) X.A) (TE : EqT X.wd k tEq) (TI : DunT X.wd k "__contains__" 2 tIn) : VT2 X (wOp X (compareOp op)) (cmpG op tEq tIn) := by
  intro x y M Ad G H vx vy Q ms rx ry w
  unfold cmpG at w
  split at w
  · rename_i b hb
    exact cmp_ok hu x y M _ M Ad G H vx vy Q (cmp_of hb) ms rx ry fun Ad' G' H' v g m r => w _ _ _ _ g m r
  · have hr0 : Room k X.A := hr.mono (Nat.le_succ k)
    cases op <;> dsimp only at w <;> first | (exact w.elim) | skip
    · split at w
      · rename_i c hc
        split at w
        · rename_i F hF
          split at w
          · rename_i ho
            obtain ⟨f, fd, ps, FO, hfi, hfn, hb⟩ := (TE c F hF).dun.ex
            refine ⟨fun x y H1 Q1 => x = vx ∧ y = vy ∧ H1 = H ∧ Q1 = Q, ?_, rfl, rfl, rfl, rfl⟩
            intro pins s σ H1 x y v u Q1 I rx' ry' ⟨w1, w2, w3, w4⟩
            subst w1 w2 w3 w4
            obtain ⟨tb, lk, nf⟩ := oth_looks I ms ry' ry ho (TE c F hF).nf
            obtain ⟨a, dx, gs, rfl, ea⟩ := cls_at ms rx hc
            cases rx'
            obtain ⟨mA, J, _⟩ := ins_get I.hok ea
            obtain ⟨od, J, _⟩ := J.look
            obtain ⟨m, hFr⟩ := I.fr
            refine PySem.W.cmp_K (op := .Eq) (tb := tb) hr.units0 hFr I.ok.mod.kin J lk nf hfi hfn (wpAny_mono (call_in (A1 := X.A) (vs := [.ref a, y]) (Q := fun v H' => ∃ n : Bool, v = .bl n ∧ Q1 (.bl n) H') FO hr0 rfl hb I (.cons rfl (.cons ry' .nil)) ?_) (fun v s' z => ?_) fun _ _ x => x)
            · exact ⟨Ad, G, M, _, ms, .cons rx (.cons ry .nil), rfl, chk_wp w fun n H' hq => ⟨n, rfl, hq⟩⟩
            · obtain ⟨w, H', I', rw', n, ew, hq⟩ := z
              subst ew
              cases rw'
              exact ⟨.bl n, H', I', rfl, hq⟩
          · exact w.elim
        · exact w.elim
      · exact w.elim
    · split at w
      · rename_i c hc
        split at w
        · rename_i F hF
          split at w
          · rename_i ho
            obtain ⟨f, fd, ps, FO, hfi, hfn, hb⟩ := (TE c F hF).dun.ex
            refine ⟨fun x y H1 Q1 => x = vx ∧ y = vy ∧ H1 = H ∧ Q1 = Q, ?_, rfl, rfl, rfl, rfl⟩
            intro pins s σ H1 x y v u Q1 I rx' ry' ⟨w1, w2, w3, w4⟩
            subst w1 w2 w3 w4
            obtain ⟨tb, lk, nf⟩ := oth_looks I ms ry' ry ho (TE c F hF).nf
            obtain ⟨a, dx, gs, rfl, ea⟩ := cls_at ms rx hc
            cases rx'
            obtain ⟨mA, J, _⟩ := ins_get I.hok ea
            obtain ⟨od, J, _⟩ := J.look
            refine rc_neO hr.units0 (Room.in1 hr).units0 I.kIn J lk nf (TE c F hF).ne.ob (TE c F hF).ne.ne hfi hfn (wpAny_mono (call_in (A1 := X.A.in1) (vs := [.ref a, y]) (Q := fun v H' => ∃ n : Bool, v = .bl n ∧ Q1 (.bl (!n)) H') FO (Room.in1 hr) rfl hb I (.cons rfl (.cons ry' .nil)) ?_) (fun v s' z => ?_) fun _ _ x => x)
            · exact ⟨Ad, G, M, _, ms, .cons rx (.cons ry .nil), rfl, chk_wp w fun n H' hq => ⟨n, rfl, hq⟩⟩
            · obtain ⟨w, H', I', rw', n, ew, hq⟩ := z
              subst ew
              cases rw'
              exact ⟨n, rfl, ⟨.bl (!n), H', I', rfl, hq⟩⟩
          · exact w.elim
        · exact w.elim
      · exact w.elim
    · split at w
      · rename_i c hc
        split at w
        · rename_i F hF
          obtain ⟨f, fd, ps, FO, hfi, hfn, hb⟩ := (TI c F hF).ex
          refine ⟨fun x y H1 Q1 => x = vx ∧ y = vy ∧ H1 = H ∧ Q1 = Q, ?_, rfl, rfl, rfl, rfl⟩
          intro pins s σ H1 x y v u Q1 I rx' ry' ⟨w1, w2, w3, w4⟩
          subst w1 w2 w3 w4
          obtain ⟨a, dx, gs, rfl, ea⟩ := cls_at ms ry hc
          cases ry'
          obtain ⟨mA, J, _⟩ := ins_get I.hok ea
          obtain ⟨od, J, _⟩ := J.look
          show wpAny (model X.prog X.w) X.A (contains (.ref a) v >>= fun b => pure (Value.bool b)) _ _ s
          refine wpAny_bind (contains_O I.kIn J hfi hfn (wpAny_mono (call_in (A1 := X.A) (vs := [.ref a, x]) (Q := fun v H' => ∃ n : Bool, v = .bl n ∧ Q1 (.bl n) H') FO hr0 rfl hb I (.cons rfl (.cons rx' .nil)) ?_) (fun v s' z => ?_) fun _ _ x => x))
          · exact ⟨Ad, G, M, _, ms, .cons ry (.cons rx .nil), rfl, chk_wp w fun n H' hq => ⟨n, rfl, hq⟩⟩
          · obtain ⟨w, H', I', rw', n, ew, hq⟩ := z
            subst ew
            cases rw'
            exact ⟨n, rfl, wpAny_pure ⟨.bl n, H', I', rfl, hq⟩⟩
        · exact w.elim
      · exact w.elim
    · split at w
      · rename_i c hc
        split at w
        · rename_i F hF
          obtain ⟨f, fd, ps, FO, hfi, hfn, hb⟩ := (TI c F hF).ex
          refine ⟨fun x y H1 Q1 => x = vx ∧ y = vy ∧ H1 = H ∧ Q1 = Q, ?_, rfl, rfl, rfl, rfl⟩
          intro pins s σ H1 x y v u Q1 I rx' ry' ⟨w1, w2, w3, w4⟩
          subst w1 w2 w3 w4
          obtain ⟨a, dx, gs, rfl, ea⟩ := cls_at ms ry hc
          cases ry'
          obtain ⟨mA, J, _⟩ := ins_get I.hok ea
          obtain ⟨od, J, _⟩ := J.look
          show wpAny (model X.prog X.w) X.A (contains (.ref a) v >>= fun b => pure (Value.bool (!b))) _ _ s
          refine wpAny_bind (contains_O I.kIn J hfi hfn (wpAny_mono (call_in (A1 := X.A) (vs := [.ref a, x]) (Q := fun v H' => ∃ n : Bool, v = .bl n ∧ Q1 (.bl (!n)) H') FO hr0 rfl hb I (.cons rfl (.cons rx' .nil)) ?_) (fun v s' z => ?_) fun _ _ x => x))
          · exact ⟨Ad, G, M, _, ms, .cons ry (.cons rx .nil), rfl, chk_wp w fun n H' hq => ⟨n, rfl, hq⟩⟩
          · obtain ⟨w, H', I', rw', n, ew, hq⟩ := z
            subst ew
            cases rw'
            exact ⟨n, rfl, wpAny_pure ⟨.bl (!n), H', I', rfl, hq⟩⟩
        · exact w.elim
      · exact w.elim
theorem se_op2T {r : R2} {g} {e : Expr} (pe : PE X e (tOp r (wE X a) (wE X b))) (h1 : SE X W a fa) (h2 : SE X W b fb) (hv : VT2 X r g) : SE X W e (eOp2T g fa fb) := ⟨fun ρ M Ad G σ H Q ms en h =>
  toE pe (h1.seq ms en h fun Ad1 G1 M1 H1 v1 x g1 m1 r1 w1 => h2.seq m1 (en.grow g1) w1 fun Ad2 G2 M2 H2 v2 y g2 m2 r2 w2 => hv x y M2 Ad2 G2 H2 v1 v2 Q m2 (r1.grow g2) r2 (noX_ok w2))⟩
theorem se_cmpT {op : CmpOp} (hu : X.A.units + 65 < cLine) (hr : Room (k + 1) X.A) (TE : EqT X.wd k tEq) (TI : DunT X.wd k "__contains__" 2 tIn) (h1 : SE X W a fa) (h2 : SE X W b fb) (hm : behindInMarks op b = false := by rfl) : SE X W (.Compare a [op] [b] pos) (eOp2T (cmpG op tEq tIn) fa fb) := se_op2T (pe_cmpR op_w pe_w pe_w hm) h1 h2 (cmpG_ok hu hr TE TI)
theorem st_cmpT {op : CmpOp} (hu : X.A.units + 65 < cLine) (hr : Room (k + 1) X.A) (TE : EqT X.wd k tEq) (TI : DunT X.wd k "__contains__" 2 tIn) (h1 : SE X W a fa) (h2 : SE X W b fb) (hm : behindInMarks op b = false := by rfl) : ST X W (.Compare a [op] [b] pos) (tVal (eOp2T (cmpG op tEq tIn) fa fb)) := ⟨fun ρ M Ad G σ H Q ms en h => by
  have h' : wp (Ev.bind (fa ρ) (fun x => Ev.bind (fb ρ) fun y => Ev.bind (noX (cmpG op tEq tIn x y)) asB) M) (Po X W RlT Q σ Ad G H) := by
    refine wp_evbind.mpr (wp_mono (fun r hr => ?_) (wp_evbind.mp (wp_evbind.mp h)))
    cases r with
    | ex c fs M1 => exact hr
    | ok x M1 =>
      refine wp_evbind.mpr (wp_mono (fun r hr => ?_) (wp_evbind.mp hr))
      cases r with
      | ex c fs M1 => exact hr
      | ok y M2 => exact wp_evbind.mpr hr
  refine toT (pt_cmpR op_w pe_w pe_w hm) (h1.seq ms en h' fun Ad1 G1 M1 H1 v1 x g1 m1 r1 w1 => h2.seq m1 (en.grow g1) w1 fun Ad2 G2 M2 H2 v2 y g2 m2 r2 w2 => ?_)
  refine cmpG_ok hu hr TE TI x y M2 Ad2 G2 H2 v1 v2 _ m2 (r1.grow g2) r2 (wp_mono (fun r hr => ?_) (wp_noX (wp_evbind.mp w2)))
  obtain ⟨s, M3, rfl, hr⟩ := hr
  intro Ad' G' H' v g' m' r'
  obtain ⟨b, rfl, q⟩ := wp_asB hr
  exact ⟨_, rp_bl r', q _ _ _ _ g' m' rfl⟩⟩
/-! ### insert; xs[i] = e -/
def eIns (fo fa fb : CE) : CE := fun ρ => (fo ρ).bind fun x => fun M => match muL x M with
  | some _ => Ev.bind (fa ρ) (fun y => Ev.bind (fb ρ) fun s => ofM fun M2 => match y with
    | .dat (.int i) => match muL x M2 with
      | some (j, ys) => if ys.length < sizeLine ∧ 0 ≤ i ∧ i < 2 ^ 63 then some (.dat .non, M2.set j (.lst (ys.take i.toNat ++ [s] ++ ys.drop i.toNat))) else none
      | none => none
    | _ => none) M
  | none => .bad
theorem se_ins {fo : CE} (h0 : SE X W o fo) (h1 : SE X W a fa) (h2 : SE X W b fb) (hbase : attributeBase o "insert" X.env (eval o X.env) = eval o X.env := by rfl)
    (hfew : ((backTo pos (starEach [a, b] X.env)).all (fun x => !x.1) && (backToKw pos (keywordEach [] X.env)).all (fun x => x.1.isSome)
      && decide (([a, b] : List Expr).length + ([] : List Keyword).length + (if ([] : List Keyword).isEmpty then 0 else 1) < 30)) = true := by rfl)
    (hline : (apos.endLine == pos.line) = true := by rfl) (hs : starEach [a, b] X.env = [(false, eval a X.env), (false, eval b X.env)] := by rfl) (hs2 : starEach [b] X.env = [(false, eval b X.env)] := by rfl) : SE X W (.Call (.Attribute o "insert" apos) [a, b] [] pos) (eIns fo fa fb) := ⟨fun ρ M Ad G σ H Q ms en h =>
  toE (pe_bm PySem.F.plainAttrs_list PySem.F.slot_list_insert PySem.F.type_list_insert mt_insert pe_w (pa_cons pe_w (pa_cons pe_w pa_nil hs2) (by rw [hs, hs2])) hbase hfew hline (by rw [hs, hs2]) (by rw [hs2]; rfl)) (h0.seq ms en h fun Ad1 G1 M1 H1 v1 s1 g1 m1 r1 w1 => by
    cases hx : muL s1 M1 with
    | none => simp only [hx] at w1; exact w1.elim
    | some p =>
      obtain ⟨j, xs⟩ := p
      simp only [hx] at w1
      obtain ⟨rfl, hm, l, vs, e1, rfl, e3, e4⟩ := muL_ok hx m1 r1
      refine ⟨.inl ⟨rfl, _, SqL.of e3⟩, h1.seq m1 (en.grow g1) w1 fun Ad2 G2 M2 H2 v2 y g2 m2 r2 w2 => h2.seq m2 (en.grow (g1.trans g2)) w2 fun Ad3 G3 M3 H3 v3 s3 g3 m3 r3 w3 => ?_⟩
      obtain ⟨t, M', e5, q⟩ := wp_ofM.mp w3
      split at e5
      · rename_i i
        split at e5
        · rename_i j' ys hy
          split at e5
          · rename_i hz
            cases e5
            obtain ⟨ej, hm2, a', ws, f1, f2, f3, f4⟩ := muL_ok hy m3 (RpS.grow (g2.trans g3) r1)
            cases ej
            cases f2
            have gw : Grow Ad3 G3 H3 Ad3 G3 (upd H3 l (.lst (ws.take i.toNat ++ [v3] ++ ws.drop i.toNat))) := Grow.write (List.mem_of_getElem? f1) (by rw [f3]; simp)
            exact ⟨l, ws, i, v3, rfl, by rw [rp_int (r2.grow g3)], f3, by rw [f4.length]; exact hz.1, hz.2.1, hz.2.2, q _ _ _ _ gw (m3.write (m' := .lst (ys.take i.toNat ++ [s3] ++ ys.drop i.toNat)) f1 hm2 trivial ⟨_, upd_same, ((f4.take _).append (.cons r3 .nil)).append (f4.drop _)⟩) rs_non⟩
          · cases e5
        · cases e5
      · cases e5)⟩
end
end R

set_option Elab.async false
set_option linter.all false
set_option maxRecDepth 100000
set_option maxHeartbeats 4000000
namespace R
open PySem PySem.Spec PyProof.Rows L2
variable [Keys]

def clsOf : List String → List V → Prop
  | [], [] => True
  | n :: ns, v :: vs => v = .ty n ∧ clsOf ns vs
  | _, _ => False
theorem clsOf_paired : ∀ {ns : List String} {vs : List V}, clsOf ns vs → Paired ClsV vs (ns.map Value.type)
  | [], [], _ => .nil
  | n :: ns, v :: vs, ⟨e, r⟩ => by subst e; exact .cons (.ty n) (clsOf_paired r)
  | [], _ :: _, h => h.elim
  | _ :: _, [], h => h.elim
def kitAnyB (a : String) : List String → Option Bool
  | [] => some false
  | n :: ns => match kitB a n with
    | some true => some true
    | some false => kitAnyB a ns
    | none => none
theorem kitAnyB_ok {K : PySem.W.Frag} {a : String} : ∀ {ns : List String} {r : Bool}, kitAnyB a ns = some r → PySem.W.kitAny K (.type a) (ns.map Value.type) = some r
  | [], r, h => by cases h; exact kitAny_nil
  | n :: ns, r, h => by
    unfold kitAnyB at h
    split at h
    · rename_i hk
      cases h
      exact kitAny_cons (kit_ty hk) (fun z => by cases z) fun _ => rfl
    · rename_i hk
      exact kitAny_cons (kit_ty hk) (fun _ => kitAnyB_ok h) fun z => by cases z
    · cases h

/-! ### isinstance -/
/-- the type of a value: a built-in one, an own class -/
inductive Ty : Type where
  | bi (n : String)
  | own (c : Nat)
def tyM (M : List MO) (s : Sl) : Option Ty := match clsAt M s with
  | some c => some (.own c)
  | none => match s with
    | .dat d => if noIns d then some (.bi (tyD d)) else none
    | .mu j => match M[j]? with
      | some (.lst _) => some (.bi "list")
      | _ => none
    | _ => none
/-- what isinstance asks of an own class -/
structure InsF (K : PySem.W.Frag) (C : Addr) : Prop where
  cl : Cls K C
  ha : PySem.W.findIn K (.ref C) "__class__" = some (some (.builtin "object.__class__"))
  hn : PySem.W.specialIn K (.builtin "object.__class__") "__get__" = some (some (.builtin "getset_descriptor.__get__"))
  htk : PySem.W.takesIn K (.builtin "object.__class__") = some true
  hm : PySem.W.mroIn K C (.type "object") = some true
def Ty.val (K : PySem.W.Frag) : Ty → Value
  | .bi n => .type n
  | .own c => .ref (cA K c)
theorem tyM_ok {K : PySem.W.Frag} {Ad : List Addr} {G H : Hp} {M : List MO} {v : V} {s : Sl} {t : Ty} (ms : MS K Ad G M H) (r : RpS K Ad G v s) (h : tyM M s = some t) (hI : ∀ c, t = .own c → InsF K (cA K c)) : TyX K H v (t.val K) := by
  unfold tyM at h
  split at h
  · rename_i c hc
    cases h
    obtain ⟨a, dx, gs, rfl, ea⟩ := cls_at ms r hc
    have I := hI c rfl
    exact .base (.ins ea I.cl I.ha I.hn I.htk I.hm)
  · split at h
    · split at h
      · rename_i hn; cases h; exact tyx_of ms.le r hn
      · cases h
    · split at h
      · rename_i hj
        cases h
        obtain ⟨a, e1, rfl⟩ := r
        obtain ⟨vs, e2, _⟩ := (ms.mo _ a _ e1 hj).2
        exact .base (.lst e2)
      · cases h
    · cases h
section
variable {X : Cx} {W : WX} {e o a b : Expr} {es : List Expr} {fa fb fv : CE} {fs : CA} {ft : CT} {x m n1 n2 : Str} {p p2 p3 pos apos p' tpos : Pos} {F : Fn} {k n : Nat} {ps : List Str} {c : Nat}
/-- against a built-in type -/
def isiT (ns : List String) (M : List MO) (s : Sl) : Option (Sl × List MO) := match tyM M s with
  | some (.bi t) => (kitAnyB t ns).map fun b => (.dat (.bl b), M)
  | _ => none
theorem se_isiT {ns : String} (G : GFx X "isinstance") (hm : X.mg "isinstance" = none) (G1 : GFx X n1) (hm1 : X.mg n1 = none) (hv : bootBuiltins n1 = some (.type ns)) (hn : n1 ≠ "__name__") (h1 : SE X W a fa)
    (he : starEach [a, .Name n1 p2] X.env = [(false, eval a X.env), (false, eval (.Name n1 p2) X.env)] := by rfl) (he2 : starEach [.Name n1 p2] X.env = [(false, eval (.Name n1 p2) X.env)] := by rfl) : SE X W (.Call (.Name "isinstance" p) [a, .Name n1 p2] [] pos) (eOp1 (isiT [ns]) fa) := ⟨fun ρ M Ad Gh σ H Q ms en h =>
  toE (pe_callB call_isi G.gl hm (by decide +kernel) (pa_cons pe_w (pa_cons (pe_bltn (v := .ty ns) G1.gl hm1 hv rfl hn G1.nd) pa_nil he2) (by rw [he, he2])) (he := by rw [he, he2]) (hpl := by rw [he2]; rfl)) (h1.seq ms en h fun Ad1 Gh1 M1 H1 v s g1 m1 r1 w1 => by
    obtain ⟨t, M', e1, q⟩ := wp_ofM.mp w1
    unfold isiT at e1
    split at e1
    · rename_i ty hty
      cases hk : kitAnyB ty [ns] with
      | none => rw [hk] at e1; cases e1
      | some b =>
        rw [hk] at e1; cases e1
        refine ⟨v, .ty ns, _, _, b, rfl, .ty ns, tyM_ok m1 r1 hty (fun c z => by cases z), ?_, q _ _ _ _ (Grow.refl _ _ _) m1 rs_bl⟩
        unfold kitAnyB at hk
        split at hk
        · rename_i hb; cases hk; exact kit_ty hb
        · rename_i hb; unfold kitAnyB at hk; cases hk; exact kit_ty hb
        · cases hk
    · cases e1)⟩
theorem se_isiT2 {ns1 ns2 : String} {k3 : Nat} (G : GFx X "isinstance") (hm : X.mg "isinstance" = none) (G1 : GFx X n1) (hm1 : X.mg n1 = none) (hv1 : bootBuiltins n1 = some (.type ns1)) (hn1 : n1 ≠ "__name__") (G2 : GFx X n2) (hm2 : X.mg n2 = none) (hv2 : bootBuiltins n2 = some (.type ns2)) (hn2 : n2 ≠ "__name__") (h1 : SE X W a fa)
    (he : starEach [a, .Tuple [.Name n1 p2, .Name n2 p3] k3 tpos] X.env = [(false, eval a X.env), (false, eval (.Tuple [.Name n1 p2, .Name n2 p3] k3 tpos) X.env)] := by rfl) (he2 : starEach [.Tuple [.Name n1 p2, .Name n2 p3] k3 tpos] X.env = [(false, eval (.Tuple [.Name n1 p2, .Name n2 p3] k3 tpos) X.env)] := by rfl)
    (he3 : starEach [.Name n1 p2, .Name n2 p3] X.env = [(false, eval (.Name n1 p2) X.env), (false, eval (.Name n2 p3) X.env)] := by rfl) (he4 : starEach [.Name n2 p3] X.env = [(false, eval (.Name n2 p3) X.env)] := by rfl) : SE X W (.Call (.Name "isinstance" p) [a, .Tuple [.Name n1 p2, .Name n2 p3] k3 tpos] [] pos) (eOp1 (isiT [ns1, ns2]) fa) := ⟨fun ρ M Ad Gh σ H Q ms en h =>
  toE (pe_callB call_isiT G.gl hm (by decide +kernel) (pa_cons pe_w (pa_cons (pe_tup (pa_cons (pe_bltn (v := .ty ns1) G1.gl hm1 hv1 rfl hn1 G1.nd) (pa_cons (pe_bltn (v := .ty ns2) G2.gl hm2 hv2 rfl hn2 G2.nd) pa_nil he4) (by rw [he3, he4]))) pa_nil he2) (by rw [he, he2])) (he := by rw [he, he2]) (hpl := by rw [he2]; rfl)) (h1.seq ms en h fun Ad1 Gh1 M1 H1 v s g1 m1 r1 w1 => by
    obtain ⟨t, M', e1, q⟩ := wp_ofM.mp w1
    unfold isiT at e1
    split at e1
    · rename_i ty hty
      cases hk : kitAnyB ty [ns1, ns2] with
      | none => rw [hk] at e1; cases e1
      | some b =>
        rw [hk] at e1; cases e1
        refine ⟨by show 2 ≤ sizeLine; decide, fun tp ht => ?_⟩
        have pu := Pure.new (o := .tup [.ty ns1, .ty ns2]) m1.le ht
        have r1' := RpS.grow (pu.grow (Ad := Ad1)) r1
        have m4 := m1.pure pu
        exact ⟨v, tp, [.ty ns1, .ty ns2], _, _, b, rfl, upd_same, clsOf_paired (ns := [ns1, ns2]) ⟨rfl, rfl, trivial⟩, tyM_ok m4 r1' hty (fun c z => by cases z), kitAnyB_ok hk, q _ _ _ _ pu.grow m4 rs_bl⟩
    · cases e1)⟩
/-- against an own class, in the classes cs and the built-in types -/
def isiC (c : Nat) (cs : List Nat) (M : List MO) (s : Sl) : Option (Sl × List MO) := match tyM M s with
  | some (.bi t) => if tyNames.contains t then some (.dat (.bl false), M) else none
  | some (.own c') => if cs.contains c' then some (.dat (.bl (c' == c)), M) else none
  | none => none
structure IsiF (D : Wd) (x : Str) (c : Nat) (cs : List Nat) : Prop where
  mg : D.mg x = some (.ref (cA D.K c))
  bi : ∀ t ∈ tyNames, PySem.W.kitOne D.K (.type t) (.ref (cA D.K c)) = some false
  ow : ∀ c' ∈ cs, InsF D.K (cA D.K c') ∧ PySem.W.kitOne D.K (.ref (cA D.K c')) (.ref (cA D.K c)) = some (c' == c)
theorem se_isiC {cs : List Nat} (G : GFx X "isinstance") (hm : X.mg "isinstance" = none) (G1 : GFx X x) (F : IsiF X.wd x c cs) (h1 : SE X W a fa)
    (he : starEach [a, .Name x p2] X.env = [(false, eval a X.env), (false, eval (.Name x p2) X.env)] := by rfl) (he2 : starEach [.Name x p2] X.env = [(false, eval (.Name x p2) X.env)] := by rfl) : SE X W (.Call (.Name "isinstance" p) [a, .Name x p2] [] pos) (eOp1 (isiC c cs) fa) := ⟨fun ρ M Ad Gh σ H Q ms en h =>
  toE (pe_callB call_isi G.gl hm (by decide +kernel) (pa_cons pe_w (pa_cons (pe_glob (v := .ref (cA X.K c)) G1.gl F.mg rfl G1.nd) pa_nil he2) (by rw [he, he2])) (he := by rw [he, he2]) (hpl := by rw [he2]; rfl)) (h1.seq ms en h fun Ad1 Gh1 M1 H1 v s g1 m1 r1 w1 => by
    obtain ⟨t, M', e1, q⟩ := wp_ofM.mp w1
    unfold isiC at e1
    split at e1
    · rename_i ty hty
      split at e1
      · rename_i hc
        cases e1
        exact ⟨v, .ref (cA X.K c), _, _, false, rfl, .own _, tyM_ok m1 r1 hty (fun c z => by cases z), F.bi _ (by simpa using hc), q _ _ _ _ (Grow.refl _ _ _) m1 rs_bl⟩
      · cases e1
    · rename_i c' hty
      split at e1
      · rename_i hc
        cases e1
        obtain ⟨o1, o2⟩ := F.ow c' (by simpa using hc)
        exact ⟨v, .ref (cA X.K c), _, _, c' == c, rfl, .own _, tyM_ok m1 r1 hty (fun c z => by cases z; exact o1), o2, q _ _ _ _ (Grow.refl _ _ _) m1 rs_bl⟩
      · cases e1
    · cases e1)⟩
/-! ### C.f, a constant of a class -/
structure CvlF (D : Wd) (x : Str) (f : Str) (i : Int) : Prop where
  ex : ∃ C mc u, D.mg x = some (.ref C) ∧ ClX.CRead D.K C mc ∧ ClX.CVal D.K C mc f (.int i) u
theorem se_cvl {f : Str} {i : Int} (G1 : GFx X x) (F : CvlF X.wd x f i) (hb : attributeBase (.Name x p) f X.env (eval (.Name x p) X.env) = eval (.Name x p) X.env := by rfl) : SE X W (.Attribute (.Name x p) f pos) (fun _ => ok (.dat (.int i))) := ⟨fun ρ M Ad Gh σ H Q ms en h => by
  obtain ⟨C, mc, u, h1, h2, h3⟩ := F.ex
  exact toE (ClX.pe_cval (pe_glob (v := .ref C) G1.gl h1 rfl G1.nd) hb) ⟨C, mc, .int i, u, rfl, h2, h3, h _ _ _ _ (Grow.refl _ _ _) ms rs_int⟩⟩

/-! ### what is not carried: no answer -/
theorem se_bad : SE X W e fun _ => bad := ⟨fun ρ M Ad G σ H Q ms en h => h.elim⟩
theorem ss_bad {st : Stmt} : SS X W st fun _ => bad := ⟨fun ρ M Ad G σ H D ms en h => h.elim⟩
theorem sb_fgt {sts : List Stmt} {f : CS} (vs : List Nat) (h1 : SB X W sts f) : SB X W sts (sFgt vs f) := ⟨fun ρ M Ad G σ H D ms en h =>
  h1.run ρ M Ad G σ H D ms en (wp_mono (fun r hr => by
    cases r with
    | ex c fs M1 => exact hr
    | ok a M1 =>
      cases a with
      | nx ρ1 => exact fun Ad1 G1 H1 σ1 g1 m1 e1 => hr Ad1 G1 H1 σ1 g1 m1 (e1.le (LeS.wipe ρ1 vs))
      | rt s => exact hr
      | bk ρ1 => exact fun Ad1 G1 H1 σ1 g1 m1 e1 => hr Ad1 G1 H1 σ1 g1 m1 (e1.le (LeS.wipe ρ1 vs))
      | ct ρ1 => exact fun Ad1 G1 H1 σ1 g1 m1 e1 => hr Ad1 G1 H1 σ1 g1 m1 (e1.le (LeS.wipe ρ1 vs))) (wp_evbind.mp h))⟩
theorem se_gI' {i : Int} (G : GFx X x) (hm : ∃ t, X.mg x = some (.int i t)) : SE X W (.Name x pos) fun _ => ok (.dat (.int i)) := let ⟨_, h⟩ := hm; se_gI G h
theorem se_gS' {z : Str} (G : GFx X x) (hm : ∃ t, X.mg x = some (.str z t)) : SE X W (.Name x pos) fun _ => ok (.dat (.str z)) := let ⟨_, h⟩ := hm; se_gS G h
end
end R

set_option Elab.async false
set_option linter.all false
set_option maxRecDepth 100000
set_option maxHeartbeats 4000000
namespace R
open PySem PySem.Spec PyProof.Rows L2
variable [Keys]

/-! ### the names of a context -/
structure Cxf (N : List Str) (sc s0 : Scope) (X : Cx) : Prop where
  N : X.N = N
  sc : X.env.scope = sc
  fn : ∀ x, (s0.names.lookup x == some NameKind.cell) = true → X.fn x = true
  calm : X.calm = true
def vOk (N : List Str) (sc : Scope) (x : Str) (i : Nat) : Bool :=
  decide (N[i]? = some x) && (decide (sc.names.lookup x = some .local) || (decide (sc.names.lookup x = some .cell) || decide (sc.names.lookup x = some .free))) && !(x == ("__debug__" : Str)) && !(x == ("__classdict__" : Str))
def lOk (N : List Str) (sc s0 : Scope) (x : Str) (i : Nat) : Bool := decide N.Nodup && decide (N[i]? = some x) && ((decide (sc.names.lookup x = some .local)) || (decide (sc.names.lookup x = some .cell) && (s0.names.lookup x == some .cell)))
def gOk (sc : Scope) (x : Str) : Bool := decide (sc.names.lookup x = some .globalImplicit) && !(x == ("__debug__" : Str))
def FV (X : Cx) : List (Str × Nat) → Prop
  | [] => True
  | p :: r => VFx X p.1 p.2 ∧ FV X r
def FL (X : Cx) : List (Str × Nat) → Prop
  | [] => True
  | p :: r => LFx X p.1 p.2 ∧ FL X r
def FG (X : Cx) : List Str → Prop
  | [] => True
  | p :: r => GFx X p ∧ FG X r
section
variable {N : List Str} {sc s0 : Scope} {X : Cx}
theorem Cxf.v (h : Cxf N sc s0 X) : ∀ (l : List (Str × Nat)), (l.all fun p => vOk N sc p.1 p.2) = true → FV X l
  | [], _ => trivial
  | p :: r, e => by
    rw [List.all_cons, Bool.and_eq_true] at e
    refine ⟨?_, h.v r e.2⟩
    have e := e.1
    unfold vOk at e
    simp only [Bool.and_eq_true, Bool.or_eq_true, decide_eq_true_eq, Bool.not_eq_true'] at e
    exact ⟨by rw [h.N]; exact e.1.1.1, by unfold Vis; rw [h.sc]; exact e.1.1.2, e.1.2, e.2⟩
theorem Cxf.l (h : Cxf N sc s0 X) : ∀ (l : List (Str × Nat)), (l.all fun p => lOk N sc s0 p.1 p.2) = true → FL X l
  | [], _ => trivial
  | p :: r, e => by
    rw [List.all_cons, Bool.and_eq_true] at e
    refine ⟨?_, h.l r e.2⟩
    have e := e.1
    unfold lOk at e
    simp only [Bool.and_eq_true, Bool.or_eq_true, decide_eq_true_eq] at e
    refine ⟨by rw [h.N]; exact e.1.2, ?_, ?_, by rw [h.N]; exact e.1.1⟩
    · unfold L2.Loc; rw [h.sc]; exact e.2.imp id fun z => z.1
    · rw [h.sc]; rcases e.2 with z | z
      · exact .inr z
      · exact .inl (h.fn _ z.2)
theorem Cxf.g (h : Cxf N sc s0 X) : ∀ (l : List Str), (l.all fun p => gOk sc p) = true → FG X l
  | [], _ => trivial
  | p :: r, e => by
    rw [List.all_cons, Bool.and_eq_true] at e
    refine ⟨?_, h.g r e.2⟩
    have e := e.1
    unfold gOk at e
    simp only [Bool.and_eq_true, decide_eq_true_eq, Bool.not_eq_true'] at e
    exact ⟨by unfold Gl Env.kindOf; rw [h.sc]; exact e.1, e.2⟩
theorem Cxf.loc (h : Cxf N sc s0 X) {x : Str} (e : decide (sc.names.lookup x = some .local) = true) : X.env.scope.names.lookup x = some .local := by rw [h.sc]; exact of_decide_eq_true e
theorem Cxf.nd (h : Cxf N sc s0 X) (e : decide N.Nodup = true) : X.N.Nodup := by rw [h.N]; exact of_decide_eq_true e
/-- a comprehension's block -/
theorem Cxf.cb (h : Cxf N sc s0 X) (scope : Scope) {s : Shared} {H : Hp} {C : Addr} {cl : List (Str × Addr)} {fp : List Addr} : Cxf N (relS scope sc) scope (Cx.cb X scope s H C cl fp) :=
  ⟨h.N, by have := h.sc; show relS scope X.env.scope = _; rw [this], fun _ z => z, h.calm⟩
theorem Cxf.bx {P : Program} {w : World} {K : PySem.W.Frag} {mg : Str → Option Value} {base : Heap} {qual : Str} {f : Addr} {cdv : Value} {A : Around} {outer : List Env} {s : Shared} {H : Hp} {E : XK} : Cxf N sc s0 (bx P w K mg base N qual sc f cdv A outer s H E) := ⟨rfl, rfl, fun _ _ => rfl, rfl⟩
theorem takes_bx {P : Program} {w : World} {K : PySem.W.Frag} {mg : Str → Option Value} {base : Heap} {qual : Str} {f : Addr} {cdv : Value} {A : Around} {outer : List Env} {s : Shared} {H : Hp} {E : XK} : Takes (bx P w K mg base N qual sc f cdv A outer s H E) (fun cls d _ H => E cls d H) := takes_of rfl rfl rfl rfl
theorem po_bx {P : Program} {w : World} {K : PySem.W.Frag} {mg : Str → Option Value} {base : Heap} {qual : Str} {f : Addr} {cdv : Value} {A : Around} {outer : List Env} {s : Shared} {H : Hp} {E : XK} : PassesOwn (model (bx P w K mg base N qual sc f cdv A outer s H E).prog (bx P w K mg base N qual sc f cdv A outer s H E).w) (bx P w K mg base N qual sc f cdv A outer s H E).A (bx P w K mg base N qual sc f cdv A outer s H E).env (bx P w K mg base N qual sc f cdv A outer s H E).xe := passes_of rfl
theorem blk_ok {scope : Scope} {own : List (Str × Nat)} (h : Cxf N sc s0 X) (e : BlkOk N sc scope own) : BlkOk X.N X.env.scope scope own := by rw [h.N, h.sc]; exact e
theorem Room.u65 {k : Nat} {A : Around} (r : Room k A) : A.units + 65 < cLine := by have := r.un; omega
end
/-- what every def of a law's text may lean on: the names of the built-in things are free -/
structure Bis (mg : Str → Option Value) : Prop where
  all : ∀ x ∈ ([ "len", "int", "str", "list", "tuple", "range", "enumerate", "zip", "max", "min", "all", "any", "isinstance", "repr", "sorted", "set", "bool", "sum", "dict" ] : List Str), mg x = none
end R

set_option Elab.async false
set_option linter.all false
set_option maxRecDepth 100000
set_option maxHeartbeats 4000000
namespace R
open PySem PySem.Spec PyProof.Rows L2
variable [Keys]
section
variable {N : List Str} {sc s0 : Scope} {X : Cx} {W : WX} {tg e it c : Expr} {ifs : List Expr} {ts : List Nat} {gf : CG} {f : CE} {t : CT} {fi : CI} {scope : Scope} {s : Shared} {H : Hp} {C : Addr} {cl : List (Str × Addr)} {fp : List Addr}
theorem cbGT (h : Cxf N sc s0 X) (k : Cxf N (relS scope sc) scope (Cx.cb X scope s H C cl fp) → GT (Cx.cb X scope s H C cl fp) tg ts gf) : GT (Cx.cb X scope s H C cl fp) tg ts gf := k (h.cb scope)
theorem cbSE (h : Cxf N sc s0 X) (k : Cxf N (relS scope sc) scope (Cx.cb X scope s H C cl fp) → SE (Cx.cb X scope s H C cl fp) W e f) : SE (Cx.cb X scope s H C cl fp) W e f := k (h.cb scope)
theorem cbSI (h : Cxf N sc s0 X) (k : Cxf N (relS scope sc) scope (Cx.cb X scope s H C cl fp) → SI (Cx.cb X scope s H C cl fp) W tg it fi) : SI (Cx.cb X scope s H C cl fp) W tg it fi := k (h.cb scope)
theorem cbSIf (h : Cxf N sc s0 X) (k : Cxf N (relS scope sc) scope (Cx.cb X scope s H C cl fp) → SIf (Cx.cb X scope s H C cl fp) ifs t) : SIf (Cx.cb X scope s H C cl fp) ifs t := k (h.cb scope)
theorem _root_.L2.Room.dn {k : Nat} {A : Around} (r : Room (k + 1) A) : Room k A := r.mono (Nat.le_succ k)
theorem Cxf.sw {t : List Expr} {v : Expr} {r : Sem (Option (List Str))} (h : Cxf N sc s0 X) (e : ∀ V : Env, V.scope = sc → swappedStores t v V = r) : swappedStores t v X.env = r := e _ h.sc
theorem Cxf.sw2 {v : Expr} {t : Option Expr} {n : Nat} {r : Sem Bool} (h : Cxf N sc s0 X) (e : ∀ V : Env, V.scope = sc → swapsWith v t n V = r) : swapsWith v t n X.env = r := e _ h.sc
theorem hu {k : Nat} {A : Around} (r : Room k A) : A.units + 65 < cLine := R.Room.u65 r
theorem tk0 {X : Cx} : Takes X W0 := fun _ _ x => by
  obtain ⟨_, _, _, _, _, _, _, _, _, _, _, _, _, _, _, _, z⟩ := x
  exact z.elim
/-! ### keywords -/
def wK (X : Cx) (kws : List Keyword) : TA := fun σ H Q => ∀ (pos : Pos) pins s, Inv X pins σ H s → wpAny (model X.prog X.w) X.A (evalAll ((backToKw pos (keywordEach kws X.env)).map (·.2))) (AP X pins σ Q) X.xe s
theorem pk_w {kws : List Keyword} : PK X kws (wK X kws) := ⟨fun pos pins s _ _ _ I h => h pos pins s I⟩
theorem toK {kws : List Keyword} {t : TA} (h : PK X kws t) {σ H Q} (q : t σ H Q) : wK X kws σ H Q := fun pos pins s I => h.run pos pins s σ H Q I q
structure SK (X : Cx) (W : WX) (kws : List Keyword) (f : CA) : Prop where
  run : ∀ ρ M Ad G σ H Q, MS X.K Ad G M H → EnvR X.K Ad G σ ρ → wp (f ρ M) (Po X W (RpSs X.K) Q σ Ad G H) → wK X kws σ H Q
theorem sk_nil : SK X W [] eNil := ⟨fun ρ M Ad G σ H Q ms en h => toK pk_nil (h Ad G H [] (Grow.refl _ _ _) ms .nil)⟩
theorem SK.seq {kws : List Keyword} {fas : CA} {ρ : List Sl} {M : List MO} {Ad : List Addr} {G H : Hp} {σ : L2.St} {α β : Type} {Rl : List Addr → Hp → β → α → Prop} {Q : β → Hp → Prop} (h : SK X W kws fas) (ms : MS X.K Ad G M H) (en : EnvR X.K Ad G σ ρ) {k : List Sl → Ev α} (w : wp (Ev.bind (fas ρ) k M) (Po X W Rl Q σ Ad G H)) {Q' : List V → Hp → Prop}
    (n : ∀ Ad1 G1 M1 H1 v s, Grow Ad G H Ad1 G1 H1 → MS X.K Ad1 G1 M1 H1 → RpSs X.K Ad1 G1 v s → wp (k s M1) (Po X W Rl Q σ Ad1 G1 H1) → Q' v H1) : wK X kws σ H Q' :=
  h.run ρ M Ad G σ H Q' ms en (wp_mono (fun r hr => by
    cases r with
    | ok s M1 => exact fun Ad1 G1 H1 v g m r => n Ad1 G1 M1 H1 v s g m r (wp_mono (fun _ => Po.shift g) hr)
    | ex c fs M1 => exact hr) (wp_evbind.mp w))
theorem sk_cons {nm : Option Str} {kpos : Pos} {e : Expr} {kws : List Keyword} {f : CE} {g : CA} (h1 : SE X W e f) (h2 : SK X W kws g) : SK X W (⟨nm, e, kpos⟩ :: kws) (eCons f g) := ⟨fun ρ M Ad G σ H Q ms en h =>
  toK (pk_cons pe_w pk_w) (h1.seq ms en h fun Ad1 G1 M1 H1 v s g1 m1 r1 w1 => h2.seq m1 (en.grow g1) w1 fun Ad2 G2 M2 H2 vs ss g2 m2 r2 w2 => w2 Ad2 G2 H2 (v :: vs) (Grow.refl _ _ _) m2 (.cons (r1.grow g2) r2))⟩
/-- C(k = v, ..), all parameters named in their order -/
structure MakK (D : Wd) (k : Nat) (x : Str) (c : Nat) (ks : List Str) (F : Fn) : Prop where
  ex : ∃ f fd ps, FnOk D.prog D.w D.K D.mg D.base (L2.CX D.prog D.w) k f fd ps (spF D.K (ks.length + 1) F) ∧ Mk D.K (cA D.K c) f ∧ D.mg x = some (.ref (cA D.K c)) ∧ KBn D.K fd ps 1 ks (fun us ws => us ++ ws) (fun us ws => us ++ ws)
  len : ∀ {ss M Q}, wp (F ss M) Q → ss.length = ks.length + 1
def eMakeK (fz : Bool) (c : Nat) (F : Fn) (fs : CA) : CE := fun ρ => (fs ρ).bind fun ss => noX fun M => (F (.mu M.length :: ss) (M ++ [.ins c []])).bind (mkK fz M.length)
theorem passE0 {X : Cx} : Passes (L2.CX X.prog X.w) X (fun _ _ _ => False) := fun _ _ _ _ _ _ _ h => by
  obtain ⟨_, _, _, _, _, _, _, _, _, _, _, _, z⟩ := h
  exact z.elim
theorem se_makeK (fz : Bool) {x : Str} {c k : Nat} {ks : List Str} {F : Fn} {fs : CA} {kws : List Keyword} {p pos : Pos} (C : MakK X.wd k x c ks F) (hr : Room (k + 1) X.A) (G : GFx X x) (h1 : SK X W kws fs)
    (hall : (backToKw pos (keywordEach kws X.env)).all (·.1.isSome) = true := by rfl) (hks : (backToKw pos (keywordEach kws X.env)).filterMap (·.1) = ks := by rfl)
    (hpl : ((backTo pos (starEach [] X.env)).any (·.1) || (backToKw pos (keywordEach kws X.env)).any (·.1.isNone)) = false := by rfl) : SE X W (.Call (.Name x p) [] kws pos) (eMakeK fz c F fs) := ⟨fun ρ M Ad Gh σ H Q ms en h => by
  obtain ⟨f, fd, ps, FO, MK, hm, hb⟩ := C.ex
  refine toE (pe_makeK0 MK FO hr G.gl hm hb passE0 pk_w hall hks G.nd hpl) ?_
  refine h1.seq ms en h fun Ad1 G1 M1 H1 vs ss g1 m1 r1 w1 => ?_
  have w2 := wp_bind.mp (wp_mono (fun r hr => by obtain ⟨a, M', e, q⟩ := hr; exact (⟨a, M', e, q⟩ : ∃ a M', r = .ok a M' ∧ Po X W (RpS X.K) Q σ Ad1 G1 H1 (.ok a M'))) (wp_noX w1))
  refine ⟨rfl, ?_, fun y dx hy hd hne => ?_⟩
  · have := C.len w2
    have e := r1.length
    simp only [List.length_cons] at this
    omega
  · obtain ⟨m2, g2⟩ := ms_made (c := c) m1 hy hd hne
    refine ⟨Ad1 ++ [y], G1, M1 ++ [.ins c []], .mu M1.length :: ss, m2, .cons (rs_mu (by rw [← m1.len, List.getElem?_append_right (Nat.le_refl _), Nat.sub_self]; rfl)) (r1.grow g2), C.len w2, wp_mono (fun rr hr => ?_) w2⟩
    cases rr with
    | ex c' fs' M3 =>
      have hr : ∃ a M', (Re.ex c' fs' (cut M1.length M3) : Re Sl) = .ok a M' ∧ _ := hr
      obtain ⟨_, _, e, _⟩ := hr
      cases e
    | ok s3 M3 =>
      intro Ad3 G3 H3 v g3 m3 r3
      unfold mkK at hr
      split at hr
      · rename_i M4 _
        rename_i e4
        cases e4
        refine ⟨rp_non r3, ?_⟩
        have ry : RpS X.K Ad3 G3 (.ref y) (.mu M1.length) := rs_mu (g3.get (by rw [← m1.len, List.getElem?_append_right (Nat.le_refl _), Nat.sub_self]; rfl))
        split at hr
        · split at hr
          · rename_i d M5 hf
            obtain ⟨G5, m5, g5, r5⟩ := fz1_ok m3 ry hf
            obtain ⟨a, M', e, hr⟩ := hr
            cases e
            have hr : wp (.ret (.ok (.dat d) (cut M1.length M5)) : T (Re Sl)) (Po X W (RpS X.K) Q σ Ad1 G1 H1) := hr
            rw [show M1.length = Ad1.length from m1.len.symm] at hr
            exact cut_ok m1 ((g2.trans g3).trans g5) m5 fun Ad6 g6 m6 _ => hr Ad6 G5 H3 (.ref y) g6 m6 r5
          · exact hr.elim
        · obtain ⟨a, M', e, hr⟩ := hr
          cases e
          exact hr Ad3 G3 H3 (.ref y) (g2.trans g3) m3 ry
      · exact hr.elim
      · rename_i e4; cases e4⟩
end
/-! ### the two primitives of each law -/
def isInt : D → Bool
  | .int _ => true
  | _ => false
/-- _law_start -/
def prim__law_start : Fn := fun ss M => match ss with
  | [.dat (.scr _)] => .ret (.ok (.mu M.length) (M ++ [.hand]))
  | _ => .bad
/-- _law_draw -/
def prim__law_draw : Fn := fun ss M => match ss with
  | [.mu j, .dat (.int n)] => match M[j]? with
    | some .hand => if 0 < n ∧ n < 1073741824 then .draw n fun d => .ret (.ok (.dat (.int d)) M) else .bad
    | _ => .bad
  | _ => .bad
end R

set_option Elab.async false
set_option linter.all false
set_option maxRecDepth 100000
set_option maxHeartbeats 4000000
namespace R
open PySem PySem.Spec PyProof.Rows L2
variable [Keys]
/-! ### the top's facts as tests of K -/
abbrev Fk : Type := PySem.W.Frag → Bool
theorem ga_eq (K : PySem.W.Frag) (x : Str) : He.ga K x = gA K x := rfl
def pA (K : PySem.W.Frag) (x f : Str) : Addr := match PySem.W.findIn K (.ref (gA K x)) f with
  | some (some (.ref p)) => p
  | _ => 0
def pG (x f : Str) (K : PySem.W.Frag) : Addr := match PySem.W.recIn K (pA K x f) "property" with
  | some (.ref g :: _) => g
  | _ => 0
def mA (x m : Str) (K : PySem.W.Frag) : Addr := He.ma K (gA K x) m
def kProp (x f : Str) : Fk := fun K => decide (PySem.W.findIn K (.ref (gA K x)) f = some (some (.ref (pA K x f)))) && (decide (PySem.W.specialIn K (.ref (pA K x f)) "__get__" = some (some (.builtin "property.__get__"))) && (decide (PySem.W.takesIn K (.ref (pA K x f)) = some true) && (match PySem.W.recIn K (pA K x f) "property" with
  | some (.ref _ :: _) => true
  | _ => false)))
theorem kProp_ok {K : PySem.W.Frag} {x f : Str} (h : kProp x f K = true) : PropOf K (gA K x) f (pA K x f) (pG x f K) := by
  unfold kProp at h
  rw [Bool.and_eq_true, Bool.and_eq_true, Bool.and_eq_true, decide_eq_true_eq, decide_eq_true_eq, decide_eq_true_eq] at h
  obtain ⟨h1, h2, h3, h4⟩ := h
  refine ⟨h1, h2, h3, ?_⟩
  unfold pG
  split at h4
  · rename_i g rest e
    exact ⟨rest, by rw [e]⟩
  · cases h4
def kEq (x : Str) : Fk := fun K => decide (PySem.W.findIn K (.ref (gA K x)) "__ne__" = some (some (.builtin "object.__ne__"))) && (decide (PySem.W.mroIn K (gA K x) (.type "object") = some true) && tyNames.all fun n => PySem.W.notFirst K (gA K x) (.type n))
theorem kEq_ok {K : PySem.W.Frag} {x : Str} (h : kEq x K = true) : NeO K (gA K x) ∧ ∀ n ∈ tyNames, PySem.W.notFirst K (gA K x) (.type n) = true := by
  unfold kEq at h
  rw [Bool.and_eq_true, Bool.and_eq_true, decide_eq_true_eq, decide_eq_true_eq, List.all_eq_true] at h
  exact ⟨⟨h.1, h.2.1⟩, h.2.2⟩
def kIns (x : Str) : Fk := fun K => (He.Fa.cls x).ok K && (decide (PySem.W.findIn K (.ref (gA K x)) "__class__" = some (some (.builtin "object.__class__"))) && (decide (PySem.W.specialIn K (.builtin "object.__class__") "__get__" = some (some (.builtin "getset_descriptor.__get__"))) && (decide (PySem.W.takesIn K (.builtin "object.__class__") = some true) && decide (PySem.W.mroIn K (gA K x) (.type "object") = some true))))
theorem kIns_ok {K : PySem.W.Frag} {x : Str} (h : kIns x K = true) : InsF K (gA K x) := by
  unfold kIns at h
  rw [Bool.and_eq_true, Bool.and_eq_true, Bool.and_eq_true, Bool.and_eq_true, decide_eq_true_eq, decide_eq_true_eq, decide_eq_true_eq, decide_eq_true_eq] at h
  exact ⟨He.cls_ok h.1, h.2.1, h.2.2.1, h.2.2.2.1, h.2.2.2.2⟩
def cN (c : Nat) : Str := clsNames.getD c Str.empty
def kIsi (c : Nat) (cs : List Nat) : Fk := fun K => (tyNames.all fun t => decide (PySem.W.kitOne K (.type t) (.ref (cA K c)) = some false)) && cs.all fun c' => kIns (cN c') K && decide (PySem.W.kitOne K (.ref (cA K c')) (.ref (cA K c)) = some (c' == c))
theorem kIsi_ok {K : PySem.W.Frag} {c : Nat} {cs : List Nat} (h : kIsi c cs K = true) : (∀ t ∈ tyNames, PySem.W.kitOne K (.type t) (.ref (cA K c)) = some false) ∧ ∀ c' ∈ cs, InsF K (cA K c') ∧ PySem.W.kitOne K (.ref (cA K c')) (.ref (cA K c)) = some (c' == c) := by
  unfold kIsi at h
  rw [Bool.and_eq_true, List.all_eq_true, List.all_eq_true] at h
  refine ⟨fun t ht => of_decide_eq_true (h.1 t ht), fun c' hc => ?_⟩
  have := h.2 c' hc
  rw [Bool.and_eq_true, decide_eq_true_eq] at this
  exact ⟨kIns_ok this.1, this.2⟩
def kCvl (x f : Str) (i : Int) : Fk := fun K => PySem.W.readsIn K (gA K x) (.type "type") && (decide (PySem.W.specialIn K (.ref (gA K x)) "__getattribute__" = some (some (.builtin "type.__getattribute__"))) && (match PySem.W.findCls K (.ref (gA K x)) (.type "type") f with
  | some (.val u) => He.relB (.int i) u
  | _ => false))
theorem kCvl_ok {K : PySem.W.Frag} {x f : Str} {i : Int} (h : kCvl x f i K = true) : ∃ mc u, ClX.CRead K (gA K x) mc ∧ ClX.CVal K (gA K x) mc f (.int i) u := by
  unfold kCvl at h
  rw [Bool.and_eq_true, Bool.and_eq_true, decide_eq_true_eq] at h
  obtain ⟨h1, h2, h3⟩ := h
  split at h3
  · rename_i u e
    exact ⟨_, u, ⟨h1, h2⟩, ⟨e, He.relB_ok h3⟩⟩
  · cases h3
/-! ### a def: where it stands and its text -/
structure DR where
  ad : PySem.W.Frag → Addr
  name : Str
  qual : Str
  st : Stmt
abbrev FnV : Type := Option (Str × Str × Arguments × FuncBody × Scope × Addr × List (Str × Addr) × Value × Addr)
def fnV (K : PySem.W.Frag) (a : Addr) : FnV := match K.lookup a with
  | some ⟨_, _, .func fd, _⟩ => some (fd.name, fd.qualname, fd.params, fd.body, fd.scope, fd.globals, fd.closure, fd.defaults, fd.builtins)
  | _ => none
def DR.val (d : DR) : FnV := some (d.name, d.qual, defArgs d.st, .stmts (defBody d.st), defScope d.st, mainGlobals, [], .none, builtinsNs)
def DR.ok (K : PySem.W.Frag) (d : DR) : Bool := PySem.W.keepIn K (.ref (d.ad K)) && (match K.lookup (d.ad K) with
  | some ⟨_, _, .func fd, _⟩ => PySem.W.codeIn K fd.code d.qual
  | _ => false)
theorem DR.fun {K : PySem.W.Frag} {d : DR} (e : fnV K (d.ad K) = d.val) (c : d.ok K = true) : ∃ fd, Fun K d.name d.qual d.st (d.ad K) fd := by
  obtain ⟨c1, c2⟩ := He.ba c
  unfold fnV at e
  cases q : K.lookup (d.ad K) with
  | none =>
    rw [q] at c2
    cases c2
  | some o =>
    obtain ⟨oc, od, dt, osl⟩ := o
    rw [q] at c2 e
    cases dt with
    | func fd =>
      obtain ⟨n1, n2, n3, n4, n5, n6, n7, n8, n9, n10, n11, n12, n13, n14, n15⟩ := fd
      have e2 : (some (n1, n2, n3, n4, n5, n6, n7, n8, n15) : FnV) = some (d.name, d.qual, defArgs d.st, .stmts (defBody d.st), defScope d.st, mainGlobals, [], .none, builtinsNs) := e
      simp only [Option.some.injEq, Prod.mk.injEq] at e2
      obtain ⟨h1, h2, h3, h4, h5, h6, h7, h8, h9⟩ := e2
      subst h1 h2 h3 h4 h5 h6 h7 h8 h9
      exact ⟨_, ⟨⟨oc, od, n9, n10, n11, n12, n13, n14, osl, rfl, q, c2⟩, c1⟩⟩
    | _ => cases c2
/-! ### the Hook -/
abbrev AlR : Type := Bool × List FnV
def obsR (fk : List Fk) (fn : List DR) (K : PySem.W.Frag) : AlR := ((fk.all fun f => f K) && fn.all fun d => d.ok K, fn.map fun d => fnV K (d.ad K))
def valR (fn : List DR) : AlR := (true, fn.map DR.val)
def SaysR (fk : List Fk) (fn : List DR) (K : PySem.W.Frag) : Prop := obsR fk fn K = valR fn
def obsRG (n : Nat) (fk : List Fk) (fn : List DR) (g : Addr → Option Obj) : AlR := obsR fk fn (He.frG g (cStatics :: He.asD g n))
def hookR (n : Nat) (fk : List Fk) (fn : List DR) : PySem.W.Hook where
  α := AlR
  obs := fun s => obsRG n fk fn s.heap.get?
  val := fun _ => valR fn
  says := fun _ h => ∃ K : PySem.W.Frag, K.In h ∧ SaysR fk fn K
  of := fun _ _ e => ⟨_, He.frG_in, e⟩
  keeps := fun _ _ _ ⟨K, hK, c⟩ k => ⟨K, PySem.W.Frag.In.keeps hK k, c⟩
theorem obsRG_eq {n : Nat} {fk : List Fk} {fn : List DR} {g : Addr → Option Obj} {s : Shared} (h : ∀ a, g a = s.heap.get? a) : obsRG n fk fn g = (hookR n fk fn).obs s := by
  have e : g = s.heap.get? := funext h
  rw [e] <;> rfl
theorem SaysR.fact {fk : List Fk} {fn : List DR} {K : PySem.W.Frag} (c : SaysR fk fn K) (i : Nat) {f : Fk} (h : fk[i]? = some f := by rfl) : f K = true := by
  have c1 := (He.ba (show ((fk.all fun f => f K) && fn.all fun d => d.ok K) = true from congrArg (fun z : AlR => z.1) c)).1
  exact List.all_eq_true.mp c1 f (List.mem_of_getElem? h)
theorem SaysR.def_ {fk : List Fk} {fn : List DR} {K : PySem.W.Frag} (c : SaysR fk fn K) (i : Nat) {d : DR} (h : fn[i]? = some d := by rfl) : ∃ fd, Fun K d.name d.qual d.st (d.ad K) fd := by
  have c2 := (He.ba (show ((fk.all fun f => f K) && fn.all fun d => d.ok K) = true from congrArg (fun z : AlR => z.1) c)).2
  have e : fn.map (fun d => fnV K (d.ad K)) = fn.map DR.val := congrArg (fun z : AlR => z.2) c
  have e2 : (fn.map fun d => fnV K (d.ad K))[i]? = (fn.map DR.val)[i]? := by rw [e]
  rw [List.getElem?_map, List.getElem?_map, h] at e2
  exact DR.fun (Option.some.inj e2) (List.all_eq_true.mp c2 d (List.mem_of_getElem? h))
theorem fn_bad {P : Program} {w : World} {K : PySem.W.Frag} {mg : Str → Option Value} {base : Heap} {CX : CXT} {k : Nat} {f : Addr} {fd : FuncData} {ps : List Str} {n : Nat} : FnOk P w K mg base CX k f fd ps (spF K n fun _ => bad) :=
  ⟨fun _ _ _ _ ⟨_, _, _, _, _, _, _, h⟩ => h.elim, fun _ _ _ _ _ _ _ _ _ _ _ _ _ ⟨_, _, _, _, _, _, _, h⟩ => h.elim⟩
/-- the table, n calls deep -/
def callN (tab : (Nat → Fn) → Nat → Fn) : Nat → Nat → Fn
  | 0 => fun _ _ => bad
  | n + 1 => tab (callN tab n)
end R

set_option Elab.async false
set_option linter.all false
set_option maxRecDepth 100000
set_option maxHeartbeats 4000000
namespace R
open PySem PySem.Spec PyProof.Rows L2
variable [Keys]
/-! ### xs[i] = e -/
def ixP (n : Nat) (i : Int) : Option Nat := ixN n i
def stI (M : List MO) (v o y : Sl) : Option (List MO) := match y with
  | .dat (.int i) => match muL o M with
    | some (j, xs) => (ixN xs.length i).map fun k => M.set j (.lst (xs.set k v))
    | none => none
  | _ => none
def sIx (fv fo fi : CE) : CS := fun ρ => (fv ρ).bind fun v => (fo ρ).bind fun o => (fi ρ).bind fun y => ofM fun M => (stI M v o y).map fun M' => (.nx ρ, M')
section
variable {X : Cx} {W : WX} {e o it : Expr} {fv fo fi : CE} {pos p' : Pos}
theorem ss_ix (h1 : SE X W e fv) (h2 : SE X W o fo) (h3 : SE X W it fi)
    (ha : ∀ v, assign (.Subscript o it p') X.env v = (do
      let ov ← holding [v] (eval o X.env)
      let iv ← holding [v, ov] (eval it X.env)
      standAt p'
      holding [v, ov, iv] (setItem ov iv v)
      release [v, ov, iv] []) := by intro _; rfl) (hs : swapsWithSole [.Subscript o it p'] e pos.line X.env = pure false := by rfl) (hw : swappedStores [.Subscript o it p'] e X.env = pure none := by rfl)
    (h0 : (assignEach [.Subscript o it p'] X.env).map (·.2) = [assign (.Subscript o it p') X.env] := by rfl) : SS X W (.Assign [.Subscript o it p'] e pos) (sIx fv fo fi) := ⟨fun ρ M Ad G σ H D ms en h =>
  toS (ps_asg pe_w (pg_sub pe_w pe_w set_list ha) hs hw h0) (h1.seqS ms en h fun Ad1 G1 M1 H1 v s g1 m1 r1 w1 => h2.seqS m1 (en.grow g1) w1 fun Ad2 G2 M2 H2 v2 s2 g2 m2 r2 w2 => h3.seqS m2 (en.grow (g1.trans g2)) w2 fun Ad3 G3 M3 H3 v3 s3 g3 m3 r3 w3 => by
    obtain ⟨t, M', e1, q⟩ := wp_ofM.mp w3
    cases hst : stI M3 s s2 s3 with
    | none => rw [hst] at e1; cases e1
    | some M4 =>
      rw [hst] at e1; cases e1
      unfold stI at hst
      split at hst
      · rename_i i
        split at hst
        · rename_i j xs hj
          cases hk : ixN xs.length i with
          | none => rw [hk] at hst; cases hst
          | some k =>
            rw [hk] at hst; cases hst
            obtain ⟨rfl, hm, a, vs, e2, e3, e4, e5⟩ := muL_ok hj m3 (r2.grow g3)
            have gw : Grow Ad3 G3 H3 Ad3 G3 (upd H3 a (.lst (vs.set k v))) := Grow.write (List.mem_of_getElem? e2) (by rw [e4]; simp)
            refine ⟨a, vs, i, k, e3, rp_int r3, e4, by rw [e5.length]; exact hk, ?_⟩
            exact q _ _ _ _ gw (m3.write (m' := .lst (xs.set k s)) e2 hm trivial ⟨_, upd_same, RpSs.set ((r1.grow g2).grow g3) k e5⟩) (en.grow (((g1.trans g2).trans g3).trans gw))
        · cases hst
      · cases hst)⟩
end
end R

set_option Elab.async false
set_option linter.all false
set_option maxRecDepth 100000
set_option maxHeartbeats 4000000
namespace R
open PySem PySem.Spec PyProof.Rows L2
variable [Keys]
/-! ### the two primitives' bodies -/
def bStart : CS :=
  (sRet (eLst true (eCons (eOpT (pu (listG false)) (eCons (eSl (eVar 0) oNone (oSome (fun _ => ok (.dat (.int 63))))) eNil)) (eCons (fun _ => ok (.dat (.int 0))) (eCons (fun _ => ok (.dat (.int 0))) (eCons (fun _ => ok (.dat (.int 4912))) (eCons (fun _ => ok (.dat (.int 0))) eNil)))))))
def bDraw (t : Tbl) : CS :=
  (sSeq (sIf (tAnd (tVal (eOp2 (cmp .Eq) (eOp2 ixV (eVar 0) (fun _ => ok (.dat (.int 2)))) (fun _ => ok (.dat (.int 0))))) (tVal (eOp2 (cmp .Lt) (eOp2 ixV (eVar 0) (fun _ => ok (.dat (.int 1)))) (eOpT (lenG t) (eCons (eOp2 ixV (eVar 0) (fun _ => ok (.dat (.int 0)))) eNil))))) (sSeq (sSet 2 (eOp2 ixV (eOp2 ixV (eVar 0) (fun _ => ok (.dat (.int 0)))) (eOp2 ixV (eVar 0) (fun _ => ok (.dat (.int 1))))))
  (sSeq (sIx (eOp2 (bin .Add) (eOp2 ixV (eVar 0) (fun _ => ok (.dat (.int 1)))) (fun _ => ok (.dat (.int 1)))) (eVar 0) (fun _ => ok (.dat (.int 1))))
  (sIf (tVal (eOp2 (cmp .GtE) (eVar 2) (eOp2 (bin .Pow) (fun _ => ok (.dat (.int 10))) (fun _ => ok (.dat (.int 18)))))) (sIx (eVar 2) (eVar 0) (fun _ => ok (.dat (.int 2)))) (sIx (eOp2 (bin .Mod) (eOpT (pu intG) (eCons (eOp2 (bin .Add) (eOp2 (bin .Add) (eOp2 (bin .Mult) (eOp2 ixV (eVar 0) (fun _ => ok (.dat (.int 3)))) (fun _ => ok (.dat (.int 40961)))) (eOp2 (bin .Mult) (eOp2 (bin .Mod) (eOpT (pu intG) (eCons (eVar 2) eNil)) (fun _ => ok (.dat (.int 2147483549)))) (fun _ => ok (.dat (.int 28657))))) (fun _ => ok (.dat (.int 7)))) eNil)) (fun _ => ok (.dat (.int 2147483647)))) (eVar 0) (fun _ => ok (.dat (.int 3))))))) sNil)
  (sSeq (sIf (tVal (eOp2 (cmp .Gt) (eOp2 ixV (eVar 0) (fun _ => ok (.dat (.int 2)))) (fun _ => ok (.dat (.int 0))))) (sSeq (sSet 3 (eOp2 (bin .Mod) (eOpT (pu intG) (eCons (eOp2 ixV (eVar 0) (fun _ => ok (.dat (.int 2)))) eNil)) (eVar 1)))
  (sSeq (sIx (eOp2 (bin .FloorDiv) (eOp2 ixV (eVar 0) (fun _ => ok (.dat (.int 2)))) (eVar 1)) (eVar 0) (fun _ => ok (.dat (.int 2))))
  (sRet (eVar 3)))) sNil)
  (sSeq (sIx (eOp2 (bin .Add) (eOp2 ixV (eVar 0) (fun _ => ok (.dat (.int 4)))) (fun _ => ok (.dat (.int 1)))) (eVar 0) (fun _ => ok (.dat (.int 4))))
  (sSeq (sSet 4 (eOp2 ixV (eVar 0) (fun _ => ok (.dat (.int 3)))))
  (sSeq (sIx (eOp2 (bin .Mod) (eOpT (pu intG) (eCons (eOp2 (bin .Add) (eOp2 (bin .Add) (eOp2 (bin .Add) (eOp2 (bin .Mult) (eVar 4) (eVar 4)) (eOp2 (bin .Mult) (eVar 4) (fun _ => ok (.dat (.int 17389))))) (eOp2 (bin .Mult) (eOp2 ixV (eVar 0) (fun _ => ok (.dat (.int 4)))) (fun _ => ok (.dat (.int 611953))))) (fun _ => ok (.dat (.int 4099)))) eNil)) (fun _ => ok (.dat (.int 2147483647)))) (eVar 0) (fun _ => ok (.dat (.int 3))))
  (sRet (eOp2 (bin .Mod) (eOpT (pu intG) (eCons (eOp2 (bin .Add) (eOp2 (bin .FloorDiv) (eOp2 ixV (eVar 0) (fun _ => ok (.dat (.int 3)))) (fun _ => ok (.dat (.int 61)))) (eOp2 (bin .Mult) (eOp2 (bin .Mod) (eOpT (pu intG) (eCons (eOp2 ixV (eVar 0) (fun _ => ok (.dat (.int 3)))) eNil)) (fun _ => ok (.dat (.int 8191)))) (fun _ => ok (.dat (.int 37))))) eNil)) (eVar 1))))))))

def handL (ns : List Int) (i d x y : Int) : MO := .lst [.dat (.lst (ns.map .int)), .dat (.int i), .dat (.int d), .dat (.int x), .dat (.int y)]

theorem bind_ret {α β : Type} (a : α) (M : List MO) (f : α → Ev β) : (T.ret (Re.ok a M)).bind (reK f) = f a M := rfl
theorem noX_ret {α : Type} {m : Ev α} {M M1 : List MO} {a : α} (h : m M = .ret (.ok a M1)) : noX m M = .ret (.ok a M1) := by
  unfold noX; rw [h]; rfl
section
variable {t : Tbl} {j : Nat} {n : Int} {M : List MO} {ns : List Int} {i d x y : Int}
theorem hand_ix (hj : M[j]? = some (handL ns i d x y)) (k : Int) : ixV M (.mu j) (.dat (.int k)) = (atI [.dat (.lst (ns.map .int)), .dat (.int i), .dat (.int d), .dat (.int x), .dat (.int y)] k).map fun s => (nrm M s, M) := by
  simp only [ixV, hj, handL]
theorem hand0 (hj : M[j]? = some (handL ns i d x y)) : ixV M (.mu j) (.dat (.int 0)) = some (.dat (.lst (ns.map .int)), M) := by rw [hand_ix hj]; rfl
theorem hand1 (hj : M[j]? = some (handL ns i d x y)) : ixV M (.mu j) (.dat (.int 1)) = some (.dat (.int i), M) := by rw [hand_ix hj]; rfl
theorem hand2 (hj : M[j]? = some (handL ns i d x y)) : ixV M (.mu j) (.dat (.int 2)) = some (.dat (.int d), M) := by rw [hand_ix hj]; rfl
theorem hand3 (hj : M[j]? = some (handL ns i d x y)) : ixV M (.mu j) (.dat (.int 3)) = some (.dat (.int x), M) := by rw [hand_ix hj]; rfl
theorem hand4 (hj : M[j]? = some (handL ns i d x y)) : ixV M (.mu j) (.dat (.int 4)) = some (.dat (.int y), M) := by rw [hand_ix hj]; rfl
theorem nrm_hand (hj : M[j]? = some (handL ns i d x y)) : nrm M (.mu j) = .mu j := by simp only [nrm, hj, handL]
theorem mul_hand (hj : M[j]? = some (handL ns i d x y)) : muL (.mu j) M = some (j, [.dat (.lst (ns.map .int)), .dat (.int i), .dat (.int d), .dat (.int x), .dat (.int y)]) := by simp only [muL, hj, handL]
theorem set_get {m : MO} (hl : j < M.length) : (M.set j m)[j]? = some m := List.getElem?_set_self hl
theorem st1 (hj : M[j]? = some (handL ns i d x y)) (v : Int) : stI M (.dat (.int v)) (.mu j) (.dat (.int 1)) = some (M.set j (handL ns v d x y)) := by unfold stI; rw [show muL (.mu j) M = _ from mul_hand hj]; rfl
theorem st2 (hj : M[j]? = some (handL ns i d x y)) (v : Int) : stI M (.dat (.int v)) (.mu j) (.dat (.int 2)) = some (M.set j (handL ns i v x y)) := by unfold stI; rw [show muL (.mu j) M = _ from mul_hand hj]; rfl
theorem st3 (hj : M[j]? = some (handL ns i d x y)) (v : Int) : stI M (.dat (.int v)) (.mu j) (.dat (.int 3)) = some (M.set j (handL ns i d v y)) := by unfold stI; rw [show muL (.mu j) M = _ from mul_hand hj]; rfl
theorem st4 (hj : M[j]? = some (handL ns i d x y)) (v : Int) : stI M (.dat (.int v)) (.mu j) (.dat (.int 4)) = some (M.set j (handL ns i d x v)) := by unfold stI; rw [show muL (.mu j) M = _ from mul_hand hj]; rfl
theorem hcell (h2 : 0 ≤ i) (h3 : i < (ns.length : Int)) : ∃ c : Int, ∀ M : List MO, ixV M (.dat (.lst (ns.map .int))) (.dat (.int i)) = some (.dat (.int c), M) := by
  have hk : i.toNat < ns.length := by omega
  refine ⟨ns[i.toNat], fun M => ?_⟩
  have e : atI (ns.map D.int) i = some (D.int ns[i.toNat]) := by
    unfold atI ixN
    rw [List.length_map, if_pos h2, if_pos h3]
    show (ns.map D.int)[i.toNat]? = _
    rw [List.getElem?_map, List.getElem?_eq_getElem hk]; rfl
  simp only [ixV, e]; rfl
theorem nrm_dat {M : List MO} {d : D} : nrm M (.dat d) = .dat d := rfl
theorem set_set {m m' : MO} : (M.set j m).set j m' = M.set j m' := by simp
/-- the first part of _law_draw -/
def dA (t : Tbl) : CS := (sIf (tAnd (tVal (eOp2 (cmp .Eq) (eOp2 ixV (eVar 0) (fun _ => ok (.dat (.int 2)))) (fun _ => ok (.dat (.int 0))))) (tVal (eOp2 (cmp .Lt) (eOp2 ixV (eVar 0) (fun _ => ok (.dat (.int 1)))) (eOpT (lenG t) (eCons (eOp2 ixV (eVar 0) (fun _ => ok (.dat (.int 0)))) eNil))))) (sSeq (sSet 2 (eOp2 ixV (eOp2 ixV (eVar 0) (fun _ => ok (.dat (.int 0)))) (eOp2 ixV (eVar 0) (fun _ => ok (.dat (.int 1))))))
  (sSeq (sIx (eOp2 (bin .Add) (eOp2 ixV (eVar 0) (fun _ => ok (.dat (.int 1)))) (fun _ => ok (.dat (.int 1)))) (eVar 0) (fun _ => ok (.dat (.int 1))))
  (sIf (tVal (eOp2 (cmp .GtE) (eVar 2) (eOp2 (bin .Pow) (fun _ => ok (.dat (.int 10))) (fun _ => ok (.dat (.int 18)))))) (sIx (eVar 2) (eVar 0) (fun _ => ok (.dat (.int 2)))) (sIx (eOp2 (bin .Mod) (eOpT (pu intG) (eCons (eOp2 (bin .Add) (eOp2 (bin .Add) (eOp2 (bin .Mult) (eOp2 ixV (eVar 0) (fun _ => ok (.dat (.int 3)))) (fun _ => ok (.dat (.int 40961)))) (eOp2 (bin .Mult) (eOp2 (bin .Mod) (eOpT (pu intG) (eCons (eVar 2) eNil)) (fun _ => ok (.dat (.int 2147483549)))) (fun _ => ok (.dat (.int 28657))))) (fun _ => ok (.dat (.int 7)))) eNil)) (fun _ => ok (.dat (.int 2147483647)))) (eVar 0) (fun _ => ok (.dat (.int 3))))))) sNil)
theorem dA_run (hj : M[j]? = some (handL ns i d x y)) (hl : j < M.length) (hz : ns.length ≤ 63) (h2 : 0 ≤ i) (hx : 0 ≤ x) (hx2 : x < 2147483647) :
    ∃ s2 i' d' x', 0 ≤ i' ∧ 0 ≤ x' ∧ x' < 2147483647 ∧ dA t [.mu j, .dat (.int n), .un, .un, .un] M = .ret (.ok (.nx [.mu j, .dat (.int n), s2, .un, .un]) (M.set j (handL ns i' d' x' y))) := by
  have self : M.set j (handL ns i d x y) = M := by
    apply List.ext_getElem?
    intro k
    by_cases e : j = k
    · subst e; rw [set_get hl, hj]
    · rw [List.getElem?_set_ne e]
  by_cases c1 : d = 0
  · subst c1
    by_cases c2 : i < (ns.length : Int)
    · obtain ⟨c, hc⟩ := hcell (ns := ns) h2 c2
      have hz2 : ns.length ≤ sizeLine := Nat.le_trans hz (by decide)
      have h5 : (M.set j (handL ns (i + 1) 0 x y))[j]? = some (handL ns (i + 1) 0 x y) := set_get hl
      have hl5 : j < (M.set j (handL ns (i + 1) 0 x y)).length := by rw [List.length_set]; exact hl
      by_cases c3 : 1000000000000000000 ≤ c
      · refine ⟨.dat (.int c), i + 1, c, x, by omega, hx, hx2, ?_⟩
        simp [dA, sIf, sSeq, seqK, sSet, sIx, tAnd, tVal, eOp2, eOpT, eCons, eNil, Ev.bind, bind_ret, T.bind, reK, R.ok, ofM, eVar, nrm_hand hj, hand2 hj, hand1 hj, hand0 hj, cmp, cmpV, asB, lenG, lenOf, noX, noXk, hz2, c2, hc, nrm_dat, st1 hj, bin, nrm_hand h5, c3]
        rw [st2 h5]; simp
      · refine ⟨.dat (.int c), i + 1, 0, (x * 40961 + c % 2147483549 * 28657 + 7) % 2147483647, by omega, Int.emod_nonneg _ (by decide), Int.emod_lt_of_pos _ (by decide), ?_⟩
        have q1 : (-(2 ^ 64) < x ∧ x < 2 ^ 64) := by omega
        simp [dA, sIf, sSeq, seqK, sSet, sIx, tAnd, tVal, eOp2, eOpT, eCons, eNil, Ev.bind, bind_ret, T.bind, reK, R.ok, ofM, eVar, nrm_hand hj, hand2 hj, hand1 hj, hand0 hj, cmp, cmpV, asB, lenG, lenOf, noX, noXk, hz2, c2, hc, nrm_dat, st1 hj, bin, nrm_hand h5, c3, hand3 h5, pu, intG, q1]
        rw [st3 h5]; simp
    · refine ⟨.un, i, 0, x, h2, hx, hx2, ?_⟩
      rw [self]
      have hz2 : ns.length ≤ sizeLine := Nat.le_trans hz (by decide)
      simp [dA, sIf, tAnd, tVal, eOp2, eOpT, eCons, eNil, Ev.bind, bind_ret, T.bind, reK, R.ok, ofM, eVar, nrm_hand hj, hand2 hj, hand1 hj, hand0 hj, cmp, cmpV, asB, lenG, lenOf, noX, noXk, hz2, c2, sNil, Int.not_lt.mp c2]
  · refine ⟨.un, i, d, x, h2, hx, hx2, ?_⟩
    rw [self]
    simp [dA, sIf, tAnd, tVal, eOp2, Ev.bind, bind_ret, T.bind, reK, R.ok, ofM, eVar, nrm_hand hj, hand2 hj, cmp, cmpV, asB, c1, sNil]
/-- .. the second -/
def dB (t : Tbl) : CS :=
  (sSeq (sIf (tVal (eOp2 (cmp .Gt) (eOp2 ixV (eVar 0) (fun _ => ok (.dat (.int 2)))) (fun _ => ok (.dat (.int 0))))) (sSeq (sSet 3 (eOp2 (bin .Mod) (eOpT (pu intG) (eCons (eOp2 ixV (eVar 0) (fun _ => ok (.dat (.int 2)))) eNil)) (eVar 1)))
  (sSeq (sIx (eOp2 (bin .FloorDiv) (eOp2 ixV (eVar 0) (fun _ => ok (.dat (.int 2)))) (eVar 1)) (eVar 0) (fun _ => ok (.dat (.int 2))))
  (sRet (eVar 3)))) sNil)
  (sSeq (sIx (eOp2 (bin .Add) (eOp2 ixV (eVar 0) (fun _ => ok (.dat (.int 4)))) (fun _ => ok (.dat (.int 1)))) (eVar 0) (fun _ => ok (.dat (.int 4))))
  (sSeq (sSet 4 (eOp2 ixV (eVar 0) (fun _ => ok (.dat (.int 3)))))
  (sSeq (sIx (eOp2 (bin .Mod) (eOpT (pu intG) (eCons (eOp2 (bin .Add) (eOp2 (bin .Add) (eOp2 (bin .Add) (eOp2 (bin .Mult) (eVar 4) (eVar 4)) (eOp2 (bin .Mult) (eVar 4) (fun _ => ok (.dat (.int 17389))))) (eOp2 (bin .Mult) (eOp2 ixV (eVar 0) (fun _ => ok (.dat (.int 4)))) (fun _ => ok (.dat (.int 611953))))) (fun _ => ok (.dat (.int 4099)))) eNil)) (fun _ => ok (.dat (.int 2147483647)))) (eVar 0) (fun _ => ok (.dat (.int 3))))
  (sRet (eOp2 (bin .Mod) (eOpT (pu intG) (eCons (eOp2 (bin .Add) (eOp2 (bin .FloorDiv) (eOp2 ixV (eVar 0) (fun _ => ok (.dat (.int 3)))) (fun _ => ok (.dat (.int 61)))) (eOp2 (bin .Mult) (eOp2 (bin .Mod) (eOpT (pu intG) (eCons (eOp2 ixV (eVar 0) (fun _ => ok (.dat (.int 3)))) eNil)) (fun _ => ok (.dat (.int 8191)))) (fun _ => ok (.dat (.int 37))))) eNil)) (eVar 1)))))))
theorem dB_run {s2 : Sl} (hj : M[j]? = some (handL ns i d x y)) (hl : j < M.length) (hn : 0 < n) (hn2 : n < 1073741824) (hx : 0 ≤ x) (hx2 : x < 2147483647) :
    ∃ r d' x' y', 0 ≤ r ∧ r < n ∧ 0 ≤ x' ∧ x' < 2147483647 ∧ dB t [.mu j, .dat (.int n), s2, .un, .un] M = .ret (.ok (.rt (.dat (.int r))) (M.set j (handL ns i d' x' y'))) := by
  by_cases c1 : 0 < d
  · have h5 : (M.set j (handL ns i (d / n) x y))[j]? = some (handL ns i (d / n) x y) := set_get hl
    refine ⟨d % n, d / n, x, y, Int.emod_nonneg _ (by omega), Int.emod_lt_of_pos _ hn, hx, hx2, ?_⟩
    simp [dB, sIf, sSeq, seqK, sSet, sIx, sRet, tVal, eOp2, eOpT, eCons, eNil, Ev.bind, bind_ret, T.bind, reK, R.ok, ofM, eVar, nrm_hand hj, hand2 hj, cmp, cmpV, asB, c1, noX, noXk, nrm_dat, pu, intG, bin, hn, hn2, st2 hj]
  · have h5 : (M.set j (handL ns i d x (y + 1)))[j]? = some (handL ns i d x (y + 1)) := set_get hl
    have q0 : (-18446744073709551616 < x ∧ x < 18446744073709551616) := by omega
    let x2 : Int := (x * x + x * 17389 + (y + 1) * 611953 + 4099) % 2147483647
    have hx3 : 0 ≤ x2 := Int.emod_nonneg _ (by decide)
    have hx4 : x2 < 2147483647 := Int.emod_lt_of_pos _ (by decide)
    have h6 : (M.set j (handL ns i d x2 (y + 1)))[j]? = some (handL ns i d x2 (y + 1)) := set_get hl
    have e6 : stI (M.set j (handL ns i d x (y + 1))) (.dat (.int x2)) (.mu j) (.dat (.int 3)) = some (M.set j (handL ns i d x2 (y + 1))) := by rw [st3 h5, set_set]
    refine ⟨(x2 / 61 + x2 % 8191 * 37) % n, d, x2, y + 1, Int.emod_nonneg _ (by omega), Int.emod_lt_of_pos _ hn, hx3, hx4, ?_⟩
    simp [dB, sIf, sSeq, seqK, sSet, sIx, sRet, tVal, eOp2, eOpT, eCons, eNil, Ev.bind, bind_ret, T.bind, reK, R.ok, ofM, eVar, nrm_hand hj, hand2 hj, hand4 hj, cmp, cmpV, asB, c1, noX, noXk, nrm_dat, pu, intG, bin, hn, hn2, st4 hj, sNil, nrm_hand h5, hand3 h5, hand4 h5, q0]
    rw [show stI _ _ _ _ = _ from e6]
    simp [Ev.bind, bind_ret, T.bind, reK, R.ok, ofM, eVar, nrm_hand h6, hand3 h6, nrm_dat, eOp2, eOpT, eCons, eNil, noX, noXk, pu, intG, bin, hn, hn2, sRet, sSeq, seqK]
    done
theorem bDraw_eq : bDraw t = sSeq (dA t) (dB t) := rfl

/-! hands opened and closed -/
variable {K : PySem.W.Frag} {Ad : List Addr} {G H : Hp}
theorem ms_swap {m m' : MO} (ms : MS K Ad G M H) (hj : M[j]? = some m) (hm : m.live) (hk : ∀ a, MOk K Ad G H a m → MOk K Ad G H a m') : MS K Ad G (M.set j m') H :=
  ⟨ms.le, by rw [List.length_set]; exact ms.len, ms.nd, fun k a mk e1 e2 => by
    by_cases e : j = k
    · subst e
      have hl : j < M.length := (List.getElem?_eq_some_iff.mp hj).1
      rw [set_get hl] at e2
      cases e2
      have q := ms.mo j a m e1 hj
      exact ⟨fun _ => q.1 hm, hk a q.2⟩
    · rw [List.getElem?_set_ne e] at e2
      exact ms.mo k a mk e1 e2, ms.dom⟩
theorem hand_open (ms : MS K Ad G M H) (hj : M[j]? = some .hand) : ∃ ns i d x y, ns.length ≤ 63 ∧ 0 ≤ i ∧ 0 ≤ x ∧ x < 2147483647 ∧ MS K Ad G (M.set j (handL ns i d x y)) H := by
  have hl : j < M.length := (List.getElem?_eq_some_iff.mp hj).1
  have ha : ∃ a, Ad[j]? = some a := ⟨Ad[j]'(by rw [ms.len]; exact hl), List.getElem?_eq_getElem _⟩
  obtain ⟨a, ha⟩ := ha
  obtain ⟨s, ns, i, d, x, y, h1, h2, h3, h4, h5, h6⟩ := (ms.mo j a _ ha hj).2
  refine ⟨ns, i, d, x, y, h3, h4, h5, h6, ?_⟩
  refine ⟨ms.le, by rw [List.length_set]; exact ms.len, ms.nd, fun k b mk e1 e2 => ?_, ms.dom⟩
  by_cases e : j = k
  · subst e
    rw [set_get hl] at e2
    cases e2
    rw [ha] at e1; cases e1
    exact ⟨fun _ => (ms.mo j a _ ha hj).1 trivial, _, h1, .cons (Rp.lst h2 (rps_ints ns)) (.cons (Rp.int i) (.cons (Rp.int d) (.cons (Rp.int x) (.cons (Rp.int y) .nil))))⟩
  · rw [List.getElem?_set_ne e] at e2
    exact ms.mo k b mk e1 e2
theorem hand_close (ms : MS K Ad G M H) (hj : M[j]? = some (handL ns i d x y)) (h3 : ns.length ≤ 63) (h4 : 0 ≤ i) (h5 : 0 ≤ x) (h6 : x < 2147483647) : MS K Ad G (M.set j .hand) H :=
  ms_swap ms hj trivial fun a ⟨vs, e1, e2⟩ => by
    cases e2 with
    | cons r0 e2 =>
      cases e2 with
      | cons r1 e2 =>
        cases e2 with
        | cons r2 e2 =>
          cases e2 with
          | cons r3 e2 =>
            cases e2 with
            | cons r4 e2 =>
              cases e2
              cases rp_int r1; cases rp_int r2; cases rp_int r3; cases rp_int r4
              have r0 : Rp K G _ (.lst (ns.map .int)) := r0
              cases r0 with
              | lst hg hr =>
                rw [rps_intsV hr] at hg
                exact ⟨_, ns, i, d, x, y, e1, hg, h3, h4, h5, h6⟩
theorem cut_self {M' : List MO} {k : Nat} (h : M'.length = k) : cut k M' = M' := by
  unfold cut
  split
  · exact List.take_of_length_le (Nat.le_of_eq h)
  · rfl
theorem imp_draw {t : Tbl} (vs : List V) (H : Hp) (Q : VK) (E : XK) (h : spF K 2 prim__law_draw vs H Q E) : spF K 2 (mkFn false 2 5 (bDraw t)) vs H Q E := by
  obtain ⟨Ad, G, M, ss, ms, r, hl, h⟩ := h
  unfold prim__law_draw at h
  split at h
  · rename_i j n
    split at h
    · rename_i hj
      split at h
      · rename_i hn
        have hjl : j < M.length := (List.getElem?_eq_some_iff.mp hj).1
        obtain ⟨ns, i, d, x, y, h3, h4, h5, h6, m2⟩ := hand_open ms hj
        refine ⟨Ad, G, M.set j (handL ns i d x y), [.mu j, .dat (.int n)], m2, r, rfl, ?_⟩
        have g1 : (M.set j (handL ns i d x y))[j]? = some (handL ns i d x y) := set_get hjl
        have l1 : j < (M.set j (handL ns i d x y)).length := by rw [List.length_set]; exact hjl
        obtain ⟨s2, i', d', x', a1, a2, a3, e1⟩ := dA_run (t := t) (n := n) g1 l1 h3 h4 h5 h6
        rw [set_set] at e1
        have g2 : (M.set j (handL ns i' d' x' y))[j]? = some (handL ns i' d' x' y) := set_get hjl
        have l2 : j < (M.set j (handL ns i' d' x' y)).length := by rw [List.length_set]; exact hjl
        obtain ⟨r0, d2, x2, y2, b1, b2, b3, b4, e2⟩ := dB_run (t := t) (s2 := s2) g2 l2 hn.1 hn.2 a2 a3
        rw [set_set] at e2
        have e3 : mkFn false 2 5 (bDraw t) [.mu j, .dat (.int n)] (M.set j (handL ns i d x y)) = .ret (.ok (.dat (.int r0)) (M.set j (handL ns i' d2 x2 y2))) := by
          have e4 : bDraw t [.mu j, .dat (.int n), .un, .un, .un] (M.set j (handL ns i d x y)) = .ret (.ok (.rt (.dat (.int r0))) (M.set j (handL ns i' d2 x2 y2))) := by
            rw [bDraw_eq]
            unfold sSeq
            simp only [Ev.bind, e1, T.bind, reK, seqK, e2]
          unfold mkFn
          rw [if_pos (show [Sl.mu j, Sl.dat (D.int n)].length = 2 from rfl)]
          show (bDraw t [.mu j, .dat (.int n), .un, .un, .un] (M.set j (handL ns i d x y))).bind _ = _
          rw [e4]
          show clean false _ (.dat (.int r0)) _ = _
          unfold clean
          dsimp only
          rw [cut_self (by rw [List.length_set, List.length_set])]
        rw [e3]
        intro Ad' G' H' v g m3 rv
        have g3 : (M.set j (handL ns i' d2 x2 y2))[j]? = some (handL ns i' d2 x2 y2) := set_get hjl
        have m4 := hand_close m3 g3 h3 a1 b3 b4
        have e5 : (M.set j (handL ns i' d2 x2 y2)).set j .hand = M := by
          rw [set_set]
          apply List.ext_getElem?
          intro k
          by_cases e : j = k
          · subst e; rw [set_get hjl, hj]
          · rw [List.getElem?_set_ne e]
        rw [e5] at m4
        exact h r0 b1 b2 Ad' G' H' v g m4 rv
      · exact h.elim
    · exact h.elim
  · exact h.elim
theorem imp_start (vs : List V) (H : Hp) (Q : VK) (E : XK) (h : spF K 1 prim__law_start vs H Q E) : spF K 1 (mkFn true 1 1 bStart) vs H Q E := by
  obtain ⟨Ad, G, M, ss, ms, r, hl, h⟩ := h
  unfold prim__law_start at h
  split at h
  · rename_i ns
    refine ⟨Ad, G, M, [.dat (.scr ns)], ms, r, rfl, ?_⟩
    have hz : (cutD ns none (some 63)).length ≤ 63 := by
      unfold cutD
      rw [List.length_take, List.length_drop]
      show min (min 63 ns.length - 0) _ ≤ 63
      omega
    have e1 : bStart [.dat (.scr ns)] M = .ret (.ok (.rt (.mu M.length)) (M ++ [handL (cutD ns none (some 63)) 0 0 4912 0])) := by
      have q : (5 : Nat) ≤ sizeLine := by decide
      simp [bStart, sRet, eLst, eCons, eNil, eOpT, eSl, oNone, oSome, Ev.bind, T.bind, reK, R.ok, ofM, eVar, nrm_dat, slV, pu, listG, lstD, mkL, noX, noXk, q, handL]
    have e3 : mkFn true 1 1 bStart [.dat (.scr ns)] M = .ret (.ok (.mu M.length) (M ++ [handL (cutD ns none (some 63)) 0 0 4912 0])) := by
      unfold mkFn
      rw [if_pos (show [Sl.dat (D.scr ns)].length = 1 from rfl)]
      show (bStart [.dat (.scr ns)] M).bind _ = _
      rw [e1]
      show clean true M.length (.mu M.length) (M ++ [handL (cutD ns none (some 63)) 0 0 4912 0]) = _
      unfold clean
      simp [handL]
    rw [e3]
    intro Ad' G' H' v g m3 rv
    have g3 : (M ++ [handL (cutD ns none (some 63)) 0 0 4912 0])[M.length]? = some (handL (cutD ns none (some 63)) 0 0 4912 0) := by simp
    have m4 := hand_close m3 g3 hz (by decide) (by decide) (by decide)
    have e5 : (M ++ [handL (cutD ns none (some 63)) 0 0 4912 0]).set M.length .hand = M ++ [.hand] := by simp
    rw [e5] at m4
    exact h Ad' G' H' v g m4 rv
  · exact h.elim
end
theorem plen__law_draw {ss : List Sl} {M : List MO} {Q : Re Sl → Prop} (h : wp (prim__law_draw ss M) Q) : ss.length = 2 := by
  unfold prim__law_draw at h
  split at h
  · rfl
  · exact h.elim
theorem plen__law_start {ss : List Sl} {M : List MO} {Q : Re Sl → Prop} (h : wp (prim__law_start ss M) Q) : ss.length = 1 := by
  unfold prim__law_start at h
  split at h
  · rfl
  · exact h.elim
theorem tbl1 {c0 c : Nat} {F0 F : Fn} (h : List.lookup c0 [(c, F)] = some F0) : c0 = c ∧ F0 = F := by
  rw [List.lookup_cons] at h
  split at h
  · rename_i e
    exact ⟨by simpa using e, (Option.some.inj h).symm⟩
  · cases h
theorem fun_kbn {K : PySem.W.Frag} {x qual : Str} {st : Stmt} {f : Addr} {fd : FuncData} {ps ks : List Str} (F : Fun K x qual st f fd)
    (h : ∀ (kV doc pm : Value) (an : Option Addr) (cdv ct : Value) (us ws : List Value), us.length = 1 → ws.length = ks.length → bindArgs (PySem.W.fnOf x qual (defArgs st) (defBody st) (defScope st) .none kV doc pm an cdv ct) ⟨us, ks.zip ws⟩ = pure (ps.zip (us ++ ws))) : KBn K fd ps 1 ks (fun us ws => us ++ ws) (fun us ws => us ++ ws) := by
  obtain ⟨oc, od, kV, doc, pm, an, cdv, ct, osl, rfl, lk, hcd⟩ := F.ex
  exact ⟨fun s us ws X l1 l2 => .of_eq (h kV doc pm an cdv ct us ws l1 l2), fun r1 r2 => r1.append r2⟩
end R

set_option Elab.async false
set_option linter.all false
set_option maxRecDepth 100000
set_option maxHeartbeats 4000000
namespace R
open PySem PySem.Spec PyProof.Rows L2
variable [Keys]
/-! ### the end -/
theorem law_sp {K : PySem.W.Frag} {F : Fn} {ns : List Int} {H : Hp} {a : Addr} (hS : SqL K H a (ns.map V.int)) (h : wp (F [.dat (.scr ns)] []) fun r => ∃ M, r = .ok (.dat (.bl true)) M) : spF K 1 F [.ref a] H (fun v _ => v = .bl true) fun _ _ _ => False := by
  refine ⟨[], H, [], [.dat (.scr ns)], ⟨fun b u e => .inl e, rfl, .nil, fun j b m e _ => by simp at e, fun b hb => by simp at hb⟩, .cons (Rp.scr hS) .nil, rfl, wp_mono (fun r hr => ?_) h⟩
  obtain ⟨M, rfl⟩ := hr
  exact fun Ad' G' H' v g m r => rp_bl r
theorem walk_R {l : PySem.W.OpenLaw} {n k : Nat} {q : Program} {loose : List Str} {XP : (Str → Option Value) → Heap → Prop} {YP : World → Heap → Prop} {d : DefRec} {x : Str}
    (hn : l.most = some n) (hn2 : n ≤ sizeLine) (hdf : d.params.defaults = []) (hr : Room k callerA)
    (F : ∀ (w : World) (mg : Str → Option Value) (fa : Addr) (h : Heap), YP w h → h.Ns mainGlobals mg → mg d.name = some (.ref fa) →
      ∃ (K : PySem.W.Frag) (fd : FuncData) (sp : Sp), K.In h ∧ (∀ (s : Shared) (u : Value), BindsTo s fd ⟨[u], []⟩ [(x, u)]) ∧
        (∀ (H : Hp) (a : Addr) (ns : List Int), ns.length ≤ n → Only H → SqL K H a (ns.map V.int) → sp [.ref a] H (fun v _ => v = .bl true) fun _ _ _ => False) ∧
        ∀ base : Heap, K.In base → base.Ns mainGlobals mg → FnOk l.prog w K mg base (L2.CX l.prog w) k fa fd [x] sp) :
    PySem.W.WalkO q loose XP YP l.row.toRowW d [] (fun f vs => PySem.call f vs) := by
  refine Att.attach_call hn hdf fun w s₀ s₁ mg mb fa o pm cd doc a vs ns G Y ho hd hcd hmg hobj hints hlen hg => ?_
  obtain ⟨K, fd, sp, KX, hb, hsp, hF⟩ := F w mg fa _ Y G.T.g hmg
  exact law_call KX G.T.g G.T.b G.T.builtins G.T.nolimit hg hobj hints (Nat.le_trans hlen hn2) hr hF hb (fun H hO hS => hsp H a ns hlen hO hS) fun H e s' h => by
    obtain ⟨_, _, _, _, _, _, _, _, _, _, _, _, z⟩ := h
    exact z.elim
end R
namespace R
theorem callN_succ {tab : (Nat → Fn) → Nat → Fn} {n i : Nat} : callN tab (n + 1) i = tab (callN tab n) i := rfl
end R

set_option Elab.async false
set_option linter.all false
set_option maxRecDepth 100000
set_option maxHeartbeats 4000000
namespace R
open PySem PySem.Spec PyProof.Rows L2
variable [Keys]
/-! ### behind a piece of text: the objects made by it and no longer told are forgotten -/
def cutR (n : Nat) (ρ : List Sl) (M : List MO) : List MO := if ρ.all (clS n) then cut n M else M
def cutF (n : Nat) : Re Fl → T (Re Fl)
  | .ok (.nx ρ) M => .ret (.ok (.nx ρ) (cutR n ρ M))
  | .ok (.bk ρ) M => .ret (.ok (.bk ρ) (cutR n ρ M))
  | .ok (.ct ρ) M => .ret (.ok (.ct ρ) (cutR n ρ M))
  | r => .ret r
def sCut (b : CS) : CS := fun ρ M => (b ρ M).bind (cutF M.length)
section
variable {X : Cx} {W : WX} {st : Stmt} {sts : List Stmt} {f : CS} {Ad Ad' : List Addr} {G G' H H' : Hp} {M M' : List MO} {ρ : List Sl} {σ : L2.St}
theorem env_take {n : Nat} (h : ρ.all (clS n) = true) (e : EnvR X.K Ad' G' σ ρ) : EnvR X.K (Ad'.take n) G' σ ρ :=
  ⟨e.len, fun i s hs => (e.at_ i s hs).elim .inl fun ⟨v, e1, r⟩ => .inr ⟨v, e1, clS_ok (List.all_eq_true.mp h s (List.mem_of_getElem? hs)) r⟩⟩
theorem cutR_ok {R0 : Prop} (ms : MS X.K Ad G M H) (g : Grow Ad G H Ad' G' H') (m' : MS X.K Ad' G' M' H') (en : EnvR X.K Ad' G' σ ρ)
    (q : ∀ Ad2, Grow Ad G H Ad2 G' H' → MS X.K Ad2 G' (cutR M.length ρ M') H' → EnvR X.K Ad2 G' σ ρ → R0) : R0 := by
  unfold cutR at q
  by_cases h : ρ.all (clS M.length) = true
  · rw [if_pos h] at q
    unfold cut at q
    by_cases h2 : closed M.length M' = true
    · rw [if_pos h2, ← ms.len] at q
      rw [← ms.len] at h h2
      exact q _ (grow_take g) (ms_take m' h2) (env_take h en)
    · rw [if_neg h2] at q
      exact q Ad' g m' en
  · rw [if_neg h] at q
    exact q Ad' g m' en
theorem pos_cut {D : Ends} (ms : MS X.K Ad G M H) : ∀ r : Re Fl, wp (cutF M.length r) (PoS X W D Ad G H) → PoS X W D Ad G H r
  | .ok (.nx ρ) M', h => fun Ad' G' H' σ' g m en => cutR_ok ms g m en fun Ad2 g2 m2 en2 => h Ad2 G' H' σ' g2 m2 en2
  | .ok (.bk ρ) M', h => fun Ad' G' H' σ' g m en => cutR_ok ms g m en fun Ad2 g2 m2 en2 => h Ad2 G' H' σ' g2 m2 en2
  | .ok (.ct ρ) M', h => fun Ad' G' H' σ' g m en => cutR_ok ms g m en fun Ad2 g2 m2 en2 => h Ad2 G' H' σ' g2 m2 en2
  | .ok (.rt s) M', h => h
  | .ex c fs M', h => h
theorem ss_cut (h : SS X W st f) : SS X W st (sCut f) := ⟨fun ρ M Ad G σ H D ms en w =>
  h.run ρ M Ad G σ H D ms en (wp_mono (fun r hr => pos_cut ms r hr) (wp_bind.mp w))⟩
theorem sb_cut (h : SB X W sts f) : SB X W sts (sCut f) := ⟨fun ρ M Ad G σ H D ms en w =>
  h.run ρ M Ad G σ H D ms en (wp_mono (fun r hr => pos_cut ms r hr) (wp_bind.mp w))⟩
end
end R

set_option Elab.async false
set_option linter.all false
set_option maxRecDepth 100000
set_option maxHeartbeats 4000000
namespace R
open PySem PySem.Spec PyProof.Rows L2
variable [Keys]
/-! ### the __init__ of an own error: super().__init__(x); self.code = ..; self.f = x -/
structure ExF (K : PySem.W.Frag) (file0 : Str) (C f : Addr) (name qual : Str) (params : Arguments) (body : List Stmt) (scope : Scope) (fd : FuncData) : Prop where
  oex : OexC K C
  ex : ∃ (oc : Value) (od : Option Addr) (osl : Array (Option Value)) (dV kV doc pm : Value) (an : Option Addr) (ct : Value) (cda cc : Addr),
    fd = PySem.W.ksFn name qual params body scope dV kV doc pm an (.ref cda) ct cc ∧ K.lookup f = some ⟨oc, od, .func fd, osl⟩ ∧ PySem.W.codeIn K (.ref cda) qual = true ∧
    (∃ (ccl : Value) (cdd : Option Addr) (vs : Array Value) (ccs : Array (Option Value)) (file : Str) (tf : Tok), K.lookup cda = some ⟨ccl, cdd, .fields vs, ccs⟩ ∧ vs[2]? = some (.str file tf) ∧ (file0 == file) = true) ∧
    ∃ (cl : Value) (cld : Option Addr) (csl : Array (Option Value)), K.lookup cc = some ⟨cl, cld, .cell (some (.ref C)), csl⟩
  cls : ∃ cd, PySem.W.clsIn K C = some cd ∧ PySem.W.alongIn K "__init__" ((cd.mro.dropWhile (· != .ref C)).drop 1) = some (some (.builtin "ValueError.__init__")) ∧ cd.hasDict = true ∧ PySem.HandSPX.refsVE cd.mro = true
  sub : PySem.W.mroIn K C (.ref C) = some true
  sve : PySem.W.subIn K (.ref C) (.type "ValueError") = some true
  sup : PySem.W.nsIn K mainGlobals "super" = some none
  opq : PySem.W.nsIn K cStatics "thirdparty.any" = some none
def exBody (code fld : Str) (p : Nat → Pos) (j : Nat) : List Stmt :=
  [.Expr (.Call (.Attribute (.Call (.Name "super" (p 0)) [] [] (p 1)) "__init__" (p 2)) [.Name fld (p 3)] [] (p 4)) (p 5),
   .Assign [.Attribute (.Name "self" (p 6)) "code" (p 7)] (.Constant (.str code) j (p 8)) (p 9),
   .Assign [.Attribute (.Name "self" (p 10)) fld (p 11)] (.Name fld (p 12)) (p 13)]
/-- what it does -/
def spEx (C : Addr) (code fld : Str) : Sp := fun vs H Q _ => ∃ (a : Addr) (y : V), vs = [.ref a, y] ∧ H a = some (exo a C none) ∧
  ∀ dx, H dx = none → dx ≠ a → Q .non (upd (upd H dx (exd dx [(fld, y), ("code", .str code)])) a (exo a C (some dx)))
section
variable {prog : Program} {w : World} {A : Around} {E : Value → Shared → Prop}
open PySem.W in
theorem call_mw {M : Model} {h : Heap} {g : Array GenState} {d : Drawn} {t : Nat} {os : OsState} {C u e t0 N : Addr} {nm q : Str} {bs bm : List Value} {hdct : Bool} {sn : List Str} {sub : List Value} {ab : Bool} {col : Option Bool} {dd : Option Addr} {k0 k1 k2 k3 k5 : Option Value} {rest : List Value} {Q : Value → Shared → Prop}
    (hC : h.get? C = some (excClassObj nm q C N bs bm hdct sn sub ab col dd k0 k1 k2 k3 k5 "ValueError.__new__")) (hT : ∀ X : String, bm.contains (.type X) = HandSPX.veTail.contains (.type X)) (he : h.get? e = some (HandSPX.excO C t0)) (hu : h.get? u = some (kxs_mw "ValueError.__init__" e)) (hz : rest.length ≤ sizeLine)
    (hq : ∀ h' t1, (∀ b o, b ≠ e → h.get? b = some o → h'.get? b = some o) → h'.get? e = some (HandSPX.excO C t1) → Q .none ⟨h', g, d, t, os⟩) :
    wpAny (model prog w) A (call (.ref u) rest) Q E ⟨h, g, d, t, os⟩ := by
  refine wpAny_call (codeAny_of_tree ?_)
  show wpAny _ A.in1 (callAny (.ref u) ⟨rest, []⟩) _ _ _
  simp only [callAny]
  refine wpAny_bind (wpAny_load hu ?_)
  simp only [kxs_mw, show (Value.type "method-wrapper" == Value.type "method" || Value.type "method-wrapper" == Value.type "builtin_function_or_method" || Value.type "method-wrapper" == Value.type "method-wrapper") = true by decide, if_true]
  refine KFB.if_so (by decide) ?_
  refine wpAny_bind (check_bound_init F.excBase_ValueError.toExcCallFacts hC he rfl ?_)
  refine wpAny_bind (wpAny_pure (wpAny_pure ?_))
  refine ⟨plainId_quiet F.excBase_ValueError.init.plain _, codeAny_builtin F.excBase_ValueError.initEntry ?_⟩
  exact exc_init_tree (cls := .ref C) (t0 := t0) (dv := none) (c2 := .none) (c3 := .none) (b4 := .bool false) he hz fun h' k e' _ => hq h' _ k e'

theorem mc_pos {o : Expr} {env : Env} {apos pos : Pos} (h : (apos.endLine == pos.line) = true) : methodCallPos true o env apos pos = pure pos := by
  unfold methodCallPos
  rw [h]; rfl
theorem mc_eq {o : Expr} {name : Str} {apos pos : Pos} {args : List Expr} {env : Env} (h : (apos.endLine == pos.line) = true) (hf : methodCallForm (args.length + 0) (backTo pos (starEach args env)) (backToKw pos (keywordEach [] env)) = true) :
    eval (.Call (.Attribute o name apos) args [] pos) env = (do
      let ov ← attributeBase o name env (eval o env)
      standAt apos.atName
      let (f, first) ← holding [ov] (getMethod ov name (do return (← importBound o env).getD true))
      callWith pos f first (backTo pos (starEach args env)) []) := by
  show (do
    let ov ← attributeBase o name env (eval o env)
    standAt apos.atName
    methodCall o name apos pos env ov (args.length + 0) (backTo pos (starEach args env)) (backToKw pos (keywordEach [] env))) = _
  unfold methodCall
  rw [hf, mc_pos h]
  rfl
/-- what an own error's class says -/
structure ExW (prog : Program) (K : PySem.W.Frag) (C : Addr) (scope : Scope) (code fld : Str) : Prop where
  kind : scope.kind = .function
  co : scope.isCoroutine = false
  gen : scope.isGenerator = false
  nocell : ∀ x ∈ scope.names, x.2 ≠ .cell
  n1 : scope.names.lookup ("super" : Str) = some .globalImplicit
  n2 : scope.names.lookup ("__class__" : Str) = some .free
  n3 : scope.names.lookup ("self" : Str) = some .local
  n4 : scope.names.lookup (fld : Str) = some .local
  top : (prog.main.scope.names.lookup ("super" : Str)).isSome = false
  f1 : PySem.W.findIn K (.ref C) "code" = some none
  f2 : PySem.W.findIn K (.ref C) fld = some none
  ne : fld ≠ "code"
  ne2 : fld ≠ "self"
  dbg : (fld == ("__debug__" : Str)) = false
open PySem.W in
theorem ex_fn {K : Frag} {mg : Str → Option Value} {base : Heap} {CX : CXT} {C f : Addr} {name qual code fld : Str} {params : Arguments} {scope : Scope} {fd : FuncData} {p : Nat → Pos} {j : Nat}
    (X : ExF K prog.main.file C f name qual params (exBody code fld p j) scope fd) (W : ExW prog K C scope code fld) (hp : (params.posonlyargs ++ params.args).head?.map (·.arg) = some "self") (hpos : ((p 2).endLine == (p 4).line) = true) :
    FnOk prog w K mg base CX 1 f fd ["self", fld] (spEx C code fld) := by
  refine ⟨fun vs H Q E h => by obtain ⟨a, y, rfl, _⟩ := h; rfl, fun A outer s H args us vs Q E hr e0 hb hv hs => ?_⟩
  obtain ⟨a, y, rfl, ha, hq⟩ := hs
  obtain ⟨oc, od, osl, dV, kV, doc, pm, an, ct, cda, cc, rfl, lk, hcd, ⟨ccl, cdd, fvs, ccs, file, tf, lkc, hvs, hfile⟩, cl, cld, csl, lkcc⟩ := X.ex
  obtain ⟨cdt, hcl, hal, hdict, hmro⟩ := X.cls
  obtain ⟨nm, qn, N, bs, bm, sn, sub, ab, col, dd, k0, k1, k2, k3, k5, hC, hbm⟩ := X.oex.cls
  cases hv with
  | @cons _ u0 _ ur r0 hv =>
  cases hv with
  | @cons _ u1 _ ur r1 hv =>
  cases hv
  obtain rfl : u0 = Value.ref a := r0
  have KX0 : K.In s.heap := e0.mod.kin.keeps fun b o e => (e0.bs b o e).1
  have lim : s.heap.NoLimit := e0.mod.nolimit.keeps fun b o e => (e0.bs b o e).1
  obtain ⟨mb, hmb, hboot⟩ := e0.mod.blt
  obtain ⟨t0, hoe⟩ := exo_at e0.hok ha
  have g0 : s.heap.Ns mainGlobals mg := e0.mod.glob.keeps fun b o e => (e0.bs b o e).1
  have b0 : s.heap.Ns builtinsNs mb := hmb.keeps fun b o e => (e0.bs b o e).1
  have hcl' : clsIn K C = some { name := nm, bases := bs, mro := .ref C :: bm, ns := N, qualname := qn, hasDict := true, slotNames := sn, subclasses := sub, abstract := ab, collection := col, hasDel := false } := by unfold clsIn; rw [hC] <;> rfl
  have ecd := hcl.symm.trans hcl'
  cases ecd
  obtain ⟨ar, har, harn⟩ : ∃ ar : Arg, (params.posonlyargs ++ params.args).head? = some ar ∧ ar.arg = "self" := by
    cases e : (params.posonlyargs ++ params.args).head? with
    | none => rw [e] at hp; cases hp
    | some ar => rw [e] at hp; exact ⟨ar, rfl, Option.some.inj hp⟩
  obtain ⟨hp0, g, d, t, os⟩ := s
  have fs : ("self" == fld) = false := by
    cases e : ("self" == fld) with
    | false => rfl
    | true => exact absurd (eq_of_beq e).symm W.ne2
  have sf : (fld == "self") = false := by
    cases e : (fld == "self") with
    | false => rfl
    | true => exact absurd (eq_of_beq e) W.ne2
  have lk1 : ∀ u : Value, (([("self", Value.ref a), (fld, u)] : List (Str × Value)).reverse.lookup ("self" : Str)) = some (Value.ref a) := fun u => by
    show (([(fld, u), ("self", Value.ref a)] : List (Str × Value)).lookup ("self" : Str)) = _
    rw [List.lookup_cons, fs, List.lookup_cons]
    rfl
  have lk2 : ∀ u : Value, (([("self", Value.ref a), (fld, u)] : List (Str × Value)).reverse.lookup (fld : Str)) = some u := fun u => by
    show (([(fld, u), ("self", Value.ref a)] : List (Str × Value)).lookup fld) = _
    rw [List.lookup_cons, beq_self_eq_true]
  refine ks_codeAny_call_defAt (fd := ksFn name qual params (exBody code fld p j) scope dV kV doc pm an (.ref cda) ct cc) (body := exBody code fld p j) (binds := [("self", Value.ref a), (fld, u1)]) hr.depth (KX0 _ _ lk) rfl lim (codeRec_of KX0 hcd) rfl hb W.nocell (fun y hy => ?_) (fun h1 hns kp => ?_) W.co W.gen W.kind
  · simp only [List.mem_cons, List.not_mem_nil, or_false] at hy
    rcases hy with rfl | rfl
    · exact W.n3
    · exact W.n4
  show _root_.PySem.wpAt (model prog w) _ (.func _ (ksEnv qual scope hp0.objs.size f (.ref cda) cc)) (execs (exBody code fld p j) (ksEnv qual scope hp0.objs.size f (.ref cda) cc)) _ _ _
  have K1 : K.In h1 := KX0.keeps kp
  have he1 := kp _ _ hoe
  have hC1 := K1 _ _ hC
  have hnc : ∀ c, (HandSPX.excO C t0).data ≠ .cls c := fun c q => by cases q
  have haC : a ≠ C := fun z => by
    rw [z, hC1] at he1
    cases he1
  have hint : interactive (ksEnv qual scope hp0.objs.size f (.ref cda) cc) = false := by
    unfold interactive
    simp [Env.blockKind, W.kind]
  unfold exBody
  refine ks_wpAt_execs_cons (ks_wpAt_Expr_any (hi := hint) (ks_wpAt_MethodCall ?_ (mc_eq hpos (by rfl))))
  refine ks_wpAt_super_base (env := ksEnv qual scope hp0.objs.size f (.ref cda) cc) W.n1 W.n2 (by decide) rfl (K1 _ _ lk) rfl har rfl (K1 _ _ lkc) rfl hvs hfile W.top ?_
  refine ks_loadName_global W.kind W.n1 (Calls.loadGlobal_builtin (env := ksEnv qual scope hp0.objs.size f (.ref cda) cc) (g0.keeps kp) (mg_none_of KX0 g0 X.sup) (b0.keeps kp) ((hboot _ (by decide +kernel)).trans (show bootBuiltins "super" = some (.type "super") by first | rfl | kernel_rfl)) ⟨rfl, ?_⟩)
  refine wpAny_loadName_free W.kind W.n2 rfl ⟨_, K1 _ _ lkcc, rfl⟩ ?_
  refine wpAny_loadName_local W.kind (by rw [harn]; exact W.n3) hns (by rw [harn]; exact lk1 u1) ?_
  refine ks_wpAny_isType_cls hC1 rfl ⟨rfl, ?_⟩
  refine ks_wpAny_call_super hC1 rfl he1 rfl hnc (looks_mroIn K1 X.sub) (fun h2 e2 k2 => ?_)
  have K2 : K.In h2 := K1.keeps k2
  have he2 := k2 _ _ he1
  have I2 : InstAt h2 a (HandSPX.excO C t0) C none := ⟨he2, rfl, rfl, trivial⟩
  refine kxs_getMethod kxs_ValueError e2 (looks_opaque K2 X.opq) (l₀ := Value.ref C :: bm) (fun A Q E s k q => wpAny_bind ((looks_clsIn K2 hcl') A _ E s k (wpAny_pure q))) rfl K2 hal (I2.type.andThen (looks_subIn K2 X.sve)) haC (by decide) ?_
  have hmw : (h2.push (kxs_mw "ValueError.__init__" a)).get? h2.objs.size = some (kxs_mw "ValueError.__init__" a) := Heap.get?_push_size _ rfl
  have k3 : ∀ b o, h2.get? b = some o → (h2.push (kxs_mw "ValueError.__init__" a)).get? b = some o := fun b o q => Heap.get?_push_of_some _ q
  have hns3 := (hns.keeps k2).keeps k3
  rw [show starEach [Expr.Name fld (p 3)] (ksEnv qual scope hp0.objs.size f (.ref cda) cc) = (false, eval (Expr.Name fld (p 3)) (ksEnv qual scope hp0.objs.size f (.ref cda) cc)) :: starEach [] (ksEnv qual scope hp0.objs.size f (.ref cda) cc) from rfl]
  refine kxs_callWith (i := "ValueError.__init__") (x := a) (by rfl) (PySem.Calls.evalArgs_plain ?_)
  refine Calls.spliced_cons (wpAny_Name (hd := W.dbg) (wpAny_loadName_local W.kind W.n4 hns3 (lk2 u1) ?_))
  refine Calls.spliced_nil ⟨hmw, ?_⟩
  have bT : ∀ Y : String, bm.contains (.type Y) = HandSPX.veTail.contains (.type Y) := fun Y => HandSPX.refsVE_contains Y bm hbm
  refine call_mw (M := model prog w) (k3 _ _ (K2 _ _ hC)) bT (k3 _ _ he2) hmw (by show 1 ≤ sizeLine; rw [sizeLine_eq]; omega) (fun h4 t1 k4 he4 => ?_)
  have K4 : K.In h4 := fun b o q => by
    have hb := (e0.bs b o (e0.mod.kin _ _ q)).2
    have ne : b ≠ a := fun z => by
      rw [z, ha] at hb
      cases hb
    exact k4 b o ne (k3 _ _ (K2 _ _ q))
  have kk4 : ∀ b o, b ≠ a → hp0.get? b = some o → h4.get? b = some o := fun b o n q => k4 b o n (k3 _ _ (k2 _ _ (kp _ _ q)))
  have La : hp0.objs.size ≠ a := fun z => by
    have q := Heap.lt_size (show hp0.get? a = _ from hoe)
    rw [← z] at q
    exact Nat.lt_irrefl _ q
  have hns4 : h4.Ns hp0.objs.size fun x => ([("self", Value.ref a), (fld, u1)] : List (Str × Value)).reverse.lookup x := by
    obtain ⟨o, es, ep, ho, r⟩ := hns3
    exact ⟨o, es, ep, k4 _ _ La ho, r⟩
  have sz4 : hp0.objs.size < h4.objs.size := by
    obtain ⟨o, es, ep, ho, r⟩ := hns4
    exact Heap.lt_size ho
  show _root_.PySem.wpAt (model prog w) _ (.func _ (ksEnv qual scope hp0.objs.size f (.ref cda) cc)) (execs _ (ksEnv qual scope hp0.objs.size f (.ref cda) cc)) _ _ _
  refine ks_wpAt_execs_cons (ks_wpAt_Assign_Attr (wpAt_of_wpAny (Calls.Constant_str ?_)) (by rfl))
  refine wpAny_Name (wpAny_loadName_local W.kind W.n3 hns4 (lk1 u1) ?_)
  refine set_plain K4 (ox := HandSPX.excO C t1) (od := none) ⟨he4, rfl, rfl, trivial⟩ X.oex.sa ?_
  refine HandSPX.exc_osa K4 he4 hcl' (show HandSPX.refsVE (.ref C :: bm) = true from hbm) rfl W.f1 (fun h5 tk5 dx k5 dn dne he5 hn5 => ?_)
  have K5 : K.In h5 := fun b o q => by
    have hb := (e0.bs b o (e0.mod.kin _ _ q)).2
    have ne : b ≠ a := fun z => by
      rw [z, ha] at hb
      cases hb
    exact k5 b o ne (K4 _ _ q)
  have hns5 : h5.Ns hp0.objs.size fun x => ([("self", Value.ref a), (fld, u1)] : List (Str × Value)).reverse.lookup x := by
    obtain ⟨o, es, ep, ho, r⟩ := hns4
    exact ⟨o, es, ep, k5 _ _ La ho, r⟩
  obtain ⟨oD, _, _, hoD, _⟩ := id hn5
  show _root_.PySem.wpAt (model prog w) _ (.func _ (ksEnv qual scope hp0.objs.size f (.ref cda) cc)) (execs _ (ksEnv qual scope hp0.objs.size f (.ref cda) cc)) _ _ _
  refine ks_wpAt_execs_cons (ks_wpAt_Assign_Attr (wpAt_of_wpAny (wpAny_Name (hd := W.dbg) (wpAny_loadName_local W.kind W.n4 hns5 (lk2 u1) ?_))) (by rfl))
  refine wpAny_Name (wpAny_loadName_local W.kind W.n3 hns5 (lk1 u1) ?_)
  refine set_plain K5 (ox := { cls := .ref C, dict := some dx, data := .fields #[.ref t1, .none, .none, .none, .bool false, .none] }) (od := some oD) ⟨he5, rfl, rfl, hoD⟩ X.oex.sa ?_
  obtain ⟨tok, hn5⟩ : ∃ tok, h5.Ns1 dx (fun y : Str => if y = ("code" : Str) then some (Value.str code tok) else none) := ⟨_, hn5⟩
  have r1c : RelV (V.str code) (Value.str code tok) := ⟨tok, rfl⟩
  have rel5 : ∀ g, RelO (([("code", V.str code)] : List (Str × V)).lookup g) ((fun y : Str => if y = ("code" : Str) then some (Value.str code tok) else none) g) := fun g => relO_put (f := "code") (y := .str code) (fs := []) (mA := fun _ => none) r1c (fun g => True.intro) g
  refine OEX.osa_old K5 he5 hn5 (within_of rel5) (by simp) hcl' (show HandSPX.refsVE (.ref C :: bm) = true from hbm) rfl W.f2 (fun h6 tk6 k6 hn6 => ?_)
  refine wpAt_of_wpAny (wpAny_execs_nil ?_)
  have dxs : hp0.objs.size ≤ dx := Nat.le_trans (Nat.le_of_lt sz4) dn
  have nd : ∀ {b : Addr} {o : Obj}, hp0.get? b = some o → b ≠ dx := fun {b o} q => Nat.ne_of_lt (Nat.lt_of_lt_of_le (Heap.lt_size q) dxs)
  have kk6 : ∀ b o, b ≠ a → hp0.get? b = some o → h6.get? b = some o := fun b o n q => k6 b o (nd q) (k5 b o n (kk4 b o n q))
  have he6 := k6 _ _ (Ne.symm dne) he5
  have hnd : H dx = none := e0.hok.fresh dxs
  have na : ∀ {b : Addr}, H b = none → b ≠ a := fun {b} n z => by
    rw [z, ha] at n
    cases n
  refine ⟨.non, upd (upd H dx (exd dx [(fld, y), ("code", .str code)])) a (exo a C (some dx)), rfl, e0.bare, ?_, fun b o q => ?_, rfl, hq dx hnd dne⟩
  · exact {
      keep := fun b o q n _ _ => kk6 b o (na n) q
      slot := fun b o q n _ _ => ⟨o.slots, kk6 b o (na n) q⟩
      free := fun b o q n _ => by rw [upd_ne (na n), upd_ne (nd q)]; exact n
      there := fun b o q _ => by
        by_cases hb : b = a
        · exact ⟨_, by rw [hb]; exact he6⟩
        · exact ⟨o, kk6 b o hb q⟩
      tups := fun b xs q => by rw [upd_ne (at_ne ha q exo_tup), upd_ne (ne_of_none q hnd)]; exact q
      frzs := fun b o v q => by rw [upd_ne (at_ne ha q exo_frz), upd_ne (ne_of_none q hnd)]; exact q
      tbls := fun b ps q => ⟨#[], by rw [upd_ne (at_ne ha q exo_tbl), upd_ne (ne_of_none q hnd), q]; simp⟩ }
  · by_cases hb : b = a
    · subst hb
      rw [upd_same] at q
      cases q
      exact exo_ok he6
    · rw [upd_ne hb] at q
      by_cases hd : b = dx
      · subst hd
        rw [upd_same] at q
        cases q
        exact exd_ok hn6 (relO_put r1 rel5)
      · rw [upd_ne hd] at q
        exact (e0.hok b o q).stay (fun c v hc z => kk6 c v (by
            rcases hc with hc | hc
            · rw [hc]
              exact hb
            · exact at_ne ha hc exo_own) z)
          (fun c hc => by rw [upd_ne (at_ne ha hc exo_own), upd_ne (ne_of_none hc hnd)]; exact hc) (fun c xs hc => by rw [upd_ne (at_ne ha hc exo_tup), upd_ne (ne_of_none hc hnd)]; exact hc)
end
end R

set_option Elab.async false
set_option linter.all false
set_option maxRecDepth 100000
set_option maxHeartbeats 4000000
namespace R
open PySem PySem.Spec PyProof.Rows L2
variable [Keys]
/-! ### raise C(e), an own error -/
def exK (c : Nat) (code fld : Str) : List Sl → Ev Fl := fun ss M => match fzL M ss with
  | some ([d], M') => .ret (.ex c [(fld, d), ("code", .str code)] M')
  | _ => .bad
def sRaise (c : Nat) (code fld : Str) (fe : CE) : CS := fun ρ => (eCons fe eNil ρ).bind (exK c code fld)
/-- the class and its __init__ -/
structure RaiF (D : Wd) (x : Str) (c : Nat) (code fld : Str) : Prop where
  oex : OexC D.K (cA D.K c)
  ex : ∃ (fI : Addr) (fd : FuncData), PySem.W.findIn D.K (.ref (cA D.K c)) "__init__" = some (some (.ref fI)) ∧ PySem.W.typeIn D.K (.ref fI) = some (.type "function") ∧
    FnOk D.prog D.w D.K D.mg D.base (L2.CX D.prog D.w) 1 fI fd ["self", fld] (spEx (cA D.K c) code fld) ∧ Binds D.K fd ["self", fld] []
  mg : D.mg x = some (.ref (cA D.K c))
section
variable {X : Cx} {W : WX} {e : Expr} {fa : CE} {x code fld : Str} {c k : Nat} {p1 p2 p3 : Pos}
theorem passes_no {CX : CXT} {X : Cx} {P : Program} {w : World} (tk : Takes X W) (h : CX = L2.CX X.prog X.w) : Passes CX X (fun _ _ _ => False) := by
  subst h
  exact passes_call tk fun _ _ _ _ z => z.elim
theorem del_upd {H : Hp} {a dx : Addr} {o1 o2 o3 o4 : HO} (ha : H a = none) (hne : dx ≠ a) : upd (del (upd (upd (upd H a o1) dx o2) a o3) a) dx o4 = upd H dx o4 := by
  funext b
  by_cases hb : b = dx
  · rw [hb, upd_same, upd_same]
  · rw [upd_ne hb, upd_ne hb]
    by_cases h2 : b = a
    · rw [h2, del_same, ha]
    · rw [del_ne h2, upd_ne h2, upd_ne hb, upd_ne h2]
theorem ss_raise (F : RaiF X.wd x c code fld) (hc : X.calm = true) (tk : Takes X W) (hr : Room (k + 1) X.A) (hk : 1 ≤ k) (G : GFx X x) (h1 : SE X W e fa)
    (he : starEach [e] X.env = (false, eval e X.env) :: starEach [] X.env := by rfl) : SS X W (.Raise (some (.Call (.Name x p1) [e] [] p2)) none p3) (sRaise c code fld fa) := ⟨fun ρ M Ad G0 σ H D ms en h => by
  obtain ⟨fI, fd, iC, tI, FO, hb⟩ := F.ex
  refine toS (ps_raise hc tk (pmk_oex F.oex iC tI FO (hr.mono (by omega)) hb .nil (passes_call tk fun _ _ _ _ z => z.elim) G.gl F.mg pa_w G.nd he)) ?_
  refine (sa_cons h1 sa_nil he).seqS ms en h fun Ad1 G1 M1 H1 vs ss g1 m1 r1 w1 => ?_
  unfold exK at w1
  split at w1
  · rename_i d M2 e1
    obtain ⟨G2, m2, g2, r2⟩ := fzL_ok m1 r1 e1
    cases r2 with
    | @cons y vs' _ _ ry rn =>
    cases rn
    refine ⟨by simp, fun a ha => ⟨a, y, rfl, upd_same, fun dx hdx hne => ⟨rfl, dx, [(fld, y), ("code", .str code)], upd_same, ?_, ?_, ?_⟩⟩⟩
    · rw [upd_ne hne, upd_same]
    · rw [upd_ne hne] at hdx
      exact hdx
    · rw [upd_ne hne] at hdx
      rw [del_upd ha hne]
      have pu := Pure.new (o := .xd [(fld, y), ("code", .str code)]) m2.le hdx
      exact w1 σ Ad1 _ _ dx _ (g2.trans pu.grow) (m2.pure pu) upd_same (.cons (Rp.mono pu.ex ry) (.cons (.str code) .nil))
  · exact w1.elim⟩
end
end R

set_option Elab.async false
set_option linter.all false
set_option maxRecDepth 100000
set_option maxHeartbeats 4000000
namespace R
open PySem PySem.Spec PyProof.Rows L2
variable [Keys]
/-! ### objects that a frame lends to a call: cells, an error in flight -/
abbrev Lent := List (Addr × Obj)
def lendH (L : Lent) (H : Hp) : Hp := fun b => match L.lookup b with
  | some o => some (ObjX b o)
  | none => H b
def backH (L : Lent) (H : Hp) : Hp := fun b => match L.lookup b with
  | some _ => none
  | none => H b
structure LentOk (L : Lent) (base : Heap) (fs : List Addr) (h : Heap) (H : Hp) : Prop where
  at_ : ∀ b o, L.lookup b = some o → h.get? b = some o ∧ H b = none ∧ b ∉ fs ∧ base.get? b = none
section
variable {L : Lent} {H G : Hp} {b : Addr} {o : Obj}
theorem lend_in (h : L.lookup b = some o) : lendH L H b = some (ObjX b o) := by unfold lendH; rw [h]
theorem lend_no (h : L.lookup b = none) : lendH L H b = H b := by unfold lendH; rw [h]
theorem back_in (h : L.lookup b = some o) : backH L H b = none := by unfold backH; rw [h]
theorem back_no (h : L.lookup b = none) : backH L H b = H b := by unfold backH; rw [h]
theorem objX_ne_own {x : Addr} : ObjX b o ≠ .own x := fun z => by unfold ObjX at z; cases z
theorem objX_ne_tup {xs : List V} : ObjX b o ≠ .tup xs := fun z => by unfold ObjX at z; cases z
theorem code_ne_objX {c : Addr} {q : Str} {o : Obj} : LamX.CodeO c q ≠ ObjX c o := fun z => by
  unfold LamX.CodeO ObjX at z
  injection z with z
  have key : ∀ vs : Array Value, vs[1]? = some (.str q 0) → o = { cls := .none, data := .fields vs } := fun vs hv => by
    have e := congrFun z { objs := Array.replicate (c + 1) { cls := .none, data := .fields vs } }
    have g : (({ objs := Array.replicate (c + 1) { cls := .none, data := .fields vs } } : Heap)).get? c = some { cls := .none, data := .fields vs } := by
      unfold Heap.get?
      rw [show (Array.replicate (c + 1) ({ cls := .none, data := .fields vs } : Obj))[c]? = some { cls := .none, data := .fields vs } from by simp]
    have l : ∃ (oc : Obj) (vs' : Array Value) (t : Tok), (({ objs := Array.replicate (c + 1) { cls := .none, data := .fields vs } } : Heap)).get? c = some oc ∧ oc.data = .fields vs' ∧ vs'[1]? = some (.str q t) := ⟨_, vs, 0, g, rfl, hv⟩
    have r := e.mp l
    rw [g] at r
    exact (Option.some.inj r).symm
  have h1 := key #[.none, .str q 0] rfl
  have h2 := key #[.none, .str q 0, .none] rfl
  rw [h1] at h2
  simp at h2
theorem lam_ne_objX {c' tp : Addr} {T : LamT} {cl : List (Str × Addr)} {f : Addr} : LamO f T cl c' tp ≠ ObjX f o := fun z => by
  unfold LamO ObjX at z
  injection z with z
  have key : ∀ pm : Value, o = { cls := .type "function", data := .func (lamFd T cl c' tp pm .none .none) } := fun pm => by
    have e := congrFun z { objs := Array.replicate (f + 1) { cls := .type "function", data := .func (lamFd T cl c' tp pm .none .none) } }
    have g : (({ objs := Array.replicate (f + 1) { cls := .type "function", data := .func (lamFd T cl c' tp pm .none .none) } } : Heap)).get? f = some { cls := .type "function", data := .func (lamFd T cl c' tp pm .none .none) } := by
      unfold Heap.get?
      rw [show (Array.replicate (f + 1) ({ cls := .type "function", data := .func (lamFd T cl c' tp pm .none .none) } : Obj))[f]? = some { cls := .type "function", data := .func (lamFd T cl c' tp pm .none .none) } from by simp]
    have r := e.mp ⟨pm, .none, .none, g⟩
    rw [g] at r
    exact (Option.some.inj r).symm
  have h1 := key .none
  have h2 := key .ellipsis
  rw [h1] at h2
  have h3 := congrArg (fun o : Obj => match o.data with | .func fd => fd.pyModule | _ => .none) h2
  cases h3
/-- told, so not lent -/
theorem not_lent {u : HO} (hl : ∀ b o, L.lookup b = some o → G b = some (ObjX b o)) (h : G b = some u) (n : ∀ o, u ≠ ObjX b o) : L.lookup b = none := by
  cases e : L.lookup b with
  | none => rfl
  | some o =>
    have := hl b o e
    rw [h] at this
    exact absurd (Option.some.inj this) (n o)
end
section
variable {P : Program} {w : World} {K : PySem.W.Frag} {mg : Str → Option Value} {base : Heap} {A : Around} {outer : List Env} {s s' : Shared} {H : Hp} {L : Lent} {Q : VK} {u : Value}
theorem Env0_lend (e : Env0 P w K mg base A outer s H) (l : LentOk L base (frs outer) s.heap H) : Env0 P w K mg base A outer s (lendH L H) := by
  refine ⟨e.frames, e.mod, fun b o q => ?_, e.bsz, e.funs, fun b hb => ?_, fun b u q => ?_, e.bare⟩
  · have := e.bs b o q
    cases z : L.lookup b with
    | none => rw [lend_no z]; exact this
    | some o' =>
      have := (l.at_ b o' z).2.2.2
      rw [q] at this; cases this
  · cases z : L.lookup b with
    | none => rw [lend_no z]; exact e.frf b hb
    | some o' => exact absurd hb (l.at_ b o' z).2.2.1
  · cases z : L.lookup b with
    | some o' =>
      rw [lend_in z] at q
      cases q
      have hb := (l.at_ b o' z).1
      exact ⟨hb, ⟨o', hb⟩, fun h1 h2 p st => st _ p⟩
    | none =>
      rw [lend_no z] at q
      refine (e.hok b u q).stay (fun c v _ y => y) (fun c y => ?_) fun c xs y => ?_
      · cases z2 : L.lookup c with
        | none => rw [lend_no z2]; exact y
        | some o' =>
          have := (l.at_ c o' z2).2.1
          rw [y] at this; cases this
      · cases z2 : L.lookup c with
        | none => rw [lend_no z2]; exact y
        | some o' =>
          have := (l.at_ c o' z2).2.1
          rw [y] at this; cases this
theorem ce_back (l : LentOk L base (frs outer) s.heap H) (hq : ∀ v H', Q v H' → ∀ b o, L.lookup b = some o → H' b = some (ObjX b o)) (h : L2.CE outer P w (lendH L H) s Q u s') :
    L2.CE outer P w H s (fun v H'' => ∃ H', Q v H' ∧ H'' = backH L H') u s' := by
  obtain ⟨v, H', os, bare, un, hok, rv, q⟩ := h
  have told := hq v H' q
  have nl : ∀ b, (∃ u, H b = some u) → L.lookup b = none := fun b ⟨u, hu⟩ => by
    cases z : L.lookup b with
    | none => rfl
    | some o =>
      have := (l.at_ b o z).2.1
      rw [hu] at this; cases this
  refine ⟨v, backH L H', os, bare, ?_, fun b u hb => ?_, rv, H', q, rfl⟩
  · exact {
      keep := fun b o e n hf hx => by
        cases z : L.lookup b with
        | some o' =>
          have h1 := (l.at_ b o' z).1
          rw [e] at h1
          cases h1
          exact (hok b _ (told b _ z)).1
        | none => exact un.keep b o e (by rw [lend_no z]; exact n) hf hx
      slot := fun b o e n hf hx => by
        cases z : L.lookup b with
        | some o' => exact absurd hf (l.at_ b o' z).2.2.1
        | none => exact un.slot b o e (by rw [lend_no z]; exact n) hf hx
      free := fun b o e n hx => by
        cases z : L.lookup b with
        | some o' => exact back_in z
        | none => rw [back_no z]; exact un.free b o e (by rw [lend_no z]; exact n) hx
      there := fun b o e hx => un.there b o e hx
      tups := fun b xs e => by
        have z := nl b ⟨_, e⟩
        rw [back_no z]; exact un.tups b xs (by rw [lend_no z]; exact e)
      frzs := fun b o v e => by
        have z := nl b ⟨_, e⟩
        rw [back_no z]; exact un.frzs b o v (by rw [lend_no z]; exact e)
      tbls := fun b ps e => by
        have z := nl b ⟨_, e⟩
        rw [back_no z]; exact un.tbls b ps (by rw [lend_no z]; exact e) }
  · cases z : L.lookup b with
    | some o' => rw [back_in z] at hb; cases hb
    | none =>
      rw [back_no z] at hb
      refine (hok b u hb).stay (fun c v _ y => y) (fun c y => ?_) fun c xs y => ?_
      · rw [back_no (not_lent told y fun o => Ne.symm objX_ne_own)]; exact y
      · rw [back_no (not_lent told y fun o => Ne.symm objX_ne_tup)]; exact y
end
/-! ### data that holds no error and no function -/
mutual
def noF : D → Bool
  | .lst xs => noFs xs
  | .tup xs => noFs xs
  | .dK xs => noFk xs
  | .dT xs => noFt xs
  | .ins _ xs => noFf xs
  | .exc _ _ => false
  | .fnc _ _ => false
  | _ => true
def noFs : List D → Bool
  | [] => true
  | d :: r => noF d && noFs r
def noFk : List (Key × D) → Bool
  | [] => true
  | (_, d) :: r => noF d && noFk r
def noFt : List (List Key × D) → Bool
  | [] => true
  | (_, d) :: r => noF d && noFt r
def noFf : List (Str × D) → Bool
  | [] => true
  | (_, d) :: r => noF d && noFf r
end
section
variable {K : PySem.W.Frag} {G : Hp} {L : Lent}
theorem lam_back (hl : ∀ b o, L.lookup b = some o → G b = some (ObjX b o)) {f c' tp : Addr} {T : LamT} {cl : List (Str × Addr)} (h : LamG G f T cl c' tp) : LamG (backH L G) f T cl c' tp :=
  ⟨(back_no (not_lent hl h.f fun o => lam_ne_objX)).trans h.f, (back_no (not_lent hl h.c fun o => code_ne_objX)).trans h.c, fun z => (back_no (not_lent hl (h.t z) fun o w => by unfold ObjX at w; cases w)).trans (h.t z)⟩
theorem rd_back (hl : ∀ b o, L.lookup b = some o → G b = some (ObjX b o)) {a : Addr} {u : HO} (hn : ∀ o, u ≠ ObjX a o) (h : Rd G a u) : Rd (backH L G) a u := by
  rcases h with h | ⟨o, h⟩
  · exact .inl ((back_no (not_lent hl h hn)).trans h)
  · exact .inr ⟨o, (back_no (not_lent hl h fun o' z => by unfold ObjX at z; cases z)).trans h⟩
mutual
theorem rp_back (hl : ∀ b o, L.lookup b = some o → G b = some (ObjX b o)) : ∀ {v : V} {d : D}, noF d = true → Rp K G v d → Rp K (backH L G) v d
  | _, _, _, .non => .non
  | _, _, _, .bl b => .bl b
  | _, _, _, .int i => .int i
  | _, _, _, .str x => .str x
  | _, _, n, .lst h r => .lst ((back_no (not_lent hl h fun o z => by unfold ObjX at z; cases z)).trans h) (rps_back hl (by simpa [noF] using n) r)
  | _, _, _, .scr h => .scr (h.elim (fun h => .inl (rd_back hl (fun o z => by unfold ObjX at z; cases z) h)) .inr)
  | _, _, n, .tup h r => .tup (h.elim (fun h => .inl (rd_back hl (fun o z => by unfold ObjX at z; cases z) h)) .inr) (rps_back hl (by simpa [noF] using n) r)
  | _, _, n, .dK h r => .dK (rd_back hl (fun o z => by unfold ObjX at z; cases z) h) (rpk_back hl (by simpa [noF] using n) r)
  | _, _, n, .dT h r => .dT (rd_back hl (fun o z => by unfold ObjX at z; cases z) h) (rpt_back hl (by simpa [noF] using n) r)
  | _, _, n, .ins h r => .ins ((back_no (not_lent hl h fun o z => by unfold ObjX at z; cases z)).trans h) (rpf_back hl (by simpa [noF] using n) r)
  | _, _, n, .exc _ _ _ _ => by simp [noF] at n
  | _, _, n, .fnc _ _ _ => by simp [noF] at n
  | _, _, _, .lam h => .lam (lam_back hl h)
theorem rps_back (hl : ∀ b o, L.lookup b = some o → G b = some (ObjX b o)) : ∀ {v : List V} {d : List D}, noFs d = true → Rps K G v d → Rps K (backH L G) v d
  | _, _, _, .nil => .nil
  | _, _, n, .cons h r => by
    unfold noFs at n
    rw [Bool.and_eq_true] at n
    exact .cons (rp_back hl n.1 h) (rps_back hl n.2 r)
theorem rpf_back (hl : ∀ b o, L.lookup b = some o → G b = some (ObjX b o)) : ∀ {v : List (Str × V)} {d : List (Str × D)}, noFf d = true → RpF K G v d → RpF K (backH L G) v d
  | _, _, _, .nil => .nil
  | _, _, n, .cons h r => by
    unfold noFf at n
    rw [Bool.and_eq_true] at n
    exact .cons (rp_back hl n.1 h) (rpf_back hl n.2 r)
theorem rpk_back (hl : ∀ b o, L.lookup b = some o → G b = some (ObjX b o)) : ∀ {v : List (Key × V)} {d : List (Key × D)}, noFk d = true → RpK K G v d → RpK K (backH L G) v d
  | _, _, _, .nil => .nil
  | _, _, n, .cons h r => by
    unfold noFk at n
    rw [Bool.and_eq_true] at n
    exact .cons (rp_back hl n.1 h) (rpk_back hl n.2 r)
theorem rpt_back (hl : ∀ b o, L.lookup b = some o → G b = some (ObjX b o)) : ∀ {v : List (List Key × V)} {d : List (List Key × D)}, noFt d = true → RpT K G v d → RpT K (backH L G) v d
  | _, _, _, .nil => .nil
  | _, _, n, .cons h r => by
    unfold noFt at n
    rw [Bool.and_eq_true] at n
    exact .cons (rp_back hl n.1 h) (rpt_back hl n.2 r)
end
/-- a slot that holds none, or knows none -/
def noS : Sl → Bool
  | .dat d => noF d
  | _ => true
def noM : MO → Bool
  | .fz (some d) => noF d
  | .lst xs => xs.all noS
  | .dK xs => xs.all fun p => noS p.2
  | .dT xs => xs.all fun p => noS p.2
  | .ins _ xs => xs.all fun p => noS p.2
  | _ => true
variable {Ad : List Addr} {H : Hp} {M : List MO}
theorem rps1_back (hl : ∀ b o, L.lookup b = some o → G b = some (ObjX b o)) {v : V} {s : Sl} (n : noS s = true) (r : RpS K Ad G v s) : RpS K Ad (backH L G) v s := by
  cases s with
  | un => trivial
  | dat d => exact rp_back hl n r
  | mu j => exact r
  | raw w => exact r
theorem rpsl_back (hl : ∀ b o, L.lookup b = some o → G b = some (ObjX b o)) : ∀ {v : List V} {s : List Sl}, s.all noS = true → RpSs K Ad G v s → RpSs K Ad (backH L G) v s
  | _, _, _, .nil => .nil
  | _, _ :: _, n, .cons r t => by
    rw [List.all_cons, Bool.and_eq_true] at n
    exact .cons (rps1_back hl n.1 r) (rpsl_back hl n.2 t)
theorem rpsf_back {κ : Type} (hl : ∀ b o, L.lookup b = some o → G b = some (ObjX b o)) : ∀ {v : List (κ × V)} {s : List (κ × Sl)}, (s.all fun p => noS p.2) = true → RpSf K Ad G v s → RpSf K Ad (backH L G) v s
  | _, _, _, .nil => .nil
  | _, _ :: _, n, .cons r t => by
    rw [List.all_cons, Bool.and_eq_true] at n
    exact .cons ⟨r.1, rps1_back hl n.1 r.2⟩ (rpsf_back hl n.2 t)
theorem ms_back (hl : ∀ b o, L.lookup b = some o → G b = some (ObjX b o)) (ha : ∀ a ∈ Ad, L.lookup a = none) (hn : M.all noM = true) (ms : MS K Ad G M H) : MS K Ad (backH L G) M (backH L H) := by
  refine ⟨fun b u e => ?_, ms.len, ms.nd, fun j a m h1 h2 => ?_, fun a h => by rw [back_no (ha a h)]; exact ms.dom a h⟩
  · cases z : L.lookup b with
    | some o => rw [back_in z] at e; cases e
    | none => rw [back_no z] at e ⊢; exact ms.le b u e
  · have za := ha a (List.mem_of_getElem? h1)
    obtain ⟨q1, q2⟩ := ms.mo j a m h1 h2
    refine ⟨fun y => by rw [back_no za]; exact q1 y, ?_⟩
    have nm := List.all_eq_true.mp hn m (List.mem_of_getElem? h2)
    cases m with
    | fz o => exact ⟨q2.1.imp fun u q => ⟨(back_no za).trans q.1, q.2⟩, fun d e => by subst e; exact rp_back hl nm (q2.2 d rfl)⟩
    | hand =>
      obtain ⟨s, ns, i, d, x, y, e1, e2, e3⟩ := q2
      exact ⟨s, ns, i, d, x, y, (back_no za).trans e1, (back_no (not_lent hl e2 fun o z => by unfold ObjX at z; cases z)).trans e2, e3⟩
    | tab i =>
      obtain ⟨e0, ps, e1, e2, e3⟩ := q2
      refine ⟨e0, ps, (back_no za).trans e1, e2, fun pos cv hc => ?_⟩
      obtain ⟨c, f1, f2⟩ := e3 pos cv hc
      refine ⟨c, f1, ?_⟩
      exact (back_no (not_lent hl f2 fun o => code_ne_objX)).trans f2
    | lst xs => obtain ⟨vs, e1, e2⟩ := q2; exact ⟨vs, (back_no za).trans e1, rpsl_back hl nm e2⟩
    | dK xs => obtain ⟨vs, e1, e2⟩ := q2; exact ⟨vs, (back_no za).trans e1, rpsf_back hl nm e2⟩
    | dT xs => obtain ⟨vs, e1, e2⟩ := q2; exact ⟨vs, (back_no za).trans e1, rpsf_back hl nm e2⟩
    | ins c xs => obtain ⟨dx, vs, e1, e2⟩ := q2; exact ⟨dx, vs, (back_no za).trans e1, rpsf_back hl nm e2⟩
end
end R

set_option Elab.async false
set_option linter.all false
set_option maxRecDepth 100000
set_option maxHeartbeats 4000000
namespace R
open PySem PySem.Spec PyProof.Rows L2
variable [Keys]
/-! ### a call to which the frame lends objects -/
section
variable {K : PySem.W.Frag} {Ad : List Addr} {G H : Hp} {M : List MO} {L : Lent}
theorem ex_lend (hl : ∀ b o, L.lookup b = some o → H b = none) (le : Le G H) : Ex G (lendH L G) := fun a o h => by
  cases z : L.lookup a with
  | none => rw [lend_no z]; exact h
  | some o' =>
    have := hl a o' z
    rcases le a o h with y | ⟨_, _, y⟩ <;> rw [this] at y <;> cases y
theorem lend_nt (hl : ∀ b o, L.lookup b = some o → H b = none) {a : Addr} (h : H a ≠ none) : L.lookup a = none := by
  cases z : L.lookup a with
  | none => rfl
  | some o' => exact absurd (hl a o' z) h
theorem ms_lend (hl : ∀ b o, L.lookup b = some o → H b = none) (ms : MS K Ad G M H) : MS K Ad (lendH L G) M (lendH L H) := by
  refine ⟨fun a o h => ?_, ms.len, ms.nd, fun j a m e1 e2 => ?_, fun a ha => ?_⟩
  · cases z : L.lookup a with
    | none => rw [lend_no z] at h ⊢; exact ms.le a o h
    | some o' => rw [lend_in z] at h ⊢; exact .inl h
  · have za := lend_nt hl (ms.dom a (List.mem_of_getElem? e1))
    obtain ⟨q1, q2⟩ := ms.mo j a m e1 e2
    exact ⟨fun y => by rw [lend_no za]; exact q1 y, q2.mono (ex_lend hl ms.le) (fun _ _ y => y) (lend_no za)⟩
  · rw [lend_no (lend_nt hl (ms.dom a ha))]; exact ms.dom a ha
/-- told lents are told on -/
theorem lent_told {Ad' : List Addr} {G' H' : Hp} (g : Grow Ad (lendH L G) (lendH L H) Ad' G' H') : ∀ b o, L.lookup b = some o → G' b = some (ObjX b o) := fun b o z => g.ex b _ (lend_in z)
theorem lent_toldH {Ad' : List Addr} {G' H' : Hp} {M' : List MO} (g : Grow Ad (lendH L G) (lendH L H) Ad' G' H') (m : MS K Ad' G' M' H') : ∀ b o, L.lookup b = some o → H' b = some (ObjX b o) := fun b o z => by
  rcases m.le b _ (lent_told g b o z) with y | ⟨y, _⟩
  · exact y
  · unfold ObjX at y; cases y
theorem grow_back {Ad' : List Addr} {G' H' : Hp} (hl : ∀ b o, L.lookup b = some o → H b = none) (le : Le G H) (g : Grow Ad (lendH L G) (lendH L H) Ad' G' H') : Grow Ad G H Ad' (backH L G') (backH L H') := by
  have hG : ∀ a, G a ≠ none → L.lookup a = none := fun a h => by
    cases z : L.lookup a with
    | none => rfl
    | some o' =>
      have := hl a o' z
      cases q : G a with
      | none => exact absurd q h
      | some u => rcases le a u q with y | ⟨_, _, y⟩ <;> rw [this] at y <;> cases y
  obtain ⟨more, e, hm⟩ := g.pre
  refine ⟨fun a o h => ?_, ⟨more, e, fun a ha => ?_⟩, fun a o h n => ?_, fun a h n => ?_, fun a h => ?_⟩
  · have z := hG a (by rw [h]; simp)
    rw [back_no z]
    exact g.ex a o (by rw [lend_no z]; exact h)
  · have := hm a ha
    cases z : L.lookup a with
    | none => rw [lend_no z] at this; exact this
    | some o' => rw [lend_in z] at this; cases this
  · have z := lend_nt hl (a := a) (by rw [h]; simp)
    rw [back_no z]
    exact g.fr a o (by rw [lend_no z]; exact h) n
  · have z := lend_nt hl h
    rw [back_no z, g.gh a (by rw [lend_no z]; exact h) n, lend_no z]
  · have z := lend_nt hl h
    rw [back_no z]
    exact g.dom a (by rw [lend_no z]; exact h)
end
/-- nothing lent is told by the answer -/
def chkNo : Re Sl → T (Re Sl)
  | .ok s M => if noS s && M.all noM then .ret (.ok s M) else .bad
  | .ex _ _ _ => .bad
section
variable {X : Cx} {W : WX} {f : Addr} {fd : FuncData} {ps : List Str} {k n : Nat} {F : Fn} {pins : List (Addr × Obj)} {σ : L2.St} {H : Hp} {s : Shared} {Q : VK} {us : List Value} {vs : List V} {A1 : Around} {L : Lent} {Ad : List Addr} {G : Hp} {M : List MO} {ss : List Sl}
theorem call_lent (FO : FnOk X.prog X.w X.K X.mg X.base (L2.CX X.prog X.w) k f fd ps (spF X.K n F)) (hb : Binds X.K fd ps []) (hr : Room k A1) (hf : A1.frames = X.A.frames)
    (I : Inv X pins σ H s) (l : LentOk L X.base (frs X.stack) s.heap H) (rv : Vals vs us) (ms : MS X.K Ad G M H) (rs : RpSs X.K Ad (lendH L G) vs ss) (hn : ss.length = n)
    (w : wp ((F ss M).bind chkNo) (PoC X.K Q (fun _ _ _ => False) Ad G H)) : wpAny (model X.prog X.w) A1 (call (.ref f) us) (EP X pins σ Q) X.xe s := by
  have hl : ∀ b o, L.lookup b = some o → H b = none := fun b o z => (l.at_ b o z).2.1
  have e0 : Env0 X.prog X.w X.K X.mg X.base A1 X.stack s H := by
    have e := I.env0
    exact ⟨by rw [hf]; exact e.frames, e.mod, e.bs, e.bsz, e.funs, e.frf, e.hok, e.bare⟩
  let Q1 : VK := fun v H' => (∀ b o, L.lookup b = some o → H' b = some (ObjX b o)) ∧ Q v (backH L H')
  have sp : spF X.K n F vs (lendH L H) Q1 (fun _ _ _ => False) := by
    refine ⟨Ad, lendH L G, M, ss, ms_lend hl ms, rs, hn, wp_mono (fun r hr => ?_) (wp_bind.mp w)⟩
    cases r with
    | ex c fs M2 => exact (show False from hr).elim
    | ok t M2 =>
      intro Ad' G' H' v g m r
      have hr : wp (if noS t && M2.all noM then .ret (.ok t M2) else .bad) (PoC X.K Q (fun _ _ _ => False) Ad G H) := hr
      split at hr
      · rename_i hh
        rw [Bool.and_eq_true] at hh
        have hr : PoC X.K Q (fun _ _ _ => False) Ad G H (.ok t M2) := hr
        have tG := lent_told g
        have ha : ∀ a ∈ Ad', L.lookup a = none := fun a ha => by
          obtain ⟨more, e, hm⟩ := g.pre
          rw [e] at ha
          rcases List.mem_append.mp ha with z | z
          · exact lend_nt hl (ms.dom a z)
          · have := hm a z
            cases q : L.lookup a with
            | none => rfl
            | some o' => rw [lend_in q] at this; cases this
        exact ⟨lent_toldH g m, hr Ad' (backH L G') (backH L H') v (grow_back hl ms.le g) (ms_back tG ha hh.2 m) (rps1_back tG hh.1 r)⟩
      · exact (show False from hr).elim
  have hlen : us.length = ps.length := by rw [← rv.length]; exact FO.len _ _ _ _ sp
  refine wpAny_call (codeAny_mono (FO.run A1 X.stack s (lendH L H) ⟨us, []⟩ us vs Q1 _ hr (Env0_lend e0 l) (by
    have := hb s us I.kIn (by simpa using hlen)
    simpa using this) rv sp) fun r s' hq => ?_)
  cases r with
  | error e =>
    obtain ⟨_, _, _, _, _, _, _, _, _, _, _, _, z⟩ := hq
    exact z.elim
  | ok fl =>
    cases fl with
    | ret w =>
      have c := ce_back l (Q := Q1) (fun v H' q => q.1) hq
      obtain ⟨v, H2, I2, rv2, H', q, rfl⟩ := I.after c
      exact ⟨v, _, I2, rv2, q.2⟩
    | next => exact False.elim hq
    | brk => exact False.elim hq
    | cont => exact False.elim hq
end
end R

set_option Elab.async false
set_option linter.all false
set_option maxRecDepth 100000
set_option maxHeartbeats 4000000
namespace R
open PySem PySem.Spec PyProof.Rows L2
variable [Keys]
/-! ### a lambda is made -/
/-- the maker's code object and its table -/
structure MakrF (X : Cx) (jt : Nat) : Prop where
  ex : ∃ c, X.env.code = .ref c ∧ LamX.TabB X.base X.mg c (Keys.tab jt)
/-- the lambda is the i-th text, made here -/
structure LamF (X : Cx) (jt i : Nat) (params : Arguments) (body : Expr) (scope : Scope) : Prop where
  q : (Keys.txt i).qual = X.env.qual ++ "<lambda>"
  tq : Keys.tq jt = X.env.qual ++ "<lambda>"
  p : (Keys.txt i).params = params
  b : (Keys.txt i).body = body
  s : (Keys.txt i).scope = scope
  cl : Keys.cells = X.env.cells
  free : ∀ y ∈ scope.names, y.2 = .free → ∃ c, X.env.cells.lookup y.1 = some c
section
variable {X : Cx} {W : WX} {pins : List (Addr × Obj)} {σ : L2.St} {H G : Hp} {s : Shared} {Ad : List Addr} {M : List MO} {pos : Pos} {jt i : Nat} {params : Arguments} {body : Expr} {scope : Scope}
theorem lamO_ok {P : Program} {w : World} {H : Hp} {h : Heap} {f c' tp : Addr} {T : LamT} {cl : List (Str × Addr)} {pm ctv doc : Value} (e : h.get? f = some { cls := .type "function", data := .func (lamFd T cl c' tp pm ctv doc) }) : ObjOk P w H h f (LamO f T cl c' tp) :=
  ⟨⟨pm, ctv, doc, e⟩, ⟨_, e⟩, fun h1 h2 ⟨a, b, c, z⟩ st => ⟨a, b, c, st _ z⟩⟩
/-- from the code object and the function on -/
theorem lam_end {T : LamT} {cl : List (Str × Addr)} {tp c' : Addr} {Q : VK} {h' : Heap} {t0 t' : Nat} {pm ctv doc : Value} (hn : T.params = params) (ms : MS X.K Ad G M H) (I : Inv X pins σ H { s with heap := h', toks := t0 }) (hc : G c' = some (LamX.CodeO c' T.qual)) (ht : T.dfl = true → G tp = some (.tup [.int 0]))
    (q : ∀ G' H' f, Pure G H G' H' → MS X.K Ad G' M H' → LamG G' f T cl c' tp → Q (.ref f) H') :
    EP X pins σ Q (.ref h'.objs.size) { s with heap := h'.push { cls := .type "function", data := .func (lamFd T cl c' tp pm ctv doc) }, toks := t' } := by
  have hf : H h'.objs.size = none := I.hok.fresh (Nat.le_refl _)
  have pu := Pure.new (o := LamO h'.objs.size T cl c' tp) ms.le hf
  have I2 : Inv X pins σ (upd H h'.objs.size (LamO h'.objs.size T cl c' tp)) { s with heap := h'.push { cls := .type "function", data := .func (lamFd T cl c' tp pm ctv doc) }, toks := t' } :=
    Inv.laid (s := { s with heap := h', toks := t0 }) I (fun b u e => Heap.get?_push_of_some _ e) (Nat.le_refl _) (lamO_ok (pm := pm) (ctv := ctv) (doc := doc) (Heap.get?_push_size _ rfl))
  exact ⟨.ref h'.objs.size, _, I2, rfl, q _ _ _ pu (ms.pure pu) ⟨upd_same, pu.ex _ _ hc, fun z => pu.ex _ _ (ht z)⟩⟩
theorem tab_step {P c' : Addr} {ps more : Array Value} (ms : MS X.K Ad G M H) (h1 : Ad[jt]? = some P) (h2 : M[jt]? = some (.tab jt)) (hP : H P = some (.tbl ps)) (hc : H c' = none)
    (ht : TriplesOk (ps ++ more).toList) (ha : ∀ (pos : Pos) (cv : Value), codeAmong pos (ps ++ more).toList = some cv → (∃ c, cv = .ref c ∧ G c = some (LamX.CodeO c (Keys.tq jt))) ∨ cv = .ref c') :
    ∃ G', Grow Ad G H Ad G' (upd (upd H P (.tbl (ps ++ more))) c' (LamX.CodeO c' (Keys.tq jt))) ∧ MS X.K Ad G' M (upd (upd H P (.tbl (ps ++ more))) c' (LamX.CodeO c' (Keys.tq jt))) ∧ G' c' = some (LamX.CodeO c' (Keys.tq jt)) ∧ Ex G G' := by
  have pu := Pure.new (o := LamX.CodeO c' (Keys.tq jt)) ms.le hc
  have m1 := ms.pure pu
  have ne : P ≠ c' := ne_of_none hP hc
  have eh : upd (upd H P (.tbl (ps ++ more))) c' (LamX.CodeO c' (Keys.tq jt)) = upd (upd H c' (LamX.CodeO c' (Keys.tq jt))) P (.tbl (ps ++ more)) := by
    funext b
    by_cases hb : b = c'
    · rw [hb, upd_same, upd_ne (Ne.symm ne), upd_same]
    · by_cases hp : b = P
      · rw [hp, upd_ne ne, upd_same, upd_same]
      · rw [upd_ne hb, upd_ne hp, upd_ne hp, upd_ne hb]
  obtain ⟨eP, _⟩ := (ms.mo jt P _ h1 h2).2
  have mw := m1.write (m' := .tab jt) (o := .tbl (ps ++ more)) h1 h2 trivial (by
    refine ⟨eP, ps ++ more, upd_same, ht, fun pos cv e => ?_⟩
    rcases ha pos cv e with ⟨c, e1, e2⟩ | e1
    · exact ⟨c, e1, pu.ex _ _ e2⟩
    · exact ⟨c', e1, upd_same⟩)
  have sm : M.set jt (.tab jt) = M := by
    refine List.ext_getElem? fun n => ?_
    by_cases hn : jt = n
    · subst hn
      rw [List.getElem?_set_self (List.getElem?_eq_some_iff.mp h2).1, h2]
    · rw [List.getElem?_set_ne hn]
  rw [sm] at mw
  rw [eh]
  refine ⟨_, pu.grow.trans (Grow.write (List.mem_of_getElem? h1) ?_), mw, upd_same, pu.ex⟩
  rw [upd_ne ne, hP]; simp
end
end R
namespace R
open PySem PySem.Spec PyProof.Rows L2
variable [Keys]
section
variable {X : Cx} {W : WX} {pins : List (Addr × Obj)} {σ : L2.St} {H G : Hp} {s : Shared} {Ad : List Addr} {M : List MO} {pos : Pos} {jt i : Nat} {params : Arguments} {body : Expr} {scope : Scope}
def eLam (jt i : Nat) : CE := fun _ M => match M[jt]? with
  | some (.tab j) => if j = jt then .ret (.ok (.dat (.lam i)) M) else .bad
  | _ => .bad
/-- the rest, from the default's tuple on -/
theorem lam_tail {tp : Addr} {Q : VK} {dV : Value} {E : Value → Shared → Prop} (F : MakrF X jt) (L : LamF X jt i params body scope) (ms : MS X.K Ad G M H) (hM : M[jt]? = some (.tab jt)) (I : Inv X pins σ H s) (ht : (Keys.txt i).dfl = true → G tp = some (.tup [.int 0])) (hd : dV = if (Keys.txt i).dfl then .ref tp else .none)
    (q : ∀ G' H' f c', Grow Ad G H Ad G' H' → MS X.K Ad G' M H' → LamG G' f (Keys.txt i) (cloFrom Keys.cells (Keys.txt i).scope.names []) c' tp → Q (.ref f) H') :
    wpAny (model X.prog X.w) X.A (makeTail "<lambda>" (X.env.qual ++ "<lambda>") params (.expr body) scope X.env dV .none none pos pos.line) (EP X pins σ Q) E s := by
  obtain ⟨c, hcode, TB⟩ := F.ex
  obtain ⟨P, hAd, _⟩ := ms.ad hM
  obtain ⟨eP, ps, hP, hts, ha⟩ := (ms.mo jt P _ hAd hM).2
  subst eP
  have bP := TB.bm.keeps I.bk
  have cP := TB.code.keeps I.bk
  have gP := I.mod.glob.keeps I.bk
  have oP : s.heap.get? (Keys.tab jt) = some { cls := .none, data := .fields ps } := I.hok _ _ hP
  have eo : ∀ (c' : Addr) (pm ctv doc : Value), PySem.W.kdv_obj "<lambda>" (X.env.qual ++ "<lambda>") params (.expr body) scope (cloFrom X.env.cells scope.names []) dV doc pm c' ctv = { cls := .type "function", data := .func (lamFd (Keys.txt i) (cloFrom Keys.cells (Keys.txt i).scope.names []) c' tp pm ctv doc) } := fun c' pm ctv doc => by
    unfold lamFd
    rw [L.q, L.p, L.b, L.s, L.cl, hd]
  cases hc : codeAmong pos ps.toList with
  | none =>
    refine PySem.W.kdv_makeTail (c := c) (clos := cloFrom X.env.cells scope.names []) (closure_ok L.free) I.ok.glob gP hcode cP oP hts hc TB.gP bP fun c' ctv doc h' tk hx hge hlt hrec htb => ?_
    obtain ⟨c2, oc, vs, t, e2, hoc, hdt, hv⟩ := hrec
    cases e2
    have nC : H c' = none := I.hok.fresh hge
    have I1 := LamX.inv_table (t' := tk) (more := #[rawInt pos.line, rawInt pos.col, .ref c']) (h' := h') I hP (fun b o hb e => hx b o hb e) htb hge ⟨oc, vs, t, hoc, hdt, hv⟩
    obtain ⟨G1, g1, m1, r1, x1⟩ := tab_step (more := #[rawInt pos.line, rawInt pos.col, .ref c']) ms hAd hM hP nC (by rw [Array.toList_append]; exact PySem.TriplesOk_snoc _ _ _ _ hts) (fun p cv e => by
      rw [Array.toList_append] at e
      rcases LamX.among_app _ hts e with z | z
      · exact .inl (ha p cv z)
      · exact .inr z)
    rw [← L.tq] at I1
    rw [eo]
    exact lam_end (T := Keys.txt i) L.p m1 I1 (by rw [L.q, ← L.tq]; exact r1) (fun z => x1 _ _ (ht z)) fun G' H' f pu m2 lg => q _ _ _ _ (g1.trans pu.grow) m2 lg
  | some cv =>
    obtain ⟨c', e, hco⟩ := ha pos cv hc
    subst e
    refine PySem.W.kdv_makeTailHit (c := c) (clos := cloFrom X.env.cells scope.names []) (closure_ok L.free) I.ok.glob gP hcode cP oP hts hc bP fun ctv doc h' tk hx hsz => ?_
    have I1 : Inv X pins σ H { s with heap := h' } := I.kept (t' := s.toks) hx
    have := eo c' ((X.mg "__name__").getD .none) ctv doc
    unfold PySem.W.kdv_obj at this
    rw [this]
    exact lam_end (T := Keys.txt i) L.p ms I1 (by rw [L.q, ← L.tq]; exact hco) ht fun G' H' f pu m2 lg => q _ _ _ _ pu.grow m2 lg
theorem wpE_of {v : V} {Q : VK} {m : Sem Value} : wpAny (model X.prog X.w) X.A m (EP X pins σ Q) X.xe s → wpAny (model X.prog X.w) X.A m (EP X pins σ Q) X.xe s := id
/-- lambda: e -/
theorem se_lam {p : Pos} (F : MakrF X jt) (L : LamF X jt i params body scope) (hT : (Keys.txt i).dfl = false) (hd : defaultsOf params X.env = ([], []) := by rfl) : SE X W (.Lambda params body scope p) (eLam jt i) := ⟨fun ρ M Ad G σ H Q ms en h => by
  intro pins s I
  unfold eLam at h
  split at h
  · rename_i j hM
    split at h
    · rename_i hj
      subst hj
      refine PySem.W.kla_eval hd ?_
      rw [makeFunction_eq]
      simp only [List.zip_nil_right, List.filterMap_nil, List.isEmpty_nil, if_true, pure_bind]
      exact lam_tail (i := i) (tp := 0) F L ms hM I (fun z => by rw [hT] at z; cases z) (by rw [hT]; rfl) fun G' H' f c' g m lg => h Ad G' H' _ g m (Rp.lam lg)
    · exact h.elim
  · exact h.elim⟩
/-- lambda x=0: e -/
theorem se_lam0 {p p0 : Pos} {j0 : Nat} (F : MakrF X jt) (L : LamF X jt i params body scope) (hT : (Keys.txt i).dfl = true) (hd : params.defaults = [.Constant (.int 0) j0 p0]) (hk : params.kw_defaults = []) : SE X W (.Lambda params body scope p) (eLam jt i) := ⟨fun ρ M Ad G σ H Q ms en h => by
  intro pins s I
  unfold eLam at h
  split at h
  · rename_i j hM
    split at h
    · rename_i hj
      subst hj
      refine PySem.W.kdv_lam (by rw [hd]; rfl) hk ?_
      rw [hd]
      refine PySem.W.kdv_all1 (thn ((pe_int (X := X) (i := 0)).run pins s σ H (fun v H1 => v = .int 0 ∧ H1 = H) I ⟨rfl, rfl⟩) fun u s1 ⟨v, H1, I1, rv, e1, e2⟩ => PySem.W.kdv_all0 ?_)
      subst e1 e2
      obtain ⟨t, rfl⟩ := rv
      rw [makeFunction_eq]
      simp only [List.zip_nil_right, List.filterMap_nil, List.isEmpty_cons, List.isEmpty_nil, if_true, pure_bind, Bool.false_eq_true, if_false]
      refine wpAny_bind (wpAny_newTextTuple ?_)
      have hf : H1 s1.heap.objs.size = none := I1.hok.fresh (Nat.le_refl _)
      have pu := Pure.new (o := .tup [.int 0]) ms.le hf
      have I2 : Inv X pins σ (upd H1 s1.heap.objs.size (.tup [.int 0])) { s1 with heap := s1.heap.push { cls := .type "tuple", data := .seq [Value.int 0 t].toArray } } :=
        Inv.laid (t' := s1.toks) I1 (fun b u e => Heap.get?_push_of_some _ e) (Nat.le_refl _) ⟨by decide, [.int 0 t], .cons ⟨t, rfl⟩ .nil, ⟨_, Heap.get?_push_size _ rfl, rfl, _, rfl⟩⟩
      exact lam_tail (i := i) (tp := s1.heap.objs.size) F L (ms.pure pu) hM I2 (fun _ => upd_same) (by rw [hT]; rfl) fun G' H' f c' g m lg => h Ad G' H' _ (pu.grow.trans g) m (Rp.lam lg)
    · exact h.elim
  · exact h.elim⟩
end
end R

set_option Elab.async false
set_option linter.all false
set_option maxRecDepth 100000
set_option maxHeartbeats 4000000
namespace R
open PySem PySem.Spec PyProof.Rows L2
variable [Keys]
/-! ### a callee that takes its cells back -/
section
variable {K : PySem.W.Frag} {Ad Ad' : List Addr} {G H G' H' : Hp} {M M' : List MO} {L : Lent} {Q : VK} {E : XK} {P : Program} {w : World} {mg : Str → Option Value} {base : Heap} {A : Around} {outer : List Env} {s s' : Shared} {u : Value}
theorem ms_un (hl : ∀ b o, L.lookup b = some o → G b = some (ObjX b o)) (hn : M.all noM = true) (ms : MS K Ad G M H) : MS K Ad (backH L G) M (backH L H) := by
  refine ms_back hl (fun a ha => ?_) hn ms
  cases z : L.lookup a with
  | none => rfl
  | some o =>
    obtain ⟨j, hj⟩ := List.getElem?_of_mem ha
    have hm : M[j]? = some (M[j]'(by rw [← ms.len]; exact (List.getElem?_eq_some_iff.mp hj).1)) := List.getElem?_eq_getElem _
    obtain ⟨q1, q2⟩ := ms.mo j a _ hj hm
    generalize M[j]'_ = m at q1 q2
    have g := hl a o z
    cases m with
    | fz d =>
      obtain ⟨⟨v, e1, e2⟩, _⟩ := q2
      rw [g] at e1
      exact absurd (Option.some.inj e1).symm (e2 o)
    | _ => have := q1 trivial; rw [g] at this; cases this
theorem lent_H (hl : ∀ b o, L.lookup b = some o → G b = some (ObjX b o)) (le : Le G H) : ∀ b o, L.lookup b = some o → H b = some (ObjX b o) := fun b o z => by
  rcases le b _ (hl b o z) with y | ⟨y, _⟩
  · exact y
  · unfold ObjX at y; cases y
theorem grow_un (hl : ∀ b o, L.lookup b = some o → G b = some (ObjX b o)) (hH : ∀ b o, L.lookup b = some o → H b = some (ObjX b o)) (hn : ∀ b o, L.lookup b = some o → H' b = none) (m : MS K Ad' G' M' H') (g : Grow Ad (backH L G) (backH L H) Ad' G' H') : Grow Ad G H Ad' (lendH L G') (lendH L H') := by
  obtain ⟨more, e, hm⟩ := g.pre
  refine ⟨fun a o h => ?_, ⟨more, e, fun a ha => ?_⟩, fun a o h n => ?_, fun a h n => ?_, fun a h => ?_⟩
  · cases z : L.lookup a with
    | some o' => rw [hl a o' z] at h; rw [lend_in z]; exact h
    | none => rw [lend_no z]; exact g.ex a o ((back_no z).trans h)
  · cases z : L.lookup a with
    | some o' =>
      have := m.dom a (by rw [e]; exact List.mem_append_right _ ha)
      exact absurd (hn a o' z) this
    | none => have := hm a ha; rw [back_no z] at this; exact this
  · cases z : L.lookup a with
    | some o' => rw [hH a o' z] at h; rw [lend_in z]; exact h
    | none => rw [lend_no z]; exact g.fr a o ((back_no z).trans h) n
  · cases z : L.lookup a with
    | some o' => rw [lend_in z, hl a o' z]
    | none => rw [lend_no z, g.gh a (by rw [back_no z]; exact h) n, back_no z]
  · cases z : L.lookup a with
    | some o' => rw [lend_in z]; simp
    | none => rw [lend_no z]; exact g.dom a (by rw [back_no z]; exact h)
def unQ (L : Lent) (Q : VK) : VK := fun v H' => (∀ b o, L.lookup b = some o → H' b = none) → Q v (lendH L H')
def unE (L : Lent) (E : XK) : XK := fun c d H' => (∀ b o, L.lookup b = some o → H' b = none) → E c d (lendH L H')
theorem poc_un (hl : ∀ b o, L.lookup b = some o → G b = some (ObjX b o)) (le : Le G H) {r : Re Sl} (h : PoC K Q E Ad G H r) : PoC K (unQ L Q) (unE L E) Ad (backH L G) (backH L H) r := by
  cases r with
  | ok t M2 => exact fun Ad' G' H' v g m r hn => h Ad' (lendH L G') (lendH L H') v (grow_un hl (lent_H hl le) hn m g) (ms_lend hn m) (r.mono (ex_lend hn m.le) fun _ _ z => z)
  | ex c fs M2 => exact fun Ad' G' H' d gs g m e r hn => h Ad' (lendH L G') (lendH L H') d gs (grow_un hl (lent_H hl le) hn m g) (ms_lend hn m) (ex_lend hn m.le _ _ e) (RpF.mono (ex_lend hn m.le) r)
theorem back_none (h : H u' = none) : backH L H u' = none := by
  cases z : L.lookup u' with
  | some o => exact back_in z
  | none => rw [back_no z]; exact h
theorem not_in (hH : ∀ b o, L.lookup b = some o → H b = some (ObjX b o)) {b : Addr} (h : H b = none) : L.lookup b = none := by
  cases z : L.lookup b with
  | none => rfl
  | some o => have := hH b o z; rw [h] at this; cases this
theorem env0_un (hH : ∀ b o, L.lookup b = some o → H b = some (ObjX b o)) (e : Env0 P w K mg base A outer s H) : Env0 P w K mg base A outer s (backH L H) :=
  ⟨e.frames, e.mod, fun b o q => ⟨(e.bs b o q).1, back_none (e.bs b o q).2⟩, e.bsz, e.funs, fun b hb => back_none (e.frf b hb), fun b u q => by
    cases z : L.lookup b with
    | some o => rw [back_in z] at q; cases q
    | none =>
      rw [back_no z] at q
      refine (e.hok b u q).stay (fun c v _ y => y) (fun c y => ?_) fun c xs y => ?_
      · rw [back_no (not_lent hH y fun o => Ne.symm objX_ne_own)]; exact y
      · rw [back_no (not_lent hH y fun o => Ne.symm objX_ne_tup)]; exact y, e.bare⟩
/-- what is told behind it -/
theorem hok_un {h : Heap} (hn : ∀ b o, L.lookup b = some o → H' b = none) (hg : ∀ b o, L.lookup b = some o → h.get? b = some o) (hok : HOk P w H' h) : HOk P w (lendH L H') h := fun b u q => by
  cases z : L.lookup b with
  | some o =>
    rw [lend_in z] at q
    cases q
    exact ⟨hg b o z, ⟨o, hg b o z⟩, fun h1 h2 p st => st _ p⟩
  | none =>
    rw [lend_no z] at q
    refine (hok b u q).stay (fun c v _ y => y) (fun c y => ?_) fun c xs y => ?_
    · rw [lend_no (lend_nt hn (by rw [y]; simp))]; exact y
    · rw [lend_no (lend_nt hn (by rw [y]; simp))]; exact y
theorem ce_un (hH : ∀ b o, L.lookup b = some o → H b = some (ObjX b o)) (hok0 : HOk P w H s.heap) (hf : ∀ b ∈ frs outer, H b = none) (h : L2.CE outer P w (backH L H) s (unQ L Q) u s') : L2.CE outer P w H s Q u s' := by
  obtain ⟨v, H', os, bare, un, hok, rv, q⟩ := h
  have hg : ∀ b o, L.lookup b = some o → s.heap.get? b = some o := fun b o z => (hok0 b _ (hH b o z)).1
  have hnf : ∀ b o, L.lookup b = some o → b ∉ frs outer := fun b o z y => by have := hf b y; rw [hH b o z] at this; cases this
  have hn : ∀ b o, L.lookup b = some o → H' b = none := fun b o z => un.free b o (hg b o z) (back_in z) (by simp)
  refine ⟨v, lendH L H', os, bare, ?_, hok_un hn (fun b o z => un.keep b o (hg b o z) (back_in z) (hnf b o z) (by simp)) hok, rv, q hn⟩
  exact {
    keep := fun b o e n hf hx => un.keep b o e (back_none n) hf hx
    slot := fun b o e n hf hx => un.slot b o e (back_none n) hf hx
    free := fun b o e n hx => by rw [lend_no (not_in hH n)]; exact un.free b o e (back_none n) hx
    there := un.there
    tups := fun b xs e => by
      have z := not_lent hH e fun o => Ne.symm objX_ne_tup
      rw [lend_no z]; exact un.tups b xs ((back_no z).trans e)
    frzs := fun b o v e => by
      have z := not_lent hH e fun o' y => by unfold ObjX at y; cases y
      rw [lend_no z]; exact un.frzs b o v ((back_no z).trans e)
    tbls := fun b ps e => by
      have z := not_lent hH e fun o' y => by unfold ObjX at y; cases y
      rw [lend_no z]; exact un.tbls b ps ((back_no z).trans e) }
theorem cx_un (hH : ∀ b o, L.lookup b = some o → H b = some (ObjX b o)) (hok0 : HOk P w H s.heap) (hf : ∀ b ∈ frs outer, H b = none) (h : L2.CX P w outer (backH L H) s (unE L E) u s') : L2.CX P w outer H s E u s' := by
  obtain ⟨a, B, H', cls, d, rfl, fly, hok, ub, na, os, ag, hE⟩ := h
  have hg : ∀ b o, L.lookup b = some o → s.heap.get? b = some o := fun b o z => (hok0 b _ (hH b o z)).1
  have hnf : ∀ b o, L.lookup b = some o → b ∉ frs outer := fun b o z y => by have := hf b y; rw [hH b o z] at this; cases this
  have hn : ∀ b o, L.lookup b = some o → H' b = none := fun b o z => ub.free b o (hg b o z) (back_in z)
  have hB : ∀ b o, L.lookup b = some o → B.get? b = some o := fun b o z => ub.keep b o (hg b o z) (back_in z) (hnf b o z)
  have na' : L.lookup a = none := by
    cases z : L.lookup a with
    | none => rfl
    | some o => have := hB a o z; rw [fly.2.1] at this; cases this
  refine ⟨a, B, lendH L H', cls, d, rfl, fly, hok_un hn hB hok, ?_, by rw [lend_no na']; exact na, os, ag, hE hn⟩
  exact {
    keep := fun b o e n hf => ub.keep b o e (back_none n) hf
    slot := ub.slot
    free := fun b o e n => by rw [lend_no (not_in hH n)]; exact ub.free b o e (back_none n)
    there := ub.there
    tups := fun b xs e => by
      have z := not_lent hH e fun o => Ne.symm objX_ne_tup
      rw [lend_no z]; exact ub.tups b xs ((back_no z).trans e)
    frzs := fun b o v e => by
      have z := not_lent hH e fun o' y => by unfold ObjX at y; cases y
      rw [lend_no z]; exact ub.frzs b o v ((back_no z).trans e)
    tbls := fun b ps e => by
      have z := not_lent hH e fun o' y => by unfold ObjX at y; cases y
      rw [lend_no z]; exact ub.tbls b ps ((back_no z).trans e) }
end
end R

set_option Elab.async false
set_option linter.all false
set_option maxRecDepth 100000
set_option maxHeartbeats 4000000
namespace R
open PySem PySem.Spec PyProof.Rows L2
variable [Keys]
/-! ### a lambda is called -/
/-- what its scope says -/
structure LamS (T : LamT) : Prop where
  kind : T.scope.kind = .function
  co : T.scope.isCoroutine = false
  gen : T.scope.isGenerator = false
  nocell : ∀ y ∈ T.scope.names, y.2 ≠ .cell
  par : ∀ x ∈ T.pn, T.scope.names.lookup x = some .local
  one : T.pn.length = if T.dfl then 1 else 0
  free : ∀ y, T.scope.names.lookup y = some .free → y ∈ T.fr
  cap : ∀ y ∈ T.fr, T.scope.names.lookup y = some .free
  mem : ∀ y ∈ T.scope.names, y.2 = .free → y.1 ∈ T.fr
def lamSB (T : LamT) : Bool :=
  decide (T.scope.kind = .function) && !T.scope.isCoroutine && !T.scope.isGenerator && T.scope.names.all (fun y => !decide (y.2 = .cell)) && T.pn.all (fun x => decide (T.scope.names.lookup x = some .local)) && decide (T.pn.length = if T.dfl then 1 else 0) &&
  T.scope.names.all (fun y => !decide (y.2 = .free) || T.fr.contains y.1) && T.fr.all (fun y => decide (T.scope.names.lookup y = some .free))
theorem lamS_of {T : LamT} (h : lamSB T = true) : LamS T := by
  unfold lamSB at h
  simp only [Bool.and_eq_true, Bool.not_eq_true', decide_eq_true_eq, decide_eq_false_iff_not, List.all_eq_true, Bool.or_eq_true] at h
  obtain ⟨⟨⟨⟨⟨⟨⟨h1, h2⟩, h3⟩, h4⟩, h5⟩, h6⟩, h7⟩, h8⟩ := h
  refine ⟨h1, h2, h3, h4, h5, h6, fun y hy => ?_, h8, fun y hy e => by
    rcases h7 y hy with z | z
    · exact absurd e z
    · simpa using z⟩
  rcases h7 _ (PySem.mem_of_lookup hy) with z | z
  · exact absurd rfl z
  · simpa using z
/-- how its parameters are bound -/
structure LamB (T : LamT) : Prop where
  no : T.dfl = false → ∀ (cl : List (Str × Addr)) (c' tp : Addr) (pm ctv doc : Value), bindArgs (lamFd T cl c' tp pm ctv doc) ⟨[], []⟩ = pure []
  one : T.dfl = true → ∀ (cl : List (Str × Addr)) (c' tp : Addr) (pm ctv doc : Value), ∃ k, bindArgs (lamFd T cl c' tp pm ctv doc) ⟨[], []⟩ = seqItems? (.ref tp) >>= k ∧ ∀ v : Value, k (some #[v]) = pure (T.pn.map fun x => (x, v))
abbrev lEnv (T : LamT) (L f c' : Addr) (cl : List (Str × Addr)) : Env := PySem.W.envX T.qual T.scope L f (.ref c') cl
def lx (P : Program) (w : World) (K : PySem.W.Frag) (mg : Str → Option Value) (base : Heap) (T : LamT) (cl : List (Str × Addr)) (f c' : Addr) (A : Around) (outer : List Env) (s : Shared) (H : Hp) (E : XK) : Cx where
  prog := P
  w := w
  K := K
  mg := mg
  base := base
  A := A.deeper (lEnv T s.heap.objs.size f c' cl)
  N := T.N
  s_0 := s
  H_0 := H
  env := lEnv T s.heap.objs.size f c' cl
  outer := outer
  stack := lEnv T s.heap.objs.size f c' cl :: outer
  ex := []
  fn := fun _ => false
  calm := true
  pn := []
  xe := fun e s' => wpAny (model P w) (A.deeper (lEnv T s.heap.objs.size f c' cl)) (leaving (lEnv T s.heap.objs.size f c' cl) e) (fun _ s'' => L2.CX P w outer H s E e s'') (fun e' s'' => L2.CX P w outer H s E e' s'') s'
section
variable {P : Program} {w : World} {K : PySem.W.Frag} {mg : Str → Option Value} {base : Heap} {T : LamT} {cl : List (Str × Addr)} {f c' tp : Addr} {A : Around} {outer : List Env} {s : Shared} {H G : Hp} {E : XK} {vs : List V} {L : Lent}
theorem Cxf.lx (S : LamS T) : Cxf T.N T.scope T.scope (lx P w K mg base T cl f c' A outer s H E) := ⟨rfl, rfl, fun x h => absurd rfl (S.nocell _ (PySem.mem_of_lookup (by simpa using h))), rfl⟩
theorem takes_lx : Takes (lx P w K mg base T cl f c' A outer s H E) (fun cls d _ H => E cls d H) := takes_of rfl rfl rfl rfl
theorem po_lx : PassesOwn (model (lx P w K mg base T cl f c' A outer s H E).prog (lx P w K mg base T cl f c' A outer s H E).w) (lx P w K mg base T cl f c' A outer s H E).A (lx P w K mg base T cl f c' A outer s H E).env (lx P w K mg base T cl f c' A outer s H E).xe := passes_of rfl
/-- the captured cells, as lent objects -/
def celL (T : LamT) (cl : List (Str × Addr)) (h : Heap) : Lent := T.fr.filterMap fun y => (cl.lookup y).bind fun c => (h.get? c).map fun o => (c, o)
theorem mem_lk : ∀ {l : Lent} {b : Addr} {o : Obj}, l.lookup b = some o → (b, o) ∈ l
  | [], _, _, h => by cases h
  | (c, o') :: r, b, o, h => by
    rw [List.lookup_cons] at h
    cases e : (b == c) with
    | true => rw [e] at h; cases h; rw [eq_of_beq e]; exact .head _
    | false => rw [e] at h; exact .tail _ (mem_lk h)
theorem celL_told (C : CelG G T cl vs) (le : Le G H) (hok : HOk P w H s.heap) : ∀ b o, (celL T cl s.heap).lookup b = some o → G b = some (ObjX b o) := fun b o z => by
  have m := mem_lk z
  unfold celL at m
  rw [List.mem_filterMap] at m
  obtain ⟨y, hy, e⟩ := m
  obtain ⟨k, hk⟩ := List.getElem?_of_mem hy
  have hv : vs[k]? = some (vs[k]'(by rw [C.len]; exact (List.getElem?_eq_some_iff.mp hk).1)) := List.getElem?_eq_getElem _
  obtain ⟨c, o', u, e1, e2, e3, e4⟩ := C.has k y _ hk hv
  rw [e1] at e
  have gc : s.heap.get? c = some o' := by
    rcases le c _ e2 with y | ⟨y, _⟩
    · exact (hok c _ y).1
    · unfold ObjX at y; cases y
  simp only [Option.bind_some, gc, Option.map_some] at e
  cases e
  exact e2
theorem celL_has (C : CelG G T cl vs) (le : Le G H) (hok : HOk P w H s.heap) {y : Str} {c : Addr} (h : cl.lookup y = some c) : ∃ o, (celL T cl s.heap).lookup c = some o := by
  have hy := C.own y c h
  obtain ⟨k, hk⟩ := List.getElem?_of_mem hy
  have hv : vs[k]? = some (vs[k]'(by rw [C.len]; exact (List.getElem?_eq_some_iff.mp hk).1)) := List.getElem?_eq_getElem _
  obtain ⟨c2, o', u, e1, e2, e3, e4⟩ := C.has k y _ hk hv
  rw [h] at e1
  cases e1
  have gc : s.heap.get? c = some o' := by
    rcases le c _ e2 with y | ⟨y, _⟩
    · exact (hok c _ y).1
    · unfold ObjX at y; cases y
  have m : (c, o') ∈ celL T cl s.heap := by
    unfold celL
    rw [List.mem_filterMap]
    exact ⟨y, hy, by rw [h]; simp only [Option.bind_some, gc, Option.map_some]⟩
  cases z : (celL T cl s.heap).lookup c with
  | some o => exact ⟨o, rfl⟩
  | none =>
    rw [List.lookup_eq_none_iff] at z
    have := z _ m
    simp at this
/-- what stands at the start -/
def lamSt (T : LamT) (vs : List V) : L2.St := T.pn.map (fun _ => some (.int 0)) ++ (vs.map some ++ T.loc.map fun _ => none)
def lamRo (T : LamT) (ws : List D) : List Sl := T.pn.map (fun _ => .dat (.int 0)) ++ (ws.map .dat ++ T.loc.map fun _ => .un)
theorem lam_start {h₁ : Heap} {tk t : Nat} (S : LamS T) (C : CelG G T cl vs) (le : Le G H) (hok0 : HOk P w H s.heap) (hL : ∀ b o, L.lookup b = some o → H b = some (ObjX b o)) (hc : ∀ y c, cl.lookup y = some c → ∃ o, L.lookup c = some o) (e0 : Env0 P w K mg base A outer s (backH L H)) (hd : A.handled = none)
    (hns : h₁.Ns s.heap.objs.size fun y => (T.pn.map fun x => (x, Value.int 0 t)).reverse.lookup y) (kp : ∀ b o, s.heap.get? b = some o → h₁.get? b = some o) :
    Inv (lx P w K mg base T cl f c' A outer s (backH L H) E) [] (lamSt T vs) (backH L H) { s with heap := h₁, toks := tk } := by
  have noA : ∀ b : Addr, b ∉ (lx P w K mg base T cl f c' A outer s (backH L H) E).ex := fun b z => absurd (show b ∈ ([] : List Addr) from z) (by simp)
  have cell : ∀ y c, cl.lookup y = some c → ∃ (k : Nat) (v : V) (u : Value), T.fr[k]? = some y ∧ vs[k]? = some v ∧ RelV v u ∧ s.heap.IsCell c (some u) := fun y c h => by
    obtain ⟨k, hk⟩ := List.getElem?_of_mem (C.own y c h)
    have hv : vs[k]? = some (vs[k]'(by rw [C.len]; exact (List.getElem?_eq_some_iff.mp hk).1)) := List.getElem?_eq_getElem _
    obtain ⟨c2, o', u, e1, e2, e3, e4⟩ := C.has k y _ hk hv
    rw [h] at e1
    cases e1
    refine ⟨k, _, u, hk, hv, e4, o', ?_, e3⟩
    rcases le c _ e2 with y | ⟨y, _⟩
    · exact (hok0 c _ y).1
    · unfold ObjX at y; cases y
  have cellK : ∀ {c : Addr} {v : Option Value}, s.heap.IsCell c v → h₁.IsCell c v := fun {c v} ⟨o, ho, hd⟩ => ⟨o, kp _ _ ho, hd⟩
  have capC : ∀ y ∈ T.fr, ∃ c, cl.lookup y = some c := fun y hy => by
    obtain ⟨k, hk⟩ := List.getElem?_of_mem hy
    have hv : vs[k]? = some (vs[k]'(by rw [C.len]; exact (List.getElem?_eq_some_iff.mp hk).1)) := List.getElem?_eq_getElem _
    obtain ⟨c2, _, _, e1, _⟩ := C.has k y _ hk hv
    exact ⟨c2, e1⟩
  have lps : T.pn.length = if T.dfl then 1 else 0 := S.one
  refine ⟨⟨e0.mod, S.kind, rfl, rfl, Nat.le_refl _, fun y z c e1 e2 => C.inj y z c e1 e2, fun y hy => ?_, fun y c z _ => ?_, fun _ => hd, Around.frames_deeper e0.frames, .inr ⟨rfl, rfl⟩, fun b z => absurd z (noA b), e0.bs, e0.bsz, fun b _ _ => noA b,
      fun b z => absurd z (noA b), e0.funs, e0.frf⟩,
    rfl, e0.bare, Un.kept kp, ⟨_, hns, fun i y v e1 e2 e3 => ?_⟩, fun y c e => ?_, e0.hok.fresh (Nat.le_refl _), fun y c e => ?_, fun q hq => absurd (show q ∈ ([] : List (Addr × Obj)) ++ [] from hq) (by simp), e0.hok.kept kp, ?_⟩
  · have hy : T.scope.names.lookup y = some .cell ∨ T.scope.names.lookup y = some .free := hy
    rcases hy with hy | hy
    · exact absurd rfl (S.nocell _ (PySem.mem_of_lookup hy))
    · exact capC y (S.free y hy)
  · have z : false = true := z
    cases z
  · have e1 : T.N[i]? = some y := e1
    have e3 : Vis T.scope y := e3
    unfold LamT.N at e1
    unfold lamSt at e2
    by_cases hi : i < T.pn.length
    · rw [List.getElem?_append_left hi] at e1
      rw [List.getElem?_append_left (by rw [List.length_map]; exact hi)] at e2
      have ey : y ∈ T.pn := List.mem_of_getElem? e1
      have ev : v = .int 0 := by
        rw [List.getElem?_map, e1] at e2
        simp at e2
        exact e2.symm
      subst ev
      refine ⟨.int 0 t, ⟨t, rfl⟩, .inl ⟨S.par y ey, ?_⟩⟩
      have l1 : T.pn = [y] := by
        have : T.pn.length = 1 := by
          have h1 : T.pn.length ≤ 1 := by rw [lps]; split <;> omega
          omega
        match hp : T.pn, this with
        | [z], _ => rw [hp] at ey; simp at ey; rw [ey]
      rw [l1]
      simp
    · rw [List.getElem?_append_right (by omega)] at e1
      rw [List.getElem?_append_right (by rw [List.length_map]; omega), List.length_map] at e2
      by_cases hj : i - T.pn.length < T.fr.length
      · rw [List.getElem?_append_left hj] at e1
        rw [List.getElem?_append_left (by rw [List.length_map, C.len]; exact hj), List.getElem?_map] at e2
        cases hv : vs[i - T.pn.length]? with
        | none => rw [hv] at e2; simp at e2
        | some v' =>
          rw [hv] at e2
          simp at e2
          subst e2
          obtain ⟨c, o, u, q1, q2, q3, q4⟩ := C.has _ y _ e1 hv
          refine ⟨u, q4, .inr ⟨.inr (S.cap y (List.mem_of_getElem? e1)), c, q1, ?_⟩⟩
          refine cellK ⟨o, ?_, q3⟩
          rcases le c _ q2 with y | ⟨y, _⟩
          · exact (hok0 c _ y).1
          · unfold ObjX at y; cases y
      · rw [List.getElem?_append_right (by rw [List.length_map, C.len]; omega), List.getElem?_map] at e2
        cases hz : T.loc[i - T.pn.length - (vs.map some).length]? with
        | none => rw [hz] at e2; simp at e2
        | some z => rw [hz] at e2; simp at e2
  · obtain ⟨k, v, u, _, _, _, z⟩ := cell y c e
    exact ⟨_, cellK z⟩
  · obtain ⟨o, z⟩ := hc y c e
    exact back_in z
  · show (lamSt T vs).length = T.N.length
    unfold lamSt LamT.N
    simp [C.len]
theorem env_lam {Ad : List Addr} {ws : List D} (r : Rps K G vs ws) : EnvR K Ad G (lamSt T vs) (lamRo T ws) := by
  unfold lamSt lamRo
  have hl := r.length
  refine ⟨by simp [hl], fun i z e => ?_⟩
  by_cases hi : i < T.pn.length
  · rw [List.getElem?_append_left (by rw [List.length_map]; exact hi)] at e ⊢
    rw [List.getElem?_map] at e ⊢
    cases hp : T.pn[i]? with
    | none => rw [hp] at e; simp at e
    | some x => rw [hp] at e; simp at e; subst e; exact .inr ⟨.int 0, by simp, Rp.int 0⟩
  · rw [List.getElem?_append_right (by rw [List.length_map]; omega), List.length_map] at e ⊢
    by_cases hj : i - T.pn.length < vs.length
    · rw [List.getElem?_append_left (by rw [List.length_map]; omega), List.getElem?_map] at e
      cases hw : ws[i - T.pn.length]? with
      | none => rw [hw] at e; simp at e
      | some d =>
        rw [hw] at e
        simp at e
        subst e
        obtain ⟨v, h1, h2⟩ := r.get hw
        exact .inr ⟨v, by rw [List.getElem?_append_left (by rw [List.length_map]; exact hj), List.getElem?_map, h1]; rfl, h2⟩
    · rw [List.getElem?_append_right (by rw [List.length_map]; omega), List.getElem?_map] at e
      cases hz : T.loc[i - T.pn.length - (ws.map Sl.dat).length]? with
      | none => rw [hz] at e; simp at e
      | some z => rw [hz] at e; simp at e; exact .inl e.symm
end
end R

set_option Elab.async false
set_option linter.all false
set_option maxRecDepth 100000
set_option maxHeartbeats 4000000
namespace R
open PySem PySem.Spec PyProof.Rows L2
variable [Keys]
/-! ### what a lambda answers -/
abbrev LF : Type := List R.D → Ev Sl
def lamK (n : Nat) : Re Sl → T (Re Sl)
  | .ok s M => clean false n s M
  | .ex c fs M => .ret (.ex c fs (cut n M))
def mkLam (t : LamT) (b : CE) : LF := fun ws M => if noFs ws && M.all noM then (b (lamRo t ws) M).bind (lamK M.length) else .bad
/-- the i-th lambda, called without arguments -/
structure LamFn (Dw : Wd) (k : Nat) (i : Nat) (F : LF) : Prop where
  run : ∀ (A : Around) (outer : List Env) (s : Shared) (H G : Hp) (f c' tp : Addr) (cl : List (Str × Addr)) (vs : List V) (ws : List R.D) (Ad : List Addr) (M : List MO) (Q : VK) (E : XK), Room k A → Env0 Dw.prog Dw.w Dw.K Dw.mg Dw.base A outer s H → MS Dw.K Ad G M H →
    LamG G f (Keys.txt i) cl c' tp → CelG G (Keys.txt i) cl vs → Rps Dw.K G vs ws → wp (F ws M) (PoC Dw.K Q E Ad G H) →
    codeAny (model Dw.prog Dw.w) A (.call (.ref f) ⟨[], []⟩) (CR (L2.CX Dw.prog Dw.w) outer Dw.prog Dw.w H s Q E) s
theorem lam_fn {Dw : Wd} {k i : Nat} {b : CE} (S : LamS (Keys.txt i)) (B : LamB (Keys.txt i))
    (body : ∀ cl f c' A outer s H E, Room k (A.deeper (lEnv (Keys.txt i) s.heap.objs.size f c' cl)) → SE (lx Dw.prog Dw.w Dw.K Dw.mg Dw.base (Keys.txt i) cl f c' A outer s H E) (fun cls d _ H => E cls d H) (Keys.txt i).body b) :
    LamFn Dw (k + 1) i (mkLam (Keys.txt i) b) := ⟨fun A outer s H G f c' tp cl vs ws Ad M Q E hr e0 ms lg C r h => by
  obtain ⟨P, w, K, mg, base⟩ := Dw
  dsimp only at *
  generalize hT : Keys.txt i = t at *
  have le := ms.le
  obtain ⟨pm, ctv, doc, hf⟩ : ∃ pm ctv doc, s.heap.get? f = some { cls := .type "function", data := .func (lamFd t cl c' tp pm ctv doc) } := by
    rcases le f _ lg.f with y | ⟨y, _⟩
    · exact (e0.hok f _ y).1
    · unfold LamO at y; cases y
  have hcode : s.heap.CodeRec (.ref c') t.qual := by
    rcases le c' _ lg.c with y | ⟨y, _⟩
    · exact NdefX.codeO_at e0.hok y
    · unfold LamX.CodeO at y; cases y
  obtain ⟨tk, hbT⟩ : ∃ tk, BindsTo s (lamFd t cl c' tp pm ctv doc) ⟨[], []⟩ (t.pn.map fun x => (x, Value.int 0 tk)) := by
    cases hd : t.dfl with
    | false =>
      have l0 : t.pn = [] := by
        have := S.one
        rw [hd] at this
        exact List.length_eq_zero_iff.mp this
      rw [l0]
      exact ⟨0, .of_eq (B.no hd cl c' tp pm ctv doc)⟩
    | true =>
      obtain ⟨k, h1, h2⟩ := B.one hd cl c' tp pm ctv doc
      rcases le tp _ (lg.t hd) with y | ⟨y, _⟩
      · obtain ⟨_, its, hv, ot, ho, hoc, n, hod⟩ := e0.hok tp _ y
        cases hv with
        | @cons _ u _ _ ru hv =>
        cases hv
        obtain ⟨tk, rfl⟩ := ru
        have hde : (lamFd t cl c' tp pm ctv doc).defaults = .ref tp := by
          show (if t.dfl then Value.ref tp else Value.none) = .ref tp
          rw [hd]; rfl
        exact ⟨tk, BindsTo.of_defaults hde ho hod (by rw [hde]; exact h1) (h2 _)⟩
      · cases y
  unfold mkLam at h
  split at h
  · rename_i hno
    rw [Bool.and_eq_true] at hno
    have lim : s.heap.NoLimit := e0.mod.nolimit.keeps fun b o e => (e0.bs b o e).1
    have tG := celL_told C le e0.hok
    have tH := lent_H tG le
    refine PySem.W.kla_callFunE hr.depth hf rfl S.co S.gen rfl hcode (hbT _ _ _ _ ?_)
    refine wpAny_newFunctionEnv S.nocell (fun y hy => ?_) (fun h₁ hns hsb => ⟨lim.fresh _ hsb, ?_⟩) S.kind
    · obtain ⟨x, hx, rfl⟩ := List.mem_map.mp hy
      exact S.par x hx
    show codeAny _ _ (.expr t.body (lEnv t s.heap.objs.size f c' cl)) _ _
    have kp : ∀ b o, s.heap.get? b = some o → h₁.get? b = some o := fun b o e => hsb.extBut b o (Nat.ne_of_lt (Heap.lt_size e)) (Heap.get?_push_of_some _ e)
    have J := lam_start (E := unE (celL t cl s.heap) E) (f := f) (c' := c') (tk := s.toks + (t.pn.map fun x => (x, Value.int 0 tk)).length) S C le e0.hok tH (fun y c => celL_has C le e0.hok) (env0_un tH e0) hr.hd hns kp
    have m1 := ms_un tG hno.2 ms
    have bd := (body cl f c' A outer s (backH (celL t cl s.heap) H) (unE (celL t cl s.heap) E) (hr.deeper _)).run (lamRo t ws) M Ad (backH (celL t cl s.heap) G) (lamSt t vs) (backH (celL t cl s.heap) H) (unQ (celL t cl s.heap) Q) m1 (env_lam (rps_back tG hno.1 r)) (wp_mono (fun rr hrr => by
      have hn : M.length = Ad.length := ms.len.symm
      cases rr with
      | ok z M1 =>
        intro Ad' G' H' v g m rz
        have hrr : wp (clean false M.length z M1) (PoC K Q E Ad G H) := hrr
        exact clean_ok m1 g m rz (wp_mono (fun _ => poc_un tG le) hrr)
      | ex c fs M1 =>
        intro Ad' G' H' d gs g m ed rf
        have hrr : PoC K Q E Ad G H (.ex c fs (cut M.length M1)) := hrr
        rw [hn] at hrr
        exact cut_ok m1 g m fun Ad2 g2 m2 _ => poc_un tG le hrr Ad2 G' H' d gs g2 m2 ed rf) (wp_bind.mp h))
    refine PySem.W.kla_codeExpr (wpAny_mono (bd [] _ J) (fun u s' hq => ?_) fun e s' hq => ?_)
    · obtain ⟨v, H', J', rv, q⟩ := hq
      exact ce_un tH e0.hok e0.frf ⟨v, H', J'.os, J'.bare, J'.base, J'.hok, rv, q⟩
    · exact wpAny_mono hq (fun _ s'' z => cx_un tH e0.hok e0.frf z) fun e' s'' z => cx_un tH e0.hok e0.frf z
  · exact h.elim⟩
end R

set_option Elab.async false
set_option linter.all false
set_option maxRecDepth 100000
set_option maxHeartbeats 4000000
namespace R
open PySem PySem.Spec PyProof.Rows L2
variable [Keys]
/-! ### a function value is called: x() -/
abbrev LTb : Type := Nat → Option LF
def callV (tb : LTb) (s : Sl) : Ev Sl := fun M => match s with
  | .dat (.fnc i ws) => match tb i with
    | some F => F ws M
    | none => .bad
  | _ => .bad
def eCallV (tb : LTb) (fa : CE) : CE := fun ρ => (fa ρ).bind (callV tb)
def LamTb (Dw : Wd) (k : Nat) (tb : LTb) : Prop := ∀ i F, tb i = some F → LamFn Dw k i F
theorem se_callV {X : Cx} {W : WX} {fa : CE} {tb : LTb} {k : Nat} {a : Str} {p1 p2 : Pos} (T : LamTb X.wd k tb) (hr : Room k X.A) (tk : Takes X W) (h1 : SE X W (.Name a p1) fa) : SE X W (.Call (.Name a p1) [] [] p2) (eCallV tb fa) := ⟨fun ρ M Ad G σ H Q ms en h => by
  intro pins s I
  have hw : wE X (.Name a p1) σ H fun v H1 => ∃ Ad1 G1 M1 i ws F, MS X.K Ad1 G1 M1 H1 ∧ Rp X.K G1 v (.fnc i ws) ∧ tb i = some F ∧ wp (F ws M1) (Po X W (RpS X.K) Q σ Ad1 G1 H1) :=
    h1.seq ms en h fun Ad1 G1 M1 H1 v s1 g1 m1 r1 w1 => by
      unfold callV at w1
      split at w1
      · rename_i i ws
        split at w1
        · rename_i F hF
          exact ⟨Ad1, G1, M1, i, ws, F, m1, r1, hF, w1⟩
        · exact w1.elim
      · exact w1.elim
  refine wpAny_Call_Name_kw (thn (hw pins s I) fun u s1 ⟨v, H1, I1, rv, Ad1, G1, M1, i, ws, F, m1, r1, hF, w1⟩ => ?_)
  cases r1 with
  | @fnc f c' tp _ cl vs _ lg C r =>
  obtain rfl : u = Value.ref f := rv
  obtain ⟨pm, ctv, doc, hf⟩ : ∃ pm ctv doc, s1.heap.get? f = some { cls := .type "function", data := .func (lamFd (Keys.txt i) cl c' tp pm ctv doc) } := by
    rcases m1.le f _ lg.f with y | ⟨y, _⟩
    · exact (I1.hok f _ y).1
    · unfold LamO at y; cases y
  refine PySem.W.callWith_F0 ⟨_, _, _, _, hf⟩ ?_
  refine wpAny_call (codeAny_mono ((T i F hF).run X.A X.stack s1 H1 G1 f c' tp cl vs ws Ad1 M1 Q (WE W σ) hr I1.env0 m1 lg C r (wp_mono (fun rr hrr => by
    cases rr with
    | ok z M2 => exact hrr
    | ex c fs M2 => exact hrr) w1)) fun rr s' hq => ?_)
  cases rr with
  | error e => exact passAt tk σ pins H1 s1 e s' I1 hq
  | ok fl =>
    cases fl with
    | ret w => exact I1.after hq
    | next => exact False.elim hq
    | brk => exact False.elim hq
    | cont => exact False.elim hq⟩
end R

set_option Elab.async false
set_option linter.all false
set_option maxRecDepth 100000
set_option maxHeartbeats 4000000
namespace R
open PySem PySem.Spec PyProof.Rows L2
variable [Keys]
/-! ### try .. except (A, B, ..) as e -/
/-- the written classes are the values cs -/
def TestOk (X : Cx) (te : Expr) (cs : List Value) : Prop := ∀ (a : Addr) (oe : Obj) (pn : List (Addr × Obj)) (s1 : Shared) (pins : List (Addr × Obj)) (σ : L2.St) (H : Hp) (Q E : Value → Shared → Prop), Inv (X.suite a ((a, oe) :: pn)) pins σ H s1 →
  (∀ (h' : Heap) (cv : Value), (∀ b o, s1.heap.get? b = some o → h'.get? b = some o) → (∀ cls b, PySem.W.exmAny X.K cls cs = some b → PySem.W.Looks (model X.prog X.w) h' (typeOf (.ref a)) cls → PySem.W.Looks (model X.prog X.w) h' (excMatches (.ref a) cv) b) → Q cv { s1 with heap := h' }) →
  wpAny (model X.prog X.w) (X.A.mark (some (.ref a))) (eval te X.env) Q E s1
theorem test_3 {X : Cx} {n1 n2 n3 : Str} {c1 c2 c3 : Value} {p1 p2 p3 p : Pos} {k : Nat} (g1 : GFx X n1) (m1 : X.mg n1 = some c1) (g2 : GFx X n2) (m2 : X.mg n2 = some c2) (g3 : GFx X n3) (m3 : X.mg n3 = some c3)
    (hs : starEach [.Name n1 p1, .Name n2 p2, .Name n3 p3] X.env = [(false, eval (.Name n1 p1) X.env), (false, eval (.Name n2 p2) X.env), (false, eval (.Name n3 p3) X.env)] := by rfl) : TestOk X (.Tuple [.Name n1 p1, .Name n2 p2, .Name n3 p3] k p) [c1, c2, c3] := by
  intro a oe pn s1 pins σ H Q E I h
  refine wpAny_Tuple_spliced ?_
  rw [hs]
  refine Calls.spliced_cons (ld_glob (X := X.suite a ((a, oe) :: pn)) I g1.gl m1 ?_ g1.nd)
  refine Calls.spliced_cons (ld_glob (X := X.suite a ((a, oe) :: pn)) I g2.gl m2 ?_ g2.nd)
  refine Calls.spliced_cons (ld_glob (X := X.suite a ((a, oe) :: pn)) I g3.gl m3 ?_ g3.nd)
  refine Calls.spliced_nil ⟨by show (3 : Nat) ≤ sizeLine; decide, ?_⟩
  have kp : ∀ b o, s1.heap.get? b = some o → (s1.heap.push { cls := .type "tuple", data := .seq [c1, c2, c3].toArray }).get? b = some o := fun b o e => Heap.get?_push_of_some _ e
  exact h _ _ kp fun cls b hx LT => PySem.W.exm_tup3 (I.kIn.keeps kp) LT (Heap.get?_push_size _ rfl) hx
/-- what the clause wishes of the body's exception -/
def wMany (K : PySem.W.Frag) (h0 : Heap) (cs : List Value) (i n : Nat) (ts : Addr → Value → Option Addr → TS) (Wo : WX) (D : Ends) : WX := fun cls d σ H => σ.length = n →
  ∃ b, PySem.W.exmAny K cls cs = some b ∧ (b = true → ∀ a, H a = none → h0.get? a = none → ts a cls d { nx := fun σ' H' => D.nx (σ'.set i none) H', rt := D.rt, bk := fun σ' H' => D.bk (σ'.set i none) H', ct := fun σ' H' => D.ct (σ'.set i none) H' } (σ.set i (some (.ref a))) H) ∧
    (b = false → Wo cls d σ H)
theorem held_keep {B : Heap} {l : List Env} {a : Addr} {Z : Obj → Prop} {h h' : Heap} (k : ∀ b o, h.get? b = some o → h'.get? b = some o) (x : HandSPX.FlyingZ B l a Z h) : HandSPX.FlyingZ B l a Z h' := by
  obtain ⟨q1, q2, q3, oe, vs, T, oT, ts, r1, r2, r3, r4, r5, r6, r7, r8⟩ := x
  exact ⟨fun b o e => k b o (q1 b o e), q2, Heap.FunFrames.of_keeps (fun b o e _ => ⟨o, k b o e, rfl⟩) q3, oe, vs, T, oT, ts, k _ _ r1, r2, r3, r4, r5, r6, k _ _ r7, r8⟩
section
variable {X : Cx} {n : Str} {cs : List Value} {i : Nat} {body suite : List Stmt} {s0 : Stmt} {te : Expr} {hp pos : Pos} {tb : WX → TS} {ts : Addr → Value → Option Addr → TS} {Wo : WX}
theorem ps_try_many (hex : X.ex = []) (hs : X.stack = X.env :: X.outer) (hf : X.env.frame = some X.env.locals) (hN : X.N.Nodup) (hi : X.N[i]? = some n) (hln : X.env.kindOf n = some .local) (ht : TestOk X te cs) (tk : Takes X Wo)
    (hb : ∀ (W : WX) (pn : List (Addr × Obj)) (xe : Value → Shared → Prop), Takes (X.tr pn xe) W → PassesOwn (model X.prog X.w) X.A X.env xe → PSs (X.tr pn xe) body (tb W))
    (hsu : ∀ (a : Addr) (oe : Obj) (cls : Value) (d : Option Addr) (pn : List (Addr × Obj)), Zc cls d oe → (∃ vs, oe.data = .fields vs) → (∀ p ∈ pn, p.1 ≠ a) → ∀ (s : Shared) (σ : L2.St) (H : Hp) (D : Ends), Inv (X.suite a ((a, oe) :: pn)) [] σ H s → ts a cls d D σ H → wpAny (model X.prog X.w) (X.A.mark (some (.ref a))) (execs (s0 :: suite) X.env) (SP (X.suite a ((a, oe) :: pn)) [] D) (fun _ _ => False) s) :
    PS X (.Try body [.ExceptHandler (some te) (some n) (s0 :: suite) hp] [] [] pos) (fun D σ H => tb (wMany X.K X.s_0.heap cs i X.N.length ts Wo D) D σ H) := ⟨fun pins s σ H D I h => by
  have ok := I.ok
  have hfr : X.A.frames = some (X.env :: X.outer) := ok.frames.trans (by rw [hs])
  have hloc : Loc X.env.scope n := .inl hln
  refine wpAny_Try_except (wpAny_mono ((hb (wMany X.K X.s_0.heap cs i X.N.length ts Wo D) (X.pn ++ pins) (fun e z1 => wpAny (model X.prog X.w) X.A (noteFrame e X.env) (fun _ z2 => wpAny (model X.prog X.w) X.A (setFlight e none)
    (fun _ z3 => wpAny (model X.prog X.w) X.A (handleBy e X.env [.ExceptHandler (some te) (some n) (s0 :: suite) hp]) (SP X pins D) X.xe z3) X.xe z2) X.xe z1) (fun u z xx => ?_) PassesOwn.looking).run [] s σ H D (I.toTry _) h) (fun fl z hz => ?_) fun _ _ q => q)
  · obtain ⟨a, B, sI, pins', σ', H', cls, d, rfl, J', nb, up, sky, na, os, ag, wish⟩ := xx
    have J : Inv X pins σ' H' sI := J'.ofTry ok
    obtain ⟨b, hb1, hyes, hno⟩ := wish J.len
    rw [show frs (X.tr (X.pn ++ pins) _).stack = frs X.stack from rfl] at nb
    have sky1 : Sky B (X.env :: X.outer) a (Zc cls d) X.env.locals z.heap := hs ▸ sky
    show wpAny (model X.prog X.w) X.A (noteFrame (.ref a) X.env) _ _ _
    refine Sky.land Zc.steady hfr hf sky1 fun k1 fy1 u1 => ?_
    have N3 : Inv X pins σ' H' { z with heap := k1 } := J.landed nb fy1.1 (up.trans u1) os ag
    obtain ⟨oe, vs, e1, ez, ed⟩ := fy1.there
    have nfr : a ∉ frs (X.env :: X.outer) := fun hm => by
      obtain ⟨_, o', e', hnf⟩ := fy1.2.2.1.mem hm
      rw [e1] at e'; cases e'
      exact hnf _ ed
    have nL : a ≠ X.env.locals := fun q => nfr (List.mem_filterMap.mpr ⟨X.env, .head _, by rw [hf, q]⟩)
    have nF : a ∉ X.fs := fun hm => by
      obtain ⟨e, he, q⟩ := List.mem_filterMap.mp hm
      exact nfr (List.mem_filterMap.mpr ⟨e, .tail _ he, q⟩)
    have apart : ∀ p ∈ X.pn ++ pins, p.1 ≠ a := fun p hp z => by
      have := nb p.1 p.2 (J.pin p hp).1 (by rw [hs, z]; exact nfr)
      rw [z, fy1.2.1] at this; cases this
    have fresh : X.s_0.heap.get? a = none := by
      cases q : X.s_0.heap.get? a with
      | none => rfl
      | some o =>
        obtain ⟨o', q2⟩ := J.base.there a o q (by rw [hex]; simp)
        have := nb a o' q2 (by rw [hs]; exact nfr)
        rw [fy1.2.1] at this; cases this
    refine wpAny_handleBy_cons (codeAny_handlers_test ?_) (by intro q; cases q)
    refine ht a oe (X.pn ++ pins) _ _ σ' H' _ _ (N3.suite e1 ed na nL nF) fun k2 cv kp look => ?_
    have fy2 := held_keep kp fy1
    have e2 := kp _ _ e1
    have u2 := u1.trans (Heap.UpToSlots.of_keeps kp)
    have LT : PySem.W.Looks (model X.prog X.w) k2 (typeOf (.ref a)) cls := fun A Q E s k q => wpAny_typeOf_ref (k _ _ e2) (by rw [ez.1]; exact q)
    refine (look cls b hb1 LT).here ?_
    cases b with
    | false =>
      show wpAny _ X.A (handleBy (.ref a) X.env []) _ _ _
      refine wpAny_handleBy_nil ?_
      obtain ⟨_, _, _, oe', vs', T, oT, tv, f1, f2, f3, f4, f5⟩ := id fy2
      have fin : wpAny (model X.prog X.w) X.A (setFlight (.ref a) X.env.frame) (fun _ y => wpAny (model X.prog X.w) X.A (throw (.ref a) : Sem Flow) (SP X pins D) X.xe y) X.xe { z with heap := k2 } := by
        rw [hf]
        exact HandSPX.setFlight_upZ fy2 fun k3 fy3 u3 => wpAny_throw (tk _ _ ⟨a, B, sI, pins, σ', H', cls, d, rfl, J, nb, (up.trans u2).trans u3, .inr (.inr (by rw [hs]; exact fy3)), na, os, ag, hno rfl⟩)
      unfold PySem.passOn
      refine wpAny_bind (wpAny_field f1 f3 f4 ?_)
      rw [if_neg (show ¬ ((Value.ref T == Value.none) = true) from by simp)]
      first
        | exact wpAny_bind (wpAny_pure (wpAny_bind fin))
        | exact wpAny_bind fin
    | true =>
      refine codeAny_handlers_suite_as (HandSPX.lands_againZ fy2 fun k3 fy3 u3 => ?_)
      obtain ⟨oe3, vs3, g1, g2, g3⟩ := fy3.there
      have N4 : Inv X pins σ' H' { z with heap := k3 } := J.landed nb fy3.1 ((up.trans u2).trans u3) os ag
      refine store_ok (X := X.suite a ((a, oe3) :: (X.pn ++ pins))) (v := .ref a) (N4.suite g1 g3 na nL nF) hN hi hloc rfl (fun y Y => ?_) (.inr hln)
      refine wpAny_mono (hsu a oe3 cls d (X.pn ++ pins) g2 ⟨_, g3⟩ apart y _ H' _ Y (hyes rfl a na fresh)) (fun fl t ht => ?_) fun _ _ q => q.elim
      have fin : ∀ {σ6 : L2.St} {H6 : Hp} {Q : Shared → Prop}, Inv (X.suite a ((a, oe3) :: (X.pn ++ pins))) [] σ6 H6 t → (∀ r, Inv X pins (σ6.set i none) H6 r → Q r) → wpAny (model X.prog X.w) X.A (do bindName X.env n .none; unbindBehindTheSuite X.env n hp) (fun _ r => Q r) X.xe t :=
        fun q r => gone_ok (q.unsuite ok) hN hi hln r
      cases fl with
      | next => obtain ⟨_, _, q1, q2⟩ := ht; exact fin q1 fun _ q => ⟨_, _, q, q2⟩
      | brk => obtain ⟨_, _, q1, q2⟩ := ht; exact fin q1 fun _ q => ⟨_, _, q, q2⟩
      | cont => obtain ⟨_, _, q1, q2⟩ := ht; exact fin q1 fun _ q => ⟨_, _, q, q2⟩
      | ret u => obtain ⟨_, _, _, q1, q3, q2⟩ := ht; exact fin q1 fun _ q => ⟨_, _, _, q, q3, q2⟩
  · cases fl with
    | next => obtain ⟨_, _, q1, q2⟩ := hz; exact wpAny_execs_nil ⟨_, _, q1.ofTry ok, q2⟩
    | brk => obtain ⟨_, _, q1, q2⟩ := hz; exact ⟨_, _, q1.ofTry ok, q2⟩
    | cont => obtain ⟨_, _, q1, q2⟩ := hz; exact ⟨_, _, q1.ofTry ok, q2⟩
    | ret u => obtain ⟨_, _, _, q1, q3, q2⟩ := hz; exact ⟨_, _, _, q1.ofTry ok, q3, q2⟩⟩
end
end R

set_option Elab.async false
set_option linter.all false
set_option maxRecDepth 100000
set_option maxHeartbeats 4000000
namespace R
open PySem PySem.Spec PyProof.Rows L2
variable [Keys]
/-! ### a field of an error -/
/-- the field f of the error classes cs -/
structure XfF (K : PySem.W.Frag) (C : Addr) (f : Str) : Prop where
  x : L2.XfC K C
  no : PySem.W.findIn K (.ref C) f = some none
def fldX (f : Str) (cs : List Nat) : Sl → Option Sl
  | .dat (.exc c fs) => if cs.contains c then (fs.lookup f).map .dat else none
  | _ => none
def eFldX (f : Str) (cs : List Nat) (fa : CE) : CE := fun ρ => (fa ρ).bind fun s => ofO (fldX f cs s)
theorem se_fldX {X : Cx} {W : WX} {e : Expr} {fa : CE} {f : Str} {cs : List Nat} {pos : Pos} (hf : ∀ c ∈ cs, XfF X.K (cA X.K c) f) (h1 : SE X W e fa) (hb : attributeBase e f X.env (eval e X.env) = eval e X.env := by rfl) : SE X W (.Attribute e f pos) (eFldX f cs fa) := ⟨fun ρ M Ad G σ H Q ms en h => by
  intro pins s I
  have hw : wE X e σ H fun v H1 => ∃ Ad1 G1 M1 c fs d, MS X.K Ad1 G1 M1 H1 ∧ Rp X.K G1 v (.exc c fs) ∧ c ∈ cs ∧ fs.lookup f = some d ∧ ∀ u, Rp X.K G1 u d → Q u H1 :=
    h1.seq ms en h fun Ad1 G1 M1 H1 v s1 g1 m1 r1 w1 => by
      obtain ⟨t, e1, q⟩ := wp_ofO.mp w1
      unfold fldX at e1
      split at e1
      · rename_i c fs
        split at e1
        · rename_i hc
          cases hl : fs.lookup f with
          | none => rw [hl] at e1; cases e1
          | some d =>
            rw [hl] at e1
            cases e1
            exact ⟨Ad1, G1, M1, c, fs, d, m1, r1, by simpa using hc, hl, fun u ru => q _ _ _ _ (Grow.refl _ _ _) m1 ru⟩
        · cases e1
      · cases e1
  refine attr_of hb (thn (hw pins s I) fun u s1 ⟨v, H1, I1, rv, Ad1, G1, M1, c, fs, d, m1, r1, hc, hl, q⟩ => ?_)
  cases r1 with
  | @exc a dx _ gs _ o ga xo gd rf =>
  obtain rfl : u = Value.ref a := rv
  have T := hf c hc
  have ha : s1.heap.get? a = some o := by
    rcases m1.le a _ ga with y | ⟨y, _⟩
    · exact (I1.hok a _ y).1
    · unfold ObjX at y; cases y
  have hx : ObjOk X.prog X.w H1 s1.heap dx (.xd gs) := by
    rcases m1.le dx _ gd with y | ⟨y, _⟩
    · exact I1.hok dx _ y
    · cases y
  obtain ⟨mA, hns, hr⟩ := hx
  obtain ⟨od, ho, hlk⟩ := lookIn_ns hns
  obtain ⟨v, hv, rvd⟩ := rf.lookup hl
  obtain ⟨u, hu, ru⟩ := RelO.some_of (v := v) (o := mA f) (by rw [← hv]; exact hr f)
  obtain ⟨vs, hd⟩ := xo.data
  have J : PySem.W.InstAt s1.heap a o (cA X.K c) (some od) := ⟨ha, xo.cls, by unfold PySem.W.notCls; rw [hd] <;> rfl, by rw [xo.dict]; exact ho⟩
  exact HandSPX.exc_get I1.kIn J T.x.ga T.x.gg T.x.exC (PySem.W.findObj_own T.x.hdC T.no rfl (by rw [hlk, hu])) (handed_of ru) ⟨v, H1, I1.tok _, ru, q v rvd⟩⟩
/-! ### a def that may be called within an except's suite -/
structure FnL (P : Program) (w : World) (K : PySem.W.Frag) (mg : Str → Option Value) (base : Heap) (CX : CXT) (k : Nat) (f : Addr) (fd : FuncData) (ps : List Str) (sp : Sp) : Prop where
  len : ∀ vs H Q E, sp vs H Q E → vs.length = ps.length
  run : ∀ (A : Around) (outer : List Env) (s : Shared) (H : Hp) (args : Args) (us : List Value) (vs : List V) (Q : VK) (E : XK), L2H.RoomH k A → Env0 P w K mg base A outer s H → BindsTo s fd args (ps.zip us) → Vals vs us → sp vs H Q E →
    codeAny (model P w) A (.call (.ref f) args) (CR CX outer P w H s Q E) s
abbrev blx (P : Program) (w : World) (K : PySem.W.Frag) (mg : Str → Option Value) (base : Heap) (N : List Str) (qual : Str) (sc : Scope) (f : Addr) (cdv : Value) (A : Around) (outer : List Env) (s : Shared) (H : Hp) (E : XK) : Cx :=
  { cxOf (L2.CX P w) P w K mg base N qual sc f cdv A outer s H E with calm := false }
section
variable {P : Program} {w : World} {K : PySem.W.Frag} {mg : Str → Option Value} {base : Heap} {x qual : Str} {stt : Stmt} {f : Addr} {fd : FuncData} {N ps : List Str} {k : Nat}
theorem inv_blx {cdv : Value} {A : Around} {outer : List Env} {s s1 : Shared} {H : Hp} {E : XK} {us : List Value} {vs : List V} {scope : Scope} (S : FnScope N ps scope) (e0 : Env0 P w K mg base A outer s H) (hl : vs.length = ps.length) (r : Vals vs us)
    (y : InCallC s s.heap.objs.size (bindL (envOfC qual scope s.heap.objs.size f cdv).kindOf (ps.zip us) fun _ => none) (cellsFrom (s.heap.objs.size + 1) scope.names []) (bindC (envOfC qual scope s.heap.objs.size f cdv).kindOf (ps.zip us) fun _ => none) s1) :
    Inv (blx P w K mg base N qual scope f cdv A outer s H E) [] (L2.start N vs) H s1 := by
  obtain ⟨A1, hA, hd⟩ : ∃ A1 : Around, A1.frames = A.frames ∧ A1.handled = none := ⟨{ A with handled := none }, rfl, rfl⟩
  have I := inv_start (CX := L2.CX P w) (A := A1) (E := E) (N := N) (qual := qual) (f := f) (cd := cdv) S hd ⟨by rw [hA]; exact e0.frames, e0.mod, e0.bs, e0.bsz, e0.funs, e0.frf, e0.hok, e0.bare⟩ hl r y
  have ok := I.ok
  exact ⟨⟨ok.mod, ok.kind, ok.glob, ok.blt, ok.above, ok.inj, ok.has, ok.cab, fun z => absurd (show false = true from z) Bool.false_ne_true, Around.frames_deeper e0.frames, ok.stk, ok.exf, ok.bs, ok.bsz, ok.noex, ok.exfs, ok.funs, ok.frf⟩,
    I.os, I.bare, I.base, I.loc, I.cell, I.free, I.freeC, I.pin, I.hok, I.len⟩
end
end R

set_option Elab.async false
set_option linter.all false
set_option maxRecDepth 100000
set_option maxHeartbeats 4000000
namespace R
open PySem PySem.Spec PyProof.Rows L2
variable [Keys]
section
variable {P : Program} {w : World} {K : PySem.W.Frag} {mg : Str → Option Value} {base : Heap} {x qual : Str} {stt : Stmt} {f : Addr} {fd : FuncData} {N ps : List Str} {k : Nat}
theorem fn_okL (m : Bool) (F : Fun K x qual stt f fd) (S : FnScope N ps (defScope stt)) {fB : CS}
    (body : ∀ cdv A outer s H E, L2H.RoomH k (A.deeper (envOfC qual (defScope stt) s.heap.objs.size f cdv)) → SB (blx P w K mg base N qual (defScope stt) f cdv A outer s H E) (fun cls d _ H => E cls d H) (defBody stt) fB) :
    FnL P w K mg base (L2.CX P w) (k + 1) f fd ps (spF K ps.length (mkFn m ps.length N.length fB)) := by
  have len : ∀ vs H Q E, spF K ps.length (mkFn m ps.length N.length fB) vs H Q E → vs.length = ps.length := fun vs H Q E h => by
    obtain ⟨Ad, G, M, ss, _, r, e, _⟩ := h
    rw [r.length, e]
  refine ⟨len, fun A outer s H args us vs Q E hr e0 hb rv hsp => ?_⟩
  have hl := len _ _ _ _ hsp
  obtain ⟨oc, od, kV, doc, pm, an, cdv, ct, osl, rfl, lk, hcd⟩ := F.ex
  have KX : K.In s.heap := e0.mod.kin.keeps fun b o e => (e0.bs b o e).1
  have lim : s.heap.NoLimit := e0.mod.nolimit.keeps fun b o e => (e0.bs b o e).1
  refine codeAny_call_function hr.depth (KX _ _ lk) rfl S.co S.gen rfl (PySem.W.codeRec_of KX hcd) (hb _ _ _ _ (wpAny_newFunctionEnv_cells S.kind (fun y hy => ?_) fun env he s1 y => ?_))
  · obtain ⟨n, v⟩ := y
    rcases S.par n (List.of_mem_zip hy).1 with q | q
    · exact .inl q
    · exact .inr ⟨q, PySem.W.cellsFrom_some _ _ _ (.inl q)⟩
  · subst he
    refine ⟨lim.keeps y.toInCall.keep, codeAny_func ?_⟩
    have J := inv_blx (E := E) (cdv := cdv) (qual := qual) (f := f) S e0 hl rv y
    obtain ⟨Ad, G, M, ss, ms, r, e, h⟩ := hsp
    have en := env_start (K := K) (Ad := Ad) (G := G) (N := N) r
    rw [e] at en
    unfold mkFn at h
    rw [if_pos e] at h
    have run := (body cdv A outer s H E (hr.deeper _)).run _ M Ad G (L2.start N vs) H { nx := fun _ H' => Q .non H', rt := Q } ms en (wp_mono (fun rr hrr => by
      cases rr with
      | ex c fs M1 =>
        intro σ' Ad' G' H' d gs g1 m1 e1 r1
        rw [show M.length = Ad.length from ms.len.symm] at hrr
        exact cut_ok ms g1 m1 fun Ad2 g2 m2 _ => hrr Ad2 G' H' d gs g2 m2 e1 r1
      | ok a M1 =>
        cases a with
        | nx ρ1 =>
          intro Ad' G' H' σ' g1 m1 _
          have hrr : PoC K Q E Ad G H (.ok (.dat .non) (cut M.length M1)) := hrr
          rw [show M.length = Ad.length from ms.len.symm] at hrr
          exact cut_ok ms g1 m1 fun Ad2 g2 m2 _ => hrr Ad2 G' H' .non g2 m2 rs_non
        | rt s1 => exact fun Ad' G' H' v g1 m1 r1 => clean_ok ms g1 m1 r1 hrr
        | bk ρ1 => exact (show False from hrr).elim
        | ct ρ1 => exact (show False from hrr).elim) (wp_bind.mp h))
    refine wpAny_mono (run [] s1 J) (fun fl s' hs => ?_) fun e s' hs => hs
    cases fl with
    | ret u => obtain ⟨v, σ', H', I', rv', q⟩ := hs; exact ⟨v, H', I'.os, I'.bare, I'.base, I'.hok, rv', q⟩
    | next => obtain ⟨σ', H', I', q⟩ := hs; exact ⟨.non, H', I'.os, I'.bare, I'.base, I'.hok, rfl, q⟩
    | brk => obtain ⟨_, _, _, q⟩ := hs; exact False.elim q
    | cont => obtain ⟨_, _, _, q⟩ := hs; exact False.elim q
end
section
variable {X : Cx} {W : WX} {f : Addr} {fd : FuncData} {ps : List Str} {k n : Nat} {F : Fn} {pins : List (Addr × Obj)} {σ : L2.St} {H : Hp} {s : Shared} {Q : VK} {us : List Value} {vs : List V} {A1 : Around} {L : Lent} {Ad : List Addr} {G : Hp} {M : List MO} {ss : List Sl}
theorem call_lentL (FO : FnL X.prog X.w X.K X.mg X.base (L2.CX X.prog X.w) k f fd ps (spF X.K n F)) (hb : Binds X.K fd ps []) (hr : L2H.RoomH k A1) (hf : A1.frames = X.A.frames)
    (I : Inv X pins σ H s) (l : LentOk L X.base (frs X.stack) s.heap H) (rv : Vals vs us) (ms : MS X.K Ad G M H) (rs : RpSs X.K Ad (lendH L G) vs ss) (hn : ss.length = n)
    (w : wp ((F ss M).bind chkNo) (PoC X.K Q (fun _ _ _ => False) Ad G H)) : wpAny (model X.prog X.w) A1 (call (.ref f) us) (EP X pins σ Q) X.xe s := by
  have hl : ∀ b o, L.lookup b = some o → H b = none := fun b o z => (l.at_ b o z).2.1
  have e0 : Env0 X.prog X.w X.K X.mg X.base A1 X.stack s H := by
    have e := I.env0
    exact ⟨by rw [hf]; exact e.frames, e.mod, e.bs, e.bsz, e.funs, e.frf, e.hok, e.bare⟩
  let Q1 : VK := fun v H' => (∀ b o, L.lookup b = some o → H' b = some (ObjX b o)) ∧ Q v (backH L H')
  have sp : spF X.K n F vs (lendH L H) Q1 (fun _ _ _ => False) := by
    refine ⟨Ad, lendH L G, M, ss, ms_lend hl ms, rs, hn, wp_mono (fun r hr => ?_) (wp_bind.mp w)⟩
    cases r with
    | ex c fs M2 => exact (show False from hr).elim
    | ok t M2 =>
      intro Ad' G' H' v g m r
      have hr : wp (if noS t && M2.all noM then .ret (.ok t M2) else .bad) (PoC X.K Q (fun _ _ _ => False) Ad G H) := hr
      split at hr
      · rename_i hh
        rw [Bool.and_eq_true] at hh
        have hr : PoC X.K Q (fun _ _ _ => False) Ad G H (.ok t M2) := hr
        have tG := lent_told g
        have ha : ∀ a ∈ Ad', L.lookup a = none := fun a ha => by
          obtain ⟨more, e, hm⟩ := g.pre
          rw [e] at ha
          rcases List.mem_append.mp ha with z | z
          · exact lend_nt hl (ms.dom a z)
          · have := hm a z
            cases q : L.lookup a with
            | none => rfl
            | some o' => rw [lend_in q] at this; cases this
        exact ⟨lent_toldH g m, hr Ad' (backH L G') (backH L H') v (grow_back hl ms.le g) (ms_back tG ha hh.2 m) (rps1_back tG hh.1 r)⟩
      · exact (show False from hr).elim
  have hlen : us.length = ps.length := by rw [← rv.length]; exact FO.len _ _ _ _ sp
  refine wpAny_call (codeAny_mono (FO.run A1 X.stack s (lendH L H) ⟨us, []⟩ us vs Q1 _ hr (Env0_lend e0 l) (by
    have := hb s us I.kIn (by simpa using hlen)
    simpa using this) rv sp) fun r s' hq => ?_)
  cases r with
  | error e =>
    obtain ⟨_, _, _, _, _, _, _, _, _, _, _, _, z⟩ := hq
    exact z.elim
  | ok fl =>
    cases fl with
    | ret w =>
      have c := ce_back l (Q := Q1) (fun v H' q => q.1) hq
      obtain ⟨v, H2, I2, rv2, H', q, rfl⟩ := I.after c
      exact ⟨v, _, I2, rv2, q.2⟩
    | next => exact False.elim hq
    | brk => exact False.elim hq
    | cont => exact False.elim hq
end
end R

set_option Elab.async false
set_option linter.all false
set_option maxRecDepth 100000
set_option maxHeartbeats 4000000
namespace R
open PySem PySem.Spec PyProof.Rows L2
variable [Keys]
/-! ### the caught error as data -/
section
variable {X : Cx} {a : Addr} {oe : Obj} {pn pins : List (Addr × Obj)} {σ : L2.St} {H H' G : Hp} {s : Shared}
theorem lk1 {b : Addr} {o : Obj} (z : ([(a, oe)] : Lent).lookup b = some o) : b = a ∧ o = oe := by
  rw [List.lookup_cons] at z
  cases e : (b == a) with
  | true => rw [e] at z; cases z; exact ⟨eq_of_beq e, rfl⟩
  | false => rw [e] at z; cases z
theorem lk_self : ([(a, oe)] : Lent).lookup a = some oe := by simp
theorem inv_lend (I : Inv (X.suite a ((a, oe) :: pn)) [] σ H s) (fr : X.s_0.heap.get? a = none) (ap : ∀ p ∈ pn, p.1 ≠ a) : Inv (X.suite a pn) [] σ (lendH [(a, oe)] H) s := by
  have ok := I.ok
  obtain ⟨p1, p2, p3, p4, p5⟩ := I.pin (a, oe) (List.mem_append_left _ (.head _))
  have no : ∀ b, b ≠ a → lendH [(a, oe)] H b = H b := fun b hb => lend_no (by
    cases z : ([(a, oe)] : Lent).lookup b with
    | none => rfl
    | some o => exact absurd (lk1 z).1 hb)
  have hn : ∀ b o, ([(a, oe)] : Lent).lookup b = some o → H b = none := fun b o z => by rw [(lk1 z).1]; exact p2
  refine ⟨⟨ok.mod, ok.kind, ok.glob, ok.blt, ok.above, ok.inj, ok.has, ok.cab, ok.hd, ok.frames, ok.stk, ok.exf, ok.bs, ok.bsz, ok.noex, ok.exfs, ok.funs, ok.frf⟩, I.os, I.bare, ?_, I.loc, I.cell, ?_, fun x c e => ?_, fun p hp => ?_, ?_, I.len⟩
  · have un := I.base
    have ne : ∀ b o, X.s_0.heap.get? b = some o → b ≠ a := fun b o e z => by rw [z, fr] at e; cases e
    exact {
      keep := un.keep
      slot := un.slot
      free := fun b o e n hx => by rw [no b (ne b o e)]; exact un.free b o e n hx
      there := un.there
      tups := fun b xs e => by
        have q := un.tups b xs e
        rw [lend_no (lend_nt hn (by rw [q]; simp))]; exact q
      frzs := fun b o v e => by
        have q := un.frzs b o v e
        rw [lend_no (lend_nt hn (by rw [q]; simp))]; exact q
      tbls := fun b ps e => by
        obtain ⟨more, q⟩ := un.tbls b ps e
        exact ⟨more, by rw [lend_no (lend_nt hn (by rw [q]; simp))]; exact q⟩ }
  · rw [no _ (Ne.symm p3)]; exact I.free
  · have hc : c ≠ a := fun z => by
      obtain ⟨v, o, ho, hd⟩ := I.cell x c e
      rw [z, p1] at ho
      cases ho
      exact p5 v hd
    rw [no c hc]; exact I.freeC x c e
  · have hp' : p ∈ pn := by simpa using (show p ∈ pn ++ [] from hp)
    have q := I.pin p (List.mem_append_left _ (.tail _ hp'))
    exact ⟨q.1, by rw [no _ (ap p hp')]; exact q.2.1, q.2.2⟩
  · exact hok_un hn (fun b o z => by rw [(lk1 z).1, (lk1 z).2]; exact p1) I.hok
theorem inv_back (I : Inv (X.suite a pn) [] σ H s) (ok0 : (X.suite a ((a, oe) :: pn)).Ok) (fr : X.s_0.heap.get? a = none) (ap : ∀ p ∈ pn, p.1 ≠ a) (hH : H a = some (ObjX a oe)) (hd : ∃ vs, oe.data = .fields vs) (nL : a ≠ X.env.locals) (nF : a ∉ X.fs) : Inv (X.suite a ((a, oe) :: pn)) [] σ (backH [(a, oe)] H) s := by
  have no : ∀ b, b ≠ a → backH [(a, oe)] H b = H b := fun b hb => back_no (by
    cases z : ([(a, oe)] : Lent).lookup b with
    | none => rfl
    | some o => exact absurd (lk1 z).1 hb)
  have tl : ∀ b o, ([(a, oe)] : Lent).lookup b = some o → H b = some (ObjX b o) := fun b o z => by rw [(lk1 z).1, (lk1 z).2]; exact hH
  have ha : s.heap.get? a = some oe := (I.hok a _ hH).1
  obtain ⟨vs, hd⟩ := hd
  refine ⟨ok0, I.os, I.bare, ?_, I.loc, I.cell, back_none I.free, fun x c e => back_none (I.freeC x c e), fun p hp => ?_, fun b u e => ?_, I.len⟩
  · have un := I.base
    exact {
      keep := un.keep
      slot := un.slot
      free := fun b o e n hx => back_none (un.free b o e n hx)
      there := un.there
      tups := fun b xs e => by
        have q := un.tups b xs e
        rw [back_no (not_lent tl q fun o => Ne.symm objX_ne_tup)]; exact q
      frzs := fun b o v e => by
        have q := un.frzs b o v e
        rw [back_no (not_lent tl q fun o' y => by unfold ObjX at y; cases y)]; exact q
      tbls := fun b ps e => by
        obtain ⟨more, q⟩ := un.tbls b ps e
        exact ⟨more, by rw [back_no (not_lent tl q fun o' y => by unfold ObjX at y; cases y)]; exact q⟩ }
  · have hp' : p ∈ (a, oe) :: pn := by simpa using (show p ∈ ((a, oe) :: pn) ++ [] from hp)
    rcases List.mem_cons.mp hp' with rfl | z
    · exact ⟨ha, back_in lk_self, nL, nF, fun v z => by have z' : oe.data = .cell v := z; rw [hd] at z'; cases z'⟩
    · have q := I.pin p (List.mem_append_left _ z)
      exact ⟨q.1, back_none q.2.1, q.2.2⟩
  · cases z : ([(a, oe)] : Lent).lookup b with
    | some o => rw [back_in z] at e; cases e
    | none =>
      rw [back_no z] at e
      refine (I.hok b u e).stay (fun c v _ y => y) (fun c y => ?_) fun c xs y => ?_
      · rw [back_no (not_lent tl y fun o => Ne.symm objX_ne_own)]; exact y
      · rw [back_no (not_lent tl y fun o => Ne.symm objX_ne_tup)]; exact y
end
end R

set_option Elab.async false
set_option linter.all false
set_option maxRecDepth 100000
set_option maxHeartbeats 4000000
namespace R
open PySem PySem.Spec PyProof.Rows L2
variable [Keys]
/-! ### try: body, except (..) as e: suite -/
/-- behind the suite the name is gone, and nothing tells the error -/
def offK (i : Nat) : Re Fl → T (Re Fl)
  | .ok (.nx ρ) M => if (ρ.set i .un).all noS && M.all noM then .ret (.ok (.nx (ρ.set i .un)) M) else .bad
  | .ok (.bk ρ) M => if (ρ.set i .un).all noS && M.all noM then .ret (.ok (.bk (ρ.set i .un)) M) else .bad
  | .ok (.ct ρ) M => if (ρ.set i .un).all noS && M.all noM then .ret (.ok (.ct (ρ.set i .un)) M) else .bad
  | .ok (.rt s) M => if noS s && M.all noM then .ret (.ok (.rt s) M) else .bad
  | .ex _ _ _ => .bad
def catK (n i : Nat) (cat : Nat → Option Bool) (fs : CS) : Re Fl → T (Re Fl)
  | .ok f M => .ret (.ok f M)
  | .ex c es M => match cat c with
    | some true => (fs ((List.replicate n .un).set i (.dat (.exc c es))) M).bind (offK i)
    | some false => .ret (.ex c es M)
    | none => .bad
def sTry (fb : CS) (n i : Nat) (cat : Nat → Option Bool) (fs : CS) : CS := fun ρ M => (fb ρ M).bind (catK n i cat fs)
section
variable {X : Cx} {W : WX} {a : Addr} {oe : Obj} {pn : List (Addr × Obj)} {K : PySem.W.Frag} {Ad Ad' : List Addr} {G G' H H' : Hp} {M M' : List MO} {σ : L2.St} {ρ : List Sl} {L : Lent} {i : Nat}
theorem env_off (hl : ∀ b o, L.lookup b = some o → G b = some (ObjX b o)) (hn : (ρ.set i .un).all noS = true) (en : EnvR K Ad G σ ρ) : EnvR K Ad (backH L G) (σ.set i none) (ρ.set i .un) := by
  refine ⟨by rw [List.length_set, List.length_set]; exact en.len, fun j s e => ?_⟩
  have ns := List.all_eq_true.mp hn s (List.mem_of_getElem? e)
  by_cases hj : i = j
  · subst hj
    rw [List.getElem?_set] at e
    split at e
    · split at e
      · cases e; exact .inl rfl
      · cases e
    · exact absurd rfl ‹_›
  · rw [List.getElem?_set_ne hj] at e ⊢
    rcases en.at_ j s e with z | ⟨v, e1, r⟩
    · exact .inl z
    · exact .inr ⟨v, e1, rps1_back hl ns r⟩
theorem ss_try {n : Str} {np : Nat} {cs : List Value} {body suite : List Stmt} {s0 : Stmt} {te : Expr} {hp pos : Pos} {fb fs : CS} {cat : Nat → Option Bool} (hex : X.ex = []) (hs : X.stack = X.env :: X.outer) (hf : X.env.frame = some X.env.locals) (hN : X.N.Nodup) (hnp : X.N.length = np) (hi : X.N[i]? = some n) (hln : X.env.kindOf n = some .local)
    (ht : TestOk X te cs) (tk : Takes X W) (hc : ∀ c b, cat c = some b → PySem.W.exmAny X.K (.ref (cA X.K c)) cs = some b)
    (hb : ∀ (W : WX) (pn : List (Addr × Obj)) (xe : Value → Shared → Prop), Takes (X.tr pn xe) W → PassesOwn (model X.prog X.w) X.A X.env xe → SB (X.tr pn xe) W body fb)
    (hsu : ∀ (a : Addr) (pn : List (Addr × Obj)), SB (X.suite a pn) (fun _ _ _ _ => False) (s0 :: suite) fs) :
    SS X W (.Try body [.ExceptHandler (some te) (some n) (s0 :: suite) hp] [] [] pos) (sTry fb np i cat fs) := ⟨fun ρ M Ad G σ H D ms en h => by
  let ts : Addr → Value → Option Addr → TS := fun a cls d D σ H => ∃ c es Ad G M gs dx, cls = .ref (cA X.K c) ∧ d = some dx ∧ MS X.K Ad G M H ∧ G dx = some (.xd gs) ∧ RpF X.K G gs es ∧ σ.length = np ∧ i < np ∧ σ[i]? = some (some (.ref a)) ∧ X.s_0.heap.get? a = none ∧ H a = none ∧
    wp (fs ((List.replicate np .un).set i (.dat (.exc c es))) M) (fun r => ∀ oe : Obj, Grow Ad (lendH [(a, oe)] G) (lendH [(a, oe)] H) Ad (lendH [(a, oe)] G) (lendH [(a, oe)] H) →
      PoS X (fun _ _ _ _ => False) { nx := fun σ' H' => H' a = some (ObjX a oe) ∧ D.nx σ' (backH [(a, oe)] H'), rt := fun v H' => H' a = some (ObjX a oe) ∧ D.rt v (backH [(a, oe)] H'), bk := fun σ' H' => H' a = some (ObjX a oe) ∧ D.bk σ' (backH [(a, oe)] H'), ct := fun σ' H' => H' a = some (ObjX a oe) ∧ D.ct σ' (backH [(a, oe)] H') } Ad (lendH [(a, oe)] G) (lendH [(a, oe)] H) r)
  let tb : WX → TS := fun W D σ H => ∃ ρ M Ad G, MS X.K Ad G M H ∧ EnvR X.K Ad G σ ρ ∧ wp (fb ρ M) (PoS X W D Ad G H)
  refine toS (ps_try_many (tb := tb) (ts := ts) hex hs hf hN hi hln ht tk (fun W pn xe tk po => ⟨fun pins s σ H D I ⟨ρ, M, Ad, G, ms, en, w⟩ => ?_⟩) (fun a oe cls d pn hz hd ap s σ H D I hts => ?_)) ⟨ρ, M, Ad, G, ms, en, ?_⟩
  · exact (hb W pn xe tk po).run ρ M Ad G σ H D ms en w pins s I
  · obtain ⟨c, es, Ad, G, M, gs, dx, rfl, rfl, ms, gd, rf, hl, hil, hσ, fr, ha, w⟩ := hts
    have hn : ∀ b o, ([(a, oe)] : Lent).lookup b = some o → H b = none := fun b o z => by rw [(lk1 z).1]; exact ha
    have m1 := ms_lend hn ms
    have ex := ex_lend hn ms.le
    have I1 := inv_lend I fr ap
    have en1 : EnvR X.K Ad (lendH [(a, oe)] G) σ ((List.replicate np .un).set i (.dat (.exc c es))) := by
      refine ⟨by simp [hl], fun j t e => ?_⟩
      by_cases hj : i = j
      · subst hj
        rw [List.getElem?_set_self (by simpa using hil)] at e
        cases e
        exact .inr ⟨_, hσ, Rp.exc (lend_in lk_self) ⟨hz.1, hz.2, hd⟩ (ex _ _ gd) (RpF.mono ex rf)⟩
      · rw [List.getElem?_set_ne hj, List.getElem?_replicate] at e
        split at e
        · exact .inl (Option.some.inj e).symm
        · cases e
    obtain ⟨p1, p2, p3, p4, p5⟩ := I.pin (a, oe) (List.mem_append_left _ (.head _))
    refine wpAny_mono ((hsu a pn).run _ M Ad _ σ _ _ m1 en1 (wp_mono (fun r hr => hr oe (Grow.refl _ _ _)) w) [] s I1) (fun fl t q => ?_) fun _ _ z => z.elim
    have bk : ∀ {σ' : L2.St} {H' : Hp}, Inv (X.suite a pn) [] σ' H' t → H' a = some (ObjX a oe) → Inv (X.suite a ((a, oe) :: pn)) [] σ' (backH [(a, oe)] H') t := fun I' e => inv_back I' I.ok fr ap e hd p3 p4
    cases fl with
    | next => obtain ⟨σ', H', I', e, q⟩ := q; exact ⟨_, _, bk I' e, q⟩
    | brk => obtain ⟨σ', H', I', e, q⟩ := q; exact ⟨_, _, bk I' e, q⟩
    | cont => obtain ⟨σ', H', I', e, q⟩ := q; exact ⟨_, _, bk I' e, q⟩
    | ret u => obtain ⟨v, σ', H', I', rv, e, q⟩ := q; exact ⟨_, _, _, bk I' e, rv, q⟩
  · refine wp_mono (fun r hr => ?_) (wp_bind.mp h)
    cases r with
    | ok f M1 =>
      have hr : PoS X W D Ad G H (.ok f M1) := hr
      cases f with
      | nx _ => exact hr
      | rt _ => exact hr
      | bk _ => exact hr
      | ct _ => exact hr
    | ex c es M1 =>
      intro σ' Ad1 G1 H1 d gs g1 m1 gd rf hl
      have hl : σ'.length = np := hl.trans hnp
      unfold catK at hr
      cases hcat : cat c with
      | none => simp only [hcat] at hr; exact hr.elim
      | some b =>
        simp only [hcat] at hr
        refine ⟨b, hc c b hcat, fun hb1 a ha fr => ?_, fun hb0 => ?_⟩
        · subst hb1
          have hil : i < np := by rw [← hnp]; exact (List.getElem?_eq_some_iff.mp hi).1
          refine ⟨c, es, Ad1, G1, M1, gs, d, rfl, rfl, m1, gd, rf, by rw [List.length_set]; exact hl, hil, by rw [List.getElem?_set_self (by rw [hl]; exact hil)], fr, ha, wp_mono (fun r w oe g0 => ?_) (wp_bind.mp hr)⟩
          have hn : ∀ b o, ([(a, oe)] : Lent).lookup b = some o → H1 b = none := fun b o z => by rw [(lk1 z).1]; exact ha
          have com : ∀ {Ad' : List Addr} {G' H' : Hp} {M' : List MO}, Grow Ad1 (lendH [(a, oe)] G1) (lendH [(a, oe)] H1) Ad' G' H' → MS X.K Ad' G' M' H' → M'.all noM = true → H' a = some (ObjX a oe) ∧ Grow Ad G H Ad' (backH [(a, oe)] G') (backH [(a, oe)] H') ∧ MS X.K Ad' (backH [(a, oe)] G') M' (backH [(a, oe)] H') := fun {Ad' G' H' M'} g m hm =>
            ⟨lent_toldH g m a oe lk_self, g1.trans (grow_back hn m1.le g), ms_un (lent_told g) hm m⟩
          cases r with
          | ex c2 es2 M2 => exact (show False from w).elim
          | ok f M2 =>
            cases f with
            | nx ρ2 =>
              intro Ad' G' H' σ2 g m en2
              have w : wp (if (ρ2.set i .un).all noS && M2.all noM then .ret (.ok (.nx (ρ2.set i .un)) M2) else .bad) (PoS X W D Ad G H) := w
              split at w
              · rename_i hh
                rw [Bool.and_eq_true] at hh
                obtain ⟨q1, q2, q3⟩ := com g m hh.2
                exact ⟨q1, w _ _ _ _ q2 q3 (env_off (lent_told g) hh.1 en2)⟩
              · exact w.elim
            | bk ρ2 =>
              intro Ad' G' H' σ2 g m en2
              have w : wp (if (ρ2.set i .un).all noS && M2.all noM then .ret (.ok (.bk (ρ2.set i .un)) M2) else .bad) (PoS X W D Ad G H) := w
              split at w
              · rename_i hh
                rw [Bool.and_eq_true] at hh
                obtain ⟨q1, q2, q3⟩ := com g m hh.2
                exact ⟨q1, w _ _ _ _ q2 q3 (env_off (lent_told g) hh.1 en2)⟩
              · exact w.elim
            | ct ρ2 =>
              intro Ad' G' H' σ2 g m en2
              have w : wp (if (ρ2.set i .un).all noS && M2.all noM then .ret (.ok (.ct (ρ2.set i .un)) M2) else .bad) (PoS X W D Ad G H) := w
              split at w
              · rename_i hh
                rw [Bool.and_eq_true] at hh
                obtain ⟨q1, q2, q3⟩ := com g m hh.2
                exact ⟨q1, w _ _ _ _ q2 q3 (env_off (lent_told g) hh.1 en2)⟩
              · exact w.elim
            | rt z =>
              intro Ad' G' H' v g m rz
              have w : wp (if noS z && M2.all noM then .ret (.ok (.rt z) M2) else .bad) (PoS X W D Ad G H) := w
              split at w
              · rename_i hh
                rw [Bool.and_eq_true] at hh
                obtain ⟨q1, q2, q3⟩ := com g m hh.2
                exact ⟨q1, w _ _ _ _ q2 q3 (rps1_back (lent_told g) hh.1 rz)⟩
              · exact w.elim
        · subst hb0
          have hr : PoS X W D Ad G H (.ex c es M1) := hr
          exact hr σ' Ad1 G1 H1 d gs g1 m1 gd rf⟩
end
end R

set_option Elab.async false
set_option linter.all false
set_option maxRecDepth 100000
set_option maxHeartbeats 4000000
namespace R
open PySem PySem.Spec PyProof.Rows L2
variable [Keys]
/-! ### a call within a suite -/
structure CalL (D : Wd) (k : Nat) (x : Str) (np : Nat) (F : Fn) : Prop where
  ex : ∃ f fd ps, FnL D.prog D.w D.K D.mg D.base (L2.CX D.prog D.w) k f fd ps (spF D.K np F) ∧ D.mg x = some (.ref f) ∧ PySem.W.keepIn D.K (.ref f) = true ∧ Binds D.K fd ps []
theorem se_callL {X : Cx} {W : WX} {e : Expr} {es : List Expr} {x : Str} {fs : CA} {F : Fn} {k n : Nat} {p pos : Pos} (C : CalL X.wd k x n F) (hl : ∀ {ss M Q}, wp (F ss M) Q → ss.length = n) (hr : L2H.RoomH k X.A) (G : GFx X x) (tk : Takes X W) (h1 : SA X W (e :: es) fs)
    (he : starEach (e :: es) X.env = (false, eval e X.env) :: starEach es X.env := by rfl) (hpl : (backTo pos (starEach es X.env)).any (·.1) = false := by rfl) : SE X W (.Call (.Name x p) (e :: es) [] pos) (eCall F fs) := ⟨fun ρ M Ad Gh σ H Q ms en h => by
  intro pins s I
  obtain ⟨f, fd, ps, FO, hm, hk, hb⟩ := C.ex
  have hargs : wA X (e :: es) σ H fun vs H1 => ∃ Ad1 G1 M1 ss, MS X.K Ad1 G1 M1 H1 ∧ RpSs X.K Ad1 G1 vs ss ∧ wp (F ss M1) (Po X W (RpS X.K) Q σ Ad1 G1 H1) :=
    h1.seq ms en h fun Ad1 G1 M1 H1 vs ss g1 m1 r1 w1 => ⟨Ad1, G1, M1, ss, m1, r1, w1⟩
  refine wpAny_Call_Name_kw (ld_glob I G.gl hm ?_ G.nd)
  refine PySem.W.callWith_K (h₀ := X.base) I.ok.mod.kin hk (thn (hargs pos pins s I) fun us s1 ⟨vs, H1, I1, rv, Ad1, G1, M1, ss, m1, r1, w1⟩ => ⟨I1.kIn, ?_⟩) he hpl
  have sp : spF X.K n F vs H1 Q (WE W σ) := ⟨Ad1, G1, M1, ss, m1, r1, hl w1, wp_mono (fun r hr => by
    cases r with
    | ok z M2 => exact hr
    | ex c fs M2 => exact hr) w1⟩
  have hlen : us.length = ps.length := by rw [← rv.length]; exact FO.len _ _ _ _ sp
  refine wpAny_call (codeAny_mono (FO.run X.A X.stack s1 H1 ⟨us, []⟩ us vs Q (WE W σ) hr I1.env0 (by
    have := hb s1 us I1.kIn (by simpa using hlen)
    simpa using this) rv sp) fun r s' hq => ?_)
  cases r with
  | error e => exact passAt tk σ pins H1 s1 e s' I1 hq
  | ok fl =>
    cases fl with
    | ret w => exact I1.after hq
    | next => exact False.elim hq
    | brk => exact False.elim hq
    | cont => exact False.elim hq⟩
/-- a suite lets nothing out -/
theorem takes_suite {X : Cx} {a : Addr} {pn : List (Addr × Obj)} : Takes (X.suite a pn) (fun _ _ _ _ => False) := fun u s' x => by
  obtain ⟨_, _, _, _, _, _, _, _, _, _, _, _, _, _, _, _, z⟩ := x
  exact z.elim
end R

set_option Elab.async false
set_option linter.all false
set_option maxRecDepth 100000
set_option maxHeartbeats 4000000
namespace R
open PySem PySem.Spec PyProof.Rows L2
variable [Keys]
/-! ### lambdas of this frame are handed to a def: closed over what stands in the frame -/
def getS (ρ : List Sl) : List Nat → Option (List Sl)
  | [] => some []
  | j :: r => match ρ[j]? with
    | some .un => none
    | some s => (getS ρ r).map (s :: ·)
    | none => none
abbrev Cap : Type := Nat → Option (List Nat)
def clo1 (cap : Cap) (ρ : List Sl) (i : Nat) (M : List MO) : Option (R.D × List MO) := match cap i with
  | some js => match getS ρ js with
    | some ss => match fzL M ss with
      | some (ds, M1) => if noFs ds then some (.fnc i ds, M1) else none
      | none => none
    | none => none
  | none => none
def cloL (cap : Cap) (ρ : List Sl) : List R.D → List MO → Option (List R.D × List MO)
  | [], M => some ([], M)
  | .lam i :: r, M => match clo1 cap ρ i M with
    | some (d, M1) => (cloL cap ρ r M1).map fun p => (d :: p.1, p.2)
    | none => none
  | _ :: _, _ => none
def clo (cap : Cap) (ρ : List Sl) (M : List MO) : R.D → Option (R.D × List MO)
  | .lam i => clo1 cap ρ i M
  | .lst xs => (cloL cap ρ xs M).map fun p => (.lst p.1, p.2)
  | _ => none
/-- the captured names of the lambda i stand in the slots js, in cells -/
structure CapF (X : Cx) (i : Nat) (js : List Nat) : Prop where
  S : LamS (Keys.txt i)
  cl : Keys.cells = X.env.cells
  at_ : ∀ (k : Nat) y, (Keys.txt i).fr[k]? = some y → ∃ j, js[k]? = some j ∧ X.N[j]? = some y ∧ (X.env.scope.names.lookup y = some .cell ∨ X.env.scope.names.lookup y = some .free)
  len : js.length = (Keys.txt i).fr.length
/-- all cells of the frame -/
def cellL (X : Cx) (h : Heap) : Lent := X.env.cells.filterMap fun p => if X.env.cells.lookup p.1 = some p.2 then (h.get? p.2).map fun o => (p.2, o) else none
section
variable {X : Cx} {W : WX} {pins : List (Addr × Obj)} {σ : L2.St} {ρ : List Sl} {H G : Hp} {s : Shared} {Ad : List Addr} {M M1 : List MO} {cap : Cap}
theorem getS_ok (en : EnvR X.K Ad G σ ρ) : ∀ {js : List Nat} {ss : List Sl}, getS ρ js = some ss → ∃ vs : List V, RpSs X.K Ad G vs ss ∧ vs.length = js.length ∧ ∀ (k j : Nat), js[k]? = some j → ∃ v, vs[k]? = some v ∧ σ[j]? = some (some v)
  | [], ss, h => by cases h; exact ⟨[], .nil, rfl, fun k j e => by simp at e⟩
  | j :: r, ss, h => by
    unfold getS at h
    split at h
    · cases h
    · rename_i t hu ht
      cases hr : getS ρ r with
      | none => rw [hr] at h; cases h
      | some tt =>
        rw [hr] at h
        cases h
        obtain ⟨vs, r1, r2, r3⟩ := getS_ok en hr
        rcases en.at_ j t ht with z | ⟨v, e1, e2⟩
        · exact absurd z hu
        · refine ⟨v :: vs, .cons e2 r1, by simp [r2], fun k i e => ?_⟩
          cases k with
          | zero => simp at e; subst e; exact ⟨v, rfl, e1⟩
          | succ k => simp at e; simpa using r3 k i e
    · cases h
theorem cellL_at (I : Inv X pins σ H s) {x : Str} {c : Addr} (h : X.env.cells.lookup x = some c) : ∃ o, s.heap.get? c = some o ∧ (cellL X s.heap).lookup c = some o := by
  obtain ⟨v, o, ho, _⟩ := I.cell x c h
  refine ⟨o, ho, ?_⟩
  have m : (c, o) ∈ cellL X s.heap := by
    unfold cellL
    rw [List.mem_filterMap]
    exact ⟨(x, c), PySem.mem_of_lookup h, by simp [ho, h]⟩
  cases z : (cellL X s.heap).lookup c with
  | none =>
    rw [List.lookup_eq_none_iff] at z
    have := z _ m
    simp at this
  | some o' =>
    have m2 := mem_lk z
    unfold cellL at m2
    rw [List.mem_filterMap] at m2
    obtain ⟨q, _, e⟩ := m2
    split at e
    case isFalse => cases e
    cases g : s.heap.get? q.2 with
    | none => rw [g] at e; cases e
    | some o2 =>
      rw [g] at e
      cases e
      rw [ho] at g
      exact g ▸ rfl
theorem cellL_in {h : Heap} {b : Addr} {o : Obj} (z : (cellL X h).lookup b = some o) : ∃ x, X.env.cells.lookup x = some b ∧ h.get? b = some o := by
  have m := mem_lk z
  unfold cellL at m
  rw [List.mem_filterMap] at m
  obtain ⟨q, _, e⟩ := m
  split at e
  · rename_i hq
    cases g : h.get? q.2 with
    | none => rw [g] at e; cases e
    | some o2 => rw [g] at e; cases e; exact ⟨q.1, hq, g⟩
  · cases e
theorem cellL_ok (I : Inv X pins σ H s) (hfn : ∀ x c, X.env.cells.lookup x = some c → X.fn x = true) : LentOk (cellL X s.heap) X.base (frs X.stack) s.heap H := ⟨fun b o z => by
  obtain ⟨x, hx, hg⟩ := cellL_in z
  have ge := I.ok.cab x b (hfn x b hx) hx
  refine ⟨hg, I.freeC x b hx, fun hm => ?_, ?_⟩
  · rcases List.mem_cons.mp (I.stkSub _ hm) with e | e
    · exact I.cne x b hx e
    · obtain ⟨_, o', e', _⟩ := I.ok.funs.mem e
      exact absurd (Nat.lt_of_lt_of_le (Heap.lt_size e') ge) (Nat.lt_irrefl _)
  · cases q : X.base.get? b with
    | none => rfl
    | some o' => exact absurd (Nat.lt_of_lt_of_le (Heap.lt_size q) (Nat.le_trans I.ok.bsz ge)) (Nat.lt_irrefl _)⟩
/-- the lookups in a lambda's own cells -/
theorem clo_lk {T : LamT} (S : LamS T) (hh : ∀ y ∈ T.scope.names, y.2 = .free → ∃ c, X.env.cells.lookup y.1 = some c) {y : Str} {c : Addr} (e : (cloFrom X.env.cells T.scope.names []).lookup y = some c) : y ∈ T.fr ∧ X.env.cells.lookup y = some c := by
  rcases cloFrom_mem (PySem.mem_of_lookup e) with hm | ⟨h1, h2⟩
  · cases hm
  · obtain ⟨c1, h3⟩ := hh _ h1 rfl
    have h3 : X.env.cells.lookup y = some c1 := h3
    rw [h3] at h2
    exact ⟨S.mem _ h1 rfl, by rw [h3, h2]; rfl⟩
theorem clo_has {T : LamT} (S : LamS T) (hh : ∀ y ∈ T.scope.names, y.2 = .free → ∃ c, X.env.cells.lookup y.1 = some c) {y : Str} (hy : y ∈ T.fr) : ∃ c, (cloFrom X.env.cells T.scope.names []).lookup y = some c := by
  have hm : (y, NameKind.free) ∈ T.scope.names := PySem.mem_of_lookup (S.cap y hy)
  exact mem_lookup (cloFrom_has (cells := X.env.cells) (acc := []) hm)
theorem cel_g {i : Nat} {js : List Nat} {vs : List V} (C : CapF X i js) (I : Inv X pins σ H s) (hl : ∀ b o, (cellL X s.heap).lookup b = some o → H b = none) (hv : vs.length = js.length) (hat : ∀ (k j : Nat), js[k]? = some j → ∃ v, vs[k]? = some v ∧ σ[j]? = some (some v)) :
    CelG (lendH (cellL X s.heap) G) (Keys.txt i) (cloFrom Keys.cells (Keys.txt i).scope.names []) vs := by
  have S := C.S
  have fr : ∀ y ∈ (Keys.txt i).fr, ∃ c, X.env.cells.lookup y = some c := fun y hy => by
    obtain ⟨k, hk⟩ := List.getElem?_of_mem hy
    obtain ⟨j, _, _, h3⟩ := C.at_ k y hk
    exact I.ok.has y h3
  have hh : ∀ y ∈ (Keys.txt i).scope.names, y.2 = .free → ∃ c, X.env.cells.lookup y.1 = some c := fun y hy e => fr _ (S.mem y hy e)
  rw [C.cl]
  refine ⟨by rw [hv, C.len], fun x y c e1 e2 => I.ok.inj x y c (clo_lk S hh e1).2 (clo_lk S hh e2).2, fun y c e => (clo_lk S hh e).1, fun k y v hk hvk => ?_⟩
  obtain ⟨j, h1, h2, h3⟩ := C.at_ k y hk
  obtain ⟨v', h4, h5⟩ := hat k j h1
  rw [hvk] at h4
  cases h4
  obtain ⟨c, hc⟩ := clo_has S hh (List.mem_of_getElem? hk)
  have hc2 := (clo_lk S hh hc).2
  obtain ⟨m, _, lk⟩ := I.loc
  obtain ⟨u, ru, lo⟩ := lk j y v h2 h5 (h3.elim (fun z => .inr (.inl z)) fun z => .inr (.inr z))
  obtain ⟨o, ho, hL⟩ := cellL_at I hc2
  refine ⟨c, o, u, hc, lend_in hL, ?_, ru⟩
  rcases lo with ⟨z, _⟩ | ⟨_, c', e', o', ho', hd⟩
  · have z : X.env.scope.names.lookup y = some .local := z
    rcases h3 with q | q <;> rw [q] at z <;> cases z
  · rw [hc2] at e'
    cases e'
    rw [ho] at ho'
    cases ho'
    exact hd
end
end R

set_option Elab.async false
set_option linter.all false
set_option maxRecDepth 100000
set_option maxHeartbeats 4000000
namespace R
open PySem PySem.Spec PyProof.Rows L2
variable [Keys]
section
variable {X : Cx} {W : WX} {pins : List (Addr × Obj)} {σ : L2.St} {ρ : List Sl} {H G G1 G2 : Hp} {s : Shared} {Ad : List Addr} {M M1 : List MO} {cap : Cap} {L : Lent}
theorem lend_ex (e : Ex G1 G2) : Ex (lendH L G1) (lendH L G2) := fun a o h => by
  cases z : L.lookup a with
  | none => rw [lend_no z] at h ⊢; exact e a o h
  | some o' => rw [lend_in z] at h ⊢; exact h
def CapT (X : Cx) (cap : Cap) : Prop := ∀ i js, cap i = some js → CapF X i js
theorem clo1_ok (T : CapT X cap) (I : Inv X pins σ H s) (hl : ∀ b o, (cellL X s.heap).lookup b = some o → H b = none) (ms : MS X.K Ad G M H) (en : EnvR X.K Ad G σ ρ) {i : Nat} {v : V} {d : R.D} (r : Rp X.K G v (.lam i)) (h : clo1 cap ρ i M = some (d, M1)) :
    ∃ G', MS X.K Ad G' M1 H ∧ Grow Ad G H Ad G' H ∧ Rp X.K (lendH (cellL X s.heap) G') v d := by
  unfold clo1 at h
  split at h
  · rename_i js hj
    split at h
    · rename_i ss hs
      split at h
      · rename_i ds M2 hf
        split at h
        · cases h
          obtain ⟨vs, r1, r2, r3⟩ := getS_ok en hs
          obtain ⟨G', m', g', rr⟩ := fzL_ok ms r1 hf
          cases r with
          | lam lg =>
            have ex := ex_lend hl m'.le
            exact ⟨G', m', g', Rp.fnc (lg.mono (g'.ex.trans ex)) (cel_g (T i js hj) I hl r2 r3) (Rps.mono ex rr)⟩
        · cases h
      · cases h
    · cases h
  · cases h
theorem cloL_ok (T : CapT X cap) (I : Inv X pins σ H s) (hl : ∀ b o, (cellL X s.heap).lookup b = some o → H b = none) : ∀ {xs : List R.D} {vs : List V} {G : Hp} {M : List MO} {ds : List R.D} {M1 : List MO}, MS X.K Ad G M H → EnvR X.K Ad G σ ρ → Rps X.K G vs xs → cloL cap ρ xs M = some (ds, M1) →
    ∃ G', MS X.K Ad G' M1 H ∧ Grow Ad G H Ad G' H ∧ Rps X.K (lendH (cellL X s.heap) G') vs ds
  | [], _, G, M, ds, M1, ms, en, r, h => by
    cases r
    unfold cloL at h
    cases h
    exact ⟨G, ms, Grow.refl _ _ _, .nil⟩
  | d :: xs, _, G, M, ds, M1, ms, en, .cons r rr, h => by
    cases d with
    | lam i =>
      unfold cloL at h
      split at h
      · rename_i d' M2 h1
        obtain ⟨G', m', g', r'⟩ := clo1_ok T I hl ms en r h1
        cases hx : cloL cap ρ xs M2 with
        | none => rw [hx] at h; cases h
        | some p =>
          rw [hx] at h
          cases h
          obtain ⟨G2, m2, g2, r2⟩ := cloL_ok T I hl m' (en.grow g') (Rps.mono g'.ex rr) hx
          exact ⟨G2, m2, g'.trans g2, .cons (r'.mono (lend_ex g2.ex)) r2⟩
      · cases h
    | _ => unfold cloL at h; cases h
theorem clo_ok (T : CapT X cap) (I : Inv X pins σ H s) (hl : ∀ b o, (cellL X s.heap).lookup b = some o → H b = none) (ms : MS X.K Ad G M H) (en : EnvR X.K Ad G σ ρ) {v : V} {d d' : R.D} (r : Rp X.K G v d) (h : clo cap ρ M d = some (d', M1)) :
    ∃ G', MS X.K Ad G' M1 H ∧ Grow Ad G H Ad G' H ∧ Rp X.K (lendH (cellL X s.heap) G') v d' := by
  cases d with
  | lam i => exact clo1_ok T I hl ms en r h
  | lst xs =>
    have h : (cloL cap ρ xs M).map (fun p => (R.D.lst p.1, p.2)) = some (d', M1) := h
    cases hx : cloL cap ρ xs M with
    | none => rw [hx] at h; cases h
    | some p =>
      rw [hx] at h
      cases h
      cases r with
      | lst ha rr =>
        obtain ⟨G', m', g', r'⟩ := cloL_ok T I hl ms en rr hx
        exact ⟨G', m', g', .lst (ex_lend hl m'.le _ _ (g'.ex _ _ ha)) r'⟩
  | _ => cases h
/-- x(e): lambdas of this frame, handed to a def -/
def clsK (cap : Cap) (ρ : List Sl) (F : Fn) (s : Sl) : Ev Sl := fun M => match fz1 M s with
  | some (d, M1) => match clo cap ρ M1 d with
    | some (d', M2) => (F [.dat d'] M2).bind chkNo
    | none => .bad
  | none => .bad
def eCallC (cap : Cap) (F : Fn) (fa : CE) : CE := fun ρ => (fa ρ).bind (clsK cap ρ F)
theorem se_callC {x : Str} {F : Fn} {k : Nat} {p pos : Pos} {e : Expr} {fa : CE} (C : CalF X.wd k x 1 F) (T : CapT X cap) (hfn : ∀ x c, X.env.cells.lookup x = some c → X.fn x = true) (hr : Room k X.A) (Gx : GFx X x) (h1 : SE X W e fa)
    (he : starEach [e] X.env = (false, eval e X.env) :: starEach [] X.env := by rfl) : SE X W (.Call (.Name x p) [e] [] pos) (eCallC cap F fa) := ⟨fun ρ M Ad Gh σ H Q ms en h => by
  intro pins s I
  obtain ⟨f, fd, ps, FO, hm, hk, hb⟩ := C.ex
  have hw : wE X e σ H fun v H1 => ∃ Ad1 G1 M1 d d' M2, EnvR X.K Ad1 G1 σ ρ ∧ MS X.K Ad1 G1 M1 H1 ∧ Rp X.K G1 v d ∧ clo cap ρ M1 d = some (d', M2) ∧ wp ((F [.dat d'] M2).bind chkNo) (Po X W (RpS X.K) Q σ Ad1 G1 H1) :=
    h1.seq ms en h fun Ad1 G1 M1 H1 v s1 g1 m1 r1 w1 => by
      unfold clsK at w1
      split at w1
      · rename_i d M2 hf
        obtain ⟨G2, m2, g2, r2⟩ := fz1_ok m1 r1 hf
        split at w1
        · rename_i d' M3 hc
          exact ⟨Ad1, G2, M2, d, d', M3, (en.grow g1).grow g2, m2, r2, hc, wp_mono (fun _ => Po.shift g2) w1⟩
        · exact w1.elim
      · exact w1.elim
  refine wpAny_Call_Name_kw (ld_glob I Gx.gl hm ?_ Gx.nd)
  refine PySem.W.callWith_K (h₀ := X.base) I.ok.mod.kin hk ?_ he (by rfl)
  rw [he]
  refine Calls.spliced_cons (thn (hw pins s I) fun u s1 ⟨v, H1, I1, rv, Ad1, G1, M1, d, d', M2, en1, m1, r1, hc, w1⟩ => ?_)
  refine Calls.spliced_nil ⟨I1.kIn, ?_⟩
  have l := cellL_ok I1 hfn
  have hl : ∀ b o, (cellL X s1.heap).lookup b = some o → H1 b = none := fun b o z => (l.at_ b o z).2.1
  obtain ⟨G2, m2, g2, r2⟩ := clo_ok T I1 hl m1 en1 r1 hc
  refine call_lent (us := [u]) (vs := [v]) (ss := [.dat d']) FO hb hr rfl I1 l (.cons rv .nil) m2 (.cons r2 .nil) rfl (wp_bind.mpr (wp_mono (fun r hr => ?_) (wp_bind.mp w1)))
  cases r with
  | ex c fs M3 => exact (show False from hr).elim
  | ok z M3 =>
    have hr : wp (if noS z && M3.all noM then .ret (.ok z M3) else .bad) (Po X W (RpS X.K) Q σ Ad1 G1 H1) := hr
    show wp (if noS z && M3.all noM then .ret (.ok z M3) else .bad) (PoC X.K Q (fun _ _ _ => False) Ad1 G2 H1)
    split at hr
    · rename_i hh
      rw [if_pos hh]
      exact fun Ad' G' H' v g m r => hr Ad' G' H' v (g2.trans g) m r
    · exact hr.elim⟩
end
end R

set_option Elab.async false
set_option linter.all false
set_option maxRecDepth 100000
set_option maxHeartbeats 4000000
namespace R
open PySem PySem.Spec PyProof.Rows L2
/-! ### the frame that makes lambdas -/
@[reducible] def Keys.at (κ : Keys) (cl : List (Str × Addr)) : Keys := { κ with cells := cl }
section
variable {P : Program} {w : World} {K : PySem.W.Frag} {mg : Str → Option Value} {base : Heap} {x qual : Str} {stt : Stmt} {f : Addr} {fd : FuncData} {N ps : List Str} {k : Nat}
theorem body_run [Keys] (m : Bool) {cdv : Value} {A : Around} {outer : List Env} {s : Shared} {H : Hp} {vs : List V} {Q : VK} {E : XK} {sc : Scope} {bd : List Stmt} {fB : CS} (b : SB (bx P w K mg base N qual sc f cdv A outer s H E) (fun cls d _ H => E cls d H) bd fB)
    (h : spF K ps.length (mkFn m ps.length N.length fB) vs H Q E) : wB (bx P w K mg base N qual sc f cdv A outer s H E) bd { nx := fun _ H' => Q .non H', rt := Q } (L2.start N vs) H := by
  obtain ⟨Ad, G, M, ss, ms, r, e, h⟩ := h
  have en := env_start (K := K) (Ad := Ad) (G := G) (N := N) r
  rw [e] at en
  unfold mkFn at h
  rw [if_pos e] at h
  refine b.run _ M Ad G (L2.start N vs) H { nx := fun _ H' => Q .non H', rt := Q } ms en (wp_mono (fun r hr => ?_) (wp_bind.mp h))
  cases r with
  | ex c fs M1 =>
    intro σ' Ad' G' H' d gs g1 m1 e1 r1
    rw [show M.length = Ad.length from ms.len.symm] at hr
    exact cut_ok ms g1 m1 fun Ad2 g2 m2 _ => hr Ad2 G' H' d gs g2 m2 e1 r1
  | ok a M1 =>
    cases a with
    | nx ρ1 =>
      intro Ad' G' H' σ' g1 m1 _
      have hr : PoC K Q E Ad G H (.ok (.dat .non) (cut M.length M1)) := hr
      rw [show M.length = Ad.length from ms.len.symm] at hr
      exact cut_ok ms g1 m1 fun Ad2 g2 m2 _ => hr Ad2 G' H' .non g2 m2 rs_non
    | rt s1 => exact fun Ad' G' H' v g1 m1 r1 => clean_ok ms g1 m1 r1 hr
    | bk ρ1 => exact (show False from hr).elim
    | ct ρ1 => exact (show False from hr).elim
theorem spF_len [Keys] {K : PySem.W.Frag} {np : Nat} {F : Fn} {vs : List V} {H : Hp} {Q : VK} {E : XK} (h : spF K np F vs H Q E) : vs.length = np := by
  obtain ⟨Ad, G, M, ss, _, r, e, _⟩ := h
  rw [r.length, e]
/-- told for every frame -/
def spA (κ : Keys) (K : PySem.W.Frag) (np : Nat) (F : Fn) : Sp := fun vs H Q E => ∀ cl, @spF (κ.at cl) K np F vs H Q E
theorem fn_okC (κ : Keys) (m : Bool) (F : Fun K x qual stt f fd) (S : FnScope N ps (defScope stt)) {fB : CS}
    (body : ∀ cdv A outer s H E, Room k (A.deeper (envOfC qual (defScope stt) s.heap.objs.size f cdv)) →
      @SB (κ.at (envOfC qual (defScope stt) s.heap.objs.size f cdv).cells) (bx P w K mg base N qual (defScope stt) f cdv A outer s H E) (fun cls d _ H => E cls d H) (defBody stt) fB) : FnOk P w K mg base (L2.CX P w) (k + 1) f fd ps (spA κ K ps.length (mkFn m ps.length N.length fB)) := by
  refine F.okX S (fun vs H Q E h => ?_) (fun cdv A outer s H vs Q E hr h => ⟨_, pss_w, ?_⟩)
  · exact @spF_len (κ.at []) _ _ _ _ _ _ _ (h [])
  · exact @body_run P w K mg base qual f N ps (κ.at (envOfC qual (defScope stt) s.heap.objs.size f cdv).cells) m cdv A outer s H vs Q E (defScope stt) (defBody stt) fB (body cdv A outer s H E hr) (h _)
end
end R

set_option Elab.async false
set_option linter.all false
set_option maxRecDepth 100000
set_option maxHeartbeats 4000000
namespace R
open PySem PySem.Spec PyProof.Rows L2
/-! ### the law's end, with the table of its code objects -/
/-- the heap without the table -/
def offT (P : Addr) (H : Hp) : Hp := fun b => if b = P then none else H b
theorem law_spT (κ : Keys) {K : PySem.W.Frag} {F : Fn} {ns : List Int} {H : Hp} {a : Addr} (hT : H (κ.tab 0) = some (.tbl #[])) (hS : SqL K H a (ns.map V.int)) (h : wp (F [.dat (.scr ns)] [.tab 0]) fun r => ∃ M, r = .ok (.dat (.bl true)) M) : spA κ K 1 F [.ref a] H (fun v _ => v = .bl true) fun _ _ _ => False := fun cl => by
  letI : Keys := κ.at cl
  have rd : ∀ {u : HO}, Rd H a u → (∀ ps, u ≠ .tbl ps) → Rd (offT (κ.tab 0) H) a u := fun {u} q n => by
    have key : ∀ {o : HO}, H a = some o → (∀ ps, o ≠ .tbl ps) → offT (κ.tab 0) H a = some o := fun {o} e n => by
      unfold offT
      rw [if_neg (fun z => by rw [z, hT] at e; exact n _ (Option.some.inj e).symm)]
      exact e
    rcases q with q | ⟨o, q⟩
    · exact .inl (key q n)
    · exact .inr ⟨o, key q fun ps z => by cases z⟩
  have hS' : SqL K (offT (κ.tab 0) H) a (ns.map V.int) := by
    rcases hS with q | q
    · exact .inl (rd q fun ps z => by cases z)
    · exact .inr q
  refine ⟨[κ.tab 0], offT (κ.tab 0) H, [.tab 0], [.dat (.scr ns)], ⟨fun b u e => ?_, rfl, by simp, fun j b m e1 e2 => ?_, fun b hb => ?_⟩, .cons (@Rp.scr (κ.at cl) _ _ _ _ hS') .nil, rfl, wp_mono (fun r hr => ?_) h⟩
  · unfold offT at e
    split at e
    · cases e
    · exact .inl e
  · cases j with
    | succ j => simp at e1
    | zero =>
      simp at e1 e2
      subst e1 e2
      refine ⟨fun _ => by unfold offT; rw [if_pos rfl], rfl, #[], hT, True.intro, fun pos cv hc => ?_⟩
      have z : codeAmong pos [] = some cv := hc
      simp [codeAmong] at z
  · have : b = κ.tab 0 := by simpa using hb
    rw [this, hT]; simp
  · obtain ⟨M, rfl⟩ := hr
    exact fun Ad' G' H' v g m r => @rp_bl (κ.at cl) _ _ _ _ _ r
theorem walk_RT {l : PySem.W.OpenLaw} {n k : Nat} {q : Program} {loose : List Str} {XP : (Str → Option Value) → Heap → Prop} {YP : World → Heap → Prop} {d : DefRec} {x : Str}
    (hn : l.most = some n) (hn2 : n ≤ sizeLine) (hdf : d.params.defaults = []) (hr : Room k callerA) (hrec : ((recsOf q).any fun e => e.name == d.name) = true)
    (F : ∀ (w : World) (mg : Str → Option Value) (fa : Addr) (h : Heap), YP w h → h.Ns mainGlobals mg → mg d.name = some (.ref fa) →
      ∃ (K : PySem.W.Frag) (fd : FuncData) (c P : Addr) (oc : Value) (od : Option Addr) (osl : Array (Option Value)) (cc : Value) (cd : Option Addr) (vs : Array Value) (cs : Array (Option Value)) (sp : Sp), K.In h ∧ K.lookup fa = some ⟨oc, od, .func fd, osl⟩ ∧ fd.code = .ref c ∧ K.lookup c = some ⟨cc, cd, .fields vs, cs⟩ ∧ vs[11]? = some (.ref P) ∧ K.lookup P = none ∧
        (∀ (s : Shared) (u : Value), BindsTo s fd ⟨[u], []⟩ [(x, u)]) ∧
        (∀ (H : Hp) (a : Addr) (ns : List Int), ns.length ≤ n → H P = some (.tbl #[]) → SqL K H a (ns.map V.int) → sp [.ref a] H (fun v _ => v = .bl true) fun _ _ _ => False) ∧
        ∀ base : Heap, K.In base → base.Ns mainGlobals mg → LamX.TabB base mg c P → FnOk l.prog w K mg base (L2.CX l.prog w) k fa fd [x] sp) :
    PySem.W.WalkO q loose XP YP l.row.toRowW d [] (fun f vs => PySem.call f vs) := by
  refine Att.attach_callB hn hdf fun w s₀ s₁ mg mb fa o pm cd doc a vs ns G Y ho hd hcd hmg hobj hints hlen hbits hg => ?_
  obtain ⟨K, fd, c, P, oc, od, osl, cc, cdd, cvs, ccs, sp, KX, lk, hc, lkc, hP, nP, hb, hsp, hF⟩ := F w mg fa _ Y G.T.g hmg
  obtain ⟨dL, hm, hn1⟩ := List.any_eq_true.mp hrec
  obtain ⟨a1, o1, fd1, c1, P1, h1, h2, h3, h4, h5, h6⟩ := G.T.tab dL hm
  rw [beq_iff_eq.mp hn1, hmg] at h1
  cases h1
  rw [KX _ _ lk] at h2
  cases h2
  cases h3
  rw [hc] at h4
  cases h4
  have hd := PySem.W.CodeHd.of h5 h6
  obtain ⟨⟨ox, vx, e1, _, e3, e4⟩, hT⟩ := h6
  rw [KX _ _ lkc] at e1
  cases e1
  cases e3
  rw [hP] at e4
  cases e4
  exact LamX.law_callTs (cs := [(c, P)]) KX G.T.g G.T.b G.T.builtins G.T.nolimit hg (fun p hp => by rw [List.mem_singleton.mp hp]; exact hT) (fun p hp => by rw [List.mem_singleton.mp hp]; exact nP) (fun p hp => by rw [List.mem_singleton.mp hp]; exact hd) G.T.bmain hobj hints (Nat.le_trans hlen hn2) hr
    (fun base h1 h2 h3 => hF base h1 h2 (h3 _ (.head _))) hb (fun H hH hS => hsp H a ns hlen (hH _ (.head _)) hS) fun H e s' h => by
      obtain ⟨_, _, _, _, _, _, _, _, _, _, _, _, z⟩ := h
      exact z.elim
end R

set_option Elab.async false
set_option linter.all false
set_option maxRecDepth 100000
set_option maxHeartbeats 4000000
namespace R
open PySem PySem.Spec PyProof.Rows L2
/-! ### the lambdas of a text, by their places -/
def xKids : Expr → List Expr
  | .BoolOp _ vs _ => vs
  | .BinOp a _ b _ => [a, b]
  | .UnaryOp _ a _ => [a]
  | .IfExp t a b _ => [t, a, b]
  | .Compare a _ bs _ => a :: bs
  | .Call f as _ _ => f :: as
  | .Attribute a _ _ => [a]
  | .Subscript a b _ => [a, b]
  | .List es _ => es
  | .Tuple es _ _ => es
  | .Lambda _ b _ _ => [b]
  | .ListComp e _ _ _ => [e]
  | _ => []
def sExps : Stmt → List Expr
  | .Return (some e) _ => [e]
  | .Assign _ e _ => [e]
  | .If t _ _ _ => [t]
  | .For _ i _ _ _ => [i]
  | .While t _ _ _ => [t]
  | .Expr e _ => [e]
  | _ => []
def sSubs : Stmt → List Stmt
  | .If _ a b _ => a ++ b
  | .For _ _ a b _ => a ++ b
  | .While _ a b _ => a ++ b
  | _ => []
def nil0 : Expr := .Constant .none 0 ⟨0, 0, 0, 0⟩
def xAt : List Nat → Expr → Expr
  | [], e => e
  | i :: r, e => xAt r ((xKids e).getD i nil0)
def sAt : List Nat → List Stmt → Stmt
  | [], _ => .Pass ⟨0, 0, 0, 0⟩
  | [i], l => l.getD i (.Pass ⟨0, 0, 0, 0⟩)
  | i :: r, l => sAt r (sSubs (l.getD i (.Pass ⟨0, 0, 0, 0⟩)))
/-- the text at a place -/
def lamT (q : Str) (fr pn loc : List Str) (b : List Stmt) (p1 p2 : List Nat) : LamT := match xAt p2 ((sExps (sAt p1 b)).getD 0 nil0) with
  | .Lambda a e s _ => ⟨q, a, e, s, fr, !pn.isEmpty, pn, loc⟩
  | _ => ⟨q, ⟨[], [], none, [], [], none, []⟩, nil0, default, fr, !pn.isEmpty, pn, loc⟩
end R

set_option Elab.async false
set_option linter.all false
set_option maxRecDepth 100000
set_option maxHeartbeats 4000000
namespace R
open PySem PySem.Spec PyProof.Rows L2
/-! ### own errors as tests of K -/
def excB (K : PySem.W.Frag) (C : Addr) : Bool := match K.lookup C with
  | some ⟨cls, _, .cls cd, sl⟩ => decide (cls = .type "type") && ((match cd.mro with
    | .ref c :: bm => c == C && PySem.HandSPX.refsVE bm
    | _ => false) && (cd.hasDict && (!cd.hasDel && (match sl.toList with
    | [_, _, _, _, s4, _] => decide (s4 = some (.builtin "ValueError.__new__"))
    | _ => false))))
  | _ => false
theorem excB_ok {K : PySem.W.Frag} {C : Addr} (h : excB K C = true) : ∃ nm q N bs bm sn sub ab col dd k0 k1 k2 k3 k5, K.lookup C = some (excClassObj nm q C N bs bm true sn sub ab col dd k0 k1 k2 k3 k5 "ValueError.__new__") ∧ PySem.HandSPX.refsVE bm = true := by
  unfold excB at h
  split at h
  · rename_i cls dd cd sl e
    obtain ⟨nm, bs, mro, N, q, hd, sn, sub, ab, col, hdel⟩ := cd
    simp only [Bool.and_eq_true, decide_eq_true_eq, Bool.not_eq_true'] at h
    obtain ⟨h1, h2, h3, h4, h5⟩ := h
    subst h1 h3 h4
    split at h2
    · rename_i c bm
      simp only [Bool.and_eq_true, beq_iff_eq] at h2
      obtain ⟨rfl, h2⟩ := h2
      split at h5
      · rename_i k0 k1 k2 k3 s4 k5 e5
        have h5 := of_decide_eq_true h5
        subst h5
        have e6 : sl = #[k0, k1, k2, k3, some (.builtin "ValueError.__new__"), k5] := Array.ext' e5
        subst e6
        exact ⟨nm, q, N, bs, bm, sn, sub, ab, col, dd, k0, k1, k2, k3, k5, e, h2⟩
      · cases h5
    · cases h2
  · cases h
def oexB (K : PySem.W.Frag) (C : Addr) : Bool := excB K C && (decide (PySem.W.findIn K (.ref C) "__setattr__" = some (some (.builtin "object.__setattr__"))) && (decide (PySem.W.subIn K (.ref C) (.type "BaseException") = some true) && (decide (PySem.W.typeIn K (.ref C) = some (.type "type")) && PySem.W.keepIn K (.ref C))))
theorem oexB_ok {K : PySem.W.Frag} {C : Addr} (h : oexB K C = true) : OexC K C := by
  unfold oexB at h
  simp only [Bool.and_eq_true, decide_eq_true_eq] at h
  obtain ⟨h1, h2, h3, h4, h5⟩ := h
  exact ⟨excB_ok h1, h2, h3, h4, h5⟩
end R

set_option Elab.async false
set_option linter.all false
set_option maxRecDepth 100000
set_option maxHeartbeats 4000000
namespace R
open PySem PySem.Spec PyProof.Rows L2
/-! ### the __init__ of an own error: where it stands, its text -/
structure ER where
  /-- the class -/
  x : Str
  qual : Str
  st : Stmt
  file : Str
abbrev FnX : Type := Option (Str × Str × Arguments × FuncBody × Scope × Addr × List Str × Value × Addr × Value)
def fnX (K : PySem.W.Frag) (a : Addr) : FnX := match K.lookup a with
  | some ⟨_, _, .func fd, _⟩ => some (fd.name, fd.qualname, fd.params, fd.body, fd.scope, fd.globals, fd.closure.map (·.1), fd.kwdefaults, fd.builtins, fd.defaults)
  | _ => none
def ER.val (d : ER) : FnX := some ("__init__", d.qual, defArgs d.st, .stmts (defBody d.st), defScope d.st, mainGlobals, ["__class__"], .none, builtinsNs, .none)
/-- the code object's file -/
def cfB (K : PySem.W.Frag) (cd : Value) (file0 : Str) : Bool := match cd with
  | .ref c => (match K.lookup c with
    | some ⟨_, _, .fields vs, _⟩ => (match vs.toList with
      | _ :: _ :: .str f _ :: _ => file0 == f
      | _ => false)
    | _ => false)
  | _ => false
/-- the captured class -/
def ccB (K : PySem.W.Frag) (cl : List (Str × Addr)) (C : Addr) : Bool := match cl with
  | [(_, cc)] => (match K.lookup cc with
    | some ⟨_, _, .cell (some (.ref c)), _⟩ => c == C
    | _ => false)
  | _ => false
def ER.ok (K : PySem.W.Frag) (d : ER) : Bool := match K.lookup (mA d.x "__init__" K) with
  | some ⟨_, _, .func fd, _⟩ => PySem.W.codeIn K fd.code d.qual && (cfB K fd.code d.file && (ccB K fd.closure (gA K d.x)))
  | _ => false
theorem cfB_ok {K : PySem.W.Frag} {cd : Value} {file0 : Str} (h : cfB K cd file0 = true) : ∃ c ccl cdd vs ccs file tf, cd = .ref c ∧ K.lookup c = some ⟨ccl, cdd, .fields vs, ccs⟩ ∧ vs[2]? = some (.str file tf) ∧ (file0 == file) = true := by
  unfold cfB at h
  split at h
  · rename_i c
    split at h
    · rename_i ccl cdd vs ccs e
      split at h
      · rename_i v0 v1 f tf r e2
        refine ⟨c, ccl, cdd, vs, ccs, f, tf, rfl, e, ?_, h⟩
        rw [← Array.getElem?_toList, e2]; rfl
      · cases h
    · cases h
  · cases h
theorem ccB_ok {K : PySem.W.Frag} {cl : List (Str × Addr)} {C : Addr} (h : ccB K cl C = true) (hn : cl.map (·.1) = [("__class__" : Str)]) : ∃ cc c1 c2 c3, cl = [(("__class__" : Str), cc)] ∧ K.lookup cc = some ⟨c1, c2, .cell (some (.ref C)), c3⟩ := by
  unfold ccB at h
  split at h
  · rename_i n cc
    split at h
    · rename_i c1 c2 c c3 e
      have h := beq_iff_eq.mp h
      subst h
      have hn : [n] = [("__class__" : Str)] := hn
      cases hn
      exact ⟨cc, c1, c2, c3, rfl, e⟩
    · cases h
  · cases h
theorem ER.fun {K : PySem.W.Frag} {d : ER} (e : fnX K (mA d.x "__init__" K) = d.val) (c : d.ok K = true) : ∃ (fd : FuncData) (oc : Value) (od : Option Addr) (osl : Array (Option Value)) (doc pm : Value) (an : Option Addr) (ct : Value) (cda cc : Addr),
    fd = PySem.W.ksFn "__init__" d.qual (defArgs d.st) (defBody d.st) (defScope d.st) .none .none doc pm an (.ref cda) ct cc ∧ K.lookup (mA d.x "__init__" K) = some ⟨oc, od, .func fd, osl⟩ ∧ PySem.W.codeIn K (.ref cda) d.qual = true ∧
    (∃ (ccl : Value) (cdd : Option Addr) (vs : Array Value) (ccs : Array (Option Value)) (file : Str) (tf : Tok), K.lookup cda = some ⟨ccl, cdd, .fields vs, ccs⟩ ∧ vs[2]? = some (.str file tf) ∧ (d.file == file) = true) ∧
    ∃ (cl : Value) (cld : Option Addr) (csl : Array (Option Value)), K.lookup cc = some ⟨cl, cld, .cell (some (.ref (gA K d.x))), csl⟩ := by
  unfold fnX at e
  unfold ER.ok at c
  cases q : K.lookup (mA d.x "__init__" K) with
  | none => rw [q] at c; cases c
  | some o =>
    obtain ⟨oc, od, dt, osl⟩ := o
    rw [q] at c e
    cases dt with
    | func fd =>
      simp only [Bool.and_eq_true] at c
      obtain ⟨c1, c2, c3⟩ := c
      obtain ⟨n1, n2, n3, n4, n5, n6, n7, n8, n9, n10, n11, n12, n13, n14, n15⟩ := fd
      have e2 : (some (n1, n2, n3, n4, n5, n6, n7.map (·.1), n9, n15, n8) : FnX) = d.val := e
      unfold ER.val at e2
      simp only [Option.some.injEq, Prod.mk.injEq] at e2
      obtain ⟨h1, h2, h3, h4, h5, h6, h7, h8, h9, h10⟩ := e2
      obtain ⟨ca, ccl, cdd, vs, ccs, file, tf, rfl, q2, q3, q4⟩ := cfB_ok c2
      obtain ⟨cc, d1, d2, d3, rfl, q5⟩ := ccB_ok c3 h7
      subst h1 h2 h3 h4 h5 h6 h8 h9 h10
      exact ⟨_, oc, od, osl, n10, n11, n12, _, ca, cc, rfl, rfl, c1, ⟨ccl, cdd, vs, ccs, file, tf, q2, q3, q4⟩, d1, d2, d3, q5⟩
    | _ => cases c
end R

set_option Elab.async false
set_option linter.all false
set_option maxRecDepth 100000
set_option maxHeartbeats 4000000
namespace R
open PySem PySem.Spec PyProof.Rows L2
/-! ### the Hook, with the errors' __init__ -/
abbrev AlE : Type := Bool × List FnV × List FnX
def obsE (fk : List Fk) (fn : List DR) (en : List ER) (K : PySem.W.Frag) : AlE := (((fk.all fun f => f K) && fn.all fun d => d.ok K) && en.all fun d => d.ok K, fn.map fun d => fnV K (d.ad K), en.map fun d => fnX K (mA d.x "__init__" K))
def valE (fn : List DR) (en : List ER) : AlE := (true, fn.map DR.val, en.map ER.val)
def SaysE (fk : List Fk) (fn : List DR) (en : List ER) (K : PySem.W.Frag) : Prop := obsE fk fn en K = valE fn en
def obsEG (n : Nat) (fk : List Fk) (fn : List DR) (en : List ER) (g : Addr → Option Obj) : AlE := obsE fk fn en (He.frG g (cStatics :: He.asD g n))
def hookE (n : Nat) (fk : List Fk) (fn : List DR) (en : List ER) : PySem.W.Hook where
  α := AlE
  obs := fun s => obsEG n fk fn en s.heap.get?
  val := fun _ => valE fn en
  says := fun _ h => ∃ K : PySem.W.Frag, K.In h ∧ SaysE fk fn en K
  of := fun _ _ q => ⟨_, He.frG_in, q⟩
  keeps := fun _ _ _ ⟨K, i, c⟩ k => ⟨K, PySem.W.Frag.In.keeps i k, c⟩
theorem obsEG_eq {n : Nat} {fk : List Fk} {fn : List DR} {en : List ER} {g : Addr → Option Obj} {s : Shared} (h : ∀ a, g a = s.heap.get? a) : obsEG n fk fn en g = (hookE n fk fn en).obs s := by
  have e : g = s.heap.get? := funext h
  rw [e] <;> rfl
theorem SaysE.r {fk : List Fk} {fn : List DR} {en : List ER} {K : PySem.W.Frag} (c : SaysE fk fn en K) : SaysR fk fn K := by
  have c1 := (He.ba (show (((fk.all fun f => f K) && fn.all fun d => d.ok K) && en.all fun d => d.ok K) = true from congrArg (fun z : AlE => z.1) c)).1
  have c2 : fn.map (fun d => fnV K (d.ad K)) = fn.map DR.val := congrArg (fun z : AlE => z.2.1) c
  unfold SaysR obsR valR
  rw [c1, c2]
theorem SaysE.er {fk : List Fk} {fn : List DR} {en : List ER} {K : PySem.W.Frag} (c : SaysE fk fn en K) (i : Nat) {d : ER} (h : en[i]? = some d := by rfl) : fnX K (mA d.x "__init__" K) = d.val ∧ d.ok K = true := by
  have c1 := (He.ba (show (((fk.all fun f => f K) && fn.all fun d => d.ok K) && en.all fun d => d.ok K) = true from congrArg (fun z : AlE => z.1) c)).2
  have c2 : en.map (fun d => fnX K (mA d.x "__init__" K)) = en.map ER.val := congrArg (fun z : AlE => z.2.2) c
  have e2 : (en.map fun d => fnX K (mA d.x "__init__" K))[i]? = (en.map ER.val)[i]? := by rw [c2]
  rw [List.getElem?_map, List.getElem?_map, h] at e2
  exact ⟨Option.some.inj e2, List.all_eq_true.mp c1 d (List.mem_of_getElem? h)⟩
end R

set_option Elab.async false
set_option linter.all false
set_option maxRecDepth 100000
set_option maxHeartbeats 4000000
namespace R
open PySem PySem.Spec PyProof.Rows L2
variable [Keys]
/-! ### raise C(e): its facts out of the tests -/
def exPs : List Stmt → List Pos × Nat
  | [.Expr (.Call (.Attribute (.Call (.Name _ p0) [] [] p1) _ p2) [.Name _ p3] [] p4) p5, .Assign [.Attribute (.Name _ p6) _ p7] (.Constant _ j p8) p9, .Assign [.Attribute (.Name _ p10) _ p11] (.Name _ p12) p13] => ([p0, p1, p2, p3, p4, p5, p6, p7, p8, p9, p10, p11, p12, p13], j)
  | _ => ([], 0)
def exPo (b : List Stmt) (i : Nat) : Pos := (exPs b).1.getD i ⟨0, 0, 0, 0⟩
def kRai (x fld : Str) : Fk := fun K => oexB K (gA K x) && ((match PySem.W.clsIn K (gA K x) with
    | some cd => decide (PySem.W.alongIn K "__init__" ((cd.mro.dropWhile (· != .ref (gA K x))).drop 1) = some (some (.builtin "ValueError.__init__"))) && (cd.hasDict && PySem.HandSPX.refsVE cd.mro)
    | none => false) && (decide (PySem.W.mroIn K (gA K x) (.ref (gA K x)) = some true) && (decide (PySem.W.subIn K (.ref (gA K x)) (.type "ValueError") = some true) && (decide (PySem.W.nsIn K mainGlobals "super" = some none) && (decide (PySem.W.nsIn K cStatics "thirdparty.any" = some none) &&
  (decide (PySem.W.findIn K (.ref (gA K x)) "code" = some none) && (decide (PySem.W.findIn K (.ref (gA K x)) fld = some none) && (decide (PySem.W.findIn K (.ref (gA K x)) "__init__" = some (some (.ref (mA x "__init__" K)))) && decide (PySem.W.typeIn K (.ref (mA x "__init__" K)) = some (.type "function"))))))))))
/-- what its text says -/
structure ExT (st : Stmt) (code fld : Str) (j : Nat) : Prop where
  body : defBody st = exBody code fld (exPo (defBody st)) j
  hp : ((defArgs st).posonlyargs ++ (defArgs st).args).head?.map (·.arg) = some "self"
  hpos : ((exPo (defBody st) 2).endLine == (exPo (defBody st) 4).line) = true
  kind : (defScope st).kind = .function
  co : (defScope st).isCoroutine = false
  gen : (defScope st).isGenerator = false
  nocell : ∀ x ∈ (defScope st).names, x.2 ≠ .cell
  n1 : (defScope st).names.lookup ("super" : Str) = some .globalImplicit
  n2 : (defScope st).names.lookup ("__class__" : Str) = some .free
  n3 : (defScope st).names.lookup ("self" : Str) = some .local
  n4 : (defScope st).names.lookup (fld : Str) = some .local
  ne : fld ≠ "code"
  ne2 : fld ≠ "self"
  dbg : (fld == ("__debug__" : Str)) = false
theorem rai_ok {P : Program} {w : World} {K : PySem.W.Frag} {mg : Str → Option Value} {base : Heap} {x code fld : Str} {c j : Nat} {d : ER} (h : kRai x fld K = true) (e : fnX K (mA d.x "__init__" K) = d.val ∧ d.ok K = true) (hd : d.x = x) (hf : d.file = P.main.file) (hs : (P.main.scope.names.lookup ("super" : Str)).isSome = false)
    (T : ExT d.st code fld j) (hb : ∀ (doc pm : Value) (an : Option Addr) (cdv ct : Value) (cc : Addr) (us : List Value), us.length = 2 → bindArgs (PySem.W.ksFn "__init__" d.qual (defArgs d.st) (defBody d.st) (defScope d.st) .none .none doc pm an cdv ct cc) ⟨us, []⟩ = pure ((["self", fld] : List Str).zip us))
    (hc : cN c = x) (hm : mg x = some (.ref (gA K x))) : RaiF ⟨P, w, K, mg, base⟩ x c code fld := by
  subst hd
  have hC : cA K c = gA K d.x := by unfold cA; rw [show clsNames.getD c Str.empty = d.x from hc]
  unfold kRai at h
  simp only [Bool.and_eq_true, decide_eq_true_eq] at h
  obtain ⟨h1, h2, h3, h4, h5, h6, h7, h8, h9, h10⟩ := h
  obtain ⟨fd, oc, od, osl, doc, pm, an, ct, cda, cc, rfl, lk, hcd, hfile, hcell⟩ := ER.fun e.1 e.2
  have hcls : ∃ cd, PySem.W.clsIn K (gA K d.x) = some cd ∧ PySem.W.alongIn K "__init__" ((cd.mro.dropWhile (· != .ref (gA K d.x))).drop 1) = some (some (.builtin "ValueError.__init__")) ∧ cd.hasDict = true ∧ PySem.HandSPX.refsVE cd.mro = true := by
    split at h2
    · rename_i cd q
      simp only [Bool.and_eq_true, decide_eq_true_eq] at h2
      exact ⟨cd, q, h2⟩
    · cases h2
  have X : ExF K P.main.file (gA K d.x) (mA d.x "__init__" K) "__init__" d.qual (defArgs d.st) (exBody code fld (exPo (defBody d.st)) j) (defScope d.st) (PySem.W.ksFn "__init__" d.qual (defArgs d.st) (defBody d.st) (defScope d.st) .none .none doc pm an (.ref cda) ct cc) :=
    ⟨oexB_ok h1, ⟨oc, od, osl, .none, .none, doc, pm, an, ct, cda, cc, by rw [← T.body], lk, hcd, by rw [← hf]; exact hfile, hcell⟩, hcls, h3, h4, h5, h6⟩
  have Wx : ExW P K (gA K d.x) (defScope d.st) code fld := ⟨T.kind, T.co, T.gen, T.nocell, T.n1, T.n2, T.n3, T.n4, hs, h7, h8, T.ne, T.ne2, T.dbg⟩
  refine ⟨?_, ⟨mA d.x "__init__" K, _, ?_, h10, ?_, .all (hb doc pm an (.ref cda) ct cc)⟩, ?_⟩
  · show OexC K (cA K c)
    rw [hC]; exact oexB_ok h1
  · show PySem.W.findIn K (.ref (cA K c)) "__init__" = _
    rw [hC]; exact h9
  · show FnOk P w K mg base (L2.CX P w) 1 _ _ ["self", fld] (spEx (cA K c) code fld)
    rw [hC]
    exact ex_fn X Wx T.hp T.hpos
  · show mg d.x = some (.ref (cA K c))
    rw [hC]; exact hm
/-! ### the law's own table of code objects -/
def tabC (K : PySem.W.Frag) (f : Addr) : Addr := match K.lookup f with
  | some ⟨_, _, .func fd, _⟩ => (match fd.code with
    | .ref c => c
    | _ => 0)
  | _ => 0
def tabP (K : PySem.W.Frag) (f : Addr) : Addr := match K.lookup (tabC K f) with
  | some ⟨_, _, .fields vs, _⟩ => (match (vs[11]? : Option Value) with
    | some (Value.ref p) => p
    | _ => 0)
  | _ => 0
def kTab (x : Str) : Fk := fun K => (match K.lookup (gA K x) with
  | some ⟨_, _, .func fd, _⟩ => decide (fd.code = .ref (tabC K (gA K x)))
  | _ => false) && ((match K.lookup (tabC K (gA K x)) with
  | some ⟨_, _, .fields vs, _⟩ => decide (vs[11]? = some (.ref (tabP K (gA K x))))
  | _ => false) && (K.lookup (tabP K (gA K x))).isNone)
theorem tab_ok {K : PySem.W.Frag} {x : Str} (h : kTab x K = true) : ∃ (oc : Value) (od : Option Addr) (fd : FuncData) (osl : Array (Option Value)) (cc : Value) (cd : Option Addr) (vs : Array Value) (cs : Array (Option Value)), K.lookup (gA K x) = some ⟨oc, od, .func fd, osl⟩ ∧ fd.code = .ref (tabC K (gA K x)) ∧
    K.lookup (tabC K (gA K x)) = some ⟨cc, cd, .fields vs, cs⟩ ∧ vs[11]? = some (.ref (tabP K (gA K x))) ∧ K.lookup (tabP K (gA K x)) = none := by
  unfold kTab at h
  simp only [Bool.and_eq_true] at h
  obtain ⟨h1, h2, h3⟩ := h
  split at h1
  · rename_i oc od fd osl q1
    split at h2
    · rename_i cc cd vs cs q2
      exact ⟨oc, od, fd, osl, cc, cd, vs, cs, q1, of_decide_eq_true h1, q2, of_decide_eq_true h2, Option.isNone_iff_eq_none.mp h3⟩
    · cases h2
  · cases h1
/-- the tests see all but the tables -/
def noTb (g : Addr → Option Obj) (a : Addr) : Bool := match g a with
  | some o => (match o.data with
    | .fields vs => !vs.isEmpty
    | _ => true)
  | none => true
def obsTG (n : Nat) (fk : List Fk) (fn : List DR) (en : List ER) (g : Addr → Option Obj) : AlE := obsE fk fn en (He.frG g ((cStatics :: He.asD g n).filter (noTb g)))
def hookT (n : Nat) (fk : List Fk) (fn : List DR) (en : List ER) : PySem.W.Hook where
  α := AlE
  obs := fun s => obsTG n fk fn en s.heap.get?
  val := fun _ => valE fn en
  says := fun _ h => ∃ K : PySem.W.Frag, K.In h ∧ SaysE fk fn en K
  of := fun _ _ q => ⟨_, He.frG_in, q⟩
  keeps := fun _ _ _ ⟨K, i, c⟩ k => ⟨K, PySem.W.Frag.In.keeps i k, c⟩
theorem obsTG_eq {n : Nat} {fk : List Fk} {fn : List DR} {en : List ER} {g : Addr → Option Obj} {s : Shared} (h : ∀ a, g a = s.heap.get? a) : obsTG n fk fn en g = (hookT n fk fn en).obs s := by
  have e : g = s.heap.get? := funext h
  rw [e] <;> rfl
/-- the classes that an except catches -/
def kExm (c : Nat) (xs : List Str) (b : Bool) : Fk := fun K => decide (PySem.W.exmAny K (.ref (cA K c)) (xs.map fun x => .ref (gA K x)) = some b)
theorem exm_ok {K : PySem.W.Frag} {c : Nat} {xs : List Str} {b : Bool} (h : kExm c xs b K = true) : PySem.W.exmAny K (.ref (cA K c)) (xs.map fun x => .ref (gA K x)) = some b := of_decide_eq_true h
def kXf (x f : Str) : Fk := fun K => L2.xfB K (gA K x) && decide (PySem.W.findIn K (.ref (gA K x)) f = some none)
theorem xf_ok {K : PySem.W.Frag} {c : Nat} {x f : Str} (h : kXf x f K = true) (hc : cN c = x) : XfF K (cA K c) f := by
  have hC : cA K c = gA K x := by unfold cA; rw [show clsNames.getD c Str.empty = x from hc]
  unfold kXf at h
  rw [Bool.and_eq_true, decide_eq_true_eq] at h
  rw [hC]
  exact ⟨L2.xfB_ok h.1, h.2⟩
end R

set_option Elab.async false
set_option linter.all false
set_option maxRecDepth 100000
set_option maxHeartbeats 4000000
namespace R
open PySem PySem.Spec PyProof.Rows L2
/-! ### contexts, a suite's too -/
structure Cxq (N : List Str) (sc : Scope) (X : Cx) : Prop where
  N : X.N = N
  sc : X.env.scope = sc
section
variable [Keys]
variable {N : List Str} {sc s0 : Scope} {X : Cx}
theorem Cxf.q (h : Cxf N sc s0 X) : Cxq N sc X := ⟨h.N, h.sc⟩
theorem Cxq.v (h : Cxq N sc X) : ∀ (l : List (Str × Nat)), (l.all fun p => vOk N sc p.1 p.2) = true → FV X l
  | [], _ => trivial
  | p :: r, e => by
    rw [List.all_cons, Bool.and_eq_true] at e
    refine ⟨?_, h.v r e.2⟩
    have e := e.1
    unfold vOk at e
    simp only [Bool.and_eq_true, Bool.or_eq_true, decide_eq_true_eq, Bool.not_eq_true'] at e
    exact ⟨by rw [h.N]; exact e.1.1.1, by unfold Vis; rw [h.sc]; exact e.1.1.2, e.1.2, e.2⟩
theorem Cxq.g (h : Cxq N sc X) : ∀ (l : List Str), (l.all fun p => gOk sc p) = true → FG X l
  | [], _ => trivial
  | p :: r, e => by
    rw [List.all_cons, Bool.and_eq_true] at e
    refine ⟨?_, h.g r e.2⟩
    have e := e.1
    unfold gOk at e
    simp only [Bool.and_eq_true, decide_eq_true_eq, Bool.not_eq_true'] at e
    exact ⟨by unfold Gl Env.kindOf; rw [h.sc]; exact e.1, e.2⟩
theorem Cxq.blx {P : Program} {w : World} {K : PySem.W.Frag} {mg : Str → Option Value} {base : Heap} {qual : Str} {f : Addr} {cdv : Value} {A : Around} {outer : List Env} {s : Shared} {H : Hp} {E : XK} : Cxq N sc (blx P w K mg base N qual sc f cdv A outer s H E) := ⟨rfl, rfl⟩
theorem takes_blx {P : Program} {w : World} {K : PySem.W.Frag} {mg : Str → Option Value} {base : Heap} {qual : Str} {f : Addr} {cdv : Value} {A : Around} {outer : List Env} {s : Shared} {H : Hp} {E : XK} : Takes (blx P w K mg base N qual sc f cdv A outer s H E) (fun cls d _ H => E cls d H) := takes_of rfl rfl rfl rfl
theorem huH {k : Nat} {A : Around} (r : L2H.RoomH k A) : A.units + 65 < cLine := by have := r.un; omega
theorem roomH_mark {k : Nat} {A : Around} {a : Option Value} (r : Room k A) : L2H.RoomH k (A.mark a) := ⟨r.dp, r.un⟩
theorem _root_.R.VFx.tr {x : Str} {i : Nat} {pn : List (Addr × Obj)} {xe : Value → Shared → Prop} (h : VFx X x i) : VFx (X.tr pn xe) x i := ⟨h.ix, h.vis, h.nd, h.nc⟩
theorem _root_.R.VFx.su {x : Str} {i : Nat} {pn : List (Addr × Obj)} {a : Addr} (h : VFx X x i) : VFx (X.suite a pn) x i := ⟨h.ix, h.vis, h.nd, h.nc⟩
theorem _root_.R.GFx.tr {x : Str} {pn : List (Addr × Obj)} {xe : Value → Shared → Prop} (h : GFx X x) : GFx (X.tr pn xe) x := ⟨h.gl, h.nd⟩
theorem _root_.R.GFx.su {x : Str} {pn : List (Addr × Obj)} {a : Addr} (h : GFx X x) : GFx (X.suite a pn) x := ⟨h.gl, h.nd⟩
/-- the frame of a def, for a try -/
structure TryX (X : Cx) : Prop where
  ex : X.ex = []
  st : X.stack = X.env :: X.outer
  fr : X.env.frame = some X.env.locals
theorem TryX.bx {P : Program} {w : World} {K : PySem.W.Frag} {mg : Str → Option Value} {base : Heap} {qual : Str} {f : Addr} {cdv : Value} {A : Around} {outer : List Env} {s : Shared} {H : Hp} {E : XK} : TryX (bx P w K mg base N qual sc f cdv A outer s H E) := ⟨rfl, rfl, rfl⟩
theorem kind_ok (h : Cxq N sc X) {x : Str} (e : decide (sc.names.lookup x = some .local) = true) : X.env.kindOf x = some .local := by unfold Env.kindOf; rw [h.sc]; exact of_decide_eq_true e
theorem ix_ok (h : Cxq N sc X) {x : Str} {i : Nat} (e : decide (N[i]? = some x) = true) : X.N[i]? = some x := by rw [h.N]; exact of_decide_eq_true e
theorem nlen_ok (h : Cxq N sc X) {n : Nat} (e : decide (N.length = n) = true) : X.N.length = n := by rw [h.N]; exact of_decide_eq_true e
end
theorem mem_look {β : Type} {c : Nat} {b : β} : ∀ {l : List (Nat × β)}, l.lookup c = some b → (c, b) ∈ l
  | [], h => by cases h
  | (a, x) :: r, h => by
    rw [List.lookup_cons] at h
    cases e : (c == a) with
    | true => rw [e] at h; cases h; rw [eq_of_beq e]; exact .head _
    | false => rw [e] at h; exact .tail _ (mem_look h)
def catO (l : List (Nat × Bool)) (c : Nat) : Option Bool := l.lookup c
def kCat (l : List (Nat × Bool)) (xs : List Str) : Fk := fun K => l.all fun p => kExm p.1 xs p.2 K
theorem cat_ok [Keys] {K : PySem.W.Frag} {l : List (Nat × Bool)} {xs : List Str} (h : kCat l xs K = true) : ∀ c b, catO l c = some b → PySem.W.exmAny K (.ref (cA K c)) (xs.map fun x => .ref (gA K x)) = some b := fun c b e => by
  unfold kCat at h
  rw [List.all_eq_true] at h
  have e : l.lookup c = some b := e
  exact exm_ok (h (c, b) (mem_look e))
/-! ### lambdas as entries of the table -/
def datsL : List Sl → List R.D
  | .dat d :: r => d :: datsL r
  | _ => []
theorem datsL_map (ws : List R.D) : datsL (ws.map .dat) = ws := by
  induction ws with
  | nil => rfl
  | cons d r ih => rw [List.map_cons, datsL, ih]
def lamFnS (T : LamT) (b : CE) : Fn := fun ss => mkLam T b (datsL ss)
/-- the lambda i, out of the table C from the entry n on, m of them -/
def lamTb (C : Nat → Fn) (n m : Nat) : LTb := fun i => if i < m then some fun ws => C (n + i) (ws.map .dat) else none
section
variable [Keys] {P : Program} {w : World} {K : PySem.W.Frag} {mg : Str → Option Value} {base : Heap} {k : Nat}
theorem lam_bad {Dw : Wd} {i : Nat} : LamFn Dw k i fun _ => bad := ⟨fun _ _ _ _ _ _ _ _ _ _ _ _ _ _ _ _ _ _ _ _ _ h => h.elim⟩
theorem lam_tbl {Dw : Wd} {C : Nat → Fn} {n m : Nat} (h : ∀ i, i < m → LamFn Dw k i fun ws => C (n + i) (ws.map .dat)) : LamTb Dw k (lamTb C n m) := fun i F e => by
  unfold lamTb at e
  split at e
  · cases e; exact h i ‹_›
  · cases e
theorem lam_ent {Dw : Wd} {i : Nat} {T : LamT} {b : CE} {F : Fn} (h : LamFn Dw k i (mkLam T b)) (e : F = lamFnS T b) : LamFn Dw k i fun ws => F (ws.map .dat) := by
  subst e
  have : (fun ws : List R.D => lamFnS T b (ws.map .dat)) = mkLam T b := by
    funext ws
    unfold lamFnS
    rw [datsL_map]
  rw [this]; exact h
end
theorem fnL_bad [Keys] {P : Program} {w : World} {K : PySem.W.Frag} {mg : Str → Option Value} {base : Heap} {CX : CXT} {k : Nat} {f : Addr} {fd : FuncData} {ps : List Str} {n : Nat} : FnL P w K mg base CX k f fd ps (spF K n fun _ => bad) :=
  ⟨fun _ _ _ _ ⟨_, _, _, _, _, _, _, h⟩ => h.elim, fun _ _ _ _ _ _ _ _ _ _ _ _ _ ⟨_, _, _, _, _, _, _, h⟩ => h.elim⟩
/-! ### the law's frame, which makes lambdas -/
section
variable [Keys]
structure LawH (q : Str) (sc : Scope) (X : Cx) : Prop where
  cl : Keys.cells = X.env.cells
  mkr : MakrF X 0
  qu : X.env.qual = q
  tq : Keys.tq 0 = q ++ ("<lambda>" : Str)
  fn : ∀ x c, X.env.cells.lookup x = some c → X.fn x = true
  scp : X.env.scope = sc
  has : ∀ x, sc.names.lookup x = some .cell → ∃ c, X.env.cells.lookup x = some c
variable {X : Cx} {q : Str} {sc : Scope} {N : List Str} {txt : Nat → LamT}
theorem lamF_of {i : Nat} {T : LamT} (H : LawH q sc X) (hkt : Keys.txt = txt) (hi : txt i = T) (hq : T.qual = q ++ ("<lambda>" : Str)) (hfree : (T.scope.names.all fun y => !decide (y.2 = .free) || decide (sc.names.lookup y.1 = some .cell)) = true) : LamF X 0 i T.params T.body T.scope := by
  have e : Keys.txt i = T := by rw [hkt]; exact hi
  refine ⟨by rw [e, hq, H.qu], by rw [H.tq, H.qu], by rw [e], by rw [e], by rw [e], H.cl, fun y hy hf => ?_⟩
  rw [List.all_eq_true] at hfree
  have := hfree y hy
  simp only [Bool.or_eq_true, Bool.not_eq_true', decide_eq_false_iff_not, decide_eq_true_eq] at this
  rcases this with z | z
  · exact absurd hf z
  · exact H.has _ z
def capB (N : List Str) (sc : Scope) (T : LamT) (js : List Nat) : Bool := lamSB T && (decide (js.length = T.fr.length) && (T.fr.zip js).all fun p => decide (N[p.2]? = some p.1) && decide (sc.names.lookup p.1 = some .cell))
theorem capF_of {i : Nat} {js : List Nat} (h : Cxq N sc X) (H : LawH q sc X) (e : capB N sc (Keys.txt i) js = true) : CapF X i js := by
  unfold capB at e
  simp only [Bool.and_eq_true, decide_eq_true_eq, List.all_eq_true] at e
  obtain ⟨e1, e2, e3⟩ := e
  refine ⟨lamS_of e1, H.cl, fun k y hk => ?_, e2⟩
  have hl : k < js.length := by rw [e2]; exact (List.getElem?_eq_some_iff.mp hk).1
  have hj : js[k]? = some js[k] := List.getElem?_eq_getElem hl
  have hz : ((Keys.txt i).fr.zip js)[k]? = some (y, js[k]) := by
    rw [List.getElem?_zip_eq_some]
    exact ⟨hk, hj⟩
  have := e3 _ (List.mem_of_getElem? hz)
  exact ⟨_, hj, by rw [h.N]; exact this.1, by rw [h.sc]; exact .inl this.2⟩
def capO (l : List (List Nat)) : Cap := fun i => l[i]?
theorem capT_of {l : List (List Nat)} (h : Cxq N sc X) (H : LawH q sc X) (hkt : Keys.txt = txt) (e : ((List.range l.length).all fun i => capB N sc (txt i) (l.getD i [])) = true) : CapT X (capO l) := fun i js hi => by
  unfold capO at hi
  have hl := (List.getElem?_eq_some_iff.mp hi).1
  rw [List.all_eq_true] at e
  have := e i (List.mem_range.mpr hl)
  rw [List.getD_eq_getElem?_getD, hi] at this
  exact capF_of h H (by rw [hkt]; exact this)
end
section
variable {P : Program} {w : World} {K : PySem.W.Frag} {mg : Str → Option Value} {base : Heap} {x qual : Str} {stt : Stmt} {f : Addr} {fd : FuncData} {N ps : List Str} {k : Nat}
theorem fn_okK (κ : Keys) (m : Bool) {c : Addr} (F : Fun K x qual stt f fd) (hc : fd.code = .ref c) (S : FnScope N ps (defScope stt)) {fB : CS}
    (body : ∀ A outer s H E, Room k (A.deeper (envOfC qual (defScope stt) s.heap.objs.size f (.ref c))) →
      @SB (κ.at (envOfC qual (defScope stt) s.heap.objs.size f (.ref c)).cells) (bx P w K mg base N qual (defScope stt) f (.ref c) A outer s H E) (fun cls d _ H => E cls d H) (defBody stt) fB) : FnOk P w K mg base (L2.CX P w) (k + 1) f fd ps (spA κ K ps.length (mkFn m ps.length N.length fB)) := by
  obtain ⟨oc, od, kV, doc, pm, an, cdv, ct, osl, rfl, lk, hcd⟩ := F.ex
  have hc : cdv = .ref c := hc
  subst hc
  refine fn_of lk hcd S (fun vs H Q E h => ?_) (fun A outer s H vs Q E hr h => ⟨_, pss_w, ?_⟩)
  · exact @spF_len (κ.at []) _ _ _ _ _ _ _ (h [])
  · exact @body_run P w K mg base qual f N ps (κ.at (envOfC qual (defScope stt) s.heap.objs.size f (.ref c)).cells) m (.ref c) A outer s H vs Q E (defScope stt) (defBody stt) fB (body A outer s H E hr) (h _)
theorem lawH_bx (κ : Keys) {q : Str} {sc : Scope} {c : Addr} {A : Around} {outer : List Env} {s : Shared} {H : Hp} {E : XK} (tb : LamX.TabB base mg c (κ.tab 0)) (hq : (envOfC qual sc s.heap.objs.size f (.ref c)).qual = q) (htq : κ.tq 0 = q ++ ("<lambda>" : Str)) :
    @LawH (κ.at (envOfC qual sc s.heap.objs.size f (.ref c)).cells) q sc (bx P w K mg base N qual sc f (.ref c) A outer s H E) :=
  letI : Keys := κ.at (envOfC qual sc s.heap.objs.size f (.ref c)).cells
  ⟨rfl, ⟨c, rfl, tb⟩, hq, htq, fun _ _ _ => rfl, rfl, fun x h => cell_has h⟩
end
end R

set_option Elab.async false
set_option linter.all false
set_option maxRecDepth 100000
set_option maxHeartbeats 4000000
namespace R
open PySem PySem.Spec PyProof.Rows L2
variable [Keys]
/-! ### calls with keywords, in any order -/
def permL {α : Type} (pm : List Nat) (xs : List α) : List α := pm.filterMap fun i => xs[i]?
theorem vals_at {zs : List V} {ws : List Value} (h : Vals zs ws) : ∀ i : Nat, (zs[i]? = none ∧ ws[i]? = none) ∨ ∃ z w, zs[i]? = some z ∧ ws[i]? = some w ∧ RelV z w := by
  induction h with
  | nil => exact fun i => .inl ⟨rfl, rfl⟩
  | @cons z w zs ws r _ ih => exact fun i => match i with
    | 0 => .inr ⟨z, w, rfl, rfl, r⟩
    | i + 1 => ih i
theorem vals_perm {zs : List V} {ws : List Value} (h : Vals zs ws) : ∀ pm : List Nat, Vals (permL pm zs) (permL pm ws)
  | [] => .nil
  | i :: r => by
    unfold permL
    rw [List.filterMap_cons, List.filterMap_cons]
    rcases vals_at h i with ⟨e1, e2⟩ | ⟨z, w, e1, e2, q⟩
    · rw [e1, e2]; exact vals_perm h r
    · rw [e1, e2]; exact .cons q (vals_perm h r)
theorem rps_at {K : PySem.W.Frag} {Ad : List Addr} {G : Hp} {zs : List V} {ss : List Sl} (h : RpSs K Ad G zs ss) : ∀ i : Nat, (zs[i]? = none ∧ ss[i]? = none) ∨ ∃ z w, zs[i]? = some z ∧ ss[i]? = some w ∧ RpS K Ad G z w := by
  induction h with
  | nil => exact fun i => .inl ⟨rfl, rfl⟩
  | @cons z w zs ws r _ ih => exact fun i => match i with
    | 0 => .inr ⟨z, w, rfl, rfl, r⟩
    | i + 1 => ih i
theorem rps_perm {K : PySem.W.Frag} {Ad : List Addr} {G : Hp} {zs : List V} {ss : List Sl} (h : RpSs K Ad G zs ss) : ∀ pm : List Nat, RpSs K Ad G (permL pm zs) (permL pm ss)
  | [] => .nil
  | i :: r => by
    unfold permL
    rw [List.filterMap_cons, List.filterMap_cons]
    rcases rps_at h i with ⟨e1, e2⟩ | ⟨z, w, e1, e2, q⟩
    · rw [e1, e2]; exact rps_perm h r
    · rw [e1, e2]; exact .cons q (rps_perm h r)
theorem fun_kbnP {K : PySem.W.Frag} {x qual : Str} {st : Stmt} {f : Addr} {fd : FuncData} {ps ks : List Str} {n : Nat} {pm : List Nat} (F : Fun K x qual st f fd)
    (h : ∀ (kV doc pv : Value) (an : Option Addr) (cdv ct : Value) (us ws : List Value), us.length = n → ws.length = ks.length → bindArgs (PySem.W.fnOf x qual (defArgs st) (defBody st) (defScope st) .none kV doc pv an cdv ct) ⟨us, ks.zip ws⟩ = pure (ps.zip (us ++ permL pm ws))) : KBn K fd ps n ks (fun us ws => us ++ permL pm ws) (fun us ws => us ++ permL pm ws) := by
  obtain ⟨oc, od, kV, doc, pv, an, cdv, ct, osl, rfl, lk, hcd⟩ := F.ex
  exact ⟨fun s us ws X l1 l2 => .of_eq (h kV doc pv an cdv ct us ws l1 l2), fun r1 r2 => r1.append (vals_perm r2 pm)⟩
/-- x(e, .., k = v, ..) -/
structure CalK (D : Wd) (k : Nat) (x : Str) (n : Nat) (ks : List Str) (pm : List Nat) (np : Nat) (F : Fn) : Prop where
  ex : ∃ f fd ps, FnOk D.prog D.w D.K D.mg D.base (L2.CX D.prog D.w) k f fd ps (spF D.K np F) ∧ D.mg x = some (.ref f) ∧ PySem.W.keepIn D.K (.ref f) = true ∧ KBn D.K fd ps n ks (fun us ws => us ++ permL pm ws) (fun us ws => us ++ permL pm ws)
  len : ∀ {ss M Q}, wp (F ss M) Q → ss.length = np
def eCallK (F : Fn) (pm : List Nat) (fs fk : CA) : CE := fun ρ => (fs ρ).bind fun ss => (fk ρ).bind fun zs M => if zs.length = pm.length then F (ss ++ permL pm zs) M else .bad
section
variable {X : Cx} {W : WX} {e : Expr} {es : List Expr} {kws : List Keyword} {x : Str} {fs fk : CA} {F : Fn} {k n np c : Nat} {p pos : Pos} {pm : List Nat} {ks : List Str}
theorem run_fnKS {g : List Value → List Value → List Value} {gV : List V → List V → List V} {f : Addr} {fd : FuncData} {ps : List Str} {sp : Sp} {pins : List (Addr × Obj)} {σ : L2.St} {H : Hp} {s : Shared} {Q : VK} {us ws : List Value} {vs zs : List V} (FO : FnOk X.prog X.w X.K X.mg X.base (L2.CX X.prog X.w) k f fd ps sp) (hr : Room k X.A) (hb : KBn X.K fd ps n ks g gV) (tk : Takes X W)
    (I : Inv X pins σ H s) (r : Vals vs us) (rz : Vals zs ws) (l1 : vs.length = n) (l2 : zs.length = ks.length) (h : sp (gV vs zs) H Q (WE W σ)) : wpAny (model X.prog X.w) X.A (call (.ref f) us (ks.zip ws)) (EP X pins σ Q) X.xe s := by
  have r2 := hb.rel r rz
  refine wpAny_call (codeAny_mono (FO.run X.A X.stack s H ⟨us, ks.zip ws⟩ (g us ws) (gV vs zs) Q (WE W σ) hr I.env0 (hb.to s us ws I.kIn (r.length.symm.trans l1) (rz.length.symm.trans l2)) r2 h) fun r s' hq => ?_)
  cases r with
  | error e => exact passAt tk σ pins H s e s' I hq
  | ok fl =>
    cases fl with
    | ret u => exact I.after hq
    | next => exact False.elim hq
    | brk => exact False.elim hq
    | cont => exact False.elim hq
theorem spf_of {K : PySem.W.Frag} {σ : L2.St} {Ad : List Addr} {G H : Hp} {M : List MO} {vs : List V} {ss : List Sl} {Q : VK} (hK : X.K = K) (m : MS X.K Ad G M H) (r : RpSs X.K Ad G vs ss) (hl : ss.length = np) (w : wp (F ss M) (Po X W (RpS X.K) Q σ Ad G H)) : spF K np F vs H Q (WE W σ) := by
  subst hK
  exact ⟨Ad, G, M, ss, m, r, hl, wp_mono (fun r hr => by
    cases r with
    | ok s M2 => exact hr
    | ex c fs M2 => exact hr) w⟩
theorem perm_len {α : Type} {pm : List Nat} {xs : List α} (h : ∀ i ∈ pm, i < xs.length) : (permL pm xs).length = pm.length := by
  induction pm with
  | nil => rfl
  | cons i r ih =>
    unfold permL
    rw [List.filterMap_cons]
    have hi := h i List.mem_cons_self
    rw [List.getElem?_eq_getElem hi]
    simp only [List.length_cons]
    congr 1
    exact ih fun j hj => h j (List.mem_cons_of_mem _ hj)
theorem se_callKn (C : CalK X.wd k x n ks pm np F) (hn : (e :: es).length = n) (hr : Room k X.A) (G : GFx X x) (tk : Takes X W) (h1 : SA X W (e :: es) fs) (h2 : SK X W kws fk) (hpm : pm.length = ks.length) (hnp : np = n + ks.length) (hin : ∀ i ∈ pm, i < ks.length)
    (hall : (backToKw pos (keywordEach kws X.env)).all (·.1.isSome) = true := by rfl) (hks : (backToKw pos (keywordEach kws X.env)).filterMap (·.1) = ks := by rfl)
    (he : starEach (e :: es) X.env = (false, eval e X.env) :: starEach es X.env := by rfl)
    (hpl : ((backTo pos (starEach (e :: es) X.env)).any (·.1) || (backToKw pos (keywordEach kws X.env)).any (·.1.isNone)) = false := by rfl) : SE X W (.Call (.Name x p) (e :: es) kws pos) (eCallK F pm fs fk) := ⟨fun ρ M Ad Gh σ H Q ms en h => by
  obtain ⟨f, fd, ps, FO, hm, hk, hb⟩ := C.ex
  intro pins s I
  have hargs := h1.seq ms en h (Q' := fun vs H1 => ∃ Ad1 G1 M1 ss, Grow Ad Gh H Ad1 G1 H1 ∧ MS X.K Ad1 G1 M1 H1 ∧ RpSs X.K Ad1 G1 vs ss ∧ wp (Ev.bind (fk ρ) (fun zs M => if zs.length = pm.length then F (ss ++ permL pm zs) M else .bad) M1) (Po X W (RpS X.K) Q σ Ad1 G1 H1)) fun Ad1 G1 M1 H1 vs ss g1 m1 r1 w1 => ⟨Ad1, G1, M1, ss, g1, m1, r1, w1⟩
  refine wpAny_Call_Name_kw (ld_glob I G.gl hm ?_ G.nd)
  refine PySem.W.callWith_KW (h₀ := X.base) I.ok.mod.kin hk hall (thn (hargs pos pins s I) fun us s1 ⟨vs, H1, I1, r, Ad1, G1, M1, ss, g1, m1, r1, w1⟩ => ?_) hpl he
  have hkw := h2.seq m1 (en.grow g1) w1 (Q' := fun zs H2 => ∃ Ad2 G2 M2 ts, Grow Ad1 G1 H1 Ad2 G2 H2 ∧ MS X.K Ad2 G2 M2 H2 ∧ RpSs X.K Ad2 G2 zs ts ∧ ts.length = pm.length ∧ wp (F (ss ++ permL pm ts) M2) (Po X W (RpS X.K) Q σ Ad2 G2 H2)) fun Ad2 G2 M2 H2 zs ts g2 m2 r2 w2 => by
    by_cases hz : ts.length = pm.length
    · rw [if_pos hz] at w2; exact ⟨Ad2, G2, M2, ts, g2, m2, r2, hz, w2⟩
    · rw [if_neg hz] at w2; exact w2.elim
  refine thn (hkw pos pins s1 I1) fun ws s2 ⟨zs, H2, I2, rz, Ad2, G2, M2, ts, g2, m2, r2, hz, w2⟩ => ⟨I2.kIn, ?_⟩
  rw [hks]
  have lz : zs.length = ks.length := by rw [r2.length, hz, hpm]
  have hlen := C.len w2
  have lss : ss.length = n := by
    rw [List.length_append, perm_len (fun i hi => by rw [hz, hpm]; exact hin i hi)] at hlen
    omega
  exact run_fnKS FO hr hb tk I2 r rz (by rw [r1.length]; exact lss) lz (spf_of rfl m2 ((r1.grow g2).append (rps_perm r2 pm)) hlen w2)⟩
theorem se_callK0 (C : CalK X.wd k x 0 ks pm np F) (hr : Room k X.A) (G : GFx X x) (tk : Takes X W) (h2 : SK X W kws fk) (hpm : pm.length = ks.length)
    (hall : (backToKw pos (keywordEach kws X.env)).all (·.1.isSome) = true := by rfl) (hks : (backToKw pos (keywordEach kws X.env)).filterMap (·.1) = ks := by rfl)
    (hpl : ((backTo pos (starEach [] X.env)).any (·.1) || (backToKw pos (keywordEach kws X.env)).any (·.1.isNone)) = false := by rfl) : SE X W (.Call (.Name x p) [] kws pos) (eCallK F pm eNil fk) := ⟨fun ρ M Ad Gh σ H Q ms en h => by
  obtain ⟨f, fd, ps, FO, hm, hk, hb⟩ := C.ex
  intro pins s I
  have w1 : wp (Ev.bind (fk ρ) (fun zs M => if zs.length = pm.length then F ([] ++ permL pm zs) M else .bad) M) (Po X W (RpS X.K) Q σ Ad Gh H) := h
  refine wpAny_Call_Name_kw (ld_glob I G.gl hm ?_ G.nd)
  refine PySem.W.callWith_KW0 (h₀ := X.base) I.ok.mod.kin hk hall ?_ hpl
  have hkw := h2.seq ms en w1 (Q' := fun zs H2 => ∃ Ad2 G2 M2 ts, Grow Ad Gh H Ad2 G2 H2 ∧ MS X.K Ad2 G2 M2 H2 ∧ RpSs X.K Ad2 G2 zs ts ∧ ts.length = pm.length ∧ wp (F ([] ++ permL pm ts) M2) (Po X W (RpS X.K) Q σ Ad2 G2 H2)) fun Ad2 G2 M2 H2 zs ts g2 m2 r2 w2 => by
    by_cases hz : ts.length = pm.length
    · rw [if_pos hz] at w2; exact ⟨Ad2, G2, M2, ts, g2, m2, r2, hz, w2⟩
    · rw [if_neg hz] at w2; exact w2.elim
  refine thn (hkw pos pins s I) fun ws s2 ⟨zs, H2, I2, rz, Ad2, G2, M2, ts, g2, m2, r2, hz, w2⟩ => ⟨I2.kIn, ?_⟩
  rw [hks]
  exact run_fnKS FO hr hb tk I2 .nil rz rfl (by rw [r2.length, hz, hpm]) (spf_of rfl m2 (rps_perm r2 pm) (C.len w2) w2)⟩
/-- C(k = v, ..) -/
structure MakKP (D : Wd) (k : Nat) (x : Str) (c : Nat) (ks : List Str) (pm : List Nat) (np : Nat) (F : Fn) : Prop where
  ex : ∃ f fd ps, FnOk D.prog D.w D.K D.mg D.base (L2.CX D.prog D.w) k f fd ps (spF D.K np F) ∧ Mk D.K (cA D.K c) f ∧ D.mg x = some (.ref (cA D.K c)) ∧ KBn D.K fd ps 1 ks (fun us ws => us ++ permL pm ws) (fun us ws => us ++ permL pm ws)
  len : ∀ {ss M Q}, wp (F ss M) Q → ss.length = np
def eMakeKP (fz : Bool) (c : Nat) (F : Fn) (pm : List Nat) (fk : CA) : CE := fun ρ => (fk ρ).bind fun zs M => if zs.length = pm.length then (F (.mu M.length :: permL pm zs) (M ++ [.ins c []])).bind (mkK fz M.length) else .bad
theorem run_makeKS {g : List Value → List Value → List Value} {gV : List V → List V → List V} {f C : Addr} {fd : FuncData} {ps : List Str} {sp : Sp} {pins : List (Addr × Obj)} {σ : L2.St} {H : Hp} {s : Shared} {Q : VK} {ws : List Value} {zs : List V} (Mm : Mk X.K C f) (FO : FnOk X.prog X.w X.K X.mg X.base (L2.CX X.prog X.w) k f fd ps sp) (hr : Room (k + 1) X.A) (hb : KBn X.K fd ps 1 ks g gV) (tk : Takes X W)
    (I : Inv X pins σ H s) (rz : Vals zs ws) (l2 : zs.length = ks.length)
    (h : ∀ x dx, H x = none → H dx = none → dx ≠ x → sp (gV [.ref x] zs) (upd (upd H dx (.own x)) x (.ins C dx [])) (fun v H2 => v = .non ∧ Q (.ref x) H2) (WE W σ)) :
    wpAny (model X.prog X.w) X.A (call (.ref C) [] (ks.zip ws)) (EP X pins σ Q) X.xe s := by
  have hq := h (s.heap.objs.size + 1) s.heap.objs.size (I.hok.fresh (Nat.le_succ _)) (I.hok.fresh (Nat.le_refl _)) (Nat.ne_of_lt (Nat.lt_succ_self _))
  have I2 := Inv.made (C := C) I
  have r1 : Vals [V.ref (s.heap.objs.size + 1)] [Value.ref (s.heap.objs.size + 1)] := .cons rfl .nil
  have r2 := hb.rel r1 rz
  refine wpAny_call (make_map (f := f) I.kIn Mm.makes Mm.init (beq_iff_eq.mp Mm.fn) (codeAny_mono (FO.run _ X.stack _ _ ⟨[Value.ref (s.heap.objs.size + 1)], ks.zip ws⟩ (g [Value.ref (s.heap.objs.size + 1)] ws) _ _ (WE W σ) (hr.make C [] (ks.zip ws))
    (I2.env0.make C [] (ks.zip ws)) (hb.to _ [Value.ref (s.heap.objs.size + 1)] ws I2.kIn rfl (rz.length.symm.trans l2)) r2 hq) fun r s' hq' => ?_))
  cases r with
  | error e => exact passAt tk σ pins _ _ e s' I2 hq'
  | ok fl =>
    cases fl with
    | ret u =>
      obtain ⟨v, H', I3, rv, ev, q3⟩ := I2.after hq'
      subst ev
      exact ⟨rv, ⟨V.ref (s.heap.objs.size + 1), H', I3, rfl, q3⟩⟩
    | next => exact False.elim hq'
    | brk => exact False.elim hq'
    | cont => exact False.elim hq'
theorem se_makeKP (fz : Bool) (C : MakKP X.wd k x c ks pm np F) (hr : Room (k + 1) X.A) (G : GFx X x) (tk : Takes X W) (h1 : SK X W kws fk) (hpm : pm.length = ks.length)
    (hall : (backToKw pos (keywordEach kws X.env)).all (·.1.isSome) = true := by rfl) (hks : (backToKw pos (keywordEach kws X.env)).filterMap (·.1) = ks := by rfl)
    (hpl : ((backTo pos (starEach [] X.env)).any (·.1) || (backToKw pos (keywordEach kws X.env)).any (·.1.isNone)) = false := by rfl) : SE X W (.Call (.Name x p) [] kws pos) (eMakeKP fz c F pm fk) := ⟨fun ρ M Ad Gh σ H Q ms en h => by
  obtain ⟨f, fd, ps, FO, MK, hm, hb⟩ := C.ex
  intro pins s I
  refine wpAny_Call_Name_kw (ld_glob I G.gl hm ?_ G.nd)
  refine PySem.W.callWith_KW0 (h₀ := X.base) I.ok.mod.kin MK.kp hall ?_ hpl
  have hkw := h1.seq ms en h (Q' := fun zs H2 => ∃ Ad2 G2 M2 ts, Grow Ad Gh H Ad2 G2 H2 ∧ MS X.K Ad2 G2 M2 H2 ∧ RpSs X.K Ad2 G2 zs ts ∧ ts.length = pm.length ∧ wp ((F (.mu M2.length :: permL pm ts) (M2 ++ [.ins c []])).bind (mkK fz M2.length)) (Po X W (RpS X.K) Q σ Ad2 G2 H2)) fun Ad2 G2 M2 H2 zs ts g2 m2 r2 w2 => by
    by_cases hz : ts.length = pm.length
    · rw [if_pos hz] at w2; exact ⟨Ad2, G2, M2, ts, g2, m2, r2, hz, w2⟩
    · rw [if_neg hz] at w2; exact w2.elim
  refine thn (hkw pos pins s I) fun ws s2 ⟨zs, H1, I2, rz, Ad1, G1, M1, ss, g1, m1, r1, hz, w1⟩ => ⟨I2.kIn, ?_⟩
  rw [hks]
  refine run_makeKS MK FO hr hb tk I2 rz (by rw [r1.length, hz, hpm]) fun y dx hy hd hne => ?_
  obtain ⟨m2, g2⟩ := ms_made (c := c) m1 hy hd hne
  have w2 := wp_bind.mp w1
  refine ⟨Ad1 ++ [y], G1, M1 ++ [.ins c []], .mu M1.length :: permL pm ss, m2, .cons (rs_mu (by rw [← m1.len, List.getElem?_append_right (Nat.le_refl _), Nat.sub_self]; rfl)) (rps_perm (r1.grow g2) pm), C.len w2, wp_mono (fun rr hr => ?_) w2⟩
  cases rr with
  | ex c' fs' M3 =>
    intro Ad3 G3 H3 d gs g3 m3 e3 r3
    have hr : PX X W σ Ad1 G1 H1 c' fs' (cut M1.length M3) := hr
    rw [show M1.length = Ad1.length from m1.len.symm] at hr
    exact cut_ok m1 (g2.trans g3) m3 fun Ad4 g4 m4 _ => hr Ad4 G3 H3 d gs g4 m4 e3 r3
  | ok s3 M3 =>
    intro Ad3 G3 H3 v g3 m3 r3
    unfold mkK at hr
    split at hr
    · rename_i M4 _
      rename_i e4
      cases e4
      refine ⟨rp_non r3, ?_⟩
      have ry : RpS X.K Ad3 G3 (.ref y) (.mu M1.length) := rs_mu (g3.get (by rw [← m1.len, List.getElem?_append_right (Nat.le_refl _), Nat.sub_self]; rfl))
      split at hr
      · split at hr
        · rename_i d M5 hf
          obtain ⟨G5, m5, g5, r5⟩ := fz1_ok m3 ry hf
          have hr : wp (.ret (.ok (.dat d) (cut M1.length M5)) : T (Re Sl)) (Po X W (RpS X.K) Q σ Ad1 G1 H1) := hr
          rw [show M1.length = Ad1.length from m1.len.symm] at hr
          exact cut_ok m1 ((g2.trans g3).trans g5) m5 fun Ad6 g6 m6 _ => hr Ad6 G5 H3 (.ref y) g6 m6 r5
        · exact hr.elim
      · exact hr Ad3 G3 H3 (.ref y) (g2.trans g3) m3 ry
    · exact hr.elim
    · rename_i e4; cases e4⟩
end
end R

set_option Elab.async false
set_option linter.all false
set_option maxRecDepth 100000
set_option maxHeartbeats 4000000
namespace R
open PySem PySem.Spec PyProof.Rows L2
variable [Keys]
/-! ### l.index(k), ints -/
def intsOf : List D → Option (List Int)
  | [] => some []
  | .int i :: r => (intsOf r).map (i :: ·)
  | _ :: _ => none
theorem intsOf_eq : ∀ {ds : List D} {ns : List Int}, intsOf ds = some ns → ds = ns.map .int
  | [], _, h => by cases h; rfl
  | d :: r, ns, h => by
    cases d with
    | int i =>
      unfold intsOf at h
      cases hr : intsOf r with
      | none => rw [hr] at h; cases h
      | some m =>
        rw [hr] at h
        cases h
        rw [intsOf_eq hr]; rfl
    | _ => cases h
def idxG (M : List MO) (x y : Sl) : Option (Sl × List MO) := match lstD M x, y with
  | some ds, .dat (.int k) => match intsOf ds with
    | some ns => if k ∈ ns then some (.dat (.int (ns.idxOf k : Nat)), M) else none
    | none => none
  | _, _ => none
def eIndex (fa fb : CE) : CE := fun ρ => (fa ρ).bind fun x M => match lstD M x with
  | some _ => Ev.bind (fb ρ) (fun y => ofM fun M => idxG M x y) M
  | none => .bad
theorem idx_first : ∀ {ns : List Int} {k : Int}, k ∈ ns → ns[ns.idxOf k]? = some k ∧ ∀ (m : Nat) z, m < ns.idxOf k → ns[m]? = some z → (z == k) = false
  | [], _, h => by cases h
  | a :: r, k, h => by
    by_cases e : a = k
    · subst e
      rw [List.idxOf_cons_self]
      exact ⟨rfl, fun m z hm => by omega⟩
    · have h2 : k ∈ r := (List.mem_cons.mp h).resolve_left (Ne.symm e)
      obtain ⟨h3, h4⟩ := idx_first h2
      have e2 : (a == k) = false := by simpa using e
      rw [List.idxOf_cons, e2]
      simp only [cond_false]
      refine ⟨by simpa using h3, fun m z hm hz => ?_⟩
      cases m with
      | zero => simp at hz; subst hz; simpa using e
      | succ m => exact h4 m z (by omega) (by simpa using hz)
section
variable {X : Cx} {W : WX} {o e : Expr} {es : List Expr} {kws : List Keyword} {x m : Str} {fa fb : CE} {fk : CA} {F : Fn} {k np c : Nat} {p pos apos : Pos} {pm : List Nat} {ks : List Str}
theorem se_index (h0 : SE X W o fa) (h1 : SE X W e fb) (hbase : attributeBase o "index" X.env (eval o X.env) = eval o X.env := by rfl)
    (hfew : ((backTo pos (starEach [e] X.env)).all (fun x => !x.1) && (backToKw pos (keywordEach [] X.env)).all (fun x => x.1.isSome)
      && decide (([e] : List Expr).length + ([] : List Keyword).length + (if ([] : List Keyword).isEmpty then 0 else 1) < 30)) = true := by rfl)
    (hline : (apos.endLine == pos.line) = true := by rfl) (hs : starEach [e] X.env = [(false, eval e X.env)] := by rfl) : SE X W (.Call (.Attribute o "index" apos) [e] [] pos) (eIndex fa fb) := ⟨fun ρ M Ad G σ H Q ms en h =>
  toE (pe_bm PySem.F.plainAttrs_list PySem.F.slot_list_index PySem.F.type_list_index mt_index pe_w (pa_cons pe_w pa_nil hs) hbase hfew hline hs rfl) (h0.seq ms en h fun Ad1 G1 M1 H1 v1 s1 g1 m1 r1 w1 => by
    cases hl : lstD M1 s1 with
    | none => simp only [hl] at w1; exact w1.elim
    | some ds0 =>
      simp only [hl] at w1
      obtain ⟨p1, vs1, e1, e2, e3⟩ := lst_at m1 r1 (lstD_ok hl)
      refine ⟨by rw [e1]; exact .inl ⟨rfl, vs1, SqL.of e2⟩, h1.seq m1 (en.grow g1) w1 fun Ad2 G2 M2 H2 v2 s2 g2 m2 r2 w3 => ?_⟩
      obtain ⟨t, M', f1, q⟩ := wp_ofM.mp w3
      unfold idxG at f1
      split at f1
      · rename_i ds kk hd
        split at f1
        · rename_i ns hns
          split at f1
          · rename_i hm
            cases f1
            obtain ⟨p, vs, q1, q2, q3⟩ := lst_at m2 (r1.grow g2) (lstD_ok hd)
            have q3 := RpSs.toRps q3
            rw [intsOf_eq hns] at q3
            have q4 := rps_intsV q3
            obtain ⟨i1, i2⟩ := idx_first hm
            refine ⟨p, ns.map V.int, .int kk, ns.idxOf kk, .int kk, q1, by rw [rp_int r2], by rw [← q4]; exact SqL.of q2, rfl, by simp [flatV], by rw [List.getElem?_map, i1]; rfl, by simp [eqV], fun mm z' hmm hz => ?_, q _ _ _ _ (Grow.refl _ _ _) m2 rs_int⟩
            rw [List.getElem?_map] at hz
            cases hz2 : ns[mm]? with
            | none => rw [hz2] at hz; cases hz
            | some zz =>
              rw [hz2] at hz
              cases hz
              exact i2 mm zz hmm hz2
          · cases f1
        · cases f1
      · cases f1)⟩
/-! ### o.m(k = v, ..) -/
structure MetK (D : Wd) (k : Nat) (c : Nat) (m : Str) (ks : List Str) (pm : List Nat) (np : Nat) (F : Fn) : Prop where
  ex : ∃ f fd ps, FnOk D.prog D.w D.K D.mg D.base (L2.CX D.prog D.w) k f fd ps (spF D.K np F) ∧ Meth D.K (cA D.K c) m f ∧ Cls D.K (cA D.K c) ∧ KBn D.K fd ps 1 ks (fun us ws => us ++ permL pm ws) (fun us ws => us ++ permL pm ws)
  len : ∀ {ss M Q}, wp (F ss M) Q → ss.length = np
def eMetK (m : Str) (c : Nat) (F : Fn) (pm : List Nat) (fo : CE) (fk : CA) : CE := fun ρ => (fo ρ).bind fun o M => match insAt M m o with
  | some c' => if c' = c then Ev.bind (fk ρ) (fun zs M => if zs.length = pm.length then F (o :: permL pm zs) M else .bad) M else .bad
  | none => .bad
theorem se_metK {pl : Sem Bool} (C : MetK X.wd k c m ks pm np F) (hr : Room k X.A) (tk : Takes X W) (h0 : SE X W o fa) (h2 : SK X W kws fk) (hpm : pm.length = ks.length)
    (hall : (backToKw pos (keywordEach kws X.env)).all (·.1.isSome) = true := by rfl) (hks : (backToKw pos (keywordEach kws X.env)).filterMap (·.1) = ks := by rfl)
    (hpl : ((backTo pos (starEach [] X.env)).any (·.1) || (backToKw pos (keywordEach kws X.env)).any (·.1.isNone)) = false := by rfl)
    (ht : eval (.Call (.Attribute o m apos) [] kws pos) X.env = (do
      let ov ← eval o X.env
      standAt apos.atName
      let (f, first) ← holding [ov] (getMethod ov m pl)
      callWith pos f first (backTo pos (starEach [] X.env)) (backToKw pos (keywordEach kws X.env))) := by rfl) : SE X W (.Call (.Attribute o m apos) [] kws pos) (eMetK m c F pm fa fk) := ⟨fun ρ M Ad G σ H Q ms en h => by
  intro pins s I
  have hw : wE X o σ H fun v H1 => ∃ Ad1 G1 M1 s1, Grow Ad G H Ad1 G1 H1 ∧ MS X.K Ad1 G1 M1 H1 ∧ RpS X.K Ad1 G1 v s1 ∧ insAt M1 m s1 = some c ∧ wp (Ev.bind (fk ρ) (fun zs M => if zs.length = pm.length then F (s1 :: permL pm zs) M else .bad) M1) (Po X W (RpS X.K) Q σ Ad1 G1 H1) :=
    h0.seq ms en h fun Ad1 G1 M1 H1 v s1 g1 m1 r1 w1 => by
      cases hc : insAt M1 m s1 with
      | none => simp only [hc] at w1; exact w1.elim
      | some c' =>
        simp only [hc] at w1
        split at w1
        · rename_i hcc
          subst hcc
          exact ⟨Ad1, G1, M1, s1, g1, m1, r1, hc, w1⟩
        · exact w1.elim
  refine PySem.W.methodCall_KW (pl := pl) (thn (hw pins s I) fun u s1 ⟨v, H1, I1, rx, Ad1, G1, M1, sl, g1, m1, r1, hc, w1⟩ => ?_) ht
  obtain ⟨a, dx, gs, rfl, ea, l⟩ := ins_at m1 r1 hc
  obtain rfl : u = Value.ref a := rx
  obtain ⟨f, fd, ps, FO, hm, cl, hb⟩ := C.ex
  refine getmeth_ok I1 ea cl hm l ?_
  have hkw := h2.seq m1 (en.grow g1) w1 (Q' := fun zs H2 => ∃ Ad2 G2 M2 ts, Grow Ad1 G1 H1 Ad2 G2 H2 ∧ MS X.K Ad2 G2 M2 H2 ∧ RpSs X.K Ad2 G2 zs ts ∧ ts.length = pm.length ∧ wp (F (sl :: permL pm ts) M2) (Po X W (RpS X.K) Q σ Ad2 G2 H2)) fun Ad2 G2 M2 H2 zs ts g2 m2 r2 w2 => by
    by_cases hz : ts.length = pm.length
    · rw [if_pos hz] at w2; exact ⟨Ad2, G2, M2, ts, g2, m2, r2, hz, w2⟩
    · rw [if_neg hz] at w2; exact w2.elim
  refine PySem.W.callWith_KW0 (first := [.ref a]) (h₀ := X.base) I.ok.mod.kin hm.kp hall (thn (hkw pos pins s1 I1) fun ws s2 ⟨zs, H2, I2, rz, Ad2, G2, M2, ts, g2, m2, r2, hz, w2⟩ => ⟨I2.kIn, ?_⟩) hpl
  rw [hks]
  exact run_fnKS (us := [.ref a]) (vs := [.ref a]) FO hr hb tk I2 (.cons rfl .nil) rz rfl (by rw [r2.length, hz, hpm]) (spf_of rfl m2 (.cons (r1.grow g2) (rps_perm r2 pm)) (C.len w2) w2)⟩
end
end R

set_option Elab.async false
set_option linter.all false
set_option maxRecDepth 100000
set_option maxHeartbeats 4000000
namespace R
open PySem PySem.Spec PyProof.Rows L2
variable [Keys]
/-! ### C.m(..), m a staticmethod; f() without arguments -/
/-- C.m is a staticmethod: its record at p, its def at g -/
structure StRec (K : PySem.W.Frag) (C : Addr) (m : Str) (g : Addr) : Prop where
  ex : ∃ mc p rest, ClX.CRead K C mc ∧ PySem.W.findCls K (.ref C) mc m = some (.get (.builtin "staticmethod.__get__") (.ref p) .none (.ref C)) ∧ PySem.W.recIn K p "staticmethod" = some (.ref g :: rest)
/-- (record, def) of C.f -/
def sPG (K : PySem.W.Frag) (x f : Str) : Option (Addr × Addr) := match PySem.W.findCls K (.ref (gA K x)) (.type "type") f with
  | some (.get (.builtin b) (.ref p) .none (.ref C)) => if b = "staticmethod.__get__" ∧ C = gA K x then match PySem.W.recIn K p "staticmethod" with
    | some (.ref g :: _) => some (p, g)
    | _ => none
    else none
  | _ => none
def sG (x f : Str) (K : PySem.W.Frag) : Addr := ((sPG K x f).getD (0, 0)).2
def kStm (x f : Str) : Fk := fun K => PySem.W.readsIn K (gA K x) (.type "type") && (decide (PySem.W.specialIn K (.ref (gA K x)) "__getattribute__" = some (some (.builtin "type.__getattribute__"))) && (sPG K x f).isSome)
theorem kStm_ok {K : PySem.W.Frag} {x f : Str} (h : kStm x f K = true) : StRec K (gA K x) f (sG x f K) := by
  unfold kStm at h
  rw [Bool.and_eq_true, Bool.and_eq_true, decide_eq_true_eq] at h
  obtain ⟨h1, h2, h3⟩ := h
  obtain ⟨⟨p, g⟩, h4⟩ := Option.isSome_iff_exists.mp h3
  unfold sG
  rw [h4]
  unfold sPG at h4
  split at h4
  · rename_i b p' C e
    split at h4
    · rename_i hh
      obtain ⟨rfl, rfl⟩ := hh
      split at h4
      · rename_i g' rest e2
        cases h4
        exact ⟨.type "type", _, rest, ⟨h1, h2⟩, e, e2⟩
      · cases h4
    · cases h4
  · cases h4
section
variable {X : Cx} {W : WX} {o e : Expr} {es : List Expr} {kws : List Keyword} {x m : Str} {fa fb : CE} {fs fk : CA} {F : Fn} {k n np c : Nat} {p pos apos : Pos} {pm : List Nat} {ks : List Str}
theorem getstm_ok {pl : Sem Bool} {pins : List (Addr × Obj)} {σ : L2.St} {H : Hp} {s : Shared} {A : Around} {E : Value → Shared → Prop} {C g : Addr} {Q : Value × List Value → Shared → Prop} (I : Inv X pins σ H s) (S : StRec X.K C m g) (h : ∀ s', Inv X pins σ H s' → Q (.ref g, []) s') : wpAny (model X.prog X.w) A (getMethod (.ref C) m pl) Q E s := by
  obtain ⟨mc, p, rest, r, h1, hp⟩ := S.ex
  refine PySem.W.method_cls I.kIn r.ga (PySem.W.cls_bind I.kIn r.rd h1 ?_)
  exact wpAny_call (PySem.W.sm_get (s := { s with toks := s.toks + 1 }) I.kIn hp (PySem.W.handed_on rfl (h _ (I.tok _))))
structure StmF (D : Wd) (k : Nat) (x m : Str) (np : Nat) (F : Fn) : Prop where
  ex : ∃ f fd ps C, FnOk D.prog D.w D.K D.mg D.base (L2.CX D.prog D.w) k f fd ps (spF D.K np F) ∧ D.mg x = some (.ref C) ∧ StRec D.K C m f ∧ PySem.W.keepIn D.K (.ref f) = true ∧ Binds D.K fd ps []
  len : ∀ {ss M Q}, wp (F ss M) Q → ss.length = np
structure StmK (D : Wd) (k : Nat) (x m : Str) (n : Nat) (ks : List Str) (pm : List Nat) (np : Nat) (F : Fn) : Prop where
  ex : ∃ f fd ps C, FnOk D.prog D.w D.K D.mg D.base (L2.CX D.prog D.w) k f fd ps (spF D.K np F) ∧ D.mg x = some (.ref C) ∧ StRec D.K C m f ∧ PySem.W.keepIn D.K (.ref f) = true ∧ KBn D.K fd ps n ks (fun us ws => us ++ permL pm ws) (fun us ws => us ++ permL pm ws)
  len : ∀ {ss M Q}, wp (F ss M) Q → ss.length = np
theorem se_stm {pl : Sem Bool} (C : StmF X.wd k x m n F) (hr : Room k X.A) (G1 : GFx X x) (tk : Takes X W) (h1 : SA X W (e :: es) fs)
    (hst : starEach (e :: es) X.env = (false, eval e X.env) :: starEach es X.env := by rfl) (hpl : (backTo pos (starEach es X.env)).any (·.1) = false := by rfl)
    (ht : eval (.Call (.Attribute (.Name x p) m apos) (e :: es) [] pos) X.env = (do
      let ov ← eval (.Name x p) X.env
      standAt apos.atName
      let (f, first) ← holding [ov] (getMethod ov m pl)
      callWith pos f first (backTo pos (starEach (e :: es) X.env)) (backToKw pos (keywordEach [] X.env))) := by rfl) : SE X W (.Call (.Attribute (.Name x p) m apos) (e :: es) [] pos) (eCall F fs) := ⟨fun ρ M Ad G σ H Q ms en h => by
  intro pins s I
  obtain ⟨f, fd, ps, Cl, FO, hm, hS, hk, hb⟩ := C.ex
  refine PySem.W.methodCall_KW (pl := pl) (thn ((pe_glob (v := .ref Cl) G1.gl hm rfl G1.nd).run pins s σ H (fun v H1 => v = .ref Cl ∧ H1 = H) I ⟨rfl, rfl⟩) fun u s1 ⟨v, H1, I1, rx, q1, q2⟩ => ?_) ht
  subst q1; subst q2
  obtain rfl : u = Value.ref Cl := rx
  refine getstm_ok I1 hS fun s2 I2 => ?_
  have hargs := h1.seq ms en h (Q' := fun vs H2 => ∃ Ad2 G2 M2 ss, Grow Ad G H1 Ad2 G2 H2 ∧ MS X.K Ad2 G2 M2 H2 ∧ RpSs X.K Ad2 G2 vs ss ∧ wp (F ss M2) (Po X W (RpS X.K) Q σ Ad2 G2 H2)) fun Ad2 G2 M2 H2 vs ss g2 m2 r2 w2 => ⟨Ad2, G2, M2, ss, g2, m2, r2, w2⟩
  refine PySem.W.callWith_K (first := []) (h₀ := X.base) I.ok.mod.kin hk (thn (hargs pos pins s2 I2) fun us s3 ⟨vs, H2, I3, rv, Ad2, G2, M2, ss, g2, m2, r2, w2⟩ => ⟨I3.kIn, ?_⟩) hst hpl
  exact run_fnS (us := us) (vs := vs) FO hr hb (passAt tk σ) I3 rv (spf_of rfl m2 r2 (C.len w2) w2)⟩
theorem se_stmK {pl : Sem Bool} (C : StmK X.wd k x m n ks pm np F) (hn : (e :: es).length = n) (hr : Room k X.A) (G1 : GFx X x) (tk : Takes X W) (h1 : SA X W (e :: es) fs) (h2 : SK X W kws fk) (hpm : pm.length = ks.length) (hnp : np = n + ks.length) (hin : ∀ i ∈ pm, i < ks.length)
    (hall : (backToKw pos (keywordEach kws X.env)).all (·.1.isSome) = true := by rfl) (hks : (backToKw pos (keywordEach kws X.env)).filterMap (·.1) = ks := by rfl)
    (he : starEach (e :: es) X.env = (false, eval e X.env) :: starEach es X.env := by rfl)
    (hpl : ((backTo pos (starEach (e :: es) X.env)).any (·.1) || (backToKw pos (keywordEach kws X.env)).any (·.1.isNone)) = false := by rfl)
    (ht : eval (.Call (.Attribute (.Name x p) m apos) (e :: es) kws pos) X.env = (do
      let ov ← eval (.Name x p) X.env
      standAt apos.atName
      let (f, first) ← holding [ov] (getMethod ov m pl)
      callWith pos f first (backTo pos (starEach (e :: es) X.env)) (backToKw pos (keywordEach kws X.env))) := by rfl) : SE X W (.Call (.Attribute (.Name x p) m apos) (e :: es) kws pos) (eCallK F pm fs fk) := ⟨fun ρ M Ad Gh σ H Q ms en h => by
  obtain ⟨f, fd, ps, Cl, FO, hm, hS, hk, hb⟩ := C.ex
  intro pins s I
  refine PySem.W.methodCall_KW (pl := pl) (thn ((pe_glob (v := .ref Cl) G1.gl hm rfl G1.nd).run pins s σ H (fun v H1 => v = .ref Cl ∧ H1 = H) I ⟨rfl, rfl⟩) fun u s1 ⟨v, H1, I1, rx, q1, q2⟩ => ?_) ht
  subst q1; subst q2
  obtain rfl : u = Value.ref Cl := rx
  refine getstm_ok I1 hS fun s2 I2 => ?_
  have hargs := h1.seq ms en h (Q' := fun vs H2 => ∃ Ad1 G1 M1 ss, Grow Ad Gh H1 Ad1 G1 H2 ∧ MS X.K Ad1 G1 M1 H2 ∧ RpSs X.K Ad1 G1 vs ss ∧ wp (Ev.bind (fk ρ) (fun zs M => if zs.length = pm.length then F (ss ++ permL pm zs) M else .bad) M1) (Po X W (RpS X.K) Q σ Ad1 G1 H2)) fun Ad1 G1 M1 H2 vs ss g1 m1 r1 w1 => ⟨Ad1, G1, M1, ss, g1, m1, r1, w1⟩
  refine PySem.W.callWith_KW (first := []) (h₀ := X.base) I.ok.mod.kin hk hall (thn (hargs pos pins s2 I2) fun us s3 ⟨vs, H3, I3, r, Ad1, G1, M1, ss, g1, m1, r1, w1⟩ => ?_) hpl he
  have hkw := h2.seq m1 (en.grow g1) w1 (Q' := fun zs H2 => ∃ Ad2 G2 M2 ts, Grow Ad1 G1 H3 Ad2 G2 H2 ∧ MS X.K Ad2 G2 M2 H2 ∧ RpSs X.K Ad2 G2 zs ts ∧ ts.length = pm.length ∧ wp (F (ss ++ permL pm ts) M2) (Po X W (RpS X.K) Q σ Ad2 G2 H2)) fun Ad2 G2 M2 H2 zs ts g2 m2 r2 w2 => by
    by_cases hz : ts.length = pm.length
    · rw [if_pos hz] at w2; exact ⟨Ad2, G2, M2, ts, g2, m2, r2, hz, w2⟩
    · rw [if_neg hz] at w2; exact w2.elim
  refine thn (hkw pos pins s3 I3) fun ws s4 ⟨zs, H2, I4, rz, Ad2, G2, M2, ts, g2, m2, r2, hz, w2⟩ => ⟨I4.kIn, ?_⟩
  rw [hks]
  have lz : zs.length = ks.length := by rw [r2.length, hz, hpm]
  have hlen := C.len w2
  have lss : ss.length = n := by
    rw [List.length_append, perm_len (fun i hi => by rw [hz, hpm]; exact hin i hi)] at hlen
    omega
  exact run_fnKS FO hr hb tk I4 r rz (by rw [r1.length]; exact lss) lz (spf_of rfl m2 ((r1.grow g2).append (rps_perm r2 pm)) hlen w2)⟩
/-- list(x), x a list or a tuple -/
def listT (m : Bool) (M : List MO) : List Sl → Option (Sl × List MO)
  | [.dat (.tup ds)] => some (mkL m M ds)
  | ss => listG m M ss
theorem listT_ok (mm : Bool) : VT X (wCl X (.type "list")) (pu (listT mm)) := vt_pu (vl_w call_list_of fun ss M s M' Ad G H vs Q e ms r q => by
  unfold listT at e
  split at e
  · rename_i ds
    have e : mkL mm M ds = (s, M') := Option.some.inj e
    cases r with
    | cons r rr =>
      cases rr
      cases r with
      | tup ha hp =>
        exact ⟨_, _, rfl, .inr (ms.le.t ha), fun l hl => new_mk (m := mm) ms hp (by rw [e]; exact q) hl⟩
  · unfold listG at e
    split at e
    · rename_i t _
      cases hd : lstD M t with
      | none => rw [hd] at e; cases e
      | some ds =>
        rw [hd] at e
        have e : mkL mm M ds = (s, M') := Option.some.inj e
        cases r with
        | cons r rr =>
          cases rr
          obtain ⟨p, vs, e2, e3, e4⟩ := lst_at ms r (lstD_ok hd)
          refine ⟨p, vs, by rw [e2], .inl (SqL.of e3), fun l hl => ?_⟩
          exact new_mk (m := mm) ms (RpSs.toRps e4) (by rw [e]; exact q) hl
    · cases e)
def eCall0 (F : Fn) : CE := fun _ => F []
theorem se_call0 (C : CalF X.wd k x 0 F) (hl : ∀ {ss M Q}, wp (F ss M) Q → ss.length = 0) (hr : Room k X.A) (G : GFx X x) (tk : Takes X W) : SE X W (.Call (.Name x p) [] [] pos) (eCall0 F) := ⟨fun ρ M Ad Gh σ H Q ms en h => by
  obtain ⟨f, fd, ps, FO, hm, hk, hb⟩ := C.ex
  intro pins s I
  refine wpAny_Call_Name_kw (ld_glob I G.gl hm ?_ G.nd)
  refine PySem.W.callWith_K0 I.kIn hk ?_
  exact run_fnS (us := []) (vs := []) FO hr hb (passAt tk σ) I .nil (spf_of rfl ms .nil rfl h)⟩
end
end R

set_option Elab.async false
set_option linter.all false

set_option Elab.async false
set_option linter.all false
set_option maxRecDepth 100000
set_option maxHeartbeats 4000000
namespace R
open PySem PySem.Spec PyProof.Rows L2
variable [Keys]
/-! ### plain: what a run must answer, not unfolded -/
@[irreducible] def W {α : Type} (t : T α) (Q : α → Prop) : Prop := wp t Q
theorem W_iff {α : Type} {t : T α} {Q : α → Prop} : W t Q ↔ wp t Q := by unfold W; exact Iff.rfl
theorem W_ret {α : Type} {a : α} {Q : α → Prop} : W (.ret a) Q = Q a := by unfold W; rfl
theorem W_bad {α : Type} {Q : α → Prop} : W (.bad : T α) Q = False := by unfold W; rfl
theorem W_draw {α : Type} {n : Int} {k : Int → T α} {Q : α → Prop} : W (.draw n k) Q = ∀ d, 0 ≤ d → d < n → W (k d) Q := by unfold W; rfl
theorem W_bind {α β : Type} {f : α → T β} {Q : β → Prop} {t : T α} : W (t.bind f) Q ↔ W t fun a => W (f a) Q := by unfold W; exact wp_bind
theorem W_mono {α : Type} {Q Q' : α → Prop} (w : ∀ a, Q a → Q' a) {t : T α} (h : W t Q) : W t Q' := W_iff.mpr (wp_mono w (W_iff.mp h))
theorem law_spW {K : PySem.W.Frag} {F : Fn} {ns : List Int} {H : Hp} {a : Addr} (hS : SqL K H a (ns.map V.int)) (h : W (F [.dat (.scr ns)] []) fun r => ∃ M, r = .ok (.dat (.bl true)) M) : spF K 1 F [.ref a] H (fun v _ => v = .bl true) fun _ _ _ => False :=
  law_sp hS (W_iff.mp h)
theorem W_evbind {α β : Type} {m : Ev α} {f : α → Ev β} {M : List MO} {Q : Re β → Prop} : W (Ev.bind m f M) Q ↔ W (m M) fun r => W (reK f r) Q := W_bind
theorem W_cong {α : Type} {t t' : T α} {Q : α → Prop} (h : t = t') : W t Q = W t' Q := by rw [h]
theorem bind_cong {α β : Type} {t t' : T α} {f : α → T β} (h : t = t') : t.bind f = t'.bind f := by rw [h]
end R

set_option Elab.async false
set_option linter.all false
set_option maxRecDepth 100000
set_option maxHeartbeats 4000000
namespace R
open PySem PySem.Spec PyProof.Rows L2
variable [Keys]
/-! ### plain: the laws' own helpers -/
section
variable {M : List MO} {j : Nat} {n : Int} {t : Tbl}
theorem wp_fn {m : Bool} {np n : Nat} {b : CS} {ss : List Sl} {Q : Re Sl → Prop} (e : ss.length = np) (h : wp (b (ss ++ List.replicate (n - np) .un) M) fun r => wp (retK m M.length r) Q) : wp (mkFn m np n b ss M) Q := by
  unfold mkFn; rw [if_pos e]; exact wp_bind.mpr h
theorem ret_dat {m : Bool} {d : D} {k : Nat} {Q : Re Sl → Prop} (hl : M.length = k) (h : Q (.ok (.dat d) M)) : wp (retK m k (.ok (.rt (.dat d)) M)) Q := by
  show wp (clean m k (.dat d) M) Q
  unfold clean
  dsimp only
  rw [cut_self hl]
  exact h
/-- a part, then the rest -/
theorem wp_seq {α β : Type} {m : Ev α} {f : α → Ev β} {Q : Re β → Prop} (h : wp (m M) fun r => wp (reK f r) Q) : wp (Ev.bind m f M) Q := wp_evbind.mpr h
theorem wp_noXi {α : Type} {m : Ev α} {Q : Re α → Prop} (h : wp (m M) fun r => ∃ a M', r = .ok a M' ∧ Q (.ok a M')) : wp (noX m M) Q :=
  wp_bind.mpr (wp_mono (fun r ⟨a, M', e, q⟩ => by rw [e]; exact q) h)
theorem atI_get {α : Type} {xs : List α} {i : Int} (h0 : 0 ≤ i) (h1 : i < (xs.length : Int)) : ∃ a ∈ xs, xs[i.toNat]? = some a ∧ atI xs i = some a := by
  have hk : i.toNat < xs.length := by omega
  refine ⟨xs[i.toNat], List.getElem_mem hk, List.getElem?_eq_getElem hk, ?_⟩
  unfold atI ixN
  rw [if_pos h0, if_pos h1]
  show xs[i.toNat]? = _
  exact List.getElem?_eq_getElem hk
theorem nrm_h (hj : M[j]? = some .hand) : nrm M (.mu j) = .mu j := by simp only [nrm, hj]
def bPick (dr : Fn) (t : Tbl) : CS := (sRet (eOp2 ixV (eVar 1) (eCall dr (eCons (eVar 0) (eCons (eOpT (lenG t) (eCons (eVar 1) eNil)) eNil)))))
theorem pick_wp {ds : List D} {Q : Re Sl → Prop} (hj : M[j]? = some .hand) (h1 : ds ≠ []) (h2 : ds.length ≤ sizeLine) (h : ∀ d ∈ ds, Q (.ok (.dat d) M)) : wp (mkFn false 2 2 (bPick prim__law_draw t) [.mu j, .dat (.lst ds)] M) Q := by
  refine wp_fn rfl ?_
  have hn : (0 : Int) < (ds.length : Int) := by
    cases ds with
    | nil => exact absurd rfl h1
    | cons a r => simp only [List.length_cons]; omega
  have hn2 : (ds.length : Int) < 1073741824 := by unfold sizeLine at h2; omega
  have hn3 : 0 < ds.length := by omega
  simp [bPick, sRet, eOp2, eVar, eCall, eCons, eNil, eOpT, Ev.bind, T.bind, reK, R.ok, nrm_dat, nrm_h hj, lenG, lenOf, noX, noXk, h2, prim__law_draw, hj, hn, hn2, hn3, wp, ofM, ixV]
  intro d d1 d2
  obtain ⟨a, ha, _, e⟩ := atI_get d1 d2
  rw [e]
  exact ret_dat (m := false) rfl (h a ha)
def mxB (dr : Fn) (t : Tbl) : CS := (sFgt [3] (sExpr (eIns (eVar 2) (eCall dr (eCons (eVar 0) (eCons (eOp2 (bin .Add) (eOpT (lenG t) (eCons (eVar 2) eNil)) (fun _ => ok (.dat (.int 1)))) eNil))) (eVar 3))))
def bMixed (dr : Fn) (t : Tbl) : CS :=
  (sSeq (sSet 2 (eLst true eNil))
  (sSeq (sFor (iVal (eVar 1)) (gNm 3) (mxB dr t))
  (sRet (eVar 2))))
theorem nrm_l {k : Nat} {xs : List Sl} (hj : M[k]? = some (.lst xs)) : nrm M (.mu k) = .mu k := by simp only [nrm, hj]
theorem last_get {m : MO} : (M ++ [m])[M.length]? = some m := by simp
theorem last_set {m m' : MO} : (M ++ [m]).set M.length m' = M ++ [m'] := by simp
theorem pre_get {m m' : MO} (hj : M[j]? = some m) : (M ++ [m'])[j]? = some m := by
  rw [List.getElem?_append_left (List.getElem?_eq_some_iff.mp hj).1]; exact hj
theorem ins_perm {α : Type} (d : α) (es : List α) (k : Nat) : (es.take k ++ [d] ++ es.drop k).Perm (d :: es) := by
  have h : (es.take k ++ [d] ++ es.drop k).Perm ([d] ++ es.take k ++ es.drop k) := List.Perm.append_right _ List.perm_append_comm
  refine h.trans ?_
  rw [List.append_assoc, List.take_append_drop]
  exact List.Perm.refl _
theorem mixed_loop (hj : M[j]? = some .hand) (L : Sl) : ∀ (ds es : List D) {Q : Re Fl → Prop}, es.length + ds.length < sizeLine → (∀ fs : List D, fs.Perm (es ++ ds) → Q (.ok (.nx [.mu j, L, .mu M.length, .un]) (M ++ [.lst (fs.map .dat)]))) →
    wp (forD (gNm 3) (mxB prim__law_draw t) ds [.mu j, L, .mu M.length, .un] (M ++ [.lst (es.map .dat)])) Q
  | [], es, Q, _, h => by
    have := h es (by rw [List.append_nil])
    exact this
  | d :: ds, es, Q, hl, h => by
    have g0 : (M ++ [.lst (es.map Sl.dat)])[M.length]? = some (.lst (es.map Sl.dat)) := last_get
    have g1 : (M ++ [MO.lst (es.map Sl.dat)])[j]? = some .hand := pre_get hj
    have hz : es.length ≤ sizeLine := by simp only [List.length_cons] at hl; omega
    have hz2 : es.length < sizeLine := by simp only [List.length_cons] at hl; omega
    have q1 : (0 : Int) < (es.length : Int) + 1 := by omega
    have q2 : (es.length : Int) + 1 < 1073741824 := by unfold sizeLine at hz2; omega
    simp [forD, gNm, mxB, sFgt, sExpr, eIns, eVar, eCall, eCons, eNil, eOp2, eOpT, Ev.bind, T.bind, reK, R.ok, nrm_dat, nrm_h g1, nrm_l g0, lenG, lenOf, noX, noXk, muL, hz, hz2, prim__law_draw, g1, q1, q2, wp, ofM, bin, last_get, fgtF, wipeS, forK]
    intro k k1 k2
    have hk : k < 9223372036854775808 := by omega
    rw [if_pos ⟨k1, hk⟩]
    have ih := mixed_loop hj L ds (es.take k.toNat ++ [d] ++ es.drop k.toNat) (Q := Q) (by
      have := (ins_perm d es k.toNat).length_eq
      simp only [List.length_cons] at this hl ⊢
      omega) fun fs hf => h fs (hf.trans (((ins_perm d es k.toNat).append_right ds).trans (by
        rw [List.cons_append]; exact (List.perm_middle (a := d) (l₁ := es) (l₂ := ds)).symm)))
    have e : List.map Sl.dat (es.take k.toNat ++ [d] ++ es.drop k.toNat) = List.take k.toNat (es.map Sl.dat) ++ Sl.dat d :: List.drop k.toNat (es.map Sl.dat) := by simp [List.map_take, List.map_drop]
    rw [e] at ih
    exact ih
/-- no object names one behind the end -/
def Cl (M : List MO) : Prop := closed M.length M = true
theorem cut_app {N : List MO} (hc : Cl M) : cut M.length (M ++ N) = M := by
  unfold cut closed
  unfold Cl closed at hc
  rw [List.take_length] at hc
  rw [List.take_left, if_pos hc]
theorem mixed_wp {ds : List D} {Q : Re Sl → Prop} (hc : Cl M) (hj : M[j]? = some .hand) (h2 : ds.length < sizeLine) (h : ∀ fs : List D, fs.Perm ds → Q (.ok (.dat (.lst fs)) M)) : wp (mkFn false 2 4 (bMixed prim__law_draw t) [.mu j, .dat (.lst ds)] M) Q := by
  refine wp_fn rfl ?_
  refine wp_seq ?_
  simp [sSet, eLst, eNil, Ev.bind, T.bind, reK, R.ok, ofM, wp, seqK]
  refine wp_seq ?_
  simp only [sFor]
  refine wp_seq ?_
  simp [iVal, eVar, Ev.bind, T.bind, reK, R.ok, nrm_dat, itV, wp]
  have := mixed_loop (t := t) hj (.dat (.lst ds)) ds [] (Q := fun r => wp (reK (seqK (sRet (eVar 2))) r) fun r => wp (retK false M.length r) Q) (by simpa using h2) fun fs hf => ?_
  · rw [List.map_nil] at this; exact this
  · have g0 : (M ++ [.lst (fs.map Sl.dat)])[M.length]? = some (.lst (fs.map Sl.dat)) := last_get
    simp [reK, seqK, sRet, eVar, Ev.bind, T.bind, R.ok, nrm_l g0, wp, retK, clean, fz1, fzO, cut_app hc]
    exact h fs (by simpa using hf)
theorem wp_okI {α : Type} {a : α} {Q : Re α → Prop} (h : Q (.ok a M)) : wp (ok a M) Q := h
theorem wp_ret {α : Type} {a : α} {Q : α → Prop} : wp (.ret a) Q = Q a := by rw [wp]
theorem wp_drawI {α : Type} {n : Int} {k : Int → T α} {Q : α → Prop} : wp (.draw n k) Q = ∀ d, 0 ≤ d → d < n → wp (k d) Q := rfl
theorem wp_nx {g : CS} {ρ : List Sl} {Q : Re Fl → Prop} (h : wp (g ρ M) Q) : wp (reK (seqK g) (.ok (.nx ρ) M)) Q := h
theorem wp_sset {i : Nat} {f : CE} {g : CS} {ρ : List Sl} {s : Sl} {M1 : List MO} {Q : Re Fl → Prop} (e : f ρ M = .ret (.ok s M1)) (h : wp (g (ρ.set i s) M1) Q) : wp (sSeq (sSet i f) g ρ M) Q := by
  unfold sSeq sSet
  refine wp_seq (wp_seq ?_)
  rw [e, wp_ret]
  exact h
theorem wp_sset' {i : Nat} {f : CE} {g : CS} {ρ : List Sl} {Q : Re Fl → Prop} (h : wp (f ρ M) fun r => match r with
    | .ok s M1 => wp (g (ρ.set i s) M1) Q
    | .ex c fs M1 => Q (.ex c fs M1)) : wp (sSeq (sSet i f) g ρ M) Q := by
  unfold sSeq sSet
  refine wp_seq (wp_seq (wp_mono (fun r hr => ?_) h))
  cases r with
  | ok s M1 => exact hr
  | ex c fs M1 => exact hr
theorem wp_sfor {fi : CI} {gt : CG} {b g : CS} {ρ : List Sl} {ds : List D} {Q : Re Fl → Prop} (e : fi ρ M = .ret (.ok (.data ds) M)) (h : wp (forD gt b ds ρ M) fun r => wp (reK (seqK g) r) Q) : wp (sSeq (sFor fi gt b) g ρ M) Q := by
  unfold sSeq sFor
  refine wp_seq (wp_seq ?_)
  rw [e, wp_ret]
  exact h
/-- what an expression may answer, the objects as they were -/
def Gives (f : CE) (ρ : List Sl) (M : List MO) (P : Sl → Prop) : Prop := ∀ Q : Re Sl → Prop, (∀ s, P s → Q (.ok s M)) → wp (f ρ M) Q
theorem wp_ssetP {i : Nat} {f : CE} {g : CS} {ρ : List Sl} {P : Sl → Prop} {Q : Re Fl → Prop} (e : Gives f ρ M P) (h : ∀ s, P s → wp (g (ρ.set i s) M) Q) : wp (sSeq (sSet i f) g ρ M) Q := by
  unfold sSeq sSet
  refine wp_seq (wp_seq ?_)
  exact e _ fun s p => h s p
theorem wp_par2P {i l : Nat} {f g : CE} {k : CS} {ρ : List Sl} {P1 P2 : Sl → Prop} {Q : Re Fl → Prop} (e1 : Gives f ρ M P1) (e2 : Gives g ρ M P2) (h : ∀ s u, P1 s → P2 u → wp (k ((ρ.set i s).set l u) M) Q) : wp (sSeq (sPar2 i l f g) k ρ M) Q := by
  unfold sSeq sPar2
  refine wp_seq (wp_seq ?_)
  refine e1 _ fun s p => ?_
  refine wp_seq ?_
  exact e2 _ fun u p2 => h s u p p2
theorem wp_par2N {i l : Nat} {f g : CE} {k : CS} {ρ : List Sl} {s u : Sl} {M2 : List MO} {Q : Re Fl → Prop} (e1 : f ρ M = .ret (.ok s M)) (e2 : g ρ M = .ret (.ok u M2)) (h : wp (k ((ρ.set i s).set l u) M2) Q) : wp (sSeq (sPar2 i l f g) k ρ M) Q := by
  unfold sSeq sPar2
  refine wp_seq (wp_seq ?_)
  rw [e1, wp_ret]
  refine wp_seq ?_
  rw [e2, wp_ret]
  exact h
theorem nil_ret {ρ : List Sl} : eNil ρ M = .ret (.ok [] M) := rfl
theorem cons_ret {ρ : List Sl} {f : CE} {g : CA} {s : Sl} {ss : List Sl} {M1 M2 : List MO} (h1 : f ρ M = .ret (.ok s M1)) (h2 : g ρ M1 = .ret (.ok ss M2)) : eCons f g ρ M = .ret (.ok (s :: ss) M2) := by
  unfold eCons Ev.bind
  rw [h1]
  show ((g ρ M1).bind _) = _
  rw [h2]
  rfl
theorem var_ret {ρ : List Sl} {i : Nat} {s : Sl} (h : ρ[i]? = some s) (hu : s ≠ .un) (hn : nrm M s = s) : eVar i ρ M = .ret (.ok s M) := by
  unfold eVar
  rw [h]
  cases s with
  | un => exact absurd rfl hu
  | dat d => rfl
  | mu j => show T.ret (Re.ok (nrm M (.mu j)) M) = _; rw [hn]
  | raw v => rfl
theorem call_wp {F : Fn} {fs : CA} {ρ : List Sl} {ss : List Sl} {M1 : List MO} {Q : Re Sl → Prop} (e : fs ρ M = .ret (.ok ss M1)) (h : wp (F ss M1) Q) : wp (eCall F fs ρ M) Q := by
  unfold eCall
  refine wp_seq ?_
  rw [e, wp_ret]
  exact h
theorem op1_ret {g : List MO → Sl → Option (Sl × List MO)} {f : CE} {ρ : List Sl} {s u : Sl} {M1 M2 : List MO} (h1 : f ρ M = .ret (.ok s M1)) (h2 : g M1 s = some (u, M2)) : eOp1 g f ρ M = .ret (.ok u M2) := by
  unfold eOp1 Ev.bind
  rw [h1]
  show (ofM (fun M => g M s) M1) = _
  unfold ofM
  dsimp only
  rw [h2]
theorem op2_ret {g : List MO → Sl → Sl → Option (Sl × List MO)} {f f' : CE} {ρ : List Sl} {s s' u : Sl} {M1 M2 M3 : List MO} (h1 : f ρ M = .ret (.ok s M1)) (h2 : f' ρ M1 = .ret (.ok s' M2)) (h3 : g M2 s s' = some (u, M3)) : eOp2 g f f' ρ M = .ret (.ok u M3) := by
  unfold eOp2 Ev.bind
  rw [h1]
  show ((f' ρ M1).bind _) = _
  rw [h2]
  show (ofM (fun M => g M s s') M2) = _
  unfold ofM
  dsimp only
  rw [h3]
theorem ret_wp {f : CE} {ρ : List Sl} {s : Sl} {M1 : List MO} {Q : Re Fl → Prop} (e : f ρ M = .ret (.ok s M1)) (h : Q (.ok (.rt s) M1)) : wp (sRet f ρ M) Q := by
  unfold sRet
  refine wp_seq ?_
  rw [e, wp_ret]
  exact h
theorem tup_ret {fs : CA} {ρ : List Sl} {ss : List Sl} {ds : List D} {M1 M2 : List MO} (e : fs ρ M = .ret (.ok ss M1)) (h : fzL M1 ss = some (ds, M2)) (hz : ds.length ≤ sizeLine) : eTup fs ρ M = .ret (.ok (.dat (.tup ds)) M2) := by
  unfold eTup Ev.bind
  rw [e]
  simp only [T.bind, reK, ofM, h, if_pos hz]
end
end R

set_option Elab.async false
set_option linter.all false
set_option maxRecDepth 100000
set_option maxHeartbeats 4000000
namespace R
open PySem PySem.Spec PyProof.Rows L2
variable [Keys]
def GivesW (f : CE) (ρ : List Sl) (M : List MO) (P : Sl → Prop) : Prop := ∀ Q : Re Sl → Prop, (∀ s, P s → Q (.ok s M)) → W (f ρ M) Q
theorem givesW {f : CE} {ρ : List Sl} {M : List MO} {P : Sl → Prop} : GivesW f ρ M P = Gives f ρ M P := by unfold GivesW W Gives; rfl
section
variable {M : List MO} {j : Nat} {n : Int} {t : Tbl}
theorem W_fn {m : Bool} {np n : Nat} {b : CS} {ss : List Sl} {Q : Re Sl → Prop} (e : ss.length = np) (h : W (b (ss ++ List.replicate (n - np) .un) M) fun r => W (retK m M.length r) Q) : W (mkFn m np n b ss M) Q := by
  (try rw [givesW] at *); unfold W at *
  exact wp_fn e h
theorem ret_dat_W {m : Bool} {d : D} {k : Nat} {Q : Re Sl → Prop} (hl : M.length = k) (h : Q (.ok (.dat d) M)) : W (retK m k (.ok (.rt (.dat d)) M)) Q := by
  (try rw [givesW] at *); unfold W at *
  exact ret_dat hl h
theorem W_seq {α β : Type} {m : Ev α} {f : α → Ev β} {Q : Re β → Prop} (h : W (m M) fun r => W (reK f r) Q) : W (Ev.bind m f M) Q := by
  (try rw [givesW] at *); unfold W at *
  exact wp_seq h
theorem W_noXi {α : Type} {m : Ev α} {Q : Re α → Prop} (h : W (m M) fun r => ∃ a M', r = .ok a M' ∧ Q (.ok a M')) : W (noX m M) Q := by
  (try rw [givesW] at *); unfold W at *
  exact wp_noXi h
theorem pick_W {ds : List D} {Q : Re Sl → Prop} (hj : M[j]? = some .hand) (h1 : ds ≠ []) (h2 : ds.length ≤ sizeLine) (h : ∀ d ∈ ds, Q (.ok (.dat d) M)) : W (mkFn false 2 2 (bPick prim__law_draw t) [.mu j, .dat (.lst ds)] M) Q := by
  (try rw [givesW] at *); unfold W at *
  exact pick_wp hj h1 h2 h
theorem mixed_W {ds : List D} {Q : Re Sl → Prop} (hc : Cl M) (hj : M[j]? = some .hand) (h2 : ds.length < sizeLine) (h : ∀ fs : List D, fs.Perm ds → Q (.ok (.dat (.lst fs)) M)) : W (mkFn false 2 4 (bMixed prim__law_draw t) [.mu j, .dat (.lst ds)] M) Q := by
  (try rw [givesW] at *); unfold W at *
  exact mixed_wp hc hj h2 h
theorem W_okI {α : Type} {a : α} {Q : Re α → Prop} (h : Q (.ok a M)) : W (ok a M) Q := by
  (try rw [givesW] at *); unfold W at *
  exact wp_okI h
theorem W_nx {g : CS} {ρ : List Sl} {Q : Re Fl → Prop} (h : W (g ρ M) Q) : W (reK (seqK g) (.ok (.nx ρ) M)) Q := by
  (try rw [givesW] at *); unfold W at *
  exact wp_nx h
theorem W_sset {i : Nat} {f : CE} {g : CS} {ρ : List Sl} {s : Sl} {M1 : List MO} {Q : Re Fl → Prop} (e : f ρ M = .ret (.ok s M1)) (h : W (g (ρ.set i s) M1) Q) : W (sSeq (sSet i f) g ρ M) Q := by
  (try rw [givesW] at *); unfold W at *
  exact wp_sset e h
theorem W_sfor {fi : CI} {gt : CG} {b g : CS} {ρ : List Sl} {ds : List D} {Q : Re Fl → Prop} (e : fi ρ M = .ret (.ok (.data ds) M)) (h : W (forD gt b ds ρ M) fun r => W (reK (seqK g) r) Q) : W (sSeq (sFor fi gt b) g ρ M) Q := by
  (try rw [givesW] at *); unfold W at *
  exact wp_sfor e h
theorem W_ssetP {i : Nat} {f : CE} {g : CS} {ρ : List Sl} {P : Sl → Prop} {Q : Re Fl → Prop} (e : GivesW f ρ M P) (h : ∀ s, P s → W (g (ρ.set i s) M) Q) : W (sSeq (sSet i f) g ρ M) Q := by
  (try rw [givesW] at *); unfold W at *
  exact wp_ssetP e h
theorem W_par2P {i l : Nat} {f g : CE} {k : CS} {ρ : List Sl} {P1 P2 : Sl → Prop} {Q : Re Fl → Prop} (e1 : GivesW f ρ M P1) (e2 : GivesW g ρ M P2) (h : ∀ s u, P1 s → P2 u → W (k ((ρ.set i s).set l u) M) Q) : W (sSeq (sPar2 i l f g) k ρ M) Q := by
  (try rw [givesW] at *); unfold W at *
  exact wp_par2P e1 e2 h
theorem W_par2N {i l : Nat} {f g : CE} {k : CS} {ρ : List Sl} {s u : Sl} {M2 : List MO} {Q : Re Fl → Prop} (e1 : f ρ M = .ret (.ok s M)) (e2 : g ρ M = .ret (.ok u M2)) (h : W (k ((ρ.set i s).set l u) M2) Q) : W (sSeq (sPar2 i l f g) k ρ M) Q := by
  (try rw [givesW] at *); unfold W at *
  exact wp_par2N e1 e2 h
theorem call_W {F : Fn} {fs : CA} {ρ : List Sl} {ss : List Sl} {M1 : List MO} {Q : Re Sl → Prop} (e : fs ρ M = .ret (.ok ss M1)) (h : W (F ss M1) Q) : W (eCall F fs ρ M) Q := by
  (try rw [givesW] at *); unfold W at *
  exact call_wp e h
theorem ret_W {f : CE} {ρ : List Sl} {s : Sl} {M1 : List MO} {Q : Re Fl → Prop} (e : f ρ M = .ret (.ok s M1)) (h : Q (.ok (.rt s) M1)) : W (sRet f ρ M) Q := by
  (try rw [givesW] at *); unfold W at *
  exact ret_wp e h
end
end R

set_option Elab.async false
set_option linter.all false
set_option maxRecDepth 100000
set_option maxHeartbeats 4000000
namespace R
open PySem PySem.Spec PyProof.Rows L2
variable [Keys]
/-! ### a drawn plan of a board -/
def okS (z : Str) : Prop := ∀ c ∈ z.cps.toList, c ∈ ([46, 111, 62, 60] : List Nat)
instance (z : Str) : Decidable (okS z) := inferInstanceAs (Decidable (∀ c ∈ z.cps.toList, c ∈ ([46, 111, 62, 60] : List Nat)))
def rowD (r : Int × Str) : D := .tup [.int r.1, .str r.2]
def planD (k : Int) (rows : List (Int × Str)) : D := .tup [.int k, .lst (rows.map rowD)]
structure PlanOk (high wide most : Nat) (k : Int) (rows : List (Int × Str)) (w : Nat) : Prop where
  h1 : 1 ≤ rows.length
  h2 : rows.length ≤ high
  w1 : 1 ≤ w
  w2 : w ≤ wide
  k1 : (rows.length : Int) ≤ k
  k2 : k ≤ most
  nd : (rows.map (·.1)).Nodup
  lo : ∀ r ∈ rows, 0 ≤ r.1 ∧ r.1 < k
  sg : ∀ r ∈ rows, r.2.length = w ∧ okS r.2
def plSign (pk : Fn) : CE := (eIf (tVal (eOp2 (cmp .Gt) (eVar 9) (fun _ => ok (.dat (.int 0))))) (eCall pk (eCons (eVar 0) (eCons (eLst false (eCons (fun _ => ok (.dat (.str "o"))) (eCons (fun _ => ok (.dat (.str "o"))) (eCons (fun _ => ok (.dat (.str "o"))) (eCons (fun _ => ok (.dat (.str "o"))) (eCons (fun _ => ok (.dat (.str ">"))) (eCons (fun _ => ok (.dat (.str "<"))) (eCons (fun _ => ok (.dat (.str "."))) eNil)))))))) eNil))) (fun _ => ok (.dat (.str "."))))
def plIn (pk : Fn) : CS := (sFgt [13, 14] (sSeq (sSet 14 (plSign pk))
  (sSeq (sSet 9 (eOp2 (bin .Sub) (eVar 9) (eOpT (pu intG) (eCons (eOp2 (cmp .NotEq) (eVar 14) (fun _ => ok (.dat (.str ".")))) eNil))))
  (sSet 12 (eOp2 (bin .Add) (eVar 12) (eVar 14))))))
def plO1 : CS := sSet 12 (fun _ => ok (.dat (.str "")))
def plO2 (pk : Fn) : CS := sFor (iRg1 (eVar 6)) (gNm 13) (plIn pk)
def plO3 : CS := sExpr (eApp (eVar 10) (eTup (eCons (eOp2 ixV (eVar 8) (eVar 11)) (eCons (eVar 12) eNil))))
def plO4 (pk : Fn) : CS := sSeq (plO2 pk) plO3
def plO5 (pk : Fn) : CS := sSeq plO1 (plO4 pk)
def plOut (pk : Fn) : CS := sFgt [11, 12, 13, 14] (plO5 pk)
def bPlan (dr pk mx : Fn) : CS :=
  (sSeq (sPar2 5 6 (eOp2 (bin .Add) (fun _ => ok (.dat (.int 1))) (eCall dr (eCons (eVar 0) (eCons (eVar 1) eNil)))) (eOp2 (bin .Add) (fun _ => ok (.dat (.int 1))) (eCall dr (eCons (eVar 0) (eCons (eVar 2) eNil)))))
  (sSeq (sSet 7 (eOp2 (bin .Add) (eVar 5) (eCall dr (eCons (eVar 0) (eCons (eOpT (pu max2G) (eCons (fun _ => ok (.dat (.int 1))) (eCons (eOp2 (bin .Sub) (eOp2 (bin .Add) (eVar 4) (fun _ => ok (.dat (.int 1)))) (eVar 5)) eNil))) eNil)))))
  (sSeq (sSet 8 (eCall mx (eCons (eVar 0) (eCons (eOp1 (lrgG false) (eVar 7)) eNil))))
  (sSeq (sPar2 9 10 (eVar 3) (eLst true eNil))
  (sSeq (sFor (iRg1 (eVar 5)) (gNm 11) (plOut pk))
  (sRet (eTup (eCons (eVar 7) (eCons (eVar 10) eNil)))))))))
section
variable {M : List MO} {j : Nat} {n : Int} {t : Tbl}
theorem okS_app {a b : Str} (ha : okS a) (hb : okS b) : okS (a ++ b) := fun c hc => by
  rw [Str.cps_append, Array.toList_append, List.mem_append] at hc
  exact hc.elim (ha c) (hb c)
theorem W_bindOk {α β : Type} {m : Ev α} {f : α → Ev β} {Q : Re β → Prop} (P : α → List MO → Prop) (h : ∀ Q1 : Re α → Prop, (∀ a M', P a M' → Q1 (.ok a M')) → W (m M) Q1) (k : ∀ a M', P a M' → W (f a M') Q) : W (Ev.bind m f M) Q :=
  W_seq (h _ fun a M' p => k a M' p)
theorem W_sseq {f g : CS} {ρ : List Sl} {Q : Re Fl → Prop} (h : W (f ρ M) fun r => W (reK (seqK g) r) Q) : W (sSeq f g ρ M) Q := W_seq h
theorem W_fgt {f : CS} {vs : List Nat} {ρ : List Sl} {Q : Re Fl → Prop} (h : W (f ρ M) fun r => W (reK (fun r => ok (fgtF vs r)) r) Q) : W (sFgt vs f ρ M) Q := W_seq h
theorem wp_for {fi : CI} {g : CG} {b : CS} {ρ : List Sl} {ds : List D} {Q : Re Fl → Prop} (e : fi ρ M = .ret (.ok (.data ds) M)) (h : W (forD g b ds ρ M) Q) : W (sFor fi g b ρ M) Q := by
  unfold sFor
  refine W_seq ?_
  rw [e, W_ret]
  exact h
theorem rg1_run {f : CE} {ρ : List Sl} {i : Int} (e : f ρ M = .ret (.ok (.dat (.int i)) M)) (h1 : 0 ≤ i) (h2 : i < 4611686018427387904) : iRg1 f ρ M = .ret (.ok (.data (rng 0 i.toNat)) M) := by
  unfold iRg1 Ev.bind
  simp only [e, T.bind, reK]
  rw [if_pos ⟨by omega, by omega⟩]
  rfl
theorem var_dat {ρ : List Sl} {i : Nat} {d : D} (h : ρ[i]? = some (.dat d)) : eVar i ρ M = .ret (.ok (.dat d) M) := by
  unfold eVar; rw [h]; rfl
theorem rng_len {lo : Int} {k : Nat} : (rng lo k).length = k := by simp [rng]
/-- the sign of a crossing -/
theorem sign_wp {ρ : List Sl} {left : Int} (hj : M[j]? = some .hand) (h0 : ρ[0]? = some (.mu j)) (h9 : ρ[9]? = some (.dat (.int left))) (Q : Re Sl → Prop) (h : ∀ z : Str, z.length = 1 → okS z → Q (.ok (.dat (.str z)) M)) :
    W (plSign (mkFn false 2 2 (bPick prim__law_draw t)) ρ M) Q := by
  have dot : Q (.ok (.dat (.str ".")) M) := h "." (by decide) (by decide)
  unfold plSign eIf
  refine W_seq ?_
  by_cases c : 0 < left
  · simp [tVal, eOp2, eVar, h9, nrm_dat, Ev.bind, T.bind, reK, R.ok, ofM, cmp, cmpV, asB, c, W_ret]
    simp [eCall, eCons, eNil, eVar, h0, nrm_h hj, Ev.bind, T.bind, reK, R.ok, eLst, ofM, W_ret, fzL, fz1]
    rw [if_pos (by decide)]
    refine pick_W hj (by simp) (by decide) fun d hd => ?_
    simp only [List.mem_cons, List.not_mem_nil, or_false] at hd
    rcases hd with e | e | e | e | e | e | e <;> subst e <;> exact h _ (by decide) (by decide)
  · simp [tVal, eOp2, eVar, h9, nrm_dat, Ev.bind, T.bind, reK, R.ok, ofM, cmp, cmpV, asB, c, W_ret]
    exact dot
theorem inner_turn (hj : M[j]? = some .hand) (a1 a2 a3 a4 a5 a6 a7 a8 a10 a11 : Sl) (d : D) (signs : Str) (left : Int) (Q : Re Fl → Prop) (hl : signs.length + 1 ≤ sizeLine)
    (h : ∀ left' z, z.length = 1 → okS z → Q (.ok (.nx [.mu j, a1, a2, a3, a4, a5, a6, a7, a8, .dat (.int left'), a10, a11, .dat (.str (signs ++ z)), .un, .un]) M)) :
    W (plIn (mkFn false 2 2 (bPick prim__law_draw t)) [.mu j, a1, a2, a3, a4, a5, a6, a7, a8, .dat (.int left), a10, a11, .dat (.str signs), .dat d, .un] M) Q := by
  unfold plIn sFgt
  refine W_seq ?_
  unfold sSeq
  refine W_seq ?_
  unfold sSet
  refine W_seq ?_
  refine sign_wp hj rfl rfl _ fun z hz hk => ?_
  have hzz : signs.length + z.length ≤ sizeLine := by omega
  by_cases c : z = "."
  · have ih := h left z hz hk
    simp [reK, seqK, eOp2, eOpT, eCons, eNil, eVar, Ev.bind, T.bind, R.ok, ofM, nrm_dat, noX, noXk, pu, intG, cmp, cmpV, bin, W_ret, decide_eq_true c, hzz, fgtF, wipeS]
    exact ih
  · have ih := h (left - 1) z hz hk
    simp [reK, seqK, eOp2, eOpT, eCons, eNil, eVar, Ev.bind, T.bind, R.ok, ofM, nrm_dat, noX, noXk, pu, intG, cmp, cmpV, bin, W_ret, c, fgtF, wipeS, hzz]
    exact ih
theorem inner_loop (hj : M[j]? = some .hand) (a1 a2 a3 a4 a5 a6 a7 a8 a10 a11 : Sl) : ∀ (ds : List D) (signs : Str) (left : Int) (Q : Re Fl → Prop), signs.length + ds.length ≤ sizeLine → okS signs →
    (∀ left' signs', signs'.length = signs.length + ds.length → okS signs' → Q (.ok (.nx [.mu j, a1, a2, a3, a4, a5, a6, a7, a8, .dat (.int left'), a10, a11, .dat (.str signs'), .un, .un]) M)) →
    W (forD (gNm 13) (plIn (mkFn false 2 2 (bPick prim__law_draw t))) ds [.mu j, a1, a2, a3, a4, a5, a6, a7, a8, .dat (.int left), a10, a11, .dat (.str signs), .un, .un] M) Q
  | [], signs, left, Q, _, ho, h => W_okI (h left signs rfl ho)
  | d :: ds, signs, left, Q, hl, ho, h => by
    simp only [List.length_cons] at hl h
    refine W_seq ?_
    refine inner_turn hj a1 a2 a3 a4 a5 a6 a7 a8 a10 a11 d signs left _ (by omega) fun l z hz hk => ?_
    refine inner_loop hj a1 a2 a3 a4 a5 a6 a7 a8 a10 a11 ds (signs ++ z) l Q (by rw [Str.length_append]; omega) (okS_app ho hk) fun l' s' e o => h l' s' (by rw [e, Str.length_append]; omega) o
/-- a row -/
theorem outer_turn (hj : M[j]? = some .hand) {K0 : Nat} (a1 a2 a3 a4 a5 a7 : Sl) (ps : List Int) (w : Nat) (k : Nat) (p : Int) (hp : ps[k]? = some p) (hw : w ≤ 4) (rows : List (Int × Str)) (left : Int) (Q : Re Fl → Prop) (hl : rows.length < sizeLine)
    (h : ∀ left' z, z.length = w → okS z → Q (.ok (.nx [.mu j, a1, a2, a3, a4, a5, .dat (.int w), a7, .dat (.lst (ps.map .int)), .dat (.int left'), .mu M.length, .un, .un, .un, .un]) (M ++ [.lst ((rows ++ [(p, z)]).map fun r => .dat (rowD r))]))) :
    W (plOut (mkFn false 2 2 (bPick prim__law_draw t)) [.mu j, a1, a2, a3, a4, a5, .dat (.int w), a7, .dat (.lst (ps.map .int)), .dat (.int left), .mu M.length, .dat (.int k), .un, .un, .un] (M ++ [.lst (rows.map fun r => .dat (rowD r))])) Q := by
  have g0 : (M ++ [.lst (rows.map fun r => Sl.dat (rowD r))])[M.length]? = some (.lst (rows.map fun r => Sl.dat (rowD r))) := last_get
  have g1 : (M ++ [MO.lst (rows.map fun r => Sl.dat (rowD r))])[j]? = some .hand := pre_get hj
  have hat : atI (ps.map D.int) (k : Int) = some (.int p) := by
    have hk := (List.getElem?_eq_some_iff.mp hp).1
    unfold atI ixN
    rw [if_pos (by omega), List.length_map, if_pos (by omega)]
    show (ps.map D.int)[k]? = _
    rw [List.getElem?_map, hp]; rfl
  unfold plOut
  refine W_fgt ?_
  unfold plO5 plO1
  refine W_sset rfl ?_
  unfold plO4 plO2
  refine W_sfor (rg1_run (i := (w : Int)) (var_dat rfl) (by omega) (by omega)) ?_
  refine inner_loop g1 a1 a2 a3 a4 a5 _ a7 _ _ _ _ _ left _ ?_ (by decide) fun l' s' e o => ?_
  · rw [rng_len]
    show 0 + (w : Int).toNat ≤ sizeLine
    unfold sizeLine
    omega
  · have e' : s'.length = w := by
      rw [rng_len] at e
      have : s'.length = 0 + (w : Int).toNat := e
      omega
    have hh := h l' s' e' o
    have q2 : (2 : Nat) ≤ sizeLine := by decide
    refine W_nx ?_
    simp [q2, hl, reK, seqK, plO3, sExpr, eApp, eTup, eCons, eNil, eVar, Ev.bind, T.bind, R.ok, ofM, nrm_dat, nrm_l g0, muL, hl, eOp2, ixV, hat, fzL, fz1, fgtF, wipeS, W_ret]
    simpa [rowD] using hh
theorem W_forD {gi : Nat} {b : CS} {d : D} {ds : List D} {ρ : List Sl} {Q : Re Fl → Prop} (h : W (b (ρ.set gi (.dat d)) M) fun r => W (reK (forK (forD (gNm gi) b ds)) r) Q) : W (forD (gNm gi) b (d :: ds) ρ M) Q := W_seq h
theorem W_fk {k : List Sl → Ev Fl} {ρ : List Sl} {Q : Re Fl → Prop} (h : W (k ρ M) Q) : W (reK (forK k) (.ok (.nx ρ) M)) Q := h
theorem rng_cons {k n : Nat} : rng (k : Int) (n + 1) = .int (k : Int) :: rng ((k + 1 : Nat) : Int) n := by
  unfold rng
  rw [List.range_succ_eq_map, List.map_cons, List.map_map]
  congr 1
  simp
  intro a _
  omega
theorem outer_loop (hj : M[j]? = some .hand) (a1 a2 a3 a4 a5 a7 : Sl) (ps : List Int) (w : Nat) (hw : w ≤ 4) : ∀ (n k : Nat) (rows : List (Int × Str)) (left : Int) (Q : Re Fl → Prop), k + n ≤ ps.length → rows.length + n < sizeLine → rows.map (·.1) = ps.take k → (∀ r ∈ rows, r.2.length = w ∧ okS r.2) →
    (∀ (left' : Int) (rows' : List (Int × Str)), rows'.map (·.1) = ps.take (k + n) → (∀ r ∈ rows', r.2.length = w ∧ okS r.2) → Q (.ok (.nx [.mu j, a1, a2, a3, a4, a5, .dat (.int w), a7, .dat (.lst (ps.map .int)), .dat (.int left'), .mu M.length, .un, .un, .un, .un]) (M ++ [.lst (rows'.map fun r => .dat (rowD r))]))) →
    W (forD (gNm 11) (plOut (mkFn false 2 2 (bPick prim__law_draw t))) (rng (k : Int) n) [.mu j, a1, a2, a3, a4, a5, .dat (.int w), a7, .dat (.lst (ps.map .int)), .dat (.int left), .mu M.length, .un, .un, .un, .un] (M ++ [.lst (rows.map fun r => .dat (rowD r))])) Q
  | 0, k, rows, left, Q, _, _, h1, h2, h => by
    show W (ok _ _) Q
    exact W_okI (h left rows (by rw [Nat.add_zero]; exact h1) h2)
  | n + 1, k, rows, left, Q, hk, hl, h1, h2, h => by
    rw [rng_cons]
    refine W_forD ?_
    have hp : ps[k]? = some (ps[k]'(by omega)) := List.getElem?_eq_getElem _
    refine outer_turn (K0 := 0) hj a1 a2 a3 a4 a5 a7 ps w k _ hp hw rows left _ (by omega) fun l' z hz hk2 => ?_
    refine W_fk ?_
    refine outer_loop hj a1 a2 a3 a4 a5 a7 ps w hw n (k + 1) (rows ++ [(ps[k]'(by omega), z)]) l' Q (by omega) (by rw [List.length_append]; simp only [List.length_cons, List.length_nil]; omega) ?_ ?_ fun l2 r2 e o => h l2 r2 (by rw [e]; congr 1; omega) o
    · rw [List.map_append, h1, List.take_succ, hp]; rfl
    · intro r hr
      rw [List.mem_append] at hr
      rcases hr with hr | hr
      · exact h2 r hr
      · simp only [List.mem_singleton] at hr
        subst hr
        exact ⟨hz, hk2⟩
/-- a permutation of a range, as ints -/
theorem perm_rng {fs : List D} {n : Nat} (h : fs.Perm (rng 0 n)) : ∃ ps : List Int, fs = ps.map .int ∧ ps.length = n ∧ ps.Nodup ∧ ∀ p ∈ ps, 0 ≤ p ∧ p < n := by
  have key : ∀ d ∈ fs, ∃ i : Nat, i < n ∧ d = .int i := fun d hd => by
    have := h.mem_iff.mp hd
    unfold rng at this
    obtain ⟨i, hi, e⟩ := List.mem_map.mp this
    exact ⟨i, List.mem_range.mp hi, by rw [← e]; congr 1; omega⟩
  let unI : D → Int := fun d => match d with
    | .int i => i
    | _ => 0
  have e1 : fs = (fs.map unI).map .int := by
    rw [List.map_map]
    conv => lhs; rw [← List.map_id fs]
    apply List.map_congr_left
    intro d hd
    obtain ⟨i, _, rfl⟩ := key d hd
    rfl
  refine ⟨fs.map unI, e1, by rw [List.length_map, h.length_eq, rng_len], ?_, ?_⟩
  · have h2 : (fs.map unI).Perm ((rng 0 n).map unI) := h.map unI
    rw [h2.nodup_iff]
    have e2 : (rng 0 n).map unI = (List.range n).map fun i : Nat => (i : Int) := by
      unfold rng
      rw [List.map_map]
      apply List.map_congr_left
      intro a _
      show (0 : Int) + a = a
      omega
    rw [e2]
    exact List.Pairwise.map _ (fun a b h e => h (Int.ofNat.inj e)) List.nodup_range
  · intro p hp
    obtain ⟨d, hd, rfl⟩ := List.mem_map.mp hp
    obtain ⟨i, hi, rfl⟩ := key d hd
    show (0 : Int) ≤ i ∧ (i : Int) < n
    omega
/-- n + a drawn number -/
theorem draw1 {ρ : List Sl} {j : Nat} {n a : Int} {fa fi : CE} (hj : M[j]? = some .hand) (h0 : ρ[0]? = some (.mu j)) (hi : fi ρ M = .ret (.ok (.dat (.int n)) M)) (hf : fa ρ M = .ret (.ok (.dat (.int a)) M)) (hn : 0 < n) (hn2 : n < 1073741824) :
    GivesW (eOp2 (bin .Add) fa (eCall prim__law_draw (eCons (eVar 0) (eCons fi eNil)))) ρ M fun s => ∃ d, 0 ≤ d ∧ d < n ∧ s = .dat (.int (a + d)) := fun Q h => by
  simp [eOp2, hf, eCall, eCons, eNil, eVar, h0, hi, nrm_h hj, nrm_dat, Ev.bind, T.bind, reK, R.ok, prim__law_draw, hj, hn, hn2, W_draw, ofM, bin, W_ret]
  exact fun d d1 d2 => h _ ⟨d, d1, d2, rfl⟩
theorem plan_wp {high wide most longest : Nat} {Q : Re Sl → Prop} (hc : Cl M) (hj : M[j]? = some .hand) (hh : 1 ≤ high ∧ high ≤ 4) (hw : 1 ≤ wide ∧ wide ≤ 4) (hg : high ≤ longest ∧ longest ≤ 100)
    (h : ∀ k rows w, PlanOk high wide longest k rows w → Q (.ok (.dat (planD k rows)) M)) :
    W (mkFn false 5 15 (bPlan prim__law_draw (mkFn false 2 2 (bPick prim__law_draw t)) (mkFn false 2 4 (bMixed prim__law_draw t))) [.mu j, .dat (.int high), .dat (.int wide), .dat (.int most), .dat (.int longest)] M) Q := by
  refine W_fn rfl ?_
  unfold bPlan
  refine W_par2P (draw1 hj rfl (n := (high : Int)) (var_dat rfl) rfl (by omega) (by omega)) (draw1 hj rfl (n := (wide : Int)) (var_dat rfl) rfl (by omega) (by omega)) ?_
  rintro _ _ ⟨d1, a1, b1, rfl⟩ ⟨d2, a2, b2, rfl⟩
  obtain ⟨x, rfl⟩ := Int.eq_ofNat_of_zero_le a1
  obtain ⟨y, rfl⟩ := Int.eq_ofNat_of_zero_le a2
  have em : ∀ ρ : List Sl, ρ[4]? = some (.dat (.int longest)) → ρ[5]? = some (.dat (.int (1 + (x : Int)))) → (eOpT (pu max2G) (eCons (fun _ => ok (.dat (.int 1))) (eCons (eOp2 (bin .Sub) (eOp2 (bin .Add) (eVar 4) (fun _ => ok (.dat (.int 1)))) (eVar 5)) eNil))) ρ M = .ret (.ok (.dat (.int ((longest : Int) - x))) M) := by
    intro ρ h4 h5
    have e : ((longest : Int) + 1 - (1 + (x : Int))) = (longest : Int) - x := by omega
    have e2 : (if 1 < (longest : Int) - x then (longest : Int) - x else 1) = (longest : Int) - x := by
      split
      · rfl
      · omega
    simp [eOpT, eCons, eNil, eOp2, eVar, h4, h5, nrm_dat, Ev.bind, T.bind, reK, R.ok, ofM, bin, pu, max2G, noX, noXk, e, e2]
  refine W_ssetP (draw1 hj rfl (em _ rfl rfl) (var_dat rfl) (by omega) (by omega)) ?_
  rintro _ ⟨d3, a3, b3, rfl⟩
  obtain ⟨z, rfl⟩ := Int.eq_ofNat_of_zero_le a3
  have el : (1 + (x : Int) + (z : Int)) = ((1 + x + z : Nat) : Int) := by omega
  have ew : (1 + (y : Int)) = ((1 + y : Nat) : Int) := by omega
  rw [el, ew]
  refine W_ssetP (P := fun s => ∃ ps : List Int, s = .dat (.lst (ps.map .int)) ∧ ps.length = 1 + x + z ∧ ps.Nodup ∧ ∀ p ∈ ps, 0 ≤ p ∧ p < ((1 + x + z : Nat) : Int)) (fun Q2 h2 => ?_) ?_
  · have q : (-(2 ^ 62) : Int) ≤ ((1 + x + z : Nat) : Int) ∧ ((1 + x + z : Nat) : Int) ≤ 16777216 := by omega
    refine call_W (cons_ret (var_ret rfl (by simp) (nrm_h hj)) (cons_ret (op1_ret (var_dat (d := .int ((1 + x + z : Nat) : Int)) rfl) (u := .dat (.lst (rng 0 (1 + x + z)))) (M2 := M) (by
      unfold lrgG
      dsimp only
      rw [if_pos q, Int.toNat_natCast]
      rfl)) nil_ret)) ?_
    refine mixed_W hc hj (by rw [rng_len]; unfold sizeLine; omega) fun fs hf => ?_
    obtain ⟨ps, e1, e2, e3, e4⟩ := perm_rng hf
    exact h2 _ ⟨ps, by rw [e1], e2, e3, e4⟩
  · rintro _ ⟨ps, rfl, p1, p2, p3⟩
    refine W_par2N (s := .dat (.int most)) (u := .mu M.length) (M2 := M ++ [.lst []]) (var_dat rfl) (by
      have q5 : (0 : Nat) ≤ sizeLine := Nat.zero_le _
      simp [eLst, eNil, Ev.bind, T.bind, reK, R.ok, ofM]) ?_
    have ex : (1 + (x : Int)) = ((1 + x : Nat) : Int) := by omega
    rw [ex]
    refine W_sfor (rg1_run (i := ((1 + x : Nat) : Int)) (var_dat rfl) (by omega) (by omega)) ?_
    rw [Int.toNat_natCast]
    refine outer_loop hj _ _ _ _ _ _ ps (1 + y) (by omega) (1 + x) 0 [] _ _ (by omega) (by simp only [List.length_nil]; unfold sizeLine; omega) (by simp) (by simp) fun l' rows r1 r2 => ?_
    refine W_nx ?_
    have g0 : (M ++ [MO.lst (rows.map fun r => Sl.dat (rowD r))])[M.length]? = some (.lst (rows.map fun r => Sl.dat (rowD r))) := last_get
    refine ret_W (tup_ret (cons_ret (var_dat rfl) (cons_ret (var_ret rfl (by simp) (nrm_l g0)) nil_ret)) (ds := [.int ((1 + x + z : Nat) : Int), .lst (rows.map rowD)]) (M2 := M ++ [MO.fz (some (.lst (rows.map rowD)))]) (by
      have e7 : datsN (M ++ [MO.lst (rows.map fun r => Sl.dat (rowD r))]) (rows.map fun r => Sl.dat (rowD r)) = some (rows.map rowD) := by
        have := datsN_map (M ++ [MO.lst (rows.map fun r => Sl.dat (rowD r))]) (rows.map rowD)
        rw [List.map_map] at this
        exact this
      simp [fzL, fz1, fzO, e7]) (show 2 ≤ sizeLine by decide)) ?_
    show W (clean false M.length (.dat (planD _ rows)) _) Q
    unfold clean
    dsimp only
    rw [cut_app hc, W_ret]
    have rl : rows.length = 1 + x := by
      have := congrArg List.length r1
      rw [List.length_map, List.length_take] at this
      omega
    refine h _ rows (1 + y) ⟨by omega, by omega, by omega, by omega, by omega, by omega, ?_, ?_, fun r hr => r2 r hr⟩
    · rw [r1]
      exact p2.sublist (List.take_sublist _ _)
    · intro r hr
      have : r.1 ∈ ps.take (0 + (1 + x)) := by rw [← r1]; exact List.mem_map_of_mem hr
      exact p3 _ (List.mem_of_mem_take this)
end
end R

set_option Elab.async false
set_option linter.all false
set_option maxRecDepth 100000
set_option maxHeartbeats 4000000
namespace R
open PySem PySem.Spec PyProof.Rows L2
variable [Keys]
/-! ### two values alike -/
def bLike (lk : Fn) (t : Tbl) : CS :=
  (sSeq (sIf (tOr (tVal (eOp2 (cmp .Is) (eVar 0) (fun _ => ok (.dat .non)))) (tVal (eOp2 (cmp .Is) (eVar 1) (fun _ => ok (.dat .non))))) (sRet (eAnd (eOp2 (cmp .Is) (eVar 0) (fun _ => ok (.dat .non))) (eOp2 (cmp .Is) (eVar 1) (fun _ => ok (.dat .non))))) sNil)
  (sSeq (sIf (tVal (eOp1 (isiT ["list", "tuple"]) (eVar 1))) (sSeq (sIf (tOr (tVal (eOp2 (cmp .NotEq) (eOp1 (isiT ["list"]) (eVar 0)) (eOp1 (isiT ["list"]) (eVar 1)))) (tVal (eOp2 (cmp .NotEq) (eOp1 (isiT ["tuple"]) (eVar 0)) (eOp1 (isiT ["tuple"]) (eVar 1))))) (sRet (fun _ => ok (.dat (.bl false)))) sNil)
  (sRet (eAnd (eOp2 (cmp .Eq) (eOpT (lenG t) (eCons (eVar 0) eNil)) (eOpT (lenG t) (eCons (eVar 1) eNil))) (eOpT (pu (anyG true)) (eCons (eLc false [2] (iRg1 (eOpT (lenG t) (eCons (eVar 1) eNil))) (gNm 2) tYesF (eCall lk (eCons (eOp2 ixV (eVar 0) (eVar 2)) (eCons (eOp2 ixV (eVar 1) (eVar 2)) eNil)))) eNil))))) sNil)
  (sSeq (sIf (tOr (tVal (eOp2 (cmp .NotEq) (eOp1 (isiT ["bool"]) (eVar 0)) (eOp1 (isiT ["bool"]) (eVar 1)))) (tVal (eOp2 (cmp .NotEq) (eOp1 (isiT ["int"]) (eVar 0)) (eOp1 (isiT ["int"]) (eVar 1))))) (sRet (fun _ => ok (.dat (.bl false)))) sNil)
  (sRet (eAnd (eOp2 (cmp .Eq) (eOp1 (isiT ["str"]) (eVar 0)) (eOp1 (isiT ["str"]) (eVar 1))) (eOp2 (cmp .Eq) (eVar 0) (eVar 1)))))))

def good : Nat → D → Bool
  | _, .non => true
  | _, .bl _ => true
  | _, .int _ => true
  | _, .str _ => true
  | k + 1, .lst ds => ds.all (good k) && decide (ds.length < 4000)
  | k + 1, .tup ds => ds.all (good k) && decide (ds.length < 4000)
  | _, _ => false
section
variable {M : List MO} {t : Tbl} {lk : Fn}
theorem comp_ret {turn : Sl → Ev (List D)} {g : D → List D} : ∀ {ds : List D}, (∀ d ∈ ds, turn (.dat d) M = .ret (.ok (g d) M)) → compD turn ds M = .ret (.ok (ds.flatMap g) M)
  | [], _ => rfl
  | d :: ds, h => by
    have ih := comp_ret (ds := ds) fun d hd => h d (List.mem_cons_of_mem _ hd)
    unfold compD Ev.bind
    rw [h d List.mem_cons_self]
    simp only [T.bind, reK, ih, R.ok, List.flatMap_cons]
theorem lc_ret {own : List Nat} {fi : CI} {gt : CG} {tt : CT} {e : CE} {ρ : List Sl} {ds : List D} {g : D → List D} (h1 : fi ρ M = .ret (.ok (.data ds) M)) (hz : ds.length < sizeLine) (h2 : ∀ d ∈ ds, oneT gt tt e (wipeS ρ own) (.dat d) M = .ret (.ok (g d) M)) :
    eLc false own fi gt tt e ρ M = .ret (.ok (.dat (.lst (ds.flatMap g))) M) := by
  unfold eLc Ev.bind
  rw [h1]
  simp only [T.bind, reK]
  rw [if_pos (show (Its.data ds).n < sizeLine from hz)]
  unfold compR
  simp only [List.drop_zero, comp_ret h2, T.bind, reK, ofM, mkL]
  rfl
theorem one_ret {gt : CG} {e : CE} {ρ ρ1 : List Sl} {s : Sl} {d : D} (h1 : gt s ρ = some ρ1) (h2 : e ρ1 M = .ret (.ok (.dat d) M)) : oneT gt tYesF e ρ s M = .ret (.ok [d] M) := by
  unfold oneT
  rw [h1]
  simp only [tYesF, noX, noXk, Ev.bind, R.ok, T.bind, reK, if_true, h2, frz, ofM, fz1]
def isB (d : D) (ns : List String) (b : Bool) : Prop := ∀ M : List MO, isiT ns M (.dat d) = some (.dat (.bl b), M)
theorem nb {M : List MO} {a b : Bool} : cmp .NotEq M (.dat (.bl a)) (.dat (.bl b)) = some (.dat (.bl (a != b)), M) := by cases a <;> cases b <;> rfl
theorem eb {M : List MO} {a b : Bool} : cmp .Eq M (.dat (.bl a)) (.dat (.bl b)) = some (.dat (.bl (a == b)), M) := by cases a <;> cases b <;> rfl
theorem call_ret {F : Fn} {fs : CA} {ρ : List Sl} {ss : List Sl} {M1 : List MO} {r : T (Re Sl)} (e : fs ρ M = .ret (.ok ss M1)) (h : F ss M1 = r) : eCall F fs ρ M = r := by
  unfold eCall Ev.bind
  rw [e]
  exact h
theorem like_lc {c : D} {ds : List D} (hix : ∀ i, ixV M (.dat c) (.dat (.int i)) = (atI ds i).map fun d => (.dat d, M)) (hlen : lenOf M (.dat c) = some ds.length) (hz : ds.length < 4000) (hlk : ∀ d ∈ ds, lk [.dat d, .dat d] M = .ret (.ok (.dat (.bl true)) M)) :
    eLc false [2] (iRg1 (eOpT (lenG t) (eCons (eVar 1) eNil))) (gNm 2) tYesF (eCall lk (eCons (eOp2 ixV (eVar 0) (eVar 2)) (eCons (eOp2 ixV (eVar 1) (eVar 2)) eNil))) [.dat c, .dat c, .un] M = .ret (.ok (.dat (.lst ((List.replicate ds.length true).map .bl))) M) := by
  have hz2 : ds.length ≤ sizeLine := Nat.le_trans (Nat.le_of_lt hz) (by decide)
  have e1 : eOpT (lenG t) (eCons (eVar 1) eNil) [.dat c, .dat c, .un] M = .ret (.ok (.dat (.int (ds.length : Int))) M) := by
    simp [eOpT, eCons, eNil, eVar, nrm_dat, Ev.bind, T.bind, reK, R.ok, lenG, hlen, hz2, noX, noXk]
  have r := lc_ret (own := [2]) (gt := gNm 2) (tt := tYesF) (e := eCall lk (eCons (eOp2 ixV (eVar 0) (eVar 2)) (eCons (eOp2 ixV (eVar 1) (eVar 2)) eNil))) (g := fun _ => [.bl true]) (rg1_run e1 (by omega) (by omega)) (by rw [rng_len, Int.toNat_natCast]; exact Nat.lt_of_lt_of_le hz (by decide)) (fun d hd => by
    rw [Int.toNat_natCast] at hd
    unfold rng at hd
    obtain ⟨i, hi, rfl⟩ := List.mem_map.mp hd
    have hi := List.mem_range.mp hi
    obtain ⟨a, ha, _, e⟩ := atI_get (xs := ds) (i := ((0 : Int) + (i : Nat))) (by omega) (by omega)
    refine one_ret (ρ1 := [.dat c, .dat c, .dat (.int ((0 : Int) + (i : Nat)))]) rfl ?_
    refine call_ret (cons_ret (op2_ret (var_dat rfl) (var_dat rfl) (by rw [hix, e]; rfl)) (cons_ret (op2_ret (var_dat rfl) (var_dat rfl) (by rw [hix, e]; rfl)) nil_ret)) (hlk a ha))
  rw [r, Int.toNat_natCast]
  congr 3
  rw [List.map_replicate]
  have : ∀ l : List D, (l.flatMap fun _ => [D.bl true]) = List.replicate l.length (D.bl true) := by
    intro l
    induction l with
    | nil => rfl
    | cons a l ih => rw [List.flatMap_cons, ih]; rfl
  rw [this, rng_len]
theorem blr {n : Nat} : blsOf (List.replicate n (D.bl true)) = some (List.replicate n true) := by
  have := blsOf_map (List.replicate n true)
  rwa [List.map_replicate] at this
theorem cis {M : List MO} {d : D} : cmp .Is M (.dat d) (.dat .non) = some (.dat (.bl (isNon d)), M) := by cases d <;> rfl
theorem ei {M : List MO} {i k : Int} : cmp .Eq M (.dat (.int i)) (.dat (.int k)) = some (.dat (.bl (decide (i = k))), M) := rfl
theorem es {M : List MO} {i k : Str} : cmp .Eq M (.dat (.str i)) (.dat (.str k)) = some (.dat (.bl (decide (i = k))), M) := rfl
theorem like_step {k : Nat} (hlk : ∀ d, good k d = true → lk [.dat d, .dat d] M = .ret (.ok (.dat (.bl true)) M)) {d : D} (h : good (k + 1) d = true) : mkFn false 2 3 (bLike lk t) [.dat d, .dat d] M = .ret (.ok (.dat (.bl true)) M) := by
  have key : bLike lk t [.dat d, .dat d, .un] M = .ret (.ok (.rt (.dat (.bl true))) M) := by
    cases d with
    | non => rfl
    | bl b => 
      have i1 : ∀ b, isB (.bl b) ["list", "tuple"] false := fun b M => rfl
      have i2 : ∀ b, isB (.bl b) ["bool"] true := fun b M => rfl
      have i3 : ∀ b, isB (.bl b) ["int"] true := fun b M => rfl
      have i4 : ∀ b, isB (.bl b) ["str"] false := fun b M => rfl
      simp [bLike, sSeq, sIf, sRet, tOr, tVal, eAnd, eOp2, eOp1, eVar, nrm_dat, Ev.bind, T.bind, reK, R.ok, ofM, asB, seqK, sNil, i1 b M, i2 b M, i3 b M, i4 b M, nb, eb, cis, ei, es, isNon]
    | int i =>
      have i1 : isB (.int i) ["list", "tuple"] false := fun M => rfl
      have i2 : isB (.int i) ["bool"] false := fun M => rfl
      have i3 : isB (.int i) ["int"] true := fun M => rfl
      have i4 : isB (.int i) ["str"] false := fun M => rfl
      simp [bLike, sSeq, sIf, sRet, tOr, tVal, eAnd, eOp2, eOp1, eVar, nrm_dat, Ev.bind, T.bind, reK, R.ok, ofM, asB, seqK, sNil, i1 M, i2 M, i3 M, i4 M, nb, eb, cis, ei, es, isNon]
    | str z =>
      have i1 : isB (.str z) ["list", "tuple"] false := fun M => rfl
      have i2 : isB (.str z) ["bool"] false := fun M => rfl
      have i3 : isB (.str z) ["int"] false := fun M => rfl
      have i4 : isB (.str z) ["str"] true := fun M => rfl
      simp [bLike, sSeq, sIf, sRet, tOr, tVal, eAnd, eOp2, eOp1, eVar, nrm_dat, Ev.bind, T.bind, reK, R.ok, ofM, asB, seqK, sNil, i1 M, i2 M, i3 M, i4 M, nb, eb, cis, ei, es, isNon]
    | lst ds =>
      have i1 : isB (.lst ds) ["list", "tuple"] true := fun M => rfl
      have i2 : isB (.lst ds) ["list"] true := fun M => rfl
      have i3 : isB (.lst ds) ["tuple"] false := fun M => rfl
      unfold good at h
      rw [Bool.and_eq_true, List.all_eq_true, decide_eq_true_eq] at h
      have hz : ds.length ≤ sizeLine := Nat.le_trans (Nat.le_of_lt h.2) (by decide)
      have hc := like_lc (M := M) (t := t) (lk := lk) (c := .lst ds) (ds := ds) (fun i => rfl) rfl h.2 fun d hd => hlk d (h.1 d hd)
      simp [bLike, sSeq, sIf, sRet, tOr, tVal, eAnd, eOp2, eOp1, eOpT, eCons, eNil, eVar, nrm_dat, Ev.bind, T.bind, reK, R.ok, ofM, asB, seqK, sNil, i1 M, i2 M, i3 M, nb, eb, cis, ei, es, isNon, lenG, lenOf, hz, noX, noXk]
      rw [hc]
      simp [T.bind, reK, R.ok, Ev.bind, pu, anyG, lstD, ofM, noX, noXk, blr, seqK]
    | tup ds =>
      have i1 : isB (.tup ds) ["list", "tuple"] true := fun M => rfl
      have i2 : isB (.tup ds) ["list"] false := fun M => rfl
      have i3 : isB (.tup ds) ["tuple"] true := fun M => rfl
      unfold good at h
      rw [Bool.and_eq_true, List.all_eq_true, decide_eq_true_eq] at h
      have hz : ds.length ≤ sizeLine := Nat.le_trans (Nat.le_of_lt h.2) (by decide)
      have hc := like_lc (M := M) (t := t) (lk := lk) (c := .tup ds) (ds := ds) (fun i => rfl) rfl h.2 fun d hd => hlk d (h.1 d hd)
      simp [bLike, sSeq, sIf, sRet, tOr, tVal, eAnd, eOp2, eOp1, eOpT, eCons, eNil, eVar, nrm_dat, Ev.bind, T.bind, reK, R.ok, ofM, asB, seqK, sNil, i1 M, i2 M, i3 M, nb, eb, cis, ei, es, isNon, lenG, lenOf, hz, noX, noXk]
      rw [hc]
      simp [T.bind, reK, R.ok, Ev.bind, pu, anyG, lstD, ofM, noX, noXk, blr, seqK]
    | _ => cases h
  unfold mkFn
  rw [if_pos (show [Sl.dat d, Sl.dat d].length = 2 from rfl)]
  show (bLike lk t [.dat d, .dat d, .un] M).bind _ = _
  rw [key]
  show clean false _ (.dat (.bl true)) _ = _
  unfold clean
  dsimp only
  rw [cut_self rfl]
end
end R

set_option Elab.async false
set_option linter.all false
set_option maxRecDepth 100000
set_option maxHeartbeats 4000000
namespace R
open PySem PySem.Spec PyProof.Rows L2
variable [Keys]
/-! ### walks that leave the objects as they are -/
def Iter (M : List MO) (its : Its) (ds : List D) : Prop := match its with
  | .data es => es = ds
  | .live n item fin => n = ds.length ∧ (∀ (i : Nat) d, ds[i]? = some d → item M i = some (.dat d)) ∧ fin M = true
section
variable {M : List MO}
theorem forL_ret {item : List MO → Nat → Option Sl} {fin : List MO → Bool} {gt : CG} {b : CS} {ρ : List Sl} : ∀ (n i : Nat) (ds : List D), n = ds.length → (∀ (k : Nat) d, ds[k]? = some d → item M (i + k) = some (.dat d)) → fin M = true → (∀ (k : Nat) d, ds[k]? = some d → ∃ ρ1, gt (.dat d) ρ = some ρ1 ∧ b ρ1 M = .ret (.ok (.nx ρ) M)) →
    forL item fin gt b n i ρ M = .ret (.ok (.nx ρ) M)
  | 0, i, ds, e, _, hf, _ => by
    unfold forL
    rw [if_pos hf]
  | n + 1, i, [], e, _, _, _ => by simp at e
  | n + 1, i, d :: ds, e, hi, hf, hb => by
    obtain ⟨ρ1, h1, h2⟩ := hb 0 d rfl
    have h0 := hi 0 d rfl
    unfold forL
    rw [Nat.add_zero] at h0
    simp only [h0, h1, Ev.bind, h2, T.bind, reK, forK]
    exact forL_ret n (i + 1) ds (by simpa using e) (fun k d hk => by
      have := hi (k + 1) d hk
      rwa [show i + (k + 1) = i + 1 + k by omega] at this) hf fun k d hk => hb (k + 1) d hk
theorem forD_ret {gt : CG} {b : CS} {ρ : List Sl} : ∀ (ds : List D), (∀ (k : Nat) d, ds[k]? = some d → ∃ ρ1, gt (.dat d) ρ = some ρ1 ∧ b ρ1 M = .ret (.ok (.nx ρ) M)) → forD gt b ds ρ M = .ret (.ok (.nx ρ) M)
  | [], _ => rfl
  | d :: ds, hb => by
    obtain ⟨ρ1, h1, h2⟩ := hb 0 d rfl
    unfold forD
    simp only [h1, Ev.bind, h2, T.bind, reK, forK]
    exact forD_ret ds fun k d hk => hb (k + 1) d hk
/-- a loop whose turns leave all as it was -/
theorem for_ret {fi : CI} {its : Its} {gt : CG} {b : CS} {ρ : List Sl} {ds : List D} (h1 : fi ρ M = .ret (.ok its M)) (h2 : Iter M its ds) (hb : ∀ (k : Nat) d, ds[k]? = some d → ∃ ρ1, gt (.dat d) ρ = some ρ1 ∧ b ρ1 M = .ret (.ok (.nx ρ) M)) : sFor fi gt b ρ M = .ret (.ok (.nx ρ) M) := by
  unfold sFor Ev.bind
  rw [h1]
  cases its with
  | data es =>
    have h2 : es = ds := h2
    subst h2
    exact forD_ret es hb
  | live n item fin =>
    obtain ⟨e1, e2, e3⟩ := h2
    exact forL_ret n 0 ds e1 (fun k d hk => by rw [Nat.zero_add]; exact e2 k d hk) e3 hb
theorem compL_ret {item : List MO → Nat → Option Sl} {fin : List MO → Bool} {turn : Sl → Ev (List D)} {g : D → List D} : ∀ (n i : Nat) (ds : List D), n = ds.length → (∀ (k : Nat) d, ds[k]? = some d → item M (i + k) = some (.dat d)) → fin M = true → (∀ d ∈ ds, turn (.dat d) M = .ret (.ok (g d) M)) →
    compL item fin turn n i M = .ret (.ok (ds.flatMap g) M)
  | 0, i, [], e, _, hf, _ => by
    unfold compL
    rw [if_pos hf]
    rfl
  | 0, i, d :: ds, e, _, _, _ => by simp at e
  | n + 1, i, [], e, _, _, _ => by simp at e
  | n + 1, i, d :: ds, e, hi, hf, hb => by
    have h0 := hi 0 d rfl
    unfold compL
    rw [Nat.add_zero] at h0
    have ih := compL_ret n (i + 1) ds (by simpa using e) (fun k d hk => by
      have := hi (k + 1) d hk
      rwa [show i + (k + 1) = i + 1 + k by omega] at this) hf fun d hd => hb d (List.mem_cons_of_mem _ hd)
    simp only [h0, Ev.bind, hb d List.mem_cons_self, T.bind, reK, ih, R.ok, List.flatMap_cons]
theorem iter_n {its : Its} {ds : List D} (h : Iter M its ds) : its.n = ds.length := by
  cases its with
  | data es => have h : es = ds := h; subst h; rfl
  | live n item fin => exact h.1
theorem compR_ret {its : Its} {turn : Sl → Ev (List D)} {g : D → List D} {ds : List D} (h2 : Iter M its ds) (hb : ∀ d ∈ ds, turn (.dat d) M = .ret (.ok (g d) M)) : compR its turn 0 M = .ret (.ok (ds.flatMap g) M) := by
  cases its with
  | data es =>
    have h2 : es = ds := h2
    subst h2
    unfold compR
    simp only [List.drop_zero]
    exact comp_ret hb
  | live n item fin =>
    obtain ⟨e1, e2, e3⟩ := h2
    unfold compR
    simp only [Nat.sub_zero]
    exact compL_ret n 0 ds e1 (fun k d hk => by rw [Nat.zero_add]; exact e2 k d hk) e3 hb
/-- a comprehension -/
theorem lc_run {own : List Nat} {fi : CI} {its : Its} {gt : CG} {tt : CT} {e : CE} {ρ : List Sl} {ds : List D} {g : D → List D} (h1 : fi ρ M = .ret (.ok its M)) (h2 : Iter M its ds) (hz : ds.length < sizeLine) (hb : ∀ d ∈ ds, oneT gt tt e (wipeS ρ own) (.dat d) M = .ret (.ok (g d) M)) :
    eLc false own fi gt tt e ρ M = .ret (.ok (.dat (.lst (ds.flatMap g))) M) := by
  unfold eLc Ev.bind
  rw [h1]
  simp only [T.bind, reK]
  rw [if_pos (show its.n < sizeLine by rw [iter_n h2]; exact hz)]
  simp only [compR_ret h2 hb, T.bind, reK, ofM, mkL]
  rfl
/-- .. of two clauses -/
theorem lc2_run {own vs1 : List Nat} {fi fi1 : CI} {its : Its} {its1 : D → Its} {es1 : D → List D} {gt gt1 : CG} {t1 : CT} {e : CE} {ρ : List Sl} {ρ1 : D → List Sl} {ds : List D} {g : D → D → List D} (h1 : fi ρ M = .ret (.ok its M)) (h2 : Iter M its ds) (hz : ds.length ≤ 4000)
    (hg : ∀ d ∈ ds, gt (.dat d) (wipeS ρ own) = some (ρ1 d)) (hi : ∀ d ∈ ds, fi1 (ρ1 d) M = .ret (.ok (its1 d) M)) (hI : ∀ d ∈ ds, Iter M (its1 d) (es1 d)) (hz1 : ∀ d ∈ ds, (es1 d).length ≤ 4000)
    (hb : ∀ d ∈ ds, ∀ x ∈ es1 d, oneT gt1 t1 e (wipeS (ρ1 d) vs1) (.dat x) M = .ret (.ok (g d x) M)) :
    eLc2 false own fi gt tYesF fi1 vs1 gt1 t1 e ρ M = .ret (.ok (.dat (.lst (ds.flatMap fun d => (es1 d).flatMap (g d)))) M) := by
  unfold eLc2 Ev.bind
  rw [h1]
  simp only [T.bind, reK]
  rw [if_pos (show its.n ≤ 4000 by rw [iter_n h2]; exact hz)]
  have hb2 : ∀ d ∈ ds, twoT gt tYesF fi1 vs1 gt1 t1 e (wipeS ρ own) (.dat d) M = .ret (.ok ((es1 d).flatMap (g d)) M) := fun d hd => by
    unfold twoT
    rw [hg d hd]
    have q : (its1 d).n ≤ 4000 := by rw [iter_n (hI d hd)]; exact hz1 d hd
    simp only [tYesF, noX, noXk, Ev.bind, R.ok, T.bind, reK, if_true, hi d hd, if_pos q]
    exact compR_ret (hI d hd) (hb d hd)
  simp only [compR_ret h2 hb2, T.bind, reK, ofM, mkL]
  rfl
end
end R

set_option Elab.async false
set_option linter.all false
set_option maxRecDepth 100000
set_option maxHeartbeats 4000000
namespace R
open PySem PySem.Spec PyProof.Rows L2
variable [Keys]
/-! ### rows of a board: a list, a tuple, a list that may change -/
structure Rws (M : List MO) (R : Sl) (ds : List D) : Prop where
  it : ∃ its, itV M R = some its ∧ Iter M its ds
  en : ∃ its, enV M R = some its ∧ Iter M its (enumD 0 ds)
  len : lenOf M R = some ds.length
  ix : ∀ i, ixV M R (.dat (.int i)) = (atI ds i).map fun d => (.dat d, M)
  sl : ∀ k : Nat, ∃ s, slV M R none (some (k : Int)) = some (s, M) ∧ itV M s = some (.data (ds.take k))
  nrm : nrm M R = R
  un : R ≠ .un
theorem enum_get : ∀ (ds : List D) (j i : Nat), (enumD j ds)[i]? = (ds[i]?).map fun d => .tup [.int ((j + i : Nat) : Int), d]
  | [], _, _ => by simp [enumD]
  | d :: ds, j, 0 => by simp [enumD]
  | d :: ds, j, i + 1 => by
    have := enum_get ds (j + 1) i
    simp only [enumD, List.getElem?_cons_succ, this]
    rw [show j + 1 + i = j + (i + 1) by omega]
theorem enum_len : ∀ (ds : List D) (j : Nat), (enumD j ds).length = ds.length
  | [], _ => rfl
  | d :: ds, j => by simp [enumD, enum_len ds (j + 1)]
theorem cut_take {ds : List D} {k : Nat} : cutD ds none (some (k : Int)) = ds.take k := by
  unfold cutD
  rw [HT.sIx_nat, HT.sIx_none, List.drop_zero, Nat.sub_zero]
  by_cases h : k ≤ ds.length
  · rw [Nat.min_eq_left h]
  · rw [Nat.min_eq_right (by omega), List.take_of_length_le (Nat.le_refl _), List.take_of_length_le (by omega)]
section
variable {M : List MO} {ds : List D}
theorem rws_lst : Rws M (.dat (.lst ds)) ds := ⟨⟨_, rfl, rfl⟩, ⟨_, rfl, rfl⟩, rfl, fun i => rfl, fun k => ⟨.dat (.lst (ds.take k)), by
  show some (Sl.dat (.lst (cutD ds none (some (k : Int)))), M) = _
  rw [cut_take], rfl⟩, rfl, by simp⟩
theorem rws_tup : Rws M (.dat (.tup ds)) ds := ⟨⟨_, rfl, rfl⟩, ⟨_, rfl, rfl⟩, rfl, fun i => rfl, fun k => ⟨.dat (.tup (ds.take k)), by
  show some (Sl.dat (.tup (cutD ds none (some (k : Int)))), M) = _
  rw [cut_take], rfl⟩, rfl, by simp⟩
theorem rws_mu {p : Nat} (h : M[p]? = some (.lst (ds.map .dat))) : Rws M (.mu p) ds := by
  refine ⟨⟨.live ds.length (liveI p) (liveF p ds.length), ?_, rfl, fun i d hd => ?_, ?_⟩, ⟨.live ds.length (liveE p) (liveF p ds.length), ?_, (enum_len ds 0).symm, fun i d hd => ?_, ?_⟩, ?_, fun i => ?_, fun k => ⟨.dat (.lst (ds.take k)), ?_, rfl⟩, ?_, by simp⟩
  · simp only [itV, h, List.length_map]
  · simp only [liveI, h, List.getElem?_map, hd]; rfl
  · simp only [liveF, h, List.length_map]; simp
  · simp only [enV, h, List.length_map]
  · rw [enum_get] at hd
    cases e : ds[i]? with
    | none => rw [e] at hd; cases hd
    | some x =>
      rw [e] at hd
      cases hd
      simp only [liveE, h, List.getElem?_map, e, Option.map_some, Nat.zero_add]
  · simp only [liveF, h, List.length_map]; simp
  · simp only [lenOf, h, List.length_map]
  · simp only [ixV, h]
    unfold atI
    rw [List.length_map]
    cases ixN ds.length i with
    | none => rfl
    | some k =>
      simp only [Option.bind_some, List.getElem?_map]
      cases ds[k]? <;> rfl
  · have e : lstD M (.mu p) = some ds := by simp only [lstD, h, datsOf_map]
    unfold slV
    simp only [e, cut_take]
  · exact nrm_l h
/-- an int among ints -/
theorem cin {p : Int} {ps : List Int} : cmp .In M (.dat (.int p)) (.dat (.lst (ps.map .int))) = some (.dat (.bl (decide (p ∈ ps))), M) := by
  have e0 : plain 58 (.int p) = true := by simp [plain]
  have e1 : plains 58 (ps.map D.int) = true := by
    induction ps with
    | nil => simp [plains]
    | cons a ps ih => simp [plains, plain, ih]
  have e2 : ((pys (ps.map D.int)).any fun z => PyData.eqv z (py (.int p))) = decide (p ∈ ps) := by
    induction ps with
    | nil => simp [pys]
    | cons a ps ih =>
      have ih := ih (by
        rw [List.map_cons] at e1
        unfold plains at e1
        exact (Bool.and_eq_true_iff.mp e1).2)
      have e3 : PyData.eqv (py (.int a)) (py (.int p)) = decide (a = p) := by
        rw [Bool.eq_iff_iff]
        simp [py, PyData.eqv]
      simp only [List.map_cons, pys, List.any_cons, ih, e3]
      by_cases q : a = p
      · simp [q]
      · have q2 : ¬ p = a := fun z => q z.symm
        simp [q, q2]
  unfold cmp
  simp only [cmpV, viewD, e0, e1, e2, Bool.and_self, if_true]
  rfl
end
end R

set_option Elab.async false
set_option linter.all false
set_option maxRecDepth 100000
set_option maxHeartbeats 4000000
namespace R
open PySem PySem.Spec PyProof.Rows L2
variable [Keys]
/-! ### Board.__init__ on a good plan -/
def bCheck : CS := (sIf (tNot (tVal (chn .LtE .LtE (eVar 1) (eVar 0) (eVar 2)))) (fun _ => bad) sNil)
def gRow : CG := gTp 2 (gsCons (gNm 4) (gsCons (gNm 5) gsNil))
def inT1 (t : Tbl) : CT := (tOr (tNot (tVal (chn .LtE .Lt (fun _ => ok (.dat (.int 0))) (eVar 4) (eVar 1)))) (tVal (eOp2 (cmp .In) (eVar 4) (eLc false [6, 7] (iVal (eSl (eVar 2) oNone (oSome (eVar 3)))) (gTp 2 (gsCons (gNm 6) (gsCons (gNm 7) gsNil))) tYesF (eVar 6)))))
def inE2 (t : Tbl) : CE := (eAnd (chn .LtE .LtE (fun _ => ok (.dat (.int 1))) (eOpT (lenG t) (eCons (eVar 5) eNil)) (fun _ => ok (.dat (.int 4)))) (eOpT (pu (anyG true)) (eCons (eLc false [9] (iVal (eVar 5)) (gNm 9) tYesF (eOp2 (cmp .In) (eVar 9) (fun _ => ok (.dat (.str ".o><"))))) eNil)))
def inT3 (t : Tbl) : CT := (tOr (tNot (tVal (eVar 8))) (tVal (eOp2 (cmp .NotEq) (eOpT (lenG t) (eCons (eVar 5) eNil)) (eOpT (lenG t) (eCons (eOp2 ixV (eOp2 ixV (eVar 2) (fun _ => ok (.dat (.int 0)))) (fun _ => ok (.dat (.int 1)))) eNil)))))
def inB (t : Tbl) : CS := (sFgt [3, 4, 5, 8] (sSeq (sIf (inT1 t) (fun _ => bad) sNil)
  (sSeq (sSet 8 (inE2 t))
  (sIf (inT3 t) (fun _ => bad) sNil))))
structure BoardOk (k : Int) (rows : List (Int × Str)) (w : Nat) : Prop where
  h1 : 1 ≤ rows.length
  h2 : rows.length ≤ 4
  w1 : 1 ≤ w
  w2 : w ≤ 4
  k1 : 1 ≤ k
  k2 : k ≤ 6
  nd : (rows.map (·.1)).Nodup
  lo : ∀ r ∈ rows, 0 ≤ r.1 ∧ r.1 < k
  sg : ∀ r ∈ rows, r.2.length = w ∧ okS r.2
theorem PlanOk.board {high wide most w : Nat} {k : Int} {rows : List (Int × Str)} (h : PlanOk high wide most k rows w) (a : high ≤ 4) (b : wide ≤ 4) (c : most ≤ 6) : BoardOk k rows w :=
  ⟨h.h1, by have := h.h2; omega, h.w1, by have := h.w2; omega, by have := h.h1; have := h.k1; omega, by have := h.k2; omega, h.nd, h.lo, h.sg⟩
section
variable {M : List MO} {t : Tbl} {RR : Sl} {k : Int} {rows : List (Int × Str)} {w : Nat}
theorem check_run {a b c : Int} (h1 : b ≤ a) (h2 : a ≤ c) : mkFn false 3 3 bCheck [.dat (.int a), .dat (.int b), .dat (.int c)] M = .ret (.ok (.dat .non) M) := by
  have e : bCheck [.dat (.int a), .dat (.int b), .dat (.int c)] M = .ret (.ok (.nx [.dat (.int a), .dat (.int b), .dat (.int c)]) M) := by
    simp [bCheck, sIf, tNot, tVal, chn, eVar, nrm_dat, Ev.bind, T.bind, reK, R.ok, cmp, cmpV, h1, h2, asB, ofM, sNil]
  unfold mkFn
  rw [if_pos (show [Sl.dat (D.int a), Sl.dat (D.int b), Sl.dat (D.int c)].length = 3 from rfl)]
  show (bCheck [.dat (.int a), .dat (.int b), .dat (.int c)] M).bind _ = _
  rw [e]
  show T.ret (Re.ok (Sl.dat D.non) (cut M.length M)) = _
  rw [cut_self rfl]
theorem turn1 {s : Sl} {i : Nat} {p : Int} {z : Str} (hR : Rws M RR (rows.map rowD)) (hr : rows[i]? = some (p, z)) (b : BoardOk k rows w) :
    inT1 t [s, .dat (.int k), RR, .dat (.int (i : Int)), .dat (.int p), .dat (.str z), .un, .un, .un, .un, .un, .un, .un] M = .ret (.ok false M) := by
  have hm : (p, z) ∈ rows := List.mem_of_getElem? hr
  have c1 : 0 ≤ p := (b.lo _ hm).1
  have c2 : p < k := (b.lo _ hm).2
  obtain ⟨sl, e1, e2⟩ := hR.sl i
  have hv2 : eVar 2 [s, .dat (.int k), RR, .dat (.int (i : Int)), .dat (.int p), .dat (.str z), .un, .un, .un, .un, .un, .un, .un] M = .ret (.ok RR M) := var_ret rfl hR.un hR.nrm
  have hi : iVal (eSl (eVar 2) oNone (oSome (eVar 3))) [s, .dat (.int k), RR, .dat (.int (i : Int)), .dat (.int p), .dat (.str z), .un, .un, .un, .un, .un, .un, .un] M = .ret (.ok (.data ((rows.map rowD).take i)) M) := by
    unfold iVal eSl Ev.bind
    rw [hv2]
    simp [T.bind, reK, oNone, oSome, Ev.bind, R.ok, eVar, nrm_dat, ofM, e1, e2]
  have hl := lc_run (own := [6, 7]) (gt := gTp 2 (gsCons (gNm 6) (gsCons (gNm 7) gsNil))) (tt := tYesF) (e := eVar 6) (ds := (rows.map rowD).take i) (g := fun d => match d with
    | .tup [.int q, _] => [.int q]
    | _ => []) hi rfl (by rw [List.length_take, List.length_map]; have := b.h2; unfold sizeLine; omega) (fun d hd => by
      have hd := List.mem_of_mem_take hd
      obtain ⟨r, hr, rfl⟩ := List.mem_map.mp hd
      exact one_ret (ρ1 := [s, .dat (.int k), RR, .dat (.int (i : Int)), .dat (.int p), .dat (.str z), .dat (.int r.1), .dat (.str r.2), .un, .un, .un, .un, .un]) rfl (var_dat rfl))
  have hf : ∀ l : List (Int × Str), ((l.map rowD).flatMap fun d => match d with
    | .tup [.int q, _] => [D.int q]
    | _ => []) = (l.map (·.1)).map .int := by
    intro l
    induction l with
    | nil => rfl
    | cons a l ih => rw [List.map_cons, List.flatMap_cons, ih]; rfl
  rw [← List.map_take, hf] at hl
  have hn : p ∉ (rows.take i).map (·.1) := by
    intro hp
    have hk : i < rows.length := (List.getElem?_eq_some_iff.mp hr).1
    have nd := b.nd
    have e : rows = rows.take i ++ (p, z) :: rows.drop (i + 1) := by
      have : rows[i] = (p, z) := (List.getElem?_eq_some_iff.mp hr).2
      rw [← this, List.getElem_cons_drop, List.take_append_drop]
    rw [e, List.map_append, List.nodup_append] at nd
    exact nd.2.2 p hp p (by simp) rfl
  have hc : eOp2 (cmp .In) (eVar 4) (eLc false [6, 7] (iVal (eSl (eVar 2) oNone (oSome (eVar 3)))) (gTp 2 (gsCons (gNm 6) (gsCons (gNm 7) gsNil))) tYesF (eVar 6)) [s, .dat (.int k), RR, .dat (.int (i : Int)), .dat (.int p), .dat (.str z), .un, .un, .un, .un, .un, .un, .un] M = .ret (.ok (.dat (.bl false)) M) :=
    op2_ret (var_dat rfl) hl (by rw [cin, decide_eq_false hn])
  unfold inT1 tOr tNot tVal Ev.bind
  rw [show chn .LtE .Lt (fun _ => ok (.dat (.int 0))) (eVar 4) (eVar 1) [s, .dat (.int k), RR, .dat (.int (i : Int)), .dat (.int p), .dat (.str z), .un, .un, .un, .un, .un, .un, .un] M = .ret (.ok (.dat (.bl true)) M) by
    simp [chn, eVar, nrm_dat, Ev.bind, T.bind, reK, R.ok, cmp, cmpV, c1, c2, ofM]]
  simp [T.bind, reK, asB, R.ok, Ev.bind, hc]
theorem flat_rep {α : Type} {a : D} : ∀ l : List α, (l.flatMap fun _ => [a]) = List.replicate l.length a
  | [] => rfl
  | x :: l => by rw [List.flatMap_cons, flat_rep l]; rfl
theorem sgn_in {c : Nat} (h : c ∈ ([46, 111, 62, 60] : List Nat)) : cmp .In M (.dat (sgn c)) (.dat (.str ".o><")) = some (.dat (.bl true), M) := by
  have e : (Str.ofString ".o><").cps.toList = [46, 111, 62, 60] := by decide
  unfold cmp sgn
  simp only [cmpV, e]
  rw [decide_eq_true h]
  rfl
theorem len_ret {f : CE} {ρ : List Sl} {s : Sl} {n : Nat} (h1 : f ρ M = .ret (.ok s M)) (h2 : lenOf M s = some n) (hz : n ≤ sizeLine) : eOpT (lenG t) (eCons f eNil) ρ M = .ret (.ok (.dat (.int (n : Int))) M) := by
  unfold eOpT Ev.bind
  rw [cons_ret h1 nil_ret]
  simp only [T.bind, reK, lenG, h2, noX, noXk, if_pos hz]
theorem turn2 {ρ : List Sl} {z : Str} (h5 : ρ[5]? = some (.dat (.str z))) (h9 : ρ[9]? = some .un) (w1 : 1 ≤ z.length) (w2 : z.length ≤ 4) (hk : okS z) : inE2 t ρ M = .ret (.ok (.dat (.bl true)) M) := by
  have hz : z.length ≤ sizeLine := Nat.le_trans w2 (by decide)
  have l5 : eOpT (lenG t) (eCons (eVar 5) eNil) ρ M = .ret (.ok (.dat (.int (z.length : Int))) M) := len_ret (var_dat h5) rfl hz
  have c1 : (1 : Int) ≤ (z.length : Int) := by omega
  have c2 : (z.length : Int) ≤ 4 := by omega
  have hi : iVal (eVar 5) ρ M = .ret (.ok (.data (sgns z)) M) := by
    unfold iVal Ev.bind
    rw [var_dat h5]
    rfl
  have hl := lc_run (own := [9]) (gt := gNm 9) (tt := tYesF) (e := eOp2 (cmp .In) (eVar 9) (fun _ => ok (.dat (.str ".o><")))) (ds := sgns z) (g := fun _ => [.bl true]) hi rfl (by
      unfold sgns
      rw [List.length_map]
      have : z.cps.toList.length = z.length := rfl
      rw [this]
      unfold sizeLine
      omega) (fun d hd => by
      unfold sgns at hd
      obtain ⟨c, hc, rfl⟩ := List.mem_map.mp hd
      have hlen : 9 < ρ.length := (List.getElem?_eq_some_iff.mp h9).1
      refine one_ret (ρ1 := (wipeS ρ [9]).set 9 (.dat (sgn c))) rfl ?_
      refine op2_ret (var_dat (d := sgn c) ?_) rfl (sgn_in (hk c hc))
      exact List.getElem?_set_self (by unfold wipeS wipeS; rw [List.length_set]; exact hlen))
  rw [flat_rep] at hl
  unfold inE2 eAnd Ev.bind
  rw [show chn .LtE .LtE (fun _ => ok (.dat (.int 1))) (eOpT (lenG t) (eCons (eVar 5) eNil)) (fun _ => ok (.dat (.int 4))) ρ M = .ret (.ok (.dat (.bl true)) M) by
    unfold chn Ev.bind
    simp [T.bind, reK, R.ok, l5, cmp, cmpV, c1, c2, ofM, Ev.bind]]
  simp only [T.bind, reK]
  unfold eOpT Ev.bind
  rw [cons_ret hl nil_ret]
  simp [T.bind, reK, pu, anyG, lstD, blr, ofM, noX, noXk]
theorem turn3 {ρ : List Sl} {z z0 : Str} {p0 : Int} (h5 : ρ[5]? = some (.dat (.str z))) (h8 : ρ[8]? = some (.dat (.bl true))) (h2 : ρ[2]? = some RR) (hR : Rws M RR (rows.map rowD)) (h0 : rows[0]? = some (p0, z0)) (e : z.length = z0.length) (hz : z.length ≤ 4) : inT3 t ρ M = .ret (.ok false M) := by
  have q1 : z.length ≤ sizeLine := Nat.le_trans hz (by decide)
  have q2 : z0.length ≤ sizeLine := e ▸ q1
  have l5 : eOpT (lenG t) (eCons (eVar 5) eNil) ρ M = .ret (.ok (.dat (.int (z.length : Int))) M) := len_ret (var_dat h5) rfl q1
  have hrow : ixV M RR (.dat (.int 0)) = some (.dat (rowD (p0, z0)), M) := by
    rw [hR.ix]
    have hl : 0 < rows.length := (List.getElem?_eq_some_iff.mp h0).1
    have : atI (rows.map rowD) 0 = some (rowD (p0, z0)) := by
      unfold atI ixN
      rw [if_pos (by omega), List.length_map, if_pos (by omega)]
      show (rows.map rowD)[0]? = _
      rw [List.getElem?_map, h0]; rfl
    rw [this]; rfl
  have l0 : eOpT (lenG t) (eCons (eOp2 ixV (eOp2 ixV (eVar 2) (fun _ => ok (.dat (.int 0)))) (fun _ => ok (.dat (.int 1)))) eNil) ρ M = .ret (.ok (.dat (.int (z0.length : Int))) M) :=
    len_ret (s := .dat (.str z0)) (op2_ret (op2_ret (var_ret h2 hR.un hR.nrm) rfl hrow) rfl rfl) rfl q2
  unfold inT3 tOr tNot tVal Ev.bind
  rw [var_dat h8]
  simp only [T.bind, reK, asB, R.ok, Bool.not_true, Bool.false_eq_true, if_false]
  rw [op2_ret l5 l0 (u := .dat (.bl false)) (M3 := M) (by
    unfold cmp
    simp only [cmpV]
    rw [e]
    simp)]
  rfl
theorem init_turn {s : Sl} {i : Nat} {p : Int} {z : Str} (hR : Rws M RR (rows.map rowD)) (hr : rows[i]? = some (p, z)) (b : BoardOk k rows w) :
    inB t [s, .dat (.int k), RR, .dat (.int (i : Int)), .dat (.int p), .dat (.str z), .un, .un, .un, .un, .un, .un, .un] M = .ret (.ok (.nx [s, .dat (.int k), RR, .un, .un, .un, .un, .un, .un, .un, .un, .un, .un]) M) := by
  have hm : (p, z) ∈ rows := List.mem_of_getElem? hr
  obtain ⟨s1, s2⟩ := b.sg _ hm
  have s1 : z.length = w := s1
  have h0 : rows[0]? = some (rows[0]'(by have := b.h1; omega)) := List.getElem?_eq_getElem _
  have e0 := (b.sg _ (List.mem_of_getElem? h0)).1
  have t1 := turn1 (t := t) (s := s) hR hr b
  have w1 := b.w1
  have w2 := b.w2
  have t2 := turn2 (M := M) (t := t) (ρ := [s, .dat (.int k), RR, .dat (.int (i : Int)), .dat (.int p), .dat (.str z), .un, .un, .un, .un, .un, .un, .un]) (z := z) rfl rfl (by omega) (by omega) s2
  have t3 := turn3 (M := M) (t := t) (ρ := [s, .dat (.int k), RR, .dat (.int (i : Int)), .dat (.int p), .dat (.str z), .un, .un, .dat (.bl true), .un, .un, .un, .un]) (z := z) rfl rfl rfl hR h0 (s1.trans e0.symm) (by omega)
  unfold inB sFgt sSeq sIf sSet Ev.bind
  rw [t1]
  simp only [T.bind, reK, R.ok, Ev.bind, seqK, sNil, Bool.false_eq_true, if_false, t2, List.set_cons_succ, List.set_cons_zero, t3]
  rfl
end
end R

set_option Elab.async false
set_option linter.all false
set_option maxRecDepth 100000
set_option maxHeartbeats 4000000
namespace R
open PySem PySem.Spec PyProof.Rows L2
variable [Keys]
/-! ### the fields of a board -/
def rowT (r : Int × Str) : Str := Str.ofString (toString r.1) ++ " " ++ r.2
def textT (k : Int) (rows : List (Int × Str)) : Str := Str.ofString (toString k) ++ ": " ++ Txt.join " / " (rows.map rowT)
def kO : D → Int × Str
  | .tup [.int i, .str z] => (i, z)
  | _ => (0, Str.empty)
def kI (d x : D) : List D := match d, x with
  | .tup [.int i, _], .tup [.int c, .str s] => if s = "." then [] else [.tup [.int i, .int c]]
  | _, _ => []
/-- the keys of the i-th row -/
def keysR (i : Nat) (z : Str) : List D := (enumD 0 (sgns z)).flatMap (kI (.tup [.int (i : Nat), .str z]))
def keysF : Nat → List (Int × Str) → List D
  | _, [] => []
  | i, r :: rows => keysR i r.2 ++ keysF (i + 1) rows
def boardF (k : Int) (rows : List (Int × Str)) : List (Str × D) := [("own_ticks", .int k), ("own_places", .lst (rows.map fun r => .int r.1)), ("own_signs", .lst (rows.map fun r => .str r.2)), ("own_text", .str (textT k rows)), ("own_keys", .lst (keysF 0 rows))]
def boardD (k : Int) (rows : List (Int × Str)) : D := .ins 0 (boardF k rows)
section
variable {M : List MO} {t : Tbl} {RR : Sl} {k : Int} {rows : List (Int × Str)} {w : Nat}
theorem fld_run {f : Str} {fv fo : CE} {ρ : List Sl} {v : Sl} {s : Nat} {fs : List (Str × Sl)} (h1 : fv ρ M = .ret (.ok v M)) (h2 : fo ρ M = .ret (.ok (.mu s) M)) (h3 : M[s]? = some (.ins 0 fs)) (h4 : fs.length < 1000) : sFld f [0] fv fo ρ M = .ret (.ok (.nx ρ) (M.set s (.ins 0 (putS f v fs)))) := by
  unfold sFld Ev.bind
  rw [h1]
  simp only [T.bind, reK]
  rw [h2]
  simp only [T.bind, reK, ofM, stF, h3]
  rw [if_pos (by simp [h4])]
  rfl
def gD (h : Int × Str → D) : D → List D
  | .tup [.int p, .str z] => [h (p, z)]
  | _ => []
theorem flat_rows (h : Int × Str → D) : ∀ l : List (Int × Str), (l.map rowD).flatMap (gD h) = l.map h
  | [] => rfl
  | a :: l => by rw [List.map_cons, List.flatMap_cons, flat_rows h l]; rfl
theorem row_lc {e : CE} {h : Int × Str → D} {s x3 x6 x7 x8 x9 x10 x11 x12 : Sl} (hR : Rws M RR (rows.map rowD)) (hz : rows.length ≤ 4) (he : ∀ r ∈ rows, e [s, .dat (.int k), RR, x3, .dat (.int r.1), .dat (.str r.2), x6, x7, x8, x9, x10, x11, x12] M = .ret (.ok (.dat (h r)) M)) :
    eLc false [4, 5] (iVal (eVar 2)) gRow tYesF e [s, .dat (.int k), RR, x3, .un, .un, x6, x7, x8, x9, x10, x11, x12] M = .ret (.ok (.dat (.lst (rows.map h))) M) := by
  obtain ⟨its, e1, e2⟩ := hR.it
  have hi : iVal (eVar 2) [s, .dat (.int k), RR, x3, .un, .un, x6, x7, x8, x9, x10, x11, x12] M = .ret (.ok its M) := by
    unfold iVal Ev.bind
    rw [var_ret rfl hR.un hR.nrm]
    simp only [T.bind, reK, e1]
  rw [← flat_rows h]
  refine lc_run hi e2 (by rw [List.length_map]; unfold sizeLine; omega) fun d hd => ?_
  obtain ⟨r, hr, rfl⟩ := List.mem_map.mp hd
  exact one_ret (ρ1 := [s, .dat (.int k), RR, x3, .dat (.int r.1), .dat (.str r.2), x6, x7, x8, x9, x10, x11, x12]) rfl (he r hr)
theorem small_log {p : Int} (h0 : 0 ≤ p) (h1 : p ≤ 100) : p.natAbs.log2 < 1920 := by
  have := Nat.log2_le_self p.natAbs
  omega
theorem small_len {p : Int} (h0 : 0 ≤ p) (h1 : p ≤ 100) : (Str.ofString (toString p)).length ≤ 3 := by
  obtain ⟨n, rfl⟩ := Int.eq_ofNat_of_zero_le h0
  have key : ∀ n : Fin 101, (Str.ofString (toString ((n : Nat) : Int))).length ≤ 3 := by decide +kernel
  exact key ⟨n, by omega⟩
theorem fmt_int {f : CE} {ρ : List Sl} {p : Int} (e : f ρ M = .ret (.ok (.dat (.int p)) M)) (h0 : 0 ≤ p) (h1 : p ≤ 100) : eOp1 fmtV f ρ M = .ret (.ok (.dat (.str (Str.ofString (toString p)))) M) :=
  op1_ret e (by
    unfold fmtV
    dsimp only
    rw [if_pos (small_log h0 h1)])
theorem fmt_str {f : CE} {ρ : List Sl} {z : Str} (e : f ρ M = .ret (.ok (.dat (.str z)) M)) (h : z.length ≤ sizeLine) : eOp1 fmtV f ρ M = .ret (.ok (.dat (.str z)) M) :=
  op1_ret e (by
    unfold fmtV
    dsimp only
    rw [if_pos h])
theorem js_nil {acc : Str} {ρ : List Sl} : jsL [] acc ρ M = .ret (.ok (.dat (.str acc)) M) := rfl
theorem js_cons {f : CE} {fs : List CE} {acc y : Str} {ρ : List Sl} {r : T (Re Sl)} (e : f ρ M = .ret (.ok (.dat (.str y)) M)) (hz : (acc ++ y).length ≤ sizeLine) (h : jsL fs (acc ++ y) ρ M = r) : jsL (f :: fs) acc ρ M = r := by
  unfold jsL Ev.bind
  rw [e]
  simp only [T.bind, reK, asS, R.ok, Ev.bind]
  rw [if_pos hz]
  exact h
theorem row_text {ρ : List Sl} {p : Int} {z : Str} (h4 : ρ[4]? = some (.dat (.int p))) (h5 : ρ[5]? = some (.dat (.str z))) (h0 : 0 ≤ p) (h1 : p ≤ 100) (hz : z.length ≤ 4) :
    jsL [(eOp1 fmtV (eVar 4)), (fun _ => ok (.dat (.str " "))), (eOp1 fmtV (eVar 5))] Str.empty ρ M = .ret (.ok (.dat (.str (rowT (p, z)))) M) := by
  have l1 := small_len h0 h1
  have l2 : (Str.ofString " ").length = 1 := by decide
  have q : z.length ≤ sizeLine := Nat.le_trans hz (by decide)
  refine js_cons (fmt_int (var_dat h4) h0 h1) (by rw [Str.empty_append]; unfold sizeLine; omega) ?_
  rw [Str.empty_append]
  refine js_cons rfl (by rw [Str.length_append]; show _ + (Str.ofString " ").length ≤ _; unfold sizeLine; omega) ?_
  refine js_cons (fmt_str (var_dat h5) q) (by rw [Str.length_append, Str.length_append]; show _ + (Str.ofString " ").length + _ ≤ _; unfold sizeLine; omega) ?_
  rfl
theorem one_test {gt : CG} {tt : CT} {e : CE} {ρ ρ1 : List Sl} {s : Sl} {d : D} {b : Bool} (h1 : gt s ρ = some ρ1) (h2 : tt ρ1 M = .ret (.ok b M)) (h3 : e ρ1 M = .ret (.ok (.dat d) M)) : oneT gt tt e ρ s M = .ret (.ok (if b then [d] else []) M) := by
  unfold oneT
  rw [h1]
  cases b <;> simp [noX, noXk, Ev.bind, R.ok, T.bind, reK, h2, h3, frz, ofM, fz1]
/-- the keys -/
def keysC : CE := (eLc2 false [11, 5, 12, 9] (iEn (eFld "own_signs" [0] (eVar 0))) (gTp 2 (gsCons (gNm 11) (gsCons (gNm 5) gsNil))) tYesF (iEn (eVar 5)) [12, 9] (gTp 2 (gsCons (gNm 12) (gsCons (gNm 9) gsNil))) (tVal (eOp2 (cmp .NotEq) (eVar 9) (fun _ => ok (.dat (.str "."))))) (eTup (eCons (eVar 11) (eCons (eVar 12) eNil))))
theorem enum_mem {ds : List D} : ∀ {j : Nat} {d : D}, d ∈ enumD j ds → ∃ i x, d = .tup [.int (i : Nat), x] ∧ x ∈ ds := by
  induction ds with
  | nil => intro j d h; simp [enumD] at h
  | cons a ds ih =>
    intro j d h
    unfold enumD at h
    rcases List.mem_cons.mp h with e | e
    · exact ⟨j, a, e, List.mem_cons_self⟩
    · obtain ⟨i, x, e1, e2⟩ := ih e
      exact ⟨i, x, e1, List.mem_cons_of_mem _ e2⟩
theorem keys_flat : ∀ (rows : List (Int × Str)) (i : Nat), ((enumD i (rows.map fun r => .str r.2)).flatMap fun d => (enumD 0 (sgns (kO d).2)).flatMap (kI d)) = keysF i rows
  | [], _ => rfl
  | r :: rows, i => by
    rw [List.map_cons]
    show ((D.tup [.int (i : Nat), .str r.2] :: enumD (i + 1) (rows.map fun r => .str r.2)).flatMap _) = keysR i r.2 ++ keysF (i + 1) rows
    rw [List.flatMap_cons, keys_flat rows (i + 1)]
    rfl
theorem keys_run {s : Nat} {x1 x2 x3 x4 x5 x6 x7 x8 x9 x10 x11 x12 : Sl} {fs : List (Str × Sl)} (h3 : M[s]? = some (.ins 0 fs)) (h4 : fs.lookup ("own_signs" : Str) = some (.dat (.lst (rows.map fun r => .str r.2)))) (hz : rows.length ≤ 4) (hz2 : ∀ r ∈ rows, r.2.length ≤ 4) :
    keysC [.mu s, x1, x2, x3, x4, x5, x6, x7, x8, x9, x10, x11, x12] M = .ret (.ok (.dat (.lst (keysF 0 rows))) M) := by
  have hn : nrm M (.mu s) = .mu s := by simp only [nrm, h3]
  have hf : iEn (eFld "own_signs" [0] (eVar 0)) [.mu s, x1, x2, x3, x4, x5, x6, x7, x8, x9, x10, x11, x12] M = .ret (.ok (.data (enumD 0 (rows.map fun r => .str r.2))) M) := by
    unfold iEn eFld Ev.bind
    rw [var_ret rfl (by simp) hn]
    simp [T.bind, reK, ofM, clsAt, h3, fldV, h4, nrm_dat, enV]
  rw [← keys_flat rows 0]
  refine lc2_run (its1 := fun d => .data (enumD 0 (sgns (kO d).2))) (ρ1 := fun d => [.mu s, x1, x2, x3, x4, .dat (.str (kO d).2), x6, x7, x8, .un, x10, .dat (.int (kO d).1), .un]) hf rfl (by rw [enum_len, List.length_map]; omega) (fun d hd => ?_) (fun d hd => ?_) (fun d hd => rfl) (fun d hd => ?_) fun d hd x hx => ?_
  · obtain ⟨i, y, rfl, hy⟩ := enum_mem hd
    obtain ⟨r, hr, rfl⟩ := List.mem_map.mp hy
    rfl
  · unfold iEn Ev.bind
    rw [var_dat (d := .str (kO d).2) rfl]
    rfl
  · obtain ⟨i, y, rfl, hy⟩ := enum_mem hd
    obtain ⟨r, hr, rfl⟩ := List.mem_map.mp hy
    rw [enum_len]
    unfold sgns
    rw [List.length_map]
    have := hz2 r hr
    show r.2.length ≤ 4000
    omega
  · obtain ⟨i, y, rfl, hy⟩ := enum_mem hd
    obtain ⟨r, hr, rfl⟩ := List.mem_map.mp hy
    obtain ⟨c, y2, rfl, hy2⟩ := enum_mem hx
    unfold sgns at hy2
    obtain ⟨q, hq, rfl⟩ := List.mem_map.mp hy2
    have e9 : ∀ ρ : List Sl, ρ[9]? = some (.dat (sgn q)) → eOp2 (cmp .NotEq) (eVar 9) (fun _ => ok (.dat (.str "."))) ρ M = .ret (.ok (.dat (.bl (!decide ((⟨#[q]⟩ : Str) = ".")))) M) := fun ρ h => op2_ret (var_dat h) rfl rfl
    have r1 := one_test (M := M) (gt := gTp 2 (gsCons (gNm 12) (gsCons (gNm 9) gsNil))) (tt := tVal (eOp2 (cmp .NotEq) (eVar 9) (fun _ => ok (.dat (.str "."))))) (e := eTup (eCons (eVar 11) (eCons (eVar 12) eNil))) (ρ := wipeS [.mu s, x1, x2, x3, x4, .dat (.str r.2), x6, x7, x8, .un, x10, .dat (.int (i : Nat)), .un] [12, 9]) (ρ1 := [.mu s, x1, x2, x3, x4, .dat (.str r.2), x6, x7, x8, .dat (sgn q), x10, .dat (.int (i : Nat)), .dat (.int (c : Nat))]) (s := .dat (.tup [.int (c : Nat), sgn q])) (d := .tup [.int (i : Nat), .int (c : Nat)]) (b := !decide ((⟨#[q]⟩ : Str) = ".")) rfl (by
      unfold tVal Ev.bind
      rw [e9 _ rfl]
      rfl) (tup_ret (cons_ret (var_dat rfl) (cons_ret (var_dat rfl) nil_ret)) rfl (show 2 ≤ sizeLine by decide))
    have e2 : (if (!decide ((⟨#[q]⟩ : Str) = ".")) = true then [D.tup [.int (i : Nat), .int (c : Nat)]] else []) = kI (.tup [.int (i : Nat), .str r.2]) (.tup [.int (c : Nat), sgn q]) := by
      unfold kI sgn
      by_cases h : (⟨#[q]⟩ : Str) = "." <;> simp [h]
    rw [e2] at r1
    exact r1
/-- all of it -/
def bInit (ck : Fn) (t : Tbl) : CS :=
  (sSeq (sExpr (eCall ck (eCons (eVar 1) (eCons (fun _ => ok (.dat (.int 1))) (eCons (fun _ => ok (.dat (.int 6))) eNil)))))
  (sSeq (sIf (tNot (tVal (chn .LtE .LtE (fun _ => ok (.dat (.int 1))) (eOpT (lenG t) (eCons (eVar 2) eNil)) (fun _ => ok (.dat (.int 4)))))) (fun _ => bad) sNil)
  (sSeq (sFor (iEn (eVar 2)) (gTp 2 (gsCons (gNm 3) (gsCons (gTp 2 (gsCons (gNm 4) (gsCons (gNm 5) gsNil))) gsNil))) (inB t))
  (sSeq (sFld "own_ticks" [0] (eVar 1) (eVar 0))
  (sSeq (sFld "own_places" [0] (eLc false [4, 5] (iVal (eVar 2)) gRow tYesF (eVar 4)) (eVar 0))
  (sSeq (sFld "own_signs" [0] (eLc false [4, 5] (iVal (eVar 2)) gRow tYesF (eVar 5)) (eVar 0))
  (sSeq (sSet 10 (eLc false [4, 5] (iVal (eVar 2)) gRow tYesF (jsL [(eOp1 fmtV (eVar 4)), (fun _ => ok (.dat (.str " "))), (eOp1 fmtV (eVar 5))] Str.empty)))
  (sSeq (sFld "own_text" [0] (jsL [(eOp1 fmtV (eVar 1)), (fun _ => ok (.dat (.str ": "))), (eOp1 fmtV (eJoin (fun _ => ok (.dat (.str " / "))) (eVar 10)))] Str.empty) (eVar 0))
  (sFld "own_keys" [0] keysC (eVar 0))))))))))
end
end R

set_option Elab.async false
set_option linter.all false
set_option maxRecDepth 100000
set_option maxHeartbeats 4000000
namespace R
open PySem PySem.Spec PyProof.Rows L2
variable [Keys]
/-! ### Board.__init__, from the first row to the last -/
section
variable {M : List MO} {t : Tbl} {RR : Sl} {k : Int} {rows : List (Int × Str)} {w : Nat} {ρ : List Sl}
theorem seq_ret {f g : CS} {ρ ρ1 : List Sl} {M1 : List MO} {r : T (Re Fl)} (h1 : f ρ M = .ret (.ok (.nx ρ1) M1)) (h2 : g ρ1 M1 = r) : sSeq f g ρ M = r := by
  unfold sSeq Ev.bind
  rw [h1]
  exact h2
theorem expr_ret {e : CE} {s : Sl} {M1 : List MO} (h : e ρ M = .ret (.ok s M1)) : sExpr e ρ M = .ret (.ok (.nx ρ) M1) := by
  unfold sExpr Ev.bind
  rw [h]
  rfl
theorem set_ret {e : CE} {s : Sl} {i : Nat} {M1 : List MO} (h : e ρ M = .ret (.ok s M1)) : sSet i e ρ M = .ret (.ok (.nx (ρ.set i s)) M1) := by
  unfold sSet Ev.bind
  rw [h]
  rfl
theorem ifF_ret {c : CT} {f g : CS} {M1 : List MO} {r : T (Re Fl)} (h : c ρ M = .ret (.ok false M1)) (h2 : g ρ M1 = r) : sIf c f g ρ M = r := by
  unfold sIf Ev.bind
  rw [h]
  exact h2
theorem ifT_ret {c : CT} {f g : CS} {M1 : List MO} {r : T (Re Fl)} (h : c ρ M = .ret (.ok true M1)) (h2 : f ρ M1 = r) : sIf c f g ρ M = r := by
  unfold sIf Ev.bind
  rw [h]
  exact h2
theorem glued_le (u : Str) (ys : List Str) : (Txt.join u ys).length ≤ (ys.map (·.length)).sum + ys.length * u.length := by
  have e : Txt.join u ys = Str.join u ys := by first | exact StrLaws.glued_eq_join u ys | exact PySem.glued_eq_join u ys | exact PySem.Builtin.Str.glued_eq_join u ys | exact PyProof.glued_eq_join u ys
  rw [e]
  exact StrLaws.join_length_le u ys
theorem strs_map : ∀ ys : List Str, strsOf (ys.map .str) = some ys
  | [] => rfl
  | y :: ys => by rw [List.map_cons, strsOf, strs_map ys]; rfl
theorem sum_le {B : Nat} : ∀ ys : List Str, (∀ y ∈ ys, y.length ≤ B) → (ys.map (·.length)).sum ≤ ys.length * B
  | [], _ => by simp
  | y :: ys, h => by
    have ih := sum_le ys fun z hz => h z (List.mem_cons_of_mem _ hz)
    have := h y List.mem_cons_self
    simp only [List.map_cons, List.sum_cons, List.length_cons, Nat.add_mul]
    omega
theorem join_ret {f : CE} {ys : List Str} (e : f ρ M = .ret (.ok (.dat (.lst (ys.map .str))) M)) (hz : ys.length ≤ 4) (hl : ∀ y ∈ ys, y.length ≤ 8) : eJoin (fun _ => ok (.dat (.str " / "))) f ρ M = .ret (.ok (.dat (.str (Txt.join " / " ys))) M) := by
  have l3 : (Str.ofString " / ").length = 3 := by decide
  have hs := sum_le ys hl
  unfold eJoin Ev.bind
  simp only [R.ok, T.bind, reK, asS, Ev.bind]
  rw [e]
  simp only [T.bind, reK, ofM, joinG, lstD, strs_map]
  rw [if_pos (by rw [l3]; omega)]
theorem rowT_len {r : Int × Str} (h0 : 0 ≤ r.1) (h1 : r.1 ≤ 100) (hz : r.2.length ≤ 4) : (rowT r).length ≤ 8 := by
  have l1 := small_len h0 h1
  unfold rowT
  rw [Str.length_append, Str.length_append]
  show _ + (Str.ofString " ").length + _ ≤ 8
  have l2 : (Str.ofString " ").length = 1 := by decide
  omega
theorem text_ret {l : Sl} (h1 : ρ[1]? = some (.dat (.int k))) (h10 : ρ[10]? = some (.dat (.lst ((rows.map rowT).map .str)))) (b : BoardOk k rows w) :
    jsL [(eOp1 fmtV (eVar 1)), (fun _ => ok (.dat (.str ": "))), (eOp1 fmtV (eJoin (fun _ => ok (.dat (.str " / "))) (eVar 10)))] Str.empty ρ M = .ret (.ok (.dat (.str (textT k rows))) M) := by
  have k1 := b.k1
  have k2 := b.k2
  have hy : ∀ y ∈ rows.map rowT, y.length ≤ 8 := fun y hy => by
    obtain ⟨r, hr, rfl⟩ := List.mem_map.mp hy
    have := b.lo r hr
    have := (b.sg r hr).1
    have := b.w2
    exact rowT_len (by omega) (by omega) (by omega)
  have hl : (rows.map rowT).length ≤ 4 := by rw [List.length_map]; exact b.h2
  have hs := sum_le (rows.map rowT) hy
  have hj := glued_le " / " (rows.map rowT)
  have l3 : (Str.ofString " / ").length = 3 := by decide
  have l2 : (Str.ofString ": ").length = 2 := by decide
  have hj : (Txt.join " / " (rows.map rowT)).length ≤ 100 := by
    have hj : _ ≤ _ + _ * (Str.ofString " / ").length := hj
    rw [l3] at hj
    omega
  have l1 := small_len (p := k) (by omega) (by omega)
  refine js_cons (fmt_int (var_dat h1) (by omega) (by omega)) (by rw [Str.empty_append]; unfold sizeLine; omega) ?_
  rw [Str.empty_append]
  refine js_cons rfl (by rw [Str.length_append]; show _ + (Str.ofString ": ").length ≤ _; unfold sizeLine; omega) ?_
  refine js_cons (fmt_str (join_ret (var_dat h10) hl hy) (by unfold sizeLine; omega)) (by rw [Str.length_append, Str.length_append]; show _ + (Str.ofString ": ").length + _ ≤ _; unfold sizeLine; omega) ?_
  rfl
theorem fld_step {f : Str} {fv : CE} {v : Sl} {s : Nat} {fs fs' : List (Str × Sl)} (hl : s < M.length) (h0 : ρ[0]? = some (.mu s)) (h1 : fv ρ (M.set s (.ins 0 fs)) = .ret (.ok v (M.set s (.ins 0 fs)))) (h4 : fs.length < 1000) (e : putS f v fs = fs') :
    sFld f [0] fv (eVar 0) ρ (M.set s (.ins 0 fs)) = .ret (.ok (.nx ρ) (M.set s (.ins 0 fs'))) := by
  have g : (M.set s (.ins 0 fs))[s]? = some (.ins 0 fs) := set_get hl
  have hn : nrm (M.set s (.ins 0 fs)) (.mu s) = .mu s := by simp only [nrm, g]
  rw [fld_run h1 (var_ret h0 (by simp) hn) g h4, e, set_set]
theorem init_run {s : Nat} (hs : M[s]? = some (.ins 0 [])) (hR : ∀ fs, Rws (M.set s (.ins 0 fs)) RR (rows.map rowD)) (b : BoardOk k rows w) :
    ∃ ρ', bInit (mkFn false 3 3 bCheck) t [.mu s, .dat (.int k), RR, .un, .un, .un, .un, .un, .un, .un, .un, .un, .un] M = .ret (.ok (.nx ρ') (M.set s (.ins 0 ((boardF k rows).map fun p => (p.1, .dat p.2))))) := by
  have hl : s < M.length := (List.getElem?_eq_some_iff.mp hs).1
  have self : M.set s (.ins 0 []) = M := by
    apply List.ext_getElem?
    intro q
    by_cases e : s = q
    · subst e; rw [set_get hl, hs]
    · rw [List.getElem?_set_ne e]
  have hM : Rws M RR (rows.map rowD) := by have := hR []; rwa [self] at this
  have k1 := b.k1
  have k2 := b.k2
  have b1 := b.h1
  have b2 := b.h2
  refine ⟨[.mu s, .dat (.int k), RR, .un, .un, .un, .un, .un, .un, .un, .dat (.lst (rows.map fun r => .str (rowT r))), .un, .un], ?_⟩
  unfold bInit
  refine seq_ret (expr_ret (call_ret (cons_ret (var_dat rfl) (cons_ret rfl (cons_ret rfl nil_ret))) (check_run k1 k2))) ?_
  refine seq_ret (ifF_ret (M1 := M) ?_ rfl) ?_
  · have l2 : eOpT (lenG t) (eCons (eVar 2) eNil) [.mu s, .dat (.int k), RR, .un, .un, .un, .un, .un, .un, .un, .un, .un, .un] M = .ret (.ok (.dat (.int (rows.length : Int))) M) := by
      have := len_ret (t := t) (M := M) (f := eVar 2) (ρ := [.mu s, .dat (.int k), RR, .un, .un, .un, .un, .un, .un, .un, .un, .un, .un]) (var_ret rfl hM.un hM.nrm) hM.len (by rw [List.length_map]; unfold sizeLine; omega)
      rw [List.length_map] at this
      exact this
    have c1 : (1 : Int) ≤ (rows.length : Int) := by omega
    have c2 : (rows.length : Int) ≤ 4 := by omega
    unfold tNot tVal chn Ev.bind
    simp [T.bind, reK, R.ok, l2, cmp, cmpV, c1, c2, ofM, Ev.bind, asB]
  obtain ⟨its, e1, e2⟩ := hM.en
  have hi : iEn (eVar 2) [.mu s, .dat (.int k), RR, .un, .un, .un, .un, .un, .un, .un, .un, .un, .un] M = .ret (.ok its M) := by
    unfold iEn Ev.bind
    rw [var_ret rfl hM.un hM.nrm]
    simp only [T.bind, reK, e1]
  refine seq_ret (for_ret hi e2 fun i d hd => ?_) ?_
  · rw [enum_get] at hd
    cases hr : rows[i]? with
    | none => rw [List.getElem?_map, hr] at hd; cases hd
    | some r =>
      rw [List.getElem?_map, hr] at hd
      cases hd
      refine ⟨[.mu s, .dat (.int k), RR, .dat (.int (i : Int)), .dat (.int r.1), .dat (.str r.2), .un, .un, .un, .un, .un, .un, .un], ?_, init_turn hM hr b⟩
      rw [Nat.zero_add]
      rfl
  have hz : ∀ r ∈ rows, r.2.length ≤ 4 := fun r hr => by
    have := (b.sg r hr).1
    have := b.w2
    omega
  have mv : ∀ {g : CS} {ρ : List Sl} {r : T (Re Fl)}, g ρ (M.set s (.ins 0 [])) = r → g ρ M = r := fun h => by rw [self] at h; exact h
  refine mv ?_
  refine seq_ret (fld_step (fs' := [("own_ticks", .dat (.int k))]) hl rfl (var_dat rfl) (by simp) rfl) ?_
  refine seq_ret (fld_step (fs' := [("own_ticks", .dat (.int k)), ("own_places", .dat (.lst (rows.map fun r => .int r.1)))]) hl rfl (row_lc (h := fun r => .int r.1) (hR _) b2 fun r hr => var_dat rfl) (by simp) rfl) ?_
  refine seq_ret (fld_step (fs' := [("own_ticks", .dat (.int k)), ("own_places", .dat (.lst (rows.map fun r => .int r.1))), ("own_signs", .dat (.lst (rows.map fun r => .str r.2)))]) hl rfl (row_lc (h := fun r => .str r.2) (hR _) b2 fun r hr => var_dat rfl) (by simp) rfl) ?_
  refine seq_ret (set_ret (row_lc (h := fun r => .str (rowT r)) (hR _) b2 fun r hr => row_text rfl rfl (b.lo r hr).1 (by have := (b.lo r hr).2; omega) (hz r hr))) ?_
  refine seq_ret (fld_step (fs' := [("own_ticks", .dat (.int k)), ("own_places", .dat (.lst (rows.map fun r => .int r.1))), ("own_signs", .dat (.lst (rows.map fun r => .str r.2))), ("own_text", .dat (.str (textT k rows)))]) hl rfl (text_ret (l := .un) (k := k) (rows := rows) (w := w) rfl (by simp [List.map_map, Function.comp]) b) (by simp) rfl) ?_
  exact fld_step hl rfl (keys_run (set_get hl) rfl b2 hz) (by simp) rfl
end
end R

set_option Elab.async false
set_option linter.all false
set_option maxRecDepth 100000
set_option maxHeartbeats 4000000
namespace R
open PySem PySem.Spec PyProof.Rows L2
variable [Keys]
/-! ### Board(..), its properties and methods -/
def initF (t : Tbl) : Fn := mkFn false 3 13 (bInit (mkFn false 3 3 bCheck) t)
section
variable {M : List MO} {t : Tbl} {RR : Sl} {k : Int} {rows : List (Int × Str)} {w : Nat} {ρ : List Sl}
theorem datsF_map : ∀ fs : List (Str × D), datsF M (fs.map fun p => (p.1, Sl.dat p.2)) = some fs
  | [] => rfl
  | (f, d) :: fs => by
    rw [List.map_cons]
    unfold datsF
    rw [datsF_map fs]
    rfl
theorem initF_run (hR : ∀ m, Rws (M ++ [m]) RR (rows.map rowD)) (b : BoardOk k rows w) : initF t [.mu M.length, .dat (.int k), RR] (M ++ [.ins 0 []]) = .ret (.ok (.dat .non) (M ++ [.ins 0 ((boardF k rows).map fun p => (p.1, .dat p.2))])) := by
  obtain ⟨ρ', e⟩ := init_run (M := M ++ [.ins 0 []]) (t := t) (s := M.length) last_get (fun fs => by rw [last_set]; exact hR _) b
  rw [last_set] at e
  unfold initF mkFn
  rw [if_pos (show [Sl.mu M.length, Sl.dat (D.int k), RR].length = 3 from rfl)]
  show (bInit (mkFn false 3 3 bCheck) t [.mu M.length, .dat (.int k), RR, .un, .un, .un, .un, .un, .un, .un, .un, .un, .un] (M ++ [.ins 0 []])).bind _ = _
  rw [e]
  show T.ret (Re.ok (Sl.dat D.non) (cut _ _)) = _
  rw [cut_self (by simp)]
theorem make_run {fs : CA} (hc : Cl M) (e : fs ρ M = .ret (.ok [.dat (.int k), RR] M)) (hR : ∀ m, Rws (M ++ [m]) RR (rows.map rowD)) (b : BoardOk k rows w) : eMake true 0 (initF t) fs ρ M = .ret (.ok (.dat (boardD k rows)) M) := by
  unfold eMake Ev.bind
  rw [e]
  simp only [T.bind, reK]
  rw [initF_run hR b]
  have g : (M ++ [MO.ins 0 ((boardF k rows).map fun p => (p.1, Sl.dat p.2))])[M.length]? = some (.ins 0 ((boardF k rows).map fun p => (p.1, Sl.dat p.2))) := last_get
  simp only [T.bind, mkK, if_true, fz1, g, fzO, datsF_map, Option.map_some, last_set, cut_app hc]
  rfl
theorem makeK_run {fs : CA} (hc : Cl M) (e : fs ρ M = .ret (.ok [.dat (.int k), RR] M)) (hR : ∀ m, Rws (M ++ [m]) RR (rows.map rowD)) (b : BoardOk k rows w) : eMakeK true 0 (initF t) fs ρ M = .ret (.ok (.dat (boardD k rows)) M) := by
  have := make_run (t := t) hc e hR b
  unfold eMake Ev.bind at this
  unfold eMakeK Ev.bind
  rw [e] at this ⊢
  simp only [T.bind, reK] at this ⊢
  exact noX_ret this
theorem rws_app {p : Nat} {ds : List D} (h : M[p]? = some (.lst (ds.map .dat))) (m : MO) : Rws (M ++ [m]) (.mu p) ds := rws_mu (pre_get h)
/-! the methods: each a def of one slot -/
theorem fn1_dat {b : CS} {d d' : D} (e : b [.dat d] M = .ret (.ok (.rt (.dat d')) M)) : mkFn false 1 1 b [.dat d] M = .ret (.ok (.dat d') M) := by
  unfold mkFn
  rw [if_pos (show [Sl.dat d].length = 1 from rfl)]
  show (b [.dat d] M).bind _ = _
  rw [e]
  show clean false M.length (.dat d') M = _
  unfold clean
  dsimp only
  rw [cut_self rfl]
theorem fld_dat {f : Str} {d : D} {o : Sl} (h0 : ρ[0]? = some (.dat (boardD k rows))) (e : (boardF k rows).lookup f = some d) : eFld f [0] (eVar 0) ρ M = .ret (.ok (.dat d) M) := by
  unfold eFld Ev.bind
  rw [var_dat h0]
  simp [T.bind, reK, ofM, clsAt, boardD, fldV, e]
theorem ticks_run : mkFn false 1 1 (sRet (eFld "own_ticks" [0] (eVar 0))) [.dat (boardD k rows)] M = .ret (.ok (.dat (.int k)) M) := fn1_dat (by
  unfold sRet Ev.bind
  rw [fld_dat (o := .un) rfl rfl]
  rfl)
theorem text_run : mkFn false 1 1 (sRet (eFld "own_text" [0] (eVar 0))) [.dat (boardD k rows)] M = .ret (.ok (.dat (.str (textT k rows))) M) := fn1_dat (by
  unfold sRet Ev.bind
  rw [fld_dat (o := .un) rfl rfl]
  rfl)
theorem height_run (b : BoardOk k rows w) : mkFn false 1 1 (sRet (eOpT (lenG t) (eCons (eFld "own_signs" [0] (eVar 0)) eNil))) [.dat (boardD k rows)] M = .ret (.ok (.dat (.int (rows.length : Int))) M) := fn1_dat (by
  have := b.h2
  unfold sRet Ev.bind
  rw [len_ret (s := .dat (.lst (rows.map fun r => .str r.2))) (n := rows.length) (fld_dat (o := .un) rfl rfl) (by simp [lenOf]) (by unfold sizeLine; omega)]
  rfl)
theorem width_run (b : BoardOk k rows w) : mkFn false 1 1 (sRet (eOpT (lenG t) (eCons (eOp2 ixV (eFld "own_signs" [0] (eVar 0)) (fun _ => ok (.dat (.int 0)))) eNil))) [.dat (boardD k rows)] M = .ret (.ok (.dat (.int (w : Int))) M) := fn1_dat (by
  have h1 := b.h1
  have h2 := b.w2
  cases rows with
  | nil => simp at h1
  | cons r rows =>
    have hw : r.2.length = w := (b.sg r List.mem_cons_self).1
    have e : ixV M (.dat (.lst ((r :: rows).map fun r => .str r.2))) (.dat (.int 0)) = some (.dat (.str r.2), M) := by
      show ((atI ((r :: rows).map fun r => D.str r.2) 0).map fun d => (Sl.dat d, M)) = _
      unfold atI ixN
      rw [if_pos (by omega), if_pos (by simp only [List.length_map, List.length_cons]; omega)]
      rfl
    unfold sRet Ev.bind
    rw [len_ret (s := .dat (.str r.2)) (n := w) (op2_ret (fld_dat (o := .un) rfl rfl) rfl e) (by show some r.2.length = _; rw [hw]) (by unfold sizeLine; omega)]
    rfl)
end
end R

set_option Elab.async false
set_option linter.all false
set_option maxRecDepth 100000
set_option maxHeartbeats 4000000
namespace R
open PySem PySem.Spec PyProof.Rows L2
variable [Keys]
section
variable {M : List MO} {t : Tbl} {RR : Sl} {k : Int} {rows : List (Int × Str)} {w : Nat} {ρ : List Sl}
theorem kI_len (d x : D) : (kI d x).length ≤ 1 := by
  unfold kI
  split
  · split <;> simp
  · simp
theorem flat_len {α : Type} {f : α → List D} (h : ∀ a, (f a).length ≤ 1) : ∀ l : List α, (l.flatMap f).length ≤ l.length
  | [] => by simp
  | a :: l => by
    have := flat_len h l
    have := h a
    simp only [List.flatMap_cons, List.length_append, List.length_cons]
    omega
theorem keysR_len (i : Nat) (z : Str) : (keysR i z).length ≤ z.length := by
  unfold keysR
  refine Nat.le_trans (flat_len (fun x => kI_len _ x) _) ?_
  rw [enum_len]
  unfold sgns
  rw [List.length_map]
  exact Nat.le_refl _
theorem keysF_len : ∀ (rows : List (Int × Str)) (i : Nat), (∀ r ∈ rows, r.2.length ≤ 4) → (keysF i rows).length ≤ rows.length * 4
  | [], _, _ => by simp [keysF]
  | r :: rows, i, h => by
    have a := keysF_len rows (i + 1) fun x hx => h x (List.mem_cons_of_mem _ hx)
    have b := keysR_len i r.2
    have c := h r List.mem_cons_self
    unfold keysF
    rw [List.length_append, List.length_cons, Nat.add_mul]
    omega
theorem BoardOk.keys (b : BoardOk k rows w) : (keysF 0 rows).length ≤ 16 := by
  have := keysF_len rows 0 fun r hr => by
    have := (b.sg r hr).1
    have := b.w2
    omega
  have := b.h2
  omega
theorem len_run (b : BoardOk k rows w) : mkFn false 1 1 (sRet (eOpT (lenG t) (eCons (eFld "own_keys" [0] (eVar 0)) eNil))) [.dat (boardD k rows)] M = .ret (.ok (.dat (.int ((keysF 0 rows).length : Int))) M) := fn1_dat (by
  have := b.keys
  unfold sRet Ev.bind
  rw [len_ret (s := .dat (.lst (keysF 0 rows))) (n := (keysF 0 rows).length) (fld_dat (o := .un) rfl rfl) rfl (by unfold sizeLine; omega)]
  rfl)
/-- a def that hands back a new list -/
theorem lst_run {f : Str} {ds : List D} (hc : Cl M) (e : (boardF k rows).lookup f = some (.lst ds)) : mkFn true 1 1 (sRet (eOpT (pu (listG true)) (eCons (eFld f [0] (eVar 0)) eNil))) [.dat (boardD k rows)] M = .ret (.ok (.mu M.length) (M ++ [.lst (ds.map .dat)])) := by
  have e1 : sRet (eOpT (pu (listG true)) (eCons (eFld f [0] (eVar 0)) eNil)) [.dat (boardD k rows)] M = .ret (.ok (.rt (.mu M.length)) (M ++ [.lst (ds.map .dat)])) := by
    unfold sRet eOpT Ev.bind
    rw [cons_ret (fld_dat (o := .un) rfl e) nil_ret]
    simp [T.bind, reK, pu, ofM, listG, lstD, mkL, noX, noXk, R.ok]
  unfold mkFn
  rw [if_pos (show [Sl.dat (boardD k rows)].length = 1 from rfl)]
  show (sRet (eOpT (pu (listG true)) (eCons (eFld f [0] (eVar 0)) eNil)) [.dat (boardD k rows)] M).bind _ = _
  rw [e1]
  show clean true M.length (.mu M.length) (M ++ [.lst (ds.map .dat)]) = _
  unfold clean
  simp
end
end R

set_option Elab.async false
set_option linter.all false
set_option maxRecDepth 100000
set_option maxHeartbeats 4000000
namespace R
open PySem PySem.Spec PyProof.Rows L2
variable [Keys]
section
variable {M : List MO} {t : Tbl} {RR : Sl} {k : Int} {rows : List (Int × Str)} {w : Nat} {ρ : List Sl}
theorem pro_run {F : Fn} {i : Nat} {fs : List (Str × D)} {d : D} (h0 : ρ[i]? = some (.dat (.ins 0 fs))) (e : F [.dat (.ins 0 fs)] M = .ret (.ok (.dat d) M)) : ePro [(0, F)] (eVar i) ρ M = .ret (.ok (.dat d) M) := by
  unfold ePro Ev.bind
  rw [var_dat h0]
  simp only [T.bind, reK, clsAt]
  exact noX_ret e
def shownT (h w : Nat) : Str := Str.ofString "Board(" ++ Str.ofString (toString (h : Int)) ++ " by " ++ Str.ofString (toString (w : Int)) ++ ")"
theorem repr_run {Fh Fw : Fn} (b : BoardOk k rows w) (eh : Fh [.dat (boardD k rows)] M = .ret (.ok (.dat (.int (rows.length : Int))) M)) (ew : Fw [.dat (boardD k rows)] M = .ret (.ok (.dat (.int (w : Int))) M)) :
    mkFn false 1 1 (sRet (jsL [(fun _ => ok (.dat (.str "Board("))), (eOp1 fmtV (ePro [(0, Fh)] (eVar 0))), (fun _ => ok (.dat (.str " by "))), (eOp1 fmtV (ePro [(0, Fw)] (eVar 0))), (fun _ => ok (.dat (.str ")")))] Str.empty)) [.dat (boardD k rows)] M = .ret (.ok (.dat (.str (shownT rows.length w))) M) := fn1_dat (by
  have h2 := b.h2
  have w2 := b.w2
  have l1 := small_len (p := (rows.length : Int)) (by omega) (by omega)
  have l2 := small_len (p := (w : Int)) (by omega) (by omega)
  have a1 : (Str.ofString "Board(").length = 6 := by decide
  have a2 : (Str.ofString " by ").length = 4 := by decide
  have a3 : (Str.ofString ")").length = 1 := by decide
  have e : jsL [(fun _ => ok (.dat (.str "Board("))), (eOp1 fmtV (ePro [(0, Fh)] (eVar 0))), (fun _ => ok (.dat (.str " by "))), (eOp1 fmtV (ePro [(0, Fw)] (eVar 0))), (fun _ => ok (.dat (.str ")")))] Str.empty [.dat (boardD k rows)] M = .ret (.ok (.dat (.str (shownT rows.length w))) M) := by
    refine js_cons rfl (by rw [Str.empty_append]; show (Str.ofString "Board(").length ≤ _; unfold sizeLine; omega) ?_
    rw [Str.empty_append]
    refine js_cons (fmt_int (pro_run rfl eh) (by omega) (by omega)) (by rw [Str.length_append]; show (Str.ofString "Board(").length + _ ≤ _; unfold sizeLine; omega) ?_
    refine js_cons rfl (by rw [Str.length_append, Str.length_append]; show (Str.ofString "Board(").length + _ + (Str.ofString " by ").length ≤ _; unfold sizeLine; omega) ?_
    refine js_cons (fmt_int (pro_run rfl ew) (by omega) (by omega)) (by rw [Str.length_append, Str.length_append, Str.length_append]; show (Str.ofString "Board(").length + _ + (Str.ofString " by ").length + _ ≤ _; unfold sizeLine; omega) ?_
    refine js_cons rfl (by rw [Str.length_append, Str.length_append, Str.length_append, Str.length_append]; show (Str.ofString "Board(").length + _ + (Str.ofString " by ").length + _ + (Str.ofString ")").length ≤ _; unfold sizeLine; omega) ?_
    rfl
  unfold sRet Ev.bind
  rw [e]
  rfl)
/-! the law's own text -/
def bText : CS :=
  (sRet (eOp2 (bin .Add) (eOp2 (bin .Add) (eOpT (pu strG) (eCons (eOp2 ixV (eVar 0) (fun _ => ok (.dat (.int 0)))) eNil)) (fun _ => ok (.dat (.str ": ")))) (eJoin (fun _ => ok (.dat (.str " / "))) (eLc false [1, 2] (iVal (eOp2 ixV (eVar 0) (fun _ => ok (.dat (.int 1))))) (gTp 2 (gsCons (gNm 1) (gsCons (gNm 2) gsNil))) tYesF (eOp2 (bin .Add) (eOp2 (bin .Add) (eOpT (pu strG) (eCons (eVar 1) eNil)) (fun _ => ok (.dat (.str " ")))) (eVar 2))))))
theorem str_ret {f : CE} {p : Int} (e : f ρ M = .ret (.ok (.dat (.int p)) M)) (h0 : 0 ≤ p) (h1 : p ≤ 100) : eOpT (pu strG) (eCons f eNil) ρ M = .ret (.ok (.dat (.str (Str.ofString (toString p)))) M) := by
  unfold eOpT Ev.bind
  rw [cons_ret e nil_ret]
  simp only [T.bind, reK]
  refine noX_ret ?_
  simp only [pu, ofM, strG]
  rw [if_pos (small_log h0 h1)]
theorem add_ret {f g : CE} {a c : Str} (e1 : f ρ M = .ret (.ok (.dat (.str a)) M)) (e2 : g ρ M = .ret (.ok (.dat (.str c)) M)) (hz : a.length + c.length ≤ sizeLine) : eOp2 (bin .Add) f g ρ M = .ret (.ok (.dat (.str (a ++ c))) M) :=
  op2_ret e1 e2 (by
    unfold bin
    dsimp only
    rw [if_pos hz])
theorem law_text_run (b : BoardOk k rows w) : mkFn false 1 3 bText [.dat (planD k rows)] M = .ret (.ok (.dat (.str (textT k rows))) M) := by
  have k1 := b.k1
  have k2 := b.k2
  have h2 := b.h2
  have hy : ∀ y ∈ rows.map rowT, y.length ≤ 8 := fun y hy => by
    obtain ⟨r, hr, rfl⟩ := List.mem_map.mp hy
    have := b.lo r hr
    have := (b.sg r hr).1
    have := b.w2
    exact rowT_len (by omega) (by omega) (by omega)
  have hl : (rows.map rowT).length ≤ 4 := by rw [List.length_map]; exact b.h2
  have hs := sum_le (rows.map rowT) hy
  have hj := glued_le " / " (rows.map rowT)
  have l3 : (Str.ofString " / ").length = 3 := by decide
  have l2 : (Str.ofString ": ").length = 2 := by decide
  have ls : (Str.ofString " ").length = 1 := by decide
  have hj : (Txt.join " / " (rows.map rowT)).length ≤ 100 := by
    have hj : _ ≤ _ + _ * (Str.ofString " / ").length := hj
    rw [l3] at hj
    omega
  have l1 := small_len (p := k) (by omega) (by omega)
  have hi : iVal (eOp2 ixV (eVar 0) (fun _ => ok (.dat (.int 1)))) [.dat (planD k rows), .un, .un] M = .ret (.ok (.data (rows.map rowD)) M) := by
    unfold iVal Ev.bind
    rw [op2_ret (var_dat rfl) rfl (u := .dat (.lst (rows.map rowD))) (M3 := M) rfl]
    rfl
  have hlc := lc_run (own := [1, 2]) (gt := gTp 2 (gsCons (gNm 1) (gsCons (gNm 2) gsNil))) (tt := tYesF) (e := eOp2 (bin .Add) (eOp2 (bin .Add) (eOpT (pu strG) (eCons (eVar 1) eNil)) (fun _ => ok (.dat (.str " ")))) (eVar 2)) (g := gD fun r => .str (rowT r)) hi rfl (by rw [List.length_map]; unfold sizeLine; omega) (fun d hd => by
    obtain ⟨⟨p, z⟩, hr, rfl⟩ := List.mem_map.mp hd
    have lo : 0 ≤ p ∧ p < k := b.lo _ hr
    have hw : z.length = w := (b.sg _ hr).1
    have w2 := b.w2
    have lr := small_len (p := p) (by omega) (by omega)
    refine one_ret (ρ1 := [.dat (planD k rows), .dat (.int p), .dat (.str z)]) rfl ?_
    exact add_ret (a := Str.ofString (toString p) ++ " ") (c := z) (add_ret (a := Str.ofString (toString p)) (c := " ") (str_ret (p := p) (var_dat rfl) (by omega) (by omega)) rfl (by show _ + (Str.ofString " ").length ≤ _; unfold sizeLine; omega)) (var_dat rfl) (by rw [Str.length_append]; show _ + (Str.ofString " ").length + _ ≤ _; unfold sizeLine; omega))
  rw [flat_rows] at hlc
  have e : bText [.dat (planD k rows), .un, .un] M = .ret (.ok (.rt (.dat (.str (textT k rows)))) M) := by
    unfold bText sRet Ev.bind
    rw [add_ret (a := Str.ofString (toString k) ++ ": ") (c := Txt.join " / " (rows.map rowT)) (add_ret (str_ret (op2_ret (var_dat rfl) rfl rfl) (by omega) (by omega)) rfl (by show _ + (Str.ofString ": ").length ≤ _; unfold sizeLine; omega)) (join_ret (by rw [hlc, List.map_map]; rfl) hl hy) (by rw [Str.length_append]; show _ + (Str.ofString ": ").length + _ ≤ _; unfold sizeLine; omega)]
    rfl
  unfold mkFn
  rw [if_pos (show [Sl.dat (planD k rows)].length = 1 from rfl)]
  show (bText [.dat (planD k rows), .un, .un] M).bind _ = _
  rw [e]
  show clean false M.length (.dat _) M = _
  unfold clean
  dsimp only
  rw [cut_self rfl]
end
end R

set_option Elab.async false
set_option linter.all false
set_option maxRecDepth 100000
set_option maxHeartbeats 4000000
namespace R
open PySem PySem.Spec PyProof.Rows L2
variable [Keys]
section
variable {M : List MO} {t : Tbl} {RR : Sl} {k : Int} {rows : List (Int × Str)} {w : Nat} {ρ : List Sl}
def kyC (t : Tbl) : CE := (eLc false [4] (iRg1 (eOpT (lenG t) (eCons (eVar 3) eNil))) (gNm 4) (tVal (eOp2 (cmp .NotEq) (eOp2 ixV (eVar 3) (eVar 4)) (fun _ => ok (.dat (.str "."))))) (eTup (eCons (eVar 2) (eCons (eVar 4) eNil))))
def kyB (t : Tbl) : CS := (sFgt [2, 3] (sSeq (sSet 3 (eOp2 ixV (eOp2 ixV (eOp2 ixV (eVar 0) (fun _ => ok (.dat (.int 1)))) (eVar 2)) (fun _ => ok (.dat (.int 1)))))
  (sSet 1 (eOp2 (bin .Add) (eVar 1) (kyC t)))))
def bKeys (t : Tbl) : CS :=
  (sSeq (sSet 1 (eLst false eNil))
  (sSeq (sFor (iRg1 (eOpT (lenG t) (eCons (eOp2 ixV (eVar 0) (fun _ => ok (.dat (.int 1)))) eNil))) (gNm 2) (kyB t))
  (sRet (eVar 1))))
def gK (i : Nat) (z : Str) : D → List D
  | .int c => if z.cps.toList[c.toNat]? = some 46 then [] else [.tup [.int (i : Nat), .int c]]
  | _ => []
theorem sgn_dot {c : Nat} : ((⟨#[c]⟩ : Str) = ".") ↔ c = 46 := by
  have e : (Str.ofString ".") = ⟨#[46]⟩ := by decide
  show ((⟨#[c]⟩ : Str) = Str.ofString ".") ↔ _
  rw [e]
  simp
theorem keys_rng (i : Nat) (z : Str) : ∀ (cs : List Nat) (j : Nat), (∀ q : Nat, z.cps.toList[j + q]? = cs[q]?) → (rng (j : Int) cs.length).flatMap (gK i z) = (enumD j (cs.map sgn)).flatMap (kI (.tup [.int (i : Nat), .str z]))
  | [], j, _ => rfl
  | c :: cs, j, h => by
    rw [List.length_cons, rng_cons, List.map_cons]
    unfold enumD
    rw [List.flatMap_cons, List.flatMap_cons, keys_rng i z cs (j + 1) fun q => by
      have := h (q + 1)
      rw [List.getElem?_cons_succ] at this
      rw [← this]
      congr 1
      omega]
    congr 1
    have h0 := h 0
    rw [Nat.add_zero, List.getElem?_cons_zero] at h0
    unfold gK kI sgn
    simp only [Int.toNat_natCast, h0, Option.some.injEq, sgn_dot]
theorem keysR_eq (i : Nat) (z : Str) : (rng 0 z.length).flatMap (gK i z) = keysR i z := by
  have := keys_rng i z z.cps.toList 0 fun q => by rw [Nat.zero_add]
  exact this
theorem kyC_run {i : Nat} {z : Str} (h2 : ρ[2]? = some (.dat (.int (i : Int)))) (h3 : ρ[3]? = some (.dat (.str z))) (h4 : 4 < ρ.length) (hz : z.length ≤ 4) : kyC t ρ M = .ret (.ok (.dat (.lst (keysR i z))) M) := by
  have q1 : z.length ≤ sizeLine := Nat.le_trans hz (by decide)
  have l3 : eOpT (lenG t) (eCons (eVar 3) eNil) ρ M = .ret (.ok (.dat (.int (z.length : Int))) M) := len_ret (var_dat h3) rfl q1
  rw [← keysR_eq]
  have := lc_run (own := [4]) (fi := iRg1 (eOpT (lenG t) (eCons (eVar 3) eNil))) (its := .data (rng 0 z.length)) (gt := gNm 4) (tt := tVal (eOp2 (cmp .NotEq) (eOp2 ixV (eVar 3) (eVar 4)) (fun _ => ok (.dat (.str "."))))) (e := eTup (eCons (eVar 2) (eCons (eVar 4) eNil))) (ds := rng 0 z.length) (g := gK i z) (M := M) (ρ := ρ) (by
    have := rg1_run l3 (by omega) (by omega)
    rw [Int.toNat_natCast] at this
    exact this) rfl (by rw [rng_len]; unfold sizeLine; omega) (fun d hd => by
    unfold rng at hd
    obtain ⟨c, hc, rfl⟩ := List.mem_map.mp hd
    have hc := List.mem_range.mp hc
    have e0 : ((0 : Int) + (c : Nat)) = ((c : Nat) : Int) := by omega
    rw [e0]
    have hlen : c < z.cps.toList.length := hc
    have e1 : z.cps.toList[c]? = some z.cps.toList[c] := List.getElem?_eq_getElem hlen
    have p2 : ((wipeS ρ [4]).set 4 (.dat (.int (c : Int))))[2]? = some (.dat (.int (i : Int))) := by unfold wipeS wipeS; rw [List.set_set, List.getElem?_set_ne (by omega)]; exact h2
    have p3 : ((wipeS ρ [4]).set 4 (.dat (.int (c : Int))))[3]? = some (.dat (.str z)) := by unfold wipeS wipeS; rw [List.set_set, List.getElem?_set_ne (by omega)]; exact h3
    have p4 : ((wipeS ρ [4]).set 4 (.dat (.int (c : Int))))[4]? = some (.dat (.int (c : Int))) := List.getElem?_set_self (by unfold wipeS wipeS; rw [List.length_set]; exact h4)
    have ex : ixV M (.dat (.str z)) (.dat (.int (c : Int))) = some (.dat (.str ⟨#[z.cps.toList[c]]⟩), M) := by
      unfold ixV
      dsimp only
      rw [if_pos q1]
      have : atI z.cps.toList (c : Int) = some z.cps.toList[c] := by
        unfold atI ixN
        rw [if_pos (by omega), if_pos (by omega)]
        show z.cps.toList[c]? = _
        exact e1
      rw [this]
      rfl
    have r1 := one_test (M := M) (gt := gNm 4) (tt := tVal (eOp2 (cmp .NotEq) (eOp2 ixV (eVar 3) (eVar 4)) (fun _ => ok (.dat (.str "."))))) (e := eTup (eCons (eVar 2) (eCons (eVar 4) eNil))) (ρ := wipeS ρ [4]) (ρ1 := (wipeS ρ [4]).set 4 (.dat (.int (c : Int)))) (s := .dat (.int (c : Int))) (d := .tup [.int (i : Nat), .int (c : Nat)]) (b := !decide ((⟨#[z.cps.toList[c]]⟩ : Str) = ".")) rfl (by
      unfold tVal Ev.bind
      rw [op2_ret (op2_ret (var_dat p3) (var_dat p4) ex) rfl (u := .dat (.bl (!decide ((⟨#[z.cps.toList[c]]⟩ : Str) = ".")))) (M3 := M) rfl]
      rfl) (tup_ret (cons_ret (var_dat p2) (cons_ret (var_dat p4) nil_ret)) rfl (show 2 ≤ sizeLine by decide))
    have e2 : (if (!decide ((⟨#[z.cps.toList[c]]⟩ : Str) = ".")) = true then [D.tup [.int (i : Nat), .int (c : Nat)]] else []) = gK i z (.int (c : Int)) := by
      unfold gK
      simp only [Int.toNat_natCast, e1, Option.some.injEq]
      by_cases h : z.cps.toList[c] = 46
      · rw [if_pos h, decide_eq_true (sgn_dot.mpr h)]; rfl
      · rw [if_neg h, decide_eq_false (fun q => h (sgn_dot.mp q))]; rfl
    rw [e2] at r1
    exact r1)
  exact this
theorem keysF_snoc : ∀ (rows : List (Int × Str)) (i : Nat) (r : Int × Str), keysF i (rows ++ [r]) = keysF i rows ++ keysR (i + rows.length) r.2
  | [], i, r => by simp [keysF]
  | x :: rows, i, r => by
    rw [List.cons_append]
    unfold keysF
    rw [keysF_snoc rows (i + 1) r, List.append_assoc, List.length_cons]
    congr 2
    congr 1
    omega
theorem kyB_run {i : Nat} {r : Int × Str} {acc : List D} (hr : rows[i]? = some r) (hz : r.2.length ≤ 4) (ha : acc.length ≤ 1000) :
    kyB t [.dat (planD k rows), .dat (.lst acc), .dat (.int (i : Int)), .un, .un] M = .ret (.ok (.nx [.dat (planD k rows), .dat (.lst (acc ++ keysR i r.2)), .un, .un, .un]) M) := by
  have hk := keysR_len i r.2
  have e1 : ∀ ρ : List Sl, ρ[0]? = some (.dat (planD k rows)) → ρ[2]? = some (.dat (.int (i : Int))) → eOp2 ixV (eOp2 ixV (eOp2 ixV (eVar 0) (fun _ => ok (.dat (.int 1)))) (eVar 2)) (fun _ => ok (.dat (.int 1))) ρ M = .ret (.ok (.dat (.str r.2)) M) := by
    intro ρ h0 h2
    have hi : i < rows.length := (List.getElem?_eq_some_iff.mp hr).1
    have e : atI (rows.map rowD) (i : Int) = some (rowD r) := by
      unfold atI ixN
      rw [if_pos (by omega), List.length_map, if_pos (by omega)]
      show (rows.map rowD)[i]? = _
      rw [List.getElem?_map, hr]; rfl
    exact op2_ret (op2_ret (op2_ret (var_dat h0) rfl (u := .dat (.lst (rows.map rowD))) (M3 := M) rfl) (var_dat h2) (u := .dat (rowD r)) (M3 := M) (by
      show ((atI (rows.map rowD) (i : Int)).map fun d => (Sl.dat d, M)) = _
      rw [e]; rfl)) rfl rfl
  unfold kyB sFgt Ev.bind
  rw [seq_ret (set_ret (e1 _ rfl rfl)) (set_ret (op2_ret (var_dat rfl) (kyC_run (i := i) (z := r.2) rfl rfl (by simp) hz) (u := .dat (.lst (acc ++ keysR i r.2))) (M3 := M) (by
    unfold bin
    simp only [lstD]
    rw [if_pos (by unfold sizeLine; omega)])))]
  rfl
theorem ky_loop (hz : ∀ r ∈ rows, r.2.length ≤ 4) (hn : rows.length ≤ 4) : ∀ (n i : Nat), i + n = rows.length → forD (gNm 2) (kyB t) (rng (i : Int) n) [.dat (planD k rows), .dat (.lst (keysF 0 (rows.take i))), .un, .un, .un] M = .ret (.ok (.nx [.dat (planD k rows), .dat (.lst (keysF 0 rows)), .un, .un, .un]) M)
  | 0, i, e => by
    have : rows.take i = rows := List.take_of_length_le (by omega)
    rw [this]
    rfl
  | n + 1, i, e => by
    have hi : i < rows.length := by omega
    have hr : rows[i]? = some rows[i] := List.getElem?_eq_getElem hi
    have hm : rows[i] ∈ rows := List.getElem_mem hi
    have ha : (keysF 0 (rows.take i)).length ≤ 1000 := by
      have := keysF_len (rows.take i) 0 fun r hr => hz r (List.mem_of_mem_take hr)
      have h2 : (rows.take i).length ≤ 4 := by rw [List.length_take]; omega
      omega
    rw [rng_cons]
    unfold forD
    simp only [gNm, List.set_cons_succ, List.set_cons_zero]
    unfold Ev.bind
    rw [kyB_run (k := k) (rows := rows) hr (hz _ hm) ha]
    simp only [T.bind, reK, forK]
    have ih := ky_loop hz hn n (i + 1) (by omega)
    have et : rows.take (i + 1) = rows.take i ++ [rows[i]] := by rw [List.take_succ, hr]; rfl
    rw [et, keysF_snoc, List.length_take, Nat.min_eq_left (by omega), Nat.zero_add] at ih
    exact ih
theorem law_keys_run (b : BoardOk k rows w) : mkFn false 1 5 (bKeys t) [.dat (planD k rows)] M = .ret (.ok (.dat (.lst (keysF 0 rows))) M) := by
  have h2 := b.h2
  have hz : ∀ r ∈ rows, r.2.length ≤ 4 := fun r hr => by
    have := (b.sg r hr).1
    have := b.w2
    omega
  have hl : eOpT (lenG t) (eCons (eOp2 ixV (eVar 0) (fun _ => ok (.dat (.int 1)))) eNil) [.dat (planD k rows), .dat (.lst []), .un, .un, .un] M = .ret (.ok (.dat (.int (rows.length : Int))) M) :=
    len_ret (s := .dat (.lst (rows.map rowD))) (op2_ret (var_dat rfl) rfl (u := .dat (.lst (rows.map rowD))) (M3 := M) rfl) (by simp [lenOf]) (by unfold sizeLine; omega)
  have hloop := ky_loop (M := M) (t := t) (k := k) hz h2 rows.length 0 (by omega)
  rw [List.take_zero] at hloop
  have e : bKeys t [.dat (planD k rows), .un, .un, .un, .un] M = .ret (.ok (.rt (.dat (.lst (keysF 0 rows)))) M) := by
    unfold bKeys
    refine seq_ret (set_ret (s := .dat (.lst [])) (M1 := M) (by simp [eLst, eNil, Ev.bind, T.bind, reK, R.ok, ofM, fzL])) ?_
    refine seq_ret (ρ1 := [.dat (planD k rows), .dat (.lst (keysF 0 rows)), .un, .un, .un]) (M1 := M) ?_ ?_
    · simp only [List.set_cons_succ, List.set_cons_zero]
      unfold sFor Ev.bind
      rw [rg1_run hl (by omega) (by omega), Int.toNat_natCast]
      exact hloop
    · unfold sRet Ev.bind
      rw [var_dat rfl]
      rfl
  unfold mkFn
  rw [if_pos (show [Sl.dat (planD k rows)].length = 1 from rfl)]
  show (bKeys t [.dat (planD k rows), .un, .un, .un, .un] M).bind _ = _
  rw [e]
  show clean false M.length (.dat _) M = _
  unfold clean
  dsimp only
  rw [cut_self rfl]
end
end R

set_option Elab.async false
set_option linter.all false
set_option maxRecDepth 100000
set_option maxHeartbeats 4000000
namespace R
open PySem PySem.Spec PyProof.Rows L2
variable [Keys]
/-! ### the text of a board tells the board -/
def rowL (r : Int × Str) : List Nat := (48 + r.1.toNat) :: 32 :: r.2.cps.toList
def jn : List (Int × Str) → List Nat
  | [] => []
  | [r] => rowL r
  | r :: s :: l => rowL r ++ 32 :: 47 :: 32 :: jn (s :: l)
def tail0 : List Nat → Prop
  | [] => True
  | c :: _ => c = 32
theorem split_signs : ∀ {z z' u u' : List Nat}, (∀ c ∈ z, c ∈ ([46, 111, 62, 60] : List Nat)) → (∀ c ∈ z', c ∈ ([46, 111, 62, 60] : List Nat)) → tail0 u → tail0 u' → z ++ u = z' ++ u' → z = z' ∧ u = u'
  | [], [], u, u', _, _, _, _, e => ⟨rfl, e⟩
  | [], c :: z', u, u', _, h2, t1, _, e => by
    have := h2 c List.mem_cons_self
    rw [List.nil_append, List.cons_append] at e
    subst e
    have t1 : c = 32 := t1
    subst t1
    simp at this
  | c :: z, [], u, u', h1, _, _, t2, e => by
    have := h1 c List.mem_cons_self
    rw [List.nil_append, List.cons_append] at e
    subst e
    have t2 : c = 32 := t2
    subst t2
    simp at this
  | c :: z, c' :: z', u, u', h1, h2, t1, t2, e => by
    rw [List.cons_append, List.cons_append] at e
    injection e with e1 e2
    obtain ⟨a, b⟩ := split_signs (fun x hx => h1 x (List.mem_cons_of_mem _ hx)) (fun x hx => h2 x (List.mem_cons_of_mem _ hx)) t1 t2 e2
    exact ⟨by rw [e1, a], b⟩
theorem str_ext {a b : Str} (h : a.cps.toList = b.cps.toList) : a = b := by
  obtain ⟨⟨a⟩⟩ := a
  obtain ⟨⟨b⟩⟩ := b
  have h : a = b := h
  rw [h]
def Gd (l : List (Int × Str)) : Prop := ∀ r ∈ l, 0 ≤ r.1 ∧ okS r.2
theorem t00 : tail0 [] := trivial
theorem t01 {l : List Nat} : tail0 (32 :: l) := rfl
theorem row_inj {r r' : Int × Str} {u u' : List Nat} (h1 : 0 ≤ r.1 ∧ okS r.2) (h2 : 0 ≤ r'.1 ∧ okS r'.2) (t1 : tail0 u) (t2 : tail0 u') (e : rowL r ++ u = rowL r' ++ u') : r = r' ∧ u = u' := by
  unfold rowL at e
  simp only [List.cons_append] at e
  injection e with e1 e2
  injection e2 with _ e3
  obtain ⟨a, b⟩ := split_signs h1.2 h2.2 t1 t2 e3
  refine ⟨Prod.ext ?_ (str_ext a), b⟩
  have := h1.1
  have := h2.1
  omega
theorem jn_inj : ∀ {l l' : List (Int × Str)}, Gd l → Gd l' → l ≠ [] → l' ≠ [] → jn l = jn l' → l = l'
  | [], _, _, _, h, _, _ => absurd rfl h
  | _ :: _, [], _, _, _, h, _ => absurd rfl h
  | [r], [r'], g, g', _, _, e => by
    have e : rowL r ++ [] = rowL r' ++ [] := by rw [List.append_nil, List.append_nil]; exact e
    rw [(row_inj (g r List.mem_cons_self) (g' r' List.mem_cons_self) t00 t00 e).1]
  | [r], r' :: s' :: l', g, g', _, _, e => by
    have e : rowL r ++ [] = rowL r' ++ 32 :: 47 :: 32 :: jn (s' :: l') := by rw [List.append_nil]; exact e
    have := (row_inj (g r List.mem_cons_self) (g' r' List.mem_cons_self) t00 t01 e).2
    cases this
  | r :: s :: l, [r'], g, g', _, _, e => by
    have e : rowL r ++ 32 :: 47 :: 32 :: jn (s :: l) = rowL r' ++ [] := by rw [List.append_nil]; exact e
    have := (row_inj (g r List.mem_cons_self) (g' r' List.mem_cons_self) t01 t00 e).2
    cases this
  | r :: s :: l, r' :: s' :: l', g, g', _, _, e => by
    have e : rowL r ++ 32 :: 47 :: 32 :: jn (s :: l) = rowL r' ++ 32 :: 47 :: 32 :: jn (s' :: l') := e
    obtain ⟨a, b⟩ := row_inj (g r List.mem_cons_self) (g' r' List.mem_cons_self) t01 t01 e
    injection b with _ b
    injection b with _ b
    injection b with _ b
    rw [a, jn_inj (fun x hx => g x (List.mem_cons_of_mem _ hx)) (fun x hx => g' x (List.mem_cons_of_mem _ hx)) (by simp) (by simp) b]
theorem digit {p : Int} (h0 : 0 ≤ p) (h1 : p ≤ 6) : (Str.ofString (toString p)).cps.toList = [48 + p.toNat] := by
  obtain ⟨n, rfl⟩ := Int.eq_ofNat_of_zero_le h0
  have key : ∀ n : Fin 7, (Str.ofString (toString ((n : Nat) : Int))).cps.toList = [48 + (n : Nat)] := by decide +kernel
  exact key ⟨n, by omega⟩
theorem rowT_l {r : Int × Str} (h0 : 0 ≤ r.1) (h1 : r.1 ≤ 6) : (rowT r).cps.toList = rowL r := by
  unfold rowT rowL
  rw [Str.cps_append, Str.cps_append, Array.toList_append, Array.toList_append, digit h0 h1]
  rfl
theorem join_l : ∀ {l : List (Int × Str)}, (∀ r ∈ l, 0 ≤ r.1 ∧ r.1 ≤ 6) → (Str.join " / " (l.map rowT)).cps.toList = jn l
  | [], _ => rfl
  | [r], h => rowT_l (h r List.mem_cons_self).1 (h r List.mem_cons_self).2
  | r :: s :: l, h => by
    show (rowT r ++ " / " ++ Str.join " / " ((s :: l).map rowT)).cps.toList = _
    rw [Str.cps_append, Str.cps_append, Array.toList_append, Array.toList_append, rowT_l (h r List.mem_cons_self).1 (h r List.mem_cons_self).2, join_l fun x hx => h x (List.mem_cons_of_mem _ hx)]
    have e : (Str.ofString " / ").cps.toList = [32, 47, 32] := by decide
    show rowL r ++ (Str.ofString " / ").cps.toList ++ jn (s :: l) = _
    rw [e, List.append_assoc]
    rfl
theorem text_inj {k k' : Int} {rows rows' : List (Int × Str)} {w w' : Nat} (b : BoardOk k rows w) (b' : BoardOk k' rows' w') (e : textT k rows = textT k' rows') : k = k' ∧ rows = rows' := by
  have hk : ∀ {k : Int} {rows : List (Int × Str)} {w : Nat}, BoardOk k rows w → (textT k rows).cps.toList = (48 + k.toNat) :: 58 :: 32 :: jn rows := by
    intro k rows w b
    have k1 := b.k1
    have k2 := b.k2
    unfold textT
    rw [show Txt.join " / " (rows.map rowT) = Str.join " / " (rows.map rowT) from StrLaws.glued_eq_join _ _, Str.cps_append, Str.cps_append, Array.toList_append, Array.toList_append, digit (by omega) k2, join_l fun r hr => by
      have := b.lo r hr
      omega]
    rfl
  have e2 := congrArg (fun z : Str => z.cps.toList) e
  simp only [hk b, hk b'] at e2
  injection e2 with e3 e4
  injection e4 with _ e4
  injection e4 with _ e4
  have k1 := b.k1
  have k1' := b'.k1
  refine ⟨by omega, jn_inj (fun r hr => ⟨(b.lo r hr).1, (b.sg r hr).2⟩) (fun r hr => ⟨(b'.lo r hr).1, (b'.sg r hr).2⟩) ?_ ?_ e4⟩
  · intro z; have := b.h1; rw [z] at this; simp at this
  · intro z; have := b'.h1; rw [z] at this; simp at this
end R

set_option Elab.async false
set_option linter.all false
set_option maxRecDepth 100000
set_option maxHeartbeats 4000000
namespace R
open PySem PySem.Spec PyProof.Rows L2
variable [Keys]
section
variable {M : List MO} {t : Tbl} {k k' : Int} {rows rows' : List (Int × Str)} {w w' : Nat} {ρ : List Sl}
def bEq : CS := (sRet (eAnd (eOp1 (isiC 0 [0]) (eVar 1)) (eOp2 (cmp .Eq) (eFld "own_text" [0] (eVar 0)) (eFld "own_text" [0] (eVar 1)))))
theorem fld_at {i : Nat} {f : Str} {d : D} (h0 : ρ[i]? = some (.dat (boardD k rows))) (e : (boardF k rows).lookup f = some d) : eFld f [0] (eVar i) ρ M = .ret (.ok (.dat d) M) := by
  unfold eFld Ev.bind
  rw [var_dat h0]
  simp [T.bind, reK, ofM, clsAt, boardD, fldV, e]
theorem fn2_dat {b : CS} {d e d' : D} (h : b [.dat d, .dat e] M = .ret (.ok (.rt (.dat d')) M)) : mkFn false 2 2 b [.dat d, .dat e] M = .ret (.ok (.dat d') M) := by
  unfold mkFn
  rw [if_pos (show [Sl.dat d, Sl.dat e].length = 2 from rfl)]
  show (b [.dat d, .dat e] M).bind _ = _
  rw [h]
  show clean false M.length (.dat d') M = _
  unfold clean
  dsimp only
  rw [cut_self rfl]
theorem eq_run : mkFn false 2 2 bEq [.dat (boardD k rows), .dat (boardD k' rows')] M = .ret (.ok (.dat (.bl (decide (textT k rows = textT k' rows')))) M) := fn2_dat (by
  unfold bEq sRet eAnd Ev.bind
  rw [op1_ret (var_dat rfl) (u := .dat (.bl true)) (M2 := M) rfl]
  simp only [T.bind, reK]
  rw [op2_ret (fld_at rfl rfl) (fld_at rfl rfl) es]
  rfl)
theorem eq_str {z : Str} : mkFn false 2 2 bEq [.dat (boardD k rows), .dat (.str z)] M = .ret (.ok (.dat (.bl false)) M) := fn2_dat (by
  unfold bEq sRet eAnd Ev.bind
  rw [op1_ret (var_dat rfl) (u := .dat (.bl false)) (M2 := M) rfl]
  rfl)
theorem g_eq {F : Fn} {tIn : Tbl} {v : Bool} (e : F [.dat (boardD k rows), .dat (boardD k' rows')] M = .ret (.ok (.dat (.bl v)) M)) : cmpG .Eq [(0, F)] tIn (.dat (boardD k rows)) (.dat (boardD k' rows')) M = .ret (.ok (.dat (.bl v)) M) := by
  unfold cmpG
  rw [show cmpV .Eq M (.dat (boardD k rows)) (.dat (boardD k' rows')) = none from rfl]
  show (if othOk M 0 (.dat (boardD k' rows')) then (F [.dat (boardD k rows), .dat (boardD k' rows')] M).bind (chkBl fun b => b) else .bad) = _
  rw [if_pos (show othOk M 0 (.dat (boardD k' rows')) = true from rfl), e]
  rfl
theorem g_ne {F : Fn} {tIn : Tbl} {v : Bool} (e : F [.dat (boardD k rows), .dat (boardD k' rows')] M = .ret (.ok (.dat (.bl v)) M)) : cmpG .NotEq [(0, F)] tIn (.dat (boardD k rows)) (.dat (boardD k' rows')) M = .ret (.ok (.dat (.bl (!v))) M) := by
  unfold cmpG
  rw [show cmpV .NotEq M (.dat (boardD k rows)) (.dat (boardD k' rows')) = none from rfl]
  show (if othOk M 0 (.dat (boardD k' rows')) then (F [.dat (boardD k rows), .dat (boardD k' rows')] M).bind (chkBl fun b => !b) else .bad) = _
  rw [if_pos (show othOk M 0 (.dat (boardD k' rows')) = true from rfl), e]
  rfl
theorem g_str {F : Fn} {tIn : Tbl} {v : Bool} {z : Str} (e : F [.dat (boardD k rows), .dat (.str z)] M = .ret (.ok (.dat (.bl v)) M)) : cmpG .Eq [(0, F)] tIn (.dat (boardD k rows)) (.dat (.str z)) M = .ret (.ok (.dat (.bl v)) M) := by
  unfold cmpG
  rw [show cmpV .Eq M (.dat (boardD k rows)) (.dat (.str z)) = none from by
    show (if plain 58 (boardD k rows) && plain 58 (.str z) then (some (PyData.eqv (py (boardD k rows)) (py (.str z))) : Option Bool) else none) = none
    rw [show plain 58 (boardD k rows) = false from rfl]
    rfl]
  show (if othOk M 0 (.dat (.str z)) then (F [.dat (boardD k rows), .dat (.str z)] M).bind (chkBl fun b => b) else .bad) = _
  rw [if_pos (show othOk M 0 (.dat (.str z)) = true from rfl), e]
  rfl
end
end R

set_option Elab.async false
set_option linter.all false
set_option maxRecDepth 100000
set_option maxHeartbeats 4000000
namespace R
open PySem PySem.Spec PyProof.Rows L2
variable [Keys]
section
variable {M : List MO} {k k' : Int} {rows rows' : List (Int × Str)} {w w' : Nat}
theorem ok_strOk {z : Str} (h : okS z) : PyData.strOk z = true := by
  unfold PyData.strOk
  rw [← Array.all_toList, List.all_eq_true]
  intro c hc
  have := h c hc
  simp only [List.mem_cons, List.not_mem_nil, or_false] at this
  rw [decide_eq_true_eq]
  omega
theorem rows_plain : ∀ {l : List (Int × Str)} (n : Nat), (∀ r ∈ l, okS r.2) → plains (n + 1) (l.map rowD) = true
  | [], _, _ => by simp [plains]
  | r :: l, n, h => by
    rw [List.map_cons]
    unfold plains
    rw [rows_plain n fun x hx => h x (List.mem_cons_of_mem _ hx)]
    simp [rowD, plain, plains, ok_strOk (h r List.mem_cons_self)]
theorem rows_nob : ∀ {l : List (Int × Str)}, nobs (l.map rowD) = true
  | [] => by simp [nobs]
  | r :: l => by
    rw [List.map_cons]
    unfold nobs
    rw [rows_nob]
    simp [rowD, nob, nobs]
theorem rowD_inj : ∀ {l l' : List (Int × Str)}, l.map rowD = l'.map rowD → l = l'
  | [], [], _ => rfl
  | [], _ :: _, h => by cases h
  | _ :: _, [], h => by cases h
  | r :: l, r' :: l', h => by
    rw [List.map_cons, List.map_cons] at h
    injection h with h1 h2
    unfold rowD at h1
    simp only [D.tup.injEq, List.cons.injEq, D.int.injEq, D.str.injEq, and_true] at h1
    rw [rowD_inj h2, Prod.ext h1.1 h1.2]
theorem plan_eq (b : BoardOk k rows w) (b' : BoardOk k' rows' w') : cmp .Eq M (.dat (planD k rows)) (.dat (planD k' rows')) = some (.dat (.bl (decide (k = k' ∧ rows = rows'))), M) := by
  have p1 : plain 58 (planD k rows) = true := by
    unfold planD
    simp only [plain, plains, rows_plain 55 fun r hr => (b.sg r hr).2, Bool.and_self]
  have p2 : plain 58 (planD k' rows') = true := by
    unfold planD
    simp only [plain, plains, rows_plain 55 fun r hr => (b'.sg r hr).2, Bool.and_self]
  have n1 : ∀ {k : Int} {rows : List (Int × Str)}, nob (planD k rows) = true := by
    intro k rows
    unfold planD
    simp [nob, nobs, rows_nob]
  have e := eqv_nob 58 _ _ p1 p2 n1 n1
  have e2 : PyData.eqv (py (planD k rows)) (py (planD k' rows')) = decide (k = k' ∧ rows = rows') := by
    rw [Bool.eq_iff_iff, e, decide_eq_true_eq]
    constructor
    · intro h
      unfold planD at h
      simp only [D.tup.injEq, List.cons.injEq, D.int.injEq, D.lst.injEq, and_true] at h
      exact ⟨h.1, rowD_inj h.2⟩
    · rintro ⟨rfl, rfl⟩; rfl
  have ev : cmpV .Eq M (.dat (planD k rows)) (.dat (planD k' rows')) = (if plain 58 (planD k rows) && plain 58 (planD k' rows') then some (PyData.eqv (py (planD k rows)) (py (planD k' rows'))) else none) := rfl
  unfold cmp
  rw [ev, p1, p2, e2]
  rfl
end
end R

set_option Elab.async false
set_option linter.all false
set_option maxRecDepth 100000
set_option maxHeartbeats 4000000
namespace R
open PySem PySem.Spec PyProof.Rows L2
variable [Keys]
section
variable {M : List MO}
/-- a comprehension that stands for a list that will change -/
theorem lcM_run {own : List Nat} {fi : CI} {its : Its} {gt : CG} {tt : CT} {e : CE} {ρ : List Sl} {ds : List D} {g : D → List D} (h1 : fi ρ M = .ret (.ok its M)) (h2 : Iter M its ds) (hz : ds.length < sizeLine) (hb : ∀ d ∈ ds, oneT gt tt e (wipeS ρ own) (.dat d) M = .ret (.ok (g d) M)) :
    eLc true own fi gt tt e ρ M = .ret (.ok (.mu M.length) (M ++ [.lst ((ds.flatMap g).map .dat)])) := by
  unfold eLc Ev.bind
  rw [h1]
  simp only [T.bind, reK]
  rw [if_pos (show its.n < sizeLine by rw [iter_n h2]; exact hz)]
  simp only [compR_ret h2 hb, T.bind, reK, ofM, mkL, if_true]
theorem Cl.app {m : MO} (h : Cl M) (hm : clMO (M.length + 1) m = true) (hmono : ∀ x ∈ M, clMO M.length x = true → clMO (M.length + 1) x = true) : Cl (M ++ [m]) := by
  unfold Cl closed at *
  rw [List.take_length] at h
  rw [List.length_append, List.length_singleton, List.take_of_length_le (by simp), List.all_append, Bool.and_eq_true]
  refine ⟨?_, by simpa using hm⟩
  rw [List.all_eq_true] at h ⊢
  exact fun x hx => hmono x hx (h x hx)
theorem clS_mono {n : Nat} {s : Sl} (h : clS n s = true) : clS (n + 1) s = true := by
  cases s <;> simp_all [clS]
  omega
theorem clMO_mono {n : Nat} {m : MO} (h : clMO n m = true) : clMO (n + 1) m = true := by
  cases m <;> simp_all [clMO]
  · exact fun x hx => clS_mono (h x hx)
  · exact fun a b hx => clS_mono (h a b hx)
  · exact fun a b hx => clS_mono (h a b hx)
  · exact fun a b hx => clS_mono (h a b hx)
theorem Cl.lst {ds : List D} (h : Cl M) : Cl (M ++ [.lst (ds.map .dat)]) := h.app (by simp [clMO, clS]) fun _ _ => clMO_mono
theorem Cl.set {j : Nat} {m : MO} (h : Cl M) (hm : clMO M.length m = true) : Cl (M.set j m) := by
  unfold Cl closed at *
  rw [List.take_length] at h
  rw [List.take_length, List.length_set, List.all_eq_true]
  rw [List.all_eq_true] at h
  intro x hx
  rcases List.mem_or_eq_of_mem_set hx with e | e
  · exact h x e
  · rw [e]; exact hm
theorem cl_hand : Cl [.hand] := by unfold Cl closed; rfl
end
end R

set_option Elab.async false
set_option linter.all false
set_option maxRecDepth 100000
set_option maxHeartbeats 4000000
namespace R
open PySem PySem.Spec PyProof.Rows L2
variable [Keys]
section
variable {M : List MO} {t : Tbl} {k : Int} {rows : List (Int × Str)} {w : Nat}
/-- _law_made -/
theorem made_run (hc : Cl M) (b : BoardOk k rows w) : mkFn false 1 1 (sRet (eMake true 0 (initF t) (eCons (eOp2 ixV (eVar 0) (fun _ => ok (.dat (.int 0)))) (eCons (eOp2 ixV (eVar 0) (fun _ => ok (.dat (.int 1)))) eNil)))) [.dat (planD k rows)] M = .ret (.ok (.dat (boardD k rows)) M) := fn1_dat (by
  unfold sRet Ev.bind
  rw [make_run (t := t) hc (cons_ret (op2_ret (var_dat rfl) rfl rfl) (cons_ret (op2_ret (var_dat rfl) rfl (u := .dat (.lst (rows.map rowD))) (M3 := M) rfl) nil_ret)) (fun m => rws_lst) b]
  rfl)
end
end R

set_option Elab.async false
set_option linter.all false
set_option maxRecDepth 100000
set_option maxHeartbeats 4000000
namespace R
open PySem PySem.Spec PyProof.Rows L2
variable [Keys]
section
variable {M : List MO} {t : Tbl} {k : Int} {rows : List (Int × Str)} {w : Nat} {ρ : List Sl}
/-- o.m(): a method without arguments of a board -/
theorem met0_run {m : Str} {F : Fn} {i : Nat} {r : T (Re Sl)} (h0 : ρ[i]? = some (.dat (boardD k rows))) (hn : insAt M m (.dat (boardD k rows)) = some 0) (e : F [.dat (boardD k rows)] M = r) : eMet0 m [(0, F)] (eVar i) ρ M = r := by
  unfold eMet0 Ev.bind
  rw [var_dat h0]
  simp only [T.bind, reK, hn]
  exact e
theorem places_at : insAt M "places" (.dat (boardD k rows)) = some 0 := rfl
theorem signs_at : insAt M "signs" (.dat (boardD k rows)) = some 0 := rfl
theorem crossings_at : insAt M "crossings" (.dat (boardD k rows)) = some 0 := rfl
/-- the last append to a new list -/
theorem app_run {fo fa : CE} {xs : List Sl} {s : Sl} (h1 : fo ρ M = .ret (.ok (.mu M.length) (M ++ [.lst xs]))) (h2 : fa ρ (M ++ [.lst xs]) = .ret (.ok s (M ++ [.lst xs]))) (hz : xs.length < sizeLine) : eApp fo fa ρ M = .ret (.ok (.dat .non) (M ++ [.lst (xs ++ [s])])) := by
  have g : muL (.mu M.length) (M ++ [.lst xs]) = some (M.length, xs) := by simp only [muL, last_get]
  unfold eApp Ev.bind
  rw [h1]
  simp only [T.bind, reK, g]
  rw [h2]
  simp only [T.bind, reK, ofM, g]
  rw [if_pos hz, last_set]
end
end R

set_option Elab.async false
set_option linter.all false
set_option maxRecDepth 100000
set_option maxHeartbeats 4000000
namespace R
open PySem PySem.Spec PyProof.Rows L2
variable [Keys]
section
variable {M : List MO} {t : Tbl} {k : Int} {rows : List (Int × Str)} {w : Nat} {ρ : List Sl}
theorem lst_ret {fs : CA} {ss : List Sl} {ds : List D} {M1 M2 : List MO} (e : fs ρ M = .ret (.ok ss M1)) (h : fzL M1 ss = some (ds, M2)) (hz : ss.length ≤ sizeLine) : eLst false fs ρ M = .ret (.ok (.dat (.lst ds)) M2) := by
  unfold eLst Ev.bind
  rw [e]
  simp only [T.bind, reK, ofM, if_pos hz, h, Bool.false_eq_true, if_false]
theorem shown_good (b : BoardOk k rows w) : good 2 (.lst [.str (textT k rows), .int k, .int (rows.length : Int), .int (w : Int), .int ((keysF 0 rows).length : Int), .str (shownT rows.length w)]) = true := by
  simp [good]
end
end R

set_option Elab.async false
set_option linter.all false
set_option maxRecDepth 100000
set_option maxHeartbeats 4000000
namespace R
open PySem PySem.Spec PyProof.Rows L2
variable [Keys]
/-! ### plain: one step of a run, an equation a construct -/
section
variable {α β : Type} {M M1 : List MO} {ρ ρ1 : List Sl} {s s1 : Sl} {i j k : Nat} {Q : Re Fl → Prop}
@[simp] theorem x_at0 {a : α} {r : List α} : (a :: r)[0]? = some a := id rfl
@[simp] theorem x_bind {m : Ev α} {f : α → Ev β} : Ev.bind m f M = (m M).bind (reK f) := by rw [Ev.bind]
@[simp] theorem x_bret {a : α} {f : α → T β} : (T.ret a).bind f = f a := by rw [T.bind]
@[simp] theorem x_bbad {f : α → T β} : (T.bad : T α).bind f = .bad := by rw [T.bind]
@[simp] theorem x_bdraw {n : Int} {k : Int → T α} {f : α → T β} : (T.draw n k).bind f = .draw n fun d => (k d).bind f := by rw [T.bind]
@[simp] theorem x_reok {f : α → Ev β} {a : α} : reK f (.ok a M) = f a M := by rw [reK]
@[simp] theorem x_reex {f : α → Ev β} {c : Nat} {fs : List (Str × D)} : reK f (.ex c fs M) = .ret (.ex c fs M) := by rw [reK]
@[simp] theorem x_ok {a : α} : R.ok a M = .ret (.ok a M) := by rw [R.ok]
@[simp] theorem x_bad : (R.bad : Ev α) M = .bad := by rw [R.bad]
def ofK : Option (α × List MO) → T (Re α)
  | some (a, M) => .ret (.ok a M)
  | none => .bad
@[simp] theorem ofK_some {a : α} : ofK (some (a, M)) = .ret (.ok a M) := by rw [ofK]
@[simp] theorem ofK_none : ofK (none : Option (α × List MO)) = .bad := by rw [ofK]
@[simp] theorem x_ofM {f : List MO → Option (α × List MO)} : ofM f M = ofK (f M) := by
  unfold ofM ofK
  cases f M with
  | none => rfl
  | some p => rfl
@[simp] theorem x_ofO_some {a : α} : ofO (some a) M = .ret (.ok a M) := by rw [ofO, R.ok]
@[simp] theorem x_ofO_none : (ofO (none : Option α)) M = .bad := by rw [ofO, R.bad]
def eVarK : Option Sl → List MO → T (Re Sl)
  | some .un, _ => .bad
  | some s, M => .ret (.ok (nrm M s) M)
  | none, _ => .bad
def nrmK : Option MO → Nat → Sl
  | some (.fz (some d)), _ => .dat d
  | _, j => .mu j
@[simp] theorem x_nrm_dat {d : D} : nrm M (.dat d) = .dat d := id rfl
@[simp] theorem x_nrm_mu : nrm M (.mu j) = nrmK M[j]? j := by
  show (match M[j]? with
    | some (.fz (some d)) => Sl.dat d
    | _ => .mu j) = _
  cases M[j]? with
  | none => rfl
  | some m =>
    cases m with
    | fz o => cases o <;> rfl
    | _ => rfl
@[simp] theorem nrmK_fz {d : D} : nrmK (some (.fz (some d))) j = .dat d := id rfl
@[simp] theorem nrmK_lst {xs : List Sl} : nrmK (some (.lst xs)) j = .mu j := id rfl
@[simp] theorem nrmK_hand : nrmK (some .hand) j = .mu j := id rfl
@[simp] theorem nrmK_dK {xs : List (Key × Sl)} : nrmK (some (.dK xs)) j = .mu j := id rfl
@[simp] theorem nrmK_dT {xs : List (List Key × Sl)} : nrmK (some (.dT xs)) j = .mu j := id rfl
@[simp] theorem nrmK_ins {c : Nat} {xs : List (Str × Sl)} : nrmK (some (.ins c xs)) j = .mu j := id rfl
@[simp] theorem x_eVar : eVar i ρ M = eVarK ρ[i]? M := by
  unfold eVar eVarK
  cases ρ[i]? with
  | none => rfl
  | some s => cases s <;> rfl
@[simp] theorem eVarK_dat {d : D} : eVarK (some (.dat d)) M = .ret (.ok (.dat d) M) := id rfl
@[simp] theorem eVarK_mu : eVarK (some (.mu j)) M = .ret (.ok (nrm M (.mu j)) M) := id rfl
@[simp] theorem x_eNil : eNil ρ M = .ret (.ok [] M) := id rfl
def kC2 (s : Sl) : List Sl → Ev (List Sl) := fun ss => ok (s :: ss)
def kC1 (g : CA) (ρ : List Sl) : Sl → Ev (List Sl) := fun s => (g ρ).bind (kC2 s)
@[simp] theorem kC2_r {ss : List Sl} : kC2 s ss M = .ret (.ok (s :: ss) M) := id rfl
@[simp] theorem kC1_r {g : CA} : kC1 g ρ s M = (g ρ M).bind (reK (kC2 s)) := id rfl
@[simp] theorem x_eCons {f : CE} {g : CA} : eCons f g ρ M = (f ρ M).bind (reK (kC1 g ρ)) := id rfl
def kO1 (g : List MO → Sl → Option (Sl × List MO)) : Sl → Ev Sl := fun x => ofM fun M => g M x
@[simp] theorem kO1_r {g : List MO → Sl → Option (Sl × List MO)} : kO1 g s M = ofK (g M s) := by unfold kO1; rw [x_ofM]
@[simp] theorem x_eOp1 {g : List MO → Sl → Option (Sl × List MO)} {fa : CE} : eOp1 g fa ρ M = (fa ρ M).bind (reK (kO1 g)) := id rfl
def kO2b (g : List MO → Sl → Sl → Option (Sl × List MO)) (x : Sl) : Sl → Ev Sl := fun y => ofM fun M => g M x y
def kO2 (g : List MO → Sl → Sl → Option (Sl × List MO)) (fb : CE) (ρ : List Sl) : Sl → Ev Sl := fun x => (fb ρ).bind (kO2b g x)
@[simp] theorem kO2b_r {g : List MO → Sl → Sl → Option (Sl × List MO)} : kO2b g s s1 M = ofK (g M s s1) := by unfold kO2b; rw [x_ofM]
@[simp] theorem kO2_r {g : List MO → Sl → Sl → Option (Sl × List MO)} {fb : CE} : kO2 g fb ρ s M = (fb ρ M).bind (reK (kO2b g s)) := id rfl
@[simp] theorem x_eOp2 {g : List MO → Sl → Sl → Option (Sl × List MO)} {fa fb : CE} : eOp2 g fa fb ρ M = (fa ρ M).bind (reK (kO2 g fb ρ)) := id rfl
def kOT (g : List Sl → Ev Sl) : List Sl → Ev Sl := fun ss => noX (g ss)
@[simp] theorem kOT_r {g : List Sl → Ev Sl} {ss : List Sl} : kOT g ss M = (g ss M).bind noXk := id rfl
@[simp] theorem x_eOpT {g : List Sl → Ev Sl} {fs : CA} : eOpT g fs ρ M = (fs ρ M).bind (reK (kOT g)) := id rfl
def kO2Tb (g : Sl → Sl → Ev Sl) (x : Sl) : Sl → Ev Sl := fun y => noX (g x y)
def kO2T (g : Sl → Sl → Ev Sl) (fb : CE) (ρ : List Sl) : Sl → Ev Sl := fun x => (fb ρ).bind (kO2Tb g x)
@[simp] theorem kO2Tb_r {g : Sl → Sl → Ev Sl} : kO2Tb g s s1 M = (g s s1 M).bind noXk := id rfl
@[simp] theorem kO2T_r {g : Sl → Sl → Ev Sl} {fb : CE} : kO2T g fb ρ s M = (fb ρ M).bind (reK (kO2Tb g s)) := id rfl
@[simp] theorem x_eOp2T {g : Sl → Sl → Ev Sl} {fa fb : CE} : eOp2T g fa fb ρ M = (fa ρ M).bind (reK (kO2T g fb ρ)) := id rfl
@[simp] theorem x_noX {m : Ev α} : noX m M = (m M).bind noXk := id rfl
@[simp] theorem x_noXk_ok {a : α} : noXk (.ok a M) = .ret (.ok a M) := id rfl
@[simp] theorem x_noXk_ex {c : Nat} {fs : List (Str × D)} : noXk (.ex c fs M : Re α) = .bad := id rfl
@[simp] theorem x_asB {b : Bool} : asB (.dat (.bl b)) M = .ret (.ok b M) := id rfl
@[simp] theorem x_asS {b : Str} : asS (.dat (.str b)) M = .ret (.ok b M) := id rfl
@[simp] theorem x_tVal {f : CE} : tVal f ρ M = (f ρ M).bind (reK asB) := id rfl
theorem iteA {c : Prop} [Decidable c] {f g : Ev α} : (if c then f else g) M = if c then f M else g M := by split <;> rfl
def kNot : Bool → Ev Bool := fun b => ok (!b)
@[simp] theorem kNot_r {b : Bool} : kNot b M = .ret (.ok (!b) M) := id rfl
@[simp] theorem x_tNot {f : CT} : tNot f ρ M = (f ρ M).bind (reK kNot) := id rfl
def kAnd (g : CT) (ρ : List Sl) : Bool → Ev Bool := fun b => if b then g ρ else ok false
def kOr (g : CT) (ρ : List Sl) : Bool → Ev Bool := fun b => if b then ok true else g ρ
@[simp] theorem kAnd_r {g : CT} {b : Bool} : kAnd g ρ b M = if b = true then g ρ M else .ret (.ok false M) := by unfold kAnd; rw [iteA]; rfl
@[simp] theorem kOr_r {g : CT} {b : Bool} : kOr g ρ b M = if b = true then .ret (.ok true M) else g ρ M := by unfold kOr; rw [iteA]; rfl
@[simp] theorem x_tAnd {f g : CT} : tAnd f g ρ M = (f ρ M).bind (reK (kAnd g ρ)) := id rfl
@[simp] theorem x_tOr {f g : CT} : tOr f g ρ M = (f ρ M).bind (reK (kOr g ρ)) := id rfl
def eAndK (g : CE) (ρ : List Sl) : Sl → Ev Sl := fun s => match s with
  | .dat (.bl true) => g ρ
  | .dat (.bl false) => ok (.dat (.bl false))
  | _ => bad
def eOrK (g : CE) (ρ : List Sl) : Sl → Ev Sl := fun s => match s with
  | .dat (.bl true) => ok (.dat (.bl true))
  | .dat (.bl false) => g ρ
  | _ => bad
@[simp] theorem x_eAnd {f g : CE} : eAnd f g ρ M = (f ρ M).bind (reK (eAndK g ρ)) := id rfl
@[simp] theorem x_eOr {f g : CE} : eOr f g ρ M = (f ρ M).bind (reK (eOrK g ρ)) := id rfl
@[simp] theorem eAndK_t {g : CE} : eAndK g ρ (.dat (.bl true)) M = g ρ M := id rfl
@[simp] theorem eAndK_f {g : CE} : eAndK g ρ (.dat (.bl false)) M = .ret (.ok (.dat (.bl false)) M) := id rfl
@[simp] theorem eOrK_t {g : CE} : eOrK g ρ (.dat (.bl true)) M = .ret (.ok (.dat (.bl true)) M) := id rfl
@[simp] theorem eOrK_f {g : CE} : eOrK g ρ (.dat (.bl false)) M = g ρ M := id rfl
def eNotK : Sl → Ev Sl := fun s => match s with
  | .dat (.bl b) => ok (.dat (.bl (!b)))
  | _ => bad
@[simp] theorem x_eNot {f : CE} : eNot f ρ M = (f ρ M).bind (reK eNotK) := id rfl
@[simp] theorem eNotK_b {b : Bool} : eNotK (.dat (.bl b)) M = .ret (.ok (.dat (.bl (!b))) M) := id rfl
def kIf (f g : CE) (ρ : List Sl) : Bool → Ev Sl := fun b => if b then f ρ else g ρ
@[simp] theorem kIf_r {f g : CE} {b : Bool} : kIf f g ρ b M = if b = true then f ρ M else g ρ M := by unfold kIf; rw [iteA]
@[simp] theorem x_eIf {c : CT} {f g : CE} : eIf c f g ρ M = (c ρ M).bind (reK (kIf f g ρ)) := id rfl
def chnK (op' : CmpOp) (fc : CE) (ρ : List Sl) (y : Sl) : Option Bool → Ev Sl
  | some true => (fc ρ).bind fun z => ofM fun M => cmp op' M y z
  | some false => ok (.dat (.bl false))
  | none => bad
def kCh2 (op op' : CmpOp) (fc : CE) (ρ : List Sl) (x : Sl) : Sl → Ev Sl := fun y M => chnK op' fc ρ y (cmpV op M x y) M
def kCh (op op' : CmpOp) (fb fc : CE) (ρ : List Sl) : Sl → Ev Sl := fun x => (fb ρ).bind (kCh2 op op' fc ρ x)
@[simp] theorem kCh2_r {op op' : CmpOp} {fc : CE} : kCh2 op op' fc ρ s s1 M = chnK op' fc ρ s1 (cmpV op M s s1) M := id rfl
@[simp] theorem kCh_r {op op' : CmpOp} {fb fc : CE} : kCh op op' fb fc ρ s M = (fb ρ M).bind (reK (kCh2 op op' fc ρ s)) := id rfl
@[simp] theorem x_chn {op op' : CmpOp} {fa fb fc : CE} : chn op op' fa fb fc ρ M = (fa ρ M).bind (reK (kCh op op' fb fc ρ)) := by
  unfold chn kCh kCh2 Ev.bind
  congr 1; congr 1; funext x M2; congr 1; congr 1; funext y M3
  cases cmpV op M3 x y with
  | none => rfl
  | some b => cases b <;> rfl
@[simp] theorem chnK_t {op' : CmpOp} {fc : CE} {y : Sl} : chnK op' fc ρ y (some true) M = (fc ρ M).bind (reK (kO2b (cmp op') y)) := id rfl
@[simp] theorem chnK_b {op' : CmpOp} {fc : CE} {y : Sl} {p : Prop} [Decidable p] : chnK op' fc ρ y (some (decide p)) M = if p then (fc ρ M).bind (reK (kO2b (cmp op') y)) else .ret (.ok (.dat (.bl false)) M) := by
  by_cases h : p
  · rw [decide_eq_true h, if_pos h, chnK_t]
  · rw [decide_eq_false h, if_neg h]; rfl
@[simp] theorem chnK_f {op' : CmpOp} {fc : CE} {y : Sl} : chnK op' fc ρ y (some false) M = .ret (.ok (.dat (.bl false)) M) := id rfl
/-! statements -/
@[simp] theorem x_sNil : sNil ρ M = .ret (.ok (.nx ρ) M) := id rfl
@[simp] theorem x_sSeq {f g : CS} : sSeq f g ρ M = (f ρ M).bind (reK (seqK g)) := id rfl
@[simp] theorem x_seqK_nx {g : CS} : seqK g (.nx ρ) M = g ρ M := id rfl
@[simp] theorem x_seqK_rt {g : CS} : seqK g (.rt s) M = .ret (.ok (.rt s) M) := id rfl
@[simp] theorem x_seqK_bk {g : CS} : seqK g (.bk ρ) M = .ret (.ok (.bk ρ) M) := id rfl
@[simp] theorem x_seqK_ct {g : CS} : seqK g (.ct ρ) M = .ret (.ok (.ct ρ) M) := id rfl
def kSet (i : Nat) (ρ : List Sl) : Sl → Ev Fl := fun s => ok (.nx (ρ.set i s))
@[simp] theorem kSet_r : kSet i ρ s M = .ret (.ok (.nx (ρ.set i s)) M) := id rfl
@[simp] theorem x_sSet {f : CE} : sSet i f ρ M = (f ρ M).bind (reK (kSet i ρ)) := id rfl
def tgtK (M : List MO) : Option (List Sl) → T (Re Fl)
  | some ρ => .ret (.ok (.nx ρ) M)
  | none => .bad
@[simp] theorem tgtK_some : tgtK M (some ρ) = .ret (.ok (.nx ρ) M) := id rfl
def kTgt (g : CG) (ρ : List Sl) : Sl → Ev Fl := fun s => ofO ((g s ρ).map .nx)
@[simp] theorem kTgt_r {g : CG} : kTgt g ρ s M = tgtK M (g s ρ) := by
  unfold kTgt
  cases g s ρ <;> rfl
@[simp] theorem x_sTgt {g : CG} {f : CE} : sTgt g f ρ M = (f ρ M).bind (reK (kTgt g ρ)) := id rfl
def kP2b (j : Nat) (ρ : List Sl) : Sl → Ev Fl := fun t => ok (.nx (ρ.set j t))
def kP2 (i j : Nat) (g : CE) (ρ : List Sl) : Sl → Ev Fl := fun s => (g ρ).bind (kP2b j (ρ.set i s))
@[simp] theorem kP2b_r : kP2b j ρ s M = .ret (.ok (.nx (ρ.set j s)) M) := id rfl
@[simp] theorem kP2_r {g : CE} : kP2 i j g ρ s M = (g ρ M).bind (reK (kP2b j (ρ.set i s))) := id rfl
@[simp] theorem x_sPar2 {f g : CE} : sPar2 i j f g ρ M = (f ρ M).bind (reK (kP2 i j g ρ)) := id rfl
def kP3b (j l : Nat) (h : CE) (ρ0 ρ : List Sl) : Sl → Ev Fl := fun t => (h ρ0).bind (kP2b l (ρ.set j t))
def kP3 (i j l : Nat) (g h : CE) (ρ : List Sl) : Sl → Ev Fl := fun s => (g ρ).bind (kP3b j l h ρ (ρ.set i s))
@[simp] theorem kP3b_r {l : Nat} {h : CE} : kP3b j l h ρ1 ρ s M = (h ρ1 M).bind (reK (kP2b l (ρ.set j s))) := id rfl
@[simp] theorem kP3_r {l : Nat} {g h : CE} : kP3 i j l g h ρ s M = (g ρ M).bind (reK (kP3b j l h ρ (ρ.set i s))) := id rfl
@[simp] theorem x_sPar3 {l : Nat} {f g h : CE} : sPar3 i j l f g h ρ M = (f ρ M).bind (reK (kP3 i j l g h ρ)) := id rfl
def kRet : Sl → Ev Fl := fun s => ok (.rt s)
@[simp] theorem kRet_r : kRet s M = .ret (.ok (.rt s) M) := id rfl
@[simp] theorem x_sRet {f : CE} : sRet f ρ M = (f ρ M).bind (reK kRet) := id rfl
@[simp] theorem x_sRetN : sRetN ρ M = .ret (.ok (.rt (.dat .non)) M) := id rfl
def kExp (ρ : List Sl) : Sl → Ev Fl := fun _ => ok (.nx ρ)
@[simp] theorem kExp_r : kExp ρ s M = .ret (.ok (.nx ρ) M) := id rfl
@[simp] theorem x_sExpr {f : CE} : sExpr f ρ M = (f ρ M).bind (reK (kExp ρ)) := id rfl
def kIfS (f g : CS) (ρ : List Sl) : Bool → Ev Fl := fun b => if b then f ρ else g ρ
@[simp] theorem kIfS_r {f g : CS} {b : Bool} : kIfS f g ρ b M = if b = true then f ρ M else g ρ M := by unfold kIfS; rw [iteA]
@[simp] theorem x_sIf {c : CT} {f g : CS} : sIf c f g ρ M = (c ρ M).bind (reK (kIfS f g ρ)) := id rfl
@[simp] theorem x_sBrk : sBrk ρ M = .ret (.ok (.bk ρ) M) := id rfl
@[simp] theorem x_sCnt : sCnt ρ M = .ret (.ok (.ct ρ) M) := id rfl
def kFgt (vs : List Nat) : Fl → Ev Fl := fun r => ok (fgtF vs r)
@[simp] theorem kFgt_r {vs : List Nat} {r : Fl} : kFgt vs r M = .ret (.ok (fgtF vs r) M) := id rfl
@[simp] theorem x_sFgt {vs : List Nat} {f : CS} : sFgt vs f ρ M = (f ρ M).bind (reK (kFgt vs)) := id rfl
@[simp] theorem x_fgt_nx {vs : List Nat} : fgtF vs (.nx ρ) = .nx (wipeS ρ vs) := id rfl
@[simp] theorem x_fgt_bk {vs : List Nat} : fgtF vs (.bk ρ) = .bk (wipeS ρ vs) := id rfl
@[simp] theorem x_fgt_ct {vs : List Nat} : fgtF vs (.ct ρ) = .ct (wipeS ρ vs) := id rfl
@[simp] theorem x_fgt_rt {vs : List Nat} : fgtF vs (.rt s) = .rt s := id rfl
@[simp] theorem x_wipe_nil : wipeS ρ [] = ρ := id rfl
@[simp] theorem x_wipe_cons {v : Nat} {vs : List Nat} : wipeS ρ (v :: vs) = (wipeS ρ vs).set v .un := id rfl
@[simp] theorem x_sCut {b : CS} : sCut b ρ M = (b ρ M).bind (cutF M.length) := id rfl
@[simp] theorem x_cutF_nx {n : Nat} : cutF n (.ok (.nx ρ) M) = .ret (.ok (.nx ρ) (cutR n ρ M)) := id rfl
@[simp] theorem x_cutF_bk {n : Nat} : cutF n (.ok (.bk ρ) M) = .ret (.ok (.bk ρ) (cutR n ρ M)) := id rfl
@[simp] theorem x_cutF_ct {n : Nat} : cutF n (.ok (.ct ρ) M) = .ret (.ok (.ct ρ) (cutR n ρ M)) := id rfl
@[simp] theorem x_cutF_rt {n : Nat} : cutF n (.ok (.rt s) M) = .ret (.ok (.rt s) M) := id rfl
@[simp] theorem x_cutF_ex {n c : Nat} {fs : List (Str × D)} : cutF n (.ex c fs M) = .ret (.ex c fs M) := id rfl
@[simp] theorem x_forK_nx {k : List Sl → Ev Fl} : forK k (.nx ρ) M = k ρ M := id rfl
@[simp] theorem x_forK_ct {k : List Sl → Ev Fl} : forK k (.ct ρ) M = k ρ M := id rfl
@[simp] theorem x_forK_bk {k : List Sl → Ev Fl} : forK k (.bk ρ) M = .ret (.ok (.nx ρ) M) := id rfl
@[simp] theorem x_forK_rt {k : List Sl → Ev Fl} : forK k (.rt s) M = .ret (.ok (.rt s) M) := id rfl
/-! loops -/
def forI (g : CG) (b : CS) (ρ : List Sl) : Its → Ev Fl
  | .data ds => forD g b ds ρ
  | .live n item fin => forL item fin g b n 0 ρ
@[simp] theorem x_sFor {fi : CI} {g : CG} {b : CS} : sFor fi g b ρ M = (fi ρ M).bind (reK (forI g b ρ)) := by
  unfold sFor Ev.bind
  rfl
@[simp] theorem x_forI_data {g : CG} {b : CS} {ds : List D} : forI g b ρ (.data ds) M = forD g b ds ρ M := id rfl
@[simp] theorem x_forI_live {g : CG} {b : CS} {n : Nat} {f : List MO → Nat → Option Sl} {e : List MO → Bool} : forI g b ρ (.live n f e) M = forL f e g b n 0 ρ M := id rfl
theorem x_forD_nil {g : CG} {b : CS} : forD g b [] ρ M = .ret (.ok (.nx ρ) M) := id rfl
theorem x_forD_cons {g : CG} {b : CS} {d : D} {ds : List D} (h : g (.dat d) ρ = some ρ1) : forD g b (d :: ds) ρ M = (b ρ1 M).bind (reK (forK (forD g b ds))) := by
  rw [forD, h]; rfl
/-- what a turn must answer: I for the next one -/
def walkQ (I : List Sl → List MO → Prop) (Q : Re Fl → Prop) : Re Fl → Prop
  | .ok (.nx ρ) M => I ρ M
  | .ok (.ct ρ) M => I ρ M
  | .ok (.bk ρ) M => Q (.ok (.nx ρ) M)
  | .ok (.rt s) M => Q (.ok (.rt s) M)
  | .ex c fs M => Q (.ex c fs M)
@[simp] theorem walkQ_nx {I : List Sl → List MO → Prop} : walkQ I Q (.ok (.nx ρ) M) = I ρ M := id rfl
@[simp] theorem walkQ_ct {I : List Sl → List MO → Prop} : walkQ I Q (.ok (.ct ρ) M) = I ρ M := id rfl
@[simp] theorem walkQ_bk {I : List Sl → List MO → Prop} : walkQ I Q (.ok (.bk ρ) M) = Q (.ok (.nx ρ) M) := id rfl
@[simp] theorem walkQ_rt {I : List Sl → List MO → Prop} : walkQ I Q (.ok (.rt s) M) = Q (.ok (.rt s) M) := id rfl
@[simp] theorem walkQ_ex {I : List Sl → List MO → Prop} {c : Nat} {fs : List (Str × D)} : walkQ I Q (.ex c fs M) = Q (.ex c fs M) := id rfl
/-- a walk over data, by what holds ahead of each item -/
theorem W_walk {g : CG} {b : CS} (I : List D → List Sl → List MO → Prop)
    (hs : ∀ d r ρ M, I (d :: r) ρ M → ∃ ρ1, g (.dat d) ρ = some ρ1 ∧ W (b ρ1 M) (walkQ (I r) Q))
    (he : ∀ ρ M, I [] ρ M → Q (.ok (.nx ρ) M)) : ∀ (ds : List D) (ρ : List Sl) (M : List MO), I ds ρ M → W (forD g b ds ρ M) Q
  | [], ρ, M, h => by rw [x_forD_nil, W_ret]; exact he ρ M h
  | d :: r, ρ, M, h => by
    obtain ⟨ρ1, e, w⟩ := hs d r ρ M h
    rw [x_forD_cons e, W_bind]
    refine W_mono (fun x hx => ?_) w
    match x, hx with
    | .ok (.nx ρ') M', hx => rw [x_reok, x_forK_nx]; exact W_walk I hs he r ρ' M' hx
    | .ok (.ct ρ') M', hx => rw [x_reok, x_forK_ct]; exact W_walk I hs he r ρ' M' hx
    | .ok (.bk ρ') M', hx => rw [x_reok, x_forK_bk, W_ret]; exact hx
    | .ok (.rt s) M', hx => rw [x_reok, x_forK_rt, W_ret]; exact hx
    | .ex c fs M', hx => rw [x_reex, W_ret]; exact hx
/-- .. that computes: a state folded -/
theorem forD_fold {S : Type} {g : CG} {b : CS} (st : S → List Sl) (ms : S → List MO) (step : S → D → S) : ∀ (ds : List D) (x : S),
    (∀ d ∈ ds, ∀ x, ∃ ρ1, g (.dat d) (st x) = some ρ1 ∧ b ρ1 (ms x) = .ret (.ok (.nx (st (step x d))) (ms (step x d)))) →
    forD g b ds (st x) (ms x) = .ret (.ok (.nx (st (ds.foldl step x))) (ms (ds.foldl step x)))
  | [], x, _ => x_forD_nil
  | d :: r, x, h => by
    obtain ⟨ρ1, e, w⟩ := h d List.mem_cons_self x
    rw [x_forD_cons e, w, x_bret, x_reok, x_forK_nx]
    exact forD_fold st ms step r (step x d) fun d' hd => h d' (List.mem_cons_of_mem _ hd)
@[simp] theorem x_gNm {i : Nat} : gNm i s ρ = some (ρ.set i s) := id rfl
def iRgK : Sl → Ev Its
  | .dat (.int n) => if -(2 ^ 62) ≤ n ∧ n < 2 ^ 62 then ok (.data (rng 0 n.toNat)) else bad
  | _ => bad
@[simp] theorem x_iRg1 {f : CE} : iRg1 f ρ M = (f ρ M).bind (reK iRgK) := by
  unfold iRg1 Ev.bind
  rfl
@[simp] theorem iRgK_int {n : Int} (h0 : -1000000 ≤ n) (h1 : n ≤ 1000000) : iRgK (.dat (.int n)) M = .ret (.ok (.data (rng 0 n.toNat)) M) := by
  unfold iRgK
  dsimp only
  rw [if_pos ⟨by omega, by omega⟩]; rfl
def iValK (M : List MO) : Option Its → T (Re Its)
  | some its => .ret (.ok its M)
  | none => .bad
def kIV : Sl → Ev Its := fun s M => iValK M (itV M s)
def kIE : Sl → Ev Its := fun s M => iValK M (enV M s)
@[simp] theorem kIV_r : kIV s M = iValK M (itV M s) := id rfl
@[simp] theorem kIE_r : kIE s M = iValK M (enV M s) := id rfl
@[simp] theorem x_iVal {f : CE} : iVal f ρ M = (f ρ M).bind (reK kIV) := by
  unfold iVal Ev.bind
  congr 1
@[simp] theorem x_iEn {f : CE} : iEn f ρ M = (f ρ M).bind (reK kIE) := by
  unfold iEn Ev.bind
  congr 1
def eC (d : D) : CE := fun _ => ok (.dat d)
@[simp] theorem x_eC {d : D} : eC d ρ M = .ret (.ok (.dat d) M) := id rfl
@[simp] theorem iValK_some {its : Its} : iValK M (some its) = .ret (.ok its M) := id rfl
@[simp] theorem itV_lst {ds : List D} : itV M (.dat (.lst ds)) = some (.data ds) := id rfl
@[simp] theorem itV_tup {ds : List D} : itV M (.dat (.tup ds)) = some (.data ds) := id rfl
@[simp] theorem itV_str {z : Str} : itV M (.dat (.str z)) = some (.data (sgns z)) := id rfl
@[simp] theorem enV_lst {ds : List D} : enV M (.dat (.lst ds)) = some (.data (enumD 0 ds)) := id rfl
@[simp] theorem enV_tup {ds : List D} : enV M (.dat (.tup ds)) = some (.data (enumD 0 ds)) := id rfl
@[simp] theorem enV_str {z : Str} : enV M (.dat (.str z)) = some (.data (enumD 0 (sgns z))) := id rfl
/-! calls -/
@[simp] theorem x_eCall {F : Fn} {fs : CA} : eCall F fs ρ M = (fs ρ M).bind (reK F) := id rfl
end
end R

set_option Elab.async false
set_option linter.all false
set_option maxRecDepth 100000
set_option maxHeartbeats 4000000
namespace R
open PySem PySem.Spec PyProof.Rows L2
variable [Keys]
/-! ### plain: the operations on values -/
@[simp] theorem sizeLine_n : sizeLine = 16777216 := by decide
section
variable {α β : Type} {M M1 : List MO} {ρ ρ1 : List Sl} {s s1 : Sl} {i j k : Nat} {x y : Int} {u z : Str} {b c : Bool} {d e : D} {ds es : List D} {t : Tbl}
@[simp] theorem W_ret' {a : α} {Q : α → Prop} : W (.ret a) Q = Q a := W_ret
@[simp] theorem W_bad' {Q : α → Prop} : W (.bad : T α) Q = False := W_bad
def kW (f : α → T β) (Q : β → Prop) : α → Prop := fun a => W (f a) Q
@[simp] theorem kW_r {f : α → T β} {Q : β → Prop} {a : α} : kW f Q a = W (f a) Q := id rfl
@[simp] theorem W_bind' {t : T α} {f : α → T β} {Q : β → Prop} : W (t.bind f) Q = W t (kW f Q) := propext W_bind
@[simp] theorem W_draw' {n : Int} {k : Int → T α} {Q : α → Prop} : W (.draw n k) Q = ∀ d, 0 ≤ d → d < n → W (k d) Q := W_draw
/-! arithmetic -/
@[simp] theorem bin_add_i : bin .Add M (.dat (.int x)) (.dat (.int y)) = some (.dat (.int (x + y)), M) := id rfl
@[simp] theorem bin_sub_i : bin .Sub M (.dat (.int x)) (.dat (.int y)) = some (.dat (.int (x - y)), M) := id rfl
theorem bin_mul_i' : bin .Mult M (.dat (.int x)) (.dat (.int y)) = if (-(2 ^ 64) < x ∧ x < 2 ^ 64) ∨ (-(2 ^ 64) < y ∧ y < 2 ^ 64) then some (.dat (.int (x * y)), M) else none := id rfl
@[simp] theorem bin_mul_i (h0 : -1000000 ≤ x) (h1 : x ≤ 1000000) : bin .Mult M (.dat (.int x)) (.dat (.int y)) = some (.dat (.int (x * y)), M) := by
  rw [bin_mul_i', if_pos (.inl ⟨by omega, by omega⟩)]
@[simp] theorem bin_mod_i (h : 0 < y) : bin .Mod M (.dat (.int x)) (.dat (.int y)) = some (.dat (.int (x % y)), M) := by
  show (if 0 < y then some (Sl.dat (D.int (x % y)), M) else none) = _
  rw [if_pos h]
@[simp] theorem bin_fdiv_i (h : 0 < y) (h2 : y < 1073741824) : bin .FloorDiv M (.dat (.int x)) (.dat (.int y)) = some (.dat (.int (x / y)), M) := by
  show (if 0 < y ∧ y < 1073741824 then some (Sl.dat (D.int (x / y)), M) else none) = _
  rw [if_pos ⟨h, h2⟩]
@[simp] theorem bin_add_s (h : u.length + z.length ≤ 16777216) : bin .Add M (.dat (.str u)) (.dat (.str z)) = some (.dat (.str (u ++ z)), M) := by
  show (if u.length + z.length ≤ sizeLine then some (Sl.dat (D.str (u ++ z)), M) else none) = _
  rw [if_pos (by rw [sizeLine_n]; exact h)]
@[simp] theorem bin_add_t (h : ds.length + es.length ≤ 16777216) : bin .Add M (.dat (.tup ds)) (.dat (.tup es)) = some (.dat (.tup (ds ++ es)), M) := by
  show (if ds.length + es.length ≤ sizeLine then some (Sl.dat (D.tup (ds ++ es)), M) else none) = _
  rw [if_pos (by rw [sizeLine_n]; exact h)]
@[simp] theorem bin_add_l (h : ds.length + es.length ≤ 16777216) : bin .Add M (.dat (.lst ds)) (.dat (.lst es)) = some (.dat (.lst (ds ++ es)), M) := by
  show (if ds.length + es.length ≤ sizeLine then some (Sl.dat (D.lst (ds ++ es)), M) else none) = _
  rw [if_pos (by rw [sizeLine_n]; exact h)]
@[simp] theorem bin_mul_s (h0 : 0 ≤ x) (h1 : x ≤ 1000) (h2 : u.length ≤ 1000) : bin .Mult M (.dat (.str u)) (.dat (.int x)) = some (.dat (.str (Txt.mul u x)), M) := by
  show (if -(2 ^ 63) ≤ x ∧ x ≤ 16777216 ∧ u.length * x.toNat ≤ 16777216 then some (Sl.dat (.str (Txt.mul u x)), M) else none) = _
  have hx : x.toNat ≤ 1000 := by omega
  have := Nat.mul_le_mul h2 hx
  rw [if_pos ⟨by omega, by omega, by omega⟩]
@[simp] theorem bin_mul_l (h0 : 0 ≤ x) (h1 : x ≤ 1000) (h2 : ds.length ≤ 1000) : bin .Mult M (.dat (.lst ds)) (.dat (.int x)) = some (.dat (.lst (List.replicate x.toNat ds).flatten), M) := by
  show (if (-(2 ^ 63) ≤ x ∧ x < 2 ^ 63) ∧ ds.length * x.toNat ≤ sizeLine then some (Sl.dat (.lst (List.replicate x.toNat ds).flatten), M) else none) = _
  have hx : x.toNat ≤ 1000 := by omega
  have := Nat.mul_le_mul h2 hx
  rw [sizeLine_n, if_pos ⟨⟨by omega, by omega⟩, by omega⟩]
@[simp] theorem x_negD : negD M (.dat (.int x)) = some (.dat (.int (-x)), M) := id rfl
/-! comparisons -/
def cmpK (M : List MO) : Option Bool → Option (Sl × List MO)
  | some b => some (.dat (.bl b), M)
  | none => none
@[simp] theorem x_cmp {op : CmpOp} {s s1 : Sl} : cmp op M s s1 = cmpK M (cmpV op M s s1) := by
  unfold cmp cmpK
  cases cmpV op M s s1 <;> rfl
@[simp] theorem cmpK_some : cmpK M (some b) = some (.dat (.bl b), M) := id rfl
@[simp] theorem cmpV_lt : cmpV .Lt M (.dat (.int x)) (.dat (.int y)) = some (decide (x < y)) := id rfl
@[simp] theorem cmpV_le : cmpV .LtE M (.dat (.int x)) (.dat (.int y)) = some (decide (x ≤ y)) := id rfl
@[simp] theorem cmpV_gt : cmpV .Gt M (.dat (.int x)) (.dat (.int y)) = some (decide (y < x)) := id rfl
@[simp] theorem cmpV_ge : cmpV .GtE M (.dat (.int x)) (.dat (.int y)) = some (decide (y ≤ x)) := id rfl
@[simp] theorem cmpV_eq_i : cmpV .Eq M (.dat (.int x)) (.dat (.int y)) = some (decide (x = y)) := id rfl
@[simp] theorem cmpV_ne_i : cmpV .NotEq M (.dat (.int x)) (.dat (.int y)) = some (!decide (x = y)) := id rfl
@[simp] theorem cmpV_eq_s : cmpV .Eq M (.dat (.str u)) (.dat (.str z)) = some (decide (u = z)) := id rfl
@[simp] theorem cmpV_ne_s : cmpV .NotEq M (.dat (.str u)) (.dat (.str z)) = some (!decide (u = z)) := id rfl
@[simp] theorem cmpV_gt_s : cmpV .Gt M (.dat (.str u)) (.dat (.str z)) = some (decide (z.cps.toList < u.cps.toList)) := id rfl
@[simp] theorem cmpV_eq_b : cmpV .Eq M (.dat (.bl b)) (.dat (.bl c)) = some (b == c) := by cases b <;> cases c <;> rfl
@[simp] theorem cmpV_ne_b : cmpV .NotEq M (.dat (.bl b)) (.dat (.bl c)) = some (!(b == c)) := by cases b <;> cases c <;> rfl
@[simp] theorem cmpV_is : cmpV .Is M (.dat d) (.dat .non) = some (isNon d) := by cases d <;> rfl
@[simp] theorem cmpV_isn : cmpV .IsNot M (.dat d) (.dat .non) = some (!isNon d) := by cases d <;> rfl
@[simp] theorem isNon_non : isNon .non = true := id rfl
@[simp] theorem isNon_int : isNon (.int x) = false := id rfl
@[simp] theorem isNon_str : isNon (.str u) = false := id rfl
@[simp] theorem isNon_bl : isNon (.bl b) = false := id rfl
@[simp] theorem isNon_lst : isNon (.lst ds) = false := id rfl
@[simp] theorem isNon_tup : isNon (.tup ds) = false := id rfl
@[simp] theorem isNon_ins {c : Nat} {fs : List (Str × D)} : isNon (.ins c fs) = false := id rfl
/-! displays -/
def lstT (m : Bool) (ss : List Sl) (M : List MO) : T (Re Sl) := if ss.length ≤ 16777216 then (if m then .ret (.ok (.mu M.length) (M ++ [.lst ss])) else match fzL M ss with
  | some (ds, M') => .ret (.ok (.dat (.lst ds)) M')
  | none => .bad) else .bad
@[simp] theorem x_eLst {m : Bool} {f : CA} : eLst m f ρ M = (f ρ M).bind (reK (lstT m)) := by
  unfold eLst Ev.bind
  congr 1; congr 1; funext ss M2
  unfold ofM lstT
  dsimp only
  all_goals (
    rw [sizeLine_n]
    by_cases h : ss.length ≤ 16777216
    · rw [if_pos h, if_pos h]
      cases m with
      | true => rfl
      | false =>
        simp only [Bool.false_eq_true, if_false]
        cases fzL M2 ss with
        | none => rfl
        | some p => rfl
    · rw [if_neg h, if_neg h])
@[simp] theorem lstT_t {ss : List Sl} (h : ss.length ≤ 16777216) : lstT true ss M = .ret (.ok (.mu M.length) (M ++ [.lst ss])) := by
  unfold lstT; rw [if_pos h]; rfl
def lstTk : Option (List D × List MO) → T (Re Sl)
  | some (ds, M') => .ret (.ok (.dat (.lst ds)) M')
  | none => .bad
@[simp] theorem lstTk_some : lstTk (some (ds, M)) = .ret (.ok (.dat (.lst ds)) M) := id rfl
@[simp] theorem lstT_f {ss : List Sl} (h : ss.length ≤ 16777216) : lstT false ss M = lstTk (fzL M ss) := by
  unfold lstT; rw [if_pos h]; rfl
def tupT (M : List MO) : Option (List D × List MO) → T (Re Sl)
  | some (ds, M') => if ds.length ≤ 16777216 then .ret (.ok (.dat (.tup ds)) M') else .bad
  | none => .bad
def kTup : List Sl → Ev Sl := fun ss M => tupT M (fzL M ss)
@[simp] theorem kTup_r {ss : List Sl} : kTup ss M = tupT M (fzL M ss) := id rfl
@[simp] theorem x_eTup {f : CA} : eTup f ρ M = (f ρ M).bind (reK kTup) := by
  unfold eTup kTup Ev.bind
  congr 1; congr 1; funext ss M2
  unfold ofM tupT
  dsimp only
  all_goals (
    rw [sizeLine_n]
    cases fzL M2 ss with
    | none => rfl
    | some p =>
      obtain ⟨ds, M'⟩ := p
      dsimp only
      by_cases h : ds.length ≤ 16777216
      · rw [if_pos h, if_pos h]
      · rw [if_neg h, if_neg h])
@[simp] theorem tupT_some (h : ds.length ≤ 16777216) : tupT M (some (ds, M1)) = .ret (.ok (.dat (.tup ds)) M1) := by
  unfold tupT; dsimp only; rw [if_pos h]
@[simp] theorem fzL_nil : fzL M [] = some ([], M) := id rfl
def fzC (r : List Sl) : Option (D × List MO) → Option (List D × List MO)
  | some (d, M1) => match fzL M1 r with
      | some (ds, M2) => some (d :: ds, M2)
      | none => none
  | none => none
@[simp] theorem fzL_cons {r : List Sl} : fzL M (s :: r) = fzC r (fz1 M s) := by
  rw [fzL]; rfl
def fzC2 (d : D) : Option (List D × List MO) → Option (List D × List MO)
  | some (ds, M2) => some (d :: ds, M2)
  | none => none
@[simp] theorem fzC_some {r : List Sl} : fzC r (some (d, M)) = fzC2 d (fzL M r) := id rfl
@[simp] theorem fzC2_some : fzC2 d (some (ds, M)) = some (d :: ds, M) := id rfl
@[simp] theorem fz1_dat : fz1 M (.dat d) = some (d, M) := id rfl
def fz1K (M : List MO) (j : Nat) : Option MO → Option (D × List MO)
  | some m => match fzO M m with
      | some d => some (d, M.set j (.fz (some d)))
      | none => none
  | none => none
@[simp] theorem fz1_mu : fz1 M (.mu j) = fz1K M j M[j]? := by
  unfold fz1 fz1K
  dsimp only
  all_goals (
    cases M[j]? <;> rfl)
def fz1L (M : List MO) (j : Nat) : Option D → Option (D × List MO)
  | some d => some (d, M.set j (.fz (some d)))
  | none => none
@[simp] theorem fz1K_some {m : MO} : fz1K M j (some m) = fz1L M j (fzO M m) := by
  unfold fz1K fz1L
  dsimp only
@[simp] theorem fz1L_some : fz1L M j (some d) = some (d, M.set j (.fz (some d))) := id rfl
@[simp] theorem fzO_lst {xs : List Sl} : fzO M (.lst xs) = (datsN M xs).map .lst := id rfl
@[simp] theorem fzO_dT {xs : List (List Key × Sl)} : fzO M (.dT xs) = (datsF M xs).map .dT := id rfl
@[simp] theorem fzO_dK {xs : List (Key × Sl)} : fzO M (.dK xs) = (datsF M xs).map .dK := id rfl
@[simp] theorem fzO_ins {c : Nat} {xs : List (Str × Sl)} : fzO M (.ins c xs) = (datsF M xs).map (.ins c) := id rfl
@[simp] theorem fzO_fz : fzO M (.fz (some d)) = some d := id rfl
@[simp] theorem datsN_nil : datsN M [] = some [] := id rfl
def datsC : Option D → Option (List D) → Option (List D)
  | some d, some ds => some (d :: ds)
  | _, _ => none
@[simp] theorem datsN_cons {r : List Sl} : datsN M (s :: r) = datsC (datN M s) (datsN M r) := by
  rw [datsN]; unfold datsC
  cases datN M s <;> cases datsN M r <;> rfl
@[simp] theorem datsC_some : datsC (some d) (some ds) = some (d :: ds) := id rfl
@[simp] theorem datN_dat : datN M (.dat d) = some d := id rfl
theorem datsN_app {xs ys : List Sl} {ds es : List D} (h1 : datsN M xs = some ds) (h2 : datsN M ys = some es) : datsN M (xs ++ ys) = some (ds ++ es) := by
  induction xs generalizing ds with
  | nil => cases h1; exact h2
  | cons s r ih =>
    rw [datsN_cons] at h1
    rw [List.cons_append, datsN_cons]
    cases e1 : datN M s with
    | none => rw [e1] at h1; cases h1
    | some d =>
      cases e2 : datsN M r with
      | none => rw [e1, e2] at h1; cases h1
      | some ds' =>
        rw [e1, e2] at h1
        cases h1
        rw [ih e2]; rfl
/-! items, slices, lengths -/
@[simp] theorem ixV_tup : ixV M (.dat (.tup ds)) (.dat (.int x)) = (atI ds x).map fun d => (.dat d, M) := id rfl
@[simp] theorem ixV_lst : ixV M (.dat (.lst ds)) (.dat (.int x)) = (atI ds x).map fun d => (.dat d, M) := id rfl
@[simp] theorem ixV_str (h : z.length ≤ 16777216) : ixV M (.dat (.str z)) (.dat (.int x)) = (atI z.cps.toList x).map fun c => (.dat (.str ⟨#[c]⟩), M) := by
  show (if z.length ≤ sizeLine then (atI z.cps.toList x).map fun c => (Sl.dat (.str ⟨#[c]⟩), M) else none) = _
  rw [sizeLine_n, if_pos h]
@[simp] theorem atI_0 {a : α} {r : List α} : atI (a :: r) 0 = some a := by
  unfold atI ixN
  rw [if_pos (by omega), if_pos (by simp only [List.length_cons]; omega)]; rfl
@[simp] theorem atI_1 {a a1 : α} {r : List α} : atI (a :: a1 :: r) 1 = some a1 := by
  unfold atI ixN
  rw [if_pos (by omega), if_pos (by simp only [List.length_cons]; omega)]; rfl
@[simp] theorem atI_2 {a a1 a2 : α} {r : List α} : atI (a :: a1 :: a2 :: r) 2 = some a2 := by
  unfold atI ixN
  rw [if_pos (by omega), if_pos (by simp only [List.length_cons]; omega)]; rfl
@[simp] theorem atI_3 {a a1 a2 a3 : α} {r : List α} : atI (a :: a1 :: a2 :: a3 :: r) 3 = some a3 := by
  unfold atI ixN
  rw [if_pos (by omega), if_pos (by simp only [List.length_cons]; omega)]; rfl
theorem atI_nat {xs : List α} {a : α} (h : xs[i]? = some a) : atI xs (i : Int) = some a := by
  have hk := (List.getElem?_eq_some_iff.mp h).1
  unfold atI ixN
  rw [if_pos (by omega), if_pos (by omega)]
  exact h
theorem atI_of {xs : List α} {a : α} {x : Int} (h0 : 0 ≤ x) (h : xs[x.toNat]? = some a) : atI xs x = some a := by
  have := atI_nat h
  rwa [Int.toNat_of_nonneg h0] at this
theorem atI_map {f : α → β} {xs : List α} {x : Int} : atI (xs.map f) x = (atI xs x).map f := by
  unfold atI
  rw [List.length_map]
  cases ixN xs.length x with
  | none => rfl
  | some k => simp
@[simp] theorem lenOf_str : lenOf M (.dat (.str z)) = some z.length := id rfl
@[simp] theorem lenOf_tup : lenOf M (.dat (.tup ds)) = some ds.length := id rfl
@[simp] theorem lenOf_lst : lenOf M (.dat (.lst ds)) = some ds.length := id rfl
def lenMK : Option MO → Option Nat
  | some (.lst xs) => some xs.length
  | _ => none
@[simp] theorem lenOf_mu : lenOf M (.mu j) = lenMK M[j]? := by
  unfold lenOf lenMK
  dsimp only
  all_goals (
    cases M[j]? with
    | none => rfl
    | some m => cases m <;> rfl)
@[simp] theorem lenMK_lst {xs : List Sl} : lenMK (some (.lst xs)) = some xs.length := id rfl
def lenK (t : Tbl) (s : Sl) (M : List MO) : Option Nat → T (Re Sl)
  | some n => if n ≤ 16777216 then .ret (.ok (.dat (.int (n : Nat))) M) else .bad
  | none => match clsAt M s with
      | some c => match t.lookup c with
        | some F => (F [s] M).bind chkLen
        | none => .bad
      | none => .bad
@[simp] theorem x_lenG : lenG t [s] M = lenK t s M (lenOf M s) := by
  unfold lenG lenK
  dsimp only
  all_goals (
    rw [sizeLine_n]
    all_goals (cases lenOf M s <;> rfl))
@[simp] theorem lenK_some {n : Nat} (h : n ≤ 16777216) : lenK t s M (some n) = .ret (.ok (.dat (.int (n : Nat))) M) := by
  unfold lenK; dsimp only; rw [if_pos h]
@[simp] theorem x_pu {g : List MO → List Sl → Option (Sl × List MO)} {ss : List Sl} : pu g ss M = ofK (g M ss) := by
  rw [pu, x_ofM]
@[simp] theorem intG_i : intG M [.dat (.int x)] = some (.dat (.int x), M) := id rfl
@[simp] theorem intG_b : intG M [.dat (.bl b)] = some (.dat (.int (if b then 1 else 0)), M) := id rfl
@[simp] theorem max2G_i : max2G M [.dat (.int x), .dat (.int y)] = some (.dat (.int (if y > x then y else x)), M) := id rfl
@[simp] theorem min2G_i : min2G M [.dat (.int x), .dat (.int y)] = some (.dat (.int (if y < x then y else x)), M) := id rfl
@[simp] theorem tupG_tup : tupG M (.dat (.tup ds)) = some (.dat (.tup ds), M) := id rfl
@[simp] theorem tupG_lst : tupG M (.dat (.lst ds)) = some (.dat (.tup ds), M) := id rfl
def lstDK : Option MO → Option (List D)
  | some (.lst xs) => datsOf xs
  | _ => none
@[simp] theorem lstD_lst : lstD M (.dat (.lst ds)) = some ds := id rfl
@[simp] theorem lstD_mu : lstD M (.mu j) = lstDK M[j]? := by
  unfold lstD lstDK
  dsimp only
  all_goals (
    cases M[j]? with
    | none => rfl
    | some m => cases m <;> rfl)
@[simp] theorem lstDK_lst {xs : List Sl} : lstDK (some (.lst xs)) = datsOf xs := id rfl
@[simp] theorem datsOf_nil : datsOf [] = some [] := id rfl
@[simp] theorem datsOf_cons {r : List Sl} : datsOf (.dat d :: r) = (datsOf r).map (d :: ·) := id rfl
@[simp] theorem datsOf_mapD : datsOf (ds.map .dat) = some ds := by
  induction ds with
  | nil => rfl
  | cons d r ih => rw [List.map_cons, datsOf_cons, ih]; rfl
@[simp] theorem tupG_mu : tupG M (.mu j) = (lstDK M[j]?).map fun ds => (.dat (.tup ds), M) := by
  show (lstD M (.mu j)).map _ = _
  rw [lstD_mu]
@[simp] theorem listG_1 {m : Bool} : listG m M [s] = (lstD M s).map fun ds => mkL m M ds := id rfl
@[simp] theorem mkL_t : mkL true M ds = (.mu M.length, M ++ [.lst (ds.map .dat)]) := id rfl
@[simp] theorem mkL_f : mkL false M ds = (.dat (.lst ds), M) := id rfl
/-! changes -/
def appK (fb : CE) (ρ : List Sl) (x : Sl) : Option (Nat × List Sl) → Ev Sl
  | some _ => (fb ρ).bind fun s => ofM fun M2 => match muL x M2 with
    | some (j, ys) => if ys.length < 16777216 then some (.dat .non, M2.set j (.lst (ys ++ [s]))) else none
    | none => none
  | none => bad
def kApp (fb : CE) (ρ : List Sl) : Sl → Ev Sl := fun x M => appK fb ρ x (muL x M) M
@[simp] theorem kApp_r {fb : CE} : kApp fb ρ s M = appK fb ρ s (muL s M) M := id rfl
@[simp] theorem x_eApp {fa fb : CE} : eApp fa fb ρ M = (fa ρ M).bind (reK (kApp fb ρ)) := by
  unfold eApp kApp Ev.bind
  congr 1; congr 1; funext x M2
  unfold appK
  rw [sizeLine_n]
  cases muL x M2 <;> rfl
def appM (s : Sl) (M : List MO) : Option (Nat × List Sl) → Option (Sl × List MO)
  | some (j, ys) => if ys.length < 16777216 then some (.dat .non, M.set j (.lst (ys ++ [s]))) else none
  | none => none
def kApp2 (x : Sl) : Sl → Ev Sl := fun s M => ofK (appM s M (muL x M))
@[simp] theorem kApp2_r {x : Sl} : kApp2 x s M = ofK (appM s M (muL x M)) := id rfl
@[simp] theorem appK_some {fb : CE} {x : Sl} {p : Nat × List Sl} : appK fb ρ x (some p) M = (fb ρ M).bind (reK (kApp2 x)) := by
  show (fb ρ M).bind (reK _) = _
  congr 1
@[simp] theorem appM_some {ys : List Sl} (h : ys.length < 16777216) : appM s M (some (j, ys)) = some (.dat .non, M.set j (.lst (ys ++ [s]))) := by
  unfold appM; dsimp only; rw [if_pos h]
def muLK (j : Nat) : Option MO → Option (Nat × List Sl)
  | some (.lst xs) => some (j, xs)
  | _ => none
@[simp] theorem muL_mu : muL (.mu j) M = muLK j M[j]? := by
  unfold muL muLK
  dsimp only
  all_goals (
    cases M[j]? with
    | none => rfl
    | some m => cases m <;> rfl)
@[simp] theorem muLK_lst {xs : List Sl} : muLK j (some (.lst xs)) = some (j, xs) := id rfl
/-! the store -/
@[simp] theorem app_at0 {xs : List MO} : (M ++ xs)[M.length]? = xs[0]? := by
  rw [List.getElem?_append_right (Nat.le_refl _), Nat.sub_self]
@[simp] theorem app_at {xs : List MO} : (M ++ xs)[M.length + i]? = xs[i]? := by
  rw [List.getElem?_append_right (Nat.le_add_right _ _), Nat.add_sub_cancel_left]
@[simp] theorem app_set0 {xs : List MO} {m : MO} : (M ++ xs).set M.length m = M ++ xs.set 0 m := by
  rw [List.set_append_right _ _ (Nat.le_refl _), Nat.sub_self]
@[simp] theorem app_set {xs : List MO} {m : MO} : (M ++ xs).set (M.length + i) m = M ++ xs.set i m := by
  rw [List.set_append_right _ _ (Nat.le_add_right _ _), Nat.add_sub_cancel_left]
/-! fields, methods, constructors -/
def fldK (f : Str) (cs : List Nat) (M : List MO) (s : Sl) : Option Nat → Option (Sl × List MO)
  | some c => if cs.contains c then fldV f M s else none
  | none => none
def kFld (f : Str) (cs : List Nat) : Sl → Ev Sl := fun s M => ofK (fldK f cs M s (clsAt M s))
@[simp] theorem kFld_r {f : Str} {cs : List Nat} : kFld f cs s M = ofK (fldK f cs M s (clsAt M s)) := id rfl
@[simp] theorem fldK_some {f : Str} {cs : List Nat} {c : Nat} : fldK f cs M s (some c) = if cs.contains c = true then fldV f M s else none := id rfl
@[simp] theorem x_eFld {f : Str} {cs : List Nat} {fa : CE} : eFld f cs fa ρ M = (fa ρ M).bind (reK (kFld f cs)) := by
  rw [eFld, x_bind]
  rfl
def proK (t : Tbl) (o : Sl) (M : List MO) : Option Nat → T (Re Sl)
  | some c => match t.lookup c with
    | some F => (F [o] M).bind noXk
    | none => .bad
  | none => .bad
def kPro (t : Tbl) : Sl → Ev Sl := fun o M => proK t o M (clsAt M o)
@[simp] theorem kPro_r : kPro t s M = proK t s M (clsAt M s) := id rfl
@[simp] theorem x_ePro {fa : CE} : ePro t fa ρ M = (fa ρ M).bind (reK (kPro t)) := by
  unfold ePro kPro Ev.bind
  congr 1
def metK0 (t : Tbl) (o : Sl) (M : List MO) : Option Nat → T (Re Sl)
  | some c => match t.lookup c with
    | some F => F [o] M
    | none => .bad
  | none => .bad
def kMet0 (m : Str) (t : Tbl) : Sl → Ev Sl := fun o M => metK0 t o M (insAt M m o)
@[simp] theorem kMet0_r {m : Str} : kMet0 m t s M = metK0 t s M (insAt M m s) := id rfl
@[simp] theorem x_eMet0 {m : Str} {fa : CE} : eMet0 m t fa ρ M = (fa ρ M).bind (reK (kMet0 m t)) := by
  unfold eMet0 kMet0 Ev.bind
  congr 1
def kMetC (F : Fn) (o : Sl) : List Sl → Ev Sl := fun ss => F (o :: ss)
@[simp] theorem kMetC_r {F : Fn} {o : Sl} {ss : List Sl} : kMetC F o ss M = F (o :: ss) M := id rfl
def metK (t : Tbl) (fs : CA) (ρ : List Sl) (o : Sl) : Option Nat → Ev Sl
  | some c => match t.lookup c with
    | some F => (fs ρ).bind (kMetC F o)
    | none => bad
  | none => bad
def kMet (m : Str) (t : Tbl) (fs : CA) (ρ : List Sl) : Sl → Ev Sl := fun o M => metK t fs ρ o (insAt M m o) M
@[simp] theorem kMet_r {m : Str} {fs : CA} : kMet m t fs ρ s M = metK t fs ρ s (insAt M m s) M := id rfl
@[simp] theorem x_eMet {m : Str} {fa : CE} {fs : CA} : eMet m t fa fs ρ M = (fa ρ M).bind (reK (kMet m t fs ρ)) := by
  unfold eMet kMet Ev.bind
  congr 1; congr 1; funext o M2
  unfold metK
  cases insAt M2 m o with
  | none => rfl
  | some c => dsimp only; cases t.lookup c <;> rfl
@[simp] theorem proK_1 {c : Nat} {F : Fn} {o : Sl} : proK [(c, F)] o M (some c) = (F [o] M).bind noXk := by
  unfold proK; simp [List.lookup]
@[simp] theorem metK0_1 {c : Nat} {F : Fn} {o : Sl} : metK0 [(c, F)] o M (some c) = F [o] M := by
  unfold metK0; simp [List.lookup]
@[simp] theorem metK_1 {c : Nat} {F : Fn} {o : Sl} {fs : CA} : metK [(c, F)] fs ρ o (some c) M = (fs ρ M).bind (reK (kMetC F o)) := by
  unfold metK; simp [List.lookup]
@[simp] theorem clsAt_ins {c : Nat} {fs : List (Str × D)} : clsAt M (.dat (.ins c fs)) = some c := id rfl
def kMak (fz : Bool) (c : Nat) (F : Fn) : List Sl → Ev Sl := fun ss M => (F (.mu M.length :: ss) (M ++ [.ins c []])).bind (mkK fz M.length)
@[simp] theorem kMak_r {fz : Bool} {c : Nat} {F : Fn} {ss : List Sl} : kMak fz c F ss M = (F (.mu M.length :: ss) (M ++ [.ins c []])).bind (mkK fz M.length) := id rfl
@[simp] theorem x_eMake {fz : Bool} {c : Nat} {F : Fn} {fs : CA} : eMake fz c F fs ρ M = (fs ρ M).bind (reK (kMak fz c F)) := by rw [eMake, x_bind]; rfl
def kMakK (fz : Bool) (c : Nat) (F : Fn) : List Sl → Ev Sl := fun ss => noX fun M => (F (.mu M.length :: ss) (M ++ [.ins c []])).bind (mkK fz M.length)
@[simp] theorem kMakK_r {fz : Bool} {c : Nat} {F : Fn} {ss : List Sl} : kMakK fz c F ss M = ((F (.mu M.length :: ss) (M ++ [.ins c []])).bind (mkK fz M.length)).bind noXk := id rfl
@[simp] theorem x_eMakeK {fz : Bool} {c : Nat} {F : Fn} {fs : CA} : eMakeK fz c F fs ρ M = (fs ρ M).bind (reK (kMakK fz c F)) := by rw [eMakeK, x_bind]; rfl
def reprK (t : Tbl) (s : Sl) (M : List MO) : Option Nat → T (Re Sl)
  | some c => match t.lookup c with
    | some F => (F [s] M).bind chkStr
    | none => .bad
  | none => .bad
@[simp] theorem x_reprG : reprG t [s] M = reprK t s M (clsAt M s) := by
  unfold reprG reprK
  dsimp only
  all_goals (
    cases clsAt M s with
    | none => rfl
    | some c => dsimp only; cases t.lookup c <;> rfl)
@[simp] theorem reprK_1 {c : Nat} {F : Fn} : reprK [(c, F)] s M (some c) = (F [s] M).bind chkStr := by
  unfold reprK; simp [List.lookup]
@[simp] theorem chkStr_ok : chkStr (.ok (.dat (.str z)) M) = .ret (.ok (.dat (.str z)) M) := id rfl
end
end R

set_option Elab.async false
set_option linter.all false
set_option maxRecDepth 100000
set_option maxHeartbeats 4000000
namespace R
open PySem PySem.Spec PyProof.Rows L2
variable [Keys]
/-! ### plain: comprehensions, ends of defs -/
section
variable {α β : Type} {M M1 M2 : List MO} {ρ ρ1 : List Sl} {s s1 : Sl} {i j k n : Nat} {x y : Int} {u z : Str} {b c : Bool} {d e : D} {ds es : List D} {t : Tbl}
def lcI (m : Bool) (g : CG) (t : CT) (e : CE) (ρ : List Sl) (its : Its) : Ev Sl := if its.n < 16777216 then Ev.bind (compR its (oneT g t e ρ) 0) fun ds => ofM fun M => some (mkL m M ds) else bad
@[simp] theorem x_eLc {m : Bool} {own : List Nat} {fi : CI} {g : CG} {t : CT} {e : CE} : eLc m own fi g t e ρ M = (fi ρ M).bind (reK (lcI m g t e (wipeS ρ own))) := by
  unfold eLc lcI; rw [x_bind, sizeLine_n]
def kLc (m : Bool) : List D → Ev Sl := fun ds M => ofK (some (mkL m M ds))
@[simp] theorem kLc_r {m : Bool} : kLc m ds M = ofK (some (mkL m M ds)) := id rfl
@[simp] theorem lcI_data {m : Bool} {g : CG} {t : CT} {e : CE} (h : ds.length < 16777216) : lcI m g t e ρ (.data ds) M = (compD (oneT g t e ρ) ds M).bind (reK (kLc m)) := by
  unfold lcI
  rw [if_pos (show (Its.data ds).n < 16777216 from h), x_bind]
  rfl
theorem cmpD_map {turn : Sl → Ev (List D)} {f h : α → D} : ∀ {xs : List α}, (∀ x ∈ xs, turn (.dat (f x)) M = .ret (.ok [h x] M)) → compD turn (xs.map f) M = .ret (.ok (xs.map h) M)
  | [], _ => rfl
  | x :: r, q => by
    rw [List.map_cons, compD, x_bind, q x List.mem_cons_self, x_bret, x_reok, x_bind, cmpD_map fun y hy => q y (List.mem_cons_of_mem _ hy)]
    rfl
/-- .. with a test -/
theorem cmpD_fil {turn : Sl → Ev (List D)} {f h : α → D} {p : α → Bool} : ∀ {xs : List α}, (∀ x ∈ xs, turn (.dat (f x)) M = .ret (.ok (if p x then [h x] else []) M)) → compD turn (xs.map f) M = .ret (.ok ((xs.filter p).map h) M)
  | [], _ => rfl
  | x :: r, q => by
    rw [List.map_cons, compD, x_bind, q x List.mem_cons_self, x_bret, x_reok, x_bind, cmpD_fil fun y hy => q y (List.mem_cons_of_mem _ hy)]
    cases e : p x with
    | true => rw [List.filter_cons_of_pos e]; rfl
    | false => rw [List.filter_cons_of_neg (by rw [e]; decide)]; rfl
/-- two ways that meet -/
@[simp] theorem ite_ret {c : Prop} [Decidable c] {a b : α} : (if c then (T.ret (.ok a M) : T (Re α)) else T.ret (.ok b M)) = T.ret (.ok (if c then a else b) M) := by split <;> rfl
def oneK (t : CT) (e : CE) : Option (List Sl) → Ev (List D)
  | some ρ1 => Ev.bind (noX (t ρ1)) fun k => if k then Ev.bind (noX (Ev.bind (e ρ1) frz)) fun d => ok [d] else ok []
  | none => bad
@[simp] theorem x_oneT {g : CG} {t : CT} {e : CE} : oneT g t e ρ s M = oneK t e (g s ρ) M := by
  unfold oneT oneK
  cases g s ρ <;> rfl
def kOne2 : D → Ev (List D) := fun d => ok [d]
def kOne (e : CE) (ρ : List Sl) : Bool → Ev (List D) := fun k => if k then Ev.bind (noX (Ev.bind (e ρ) frz)) kOne2 else ok []
@[simp] theorem kOne2_r : kOne2 d M = .ret (.ok [d] M) := id rfl
@[simp] theorem kOne_r {e : CE} : kOne e ρ b M = if b = true then (((e ρ M).bind (reK frz)).bind noXk).bind (reK kOne2) else .ret (.ok [] M) := by unfold kOne; rw [iteA]; rfl
@[simp] theorem oneK_some {t : CT} {e : CE} : oneK t e (some ρ) M = ((t ρ M).bind noXk).bind (reK (kOne e ρ)) := by
  show (Ev.bind (noX (t ρ)) _) M = _
  rw [x_bind]; rfl
@[simp] theorem x_tYesF : tYesF ρ M = .ret (.ok true M) := id rfl
@[simp] theorem x_frz : frz s M = ofK (fz1 M s) := by rw [frz, x_ofM]
@[simp] theorem gTp_tup {n : Nat} {f : List D → List Sl → Option (List Sl)} (h : ds.length = n) : gTp n f (.dat (.tup ds)) ρ = f ds ρ := by
  show (if ds.length = n then f ds ρ else none) = _
  rw [if_pos h]
@[simp] theorem x_gsNil : gsNil [] ρ = some ρ := id rfl
def gsK (g : List D → List Sl → Option (List Sl)) (ds : List D) : Option (List Sl) → Option (List Sl)
  | some ρ1 => g ds ρ1
  | none => none
@[simp] theorem x_gsCons {f : CG} {g : List D → List Sl → Option (List Sl)} : gsCons f g (d :: ds) ρ = gsK g ds (f (.dat d) ρ) := by
  unfold gsCons gsK
  dsimp only
  all_goals (cases f (.dat d) ρ <;> rfl)
@[simp] theorem gsK_some {g : List D → List Sl → Option (List Sl)} : gsK g ds (some ρ) = g ds ρ := id rfl
/-! ends of defs -/
def fnK (m : Bool) (b : CS) (n np : Nat) (ss : List Sl) (M : List MO) : T (Re Sl) := (b (ss ++ List.replicate (n - np) .un) M).bind (retK m M.length)
theorem fn_eq {m : Bool} {np n : Nat} {b : CS} {ss : List Sl} (h : ss.length = np) : mkFn m np n b ss M = (b (ss ++ List.replicate (n - np) .un) M).bind (retK m M.length) := by
  unfold mkFn; rw [if_pos h]
@[simp] theorem retK_dat {m : Bool} : retK m n (.ok (.rt (.dat d)) M) = .ret (.ok (.dat d) (cut n M)) := id rfl
@[simp] theorem retK_nx {m : Bool} : retK m n (.ok (.nx ρ) M) = .ret (.ok (.dat .non) (cut n M)) := id rfl
@[simp] theorem retK_ex {m : Bool} {c : Nat} {fs : List (Str × D)} : retK m n (.ex c fs M) = .ret (.ex c fs (cut n M)) := id rfl
def clK (n : Nat) : Option (D × List MO) → T (Re Sl)
  | some (d, M') => .ret (.ok (.dat d) (cut n M'))
  | none => .bad
@[simp] theorem clK_some : clK n (some (d, M)) = .ret (.ok (.dat d) (cut n M)) := id rfl
theorem retK_new (h : n ≤ j) : retK false n (.ok (.rt (.mu j)) M) = clK n (fz1 M (.mu j)) := by
  show clean false n (.mu j) M = _
  unfold clean clK
  dsimp only
  rw [if_neg (by omega)]
  simp only [Bool.false_eq_true, if_false]
  all_goals (cases fz1 M (.mu j) <;> rfl)
@[simp] theorem retK_mu0 : retK false 0 (.ok (.rt (.mu j)) M) = clK 0 (fz1 M (.mu j)) := retK_new (Nat.zero_le _)
@[simp] theorem retK_muS : retK false M1.length (.ok (.rt (.mu M1.length)) M) = clK M1.length (fz1 M (.mu M1.length)) := retK_new (Nat.le_refl _)
@[simp] theorem retK_muA : retK false M1.length (.ok (.rt (.mu (M1.length + i))) M) = clK M1.length (fz1 M (.mu (M1.length + i))) := retK_new (Nat.le_add_right _ _)
def mkKk (n : Nat) : Option (D × List MO) → T (Re Sl)
  | some (d, M2) => .ret (.ok (.dat d) (cut n M2))
  | none => .bad
@[simp] theorem mkKk_some : mkKk n (some (d, M)) = .ret (.ok (.dat d) (cut n M)) := id rfl
@[simp] theorem mkK_t : mkK true n (.ok (.dat .non) M) = mkKk n (fz1 M (.mu n)) := by
  unfold mkK mkKk
  simp only [if_true]
  all_goals (cases fz1 M (.mu n) <;> rfl)
@[simp] theorem mkK_f : mkK false n (.ok (.dat .non) M) = .ret (.ok (.mu n) M) := id rfl
@[simp] theorem mkK_ex {fz : Bool} {c : Nat} {fs : List (Str × D)} : mkK fz n (.ex c fs M) = .ret (.ex c fs (cut n M)) := id rfl
/-! what is dropped -/
theorem cut_is {M : List MO} (h : closed n M = true) : cut n M = M.take n := by unfold cut; rw [if_pos h]
@[simp] theorem cut_c {m : MO} {r : List MO} : cut (n + 1) (m :: r) = if closed (n + 1) (m :: r) = true then m :: r.take n else m :: r := by unfold cut; rfl
@[simp] theorem cutR_i : cutR n ρ M = if ρ.all (clS n) = true then cut n M else M := by unfold cutR; rfl
theorem x_cutR (h1 : ρ.all (clS n) = true) (h2 : closed n M = true) : cutR n ρ M = M.take n := by unfold cutR; rw [if_pos h1, cut_is h2]
@[simp] theorem clS_dat : clS n (.dat d) = true := id rfl
@[simp] theorem clS_un : clS n .un = true := id rfl
@[simp] theorem clS_mu : clS n (.mu j) = decide (j < n) := id rfl
@[simp] theorem clMO_hand : clMO n .hand = true := id rfl
@[simp] theorem clMO_fz {o : Option D} : clMO n (.fz o) = true := id rfl
@[simp] theorem clMO_lst {xs : List Sl} : clMO n (.lst xs) = xs.all (clS n) := id rfl
@[simp] theorem clMO_ins {c : Nat} {xs : List (Str × Sl)} : clMO n (.ins c xs) = xs.all fun p => clS n p.2 := id rfl
@[simp] theorem clMO_dK {xs : List (Key × Sl)} : clMO n (.dK xs) = xs.all fun p => clS n p.2 := id rfl
@[simp] theorem clMO_dT {xs : List (List Key × Sl)} : clMO n (.dT xs) = xs.all fun p => clS n p.2 := id rfl
@[simp] theorem closed_0 : closed 0 M = true := by unfold closed; rw [List.take_zero]; rfl
@[simp] theorem closed_s {m : MO} {r : List MO} : closed (n + 1) (m :: r) = (clMO (n + 1) m && (r.take n).all (clMO (n + 1))) := by
  unfold closed; rw [List.take_succ_cons, List.all_cons]
@[simp] theorem cut_0 : cut 0 M = [] := by rw [cut_is closed_0, List.take_zero]
theorem cl_take {xs : List MO} (h : Cl M) : closed M.length (M ++ xs) = true := by
  have h : closed M.length M = true := h
  unfold closed at h ⊢
  rw [List.take_length] at h
  rw [List.take_left]; exact h
@[simp] theorem cut_Cl {xs : List MO} (h : Cl M) : cut M.length (M ++ xs) = M := cut_app h
@[simp] theorem cut_Cl0 (h : Cl M) : cut M.length M = M := by
  have := cut_app (N := []) h
  rwa [List.append_nil] at this
@[simp] theorem datsOf_mapC {f : α → D} {xs : List α} : datsOf (xs.map (Sl.dat ∘ f)) = some (xs.map f) := by
  rw [← List.map_map]; exact datsOf_mapD
@[simp] theorem datsN_mapC {f : α → D} {xs : List α} : datsN M (xs.map (Sl.dat ∘ f)) = some (xs.map f) := by
  rw [← List.map_map]; exact datsN_map _ _
@[simp] theorem datsN_mapF {f : α → D} {xs : List α} : datsN M (xs.map fun x => Sl.dat (f x)) = some (xs.map f) := by
  have := datsN_map M (xs.map f); rwa [List.map_map] at this
@[simp] theorem fzL_mapC {f : α → D} {xs : List α} : fzL M (xs.map (Sl.dat ∘ f)) = some (xs.map f, M) := by
  rw [← List.map_map]; exact fzL_map _ _
@[simp] theorem all_clSC {f : α → D} {xs : List α} : (xs.map (Sl.dat ∘ f)).all (clS n) = true := by simp
@[simp] theorem ixV_plan0 {k : Int} {rows : List (Int × Str)} : ixV M (.dat (planD k rows)) (.dat (.int 0)) = some (.dat (.int k), M) := id rfl
@[simp] theorem ixV_plan1 {k : Int} {rows : List (Int × Str)} : ixV M (.dat (planD k rows)) (.dat (.int 1)) = some (.dat (.lst (rows.map rowD)), M) := id rfl
@[simp] theorem ixV_row0 {r : Int × Str} : ixV M (.dat (rowD r)) (.dat (.int 0)) = some (.dat (.int r.1), M) := id rfl
@[simp] theorem ixV_row1 {r : Int × Str} : ixV M (.dat (rowD r)) (.dat (.int 1)) = some (.dat (.str r.2), M) := id rfl
@[simp] theorem ins_boardF {k : Int} {rows : List (Int × Str)} : D.ins 0 (boardF k rows) = boardD k rows := id rfl
@[simp] theorem datsF_mapS {fs : List (Str × D)} : datsF M (fs.map fun p => (p.1, Sl.dat p.2)) = some fs := datsF_map fs
@[simp] theorem clsAt_board {k : Int} {rows : List (Int × Str)} : clsAt M (.dat (boardD k rows)) = some 0 := id rfl
@[simp] theorem lenOf_board {k : Int} {rows : List (Int × Str)} : lenOf M (.dat (boardD k rows)) = none := id rfl
theorem lenK_1 {c : Nat} {F : Fn} (h : clsAt M s = some c) : lenK [(c, F)] s M none = (F [s] M).bind chkLen := by
  unfold lenK; simp [h, List.lookup]
@[simp] theorem lenK_board {F : Fn} {k : Int} {rows : List (Int × Str)} : lenK [(0, F)] (.dat (boardD k rows)) M none = (F [.dat (boardD k rows)] M).bind chkLen := lenK_1 rfl
@[simp] theorem chkLen_n (h : n ≤ 16777216) : chkLen (.ok (.dat (.int (n : Int))) M) = .ret (.ok (.dat (.int (n : Int))) M) := by
  unfold chkLen; dsimp only; rw [if_pos ⟨by omega, by omega⟩]
/-- str(i) -/
def strI (i : Int) : Str := Str.ofString (toString i)
theorem strI_len {p : Int} (h0 : 0 ≤ p) (h1 : p ≤ 100) : (strI p).length ≤ 3 := small_len h0 h1
theorem shownT_eq {h w : Nat} : shownT h w = Str.ofString "Board(" ++ strI (h : Int) ++ Str.ofString " by " ++ strI (w : Int) ++ Str.ofString ")" := rfl
@[simp] theorem fmtV_i (h0 : -1000000 ≤ x) (h1 : x ≤ 1000000) : fmtV M (.dat (.int x)) = some (.dat (.str (strI x)), M) := by
  show (if x.natAbs.log2 < 1920 then some (Sl.dat (.str (toString x)), M) else none) = _
  rw [if_pos (by
  by_cases h : x.natAbs = 0
  · rw [h]; decide
  · exact Nat.lt_of_lt_of_le ((Nat.log2_lt h).mpr (show x.natAbs < 2 ^ 20 by omega)) (by decide))]; rfl
@[simp] theorem fmtV_s (h : z.length ≤ 16777216) : fmtV M (.dat (.str z)) = some (.dat (.str z), M) := by
  show (if z.length ≤ sizeLine then some (Sl.dat (.str z), M) else none) = _
  rw [sizeLine_n, if_pos h]
theorem log_small {x : Int} (h0 : -1000000 ≤ x) (h1 : x ≤ 1000000) : x.natAbs.log2 < 1920 := by
  by_cases h : x.natAbs = 0
  · rw [h]; decide
  · exact Nat.lt_of_lt_of_le ((Nat.log2_lt h).mpr (show x.natAbs < 2 ^ 20 by omega)) (by decide)
@[simp] theorem strG_i (h0 : -1000000 ≤ x) (h1 : x ≤ 1000000) : strG M [.dat (.int x)] = some (.dat (.str (strI x)), M) := by
  show (if x.natAbs.log2 < 1920 then some (Sl.dat (.str (toString x)), M) else none) = _
  rw [if_pos (log_small h0 h1)]; rfl
/-- Board(..), from any place -/
theorem init_W {M0 : List MO} {RR : Sl} {k : Int} {rows : List (Int × Str)} {w : Nat} {Q : Re Sl → Prop} (hM : M = M0 ++ [.ins 0 []]) (hn : n = M0.length) (hR : ∀ m, Rws (M0 ++ [m]) RR (rows.map rowD)) (b : BoardOk k rows w)
    (h : Q (.ok (.dat .non) (M0 ++ [.ins 0 ((boardF k rows).map fun p => (p.1, .dat p.2))]))) : W (initF t [.mu n, .dat (.int k), RR] M) Q := by
  subst hM hn
  rw [initF_run hR b, W_ret]
  exact h
end
end R
namespace R
open PySem PySem.Spec PyProof.Rows L2
variable [Keys]
theorem shown_good4 {k : Int} {rows : List (Int × Str)} {w : Nat} (b : BoardOk k rows w) : good 4 (.lst [.str (textT k rows), .int k, .int (rows.length : Int), .int (w : Int), .int ((keysF 0 rows).length : Int), .str (shownT rows.length w)]) = true := by
  simp [good]
end R

namespace R
open PySem PySem.Spec PyProof.Rows L2
variable [Keys]
section
variable {M : List MO} {ρ : List Sl}
/-- a walk whose turns leave all as it is -/
theorem W_same {g : CG} {b : CS} {Q : Re Fl → Prop} {ds : List D} (hs : ∀ d ∈ ds, ∃ ρ1, g (.dat d) ρ = some ρ1 ∧ W (b ρ1 M) (walkQ (fun ρ' M' => ρ' = ρ ∧ M' = M) Q)) (he : Q (.ok (.nx ρ) M)) : W (forD g b ds ρ M) Q :=
  W_walk (fun ds' ρ' M' => (∀ d ∈ ds', d ∈ ds) ∧ ρ' = ρ ∧ M' = M) (fun d r ρ' M' ⟨h1, h2, h3⟩ => by
    subst h2 h3
    obtain ⟨ρ1, e, w⟩ := hs d (h1 d List.mem_cons_self)
    refine ⟨ρ1, e, W_mono (fun x hx => ?_) w⟩
    match x, hx with
    | .ok (.nx ρ') M', hx => exact ⟨fun d hd => h1 d (List.mem_cons_of_mem _ hd), hx⟩
    | .ok (.ct ρ') M', hx => exact ⟨fun d hd => h1 d (List.mem_cons_of_mem _ hd), hx⟩
    | .ok (.bk ρ') M', hx => exact hx
    | .ok (.rt s) M', hx => exact hx
    | .ex c fs M', hx => exact hx) (fun ρ' M' ⟨_, h2, h3⟩ => by subst h2 h3; exact he) ds ρ M ⟨fun _ h => h, rfl, rfl⟩
/-- a list that is read as it stands -/
@[simp] theorem insAt_board {m : Str} {k : Int} {rows : List (Int × Str)} : insAt M m (.dat (boardD k rows)) = if ((boardF k rows).lookup m).isNone then some 0 else none := id rfl
theorem bf_none {m : Str} {k : Int} {rows : List (Int × Str)} (h : m ≠ "own_ticks" ∧ m ≠ "own_places" ∧ m ≠ "own_signs" ∧ m ≠ "own_text" ∧ m ≠ "own_keys") : ((boardF k rows).lookup m).isNone = true := by
  have b : ∀ a : Str, m ≠ a → (m == a) = false := fun a h => by simpa using h
  unfold boardF
  simp only [List.lookup, b _ h.1, b _ h.2.1, b _ h.2.2.1, b _ h.2.2.2.1, b _ h.2.2.2.2]
  rfl
theorem cmpV_plan {k k' : Int} {rows rows' : List (Int × Str)} {w w' : Nat} (b : BoardOk k rows w) (b' : BoardOk k' rows' w') : cmpV .Eq M (.dat (planD k rows)) (.dat (planD k' rows')) = some (decide (k = k' ∧ rows = rows')) := by
  have h := plan_eq (M := M) b b'
  rw [x_cmp] at h
  cases e : cmpV .Eq M (.dat (planD k rows)) (.dat (planD k' rows')) with
  | none => rw [e] at h; cases h
  | some v =>
    rw [e, cmpK_some] at h
    cases h; rfl
end
end R

set_option Elab.async false
set_option linter.all false
set_option maxRecDepth 100000
set_option maxHeartbeats 4000000
namespace R
open PySem PySem.Spec PyProof.Rows L2
variable [Keys]
/-! ### plain: the keys of a board as pairs -/
def keyD (p : Int × Int) : D := .tup [.int p.1, .int p.2]
def keyRow (i : Nat) (z : Str) : List (Int × Int) := ((List.range z.length).filter fun c => decide (z.cps.toList[c]? ≠ some 46)).map fun c : Nat => ((i : Int), (c : Int))
def keysZ : Nat → List (Int × Str) → List (Int × Int)
  | _, [] => []
  | i, r :: rows => keyRow i r.2 ++ keysZ (i + 1) rows
theorem keysR_z (i : Nat) (z : Str) : keysR i z = (keyRow i z).map keyD := by
  rw [← keysR_eq]
  unfold rng keyRow
  generalize List.range z.length = l
  induction l with
  | nil => rfl
  | cons c r ih =>
    have e0 : ((0 : Int) + (c : Nat)) = ((c : Nat) : Int) := by omega
    rw [List.map_cons, List.flatMap_cons, ih, e0]
    unfold gK
    simp only [Int.toNat_natCast]
    by_cases h : z.cps.toList[c]? = some 46
    · rw [if_pos h, List.filter_cons_of_neg (by rw [decide_eq_false (fun q => q h)]; decide)]; rfl
    · rw [if_neg h, List.filter_cons_of_pos (p := fun c => decide (z.cps.toList[c]? ≠ some 46)) (decide_eq_true h)]; rfl
theorem keysF_z : ∀ (rows : List (Int × Str)) (i : Nat), keysF i rows = (keysZ i rows).map keyD
  | [], _ => rfl
  | r :: rows, i => by rw [keysF, keysZ, List.map_append, keysR_z, keysF_z rows (i + 1)]
theorem keysF_good {rows : List (Int × Str)} : ∀ d ∈ keysF 0 rows, good 2 d = true := by
  intro d hd
  rw [keysF_z] at hd
  obtain ⟨p, _, rfl⟩ := List.mem_map.mp hd
  rfl
end R
namespace R
open PySem PySem.Spec PyProof.Rows L2
variable [Keys]
theorem good_up : ∀ (k : Nat) (d : D), good k d = true → good (k + 1) d = true := by
  intro k
  induction k with
  | zero => intro d h; cases d <;> first | rfl | (simp [good] at h)
  | succ k ih =>
    intro d h
    cases d with
    | lst ds =>
      unfold good at h ⊢
      rw [Bool.and_eq_true, List.all_eq_true] at h ⊢
      exact ⟨fun d hd => ih d (h.1 d hd), h.2⟩
    | tup ds =>
      unfold good at h ⊢
      rw [Bool.and_eq_true, List.all_eq_true] at h ⊢
      exact ⟨fun d hd => ih d (h.1 d hd), h.2⟩
    | _ => first | rfl | (simp [good] at h)
section
variable {M : List MO} {t : Tbl} {lk : Fn}
theorem like_atom {d : D} (h : good 0 d = true) : mkFn false 2 3 (bLike lk t) [.dat d, .dat d] M = .ret (.ok (.dat (.bl true)) M) := by
  have key : bLike lk t [.dat d, .dat d, .un] M = .ret (.ok (.rt (.dat (.bl true))) M) := by
    cases d with
    | non => rfl
    | bl b => 
      have i1 : ∀ b, isB (.bl b) ["list", "tuple"] false := fun b M => rfl
      have i2 : ∀ b, isB (.bl b) ["bool"] true := fun b M => rfl
      have i3 : ∀ b, isB (.bl b) ["int"] true := fun b M => rfl
      have i4 : ∀ b, isB (.bl b) ["str"] false := fun b M => rfl
      simp [bLike, i1 b M, i2 b M, i3 b M, i4 b M]
    | int i =>
      have i1 : isB (.int i) ["list", "tuple"] false := fun M => rfl
      have i2 : isB (.int i) ["bool"] false := fun M => rfl
      have i3 : isB (.int i) ["int"] true := fun M => rfl
      have i4 : isB (.int i) ["str"] false := fun M => rfl
      simp [bLike, i1 M, i2 M, i3 M, i4 M]
    | str z =>
      have i1 : isB (.str z) ["list", "tuple"] false := fun M => rfl
      have i2 : isB (.str z) ["bool"] false := fun M => rfl
      have i3 : isB (.str z) ["int"] false := fun M => rfl
      have i4 : isB (.str z) ["str"] true := fun M => rfl
      simp [bLike, i1 M, i2 M, i3 M, i4 M]
    | _ => cases h
  rw [fn_eq (by rfl)]
  show (bLike lk t [.dat d, .dat d, .un] M).bind _ = _
  rw [key, x_bret, retK_dat, cut_self rfl]
/-- _law_like of equal plain data, k deep -/
theorem like_deep {L : Nat → Fn} {tt : Nat → Tbl} (hL : ∀ n, L (n + 1) = mkFn false 2 3 (bLike (L n) (tt n))) : ∀ (k n : Nat) (d : D), k ≤ n → good k d = true → L (n + 1) [.dat d, .dat d] M = .ret (.ok (.dat (.bl true)) M)
  | 0, n, d, _, h => by rw [hL]; exact like_atom h
  | k + 1, 0, d, hk, h => by omega
  | k + 1, n + 1, d, hk, h => by
    rw [hL]
    exact like_step (k := k) (fun d hd => like_deep hL k n d (by omega) hd) h
theorem lst_any {f : Str} {k : Int} {rows : List (Int × Str)} {ds : List D} (e : (boardF k rows).lookup f = some (.lst ds)) : mkFn true 1 1 (sRet (eOpT (pu (listG true)) (eCons (eFld f [0] (eVar 0)) eNil))) [.dat (boardD k rows)] M = .ret (.ok (.mu M.length) (M ++ [.lst (ds.map .dat)])) := by
  have e1 : fldV f M (.dat (boardD k rows)) = some (.dat (.lst ds), M) := by
    show ((boardF k rows).lookup f).map _ = _
    rw [e]; rfl
  rw [fn_eq (by rfl)]
  simp [e1]
  show clean true M.length (.mu M.length) (M ++ [.lst (ds.map .dat)]) = _
  unfold clean
  simp
end
end R

set_option Elab.async false
set_option linter.all false
set_option maxRecDepth 100000
set_option maxHeartbeats 4000000
namespace R
open PySem PySem.Spec PyProof.Rows L2
variable [Keys]
/-! ### plain: a turn gone through as a whole, all draws -/
theorem W_brute {α : Type} {t : T α} {Q : α → Prop} (p : α → Bool) (h : t.all p = true) (hp : ∀ a, p a = true → Q a) : W t Q := W_iff.mpr (wp_mono hp (wp_all h))
def isUn : Sl → Bool
  | .un => true
  | _ => false
def isSt : List Sl → Bool
  | .dat _ :: .mu 1 :: r => r.all isUn
  | _ => false
def isM0 : List MO → Bool
  | [.tab 0, .hand] => true
  | _ => false
/-- the state ahead of a turn of the law: the script, the hand, n names unset -/
def St0 (n : Nat) (ρ : List Sl) (M : List MO) : Prop := (∃ d, ρ = .dat d :: .mu 1 :: List.replicate n .un) ∧ M = [.tab 0, .hand]
def chkT (n : Nat) : Re Fl → Bool
  | .ok (.nx ρ) M => (isSt ρ && (ρ.length == n + 2)) && isM0 M
  | .ok (.ct ρ) M => (isSt ρ && (ρ.length == n + 2)) && isM0 M
  | _ => false
theorem un_all : ∀ {r : List Sl}, r.all isUn = true → r = List.replicate r.length .un
  | [], _ => rfl
  | s :: r, h => by
    rw [List.all_cons, Bool.and_eq_true] at h
    cases s with
    | un => rw [List.length_cons, List.replicate_succ, ← un_all h.2]
    | _ => cases h.1
theorem isM0_ok {M : List MO} (h : isM0 M = true) : M = [.tab 0, .hand] := by
  unfold isM0 at h
  split at h
  · rfl
  · cases h
theorem isSt_ok {n : Nat} {ρ : List Sl} (h : (isSt ρ && (ρ.length == n + 2)) = true) : ∃ d, ρ = .dat d :: .mu 1 :: List.replicate n .un := by
  rw [Bool.and_eq_true] at h
  obtain ⟨h1, h2⟩ := h
  unfold isSt at h1
  split at h1
  · rename_i d r
    refine ⟨d, ?_⟩
    have e := un_all h1
    have l : r.length = n := by
      have := eq_of_beq h2
      simp only [List.length_cons] at this
      omega
    rw [e, l]
  · cases h1
theorem chkT_ok {n : Nat} {I : List Sl → List MO → Prop} {Q : Re Fl → Prop} (hI : ∀ ρ M, St0 n ρ M → I ρ M) : ∀ r, chkT n r = true → walkQ I Q r
  | .ok (.nx ρ) M, h => by
    have h : ((isSt ρ && (ρ.length == n + 2)) && isM0 M) = true := h
    rw [Bool.and_eq_true] at h
    exact hI ρ M ⟨isSt_ok h.1, isM0_ok h.2⟩
  | .ok (.ct ρ) M, h => by
    have h : ((isSt ρ && (ρ.length == n + 2)) && isM0 M) = true := h
    rw [Bool.and_eq_true] at h
    exact hI ρ M ⟨isSt_ok h.1, isM0_ok h.2⟩
  | .ok (.bk ρ) M, h => by cases h
  | .ok (.rt s) M, h => by cases h
  | .ex c fs M, h => by cases h
/-- the law's own answer is True -/
def chkR : Re Fl → Bool
  | .ok (.rt (.dat (.bl true))) _ => true
  | _ => false
theorem chkR_ok : ∀ r, chkR r = true → W (retK false 1 r) fun r => ∃ M, r = .ok (.dat (.bl true)) M
  | .ok (.rt (.dat (.bl true))) M, _ => by rw [retK_dat, W_ret]; exact ⟨_, rfl⟩
  | .ok (.rt (.dat (.bl false))) M, h => by cases h
  | .ok (.nx ρ) M, h => by cases h
  | .ok (.ct ρ) M, h => by cases h
  | .ok (.bk ρ) M, h => by cases h
  | .ex c fs M, h => by cases h
theorem W_mkFn {m : Bool} {np n : Nat} {b : CS} {ss : List Sl} {M : List MO} {Q : Re Sl → Prop} (e : ss.length = np) (h : W (b (ss ++ List.replicate (n - np) .un) M) fun r => W (retK m M.length r) Q) : W (mkFn m np n b ss M) Q := W_fn e h
end R

set_option Elab.async false
set_option linter.all false
set_option maxRecDepth 100000
set_option maxHeartbeats 4000000
namespace R
open PySem PySem.Spec PyProof.Rows L2
variable [Keys]
/-! ### plain: errors, lambdas, keywords -/
section
variable {α β : Type} {M M1 : List MO} {ρ : List Sl} {s : Sl} {i j n c : Nat} {d : D} {ds ws : List D} {fs : List (Str × D)} {F : Fn} {cap : Cap} {code fld f : Str} {x y : Int}
@[simp] theorem x_sRaise {fe : CE} : sRaise c code fld fe ρ M = (eCons fe eNil ρ M).bind (reK (exK c code fld)) := id rfl
@[simp] theorem exK_d : exK c code fld [.dat d] M = .ret (.ex c [(fld, d), ("code", .str code)] M) := id rfl
@[simp] theorem x_sTry {fb fs : CS} {cat : Nat → Option Bool} : sTry fb n i cat fs ρ M = (fb ρ M).bind (catK n i cat fs) := id rfl
@[simp] theorem catK_ok {cat : Nat → Option Bool} {fs : CS} {r : Fl} : catK n i cat fs (.ok r M) = .ret (.ok r M) := id rfl
def catC (n i : Nat) (fs : CS) (c : Nat) (es : List (Str × D)) (M : List MO) : Option Bool → T (Re Fl)
  | some true => (fs ((List.replicate n .un).set i (.dat (.exc c es))) M).bind (offK i)
  | some false => .ret (.ex c es M)
  | none => .bad
@[simp] theorem catK_ex {cat : Nat → Option Bool} {es : CS} : catK n i cat es (.ex c fs M) = catC n i es c fs M (cat c) := by
  unfold catK catC
  dsimp only
  all_goals (
    cases cat c with
    | none => rfl
    | some b => cases b <;> rfl)
@[simp] theorem catC_t {es : CS} : catC n i es c fs M (some true) = (es ((List.replicate n .un).set i (.dat (.exc c fs))) M).bind (offK i) := id rfl
@[simp] theorem catC_f {es : CS} : catC n i es c fs M (some false) = .ret (.ex c fs M) := id rfl
@[simp] theorem catO_i {l : List (Nat × Bool)} : catO l c = l.lookup c := id rfl
@[simp] theorem offK_rt : offK i (.ok (.rt s) M) = if (noS s && M.all noM) = true then .ret (.ok (.rt s) M) else .bad := id rfl
def callVK : Option LF → List D → List MO → T (Re Sl)
  | some F, ws, M => F ws M
  | none, _, _ => .bad
@[simp] theorem x_eCallV {tb : LTb} {fa : CE} : eCallV tb fa ρ M = (fa ρ M).bind (reK (callV tb)) := id rfl
@[simp] theorem callV_fnc {tb : LTb} : callV tb (.dat (.fnc i ws)) M = callVK (tb i) ws M := by
  unfold callV callVK
  dsimp only
  all_goals (cases tb i <;> rfl)
def lamE (C : Nat → Fn) (j : Nat) : LF := fun ws => C j (ws.map .dat)
@[simp] theorem lamE_r {C : Nat → Fn} : lamE C j ws M = C j (ws.map .dat) M := id rfl
@[simp] theorem lamTb_lt {C : Nat → Fn} {m : Nat} (h : i < m) : lamTb C n m i = some (lamE C (n + i)) := by unfold lamTb lamE; rw [if_pos h]
@[simp] theorem callVK_some {F : LF} : callVK (some F) ws M = F ws M := id rfl
@[simp] theorem lamFnS_r {t : LamT} {b : CE} {ss : List Sl} : lamFnS t b ss M = mkLam t b (datsL ss) M := id rfl
@[simp] theorem datsL_nil : datsL [] = [] := id rfl
@[simp] theorem datsL_cons {r : List Sl} : datsL (.dat d :: r) = d :: datsL r := id rfl
@[simp] theorem mkLam_r {t : LamT} {b : CE} : mkLam t b ws M = if (noFs ws && M.all noM) = true then (b (lamRo t ws) M).bind (lamK M.length) else .bad := id rfl
@[simp] theorem lamK_dat : lamK n (.ok (.dat d) M) = .ret (.ok (.dat d) (cut n M)) := id rfl
@[simp] theorem lamK_ex : lamK n (.ex c fs M) = .ret (.ex c fs (cut n M)) := id rfl
theorem lamK_new (h : n ≤ j) : lamK n (.ok (.mu j) M) = clK n (fz1 M (.mu j)) := by
  show clean false n (.mu j) M = _
  unfold clean clK
  dsimp only
  rw [if_neg (by omega)]
  simp only [Bool.false_eq_true, if_false]
  all_goals (cases fz1 M (.mu j) <;> rfl)
@[simp] theorem lamK_mu : lamK M1.length (.ok (.mu M1.length) M) = clK M1.length (fz1 M (.mu M1.length)) := lamK_new (Nat.le_refl _)
/-! no errors, no functions within -/
@[simp] theorem noF_int : noF (.int x) = true := id rfl
@[simp] theorem noF_str {z : Str} : noF (.str z) = true := id rfl
@[simp] theorem noF_bl {b : Bool} : noF (.bl b) = true := id rfl
@[simp] theorem noF_non : noF .non = true := id rfl
@[simp] theorem noF_lst : noF (.lst ds) = noFs ds := id rfl
@[simp] theorem noF_tup : noF (.tup ds) = noFs ds := id rfl
@[simp] theorem noF_ins : noF (.ins c fs) = noFf fs := id rfl
@[simp] theorem noFs_nil : noFs [] = true := id rfl
@[simp] theorem noFs_cons : noFs (d :: ds) = (noF d && noFs ds) := id rfl
@[simp] theorem noFf_nil : noFf [] = true := id rfl
@[simp] theorem noFf_cons : noFf ((f, d) :: fs) = (noF d && noFf fs) := id rfl
@[simp] theorem noS_dat : noS (.dat d) = noF d := id rfl
@[simp] theorem noS_mu : noS (.mu j) = true := id rfl
@[simp] theorem noS_un : noS .un = true := id rfl
@[simp] theorem noM_tab : noM (.tab j) = true := id rfl
@[simp] theorem noM_hand : noM .hand = true := id rfl
@[simp] theorem noM_lst {xs : List Sl} : noM (.lst xs) = xs.all noS := id rfl
@[simp] theorem noM_fz : noM (.fz (some d)) = noF d := id rfl
@[simp] theorem noM_ins {xs : List (Str × Sl)} : noM (.ins c xs) = xs.all fun p => noS p.2 := id rfl
theorem noFs_all : ∀ {ds : List D}, noFs ds = ds.all noF
  | [] => rfl
  | d :: r => by rw [noFs_cons, List.all_cons, noFs_all]
theorem noFs_map {f : α → D} {xs : List α} (h : ∀ a, noF (f a) = true) : noFs (xs.map f) = true := by
  rw [noFs_all, List.all_map, List.all_eq_true]
  exact fun a _ => h a
@[simp] theorem nrmK_tab : nrmK (some (.tab i)) j = .mu j := id rfl
@[simp] theorem clMO_tab : clMO n (.tab i) = true := id rfl
/-! lambdas handed on -/
def eLamK (jt i : Nat) (M : List MO) : Option MO → T (Re Sl)
  | some (.tab j) => if j = jt then .ret (.ok (.dat (.lam i)) M) else .bad
  | _ => .bad
@[simp] theorem x_eLam {jt : Nat} : eLam jt i ρ M = eLamK jt i M M[jt]? := by
  unfold eLam eLamK
  cases M[jt]? with
  | none => rfl
  | some m => cases m <;> rfl
@[simp] theorem eLamK_tab {jt : Nat} : eLamK jt i M (some (.tab jt)) = .ret (.ok (.dat (.lam i)) M) := by unfold eLamK; dsimp only; rw [if_pos rfl]
def clsK2 (F : Fn) : Option (D × List MO) → T (Re Sl)
  | some (d, M) => (F [.dat d] M).bind chkNo
  | none => .bad
@[simp] theorem x_eCallC {fa : CE} : eCallC cap F fa ρ M = (fa ρ M).bind (reK (clsK cap ρ F)) := id rfl
@[simp] theorem clsK_dat : clsK cap ρ F (.dat d) M = clsK2 F (clo cap ρ M d) := by
  unfold clsK clsK2
  rw [fz1_dat]
  all_goals (try dsimp only)
  all_goals (cases clo cap ρ M d <;> rfl)
@[simp] theorem clsK2_some : clsK2 F (some (d, M)) = (F [.dat d] M).bind chkNo := id rfl
@[simp] theorem clo_lam : clo cap ρ M (.lam i) = clo1 cap ρ i M := id rfl
@[simp] theorem clo_lst : clo cap ρ M (.lst ds) = (cloL cap ρ ds M).map fun p => (.lst p.1, p.2) := id rfl
@[simp] theorem cloL_nil : cloL cap ρ [] M = some ([], M) := by rw [cloL]
def cloLK (cap : Cap) (ρ : List Sl) (r : List D) : Option (D × List MO) → Option (List D × List MO)
  | some (d, M1) => (cloL cap ρ r M1).map fun p => (d :: p.1, p.2)
  | none => none
@[simp] theorem cloL_lam : cloL cap ρ (.lam i :: ds) M = cloLK cap ρ ds (clo1 cap ρ i M) := by
  rw [cloL]
  unfold cloLK
  cases clo1 cap ρ i M <;> rfl
@[simp] theorem cloLK_some : cloLK cap ρ ds (some (d, M)) = (cloL cap ρ ds M).map fun p => (d :: p.1, p.2) := id rfl
def cloF (i : Nat) : Option (List D × List MO) → Option (D × List MO)
  | some (ds, M1) => if noFs ds then some (.fnc i ds, M1) else none
  | none => none
def cloK (i : Nat) (M : List MO) : Option (List Sl) → Option (D × List MO)
  | some ss => cloF i (fzL M ss)
  | none => none
def cloC (ρ : List Sl) (i : Nat) (M : List MO) : Option (List Nat) → Option (D × List MO)
  | some js => cloK i M (getS ρ js)
  | none => none
@[simp] theorem clo1_r : clo1 cap ρ i M = cloC ρ i M (cap i) := by
  unfold clo1 cloC cloK cloF
  cases cap i with
  | none => rfl
  | some js =>
    dsimp only
    all_goals (
      cases getS ρ js with
      | none => rfl
      | some ss =>
        all_goals (try dsimp only)
        all_goals (cases fzL M ss <;> rfl))
@[simp] theorem cloC_some {js : List Nat} : cloC ρ i M (some js) = cloK i M (getS ρ js) := id rfl
@[simp] theorem cloK_some {ss : List Sl} : cloK i M (some ss) = cloF i (fzL M ss) := id rfl
@[simp] theorem cloF_some : cloF i (some (ds, M)) = if noFs ds = true then some (.fnc i ds, M) else none := id rfl
theorem capO_i {l : List (List Nat)} : capO l i = l[i]? := id rfl
def getSK (o : Option (List Sl)) : Option Sl → Option (List Sl)
  | some .un => none
  | some s => o.map (s :: ·)
  | none => none
@[simp] theorem getS_nil : getS ρ [] = some [] := id rfl
@[simp] theorem getS_cons {js : List Nat} : getS ρ (j :: js) = getSK (getS ρ js) ρ[j]? := by
  rw [getS]
  unfold getSK
  cases ρ[j]? with
  | none => rfl
  | some s => cases s <;> rfl
@[simp] theorem getSK_dat {o : Option (List Sl)} : getSK o (some (.dat d)) = o.map (.dat d :: ·) := id rfl
@[simp] theorem getSK_mu {o : Option (List Sl)} : getSK o (some (.mu j)) = o.map (.mu j :: ·) := id rfl
@[simp] theorem chkNo_ok : chkNo (.ok s M) = if (noS s && M.all noM) = true then .ret (.ok s M) else .bad := id rfl
/-! fields of errors, keywords -/
def fldXK (M : List MO) : Option Sl → T (Re Sl)
  | some s => .ret (.ok s M)
  | none => .bad
def kFldX (f : Str) (cs : List Nat) : Sl → Ev Sl := fun s M => fldXK M (fldX f cs s)
@[simp] theorem kFldX_r {cs : List Nat} : kFldX f cs s M = fldXK M (fldX f cs s) := id rfl
@[simp] theorem x_eFldX {cs : List Nat} {fa : CE} : eFldX f cs fa ρ M = (fa ρ M).bind (reK (kFldX f cs)) := by
  unfold eFldX kFldX Ev.bind
  congr 1; congr 1; funext s M2
  cases fldX f cs s <;> rfl
@[simp] theorem fldXK_some : fldXK M (some s) = .ret (.ok s M) := id rfl
@[simp] theorem fldX_exc {cs : List Nat} : fldX f cs (.dat (.exc c fs)) = if cs.contains c = true then (fs.lookup f).map .dat else none := id rfl
def kMakP (fz : Bool) (c : Nat) (F : Fn) (pm : List Nat) : List Sl → Ev Sl := fun zs M => if zs.length = pm.length then kMak fz c F (permL pm zs) M else .bad
@[simp] theorem kMakP_r {fz : Bool} {pm : List Nat} {zs : List Sl} : kMakP fz c F pm zs M = if zs.length = pm.length then kMak fz c F (permL pm zs) M else .bad := id rfl
@[simp] theorem x_eMakeKP {fz : Bool} {pm : List Nat} {fk : CA} : eMakeKP fz c F pm fk ρ M = (fk ρ M).bind (reK (kMakP fz c F pm)) := id rfl
def kCallP (F : Fn) (pm : List Nat) (ss : List Sl) : List Sl → Ev Sl := fun zs M => if zs.length = pm.length then F (ss ++ permL pm zs) M else .bad
@[simp] theorem kCallP_r {pm : List Nat} {ss zs : List Sl} : kCallP F pm ss zs M = if zs.length = pm.length then F (ss ++ permL pm zs) M else .bad := id rfl
def kCallQ (F : Fn) (pm : List Nat) (fk : CA) (ρ : List Sl) : List Sl → Ev Sl := fun ss => (fk ρ).bind (kCallP F pm ss)
@[simp] theorem kCallQ_r {pm : List Nat} {ss : List Sl} {fk : CA} : kCallQ F pm fk ρ ss M = (fk ρ M).bind (reK (kCallP F pm ss)) := id rfl
@[simp] theorem x_eCallK {pm : List Nat} {fs fk : CA} : eCallK F pm fs fk ρ M = (fs ρ M).bind (reK (kCallQ F pm fk ρ)) := id rfl
@[simp] theorem permL_nil {xs : List α} : permL [] xs = [] := id rfl
theorem permL_cons {xs : List α} {pm : List Nat} {a : α} (h : xs[i]? = some a) : permL (i :: pm) xs = a :: permL pm xs := by unfold permL; rw [List.filterMap_cons, h]
/-! the law's own functions for errors -/
def bTry (tb : LTb) (cat : List (Nat × Bool)) (cs : List Nat) (Ff : Fn) : CS := sTry (sRet (eTup (eCons (fun _ => ok (.dat (.str ""))) (eCons (eCallV tb (eVar 0)) eNil)))) 2 1 (catO cat) (sRet (eOp2 (bin .Add) (eTup (eCons (eFldX "code" cs (eVar 1)) eNil)) (eCall Ff (eCons (eVar 1) eNil))))
theorem try_ok {tb : LTb} {cat : List (Nat × Bool)} {cs : List Nat} {Ff : Fn} {d : D} {F : LF} (ht : tb i = some F) (h : F ws M = .ret (.ok (.dat d) M)) : mkFn false 1 2 (bTry tb cat cs Ff) [.dat (.fnc i ws)] M = .ret (.ok (.dat (.tup [.str "", d])) M) := by
  rw [fn_eq (by rfl)]
  have key : bTry tb cat cs Ff [.dat (.fnc i ws), .un] M = .ret (.ok (.rt (.dat (.tup [.str "", d]))) M) := by
    unfold bTry
    simp [ht, h]
  show (bTry tb cat cs Ff [.dat (.fnc i ws), .un] M).bind _ = _
  rw [key, x_bret, retK_dat, cut_self rfl]
theorem try_ex {tb : LTb} {cat : List (Nat × Bool)} {cs : List Nat} {Ff : Fn} {es : List D} {F : LF} (ht : tb i = some F) (h : F ws M = .ret (.ex c fs M)) (hc : cat.lookup c = some true) (hs : cs.contains c = true) (hl : fs.lookup ("code" : Str) = some (.str code)) (hf : Ff [.dat (.exc c fs)] M = .ret (.ok (.dat (.tup es)) M))
    (h1 : noFs es = true) (h2 : M.all noM = true) (h3 : es.length ≤ 1000) : mkFn false 1 2 (bTry tb cat cs Ff) [.dat (.fnc i ws)] M = .ret (.ok (.dat (.tup (.str code :: es))) M) := by
  rw [fn_eq (by rfl)]
  have key : bTry tb cat cs Ff [.dat (.fnc i ws), .un] M = .ret (.ok (.rt (.dat (.tup (.str code :: es)))) M) := by
    unfold bTry
    have hs' : c ∈ cs := by simpa using hs
    have hb : bin .Add M (.dat (.tup [R.D.str code])) (.dat (.tup es)) = some (Sl.dat (R.D.tup (R.D.str code :: es)), M) := by
      show (if _ then some (Sl.dat (R.D.tup ([R.D.str code] ++ es)), M) else none) = _
      rw [if_pos (by rw [sizeLine_n]; simp only [List.length_cons, List.length_nil]; omega)]; rfl
    simp [ht, h, hc, hs', hl, hf, h1, h2, hb]
  show (bTry tb cat cs Ff [.dat (.fnc i ws), .un] M).bind _ = _
  rw [key, x_bret, retK_dat, cut_self rfl]
def bChk (c : Nat) : CS := sIf (tNot (tVal (chn .LtE .LtE (eVar 1) (eVar 0) (eVar 2)))) (sRaise c "BadNumber" "given" (eVar 0)) sNil
def numX (x : Int) : List (Str × D) := [("given", .int x), ("code", .str "BadNumber")]
theorem chk_run {lo hi : Int} : mkFn false 3 3 (bChk c) [.dat (.int x), .dat (.int lo), .dat (.int hi)] M = if lo ≤ x ∧ x ≤ hi then .ret (.ok (.dat .non) M) else .ret (.ex c (numX x) M) := by
  rw [fn_eq (by rfl)]
  have key : bChk c [.dat (.int x), .dat (.int lo), .dat (.int hi)] M = if lo ≤ x ∧ x ≤ hi then .ret (.ok (.nx [.dat (.int x), .dat (.int lo), .dat (.int hi)]) M) else .ret (.ex c (numX x) M) := by
    unfold bChk numX
    by_cases h1 : lo ≤ x
    · by_cases h2 : x ≤ hi
      · simp [h1, h2]
      · simp [h1, h2]
    · simp [h1]
  show (bChk c [.dat (.int x), .dat (.int lo), .dat (.int hi)] M).bind _ = _
  rw [key]
  split
  · rw [x_bret, retK_nx, cut_self rfl]
  · rw [x_bret, retK_ex, cut_self rfl]
theorem chk_good {lo hi : Int} (h1 : lo ≤ x) (h2 : x ≤ hi) : mkFn false 3 3 (bChk c) [.dat (.int x), .dat (.int lo), .dat (.int hi)] M = .ret (.ok (.dat .non) M) := by rw [chk_run, if_pos ⟨h1, h2⟩]
end
end R

set_option Elab.async false
set_option linter.all false
set_option maxRecDepth 100000
set_option maxHeartbeats 4000000
namespace R
open PySem PySem.Spec PyProof.Rows L2
variable [Keys]
/-! ### plain: fields that are set; Bounds -/
section
variable {α β : Type} {M M1 : List MO} {ρ : List Sl} {s v : Sl} {i j n c : Nat} {d : D} {ds ws : List D} {fs : List (Str × Sl)} {F : Fn} {code fld f g : Str} {x y a b : Int} {cs : List Nat}
def stK (ρ : List Sl) : Option (List MO) → T (Re Fl)
  | some M => .ret (.ok (.nx ρ) M)
  | none => .bad
@[simp] theorem stK_some : stK ρ (some M) = .ret (.ok (.nx ρ) M) := id rfl
def kSF2 (f : Str) (cs : List Nat) (ρ : List Sl) (v : Sl) : Sl → Ev Fl := fun o M => stK ρ (stF f cs M v o)
def kSF1 (f : Str) (cs : List Nat) (fo : CE) (ρ : List Sl) : Sl → Ev Fl := fun v => (fo ρ).bind (kSF2 f cs ρ v)
@[simp] theorem kSF2_r {o : Sl} : kSF2 f cs ρ v o M = stK ρ (stF f cs M v o) := id rfl
@[simp] theorem kSF1_r {fo : CE} : kSF1 f cs fo ρ v M = (fo ρ M).bind (reK (kSF2 f cs ρ v)) := id rfl
@[simp] theorem x_sFld {fv fo : CE} : sFld f cs fv fo ρ M = (fv ρ M).bind (reK (kSF1 f cs fo ρ)) := by
  unfold sFld kSF1 kSF2 Ev.bind
  congr 1; congr 1; funext v M2; congr 1; congr 1; funext o M3
  unfold ofM
  dsimp only
  cases stF f cs M3 v o <;> rfl
def stFK (f : Str) (cs : List Nat) (M : List MO) (v : Sl) (j : Nat) : Option MO → Option (List MO)
  | some (.ins c fs) => if (cs.contains c && decide (fs.length < 1000)) = true then some (M.set j (.ins c (putS f v fs))) else none
  | _ => none
@[simp] theorem stF_mu : stF f cs M v (.mu j) = stFK f cs M v j M[j]? := by
  unfold stF stFK
  dsimp only
  all_goals (
    cases M[j]? with
    | none => rfl
    | some m => cases m <;> rfl)
@[simp] theorem stFK_ins : stFK f cs M v j (some (.ins c fs)) = if (cs.contains c && decide (fs.length < 1000)) = true then some (M.set j (.ins c (putS f v fs))) else none := id rfl
@[simp] theorem putS_nil : putS f v [] = [(f, v)] := id rfl
theorem putS_ne (h : g ≠ f) : putS f v ((g, s) :: fs) = (g, s) :: putS f v fs := by rw [putS, if_neg h]
theorem putS_eq : putS f v ((f, s) :: fs) = (f, v) :: fs := by rw [putS, if_pos rfl]
@[simp] theorem cut_len1 {m : MO} : cut (M.length + 1) (M ++ [m]) = M ++ [m] := cut_self (by simp)
@[simp] theorem datsF_nil : datsF M ([] : List (Str × Sl)) = some [] := id rfl
@[simp] theorem datsF_dat : datsF M ((f, .dat d) :: fs) = (datsF M fs).map ((f, d) :: ·) := by
  rw [datsF]
  rw [datN_dat]
  cases datsF M fs <;> rfl
/-! Bounds -/
def bBInit (F : Fn) : CS := (sSeq (sExpr (eCall F (eCons (eVar 1) (eCons (fun _ => ok (.dat (.int 0))) (eCons (fun _ => ok (.dat (.int 6))) eNil)))))
  (sSeq (sExpr (eCall F (eCons (eVar 2) (eCons (eOp2 (bin .Add) (eVar 1) (fun _ => ok (.dat (.int 1)))) (eCons (fun _ => ok (.dat (.int 12))) eNil)))))
  (sSeq (sFld "own_bounce" [1] (eVar 1) (eVar 0))
  (sSeq (sFld "own_hold" [1] (eVar 2) (eVar 0))
  (sFld "own_pair" [1] (eTup (eCons (eVar 1) (eCons (eVar 2) eNil))) (eVar 0))))))
def boundsF (a b : Int) : List (Str × D) := [("own_bounce", .int a), ("own_hold", .int b), ("own_pair", .tup [.int a, .int b])]
def boundsD (a b : Int) : D := .ins 1 (boundsF a b)
theorem mkBounds (h : Cl M) : kMak true 1 (mkFn false 3 3 (bBInit (mkFn false 3 3 (bChk c)))) [.dat (.int a), .dat (.int b)] M = if 0 ≤ a ∧ a ≤ 6 then if a + 1 ≤ b ∧ b ≤ 12 then .ret (.ok (.dat (boundsD a b)) M) else .ret (.ex c (numX b) M) else .ret (.ex c (numX a) M) := by
  have e1 : ("own_bounce" : Str) ≠ "own_hold" := by decide
  have e2 : ("own_bounce" : Str) ≠ "own_pair" := by decide
  have e3 : ("own_hold" : Str) ≠ "own_pair" := by decide
  rw [kMak_r, fn_eq (by rfl)]
  have cl2 : ∀ m, cut M.length (M ++ [m]) = M := fun m => cut_Cl h
  unfold bBInit
  by_cases h1 : 0 ≤ a ∧ a ≤ 6
  · by_cases h2 : a + 1 ≤ b ∧ b ≤ 12
    · simp [chk_run, h1, h2, putS_ne e1, putS_ne e2, putS_ne e3, cl2]
      rfl
    · simp [chk_run, h1, h2, cl2]
  · simp [chk_run, h1, cl2]
@[simp] theorem clsAt_bounds : clsAt M (.dat (boundsD a b)) = some 1 := rfl
theorem fld1_run {d : D} {c : Nat} {fs : List (Str × D)} (e : fs.lookup f = some d) (hc : cs.contains c = true) : mkFn false 1 1 (sRet (eFld f cs (eVar 0))) [.dat (.ins c fs)] M = .ret (.ok (.dat d) M) := by
  rw [fn_eq (by rfl)]
  have key : sRet (eFld f cs (eVar 0)) [.dat (.ins c fs)] M = .ret (.ok (.rt (.dat d)) M) := by
    have e1 : fldV f M (.dat (.ins c fs)) = some (.dat d, M) := by
      show (fs.lookup f).map _ = _
      rw [e]; rfl
    have hc' : c ∈ cs := by simpa using hc
    simp [e1, hc']
  show (sRet (eFld f cs (eVar 0)) [.dat (.ins c fs)] M).bind _ = _
  rw [key, x_bret, retK_dat, cut_self rfl]
/-- own == of instances -/
theorem gI_eq {F : Fn} {tIn : Tbl} {v : Bool} {c : Nat} {fs : List (Str × D)} {o : Sl} (hn : cmpV .Eq M (.dat (.ins c fs)) o = none) (ho : othOk M c o = true) (e : F [.dat (.ins c fs), o] M = .ret (.ok (.dat (.bl v)) M)) : cmpG .Eq [(c, F)] tIn (.dat (.ins c fs)) o M = .ret (.ok (.dat (.bl v)) M) := by
  unfold cmpG
  rw [hn]
  have hl : List.lookup c [(c, F)] = some F := by simp [List.lookup]
  simp only [clsAt_ins, hl, ho, if_true, e]
  rfl
theorem gI_ne {F : Fn} {tIn : Tbl} {v : Bool} {c : Nat} {fs : List (Str × D)} {o : Sl} (hn : cmpV .NotEq M (.dat (.ins c fs)) o = none) (ho : othOk M c o = true) (e : F [.dat (.ins c fs), o] M = .ret (.ok (.dat (.bl v)) M)) : cmpG .NotEq [(c, F)] tIn (.dat (.ins c fs)) o M = .ret (.ok (.dat (.bl (!v))) M) := by
  unfold cmpG
  rw [hn]
  have hl : List.lookup c [(c, F)] = some F := by simp [List.lookup]
  simp only [clsAt_ins, hl, ho, if_true, e]
  rfl
end
end R

set_option Elab.async false
set_option linter.all false
set_option maxRecDepth 100000
set_option maxHeartbeats 4000000
namespace R
open PySem PySem.Spec PyProof.Rows L2
variable [Keys]
/-! ### plain: texts put together -/
section
variable {M : List MO} {ρ : List Sl} {acc y z : Str} {s : Sl} {fs : List CE} {f : CE} {ds : List D}
def kJs (fs : List CE) (acc : Str) (ρ : List Sl) : Sl → Ev Sl := fun s => (asS s).bind fun y => if (acc ++ y).length ≤ sizeLine then jsL fs (acc ++ y) ρ else bad
@[simp] theorem x_jsL_nil : jsL [] acc ρ M = .ret (.ok (.dat (.str acc)) M) := id rfl
@[simp] theorem x_jsL_cons : jsL (f :: fs) acc ρ M = (f ρ M).bind (reK (kJs fs acc ρ)) := id rfl
@[simp] theorem kJs_str (h : acc.length + z.length ≤ 16777216) : kJs fs acc ρ (.dat (.str z)) M = jsL fs (acc ++ z) ρ M := by
  show (if (acc ++ z).length ≤ sizeLine then jsL fs (acc ++ z) ρ else bad) M = _
  rw [if_pos (by rw [Str.length_append, sizeLine_n]; exact h)]
@[simp] theorem len_empty : Str.empty.length = 0 := by decide
@[simp] theorem empty_app : Str.empty ++ z = z := Str.empty_append z
def kJo2 (u : Str) : Sl → Ev Sl := fun y M => ofK (joinG u M y)
def kJo1 (fb : CE) (ρ : List Sl) : Sl → Ev Sl := fun x => (asS x).bind fun u => (fb ρ).bind fun y => ofM fun M => joinG u M y
@[simp] theorem x_eJoin {fa fb : CE} : eJoin fa fb ρ M = (fa ρ M).bind (reK (kJo1 fb ρ)) := id rfl
@[simp] theorem kJo1_str {fb : CE} : kJo1 fb ρ (.dat (.str z)) M = (fb ρ M).bind (reK (kJo2 z)) := by
  unfold kJo1 kJo2
  rw [x_bind]
  rw [x_asS, x_bret, x_reok, x_bind]
  congr 1
@[simp] theorem kJo2_r {u : Str} : kJo2 u s M = ofK (joinG u M s) := id rfl
end
/-! ### plain: == of plain data -/
def sm (d e : D) : Bool := PyData.eqv (py d) (py e)
def sms (d e : List D) : Bool := PyData.eqvAll (pys d) (pys e)
section
variable {M : List MO} {a b : Int} {u z : Str} {p q : Bool} {d e : D} {ds es : List D} {n : Nat}
@[simp] theorem sm_int : sm (.int a) (.int b) = decide (a = b) := by unfold sm; rfl
@[simp] theorem sm_str : sm (.str u) (.str z) = decide (u = z) := by
  unfold sm
  show (u == z) = _
  by_cases h : u = z
  · subst h; simp
  · simp [h]
@[simp] theorem sm_bl : sm (.bl p) (.bl q) = (p == q) := by unfold sm; rfl
@[simp] theorem sm_non : sm .non .non = true := by unfold sm; rfl
@[simp] theorem sm_tup : sm (.tup ds) (.tup es) = sms ds es := by unfold sm sms; rfl
@[simp] theorem sm_lst : sm (.lst ds) (.lst es) = sms ds es := by unfold sm sms; rfl
@[simp] theorem sm_is : sm (.int a) (.str u) = false := by unfold sm; rfl
@[simp] theorem sm_si : sm (.str u) (.int a) = false := by unfold sm; rfl
@[simp] theorem sm_it : sm (.int a) (.tup ds) = false := by unfold sm; rfl
@[simp] theorem sm_ti : sm (.tup ds) (.int a) = false := by unfold sm; rfl
@[simp] theorem sm_in : sm (.int a) .non = false := by unfold sm; rfl
@[simp] theorem sm_ni : sm .non (.int a) = false := by unfold sm; rfl
@[simp] theorem sm_sn : sm (.str u) .non = false := by unfold sm; rfl
@[simp] theorem sm_ns : sm .non (.str u) = false := by unfold sm; rfl
@[simp] theorem sm_tn : sm (.tup ds) .non = false := by unfold sm; rfl
@[simp] theorem sm_nt : sm .non (.tup ds) = false := by unfold sm; rfl
@[simp] theorem sm_st : sm (.str u) (.tup ds) = false := by unfold sm; rfl
@[simp] theorem sm_ts : sm (.tup ds) (.str u) = false := by unfold sm; rfl
@[simp] theorem sms_nil : sms [] [] = true := by unfold sms; rfl
@[simp] theorem sms_cons : sms (d :: ds) (e :: es) = (sm d e && sms ds es) := by unfold sms sm; rfl
@[simp] theorem sms_nc : sms [] (e :: es) = false := by unfold sms; rfl
@[simp] theorem sms_cn : sms (d :: ds) [] = false := by unfold sms; rfl
@[simp] theorem plain_int : plain n (.int a) = true := by unfold plain; rfl
@[simp] theorem plain_bl : plain n (.bl p) = true := by unfold plain; rfl
@[simp] theorem plain_non : plain n .non = true := by unfold plain; rfl
@[simp] theorem plain_str : plain n (.str u) = PyData.strOk u := by unfold plain; rfl
@[simp] theorem plain_tup : plain (n + 1) (.tup ds) = plains n ds := by rw [plain]
@[simp] theorem plain_lst : plain (n + 1) (.lst ds) = plains n ds := by rw [plain]
@[simp] theorem plains_nil : plains n [] = true := by rw [plains]
@[simp] theorem plains_cons : plains n (d :: ds) = (plain n d && plains n ds) := by rw [plains]
def eqK (d e : D) : Option Bool := if (plain 58 d && plain 58 e) = true then some (sm d e) else none
theorem eqK_some (h1 : plain 58 d = true) (h2 : plain 58 e = true) : eqK d e = some (sm d e) := by unfold eqK; rw [h1, h2]; rfl
@[simp] theorem cmpV_tt : cmpV .Eq M (.dat (.tup ds)) (.dat (.tup es)) = eqK (.tup ds) (.tup es) := by unfold eqK sm; rfl
@[simp] theorem cmpV_ll : cmpV .Eq M (.dat (.lst ds)) (.dat (.lst es)) = eqK (.lst ds) (.lst es) := by unfold eqK sm; rfl
@[simp] theorem cmpV_tl : cmpV .Eq M (.dat (.tup ds)) (.dat (.lst es)) = eqK (.tup ds) (.lst es) := by unfold eqK sm; rfl
@[simp] theorem cmpV_ts : cmpV .Eq M (.dat (.tup ds)) (.dat (.str u)) = eqK (.tup ds) (.str u) := by unfold eqK sm; rfl
@[simp] theorem cmpV_ntt : cmpV .NotEq M (.dat (.tup ds)) (.dat (.tup es)) = (eqK (.tup ds) (.tup es)).map (!·) := by
  show (if _ then some (!_) else none) = _
  unfold eqK sm
  split <;> rfl
@[simp] theorem cmpV_nll : cmpV .NotEq M (.dat (.lst ds)) (.dat (.lst es)) = (eqK (.lst ds) (.lst es)).map (!·) := by
  show (if _ then some (!_) else none) = _
  unfold eqK sm
  split <;> rfl
@[simp] theorem eqK_tt (h1 : plains 57 ds = true) (h2 : plains 57 es = true) : eqK (.tup ds) (.tup es) = some (sms ds es) := by
  rw [eqK_some (by rw [plain_tup]; exact h1) (by rw [plain_tup]; exact h2), sm_tup]
@[simp] theorem eqK_ll (h1 : plains 57 ds = true) (h2 : plains 57 es = true) : eqK (.lst ds) (.lst es) = some (sms ds es) := by
  rw [eqK_some (by rw [plain_lst]; exact h1) (by rw [plain_lst]; exact h2), sm_lst]
end
end R
namespace R
open PySem PySem.Spec PyProof.Rows L2
variable [Keys]
section
variable {M : List MO} {j : Nat} {n : Int}
theorem draw_W {Q : Re Sl → Prop} (hj : M[j]? = some .hand) (h1 : 0 < n) (h2 : n < 1073741824) (h : ∀ d, 0 ≤ d → d < n → Q (.ok (.dat (.int d)) M)) : W (prim__law_draw [.mu j, .dat (.int n)] M) Q := by
  unfold prim__law_draw
  simp only [hj]
  rw [if_pos ⟨h1, h2⟩, W_draw]
  intro d a b
  rw [W_ret]
  exact h d a b
theorem like_good {tt : Nat → Tbl} {L : Nat → Fn} (hL : ∀ n, L (n + 1) = mkFn false 2 3 (bLike (L n) (tt n))) {k n : Nat} {d : D} (hk : k ≤ n) (g : good k d = true) : L (n + 1) [.dat d, .dat d] M = .ret (.ok (.dat (.bl true)) M) := like_deep hL k n d hk g
/-- a list of function values, each asked by itself -/
def bTries (F : Fn) : CS := sRet (eLc false [1] (iVal (eVar 0)) (gNm 1) tYesF (eCall F (eCons (eVar 1) eNil)))
theorem tries_run {α : Type} {F : Fn} {xs : List α} {f g : α → D} (hl : xs.length < 1000) (h : ∀ x ∈ xs, F [.dat (f x)] M = .ret (.ok (.dat (g x)) M)) : mkFn false 1 2 (bTries F) [.dat (.lst (xs.map f))] M = .ret (.ok (.dat (.lst (xs.map g))) M) := by
  rw [fn_eq (by rfl)]
  have key : bTries F [.dat (.lst (xs.map f)), .un] M = .ret (.ok (.rt (.dat (.lst (xs.map g)))) M) := by
    unfold bTries
    simp (disch := simp only [List.length_map]; omega)
    rw [cmpD_map (h := g) (by
      intro x hx
      simp [h x hx])]
    simp
  show (bTries F [.dat (.lst (xs.map f)), .un] M).bind _ = _
  rw [key, x_bret, retK_dat, cut_self rfl]
end
end R
namespace R
open PySem PySem.Spec PyProof.Rows L2
variable [Keys]
section
variable {M : List MO} {a b c d : Int} {F : Fn} {tIn : Tbl}
/-! Bounds: ==, repr -/
def bBEq : CS := (sRet (eAnd (eOp1 (isiC 1 [1]) (eVar 1)) (eOp2 (cmp .Eq) (eFld "own_pair" [1] (eVar 0)) (eFld "own_pair" [1] (eVar 1)))))
theorem fldV_bounds2 : fldV "own_pair" M (.dat (boundsD a b)) = some (.dat (.tup [.int a, .int b]), M) := rfl
theorem fldV_bounds0 : fldV "own_bounce" M (.dat (boundsD a b)) = some (.dat (.int a), M) := rfl
theorem fldV_bounds1 : fldV "own_hold" M (.dat (boundsD a b)) = some (.dat (.int b), M) := rfl
theorem bEq_run : mkFn false 2 2 bBEq [.dat (boundsD a b), .dat (boundsD c d)] M = .ret (.ok (.dat (.bl (decide (a = c) && decide (b = d)))) M) := by
  rw [fn_eq (by rfl)]
  have i1 : isiC 1 [1] M (.dat (boundsD c d)) = some (.dat (.bl true), M) := rfl
  have key : bBEq [.dat (boundsD a b), .dat (boundsD c d)] M = .ret (.ok (.rt (.dat (.bl (decide (a = c) && decide (b = d))))) M) := by
    unfold bBEq
    simp (disch := simp) [i1, fldV_bounds2]
  show (bBEq [.dat (boundsD a b), .dat (boundsD c d)] M).bind _ = _
  rw [key, x_bret, retK_dat, cut_self rfl]
theorem bEqT_run {ds : List D} : mkFn false 2 2 bBEq [.dat (boundsD a b), .dat (.tup ds)] M = .ret (.ok (.dat (.bl false)) M) := by
  rw [fn_eq (by rfl)]
  have i1 : isiC 1 [1] M (.dat (.tup ds)) = some (.dat (.bl false), M) := rfl
  have key : bBEq [.dat (boundsD a b), .dat (.tup ds)] M = .ret (.ok (.rt (.dat (.bl false))) M) := by
    unfold bBEq
    simp [i1]
  show (bBEq [.dat (boundsD a b), .dat (.tup ds)] M).bind _ = _
  rw [key, x_bret, retK_dat, cut_self rfl]
theorem bounds_eq (e : F = mkFn false 2 2 bBEq) : cmpG .Eq [(1, F)] tIn (.dat (boundsD a b)) (.dat (boundsD c d)) M = .ret (.ok (.dat (.bl (decide (a = c) && decide (b = d)))) M) := gI_eq rfl rfl (by rw [e]; exact bEq_run)
theorem bounds_ne (e : F = mkFn false 2 2 bBEq) : cmpG .NotEq [(1, F)] tIn (.dat (boundsD a b)) (.dat (boundsD c d)) M = .ret (.ok (.dat (.bl (!(decide (a = c) && decide (b = d))))) M) := gI_ne rfl rfl (by rw [e]; exact bEq_run)
theorem bounds_eqT (e : F = mkFn false 2 2 bBEq) : cmpG .Eq [(1, F)] tIn (.dat (boundsD a b)) (.dat (.tup [.int c, .int d])) M = .ret (.ok (.dat (.bl false)) M) := gI_eq rfl rfl (by rw [e]; exact bEqT_run)
def bBRepr : CS := (sRet (jsL [(fun _ => ok (.dat (.str "Bounds("))), (eOp1 fmtV (eFld "own_bounce" [1] (eVar 0))), (fun _ => ok (.dat (.str " "))), (eOp1 fmtV (eFld "own_hold" [1] (eVar 0))), (fun _ => ok (.dat (.str ")")))] Str.empty))
def reprB (a b : Int) : Str := Str.ofString "Bounds(" ++ strI a ++ Str.ofString " " ++ strI b ++ Str.ofString ")"
theorem bRepr_run (h1 : 0 ≤ a) (h2 : a ≤ 100) (h3 : 0 ≤ b) (h4 : b ≤ 100) : mkFn false 1 1 bBRepr [.dat (boundsD a b)] M = .ret (.ok (.dat (.str (reprB a b))) M) := by
  rw [fn_eq (by rfl)]
  have l1 := strI_len h1 h2
  have l2 := strI_len h3 h4
  have a1 : (Str.ofString "Bounds(").length = 7 := by decide
  have a2 : (Str.ofString " ").length = 1 := by decide
  have a3 : (Str.ofString ")").length = 1 := by decide
  have key : bBRepr [.dat (boundsD a b)] M = .ret (.ok (.rt (.dat (.str (reprB a b)))) M) := by
    unfold bBRepr reprB
    simp (disch := first | omega | ((simp only [Str.length_append, len_empty]) <;> omega)) [fldV_bounds0, fldV_bounds1]
  show (bBRepr [.dat (boundsD a b)] M).bind _ = _
  rw [key, x_bret, retK_dat, cut_self rfl]
end
end R

set_option Elab.async false
set_option linter.all false
set_option maxRecDepth 100000
set_option maxHeartbeats 4000000
namespace R
open PySem PySem.Spec PyProof.Rows L2
variable [Keys]
/-! ### Board.__init__ on any rows -/
def rowX (i : Int) : List (Str × D) := [("at", .int i), ("code", .str "BadRow")]
def inBx (t : Tbl) : CS := (sFgt [3, 4, 5, 8] (sSeq (sIf (inT1 t) (sRaise 18 "BadRow" "at" (eVar 3)) sNil)
  (sSeq (sSet 8 (inE2 t))
  (sIf (inT3 t) (sRaise 18 "BadRow" "at" (eVar 3)) sNil))))
def okSb (z : Str) : Bool := z.cps.toList.all fun c => decide (c ∈ ([46, 111, 62, 60] : List Nat))
def zOk (z : Str) : Bool := (decide (1 ≤ z.length) && decide (z.length ≤ 4)) && okSb z
theorem okSb_iff {z : Str} : okSb z = true ↔ okS z := by
  unfold okSb okS
  simp only [List.all_eq_true, decide_eq_true_eq]
/-- the i-th row is bad -/
def rowBad (k : Int) (rows : List (Int × Str)) (i : Nat) (r : Int × Str) : Bool := (!(decide (0 ≤ r.1) && decide (r.1 < k)) || decide (r.1 ∈ (rows.take i).map (·.1))) || (!zOk r.2 || !decide (r.2.length = ((rows.map (·.2)).headD Str.empty).length))
section
variable {M : List MO} {t : Tbl} {RR : Sl} {k : Int} {rows : List (Int × Str)} {s : Sl} {i : Nat} {p : Int} {z : Str}
theorem turn1x (hR : Rws M RR (rows.map rowD)) (hn : rows.length ≤ 1000) :
    inT1 t [s, .dat (.int k), RR, .dat (.int (i : Int)), .dat (.int p), .dat (.str z), .un, .un, .un, .un, .un, .un, .un] M = .ret (.ok (!(decide (0 ≤ p) && decide (p < k)) || decide (p ∈ (rows.take i).map (·.1))) M) := by
  obtain ⟨sl, e1, e2⟩ := hR.sl i
  have hv2 : eVar 2 [s, .dat (.int k), RR, .dat (.int (i : Int)), .dat (.int p), .dat (.str z), .un, .un, .un, .un, .un, .un, .un] M = .ret (.ok RR M) := var_ret rfl hR.un hR.nrm
  have hi : iVal (eSl (eVar 2) oNone (oSome (eVar 3))) [s, .dat (.int k), RR, .dat (.int (i : Int)), .dat (.int p), .dat (.str z), .un, .un, .un, .un, .un, .un, .un] M = .ret (.ok (.data ((rows.map rowD).take i)) M) := by
    unfold iVal eSl Ev.bind
    rw [hv2]
    simp [T.bind, reK, oNone, oSome, Ev.bind, R.ok, eVar, nrm_dat, ofM, e1, e2]
  have hl := lc_run (own := [6, 7]) (gt := gTp 2 (gsCons (gNm 6) (gsCons (gNm 7) gsNil))) (tt := tYesF) (e := eVar 6) (ds := (rows.map rowD).take i) (g := fun d => match d with
    | .tup [.int q, _] => [.int q]
    | _ => []) hi rfl (by rw [List.length_take, List.length_map]; unfold sizeLine; omega) (fun d hd => by
      have hd := List.mem_of_mem_take hd
      obtain ⟨r, hr, rfl⟩ := List.mem_map.mp hd
      exact one_ret (ρ1 := [s, .dat (.int k), RR, .dat (.int (i : Int)), .dat (.int p), .dat (.str z), .dat (.int r.1), .dat (.str r.2), .un, .un, .un, .un, .un]) rfl (var_dat rfl))
  have hf : ∀ l : List (Int × Str), ((l.map rowD).flatMap fun d => match d with
    | .tup [.int q, _] => [D.int q]
    | _ => []) = (l.map (·.1)).map .int := by
    intro l
    induction l with
    | nil => rfl
    | cons a l ih => rw [List.map_cons, List.flatMap_cons, ih]; rfl
  rw [← List.map_take, hf] at hl
  have hc : eOp2 (cmp .In) (eVar 4) (eLc false [6, 7] (iVal (eSl (eVar 2) oNone (oSome (eVar 3)))) (gTp 2 (gsCons (gNm 6) (gsCons (gNm 7) gsNil))) tYesF (eVar 6)) [s, .dat (.int k), RR, .dat (.int (i : Int)), .dat (.int p), .dat (.str z), .un, .un, .un, .un, .un, .un, .un] M = .ret (.ok (.dat (.bl (decide (p ∈ (rows.take i).map (·.1))))) M) :=
    op2_ret (var_dat rfl) hl (by rw [cin])
  unfold inT1
  rw [x_tOr, x_tNot, x_tVal]
  by_cases h0 : 0 ≤ p
  · by_cases h1 : p < k
    · simp only [h0, h1, decide_true, Bool.and_self, Bool.not_true, Bool.false_or]
      rw [show chn .LtE .Lt (fun _ => ok (.dat (.int 0))) (eVar 4) (eVar 1) [s, .dat (.int k), RR, .dat (.int (i : Int)), .dat (.int p), .dat (.str z), .un, .un, .un, .un, .un, .un, .un] M = .ret (.ok (.dat (.bl true)) M) by simp [h0, h1]]
      simp only [x_bret, x_reok, x_asB, kNot_r, kOr_r, Bool.not_true, Bool.false_eq_true, if_false, x_tVal]
      rw [hc, x_bret, x_reok, x_asB]
    · simp [h0, h1]
  · simp [h0]
theorem sgn_inb {c : Nat} : cmp .In M (.dat (sgn c)) (.dat (.str ".o><")) = some (.dat (.bl (decide (c ∈ ([46, 111, 62, 60] : List Nat)))), M) := by
  have e : (Str.ofString ".o><").cps.toList = [46, 111, 62, 60] := by decide
  unfold cmp sgn
  simp only [cmpV, e]
  rfl
theorem blsOf_mapF {α : Type} (f : α → Bool) : ∀ l : List α, blsOf (l.map fun a => D.bl (f a)) = some (l.map f) := by
  intro l
  induction l with
  | nil => rfl
  | cons a l ih => simp only [List.map_cons, blsOf, ih]; rfl
theorem turn2x {ρ : List Sl} (h5 : ρ[5]? = some (.dat (.str z))) (h9 : 9 < ρ.length) (hz : z.length ≤ 1000) : inE2 t ρ M = .ret (.ok (.dat (.bl (zOk z))) M) := by
  have hz2 : z.length ≤ sizeLine := Nat.le_trans hz (by decide)
  have l5 : eOpT (lenG t) (eCons (eVar 5) eNil) ρ M = .ret (.ok (.dat (.int (z.length : Int))) M) := len_ret (var_dat h5) rfl hz2
  have hi : iVal (eVar 5) ρ M = .ret (.ok (.data (sgns z)) M) := by
    unfold iVal Ev.bind
    rw [var_dat h5]
    rfl
  have hl := lc_run (own := [9]) (gt := gNm 9) (tt := tYesF) (e := eOp2 (cmp .In) (eVar 9) (fun _ => ok (.dat (.str ".o><")))) (ds := sgns z) (g := fun d => match d with
      | .str u => [.bl (match u.cps.toList with | [c] => decide (c ∈ ([46, 111, 62, 60] : List Nat)) | _ => false)]
      | _ => []) hi rfl (by
      unfold sgns
      rw [List.length_map]
      have : z.cps.toList.length = z.length := rfl
      rw [this]
      unfold sizeLine
      omega) (fun d hd => by
      unfold sgns at hd
      obtain ⟨c, hc, rfl⟩ := List.mem_map.mp hd
      refine one_ret (ρ1 := (wipeS ρ [9]).set 9 (.dat (sgn c))) rfl ?_
      refine op2_ret (var_dat (d := sgn c) ?_) rfl (sgn_inb (M := M))
      exact List.getElem?_set_self (by unfold wipeS wipeS; rw [List.length_set]; exact h9))
  have hf : ((sgns z).flatMap fun d => match d with
      | .str u => [D.bl (match u.cps.toList with | [c] => decide (c ∈ ([46, 111, 62, 60] : List Nat)) | _ => false)]
      | _ => []) = z.cps.toList.map fun c => D.bl (decide (c ∈ ([46, 111, 62, 60] : List Nat))) := by
    unfold sgns
    induction z.cps.toList with
    | nil => rfl
    | cons a l ih => rw [List.map_cons, List.flatMap_cons, ih]; rfl
  rw [hf] at hl
  have ha : eOpT (pu (anyG true)) (eCons (eLc false [9] (iVal (eVar 5)) (gNm 9) tYesF (eOp2 (cmp .In) (eVar 9) (fun _ => ok (.dat (.str ".o><"))))) eNil) ρ M = .ret (.ok (.dat (.bl (okSb z))) M) := by
    rw [x_eOpT, x_eCons, hl]
    have : (z.cps.toList.map fun c => decide (c ∈ ([46, 111, 62, 60] : List Nat))).all id = okSb z := by
      unfold okSb
      rw [List.all_map]; rfl
    simp only [x_bret, x_reok, kC1_r, x_eNil, kC2_r, kOT_r, x_pu, anyG, lstD_lst, blsOf_mapF, Option.map_some, if_true, this, ofK_some, x_noXk_ok]
  unfold inE2 zOk
  rw [x_eAnd, x_chn]
  simp only [x_ok, x_bret, x_reok, kCh_r, l5, kCh2_r, cmpV]
  by_cases h1 : 1 ≤ z.length
  · by_cases h2 : z.length ≤ 4
    · simp only [h1, h2, decide_true, Bool.true_and]
      rw [show decide ((1 : Int) ≤ (z.length : Int)) = true from by simp; omega]
      simp only [chnK_t, x_bret, x_reok, kO2b_r, x_ok, cmp, cmpV, Option.map_some, ofK_some]
      rw [show decide ((z.length : Int) ≤ 4) = true from by simp; omega]
      simp only [eAndK_t, x_bret, x_reok, ha]
    · simp only [h1, h2, decide_true, decide_false, Bool.and_false, Bool.false_and]
      rw [show decide ((1 : Int) ≤ (z.length : Int)) = true from by simp; omega]
      simp only [chnK_t, x_bret, x_reok, kO2b_r, x_ok, cmp, cmpV, Option.map_some, ofK_some]
      rw [show decide ((z.length : Int) ≤ 4) = false from by simp; omega]
      simp only [eAndK_f, x_bret, x_reok]
  · simp only [h1, decide_false, Bool.false_and]
    rw [show decide ((1 : Int) ≤ (z.length : Int)) = false from by simp; omega]
    simp only [chnK_f, eAndK_f, x_bret, x_reok]
theorem turn3x {ρ : List Sl} {z0 : Str} {p0 : Int} {g : Bool} (h5 : ρ[5]? = some (.dat (.str z))) (h8 : ρ[8]? = some (.dat (.bl g))) (h2 : ρ[2]? = some RR) (hR : Rws M RR (rows.map rowD)) (h0 : rows[0]? = some (p0, z0)) (hz : z.length ≤ 1000) (hz0 : z0.length ≤ 1000) : inT3 t ρ M = .ret (.ok (!g || !decide (z.length = z0.length)) M) := by
  have q1 : z.length ≤ sizeLine := Nat.le_trans hz (by decide)
  have q2 : z0.length ≤ sizeLine := Nat.le_trans hz0 (by decide)
  have l5 : eOpT (lenG t) (eCons (eVar 5) eNil) ρ M = .ret (.ok (.dat (.int (z.length : Int))) M) := len_ret (var_dat h5) rfl q1
  have hrow : ixV M RR (.dat (.int 0)) = some (.dat (rowD (p0, z0)), M) := by
    rw [hR.ix]
    have hl : 0 < rows.length := (List.getElem?_eq_some_iff.mp h0).1
    have : atI (rows.map rowD) 0 = some (rowD (p0, z0)) := by
      unfold atI ixN
      rw [if_pos (by omega), List.length_map, if_pos (by omega)]
      show (rows.map rowD)[0]? = _
      rw [List.getElem?_map, h0]; rfl
    rw [this]; rfl
  have l0 : eOpT (lenG t) (eCons (eOp2 ixV (eOp2 ixV (eVar 2) (fun _ => ok (.dat (.int 0)))) (fun _ => ok (.dat (.int 1)))) eNil) ρ M = .ret (.ok (.dat (.int (z0.length : Int))) M) :=
    len_ret (s := .dat (.str z0)) (op2_ret (op2_ret (var_ret h2 hR.un hR.nrm) rfl hrow) rfl rfl) rfl q2
  unfold inT3
  rw [x_tOr, x_tNot, x_tVal, var_dat h8]
  have hc : eOp2 (cmp .NotEq) (eOpT (lenG t) (eCons (eVar 5) eNil)) (eOpT (lenG t) (eCons (eOp2 ixV (eOp2 ixV (eVar 2) (fun _ => ok (.dat (.int 0)))) (fun _ => ok (.dat (.int 1)))) eNil)) ρ M = .ret (.ok (.dat (.bl (!decide (z.length = z0.length)))) M) :=
    op2_ret l5 l0 (by
      unfold cmp
      simp only [cmpV]
      by_cases h : z.length = z0.length
      · rw [h]; simp
      · rw [decide_eq_false h, decide_eq_false (by omega)]; rfl)
  simp only [x_bret, x_reok, x_asB, kNot_r, kOr_r]
  cases g with
  | true => simp only [Bool.not_true, Bool.false_eq_true, if_false, x_tVal, hc, x_bret, x_reok, x_asB, Bool.false_or]
  | false => simp only [Bool.not_false, if_true, Bool.true_or]
theorem initx_turn (hR : Rws M RR (rows.map rowD)) (hn : rows.length ≤ 1000) (hz : ∀ r ∈ rows, r.2.length ≤ 1000) (hr : rows[i]? = some (p, z)) :
    inBx t [s, .dat (.int k), RR, .dat (.int (i : Int)), .dat (.int p), .dat (.str z), .un, .un, .un, .un, .un, .un, .un] M = if rowBad k rows i (p, z) = true then .ret (.ex 18 (rowX i) M) else .ret (.ok (.nx [s, .dat (.int k), RR, .un, .un, .un, .un, .un, .un, .un, .un, .un, .un]) M) := by
  have hm : (p, z) ∈ rows := List.mem_of_getElem? hr
  have h0 : rows[0]? = some (rows[0]'(Nat.lt_of_le_of_lt (Nat.zero_le _) (List.getElem?_eq_some_iff.mp hr).1)) := List.getElem?_eq_getElem _
  obtain ⟨⟨p0, z0⟩, h0⟩ : ∃ r, rows[0]? = some r := ⟨_, h0⟩
  have hd : (rows.map (·.2)).headD Str.empty = z0 := by
    cases rows with
    | nil => cases h0
    | cons a l => cases h0; rfl
  have t1 := turn1x (t := t) (s := s) (k := k) (p := p) (z := z) (i := i) hR hn
  have t2 := turn2x (M := M) (t := t) (ρ := [s, .dat (.int k), RR, .dat (.int (i : Int)), .dat (.int p), .dat (.str z), .un, .un, .un, .un, .un, .un, .un]) (z := z) rfl (by simp) (hz _ hm)
  have t3 := turn3x (M := M) (t := t) (ρ := [s, .dat (.int k), RR, .dat (.int (i : Int)), .dat (.int p), .dat (.str z), .un, .un, .dat (.bl (zOk z)), .un, .un, .un, .un]) (z := z) (g := zOk z) rfl rfl rfl hR h0 (hz _ hm) (hz _ (List.mem_of_getElem? h0))
  unfold inBx rowBad
  rw [hd]
  rw [x_sFgt, x_sSeq, x_sIf, t1, x_bret, x_reok, kIfS_r]
  by_cases b1 : (!(decide (0 ≤ p) && decide (p < k)) || decide (p ∈ (rows.take i).map (·.1))) = true
  · rw [if_pos b1]
    simp only [b1, Bool.true_or, if_true]
    simp [rowX]
  · rw [if_neg b1]
    have b1 : (!(decide (0 ≤ p) && decide (p < k)) || decide (p ∈ (rows.take i).map (·.1))) = false := by simpa using b1
    simp only [b1, Bool.false_or, x_sNil, x_bret, x_reok, x_seqK_nx, x_sSeq, x_sSet, t2, kSet_r, List.set_cons_succ, List.set_cons_zero, x_sIf, t3, kIfS_r]
    by_cases b2 : (!zOk z || !decide (z.length = z0.length)) = true
    · rw [if_pos b2, if_pos b2]
      simp [rowX]
    · rw [if_neg b2, if_neg b2]
      simp
end
/-! the loop over the rows -/
section
variable {M : List MO} {t : Tbl} {RR : Sl} {k : Int} {rows : List (Int × Str)} {s : Sl} {i : Nat} {p : Int} {z : Str}
def gEn : CG := gTp 2 (gsCons (gNm 3) (gsCons (gTp 2 (gsCons (gNm 4) (gsCons (gNm 5) gsNil))) gsNil))
def fstB (k : Int) (all : List (Int × Str)) : Nat → List (Int × Str) → Option Nat
  | _, [] => none
  | i, r :: l => if rowBad k all i r then some i else fstB k all (i + 1) l
abbrev ro0 (s : Sl) (k : Int) (RR : Sl) : List Sl := [s, .dat (.int k), RR, .un, .un, .un, .un, .un, .un, .un, .un, .un, .un]
theorem rows_for (hR : Rws M RR (rows.map rowD)) (hn : rows.length ≤ 1000) (hz : ∀ r ∈ rows, r.2.length ≤ 1000) : ∀ (l : List (Int × Str)) (i : Nat), (∀ j, l[j]? = rows[i + j]?) →
    forD gEn (inBx t) (enumD i (l.map rowD)) (ro0 s k RR) M = (match fstB k rows i l with
      | some i => .ret (.ex 18 (rowX i) M)
      | none => .ret (.ok (.nx (ro0 s k RR)) M))
  | [], i, _ => rfl
  | r :: l, i, h => by
    have h0 : rows[i]? = some (r.1, r.2) := (h 0).symm
    rw [List.map_cons, enumD, x_forD_cons (ρ1 := [s, .dat (.int k), RR, .dat (.int (i : Int)), .dat (.int r.1), .dat (.str r.2), .un, .un, .un, .un, .un, .un, .un]) rfl, initx_turn hR hn hz h0]
    unfold fstB
    by_cases b : rowBad k rows i r = true
    · rw [if_pos b, if_pos b, x_bret, x_reex]
    · rw [if_neg b, if_neg b, x_bret, x_reok, x_forK_nx]
      exact rows_for hR hn hz l (i + 1) fun j => by
        have := h (j + 1)
        rw [show i + 1 + j = i + (j + 1) by omega]
        exact this
end
end R

set_option Elab.async false
set_option linter.all false
set_option maxRecDepth 100000
set_option maxHeartbeats 4000000
namespace R
open PySem PySem.Spec PyProof.Rows L2
variable [Keys]
section
variable {M : List MO} {t : Tbl} {RR : Sl} {k : Int} {rows : List (Int × Str)} {w : Nat}
def bIniT : CS :=
  (sSeq (sFld "own_ticks" [0] (eVar 1) (eVar 0))
  (sSeq (sFld "own_places" [0] (eLc false [4, 5] (iVal (eVar 2)) gRow tYesF (eVar 4)) (eVar 0))
  (sSeq (sFld "own_signs" [0] (eLc false [4, 5] (iVal (eVar 2)) gRow tYesF (eVar 5)) (eVar 0))
  (sSeq (sSet 10 (eLc false [4, 5] (iVal (eVar 2)) gRow tYesF (jsL [(eOp1 fmtV (eVar 4)), (fun _ => ok (.dat (.str " "))), (eOp1 fmtV (eVar 5))] Str.empty)))
  (sSeq (sFld "own_text" [0] (jsL [(eOp1 fmtV (eVar 1)), (fun _ => ok (.dat (.str ": "))), (eOp1 fmtV (eJoin (fun _ => ok (.dat (.str " / "))) (eVar 10)))] Str.empty) (eVar 0))
  (sFld "own_keys" [0] keysC (eVar 0)))))))
def bInitX (ck : Fn) (t : Tbl) : CS :=
  (sSeq (sExpr (eCall ck (eCons (eVar 1) (eCons (fun _ => ok (.dat (.int 1))) (eCons (fun _ => ok (.dat (.int 6))) eNil)))))
  (sSeq (sIf (tNot (tVal (chn .LtE .LtE (fun _ => ok (.dat (.int 1))) (eOpT (lenG t) (eCons (eVar 2) eNil)) (fun _ => ok (.dat (.int 4)))))) (sRaise 18 "BadRow" "at" (eOp1 negD (fun _ => ok (.dat (.int 1))))) sNil)
  (sSeq (sFor (iEn (eVar 2)) gEn (inBx t)) bIniT)))
theorem init_tail {s : Nat} (hs : M[s]? = some (.ins 0 [])) (hR : ∀ fs, Rws (M.set s (.ins 0 fs)) RR (rows.map rowD)) (b : BoardOk k rows w) :
    ∃ ρ', bIniT (ro0 (.mu s) k RR) M = .ret (.ok (.nx ρ') (M.set s (.ins 0 ((boardF k rows).map fun p => (p.1, .dat p.2))))) := by
  have hl : s < M.length := (List.getElem?_eq_some_iff.mp hs).1
  have self : M.set s (.ins 0 []) = M := by
    apply List.ext_getElem?
    intro q
    by_cases e : s = q
    · subst e; rw [set_get hl, hs]
    · rw [List.getElem?_set_ne e]
  have b2 := b.h2
  refine ⟨[.mu s, .dat (.int k), RR, .un, .un, .un, .un, .un, .un, .un, .dat (.lst (rows.map fun r => .str (rowT r))), .un, .un], ?_⟩
  unfold bIniT
  have hz : ∀ r ∈ rows, r.2.length ≤ 4 := fun r hr => by
    have := (b.sg r hr).1
    have := b.w2
    omega
  have k1 := b.k1
  have k2 := b.k2
  have mv : ∀ {g : CS} {ρ : List Sl} {r : T (Re Fl)}, g ρ (M.set s (.ins 0 [])) = r → g ρ M = r := fun h => by rw [self] at h; exact h
  refine mv ?_
  refine seq_ret (fld_step (fs' := [("own_ticks", .dat (.int k))]) hl rfl (var_dat rfl) (by simp) rfl) ?_
  refine seq_ret (fld_step (fs' := [("own_ticks", .dat (.int k)), ("own_places", .dat (.lst (rows.map fun r => .int r.1)))]) hl rfl (row_lc (h := fun r => .int r.1) (hR _) b2 fun r hr => var_dat rfl) (by simp) rfl) ?_
  refine seq_ret (fld_step (fs' := [("own_ticks", .dat (.int k)), ("own_places", .dat (.lst (rows.map fun r => .int r.1))), ("own_signs", .dat (.lst (rows.map fun r => .str r.2)))]) hl rfl (row_lc (h := fun r => .str r.2) (hR _) b2 fun r hr => var_dat rfl) (by simp) rfl) ?_
  refine seq_ret (set_ret (row_lc (h := fun r => .str (rowT r)) (hR _) b2 fun r hr => row_text rfl rfl (b.lo r hr).1 (by have := (b.lo r hr).2; omega) (hz r hr))) ?_
  refine seq_ret (fld_step (fs' := [("own_ticks", .dat (.int k)), ("own_places", .dat (.lst (rows.map fun r => .int r.1))), ("own_signs", .dat (.lst (rows.map fun r => .str r.2))), ("own_text", .dat (.str (textT k rows)))]) hl rfl (text_ret (l := .un) (k := k) (rows := rows) (w := w) rfl (by simp [List.map_map, Function.comp]) b) (by simp) rfl) ?_
  exact fld_step hl rfl (keys_run (set_get hl) rfl b2 hz) (by simp) rfl
/-- what Board(k, rows) comes to -/
def brd {α : Type} (k : Int) (rows : List (Int × Str)) (good : α) (num : α) (row : Int → α) : α := if 1 ≤ k ∧ k ≤ 6 then if 1 ≤ rows.length ∧ rows.length ≤ 4 then (match fstB k rows 0 rows with
    | some i => row i
    | none => good) else row (-1) else num
theorem fstB_none {k : Int} {all : List (Int × Str)} : ∀ {l : List (Int × Str)} {i : Nat}, fstB k all i l = none → ∀ (j : Nat) r, l[j]? = some r → rowBad k all (i + j) r = false
  | [], _, _, j, r, h => by simp at h
  | a :: l, i, e, j, r, h => by
    unfold fstB at e
    split at e
    · cases e
    · rename_i hb
      cases j with
      | zero => simp at h; subst h; simpa using hb
      | succ j =>
        have := fstB_none e j r (by simpa using h)
        rwa [show i + 1 + j = i + (j + 1) by omega] at this
theorem fstB_ok (k1 : 1 ≤ k) (k2 : k ≤ 6) (h1 : 1 ≤ rows.length) (h2 : rows.length ≤ 4) (e : fstB k rows 0 rows = none) : BoardOk k rows ((rows.map (·.2)).headD Str.empty).length := by
  have g : ∀ (j : Nat) r, rows[j]? = some r → (0 ≤ r.1 ∧ r.1 < k) ∧ r.1 ∉ (rows.take j).map (·.1) ∧ zOk r.2 = true ∧ r.2.length = ((rows.map (·.2)).headD Str.empty).length := fun j r hr => by
    have := fstB_none e j r hr
    rw [Nat.zero_add] at this
    unfold rowBad at this
    simp only [Bool.or_eq_false_iff, Bool.not_eq_false', Bool.and_eq_true, decide_eq_true_eq, decide_eq_false_iff_not] at this
    exact ⟨this.1.1, this.1.2, this.2.1, this.2.2⟩
  have gm : ∀ r ∈ rows, (0 ≤ r.1 ∧ r.1 < k) ∧ zOk r.2 = true ∧ r.2.length = ((rows.map (·.2)).headD Str.empty).length := fun r hr => by
    obtain ⟨j, hj⟩ := List.getElem?_of_mem hr
    have := g j r hj
    exact ⟨this.1, this.2.2⟩
  have h0 : rows[0]? = some (rows[0]'(by omega)) := List.getElem?_eq_getElem _
  have w0 := gm _ (List.mem_of_getElem? h0)
  have z0 := w0.2.1
  unfold zOk at z0
  simp only [Bool.and_eq_true, decide_eq_true_eq] at z0
  refine ⟨h1, h2, by rw [← w0.2.2]; exact z0.1.1, by rw [← w0.2.2]; exact z0.1.2, k1, k2, ?_, fun r hr => (gm r hr).1, fun r hr => ⟨(gm r hr).2.2, ?_⟩⟩
  · unfold List.Nodup
    rw [List.pairwise_iff_getElem]
    intro i j hi hj hij
    rw [List.length_map] at hi hj
    intro q
    have q : rows[i].1 = rows[j].1 := by simpa using q
    refine (g j rows[j] (List.getElem?_eq_getElem hj)).2.1 ?_
    rw [← q]
    refine List.mem_map.mpr ⟨rows[i], ?_, rfl⟩
    rw [List.mem_take_iff_getElem]
    exact ⟨i, by omega, rfl⟩
  · have := (gm r hr).2.1
    unfold zOk at this
    rw [Bool.and_eq_true] at this
    exact okSb_iff.mp this.2
theorem mkBoardD {c : Nat} (h : Cl M) (hR : ∀ m, Rws (M ++ [m]) RR (rows.map rowD)) (hD : ∀ M, enV M RR = some (.data (enumD 0 (rows.map rowD)))) (hn : rows.length ≤ 1000) (hz : ∀ r ∈ rows, r.2.length ≤ 1000) : kMak true 0 (mkFn false 3 13 (bInitX (mkFn false 3 3 (bChk c)) t)) [.dat (.int k), RR] M =
    brd k rows (.ret (.ok (.dat (boardD k rows)) M)) (.ret (.ex c (numX k) M)) fun i => .ret (.ex 18 (rowX i) M) := by
  have cl2 : ∀ m : MO, cut M.length (M ++ [m]) = M := fun m => cut_Cl h
  have hM := hR (MO.ins 0 [])
  rw [kMak_r, fn_eq (by rfl)]
  show ((bInitX (mkFn false 3 3 (bChk c)) t (ro0 (.mu M.length) k RR) (M ++ [MO.ins 0 []])).bind (retK false (M ++ [MO.ins 0 []]).length)).bind (mkK true M.length) = _
  unfold bInitX brd
  rw [x_sSeq, x_sExpr, x_eCall, show (eCons (eVar 1) (eCons (fun _ => ok (.dat (.int 1))) (eCons (fun _ => ok (.dat (.int 6))) eNil))) (ro0 (.mu M.length) k RR) (M ++ [MO.ins 0 []]) = .ret (.ok [.dat (.int k), .dat (.int 1), .dat (.int 6)] (M ++ [MO.ins 0 []])) from by simp, x_bret, x_reok, chk_run]
  by_cases hk : 1 ≤ k ∧ k ≤ 6
  · rw [if_pos hk, if_pos hk]
    simp only [x_bret, x_reok, kExp_r, x_seqK_nx, x_sSeq, x_sIf, x_tNot, x_tVal]
    have l2 : eOpT (lenG t) (eCons (eVar 2) eNil) (ro0 (.mu M.length) k RR) (M ++ [MO.ins 0 []]) = .ret (.ok (.dat (.int (rows.length : Int))) (M ++ [MO.ins 0 []])) := by
      have := len_ret (t := t) (M := M ++ [MO.ins 0 []]) (f := eVar 2) (ρ := ro0 (.mu M.length) k RR) (var_ret rfl hM.un hM.nrm) hM.len (by rw [List.length_map]; unfold sizeLine; omega)
      rw [List.length_map] at this
      exact this
    have ch : chn .LtE .LtE (fun _ => ok (.dat (.int 1))) (eOpT (lenG t) (eCons (eVar 2) eNil)) (fun _ => ok (.dat (.int 4))) (ro0 (.mu M.length) k RR) (M ++ [MO.ins 0 []]) = .ret (.ok (.dat (.bl (decide (1 ≤ rows.length ∧ rows.length ≤ 4)))) (M ++ [MO.ins 0 []])) := by
      rw [x_chn]
      simp only [x_ok, x_bret, x_reok, kCh_r, l2, kCh2_r, cmpV]
      by_cases a1 : 1 ≤ rows.length
      · rw [show decide ((1 : Int) ≤ (rows.length : Int)) = true from by simp; omega]
        simp only [chnK_t, x_bret, x_reok, kO2b_r, x_ok, cmp, cmpV, Option.map_some, ofK_some]
        have : decide ((rows.length : Int) ≤ 4) = decide (1 ≤ rows.length ∧ rows.length ≤ 4) := by
          by_cases a2 : rows.length ≤ 4
          · rw [decide_eq_true (by omega), decide_eq_true ⟨a1, a2⟩]
          · rw [decide_eq_false (by omega), decide_eq_false (fun q => a2 q.2)]
        rw [this]
      · rw [show decide ((1 : Int) ≤ (rows.length : Int)) = false from by simp; omega]
        rw [chnK_f, decide_eq_false (fun q => a1 q.1)]
    rw [ch]
    simp only [x_bret, x_reok, x_asB, kNot_r, kIfS_r]
    by_cases hl : 1 ≤ rows.length ∧ rows.length ≤ 4
    · rw [if_pos hl, decide_eq_true hl]
      simp only [Bool.not_true, Bool.false_eq_true, if_false, x_sNil, x_bret, x_reok, x_seqK_nx, x_sSeq]
      obtain ⟨its, e1, e2⟩ := hM.en
      have rf := rows_for (t := t) (s := .mu M.length) (k := k) hM hn hz rows 0 (fun j => by rw [Nat.zero_add])
      have hf : sFor (iEn (eVar 2)) gEn (inBx t) (ro0 (.mu M.length) k RR) (M ++ [MO.ins 0 []]) = (match fstB k rows 0 rows with
          | some i => .ret (.ex 18 (rowX i) (M ++ [MO.ins 0 []]))
          | none => .ret (.ok (.nx (ro0 (.mu M.length) k RR)) (M ++ [MO.ins 0 []]))) := by
        rw [x_sFor]
        have hi : iEn (eVar 2) (ro0 (.mu M.length) k RR) (M ++ [MO.ins 0 []]) = .ret (.ok its (M ++ [MO.ins 0 []])) := by
          unfold iEn Ev.bind
          rw [var_ret rfl hM.un hM.nrm]
          simp only [T.bind, reK, e1]
        rw [hi, x_bret, x_reok]
        have e3 := hD (M ++ [MO.ins 0 []])
        rw [e1] at e3
        cases e3
        rw [x_forI_data]
        exact rf
      rw [hf]
      cases hb : fstB k rows 0 rows with
      | some i =>
        simp only [x_bret, x_reex, retK_ex, mkK_ex, cut_len1, cl2, List.length_append, List.length_cons, List.length_nil]
      | none =>
        have b := fstB_ok hk.1 hk.2 hl.1 hl.2 hb
        obtain ⟨ρ', e⟩ := init_tail (M := M ++ [MO.ins 0 []]) (RR := RR) (s := M.length) last_get (fun fs => by rw [last_set]; exact hR _) b
        rw [last_set] at e
        simp only [x_bret, x_reok, x_seqK_nx, e, retK_nx]
        rw [show (M ++ [MO.ins 0 []]).length = M.length + 1 from by simp, cut_len1, mkK_t]
        simp [cl2]
    · rw [if_neg hl, decide_eq_false hl]
      simp [rowX, negD, cl2]
  · rw [if_neg hk, if_neg hk]
    simp [cl2]
theorem mkBoard {c : Nat} (h : Cl M) (hn : rows.length ≤ 1000) (hz : ∀ r ∈ rows, r.2.length ≤ 1000) : kMak true 0 (mkFn false 3 13 (bInitX (mkFn false 3 3 (bChk c)) t)) [.dat (.int k), .dat (.lst (rows.map rowD))] M =
    brd k rows (.ret (.ok (.dat (boardD k rows)) M)) (.ret (.ex c (numX k) M)) fun i => .ret (.ex 18 (rowX i) M) := mkBoardD h (fun _ => rws_lst) (fun _ => rfl) hn hz
end
end R

set_option Elab.async false
set_option linter.all false
set_option maxRecDepth 100000
set_option maxHeartbeats 4000000
namespace R
open PySem PySem.Spec PyProof.Rows L2
variable [Keys]
/-! ### plain: slices -/
section
variable {α β : Type} {M : List MO} {ρ : List Sl} {s : Sl} {l u : Option Int} {ds : List D} {z : Str} {xs : List α} {x y : Int} {i : Nat}
@[simp] theorem x_oNone : oNone ρ M = .ret (.ok none M) := id rfl
def kOS : Sl → Ev (Option Int) := fun s => match s with
  | .dat (.int i) => ok (some i)
  | _ => bad
@[simp] theorem kOS_int : kOS (.dat (.int x)) M = .ret (.ok (some x) M) := id rfl
@[simp] theorem x_oSome {f : CE} : oSome f ρ M = (f ρ M).bind (reK kOS) := by
  unfold oSome kOS Ev.bind
  rfl
def kSl3 (x : Sl) (l : Option Int) : Option Int → Ev Sl := fun u M => ofK (slV M x l u)
@[simp] theorem kSl3_r : kSl3 s l u M = ofK (slV M s l u) := id rfl
def kSl2 (hi : CO) (ρ : List Sl) (x : Sl) : Option Int → Ev Sl := fun l => (hi ρ).bind (kSl3 x l)
@[simp] theorem kSl2_r {hi : CO} : kSl2 hi ρ s l M = (hi ρ M).bind (reK (kSl3 s l)) := id rfl
def kSl1 (lo hi : CO) (ρ : List Sl) : Sl → Ev Sl := fun x => (lo ρ).bind (kSl2 hi ρ x)
@[simp] theorem kSl1_r {lo hi : CO} : kSl1 lo hi ρ s M = (lo ρ M).bind (reK (kSl2 hi ρ s)) := id rfl
@[simp] theorem x_eSl {f : CE} {lo hi : CO} : eSl f lo hi ρ M = (f ρ M).bind (reK (kSl1 lo hi ρ)) := by
  unfold eSl kSl1 kSl2 kSl3 Ev.bind
  congr 1
@[simp] theorem slV_lst : slV M (.dat (.lst ds)) l u = some (.dat (.lst (cutD ds l u)), M) := id rfl
@[simp] theorem slV_tup : slV M (.dat (.tup ds)) l u = some (.dat (.tup (cutD ds l u)), M) := id rfl
@[simp] theorem slV_str (h : z.length ≤ 16777216) : slV M (.dat (.str z)) l u = some (.dat (.str (cutS z l u)), M) := by
  show (if z.length ≤ sizeLine then some (Sl.dat (.str (cutS z l u)), M) else none) = _
  rw [sizeLine_n, if_pos h]
theorem cutD_to (h : 0 ≤ x) : cutD xs none (some x) = xs.take x.toNat := by
  obtain ⟨k, rfl⟩ := Int.eq_ofNat_of_zero_le h
  unfold cutD
  rw [HT.sIx_nat, HT.sIx_none, List.drop_zero, Nat.sub_zero]
  by_cases h : k ≤ xs.length
  · rw [Nat.min_eq_left h]; rfl
  · rw [Nat.min_eq_right (by omega), List.take_of_length_le (Nat.le_refl _), List.take_of_length_le (by simp; omega)]
theorem cutD_from (h : 0 ≤ x) : cutD xs (some x) none = xs.drop x.toNat := by
  obtain ⟨k, rfl⟩ := Int.eq_ofNat_of_zero_le h
  unfold cutD
  rw [HT.sIx_nat, HT.sIx_none]
  by_cases h : k ≤ xs.length
  · rw [Nat.min_eq_left h]
    rw [List.take_of_length_le (by simp)]; rfl
  · rw [Nat.min_eq_right (by omega), Nat.sub_self, List.take_zero, List.drop_of_length_le (by simp; omega)]
theorem cutD_map {f : α → β} : cutD (xs.map f) l u = (cutD xs l u).map f := by
  unfold cutD
  rw [List.length_map, ← List.map_drop, ← List.map_take]
end
end R
namespace R
open PySem PySem.Spec PyProof.Rows L2
section
variable {α : Type}
@[simp] theorem atI_4 {a a1 a2 a3 a4 : α} {r : List α} : atI (a :: a1 :: a2 :: a3 :: a4 :: r) 4 = some a4 := by
  unfold atI ixN
  rw [if_pos (by omega), if_pos (by simp only [List.length_cons]; omega)]; rfl
@[simp] theorem atI_5 {a a1 a2 a3 a4 a5 : α} {r : List α} : atI (a :: a1 :: a2 :: a3 :: a4 :: a5 :: r) 5 = some a5 := by
  unfold atI ixN
  rw [if_pos (by omega), if_pos (by simp only [List.length_cons]; omega)]; rfl
@[simp] theorem atI_6 {a a1 a2 a3 a4 a5 a6 : α} {r : List α} : atI (a :: a1 :: a2 :: a3 :: a4 :: a5 :: a6 :: r) 6 = some a6 := by
  unfold atI ixN
  rw [if_pos (by omega), if_pos (by simp only [List.length_cons]; omega)]; rfl
@[simp] theorem rowD_mk {x : Int} {z : Str} : rowD (x, z) = .tup [.int x, .str z] := rfl
end
end R

set_option Elab.async false
set_option linter.all false
set_option maxRecDepth 100000
set_option maxHeartbeats 4000000
namespace R
open PySem PySem.Spec PyProof.Rows L2
variable [Keys]
/-! ### plain: texts that may be compared -/
section
variable {M : List MO} {k : Int} {rows : List (Int × Str)} {w : Nat} {u z : Str}
theorem strOk_app : PyData.strOk (u ++ z) = (PyData.strOk u && PyData.strOk z) := by
  unfold PyData.strOk
  rw [Str.cps_append, Array.all_append]
theorem strOk_join (hu : PyData.strOk u = true) : ∀ {ys : List Str}, (∀ y ∈ ys, PyData.strOk y = true) → PyData.strOk (Txt.join u ys) = true := fun {ys} h => by
  have e : Txt.join u ys = Str.join u ys := by first | exact StrLaws.glued_eq_join u ys | exact PySem.glued_eq_join u ys
  rw [e]
  induction ys with
  | nil =>
    show PyData.strOk Str.empty = true
    decide +kernel
  | cons y r ih =>
    cases r with
    | nil => exact h y (by simp)
    | cons y2 r =>
      have ih := ih (fun a ha => h a (List.mem_cons_of_mem _ ha)) (by first | exact StrLaws.glued_eq_join u _ | exact PySem.glued_eq_join u _)
      rw [Str.join]
      · rw [strOk_app, strOk_app, h y List.mem_cons_self, hu, ih]; rfl
      · intro q; cases q
theorem strOk_strI {p : Int} (h0 : 0 ≤ p) (h1 : p ≤ 100) : PyData.strOk (strI p) = true := by
  obtain ⟨n, rfl⟩ := Int.eq_ofNat_of_zero_le h0
  have key : ∀ n : Fin 101, PyData.strOk (strI ((n : Nat) : Int)) = true := by decide +kernel
  exact key ⟨n, by omega⟩
theorem strOk_text (b : BoardOk k rows w) : PyData.strOk (textT k rows) = true := by
  have k1 := b.k1
  have k2 := b.k2
  unfold textT
  show PyData.strOk (strI k ++ Str.ofString ": " ++ _) = true
  rw [strOk_app, strOk_app, strOk_strI (by omega) (by omega), strOk_join (by decide +kernel) (by
    intro y hy
    obtain ⟨r, hr, rfl⟩ := List.mem_map.mp hy
    have l := b.lo r hr
    unfold rowT
    show PyData.strOk (strI r.1 ++ Str.ofString " " ++ r.2) = true
    rw [strOk_app, strOk_app, strOk_strI (by omega) (by omega), ok_strOk (b.sg r hr).2]
    decide +kernel)]
  decide +kernel
@[simp] theorem nofs_rows : noFs (rows.map rowD) = true := noFs_map fun _ => rfl
theorem keysF_noF : ∀ (rows : List (Int × Str)) (i : Nat), noFs (keysF i rows) = true
  | [], _ => rfl
  | r :: rows, i => by
    have key : ∀ l : List D, noFs (l.flatMap (kI (.tup [.int (i : Nat), .str r.2]))) = true := by
      intro l
      induction l with
      | nil => rfl
      | cons d l ih =>
        rw [List.flatMap_cons, noFs_all, List.all_append, ← noFs_all, ← noFs_all, ih, Bool.and_true]
        unfold kI
        split
        · rename_i h1 h2
          cases h1
          split <;> rfl
        · rfl
    rw [keysF, noFs_all, List.all_append, ← noFs_all, ← noFs_all, keysF_noF rows (i + 1), Bool.and_true]
    exact key _
@[simp] theorem noF_board : noF (boardD k rows) = true := by
  unfold boardD boardF
  simp only [noF_ins, noFf_cons, noF_int, noF_lst, noF_str, noFf_nil, keysF_noF, Bool.and_true, Bool.true_and]
  rw [noFs_map (fun _ => rfl), noFs_map (fun _ => rfl)]; rfl
end
end R
namespace R
open PySem PySem.Spec PyProof.Rows L2
theorem law_spTW [Keys] (κ : Keys) {K : PySem.W.Frag} {F : Fn} {ns : List Int} {H : Hp} {a : Addr} (hT : H (κ.tab 0) = some (.tbl #[])) (hS : SqL K H a (ns.map V.int)) (h : W (F [.dat (.scr ns)] [.tab 0]) fun r => ∃ M, r = .ok (.dat (.bl true)) M) : spA κ K 1 F [.ref a] H (fun v _ => v = .bl true) fun _ _ _ => False :=
  law_spT κ hT hS (W_iff.mp h)
end R

set_option Elab.async false
set_option linter.all false
set_option maxRecDepth 100000
set_option maxHeartbeats 4000000
namespace R
open PySem PySem.Spec PyProof.Rows L2
variable [Keys]
/-! ### plain: places in lists of numbers; sign and row_at -/
section
variable {α : Type} {M : List MO} {ρ : List Sl} {s : Sl} {x y p : Int} {xs : List α} {f : α → Int} {ds : List D} {c : Nat}
theorem map_ints : (xs.map fun a => D.int (f a)) = (xs.map f).map D.int := by rw [List.map_map]; rfl
@[simp] theorem cmpV_inI : cmpV .In M (.dat (.int p)) (.dat (.lst (xs.map fun a => D.int (f a)))) = some (decide (p ∈ xs.map f)) := by
  have h := cin (M := M) (p := p) (ps := xs.map f)
  rw [← map_ints] at h
  unfold cmp at h
  cases e : cmpV .In M (.dat (.int p)) (.dat (.lst (xs.map fun a => D.int (f a)))) with
  | none => rw [e] at h; cases h
  | some v =>
    rw [e] at h
    simp only [Option.map_some, Option.some.injEq, Prod.mk.injEq, and_true, Sl.dat.injEq, D.bl.injEq] at h
    rw [h]
theorem intsOf_map : ∀ ns : List Int, intsOf (ns.map D.int) = some ns
  | [] => rfl
  | n :: r => by rw [List.map_cons, intsOf, intsOf_map r]; rfl
@[simp] theorem idxG_map (h : p ∈ xs.map f) : idxG M (.dat (.lst (xs.map fun a => D.int (f a)))) (.dat (.int p)) = some (.dat (.int ((xs.map f).idxOf p : Nat)), M) := by
  unfold idxG
  rw [lstD_lst]
  dsimp only
  rw [map_ints, intsOf_map]
  dsimp only
  rw [if_pos h]
def idxK1 (fb : CE) (ρ : List Sl) (x : Sl) (M : List MO) : Option (List D) → T (Re Sl)
  | some _ => Ev.bind (fb ρ) (fun y => ofM fun M => idxG M x y) M
  | none => .bad
def kIdx (fb : CE) (ρ : List Sl) : Sl → Ev Sl := fun x M => idxK1 fb ρ x M (lstD M x)
@[simp] theorem kIdx_r {fb : CE} : kIdx fb ρ s M = idxK1 fb ρ s M (lstD M s) := id rfl
@[simp] theorem x_eIndex {fa fb : CE} : eIndex fa fb ρ M = (fa ρ M).bind (reK (kIdx fb ρ)) := by
  unfold eIndex kIdx Ev.bind
  congr 1
def kIdx2 (x : Sl) : Sl → Ev Sl := fun y M => ofK (idxG M x y)
@[simp] theorem kIdx2_r : kIdx2 s y' M = ofK (idxG M s y') := id rfl
@[simp] theorem idxK1_some {fb : CE} : idxK1 fb ρ s M (some ds) = (fb ρ M).bind (reK (kIdx2 s)) := by
  unfold idxK1 kIdx2 Ev.bind
  dsimp only
  all_goals (
    congr 1
    all_goals (funext r; cases r <;> simp))
theorem rng_mem {n : Nat} {d : D} (h : d ∈ rng 0 n) : ∃ i : Nat, d = .int (i : Int) ∧ i < n := by
  unfold rng at h
  obtain ⟨i, hi, rfl⟩ := List.mem_map.mp h
  exact ⟨i, by simp, List.mem_range.mp hi⟩
def metK' (m : Str) (c : Nat) (F : Fn) (pm : List Nat) (fk : CA) (ρ : List Sl) (o : Sl) (M : List MO) : Option Nat → T (Re Sl)
  | some c' => if c' = c then Ev.bind (fk ρ) (fun zs M => if zs.length = pm.length then F (o :: permL pm zs) M else .bad) M else .bad
  | none => .bad
def kMetK (m : Str) (c : Nat) (F : Fn) (pm : List Nat) (fk : CA) (ρ : List Sl) : Sl → Ev Sl := fun o M => metK' m c F pm fk ρ o M (insAt M m o)
@[simp] theorem kMetK_r {m : Str} {F : Fn} {pm : List Nat} {fk : CA} : kMetK m c F pm fk ρ s M = metK' m c F pm fk ρ s M (insAt M m s) := id rfl
@[simp] theorem x_eMetK {m : Str} {F : Fn} {pm : List Nat} {fo : CE} {fk : CA} : eMetK m c F pm fo fk ρ M = (fo ρ M).bind (reK (kMetK m c F pm fk ρ)) := by
  unfold eMetK kMetK Ev.bind
  congr 1
@[simp] theorem metK'_some {m : Str} {F : Fn} {pm : List Nat} {fk : CA} : metK' m c F pm fk ρ s M (some c) = (fk ρ M).bind (reK (kCallP F pm [s])) := by
  unfold metK'
  dsimp only
  rw [if_pos rfl]
  rfl
end
section
variable {M : List MO} {k r q : Int} {rows : List (Int × Str)} {w c : Nat} {Fh Fw : Fn}
def bSign (F Fh Fw : Fn) : CS :=
  (sSeq (sExpr (eCall F (eCons (eVar 1) (eCons (fun _ => ok (.dat (.int 0))) (eCons (eOp2 (bin .Sub) (ePro [(0, Fh)] (eVar 0)) (fun _ => ok (.dat (.int 1)))) eNil)))))
  (sSeq (sExpr (eCall F (eCons (eVar 2) (eCons (fun _ => ok (.dat (.int 0))) (eCons (eOp2 (bin .Sub) (ePro [(0, Fw)] (eVar 0)) (fun _ => ok (.dat (.int 1)))) eNil)))))
  (sRet (eOp2 ixV (eOp2 ixV (eFld "own_signs" [0] (eVar 0)) (eVar 1)) (eVar 2)))))
theorem fldV_signs : fldV "own_signs" M (.dat (boardD k rows)) = some (.dat (.lst (rows.map fun r => D.str r.2)), M) := rfl
theorem fldV_places : fldV "own_places" M (.dat (boardD k rows)) = some (.dat (.lst (rows.map fun r => D.int r.1)), M) := rfl
theorem fldV_ticks : fldV "own_ticks" M (.dat (boardD k rows)) = some (.dat (.int k), M) := rfl
theorem sign_bad0 (hh : Fh [.dat (boardD k rows)] M = .ret (.ok (.dat (.int (rows.length : Int))) M)) (hr : ¬ (0 ≤ r ∧ r ≤ (rows.length : Int) - 1)) : mkFn false 3 3 (bSign (mkFn false 3 3 (bChk c)) Fh Fw) [.dat (boardD k rows), .dat (.int r), .dat (.int q)] M = .ret (.ex c (numX r) M) := by
  rw [fn_eq (by rfl)]
  have key : bSign (mkFn false 3 3 (bChk c)) Fh Fw [.dat (boardD k rows), .dat (.int r), .dat (.int q)] M = .ret (.ex c (numX r) M) := by
    unfold bSign
    simp [hh, chk_run, hr]
  show (bSign _ Fh Fw [.dat (boardD k rows), .dat (.int r), .dat (.int q)] M).bind _ = _
  rw [key, x_bret, retK_ex, cut_self rfl]
theorem sign_bad1 (hh : Fh [.dat (boardD k rows)] M = .ret (.ok (.dat (.int (rows.length : Int))) M)) (hw : Fw [.dat (boardD k rows)] M = .ret (.ok (.dat (.int (w : Int))) M)) (hr : 0 ≤ r ∧ r ≤ (rows.length : Int) - 1) (hq : ¬ (0 ≤ q ∧ q ≤ (w : Int) - 1)) : mkFn false 3 3 (bSign (mkFn false 3 3 (bChk c)) Fh Fw) [.dat (boardD k rows), .dat (.int r), .dat (.int q)] M = .ret (.ex c (numX q) M) := by
  rw [fn_eq (by rfl)]
  have key : bSign (mkFn false 3 3 (bChk c)) Fh Fw [.dat (boardD k rows), .dat (.int r), .dat (.int q)] M = .ret (.ex c (numX q) M) := by
    unfold bSign
    simp [hh, hw, chk_run, hr, hq]
  show (bSign _ Fh Fw [.dat (boardD k rows), .dat (.int r), .dat (.int q)] M).bind _ = _
  rw [key, x_bret, retK_ex, cut_self rfl]
theorem sign_run {i j ch : Nat} {p : Int} {z : Str} (b : BoardOk k rows w) (hh : Fh [.dat (boardD k rows)] M = .ret (.ok (.dat (.int (rows.length : Int))) M)) (hw : Fw [.dat (boardD k rows)] M = .ret (.ok (.dat (.int (w : Int))) M)) (hi : rows[i]? = some (p, z)) (hj : z.cps.toList[j]? = some ch) : mkFn false 3 3 (bSign (mkFn false 3 3 (bChk c)) Fh Fw) [.dat (boardD k rows), .dat (.int (i : Int)), .dat (.int (j : Int))] M = .ret (.ok (.dat (.str ⟨#[ch]⟩)) M) := by
  rw [fn_eq (by rfl)]
  have li := (List.getElem?_eq_some_iff.mp hi).1
  have lj := (List.getElem?_eq_some_iff.mp hj).1
  have lz : z.length = w := (b.sg _ (List.mem_of_getElem? hi)).1
  have lz2 : z.cps.toList.length = w := lz
  have w2 := b.w2
  have g1 : (0 : Int) ≤ (i : Int) ∧ (i : Int) ≤ (rows.length : Int) - 1 := by omega
  have g2 : (0 : Int) ≤ (j : Int) ∧ (j : Int) ≤ (w : Int) - 1 := by omega
  have a1 : atI rows (i : Int) = some (p, z) := R.atI_nat hi
  have a2 : atI z.cps.toList (j : Int) = some ch := R.atI_nat hj
  have key : bSign (mkFn false 3 3 (bChk c)) Fh Fw [.dat (boardD k rows), .dat (.int (i : Int)), .dat (.int (j : Int))] M = .ret (.ok (.rt (.dat (.str ⟨#[ch]⟩))) M) := by
    unfold bSign
    simp (disch := omega) [hh, hw, chk_run, g1, g2, fldV_signs, R.atI_map, a1, a2]
  show (bSign _ Fh Fw [.dat (boardD k rows), .dat (.int (i : Int)), .dat (.int (j : Int))] M).bind _ = _
  rw [key, x_bret, retK_dat, cut_self rfl]
def bRowAt : CS :=
  (sSeq (sIf (tVal (eOp2 (cmp .Lt) (eVar 1) (fun _ => ok (.dat (.int 0))))) (sRaise 12 "BadNumber" "given" (eVar 1)) sNil)
  (sSeq (sSet 2 (eOp2 (bin .Mod) (eVar 1) (eFld "own_ticks" [0] (eVar 0))))
  (sRet (eIf (tVal (eOp2 (cmp .In) (eVar 2) (eFld "own_places" [0] (eVar 0)))) (eIndex (eFld "own_places" [0] (eVar 0)) (eVar 2)) (fun _ => ok (.dat .non))))))
/-- the row at a tick -/
def rowAt (k : Int) (rows : List (Int × Str)) (t : Int) : D := if t % k ∈ rows.map (·.1) then .int ((rows.map (·.1)).idxOf (t % k) : Nat) else .non
theorem rowAt_bad {t : Int} (h : t < 0) : mkFn false 2 3 bRowAt [.dat (boardD k rows), .dat (.int t)] M = .ret (.ex 12 (numX t) M) := by
  rw [fn_eq (by rfl)]
  have key : bRowAt [.dat (boardD k rows), .dat (.int t), .un] M = .ret (.ex 12 (numX t) M) := by
    unfold bRowAt numX
    simp [h]
  show (bRowAt [.dat (boardD k rows), .dat (.int t), .un] M).bind _ = _
  rw [key, x_bret, retK_ex, cut_self rfl]
theorem rowAt_run {t : Int} (hk : 0 < k) (h : 0 ≤ t) : mkFn false 2 3 bRowAt [.dat (boardD k rows), .dat (.int t)] M = .ret (.ok (.dat (rowAt k rows t)) M) := by
  rw [fn_eq (by rfl)]
  have h2 : ¬ t < 0 := by omega
  have key : bRowAt [.dat (boardD k rows), .dat (.int t), .un] M = .ret (.ok (.rt (.dat (rowAt k rows t))) M) := by
    unfold bRowAt rowAt
    by_cases hm : t % k ∈ rows.map (·.1)
    · rw [if_pos hm]
      have hm2 := hm
      simp only [List.mem_map] at hm2
      simp (disch := first | exact hm | omega) [h2, fldV_ticks, fldV_places, hk, hm2]
    · rw [if_neg hm]
      have hm3 : ¬ t % k ∈ List.map Prod.fst rows := hm
      simp (disch := first | exact hm | omega) [h2, fldV_ticks, fldV_places, hk]
      rw [decide_eq_false hm3]
      simp
  show (bRowAt [.dat (boardD k rows), .dat (.int t), .un] M).bind _ = _
  rw [key, x_bret, retK_dat, cut_self rfl]
end
end R

set_option maxHeartbeats 4000000
set_option Elab.async false
set_option linter.all false
set_option maxRecDepth 100000
namespace G3
open PySem PySem.Spec PyProof.Rows L2 R
variable [Keys]
/-! ### which row is the first bad one -/
section
variable {k : Int} {rows : List (Int × Str)} {w a : Nat} {x : Int × Str}
theorem fstB_at : ∀ {l : List (Int × Str)} {all : List (Int × Str)} {i m : Nat}, (∀ j < m, ∀ r, l[j]? = some r → rowBad k all (i + j) r = false) → (∀ r, l[m]? = some r → rowBad k all (i + m) r = true) → m < l.length → fstB k all i l = some (i + m)
  | [], _, _, _, _, _, h => by simp at h
  | r :: l, all, i, 0, _, h2, _ => by
    unfold fstB
    have := h2 r rfl
    rw [Nat.add_zero] at this
    rw [if_pos this]; rfl
  | r :: l, all, i, m + 1, h1, h2, h3 => by
    unfold fstB
    have h0 := h1 0 (by omega) r rfl
    rw [Nat.add_zero] at h0
    rw [if_neg (by rw [h0]; decide)]
    have := fstB_at (l := l) (all := all) (i := i + 1) (m := m) (fun j hj r hr => by
      have := h1 (j + 1) (by omega) r (by simpa using hr)
      rwa [show i + (j + 1) = i + 1 + j by omega] at this) (fun r hr => by
      have := h2 r (by simpa using hr)
      rwa [show i + (m + 1) = i + 1 + m by omega] at this) (by simpa using h3)
    rw [this]
    congr 1
    omega
theorem fstB_no : ∀ {l : List (Int × Str)} {all : List (Int × Str)} {i : Nat}, (∀ (j : Nat) r, l[j]? = some r → rowBad k all (i + j) r = false) → fstB k all i l = none
  | [], _, _, _ => rfl
  | r :: l, all, i, h1 => by
    unfold fstB
    have h0 := h1 0 r rfl
    rw [Nat.add_zero] at h0
    rw [if_neg (by rw [h0]; decide)]
    exact fstB_no fun j r hr => by
      have := h1 (j + 1) r (by simpa using hr)
      rwa [show i + (j + 1) = i + 1 + j by omega] at this
/-- a good row -/
theorem good_row {all : List (Int × Str)} {i : Nat} {r : Int × Str} (h0 : 0 ≤ r.1) (h1 : r.1 < k) (h2 : r.1 ∉ (all.take i).map (·.1)) (h3 : zOk r.2 = true) (h4 : r.2.length = ((all.map (·.2)).headD Str.empty).length) : rowBad k all i r = false := by
  unfold rowBad
  simp only [h3, Bool.not_true, Bool.false_or, Bool.or_eq_false_iff, Bool.not_eq_false', Bool.and_eq_true, decide_eq_true_eq, decide_eq_false_iff_not]
  exact ⟨⟨⟨h0, h1⟩, h2⟩, h4⟩
theorem bad_place {all : List (Int × Str)} {i : Nat} {r : Int × Str} (h : ¬ (0 ≤ r.1 ∧ r.1 < k)) : rowBad k all i r = true := by
  unfold rowBad
  have : (decide (0 ≤ r.1) && decide (r.1 < k)) = false := by
    rw [← Bool.decide_and, decide_eq_false h]
  rw [this]; rfl
theorem bad_dup {all : List (Int × Str)} {i : Nat} {r : Int × Str} (h : r.1 ∈ (all.take i).map (·.1)) : rowBad k all i r = true := by
  unfold rowBad
  rw [decide_eq_true h]; simp
theorem bad_sign {all : List (Int × Str)} {i : Nat} {r : Int × Str} (h : zOk r.2 = false) : rowBad k all i r = true := by
  unfold rowBad
  rw [h]; simp
theorem bad_len {all : List (Int × Str)} {i : Nat} {r : Int × Str} (h : r.2.length ≠ ((all.map (·.2)).headD Str.empty).length) : rowBad k all i r = true := by
  unfold rowBad
  rw [decide_eq_false h]; simp
theorem head_at (all : List (Int × Str)) {r : Int × Str} (h : all[0]? = some r) : ((all.map (·.2)).headD Str.empty) = r.2 := by
  cases all with
  | nil => cases h
  | cons b l => cases h; rfl
variable (bo : BoardOk k rows w) (ha : a < rows.length)
include bo
theorem zok {r : Int × Str} (h : r ∈ rows) : zOk r.2 = true := by
  have h1 := (bo.sg r h).1
  have w1 := bo.w1
  have w2 := bo.w2
  unfold zOk
  rw [okSb_iff.mpr (bo.sg r h).2, decide_eq_true (by omega), decide_eq_true (by omega)]; rfl
theorem not_before {i : Nat} {r : Int × Str} (h : rows[i]? = some r) : r.1 ∉ (rows.take i).map (·.1) := by
  intro hp
  have nd := bo.nd
  have hi := (List.getElem?_eq_some_iff.mp h).1
  have e : rows = rows.take i ++ r :: rows.drop (i + 1) := by
    have : rows[i] = r := (List.getElem?_eq_some_iff.mp h).2
    rw [← this, List.getElem_cons_drop, List.take_append_drop]
  rw [e, List.map_append, List.nodup_append] at nd
  exact nd.2.2 r.1 hp r.1 (by simp) rfl
theorem all_good : fstB k rows 0 rows = none := fstB_no fun j r hr => by
  rw [Nat.zero_add]
  have hm := List.mem_of_getElem? hr
  have r0 : rows[0]? = some (rows[0]'(by have := bo.h1; omega)) := List.getElem?_eq_getElem _
  exact good_row (bo.lo r hm).1 (bo.lo r hm).2 (not_before bo hr) (zok bo hm) (by rw [head_at _ r0, (bo.sg r hm).1, (bo.sg _ (List.mem_of_getElem? r0)).1])
end
end G3

set_option Elab.async false
set_option linter.all false
set_option maxRecDepth 100000
set_option maxHeartbeats 4000000
namespace R
open PySem PySem.Spec PyProof.Rows L2
variable [Keys]
section
variable {M : List MO} {ρ : List Sl} {k : Int} {rows : List (Int × Str)} {w : Nat} {F : Fn} {d : D} {ds xs : List D} {v : Bool} {tEq : Tbl}
@[simp] theorem x_eCall0 : eCall0 F ρ M = F [] M := id rfl
@[simp] theorem listT_t {m : Bool} : listT m M [.dat (.tup ds)] = some (mkL m M ds) := id rfl
/-- d in ds -/
def inK (d : D) (ds : List D) : Bool := (pys ds).any fun z => PyData.eqv z (py d)
theorem cin_tup (h1 : plain 58 (.tup xs) = true) (h2 : plains 58 ds = true) : cmpV .In M (.dat (.tup xs)) (.dat (.lst ds)) = some (inK (.tup xs) ds) := by
  show (if plain 58 (.tup xs) && plains 58 ds then some (inK (.tup xs) ds) else none) = _
  rw [h1, h2]; rfl
theorem plains_keys : ∀ (rows : List (Int × Str)) (i : Nat), plains 58 (keysF i rows) = true := by
  intro rows i
  rw [keysF_z]
  generalize keysZ i rows = l
  induction l with
  | nil => simp
  | cons p l ih => rw [List.map_cons, plains_cons, ih, Bool.and_true]; unfold keyD; simp
theorem cin_keys {a b : Int} {i : Nat} : cmpV .In M (.dat (.tup [.int a, .int b])) (.dat (.lst (keysF i rows))) = some (inK (.tup [.int a, .int b]) (keysF i rows)) := cin_tup (by simp) (plains_keys _ _)
theorem gIn_board (e : F [.dat (boardD k rows), .dat d] M = .ret (.ok (.dat (.bl v)) M)) : cmpG .In tEq [(0, F)] (.dat d) (.dat (boardD k rows)) M = .ret (.ok (.dat (.bl v)) M) := by
  unfold cmpG
  rw [show cmpV .In M (.dat d) (.dat (boardD k rows)) = none from by cases d <;> rfl]
  show (F [.dat (boardD k rows), .dat d] M).bind (chkBl fun b => b) = _
  rw [e]
  rfl
def bCont (Fp : Fn) : CS := (sRet (eAnd (eCall Fp (eCons (eVar 1) eNil)) (eOp2 (cmp .In) (eVar 1) (eFld "own_keys" [0] (eVar 0)))))
theorem fldV_keys : fldV "own_keys" M (.dat (boardD k rows)) = some (.dat (.lst (keysF 0 rows)), M) := rfl
theorem cont_no (e : F [.dat d] M = .ret (.ok (.dat (.bl false)) M)) : mkFn false 2 2 (bCont F) [.dat (boardD k rows), .dat d] M = .ret (.ok (.dat (.bl false)) M) := fn2_dat (by
  unfold bCont
  simp [e])
theorem cont_yes {a b : Int} (e : F [.dat (.tup [.int a, .int b])] M = .ret (.ok (.dat (.bl true)) M)) : mkFn false 2 2 (bCont F) [.dat (boardD k rows), .dat (.tup [.int a, .int b])] M = .ret (.ok (.dat (.bl (inK (.tup [.int a, .int b]) (keysF 0 rows)))) M) := fn2_dat (by
  unfold bCont
  simp [e, fldV_keys, cin_keys])
theorem cmpD_no {turn : Sl → Ev (List D)} : ∀ {ds : List D}, (∀ d ∈ ds, turn (.dat d) M = .ret (.ok [D.bl false] M)) → compD turn ds M = .ret (.ok (List.replicate ds.length (D.bl false)) M) := fun {ds} h => by
  have q := cmpD_map (M := M) (turn := turn) (f := fun d : D => d) (h := fun _ => D.bl false) (xs := ds) h
  rw [show List.map (fun d : D => d) ds = ds from List.map_id' ds, List.map_const'] at q
  exact q
theorem cmpD_rng {turn : Sl → Ev (List D)} {f : Nat → D} {n : Nat} (h : ∀ i : Nat, turn (.dat (.int (i : Int))) M = .ret (.ok [f i] M)) : compD turn (rng 0 n) M = .ret (.ok ((List.range n).map f) M) := by
  unfold rng
  exact cmpD_map fun i _ => by rw [Int.zero_add]; exact h i
theorem blsOf_rep : ∀ n : Nat, blsOf (List.replicate n (D.bl v)) = some (List.replicate n v)
  | 0 => rfl
  | n + 1 => by rw [List.replicate_succ, List.replicate_succ]; simp only [blsOf, blsOf_rep n]; rfl
theorem any_no {n : Nat} : anyG false M [.dat (.lst (List.replicate n (D.bl false)))] = some (.dat (.bl false), M) := by
  simp [anyG, blsOf_rep]
theorem plains_rep : ∀ {m n : Nat}, plains m (List.replicate n (D.bl v)) = true
  | m, 0 => by simp
  | m, n + 1 => by rw [List.replicate_succ, plains_cons, plains_rep]; simp
theorem sms_rep : ∀ {n : Nat}, sms (List.replicate n (D.bl v)) (List.replicate n (D.bl v)) = true
  | 0 => by simp
  | n + 1 => by rw [List.replicate_succ, sms_cons, sms_rep]; simp
theorem nll_rep {n m : Nat} (h : n = m) : cmpV .NotEq M (.dat (.lst (List.replicate n (D.bl v)))) (.dat (.lst (List.replicate m (D.bl v)))) = some false := by
  subst h
  rw [cmpV_nll, eqK_ll plains_rep plains_rep, sms_rep]; rfl
theorem inK_cons {e : D} : inK d (e :: ds) = (sm e d || inK d ds) := by unfold inK sm; rfl
theorem inK_nil : inK d [] = false := rfl
theorem keysZ_lim : ∀ (rows : List (Int × Str)) (i : Nat), ∀ p ∈ keysZ i rows, p.1 < ((i + rows.length : Nat) : Int) ∧ 0 ≤ p.2
  | [], _, p, h => by simp [keysZ] at h
  | r :: rows, i, p, h => by
    rw [keysZ] at h
    rcases List.mem_append.mp h with h | h
    · unfold keyRow at h
      obtain ⟨c, _, rfl⟩ := List.mem_map.mp h
      exact ⟨by simp only [List.length_cons]; omega, Int.natCast_nonneg _⟩
    · obtain ⟨h1, h2⟩ := keysZ_lim rows (i + 1) p h
      exact ⟨by rw [List.length_cons]; omega, h2⟩
theorem inK_no {a b : Int} : ∀ {l : List (Int × Int)}, (∀ p ∈ l, ¬ (p.1 = a ∧ p.2 = b)) → inK (.tup [.int a, .int b]) (l.map keyD) = false
  | [], _ => rfl
  | p :: l, h => by
    rw [List.map_cons, inK_cons, inK_no fun q hq => h q (List.mem_cons_of_mem _ hq), Bool.or_false]
    have := h p List.mem_cons_self
    unfold keyD
    rw [sm_tup, sms_cons, sms_cons, sms_nil, sm_int, sm_int, Bool.and_true]
    by_cases h1 : p.1 = a
    · have h2 : ¬ p.2 = b := fun e => this ⟨h1, e⟩
      simp [h1, h2]
    · simp [h1]
theorem keys_no {a b : Int} (hn : rows.length ≤ 4) (h : 4 ≤ a ∨ b < 0) : inK (.tup [.int a, .int b]) (keysF 0 rows) = false := by
  rw [keysF_z]
  refine inK_no fun p hp => ?_
  obtain ⟨h1, h2⟩ := keysZ_lim rows 0 p hp
  omega
/-! ### full boards -/
def oS (n : Nat) : Str := Txt.mul "o" (n : Int)
def fullR (a b : Nat) : List (Int × Str) := (List.range (a + 1)).map fun i : Nat => ((i : Int), oS (b + 1))
theorem full_fst : ∀ a : Nat, a < 4 → ∀ b : Nat, b < 4 → fstB ((a : Int) + 1) (fullR a b) 0 (fullR a b) = none := by decide +kernel
theorem full_keys : ∀ a : Nat, a < 4 → ∀ b : Nat, b < 4 → (keysF 0 (fullR a b)).length = (a + 1) * (b + 1) := by decide +kernel
theorem full_hd : ∀ a : Nat, a < 4 → ∀ b : Nat, b < 4 → (((fullR a b).map (·.2)).headD Str.empty).length = b + 1 := by decide +kernel
theorem full_len {a b : Nat} : (fullR a b).length = a + 1 := by unfold fullR; simp
theorem full_ok {a b : Nat} (ha : a < 4) (hb : b < 4) : BoardOk (1 + (a : Int)) (fullR a b) (b + 1) := by
  have h := fstB_ok (k := (a : Int) + 1) (rows := fullR a b) (by omega) (by omega) (by rw [full_len]; omega) (by rw [full_len]; omega) (full_fst a ha b hb)
  rw [full_hd a ha b hb] at h
  rw [Int.add_comm]
  exact h
end
end R

set_option Elab.async false
set_option linter.all false
set_option maxRecDepth 100000
set_option maxHeartbeats 4000000
namespace Pf
open PySem PySem.Spec PyProof.Rows L2 R
def top (i : Nat) : Stmt := PySem.Challenge.pw_feintkeys_k07_keys_in_boards.main.body.getD i (.Pass ⟨0, 0, 0, 0⟩)
-- printed by gen3.py
def catL : List (Nat × Bool) := [(12, true), (13, true), (18, true), (28, true), (29, true)]
abbrev s__law_start : Stmt := top 18
abbrev N__law_start : List Str := ["_law_script"]
abbrev P__law_start : List Str := ["_law_script"]
theorem sc__law_start : FnScope N__law_start P__law_start (defScope s__law_start) := ⟨rfl, rfl, rfl, by decide +kernel, rfl, by decide +kernel, by decide +kernel⟩
def b__law_start (C : Nat → Fn) : CS :=
  (sRet (eLst true (eCons (eOpT (pu (listG false)) (eCons (eSl (eVar 0) oNone (oSome (fun _ => ok (.dat (.int 63))))) eNil)) (eCons (fun _ => ok (.dat (.int 0))) (eCons (fun _ => ok (.dat (.int 0))) (eCons (fun _ => ok (.dat (.int 4912))) (eCons (fun _ => ok (.dat (.int 0))) eNil)))))))
abbrev s__law_draw : Stmt := top 19
abbrev N__law_draw : List Str := ["_law_hand", "_law_many", "_law_cell", "_law_digit", "_law_seed"]
abbrev P__law_draw : List Str := ["_law_hand", "_law_many"]
theorem sc__law_draw : FnScope N__law_draw P__law_draw (defScope s__law_draw) := ⟨rfl, rfl, rfl, by decide +kernel, rfl, by decide +kernel, by decide +kernel⟩
def b__law_draw (C : Nat → Fn) : CS :=
  (sSeq (sIf (tAnd (tVal (eOp2 (cmp .Eq) (eOp2 ixV (eVar 0) (fun _ => ok (.dat (.int 2)))) (fun _ => ok (.dat (.int 0))))) (tVal (eOp2 (cmp .Lt) (eOp2 ixV (eVar 0) (fun _ => ok (.dat (.int 1)))) (eOpT (lenG [(0, C 21)]) (eCons (eOp2 ixV (eVar 0) (fun _ => ok (.dat (.int 0)))) eNil))))) (sSeq (sSet 2 (eOp2 ixV (eOp2 ixV (eVar 0) (fun _ => ok (.dat (.int 0)))) (eOp2 ixV (eVar 0) (fun _ => ok (.dat (.int 1))))))
  (sSeq (sIx (eOp2 (bin .Add) (eOp2 ixV (eVar 0) (fun _ => ok (.dat (.int 1)))) (fun _ => ok (.dat (.int 1)))) (eVar 0) (fun _ => ok (.dat (.int 1))))
  (sIf (tVal (eOp2 (cmp .GtE) (eVar 2) (eOp2 (bin .Pow) (fun _ => ok (.dat (.int 10))) (fun _ => ok (.dat (.int 18)))))) (sIx (eVar 2) (eVar 0) (fun _ => ok (.dat (.int 2)))) (sIx (eOp2 (bin .Mod) (eOpT (pu intG) (eCons (eOp2 (bin .Add) (eOp2 (bin .Add) (eOp2 (bin .Mult) (eOp2 ixV (eVar 0) (fun _ => ok (.dat (.int 3)))) (fun _ => ok (.dat (.int 40961)))) (eOp2 (bin .Mult) (eOp2 (bin .Mod) (eOpT (pu intG) (eCons (eVar 2) eNil)) (fun _ => ok (.dat (.int 2147483549)))) (fun _ => ok (.dat (.int 28657))))) (fun _ => ok (.dat (.int 7)))) eNil)) (fun _ => ok (.dat (.int 2147483647)))) (eVar 0) (fun _ => ok (.dat (.int 3))))))) sNil)
  (sSeq (sIf (tVal (eOp2 (cmp .Gt) (eOp2 ixV (eVar 0) (fun _ => ok (.dat (.int 2)))) (fun _ => ok (.dat (.int 0))))) (sSeq (sSet 3 (eOp2 (bin .Mod) (eOpT (pu intG) (eCons (eOp2 ixV (eVar 0) (fun _ => ok (.dat (.int 2)))) eNil)) (eVar 1)))
  (sSeq (sIx (eOp2 (bin .FloorDiv) (eOp2 ixV (eVar 0) (fun _ => ok (.dat (.int 2)))) (eVar 1)) (eVar 0) (fun _ => ok (.dat (.int 2))))
  (sRet (eVar 3)))) sNil)
  (sSeq (sIx (eOp2 (bin .Add) (eOp2 ixV (eVar 0) (fun _ => ok (.dat (.int 4)))) (fun _ => ok (.dat (.int 1)))) (eVar 0) (fun _ => ok (.dat (.int 4))))
  (sSeq (sSet 4 (eOp2 ixV (eVar 0) (fun _ => ok (.dat (.int 3)))))
  (sSeq (sIx (eOp2 (bin .Mod) (eOpT (pu intG) (eCons (eOp2 (bin .Add) (eOp2 (bin .Add) (eOp2 (bin .Add) (eOp2 (bin .Mult) (eVar 4) (eVar 4)) (eOp2 (bin .Mult) (eVar 4) (fun _ => ok (.dat (.int 17389))))) (eOp2 (bin .Mult) (eOp2 ixV (eVar 0) (fun _ => ok (.dat (.int 4)))) (fun _ => ok (.dat (.int 611953))))) (fun _ => ok (.dat (.int 4099)))) eNil)) (fun _ => ok (.dat (.int 2147483647)))) (eVar 0) (fun _ => ok (.dat (.int 3))))
  (sRet (eOp2 (bin .Mod) (eOpT (pu intG) (eCons (eOp2 (bin .Add) (eOp2 (bin .FloorDiv) (eOp2 ixV (eVar 0) (fun _ => ok (.dat (.int 3)))) (fun _ => ok (.dat (.int 61)))) (eOp2 (bin .Mult) (eOp2 (bin .Mod) (eOpT (pu intG) (eCons (eOp2 ixV (eVar 0) (fun _ => ok (.dat (.int 3)))) eNil)) (fun _ => ok (.dat (.int 8191)))) (fun _ => ok (.dat (.int 37))))) eNil)) (eVar 1))))))))
abbrev s_Board_full : Stmt := inClass (top 16) 3
abbrev N_Board_full : List Str := ["height", "width", "row"]
abbrev P_Board_full : List Str := ["height", "width"]
theorem sc_Board_full : FnScope N_Board_full P_Board_full (defScope s_Board_full) := ⟨rfl, rfl, rfl, by decide +kernel, rfl, by decide +kernel, by decide +kernel⟩
def b_Board_full (C : Nat → Fn) : CS :=
  (sSeq (sExpr (eCall (C 3) (eCons (eVar 0) (eCons (fun _ => ok (.dat (.int 1))) (eCons (fun _ => ok (.dat (.int 4))) eNil)))))
  (sSeq (sExpr (eCall (C 3) (eCons (eVar 1) (eCons (fun _ => ok (.dat (.int 1))) (eCons (fun _ => ok (.dat (.int 4))) eNil)))))
  (sRet (eMake true 0 (C 4) (eCons (eVar 0) (eCons (eLc false [2] (iRg1 (eVar 0)) (gNm 2) tYesF (eTup (eCons (eVar 2) (eCons (eOp2 (bin .Mult) (fun _ => ok (.dat (.str "o"))) (eVar 1)) eNil)))) eNil))))))
abbrev s_check_number : Stmt := top 15
abbrev N_check_number : List Str := ["number", "least", "most"]
abbrev P_check_number : List Str := ["number", "least", "most"]
theorem sc_check_number : FnScope N_check_number P_check_number (defScope s_check_number) := ⟨rfl, rfl, rfl, by decide +kernel, rfl, by decide +kernel, by decide +kernel⟩
def b_check_number (C : Nat → Fn) : CS :=
  (sIf (tNot (tVal (chn .LtE .LtE (eVar 1) (eVar 0) (eVar 2)))) (sRaise 12 "BadNumber" "given" (eVar 0)) sNil)
abbrev s_Board___init__ : Stmt := inClass (top 16) 1
abbrev N_Board___init__ : List Str := ["self", "ticks", "rows", "at", "place", "signs", "early", "other", "good", "sign", "shown", "row", "column"]
abbrev P_Board___init__ : List Str := ["self", "ticks", "rows"]
theorem sc_Board___init__ : FnScope N_Board___init__ P_Board___init__ (defScope s_Board___init__) := ⟨rfl, rfl, rfl, by decide +kernel, rfl, by decide +kernel, by decide +kernel⟩
def b_Board___init__ (C : Nat → Fn) : CS :=
  (sSeq (sExpr (eCall (C 3) (eCons (eVar 1) (eCons (fun _ => ok (.dat (.int 1))) (eCons (fun _ => ok (.dat (.int 6))) eNil)))))
  (sSeq (sIf (tNot (tVal (chn .LtE .LtE (fun _ => ok (.dat (.int 1))) (eOpT (lenG [(0, C 21)]) (eCons (eVar 2) eNil)) (fun _ => ok (.dat (.int 4)))))) (sRaise 18 "BadRow" "at" (eOp1 negD (fun _ => ok (.dat (.int 1))))) sNil)
  (sSeq (sFor (iEn (eVar 2)) (gTp 2 (gsCons (gNm 3) (gsCons (gTp 2 (gsCons (gNm 4) (gsCons (gNm 5) gsNil))) gsNil))) (sFgt [3, 4, 5, 8] (sSeq (sIf (tOr (tNot (tVal (chn .LtE .Lt (fun _ => ok (.dat (.int 0))) (eVar 4) (eVar 1)))) (tVal (eOp2 (cmp .In) (eVar 4) (eLc false [6, 7] (iVal (eSl (eVar 2) oNone (oSome (eVar 3)))) (gTp 2 (gsCons (gNm 6) (gsCons (gNm 7) gsNil))) tYesF (eVar 6))))) (sRaise 18 "BadRow" "at" (eVar 3)) sNil)
  (sSeq (sSet 8 (eAnd (chn .LtE .LtE (fun _ => ok (.dat (.int 1))) (eOpT (lenG [(0, C 21)]) (eCons (eVar 5) eNil)) (fun _ => ok (.dat (.int 4)))) (eOpT (pu (anyG true)) (eCons (eLc false [9] (iVal (eVar 5)) (gNm 9) tYesF (eOp2 (cmp .In) (eVar 9) (fun _ => ok (.dat (.str ".o><"))))) eNil))))
  (sIf (tOr (tNot (tVal (eVar 8))) (tVal (eOp2 (cmp .NotEq) (eOpT (lenG [(0, C 21)]) (eCons (eVar 5) eNil)) (eOpT (lenG [(0, C 21)]) (eCons (eOp2 ixV (eOp2 ixV (eVar 2) (fun _ => ok (.dat (.int 0)))) (fun _ => ok (.dat (.int 1)))) eNil))))) (sRaise 18 "BadRow" "at" (eVar 3)) sNil)))))
  (sSeq (sFld "own_ticks" [0] (eVar 1) (eVar 0))
  (sSeq (sFld "own_places" [0] (eLc false [4, 5] (iVal (eVar 2)) (gTp 2 (gsCons (gNm 4) (gsCons (gNm 5) gsNil))) tYesF (eVar 4)) (eVar 0))
  (sSeq (sFld "own_signs" [0] (eLc false [4, 5] (iVal (eVar 2)) (gTp 2 (gsCons (gNm 4) (gsCons (gNm 5) gsNil))) tYesF (eVar 5)) (eVar 0))
  (sSeq (sSet 10 (eLc false [4, 5] (iVal (eVar 2)) (gTp 2 (gsCons (gNm 4) (gsCons (gNm 5) gsNil))) tYesF (jsL [(eOp1 fmtV (eVar 4)), (fun _ => ok (.dat (.str " "))), (eOp1 fmtV (eVar 5))] Str.empty)))
  (sSeq (sFld "own_text" [0] (jsL [(eOp1 fmtV (eVar 1)), (fun _ => ok (.dat (.str ": "))), (eOp1 fmtV (eJoin (fun _ => ok (.dat (.str " / "))) (eVar 10)))] Str.empty) (eVar 0))
  (sFld "own_keys" [0] (eLc2 false [11, 5, 12, 9] (iEn (eFld "own_signs" [0] (eVar 0))) (gTp 2 (gsCons (gNm 11) (gsCons (gNm 5) gsNil))) tYesF (iEn (eVar 5)) [12, 9] (gTp 2 (gsCons (gNm 12) (gsCons (gNm 9) gsNil))) (tVal (eOp2 (cmp .NotEq) (eVar 9) (fun _ => ok (.dat (.str "."))))) (eTup (eCons (eVar 11) (eCons (eVar 12) eNil)))) (eVar 0))))))))))
abbrev s__law_pick : Stmt := top 20
abbrev N__law_pick : List Str := ["_law_hand", "_law_things"]
abbrev P__law_pick : List Str := ["_law_hand", "_law_things"]
theorem sc__law_pick : FnScope N__law_pick P__law_pick (defScope s__law_pick) := ⟨rfl, rfl, rfl, by decide +kernel, rfl, by decide +kernel, by decide +kernel⟩
def b__law_pick (C : Nat → Fn) : CS :=
  (sRet (eOp2 ixV (eVar 1) (eCall (C 1) (eCons (eVar 0) (eCons (eOpT (lenG [(0, C 21)]) (eCons (eVar 1) eNil)) eNil)))))
abbrev s__law_plan : Stmt := top 26
abbrev N__law_plan : List Str := ["_law_hand", "_law_high", "_law_wide", "_law_most", "_law_longest", "_law_height", "_law_width_z", "_law_ticks", "_law_places", "_law_left", "_law_rows", "_law_row", "_law_signs", "_law_column", "_law_sign"]
abbrev P__law_plan : List Str := ["_law_hand", "_law_high", "_law_wide", "_law_most", "_law_longest"]
theorem sc__law_plan : FnScope N__law_plan P__law_plan (defScope s__law_plan) := ⟨rfl, rfl, rfl, by decide +kernel, rfl, by decide +kernel, by decide +kernel⟩
def b__law_plan (C : Nat → Fn) : CS :=
  (sSeq (sPar2 5 6 (eOp2 (bin .Add) (fun _ => ok (.dat (.int 1))) (eCall (C 1) (eCons (eVar 0) (eCons (eVar 1) eNil)))) (eOp2 (bin .Add) (fun _ => ok (.dat (.int 1))) (eCall (C 1) (eCons (eVar 0) (eCons (eVar 2) eNil)))))
  (sSeq (sSet 7 (eOp2 (bin .Add) (eVar 5) (eCall (C 1) (eCons (eVar 0) (eCons (eOpT (pu max2G) (eCons (fun _ => ok (.dat (.int 1))) (eCons (eOp2 (bin .Sub) (eOp2 (bin .Add) (eVar 4) (fun _ => ok (.dat (.int 1)))) (eVar 5)) eNil))) eNil)))))
  (sSeq (sSet 8 (eCall (C 7) (eCons (eVar 0) (eCons (eOp1 (lrgG false) (eVar 7)) eNil))))
  (sSeq (sPar2 9 10 (eVar 3) (eLst true eNil))
  (sSeq (sFor (iRg1 (eVar 5)) (gNm 11) (sFgt [11, 12, 13, 14] (sSeq (sSet 12 (fun _ => ok (.dat (.str ""))))
  (sSeq (sFor (iRg1 (eVar 6)) (gNm 13) (sFgt [13, 14] (sSeq (sSet 14 (eIf (tVal (eOp2 (cmp .Gt) (eVar 9) (fun _ => ok (.dat (.int 0))))) (eCall (C 5) (eCons (eVar 0) (eCons (eLst false (eCons (fun _ => ok (.dat (.str "o"))) (eCons (fun _ => ok (.dat (.str "o"))) (eCons (fun _ => ok (.dat (.str "o"))) (eCons (fun _ => ok (.dat (.str "o"))) (eCons (fun _ => ok (.dat (.str ">"))) (eCons (fun _ => ok (.dat (.str "<"))) (eCons (fun _ => ok (.dat (.str "."))) eNil)))))))) eNil))) (fun _ => ok (.dat (.str ".")))))
  (sSeq (sSet 9 (eOp2 (bin .Sub) (eVar 9) (eOpT (pu intG) (eCons (eOp2 (cmp .NotEq) (eVar 14) (fun _ => ok (.dat (.str ".")))) eNil))))
  (sSet 12 (eOp2 (bin .Add) (eVar 12) (eVar 14)))))))
  (sExpr (eApp (eVar 10) (eTup (eCons (eOp2 ixV (eVar 8) (eVar 11)) (eCons (eVar 12) eNil)))))))))
  (sRet (eTup (eCons (eVar 7) (eCons (eVar 10) eNil)))))))))
abbrev s__law_mixed : Stmt := top 21
abbrev N__law_mixed : List Str := ["_law_hand", "_law_things", "_law_found", "_law_thing"]
abbrev P__law_mixed : List Str := ["_law_hand", "_law_things"]
theorem sc__law_mixed : FnScope N__law_mixed P__law_mixed (defScope s__law_mixed) := ⟨rfl, rfl, rfl, by decide +kernel, rfl, by decide +kernel, by decide +kernel⟩
def b__law_mixed (C : Nat → Fn) : CS :=
  (sSeq (sSet 2 (eLst true eNil))
  (sSeq (sFor (iVal (eVar 1)) (gNm 3) (sFgt [3] (sExpr (eIns (eVar 2) (eCall (C 1) (eCons (eVar 0) (eCons (eOp2 (bin .Add) (eOpT (lenG [(0, C 21)]) (eCons (eVar 2) eNil)) (fun _ => ok (.dat (.int 1)))) eNil))) (eVar 3)))))
  (sRet (eVar 2))))
abbrev s__law_made : Stmt := top 27
abbrev N__law_made : List Str := ["_law_plan_here"]
abbrev P__law_made : List Str := ["_law_plan_here"]
theorem sc__law_made : FnScope N__law_made P__law_made (defScope s__law_made) := ⟨rfl, rfl, rfl, by decide +kernel, rfl, by decide +kernel, by decide +kernel⟩
def b__law_made (C : Nat → Fn) : CS :=
  (sRet (eMake true 0 (C 4) (eCons (eOp2 ixV (eVar 0) (fun _ => ok (.dat (.int 0)))) (eCons (eOp2 ixV (eVar 0) (fun _ => ok (.dat (.int 1)))) eNil))))
abbrev s__law_keys : Stmt := top 28
abbrev N__law_keys : List Str := ["_law_plan_here", "_law_found", "_law_row", "_law_signs", "_law_column"]
abbrev P__law_keys : List Str := ["_law_plan_here"]
theorem sc__law_keys : FnScope N__law_keys P__law_keys (defScope s__law_keys) := ⟨rfl, rfl, rfl, by decide +kernel, rfl, by decide +kernel, by decide +kernel⟩
def b__law_keys (C : Nat → Fn) : CS :=
  (sSeq (sSet 1 (eLst false eNil))
  (sSeq (sFor (iRg1 (eOpT (lenG [(0, C 21)]) (eCons (eOp2 ixV (eVar 0) (fun _ => ok (.dat (.int 1)))) eNil))) (gNm 2) (sFgt [2, 3] (sSeq (sSet 3 (eOp2 ixV (eOp2 ixV (eOp2 ixV (eVar 0) (fun _ => ok (.dat (.int 1)))) (eVar 2)) (fun _ => ok (.dat (.int 1)))))
  (sSet 1 (eOp2 (bin .Add) (eVar 1) (eLc false [4] (iRg1 (eOpT (lenG [(0, C 21)]) (eCons (eVar 3) eNil))) (gNm 4) (tVal (eOp2 (cmp .NotEq) (eOp2 ixV (eVar 3) (eVar 4)) (fun _ => ok (.dat (.str "."))))) (eTup (eCons (eVar 2) (eCons (eVar 4) eNil)))))))))
  (sRet (eVar 1))))
abbrev s_Board_width : Stmt := inClass (top 16) 6
abbrev N_Board_width : List Str := ["self"]
abbrev P_Board_width : List Str := ["self"]
theorem sc_Board_width : FnScope N_Board_width P_Board_width (defScope s_Board_width) := ⟨rfl, rfl, rfl, by decide +kernel, rfl, by decide +kernel, by decide +kernel⟩
def b_Board_width (C : Nat → Fn) : CS :=
  (sRet (eOpT (lenG [(0, C 21)]) (eCons (eOp2 ixV (eFld "own_signs" [0] (eVar 0)) (fun _ => ok (.dat (.int 0)))) eNil)))
abbrev s_Board_height : Stmt := inClass (top 16) 5
abbrev N_Board_height : List Str := ["self"]
abbrev P_Board_height : List Str := ["self"]
theorem sc_Board_height : FnScope N_Board_height P_Board_height (defScope s_Board_height) := ⟨rfl, rfl, rfl, by decide +kernel, rfl, by decide +kernel, by decide +kernel⟩
def b_Board_height (C : Nat → Fn) : CS :=
  (sRet (eOpT (lenG [(0, C 21)]) (eCons (eFld "own_signs" [0] (eVar 0)) eNil)))
abbrev s__law_tries : Stmt := top 25
abbrev N__law_tries : List Str := ["_law_asks", "_law_ask"]
abbrev P__law_tries : List Str := ["_law_asks"]
theorem sc__law_tries : FnScope N__law_tries P__law_tries (defScope s__law_tries) := ⟨rfl, rfl, rfl, by decide +kernel, rfl, by decide +kernel, by decide +kernel⟩
def b__law_tries (C : Nat → Fn) : CS :=
  (sRet (eLc false [1] (iVal (eVar 0)) (gNm 1) tYesF (eCall (C 13) (eCons (eVar 1) eNil))))
abbrev s__law_try : Stmt := top 24
abbrev N__law_try : List Str := ["_law_ask", "_law_e"]
abbrev P__law_try : List Str := ["_law_ask"]
theorem sc__law_try : FnScope N__law_try P__law_try (defScope s__law_try) := ⟨rfl, rfl, rfl, by decide +kernel, rfl, by decide +kernel, by decide +kernel⟩
def b__law_try (C : Nat → Fn) : CS :=
  (sTry (sRet (eTup (eCons (fun _ => ok (.dat (.str ""))) (eCons (eCallV (lamTb C 23 2) (eVar 0)) eNil)))) 2 1 (catO catL) (sRet (eOp2 (bin .Add) (eTup (eCons (eFldX "code" [12, 13, 18, 28, 29] (eVar 1)) eNil)) (eCall (C 14) (eCons (eVar 1) eNil)))))
abbrev s__law_fields : Stmt := top 23
abbrev N__law_fields : List Str := ["_law_e"]
abbrev P__law_fields : List Str := ["_law_e"]
theorem sc__law_fields : FnScope N__law_fields P__law_fields (defScope s__law_fields) := ⟨rfl, rfl, rfl, by decide +kernel, rfl, by decide +kernel, by decide +kernel⟩
def b__law_fields (C : Nat → Fn) : CS :=
  (sSeq (sIf (tVal (eOp2 (cmp .In) (eFldX "code" [12, 13, 18, 28, 29] (eVar 0)) (eTup (eCons (fun _ => ok (.dat (.str "BadNumber"))) (eCons (fun _ => ok (.dat (.str "BadText"))) (eCons (fun _ => ok (.dat (.str "BadKey"))) (eCons (fun _ => ok (.dat (.str "BadWord"))) (eCons (fun _ => ok (.dat (.str "BadLook"))) (eCons (fun _ => ok (.dat (.str "BadState"))) (eCons (fun _ => ok (.dat (.str "BadLimit"))) eNil)))))))))) (sRet (eTup (eCons (eFldX "given" [12, 13] (eVar 0)) eNil))) sNil)
  (sSeq (sIf (tVal (eOp2 (cmp .In) (eFldX "code" [12, 13, 18, 28, 29] (eVar 0)) (eTup (eCons (fun _ => ok (.dat (.str "BadRow"))) (eCons (fun _ => ok (.dat (.str "BadCommand"))) eNil))))) (sRet (eTup (eCons (eFldX "at" [18] (eVar 0)) eNil))) sNil)
  (sSeq (sIf (tVal (eOp2 (cmp .In) (eFldX "code" [12, 13, 18, 28, 29] (eVar 0)) (eTup (eCons (fun _ => ok (.dat (.str "TooWide"))) (eCons (fun _ => ok (.dat (.str "Full"))) eNil))))) (sRet (eTup (eCons (eFldX "most" [] (eVar 0)) eNil))) sNil)
  (sSeq (sIf (tVal (eOp2 (cmp .In) (eFldX "code" [12, 13, 18, 28, 29] (eVar 0)) (eTup (eCons (fun _ => ok (.dat (.str "TooSoon"))) (eCons (fun _ => ok (.dat (.str "Steady"))) eNil))))) (sRet (eTup (eCons (eFldX "key" [] (eVar 0)) eNil))) sNil)
  (sRet (eIf (tVal (eOp2 (cmp .In) (eFldX "code" [12, 13, 18, 28, 29] (eVar 0)) (eTup (eCons (fun _ => ok (.dat (.str "BadName"))) (eCons (fun _ => ok (.dat (.str "TakenName"))) (eCons (fun _ => ok (.dat (.str "NoName"))) eNil)))))) (eTup (eCons (eFldX "name" [28] (eVar 0)) eNil)) (eTup eNil)))))))
abbrev s__law_like : Stmt := top 22
abbrev N__law_like : List Str := ["_law_found", "_law_due", "_law_k"]
abbrev P__law_like : List Str := ["_law_found", "_law_due"]
theorem sc__law_like : FnScope N__law_like P__law_like (defScope s__law_like) := ⟨rfl, rfl, rfl, by decide +kernel, rfl, by decide +kernel, by decide +kernel⟩
def b__law_like (C : Nat → Fn) : CS :=
  (sSeq (sIf (tOr (tVal (eOp2 (cmp .Is) (eVar 0) (fun _ => ok (.dat .non)))) (tVal (eOp2 (cmp .Is) (eVar 1) (fun _ => ok (.dat .non))))) (sRet (eAnd (eOp2 (cmp .Is) (eVar 0) (fun _ => ok (.dat .non))) (eOp2 (cmp .Is) (eVar 1) (fun _ => ok (.dat .non))))) sNil)
  (sSeq (sIf (tVal (eOp1 (isiT ["list", "tuple"]) (eVar 1))) (sSeq (sIf (tOr (tVal (eOp2 (cmp .NotEq) (eOp1 (isiT ["list"]) (eVar 0)) (eOp1 (isiT ["list"]) (eVar 1)))) (tVal (eOp2 (cmp .NotEq) (eOp1 (isiT ["tuple"]) (eVar 0)) (eOp1 (isiT ["tuple"]) (eVar 1))))) (sRet (fun _ => ok (.dat (.bl false)))) sNil)
  (sRet (eAnd (eOp2 (cmp .Eq) (eOpT (lenG [(0, C 21)]) (eCons (eVar 0) eNil)) (eOpT (lenG [(0, C 21)]) (eCons (eVar 1) eNil))) (eOpT (pu (anyG true)) (eCons (eLc false [2] (iRg1 (eOpT (lenG [(0, C 21)]) (eCons (eVar 1) eNil))) (gNm 2) tYesF (eCall (C 15) (eCons (eOp2 ixV (eVar 0) (eVar 2)) (eCons (eOp2 ixV (eVar 1) (eVar 2)) eNil)))) eNil))))) sNil)
  (sSeq (sIf (tOr (tVal (eOp2 (cmp .NotEq) (eOp1 (isiT ["bool"]) (eVar 0)) (eOp1 (isiT ["bool"]) (eVar 1)))) (tVal (eOp2 (cmp .NotEq) (eOp1 (isiT ["int"]) (eVar 0)) (eOp1 (isiT ["int"]) (eVar 1))))) (sRet (fun _ => ok (.dat (.bl false)))) sNil)
  (sRet (eAnd (eOp2 (cmp .Eq) (eOp1 (isiT ["str"]) (eVar 0)) (eOp1 (isiT ["str"]) (eVar 1))) (eOp2 (cmp .Eq) (eVar 0) (eVar 1)))))))
abbrev s__law_odd_values : Stmt := top 29
abbrev N__law_odd_values : List Str := []
abbrev P__law_odd_values : List Str := []
theorem sc__law_odd_values : FnScope N__law_odd_values P__law_odd_values (defScope s__law_odd_values) := ⟨rfl, rfl, rfl, by decide +kernel, rfl, by decide +kernel, by decide +kernel⟩
def b__law_odd_values (C : Nat → Fn) : CS :=
  (sRet (eLst false (eCons (fun _ => ok (.dat .non)) (eCons (fun _ => ok (.dat (.bl true))) (eCons (fun _ => ok (.dat (.int 3))) (eCons (fun _ => ok (.dat (.str ""))) (eCons (fun _ => ok (.dat (.str "a"))) (eCons (eTup eNil) (eCons (eTup (eCons (fun _ => ok (.dat (.int 0))) eNil)) (eCons (eTup (eCons (fun _ => ok (.dat (.int 0))) (eCons (fun _ => ok (.dat (.int 0))) (eCons (fun _ => ok (.dat (.int 0))) eNil)))) (eCons (eLst false (eCons (fun _ => ok (.dat (.int 0))) (eCons (fun _ => ok (.dat (.int 0))) eNil))) (eCons (eTup (eCons (fun _ => ok (.dat (.int 0))) (eCons (fun _ => ok (.dat (.str "0"))) eNil))) (eCons (eTup (eCons (fun _ => ok (.dat .non)) (eCons (fun _ => ok (.dat (.int 0))) eNil))) (eCons (eTup (eCons (fun _ => ok (.dat (.int 9))) (eCons (fun _ => ok (.dat (.int 0))) eNil))) (eCons (eTup (eCons (fun _ => ok (.dat (.int 0))) (eCons (eOp1 negD (fun _ => ok (.dat (.int 1)))) eNil))) (eCons (eTup (eCons (eTup (eCons (fun _ => ok (.dat (.int 0))) (eCons (fun _ => ok (.dat (.int 0))) eNil))) (eCons (fun _ => ok (.dat (.int 0))) eNil))) (eCons (eTup (eCons (fun _ => ok (.dat (.bl true))) (eCons (fun _ => ok (.dat (.int 0))) eNil))) eNil)))))))))))))))))
abbrev s_Board___contains__ : Stmt := inClass (top 16) 21
abbrev N_Board___contains__ : List Str := ["self", "key"]
abbrev P_Board___contains__ : List Str := ["self", "key"]
theorem sc_Board___contains__ : FnScope N_Board___contains__ P_Board___contains__ (defScope s_Board___contains__) := ⟨rfl, rfl, rfl, by decide +kernel, rfl, by decide +kernel, by decide +kernel⟩
def b_Board___contains__ (C : Nat → Fn) : CS :=
  (sRet (eAnd (eCall (C 18) (eCons (eVar 1) eNil)) (eOp2 (cmp .In) (eVar 1) (eFld "own_keys" [0] (eVar 0)))))
abbrev s_is_pair : Stmt := top 14
abbrev N_is_pair : List Str := ["value"]
abbrev P_is_pair : List Str := ["value"]
theorem sc_is_pair : FnScope N_is_pair P_is_pair (defScope s_is_pair) := ⟨rfl, rfl, rfl, by decide +kernel, rfl, by decide +kernel, by decide +kernel⟩
def b_is_pair (C : Nat → Fn) : CS :=
  (sRet (eAnd (eOp1 (isiT ["tuple"]) (eVar 0)) (eAnd (eOp2 (cmp .Eq) (eOpT (lenG [(0, C 21)]) (eCons (eVar 0) eNil)) (fun _ => ok (.dat (.int 2)))) (eAnd (eCall (C 19) (eCons (eOp2 ixV (eVar 0) (fun _ => ok (.dat (.int 0)))) eNil)) (eCall (C 19) (eCons (eOp2 ixV (eVar 0) (fun _ => ok (.dat (.int 1)))) eNil))))))
abbrev s_is_number : Stmt := top 13
abbrev N_is_number : List Str := ["value"]
abbrev P_is_number : List Str := ["value"]
theorem sc_is_number : FnScope N_is_number P_is_number (defScope s_is_number) := ⟨rfl, rfl, rfl, by decide +kernel, rfl, by decide +kernel, by decide +kernel⟩
def b_is_number (C : Nat → Fn) : CS :=
  (sRet (eAnd (eOp1 (isiT ["int"]) (eVar 0)) (eNot (eOp1 (isiT ["bool"]) (eVar 0)))))
abbrev s_Board___eq__ : Stmt := inClass (top 16) 22
abbrev N_Board___eq__ : List Str := ["self", "other"]
abbrev P_Board___eq__ : List Str := ["self", "other"]
theorem sc_Board___eq__ : FnScope N_Board___eq__ P_Board___eq__ (defScope s_Board___eq__) := ⟨rfl, rfl, rfl, by decide +kernel, rfl, by decide +kernel, by decide +kernel⟩
def b_Board___eq__ (C : Nat → Fn) : CS :=
  (sRet (eAnd (eOp1 (isiC 0 [0]) (eVar 1)) (eOp2 (cmp .Eq) (eFld "own_text" [0] (eVar 0)) (eFld "own_text" [0] (eVar 1)))))
abbrev s_Board___len__ : Stmt := inClass (top 16) 23
abbrev N_Board___len__ : List Str := ["self"]
abbrev P_Board___len__ : List Str := ["self"]
theorem sc_Board___len__ : FnScope N_Board___len__ P_Board___len__ (defScope s_Board___len__) := ⟨rfl, rfl, rfl, by decide +kernel, rfl, by decide +kernel, by decide +kernel⟩
def b_Board___len__ (C : Nat → Fn) : CS :=
  (sRet (eOpT (lenG [(0, C 21)]) (eCons (eFld "own_keys" [0] (eVar 0)) eNil)))
abbrev s_Board___repr__ : Stmt := inClass (top 16) 24
abbrev N_Board___repr__ : List Str := ["self"]
abbrev P_Board___repr__ : List Str := ["self"]
theorem sc_Board___repr__ : FnScope N_Board___repr__ P_Board___repr__ (defScope s_Board___repr__) := ⟨rfl, rfl, rfl, by decide +kernel, rfl, by decide +kernel, by decide +kernel⟩
def b_Board___repr__ (C : Nat → Fn) : CS :=
  (sRet (jsL [(fun _ => ok (.dat (.str "Board("))), (eOp1 fmtV (ePro [(0, C 11)] (eVar 0))), (fun _ => ok (.dat (.str " by "))), (eOp1 fmtV (ePro [(0, C 10)] (eVar 0))), (fun _ => ok (.dat (.str ")")))] Str.empty))
abbrev s_law : Stmt := top 30
abbrev N_law : List Str := ["_law_script", "_law_hand", "_law_turn", "_law_plan_here", "_law_board", "_law_keys_here", "_law_row", "_law_column", "_law_odd", "_law_some", "_law_key", "_law_full", "_law_rows", "_law_wrong", "_law_asks"]
abbrev P_law : List Str := ["_law_script"]
theorem sc_law : FnScope N_law P_law (defScope s_law) := ⟨rfl, rfl, rfl, by decide +kernel, rfl, by decide +kernel, by decide +kernel⟩
def lamL : Nat → LamT
  | 0 => lamT "law.<locals>.<lambda>" ["_law_wrong"] [] [] (defBody s_law) [5] [0]
  | 1 => lamT "law.<locals>.<lambda>" ["_law_wrong"] ["_law_a"] [] (defBody s_law) [5] [1]
  | _ => ⟨Str.empty, defArgs s_law, nil0, defScope s_law, [], false, [], []⟩
def capL : List (List Nat) := [[13], [13]]
def b_law (C : Nat → Fn) : CS :=
  (sSeq (sSet 1 (eCall (C 0) (eCons (eVar 0) eNil)))
  (sSeq (sFor (iRg1 (fun _ => ok (.dat (.int 4)))) (gNm 2) (sCut (sFgt [2, 3, 4, 5, 6, 7, 9] (sSeq (sSet 3 (eCall (C 6) (eCons (eVar 1) (eCons (fun _ => ok (.dat (.int 4))) (eCons (fun _ => ok (.dat (.int 4))) (eCons (fun _ => ok (.dat (.int 16))) (eCons (fun _ => ok (.dat (.int 6))) eNil)))))))
  (sSeq (sTgt (gTp 2 (gsCons (gNm 4) (gsCons (gNm 5) gsNil))) (eTup (eCons (eCall (C 8) (eCons (eVar 3) eNil)) (eCons (eCall (C 9) (eCons (eVar 3) eNil)) eNil))))
  (sSeq (sFor (iRg1 (fun _ => ok (.dat (.int 5)))) (gNm 6) (sCut (sFgt [6, 7] (sFor (iRg1 (fun _ => ok (.dat (.int 5)))) (gNm 7) (sCut (sFgt [7] (sIf (tNot (tVal (eCall (C 15) (eCons (eOp2T (cmpG .In [(0, C 20)] [(0, C 17)]) (eTup (eCons (eVar 6) (eCons (eVar 7) eNil))) (eVar 4)) (eCons (eOp2 (cmp .In) (eTup (eCons (eVar 6) (eCons (eVar 7) eNil))) (eVar 5)) eNil))))) (sRet (fun _ => ok (.dat (.bl false)))) sNil)))))))
  (sSeq (sIf (tVal (eOpT (pu (anyG false)) (eCons (eLc false [8] (iVal (eCall0 (C 16))) (gNm 8) tYesF (eOp2T (cmpG .In [(0, C 20)] [(0, C 17)]) (eVar 8) (eVar 4))) eNil))) (sRet (fun _ => ok (.dat (.bl false)))) sNil)
  (sSeq (sSet 9 (eOp2 (bin .Add) (eLc false [10] (iVal (eVar 5)) (gNm 10) tYesF (eOp2T (cmpG .In [(0, C 20)] [(0, C 17)]) (eOpT (pu (listT false)) (eCons (eVar 10) eNil)) (eVar 4))) (eLc false [10] (iVal (eVar 5)) (gNm 10) tYesF (eOp2T (cmpG .In [(0, C 20)] [(0, C 17)]) (eOp2 (bin .Add) (eVar 10) (eTup (eCons (fun _ => ok (.dat (.int 0))) eNil))) (eVar 4)))))
  (sIf (tOr (tVal (eOp2 (cmp .NotEq) (eVar 9) (eOp2 (bin .Mult) (eLst false (eCons (fun _ => ok (.dat (.bl false))) eNil)) (eOp2 (bin .Mult) (fun _ => ok (.dat (.int 2))) (eOpT (lenG [(0, C 21)]) (eCons (eVar 5) eNil)))))) (tVal (eOp2 (cmp .NotEq) (eOpT (lenG [(0, C 21)]) (eCons (eVar 4) eNil)) (eOpT (lenG [(0, C 21)]) (eCons (eVar 5) eNil))))) (sRet (fun _ => ok (.dat (.bl false)))) sNil)))))))))
  (sSeq (sSet 11 (eCallK (C 2) [0] (eCons (eOp2 (bin .Add) (fun _ => ok (.dat (.int 1))) (eCall (C 1) (eCons (eVar 1) (eCons (fun _ => ok (.dat (.int 4))) eNil)))) eNil) (eCons (eOp2 (bin .Add) (fun _ => ok (.dat (.int 1))) (eCall (C 1) (eCons (eVar 1) (eCons (fun _ => ok (.dat (.int 4))) eNil)))) eNil)))
  (sSeq (sSet 12 (eLc false [6] (iRg1 (ePro [(0, C 11)] (eVar 11))) (gNm 6) tYesF (eTup (eCons (eVar 6) (eCons (eOp2 (bin .Mult) (fun _ => ok (.dat (.str "o"))) (ePro [(0, C 10)] (eVar 11))) eNil)))))
  (sSeq (sSet 13 (eCall (C 5) (eCons (eVar 1) (eCons (eLst false (eCons (fun _ => ok (.dat (.int 0))) (eCons (fun _ => ok (.dat (.int 5))) (eCons (eOp1 negD (fun _ => ok (.dat (.int 2)))) (eCons (eOp2 (bin .Pow) (fun _ => ok (.dat (.int 10))) (fun _ => ok (.dat (.int 10)))) eNil))))) eNil))))
  (sSeq (sSet 14 (eLst false (eCons (eLam 0 0) (eCons (eLam 0 1) eNil))))
  (sRet (eAnd (eOp2T (cmpG .Eq [(0, C 20)] [(0, C 17)]) (eVar 11) (eMake true 0 (C 4) (eCons (ePro [(0, C 11)] (eVar 11)) (eCons (eVar 12) eNil)))) (eAnd (eOp2 (cmp .Eq) (eOpT (lenG [(0, C 21)]) (eCons (eVar 11) eNil)) (eOp2 (bin .Mult) (ePro [(0, C 11)] (eVar 11)) (ePro [(0, C 10)] (eVar 11)))) (eOp2 (cmp .Eq) (eCallC (capO capL) (C 12) (eVar 14)) (eOp2 (bin .Mult) (eLst false (eCons (eTup (eCons (fun _ => ok (.dat (.str "BadNumber"))) (eCons (eVar 13) eNil))) eNil)) (fun _ => ok (.dat (.int 2))))))))))))))
def bl_0 (C : Nat → Fn) : CE :=
  (eCall (C 2) (eCons (eVar 0) (eCons (eOp2 (bin .Add) (eVar 0) (fun _ => ok (.dat (.int 1)))) eNil)))
def bl_1 (C : Nat → Fn) : CE :=
  (eCall (C 2) (eCons (fun _ => ok (.dat (.int 2))) (eCons (eVar 1) eNil)))
structure Prg [Keys] (C : Nat → Fn) (D : Wd) (k : Nat) : Prop where
  bis : Bis D.mg
  k1 : 1 ≤ k
  d_len : DunT D k "__len__" 1 [(0, C 21)]
  g_MOST_LINES : ∃ t, D.mg "MOST_LINES" = some (.int 4 t)
  c_check_number : CalF D k "check_number" 3 (C 3)
  n_check_number : ∀ {ss M Q}, wp (C 3 ss M) Q → ss.length = 3
  k_Board : MakF D k "Board" 0 3 (C 4)
  r_BadNumber : RaiF D "BadNumber" 12 "BadNumber" "given"
  g_MOST_TICKS : ∃ t, D.mg "MOST_TICKS" = some (.int 6 t)
  r_BadRow : RaiF D "BadRow" 18 "BadRow" "at"
  g_SIGNS : ∃ t, D.mg "SIGNS" = some (.str ".o><" t)
  f_own_ticks : ∀ c ∈ ([0] : List Nat), FAt D.K (cA D.K c) "own_ticks"
  f_own_places : ∀ c ∈ ([0] : List Nat), FAt D.K (cA D.K c) "own_places"
  f_own_signs : ∀ c ∈ ([0] : List Nat), FAt D.K (cA D.K c) "own_signs"
  f_own_text : ∀ c ∈ ([0] : List Nat), FAt D.K (cA D.K c) "own_text"
  f_own_keys : ∀ c ∈ ([0] : List Nat), FAt D.K (cA D.K c) "own_keys"
  c__law_draw : CalF D k "_law_draw" 2 (C 1)
  n__law_draw : ∀ {ss M Q}, wp (C 1 ss M) Q → ss.length = 2
  c__law_mixed : CalF D k "_law_mixed" 2 (C 7)
  n__law_mixed : ∀ {ss M Q}, wp (C 7 ss M) Q → ss.length = 2
  c__law_pick : CalF D k "_law_pick" 2 (C 5)
  n__law_pick : ∀ {ss M Q}, wp (C 5 ss M) Q → ss.length = 2
  c__law_try : CalF D k "_law_try" 1 (C 13)
  n__law_try : ∀ {ss M Q}, wp (C 13 ss M) Q → ss.length = 1
  gl_FeintError : D.mg "FeintError" = some (.ref (gA D.K "FeintError"))
  gl_NoName : D.mg "NoName" = some (.ref (gA D.K "NoName"))
  gl_NothingLeft : D.mg "NothingLeft" = some (.ref (gA D.K "NothingLeft"))
  cat : ∀ c b, catO catL c = some b → PySem.W.exmAny D.K (.ref (cA D.K c)) ((["FeintError", "NoName", "NothingLeft"] : List Str).map fun x => .ref (gA D.K x)) = some b
  lam : LamTb D k (lamTb C 23 2)
  cl__law_fields : CalL D k "_law_fields" 1 (C 14)
  n__law_fields : ∀ {ss M Q}, wp (C 14 ss M) Q → ss.length = 1
  x_code : ∀ c ∈ ([12, 13, 18, 28, 29] : List Nat), XfF D.K (cA D.K c) "code"
  x_given : ∀ c ∈ ([12, 13] : List Nat), XfF D.K (cA D.K c) "given"
  x_at : ∀ c ∈ ([18] : List Nat), XfF D.K (cA D.K c) "at"
  x_most : ∀ c ∈ ([] : List Nat), XfF D.K (cA D.K c) "most"
  x_key : ∀ c ∈ ([] : List Nat), XfF D.K (cA D.K c) "key"
  x_name : ∀ c ∈ ([28] : List Nat), XfF D.K (cA D.K c) "name"
  c__law_like : CalF D k "_law_like" 2 (C 15)
  n__law_like : ∀ {ss M Q}, wp (C 15 ss M) Q → ss.length = 2
  c_is_pair : CalF D k "is_pair" 1 (C 18)
  n_is_pair : ∀ {ss M Q}, wp (C 18 ss M) Q → ss.length = 1
  c_is_number : CalF D k "is_number" 1 (C 19)
  n_is_number : ∀ {ss M Q}, wp (C 19 ss M) Q → ss.length = 1
  i_Board : IsiF D "Board" 0 [0]
  p_height : ProT D k "height" [(0, C 11)]
  p_width : ProT D k "width" [(0, C 10)]
  c__law_start : CalF D k "_law_start" 1 (C 0)
  n__law_start : ∀ {ss M Q}, wp (C 0 ss M) Q → ss.length = 1
  c__law_plan : CalF D k "_law_plan" 5 (C 6)
  n__law_plan : ∀ {ss M Q}, wp (C 6 ss M) Q → ss.length = 5
  c__law_made : CalF D k "_law_made" 1 (C 8)
  n__law_made : ∀ {ss M Q}, wp (C 8 ss M) Q → ss.length = 1
  c__law_keys : CalF D k "_law_keys" 1 (C 9)
  n__law_keys : ∀ {ss M Q}, wp (C 9 ss M) Q → ss.length = 1
  d_eq : EqT D k [(0, C 20)]
  d_in : DunT D k "__contains__" 2 [(0, C 17)]
  c__law_odd_values : CalF D k "_law_odd_values" 0 (C 16)
  n__law_odd_values : ∀ {ss M Q}, wp (C 16 ss M) Q → ss.length = 0
  sk_Board_full_0 : StmK D k "Board" "full" 1 ["width"] [0] 2 (C 2)
  c__law_tries : CalF D k "_law_tries" 1 (C 12)
  n__law_tries : ∀ {ss M Q}, wp (C 12 ss M) Q → ss.length = 1
  st_Board_full : StmF D k "Board" "full" 2 (C 2)
section
variable [Keys]
theorem sb__law_start {C : Nat → Fn} {X : Cx} {W : WX} {k : Nat} (h : Cxf N__law_start (defScope s__law_start) (defScope s__law_start) X) (tk : Takes X W) (po : PassesOwn (model X.prog X.w) X.A X.env X.xe) (hr : Room (k + 1) X.A) (P : Prg C X.wd k) : SB X W (defBody s__law_start) (b__law_start C) := by
  have hf := h.v [("_law_script", 0)] (by decide +kernel); obtain ⟨hv0, -⟩ := hf; have hf := h.g ["list"] (by decide +kernel); obtain ⟨hg0, -⟩ := hf
  exact (sb_one (ss_ret (se_lst true (sa_cons (se_bt hg0 (P.bis.all "list" (by decide)) (by rfl) (by decide) (list_ok false) (sa_cons (se_slice (se_var hv0) so_none (so_some se_int)) sa_nil)) (sa_cons se_int (sa_cons se_int (sa_cons se_int (sa_cons se_int sa_nil))))))))
theorem sb__law_draw {C : Nat → Fn} {X : Cx} {W : WX} {k : Nat} (h : Cxf N__law_draw (defScope s__law_draw) (defScope s__law_draw) X) (tk : Takes X W) (po : PassesOwn (model X.prog X.w) X.A X.env X.xe) (hr : Room (k + 1) X.A) (P : Prg C X.wd k) : SB X W (defBody s__law_draw) (b__law_draw C) := by
  have hf := h.v [("_law_hand", 0), ("_law_cell", 2), ("_law_many", 1), ("_law_digit", 3), ("_law_seed", 4)] (by decide +kernel); obtain ⟨hv0, hv2, hv1, hv3, hv4, -⟩ := hf; have hf := h.l [("_law_cell", 2), ("_law_digit", 3), ("_law_seed", 4)] (by decide +kernel); obtain ⟨hl2, hl3, hl4, -⟩ := hf; have hf := h.g ["len", "int"] (by decide +kernel); obtain ⟨hg0, hg1, -⟩ := hf
  exact (sb_cons (ss_if (st_W (sw_and (st_cmp (hu hr) (se_ix (se_var hv0) se_int) se_int) (sw_one (st_cmp (hu hr) (se_ix (se_var hv0) se_int) (se_bi hg0 (P.bis.all "len" (by decide)) (by rfl) (by decide) (len_ok hr P.d_len) (sa_cons (se_ix (se_var hv0) se_int) sa_nil)))))) (sb_cons (ss_set hl2 (se_ix (se_ix (se_var hv0) se_int) (se_ix (se_var hv0) se_int)))
  (sb_cons (ss_ix (se_bin (se_ix (se_var hv0) se_int) se_int) (se_var hv0) se_int)
  (sb_one (ss_if (st_cmp (hu hr) (se_var hv2) (se_bin se_int se_int)) (sb_one (ss_ix (se_var hv2) (se_var hv0) se_int)) (sb_one (ss_ix (se_bin (se_bt hg1 (P.bis.all "int" (by decide)) (by rfl) (by decide) int_ok (sa_cons (se_bin (se_bin (se_bin (se_ix (se_var hv0) se_int) se_int) (se_bin (se_bin (se_bt hg1 (P.bis.all "int" (by decide)) (by rfl) (by decide) int_ok (sa_cons (se_var hv2) sa_nil)) se_int) se_int)) se_int) sa_nil)) se_int) (se_var hv0) se_int)))))) sb_nil)
  (sb_cons (ss_if (st_cmp (hu hr) (se_ix (se_var hv0) se_int) se_int) (sb_cons (ss_set hl3 (se_bin (se_bt hg1 (P.bis.all "int" (by decide)) (by rfl) (by decide) int_ok (sa_cons (se_ix (se_var hv0) se_int) sa_nil)) (se_var hv1)))
  (sb_cons (ss_ix (se_bin (se_ix (se_var hv0) se_int) (se_var hv1)) (se_var hv0) se_int)
  (sb_one (ss_ret (se_var hv3))))) sb_nil)
  (sb_cons (ss_ix (se_bin (se_ix (se_var hv0) se_int) se_int) (se_var hv0) se_int)
  (sb_cons (ss_set hl4 (se_ix (se_var hv0) se_int))
  (sb_cons (ss_ix (se_bin (se_bt hg1 (P.bis.all "int" (by decide)) (by rfl) (by decide) int_ok (sa_cons (se_bin (se_bin (se_bin (se_bin (se_var hv4) (se_var hv4)) (se_bin (se_var hv4) se_int)) (se_bin (se_ix (se_var hv0) se_int) se_int)) se_int) sa_nil)) se_int) (se_var hv0) se_int)
  (sb_one (ss_ret (se_bin (se_bt hg1 (P.bis.all "int" (by decide)) (by rfl) (by decide) int_ok (sa_cons (se_bin (se_bin (se_ix (se_var hv0) se_int) se_int) (se_bin (se_bin (se_bt hg1 (P.bis.all "int" (by decide)) (by rfl) (by decide) int_ok (sa_cons (se_ix (se_var hv0) se_int) sa_nil)) se_int) se_int)) sa_nil)) (se_var hv1)))))))))
theorem sb_Board_full {C : Nat → Fn} {X : Cx} {W : WX} {k : Nat} (h : Cxf N_Board_full (defScope s_Board_full) (defScope s_Board_full) X) (tk : Takes X W) (po : PassesOwn (model X.prog X.w) X.A X.env X.xe) (hr : Room (k + 1) X.A) (P : Prg C X.wd k) : SB X W (defBody s_Board_full) (b_Board_full C) := by
  have hf := h.v [("height", 0), ("width", 1)] (by decide +kernel); obtain ⟨hv0, hv1, -⟩ := hf; have hf := h.g ["MOST_LINES", "check_number", "range", "Board"] (by decide +kernel); obtain ⟨hg0, hg1, hg2, hg3, -⟩ := hf
  exact (sb_cons (ss_expr (se_call P.c_check_number P.n_check_number hr.dn hg1 tk (sa_cons (se_var hv0) (sa_cons se_int (sa_cons (se_gI' hg0 P.g_MOST_LINES) sa_nil)))))
  (sb_cons (ss_expr (se_call P.c_check_number P.n_check_number hr.dn hg1 tk (sa_cons (se_var hv1) (sa_cons se_int (sa_cons (se_gI' hg0 P.g_MOST_LINES) sa_nil)))))
  (sb_one (ss_ret (se_make true P.k_Board hr hg3 tk (sa_cons (se_var hv0) (sa_cons (se_lc (ts := [2]) (own := [("row", 2)]) false (si_rg1 hg2 (P.bis.all "range" (by decide)) (se_var hv0)) (fun _ _ _ _ _ => by refine cbGT h fun hb => ?_; have hf := hb.l [("row", 2)] (by decide +kernel); obtain ⟨hbl2, -⟩ := hf; exact (gt_nm hbl2)) (by decide) (fun _ _ _ _ _ => by refine cbSIf h fun hb => ?_; exact sif_nil) (fun _ _ _ _ _ => by refine cbSE h fun hb => ?_; have hf := hb.v [("row", 2), ("width", 1)] (by decide +kernel); obtain ⟨hbv2, hbv1, -⟩ := hf; exact (se_tup (sa_cons (se_var hbv2) (sa_cons (se_bin se_str (se_var hbv1)) sa_nil)))) h.calm (h.nd (by decide +kernel)) (blk_ok h (⟨by decide +kernel, by decide +kernel, by decide +kernel, by decide +kernel, by decide +kernel⟩))) sa_nil)))))))
theorem sb_check_number {C : Nat → Fn} {X : Cx} {W : WX} {k : Nat} (h : Cxf N_check_number (defScope s_check_number) (defScope s_check_number) X) (tk : Takes X W) (po : PassesOwn (model X.prog X.w) X.A X.env X.xe) (hr : Room (k + 1) X.A) (P : Prg C X.wd k) : SB X W (defBody s_check_number) (b_check_number C) := by
  have hf := h.v [("least", 1), ("number", 0), ("most", 2)] (by decide +kernel); obtain ⟨hv1, hv0, hv2, -⟩ := hf; have hf := h.g ["BadNumber"] (by decide +kernel); obtain ⟨hg0, -⟩ := hf
  exact (sb_one (ss_if (st_not (st_chain (hu hr) (se_var hv1) (se_var hv0) (se_var hv2))) (sb_one (ss_raise P.r_BadNumber h.calm tk hr P.k1 hg0 (se_var hv0))) sb_nil))
theorem sb_Board___init__ {C : Nat → Fn} {X : Cx} {W : WX} {k : Nat} (h : Cxf N_Board___init__ (defScope s_Board___init__) (defScope s_Board___init__) X) (tk : Takes X W) (po : PassesOwn (model X.prog X.w) X.A X.env X.xe) (hr : Room (k + 1) X.A) (P : Prg C X.wd k) : SB X W (defBody s_Board___init__) (b_Board___init__ C) := by
  have hf := h.v [("ticks", 1), ("rows", 2), ("place", 4), ("at", 3), ("signs", 5), ("good", 8), ("self", 0), ("shown", 10)] (by decide +kernel); obtain ⟨hv1, hv2, hv4, hv3, hv5, hv8, hv0, hv10, -⟩ := hf; have hf := h.l [("signs", 5), ("place", 4), ("at", 3), ("good", 8), ("shown", 10)] (by decide +kernel); obtain ⟨hl5, hl4, hl3, hl8, hl10, -⟩ := hf; have hf := h.g ["MOST_TICKS", "check_number", "len", "MOST_LINES", "BadRow", "enumerate", "all"] (by decide +kernel); obtain ⟨hg0, hg1, hg2, hg3, hg4, hg5, hg6, -⟩ := hf
  exact (sb_cons (ss_expr (se_call P.c_check_number P.n_check_number hr.dn hg1 tk (sa_cons (se_var hv1) (sa_cons se_int (sa_cons (se_gI' hg0 P.g_MOST_TICKS) sa_nil)))))
  (sb_cons (ss_if (st_not (st_chain (hu hr) se_int (se_bi hg2 (P.bis.all "len" (by decide)) (by rfl) (by decide) (len_ok hr P.d_len) (sa_cons (se_var hv2) sa_nil)) (se_gI' hg3 P.g_MOST_LINES))) (sb_one (ss_raise P.r_BadRow h.calm tk hr P.k1 hg4 (se_neg se_int))) sb_nil)
  (sb_cons (ss_for (si_en hg5 (P.bis.all "enumerate" (by decide)) (se_var hv2)) (gt_tp (gs_cons (gt_nm hl3) (gs_cons (gt_tp (gs_cons (gt_nm hl4) (gs_cons (gt_nm hl5) gs_nil)) h.calm) gs_nil)) h.calm) (sb_fgt [3, 4, 5, 8] (sb_cons (ss_if (st_W (sw_or (st_not (st_chain (hu hr) se_int (se_var hv4) (se_var hv1))) (sw_one (st_cmp (hu hr) (se_var hv4) (se_lc (ts := [6, 7]) (own := [("early", 6), ("other", 7)]) false (si_val (se_slice (se_var hv2) so_none (so_some (se_var hv3)))) (fun _ _ _ _ _ => by refine cbGT h fun hb => ?_; have hf := hb.l [("other", 7), ("early", 6)] (by decide +kernel); obtain ⟨hbl7, hbl6, -⟩ := hf; exact (gt_tp (gs_cons (gt_nm hbl6) (gs_cons (gt_nm hbl7) gs_nil)) hb.calm)) (by decide) (fun _ _ _ _ _ => by refine cbSIf h fun hb => ?_; exact sif_nil) (fun _ _ _ _ _ => by refine cbSE h fun hb => ?_; have hf := hb.v [("early", 6)] (by decide +kernel); obtain ⟨hbv6, -⟩ := hf; exact (se_var hbv6)) h.calm (h.nd (by decide +kernel)) (blk_ok h (⟨by decide +kernel, by decide +kernel, by decide +kernel, by decide +kernel, by decide +kernel⟩))))))) (sb_one (ss_raise P.r_BadRow h.calm tk hr P.k1 hg4 (se_var hv3))) sb_nil)
  (sb_cons (ss_set hl8 (se_and (se_chain (hu hr) se_int (se_bi hg2 (P.bis.all "len" (by decide)) (by rfl) (by decide) (len_ok hr P.d_len) (sa_cons (se_var hv5) sa_nil)) (se_gI' hg3 P.g_MOST_LINES)) (se_one (se_bi hg6 (P.bis.all "all" (by decide)) (by rfl) (by decide) (all_ok h.calm) (sa_cons (se_lc (ts := [9]) (own := [("sign", 9)]) false (si_val (se_var hv5)) (fun _ _ _ _ _ => by refine cbGT h fun hb => ?_; have hf := hb.l [("sign", 9)] (by decide +kernel); obtain ⟨hbl9, -⟩ := hf; exact (gt_nm hbl9)) (by decide) (fun _ _ _ _ _ => by refine cbSIf h fun hb => ?_; exact sif_nil) (fun _ _ _ _ _ => by refine cbSE h fun hb => ?_; have hf := hb.v [("sign", 9)] (by decide +kernel); obtain ⟨hbv9, -⟩ := hf; have hf := hb.g ["SIGNS"] (by decide +kernel); obtain ⟨hbg0, -⟩ := hf; exact (se_cmp (hu hr) (se_var hbv9) (se_gS' hbg0 P.g_SIGNS))) h.calm (h.nd (by decide +kernel)) (blk_ok h (⟨by decide +kernel, by decide +kernel, by decide +kernel, by decide +kernel, by decide +kernel⟩))) sa_nil)))))
  (sb_one (ss_if (st_W (sw_or (st_not (st_val (se_var hv8))) (sw_one (st_cmp (hu hr) (se_bi hg2 (P.bis.all "len" (by decide)) (by rfl) (by decide) (len_ok hr P.d_len) (sa_cons (se_var hv5) sa_nil)) (se_bi hg2 (P.bis.all "len" (by decide)) (by rfl) (by decide) (len_ok hr P.d_len) (sa_cons (se_ix (se_ix (se_var hv2) se_int) se_int) sa_nil)))))) (sb_one (ss_raise P.r_BadRow h.calm tk hr P.k1 hg4 (se_var hv3))) sb_nil))))) po h.calm)
  (sb_cons (ss_fld P.f_own_ticks (se_var hv1) (se_var hv0))
  (sb_cons (ss_fld P.f_own_places (se_lc (ts := [4, 5]) (own := [("place", 4), ("signs", 5)]) false (si_val (se_var hv2)) (fun _ _ _ _ _ => by refine cbGT h fun hb => ?_; have hf := hb.l [("signs", 5), ("place", 4)] (by decide +kernel); obtain ⟨hbl5, hbl4, -⟩ := hf; exact (gt_tp (gs_cons (gt_nm hbl4) (gs_cons (gt_nm hbl5) gs_nil)) hb.calm)) (by decide) (fun _ _ _ _ _ => by refine cbSIf h fun hb => ?_; exact sif_nil) (fun _ _ _ _ _ => by refine cbSE h fun hb => ?_; have hf := hb.v [("place", 4)] (by decide +kernel); obtain ⟨hbv4, -⟩ := hf; exact (se_var hbv4)) h.calm (h.nd (by decide +kernel)) (blk_ok h (⟨by decide +kernel, by decide +kernel, by decide +kernel, by decide +kernel, by decide +kernel⟩))) (se_var hv0))
  (sb_cons (ss_fld P.f_own_signs (se_lc (ts := [4, 5]) (own := [("place", 4), ("signs", 5)]) false (si_val (se_var hv2)) (fun _ _ _ _ _ => by refine cbGT h fun hb => ?_; have hf := hb.l [("signs", 5), ("place", 4)] (by decide +kernel); obtain ⟨hbl5, hbl4, -⟩ := hf; exact (gt_tp (gs_cons (gt_nm hbl4) (gs_cons (gt_nm hbl5) gs_nil)) hb.calm)) (by decide) (fun _ _ _ _ _ => by refine cbSIf h fun hb => ?_; exact sif_nil) (fun _ _ _ _ _ => by refine cbSE h fun hb => ?_; have hf := hb.v [("signs", 5)] (by decide +kernel); obtain ⟨hbv5, -⟩ := hf; exact (se_var hbv5)) h.calm (h.nd (by decide +kernel)) (blk_ok h (⟨by decide +kernel, by decide +kernel, by decide +kernel, by decide +kernel, by decide +kernel⟩))) (se_var hv0))
  (sb_cons (ss_setLc (ts := [4, 5]) (own := [("place", 4), ("signs", 5)]) false hl10 (h.loc (by decide +kernel)) (si_val (se_var hv2)) (fun _ _ _ _ _ => by refine cbGT h fun hb => ?_; have hf := hb.l [("signs", 5), ("place", 4)] (by decide +kernel); obtain ⟨hbl5, hbl4, -⟩ := hf; exact (gt_tp (gs_cons (gt_nm hbl4) (gs_cons (gt_nm hbl5) gs_nil)) hb.calm)) (by decide) (fun _ _ _ _ _ => by refine cbSIf h fun hb => ?_; exact sif_nil) (fun _ _ _ _ _ => by refine cbSE h fun hb => ?_; have hf := hb.v [("place", 4), ("signs", 5)] (by decide +kernel); obtain ⟨hbv4, hbv5, -⟩ := hf; exact (se_js (SEs.cons (se_fmt (se_var hbv4)) (SEs.cons se_str (SEs.cons (se_fmt (se_var hbv5)) SEs.nil))))) h.calm (blk_ok h (⟨by decide +kernel, by decide +kernel, by decide +kernel, by decide +kernel, by decide +kernel⟩)) (h.sw2 (by intro V hV; obtain ⟨⟩ := V; cases hV; rfl)))
  (sb_cons (ss_fld P.f_own_text (se_js (SEs.cons (se_fmt (se_var hv1)) (SEs.cons se_str (SEs.cons (se_fmt (se_join se_str (se_var hv10))) SEs.nil)))) (se_var hv0))
  (sb_one (ss_fld P.f_own_keys (se_lc2 (ts := [11, 5]) (ts1 := [12, 9]) (own := [("row", 11), ("signs", 5), ("column", 12), ("sign", 9)]) (vs1 := [12, 9]) false (si_en hg5 (P.bis.all "enumerate" (by decide)) (se_fld P.f_own_signs (se_var hv0))) (fun _ _ _ _ _ => by refine cbGT h fun hb => ?_; have hf := hb.l [("signs", 5), ("row", 11)] (by decide +kernel); obtain ⟨hbl5, hbl11, -⟩ := hf; exact (gt_tp (gs_cons (gt_nm hbl11) (gs_cons (gt_nm hbl5) gs_nil)) hb.calm)) (by decide) (fun _ _ _ _ _ => by refine cbSIf h fun hb => ?_; exact sif_nil) (fun _ _ _ _ _ => by refine cbSI h fun hb => ?_; have hf := hb.v [("signs", 5)] (by decide +kernel); obtain ⟨hbv5, -⟩ := hf; have hf := hb.g ["enumerate"] (by decide +kernel); obtain ⟨hbg0, -⟩ := hf; exact (si_en hbg0 (P.bis.all "enumerate" (by decide)) (se_var hbv5))) (fun _ _ _ _ _ => by refine cbGT h fun hb => ?_; have hf := hb.l [("sign", 9), ("column", 12)] (by decide +kernel); obtain ⟨hbl9, hbl12, -⟩ := hf; exact (gt_tp (gs_cons (gt_nm hbl12) (gs_cons (gt_nm hbl9) gs_nil)) hb.calm)) (by decide) (fun _ _ _ _ _ => by refine cbSIf h fun hb => ?_; have hf := hb.v [("sign", 9)] (by decide +kernel); obtain ⟨hbv9, -⟩ := hf; exact (sif_one (st_cmp (hu hr) (se_var hbv9) se_str))) (fun _ _ _ _ _ => by refine cbSE h fun hb => ?_; have hf := hb.v [("row", 11), ("column", 12)] (by decide +kernel); obtain ⟨hbv11, hbv12, -⟩ := hf; exact (se_tup (sa_cons (se_var hbv11) (sa_cons (se_var hbv12) sa_nil)))) h.calm (h.nd (by decide +kernel)) (blk_ok h (⟨by decide +kernel, by decide +kernel, by decide +kernel, by decide +kernel, by decide +kernel⟩)) (by decide)) (se_var hv0)))))))))))
theorem sb__law_pick {C : Nat → Fn} {X : Cx} {W : WX} {k : Nat} (h : Cxf N__law_pick (defScope s__law_pick) (defScope s__law_pick) X) (tk : Takes X W) (po : PassesOwn (model X.prog X.w) X.A X.env X.xe) (hr : Room (k + 1) X.A) (P : Prg C X.wd k) : SB X W (defBody s__law_pick) (b__law_pick C) := by
  have hf := h.v [("_law_things", 1), ("_law_hand", 0)] (by decide +kernel); obtain ⟨hv1, hv0, -⟩ := hf; have hf := h.g ["len", "_law_draw"] (by decide +kernel); obtain ⟨hg0, hg1, -⟩ := hf
  exact (sb_one (ss_ret (se_ix (se_var hv1) (se_call P.c__law_draw P.n__law_draw hr.dn hg1 tk (sa_cons (se_var hv0) (sa_cons (se_bi hg0 (P.bis.all "len" (by decide)) (by rfl) (by decide) (len_ok hr P.d_len) (sa_cons (se_var hv1) sa_nil)) sa_nil))))))
theorem sb__law_plan {C : Nat → Fn} {X : Cx} {W : WX} {k : Nat} (h : Cxf N__law_plan (defScope s__law_plan) (defScope s__law_plan) X) (tk : Takes X W) (po : PassesOwn (model X.prog X.w) X.A X.env X.xe) (hr : Room (k + 1) X.A) (P : Prg C X.wd k) : SB X W (defBody s__law_plan) (b__law_plan C) := by
  have hf := h.v [("_law_hand", 0), ("_law_high", 1), ("_law_wide", 2), ("_law_height", 5), ("_law_longest", 4), ("_law_ticks", 7), ("_law_most", 3), ("_law_width_z", 6), ("_law_left", 9), ("_law_sign", 14), ("_law_signs", 12), ("_law_rows", 10), ("_law_places", 8), ("_law_row", 11)] (by decide +kernel); obtain ⟨hv0, hv1, hv2, hv5, hv4, hv7, hv3, hv6, hv9, hv14, hv12, hv10, hv8, hv11, -⟩ := hf; have hf := h.l [("_law_height", 5), ("_law_width_z", 6), ("_law_ticks", 7), ("_law_places", 8), ("_law_left", 9), ("_law_rows", 10), ("_law_row", 11), ("_law_signs", 12), ("_law_column", 13), ("_law_sign", 14)] (by decide +kernel); obtain ⟨hl5, hl6, hl7, hl8, hl9, hl10, hl11, hl12, hl13, hl14, -⟩ := hf; have hf := h.g ["_law_draw", "max", "list", "range", "_law_mixed", "_law_pick", "int"] (by decide +kernel); obtain ⟨hg0, hg1, hg2, hg3, hg4, hg5, hg6, -⟩ := hf
  exact (sb_cons (ss_par2 hl5 hl6 (se_bin se_int (se_call P.c__law_draw P.n__law_draw hr.dn hg0 tk (sa_cons (se_var hv0) (sa_cons (se_var hv1) sa_nil)))) (se_bin se_int (se_call P.c__law_draw P.n__law_draw hr.dn hg0 tk (sa_cons (se_var hv0) (sa_cons (se_var hv2) sa_nil)))) h.calm (by decide) (h.loc (by decide +kernel)) (h.loc (by decide +kernel)) (hw := h.sw (by intro V hV; obtain ⟨⟩ := V; cases hV; rfl)))
  (sb_cons (ss_set hl7 (se_bin (se_var hv5) (se_call P.c__law_draw P.n__law_draw hr.dn hg0 tk (sa_cons (se_var hv0) (sa_cons (se_bi hg1 (P.bis.all "max" (by decide)) (by rfl) (by decide) (max2_ok h.calm) (sa_cons se_int (sa_cons (se_bin (se_bin (se_var hv4) se_int) (se_var hv5)) sa_nil))) sa_nil)))))
  (sb_cons (ss_set hl8 (se_call P.c__law_mixed P.n__law_mixed hr.dn hg4 tk (sa_cons (se_var hv0) (sa_cons (se_lrg false hg2 (P.bis.all "list" (by decide)) hg3 (P.bis.all "range" (by decide)) h.calm (se_var hv7)) sa_nil))))
  (sb_cons (ss_par2 hl9 hl10 (se_var hv3) (se_lst true sa_nil) h.calm (by decide) (h.loc (by decide +kernel)) (h.loc (by decide +kernel)) (hw := h.sw (by intro V hV; obtain ⟨⟩ := V; cases hV; rfl)))
  (sb_cons (ss_for (si_rg1 hg3 (P.bis.all "range" (by decide)) (se_var hv5)) (gt_nm hl11) (sb_fgt [11, 12, 13, 14] (sb_cons (ss_set hl12 se_str)
  (sb_cons (ss_for (si_rg1 hg3 (P.bis.all "range" (by decide)) (se_var hv6)) (gt_nm hl13) (sb_fgt [13, 14] (sb_cons (ss_set hl14 (se_if (st_cmp (hu hr) (se_var hv9) se_int) (se_call P.c__law_pick P.n__law_pick hr.dn hg5 tk (sa_cons (se_var hv0) (sa_cons (se_lst false (sa_cons se_str (sa_cons se_str (sa_cons se_str (sa_cons se_str (sa_cons se_str (sa_cons se_str (sa_cons se_str sa_nil)))))))) sa_nil))) se_str))
  (sb_cons (ss_set hl9 (se_bin (se_var hv9) (se_bt hg6 (P.bis.all "int" (by decide)) (by rfl) (by decide) int_ok (sa_cons (se_cmp (hu hr) (se_var hv14) se_str) sa_nil))))
  (sb_one (ss_set hl12 (se_bin (se_var hv12) (se_var hv14))))))) po h.calm)
  (sb_one (ss_expr (se_app (se_var hv10) (se_tup (sa_cons (se_ix (se_var hv8) (se_var hv11)) (sa_cons (se_var hv12) sa_nil))))))))) po h.calm)
  (sb_one (ss_ret (se_tup (sa_cons (se_var hv7) (sa_cons (se_var hv10) sa_nil))))))))))
theorem sb__law_mixed {C : Nat → Fn} {X : Cx} {W : WX} {k : Nat} (h : Cxf N__law_mixed (defScope s__law_mixed) (defScope s__law_mixed) X) (tk : Takes X W) (po : PassesOwn (model X.prog X.w) X.A X.env X.xe) (hr : Room (k + 1) X.A) (P : Prg C X.wd k) : SB X W (defBody s__law_mixed) (b__law_mixed C) := by
  have hf := h.v [("_law_things", 1), ("_law_found", 2), ("_law_hand", 0), ("_law_thing", 3)] (by decide +kernel); obtain ⟨hv1, hv2, hv0, hv3, -⟩ := hf; have hf := h.l [("_law_found", 2), ("_law_thing", 3)] (by decide +kernel); obtain ⟨hl2, hl3, -⟩ := hf; have hf := h.g ["len", "_law_draw"] (by decide +kernel); obtain ⟨hg0, hg1, -⟩ := hf
  exact (sb_cons (ss_set hl2 (se_lst true sa_nil))
  (sb_cons (ss_for (si_val (se_var hv1)) (gt_nm hl3) (sb_fgt [3] (sb_one (ss_expr (se_ins (se_var hv2) (se_call P.c__law_draw P.n__law_draw hr.dn hg1 tk (sa_cons (se_var hv0) (sa_cons (se_bin (se_bi hg0 (P.bis.all "len" (by decide)) (by rfl) (by decide) (len_ok hr P.d_len) (sa_cons (se_var hv2) sa_nil)) se_int) sa_nil))) (se_var hv3))))) po h.calm)
  (sb_one (ss_ret (se_var hv2)))))
theorem sb__law_made {C : Nat → Fn} {X : Cx} {W : WX} {k : Nat} (h : Cxf N__law_made (defScope s__law_made) (defScope s__law_made) X) (tk : Takes X W) (po : PassesOwn (model X.prog X.w) X.A X.env X.xe) (hr : Room (k + 1) X.A) (P : Prg C X.wd k) : SB X W (defBody s__law_made) (b__law_made C) := by
  have hf := h.v [("_law_plan_here", 0)] (by decide +kernel); obtain ⟨hv0, -⟩ := hf; have hf := h.g ["Board"] (by decide +kernel); obtain ⟨hg0, -⟩ := hf
  exact (sb_one (ss_ret (se_make true P.k_Board hr hg0 tk (sa_cons (se_ix (se_var hv0) se_int) (sa_cons (se_ix (se_var hv0) se_int) sa_nil)))))
theorem sb__law_keys {C : Nat → Fn} {X : Cx} {W : WX} {k : Nat} (h : Cxf N__law_keys (defScope s__law_keys) (defScope s__law_keys) X) (tk : Takes X W) (po : PassesOwn (model X.prog X.w) X.A X.env X.xe) (hr : Room (k + 1) X.A) (P : Prg C X.wd k) : SB X W (defBody s__law_keys) (b__law_keys C) := by
  have hf := h.v [("_law_plan_here", 0), ("_law_row", 2), ("_law_found", 1), ("_law_signs", 3)] (by decide +kernel); obtain ⟨hv0, hv2, hv1, hv3, -⟩ := hf; have hf := h.l [("_law_found", 1), ("_law_row", 2), ("_law_signs", 3)] (by decide +kernel); obtain ⟨hl1, hl2, hl3, -⟩ := hf; have hf := h.g ["len", "range"] (by decide +kernel); obtain ⟨hg0, hg1, -⟩ := hf
  exact (sb_cons (ss_set hl1 (se_lst false sa_nil))
  (sb_cons (ss_for (si_rg1 hg1 (P.bis.all "range" (by decide)) (se_bi hg0 (P.bis.all "len" (by decide)) (by rfl) (by decide) (len_ok hr P.d_len) (sa_cons (se_ix (se_var hv0) se_int) sa_nil))) (gt_nm hl2) (sb_fgt [2, 3] (sb_cons (ss_set hl3 (se_ix (se_ix (se_ix (se_var hv0) se_int) (se_var hv2)) se_int))
  (sb_one (ss_set hl1 (se_bin (se_var hv1) (se_lc (ts := [4]) (own := [("_law_column", 4)]) false (si_rg1 hg1 (P.bis.all "range" (by decide)) (se_bi hg0 (P.bis.all "len" (by decide)) (by rfl) (by decide) (len_ok hr P.d_len) (sa_cons (se_var hv3) sa_nil))) (fun _ _ _ _ _ => by refine cbGT h fun hb => ?_; have hf := hb.l [("_law_column", 4)] (by decide +kernel); obtain ⟨hbl4, -⟩ := hf; exact (gt_nm hbl4)) (by decide) (fun _ _ _ _ _ => by refine cbSIf h fun hb => ?_; have hf := hb.v [("_law_signs", 3), ("_law_column", 4)] (by decide +kernel); obtain ⟨hbv3, hbv4, -⟩ := hf; exact (sif_one (st_cmp (hu hr) (se_ix (se_var hbv3) (se_var hbv4)) se_str))) (fun _ _ _ _ _ => by refine cbSE h fun hb => ?_; have hf := hb.v [("_law_row", 2), ("_law_column", 4)] (by decide +kernel); obtain ⟨hbv2, hbv4, -⟩ := hf; exact (se_tup (sa_cons (se_var hbv2) (sa_cons (se_var hbv4) sa_nil)))) h.calm (h.nd (by decide +kernel)) (blk_ok h (⟨by decide +kernel, by decide +kernel, by decide +kernel, by decide +kernel, by decide +kernel⟩)))))))) po h.calm)
  (sb_one (ss_ret (se_var hv1)))))
theorem sb_Board_width {C : Nat → Fn} {X : Cx} {W : WX} {k : Nat} (h : Cxf N_Board_width (defScope s_Board_width) (defScope s_Board_width) X) (tk : Takes X W) (po : PassesOwn (model X.prog X.w) X.A X.env X.xe) (hr : Room (k + 1) X.A) (P : Prg C X.wd k) : SB X W (defBody s_Board_width) (b_Board_width C) := by
  have hf := h.v [("self", 0)] (by decide +kernel); obtain ⟨hv0, -⟩ := hf; have hf := h.g ["len"] (by decide +kernel); obtain ⟨hg0, -⟩ := hf
  exact (sb_one (ss_ret (se_bi hg0 (P.bis.all "len" (by decide)) (by rfl) (by decide) (len_ok hr P.d_len) (sa_cons (se_ix (se_fld P.f_own_signs (se_var hv0)) se_int) sa_nil))))
theorem sb_Board_height {C : Nat → Fn} {X : Cx} {W : WX} {k : Nat} (h : Cxf N_Board_height (defScope s_Board_height) (defScope s_Board_height) X) (tk : Takes X W) (po : PassesOwn (model X.prog X.w) X.A X.env X.xe) (hr : Room (k + 1) X.A) (P : Prg C X.wd k) : SB X W (defBody s_Board_height) (b_Board_height C) := by
  have hf := h.v [("self", 0)] (by decide +kernel); obtain ⟨hv0, -⟩ := hf; have hf := h.g ["len"] (by decide +kernel); obtain ⟨hg0, -⟩ := hf
  exact (sb_one (ss_ret (se_bi hg0 (P.bis.all "len" (by decide)) (by rfl) (by decide) (len_ok hr P.d_len) (sa_cons (se_fld P.f_own_signs (se_var hv0)) sa_nil))))
theorem sb__law_tries {C : Nat → Fn} {X : Cx} {W : WX} {k : Nat} (h : Cxf N__law_tries (defScope s__law_tries) (defScope s__law_tries) X) (tk : Takes X W) (po : PassesOwn (model X.prog X.w) X.A X.env X.xe) (hr : Room (k + 1) X.A) (P : Prg C X.wd k) : SB X W (defBody s__law_tries) (b__law_tries C) := by
  have hf := h.v [("_law_asks", 0)] (by decide +kernel); obtain ⟨hv0, -⟩ := hf
  exact (sb_one (ss_ret (se_lc (ts := [1]) (own := [("_law_ask", 1)]) false (si_val (se_var hv0)) (fun _ _ _ _ _ => by refine cbGT h fun hb => ?_; have hf := hb.l [("_law_ask", 1)] (by decide +kernel); obtain ⟨hbl1, -⟩ := hf; exact (gt_nm hbl1)) (by decide) (fun _ _ _ _ _ => by refine cbSIf h fun hb => ?_; exact sif_nil) (fun _ _ _ _ _ => by refine cbSE h fun hb => ?_; have hf := hb.v [("_law_ask", 1)] (by decide +kernel); obtain ⟨hbv1, -⟩ := hf; have hf := hb.g ["_law_try"] (by decide +kernel); obtain ⟨hbg0, -⟩ := hf; exact (se_call P.c__law_try P.n__law_try hr.dn hbg0 tk0 (sa_cons (se_var hbv1) sa_nil))) h.calm (h.nd (by decide +kernel)) (blk_ok h (⟨by decide +kernel, by decide +kernel, by decide +kernel, by decide +kernel, by decide +kernel⟩)))))
theorem sb__law_try {C : Nat → Fn} {X : Cx} {W : WX} {k : Nat} (h : Cxf N__law_try (defScope s__law_try) (defScope s__law_try) X) (tx : TryX X) (tk : Takes X W) (po : PassesOwn (model X.prog X.w) X.A X.env X.xe) (hr : Room (k + 1) X.A) (P : Prg C X.wd k) : SB X W (defBody s__law_try) (b__law_try C) := by
  have hf := h.v [("_law_ask", 0), ("_law_e", 1)] (by decide +kernel); obtain ⟨hv0, hv1, -⟩ := hf; have hf := h.g ["FeintError", "NoName", "NothingLeft", "_law_fields"] (by decide +kernel); obtain ⟨hg0, hg1, hg2, hg3, -⟩ := hf
  exact (sb_one (ss_try tx.ex tx.st tx.fr (h.nd (by decide +kernel)) (nlen_ok h.q (by decide +kernel)) (ix_ok h.q (by decide +kernel)) (kind_ok h.q (by decide +kernel)) (test_3 hg0 P.gl_FeintError hg1 P.gl_NoName hg2 P.gl_NothingLeft) tk P.cat (fun W pn xe tk po => sb_one (ss_ret (se_tup (sa_cons se_str (sa_cons (se_callV P.lam hr.dn tk (se_var hv0.tr)) sa_nil))))) (fun a pn => sb_one (ss_ret (se_bin (se_tup (sa_cons (se_fldX P.x_code (se_var hv1.su)) sa_nil)) (se_callL P.cl__law_fields P.n__law_fields (roomH_mark hr.dn) hg3.su takes_suite (sa_cons (se_var hv1.su) sa_nil)))))))
theorem sb__law_fields {C : Nat → Fn} {X : Cx} {W : WX} {k : Nat} (h : Cxq N__law_fields (defScope s__law_fields) X) (tk : Takes X W) (hr : L2H.RoomH (k + 1) X.A) (P : Prg C X.wd k) : SB X W (defBody s__law_fields) (b__law_fields C) := by
  have hf := h.v [("_law_e", 0)] (by decide +kernel); obtain ⟨hv0, -⟩ := hf
  exact (sb_cons (ss_if (st_cmp (huH hr) (se_fldX P.x_code (se_var hv0)) (se_tup (sa_cons se_str (sa_cons se_str (sa_cons se_str (sa_cons se_str (sa_cons se_str (sa_cons se_str (sa_cons se_str sa_nil))))))))) (sb_one (ss_ret (se_tup (sa_cons (se_fldX P.x_given (se_var hv0)) sa_nil)))) sb_nil)
  (sb_cons (ss_if (st_cmp (huH hr) (se_fldX P.x_code (se_var hv0)) (se_tup (sa_cons se_str (sa_cons se_str sa_nil)))) (sb_one (ss_ret (se_tup (sa_cons (se_fldX P.x_at (se_var hv0)) sa_nil)))) sb_nil)
  (sb_cons (ss_if (st_cmp (huH hr) (se_fldX P.x_code (se_var hv0)) (se_tup (sa_cons se_str (sa_cons se_str sa_nil)))) (sb_one (ss_ret (se_tup (sa_cons (se_fldX P.x_most (se_var hv0)) sa_nil)))) sb_nil)
  (sb_cons (ss_if (st_cmp (huH hr) (se_fldX P.x_code (se_var hv0)) (se_tup (sa_cons se_str (sa_cons se_str sa_nil)))) (sb_one (ss_ret (se_tup (sa_cons (se_fldX P.x_key (se_var hv0)) sa_nil)))) sb_nil)
  (sb_one (ss_ret (se_if (st_cmp (huH hr) (se_fldX P.x_code (se_var hv0)) (se_tup (sa_cons se_str (sa_cons se_str (sa_cons se_str sa_nil))))) (se_tup (sa_cons (se_fldX P.x_name (se_var hv0)) sa_nil)) (se_tup sa_nil))))))))
theorem sb__law_like {C : Nat → Fn} {X : Cx} {W : WX} {k : Nat} (h : Cxf N__law_like (defScope s__law_like) (defScope s__law_like) X) (tk : Takes X W) (po : PassesOwn (model X.prog X.w) X.A X.env X.xe) (hr : Room (k + 1) X.A) (P : Prg C X.wd k) : SB X W (defBody s__law_like) (b__law_like C) := by
  have hf := h.v [("_law_found", 0), ("_law_due", 1)] (by decide +kernel); obtain ⟨hv0, hv1, -⟩ := hf; have hf := h.g ["isinstance", "list", "tuple", "len", "range", "all", "bool", "int", "str"] (by decide +kernel); obtain ⟨hg0, hg1, hg2, hg3, hg4, hg5, hg6, hg7, hg8, -⟩ := hf
  exact (sb_cons (ss_if (st_W (sw_or (st_cmp (hu hr) (se_var hv0) se_non) (sw_one (st_cmp (hu hr) (se_var hv1) se_non)))) (sb_one (ss_ret (se_and (se_cmp (hu hr) (se_var hv0) se_non) (se_one (se_cmp (hu hr) (se_var hv1) se_non))))) sb_nil)
  (sb_cons (ss_if (st_val (se_isiT2 hg0 (P.bis.all "isinstance" (by decide)) hg1 (P.bis.all "list" (by decide)) (by rfl) (by decide) hg2 (P.bis.all "tuple" (by decide)) (by rfl) (by decide) (se_var hv1))) (sb_cons (ss_if (st_W (sw_or (st_cmp (hu hr) (se_isiT hg0 (P.bis.all "isinstance" (by decide)) hg1 (P.bis.all "list" (by decide)) (by rfl) (by decide) (se_var hv0)) (se_isiT hg0 (P.bis.all "isinstance" (by decide)) hg1 (P.bis.all "list" (by decide)) (by rfl) (by decide) (se_var hv1))) (sw_one (st_cmp (hu hr) (se_isiT hg0 (P.bis.all "isinstance" (by decide)) hg2 (P.bis.all "tuple" (by decide)) (by rfl) (by decide) (se_var hv0)) (se_isiT hg0 (P.bis.all "isinstance" (by decide)) hg2 (P.bis.all "tuple" (by decide)) (by rfl) (by decide) (se_var hv1)))))) (sb_one (ss_ret se_bl)) sb_nil)
  (sb_one (ss_ret (se_and (se_cmp (hu hr) (se_bi hg3 (P.bis.all "len" (by decide)) (by rfl) (by decide) (len_ok hr P.d_len) (sa_cons (se_var hv0) sa_nil)) (se_bi hg3 (P.bis.all "len" (by decide)) (by rfl) (by decide) (len_ok hr P.d_len) (sa_cons (se_var hv1) sa_nil))) (se_one (se_bi hg5 (P.bis.all "all" (by decide)) (by rfl) (by decide) (all_ok h.calm) (sa_cons (se_lc (ts := [2]) (own := [("_law_k", 2)]) false (si_rg1 hg4 (P.bis.all "range" (by decide)) (se_bi hg3 (P.bis.all "len" (by decide)) (by rfl) (by decide) (len_ok hr P.d_len) (sa_cons (se_var hv1) sa_nil))) (fun _ _ _ _ _ => by refine cbGT h fun hb => ?_; have hf := hb.l [("_law_k", 2)] (by decide +kernel); obtain ⟨hbl2, -⟩ := hf; exact (gt_nm hbl2)) (by decide) (fun _ _ _ _ _ => by refine cbSIf h fun hb => ?_; exact sif_nil) (fun _ _ _ _ _ => by refine cbSE h fun hb => ?_; have hf := hb.v [("_law_found", 0), ("_law_k", 2), ("_law_due", 1)] (by decide +kernel); obtain ⟨hbv0, hbv2, hbv1, -⟩ := hf; have hf := hb.g ["_law_like"] (by decide +kernel); obtain ⟨hbg0, -⟩ := hf; exact (se_call P.c__law_like P.n__law_like hr.dn hbg0 tk0 (sa_cons (se_ix (se_var hbv0) (se_var hbv2)) (sa_cons (se_ix (se_var hbv1) (se_var hbv2)) sa_nil)))) h.calm (h.nd (by decide +kernel)) (blk_ok h (⟨by decide +kernel, by decide +kernel, by decide +kernel, by decide +kernel, by decide +kernel⟩))) sa_nil))))))) sb_nil)
  (sb_cons (ss_if (st_W (sw_or (st_cmp (hu hr) (se_isiT hg0 (P.bis.all "isinstance" (by decide)) hg6 (P.bis.all "bool" (by decide)) (by rfl) (by decide) (se_var hv0)) (se_isiT hg0 (P.bis.all "isinstance" (by decide)) hg6 (P.bis.all "bool" (by decide)) (by rfl) (by decide) (se_var hv1))) (sw_one (st_cmp (hu hr) (se_isiT hg0 (P.bis.all "isinstance" (by decide)) hg7 (P.bis.all "int" (by decide)) (by rfl) (by decide) (se_var hv0)) (se_isiT hg0 (P.bis.all "isinstance" (by decide)) hg7 (P.bis.all "int" (by decide)) (by rfl) (by decide) (se_var hv1)))))) (sb_one (ss_ret se_bl)) sb_nil)
  (sb_one (ss_ret (se_and (se_cmp (hu hr) (se_isiT hg0 (P.bis.all "isinstance" (by decide)) hg8 (P.bis.all "str" (by decide)) (by rfl) (by decide) (se_var hv0)) (se_isiT hg0 (P.bis.all "isinstance" (by decide)) hg8 (P.bis.all "str" (by decide)) (by rfl) (by decide) (se_var hv1))) (se_one (se_cmp (hu hr) (se_var hv0) (se_var hv1)))))))))
theorem sb__law_odd_values {C : Nat → Fn} {X : Cx} {W : WX} {k : Nat} (h : Cxf N__law_odd_values (defScope s__law_odd_values) (defScope s__law_odd_values) X) (tk : Takes X W) (po : PassesOwn (model X.prog X.w) X.A X.env X.xe) (hr : Room (k + 1) X.A) (P : Prg C X.wd k) : SB X W (defBody s__law_odd_values) (b__law_odd_values C) := by
  
  exact (sb_one (ss_ret (se_lst false (sa_cons se_non (sa_cons se_bl (sa_cons se_int (sa_cons se_str (sa_cons se_str (sa_cons (se_tup sa_nil) (sa_cons (se_tup (sa_cons se_int sa_nil)) (sa_cons (se_tup (sa_cons se_int (sa_cons se_int (sa_cons se_int sa_nil)))) (sa_cons (se_lst false (sa_cons se_int (sa_cons se_int sa_nil))) (sa_cons (se_tup (sa_cons se_int (sa_cons se_str sa_nil))) (sa_cons (se_tup (sa_cons se_non (sa_cons se_int sa_nil))) (sa_cons (se_tup (sa_cons se_int (sa_cons se_int sa_nil))) (sa_cons (se_tup (sa_cons se_int (sa_cons (se_neg se_int) sa_nil))) (sa_cons (se_tup (sa_cons (se_tup (sa_cons se_int (sa_cons se_int sa_nil))) (sa_cons se_int sa_nil))) (sa_cons (se_tup (sa_cons se_bl (sa_cons se_int sa_nil))) sa_nil))))))))))))))))))
theorem sb_Board___contains__ {C : Nat → Fn} {X : Cx} {W : WX} {k : Nat} (h : Cxf N_Board___contains__ (defScope s_Board___contains__) (defScope s_Board___contains__) X) (tk : Takes X W) (po : PassesOwn (model X.prog X.w) X.A X.env X.xe) (hr : Room (k + 1) X.A) (P : Prg C X.wd k) : SB X W (defBody s_Board___contains__) (b_Board___contains__ C) := by
  have hf := h.v [("key", 1), ("self", 0)] (by decide +kernel); obtain ⟨hv1, hv0, -⟩ := hf; have hf := h.g ["is_pair"] (by decide +kernel); obtain ⟨hg0, -⟩ := hf
  exact (sb_one (ss_ret (se_and (se_call P.c_is_pair P.n_is_pair hr.dn hg0 tk (sa_cons (se_var hv1) sa_nil)) (se_one (se_cmp (hu hr) (se_var hv1) (se_fld P.f_own_keys (se_var hv0)))))))
theorem sb_is_pair {C : Nat → Fn} {X : Cx} {W : WX} {k : Nat} (h : Cxf N_is_pair (defScope s_is_pair) (defScope s_is_pair) X) (tk : Takes X W) (po : PassesOwn (model X.prog X.w) X.A X.env X.xe) (hr : Room (k + 1) X.A) (P : Prg C X.wd k) : SB X W (defBody s_is_pair) (b_is_pair C) := by
  have hf := h.v [("value", 0)] (by decide +kernel); obtain ⟨hv0, -⟩ := hf; have hf := h.g ["isinstance", "tuple", "len", "is_number"] (by decide +kernel); obtain ⟨hg0, hg1, hg2, hg3, -⟩ := hf
  exact (sb_one (ss_ret (se_and (se_isiT hg0 (P.bis.all "isinstance" (by decide)) hg1 (P.bis.all "tuple" (by decide)) (by rfl) (by decide) (se_var hv0)) (se_and (se_cmp (hu hr) (se_bi hg2 (P.bis.all "len" (by decide)) (by rfl) (by decide) (len_ok hr P.d_len) (sa_cons (se_var hv0) sa_nil)) se_int) (se_and (se_call P.c_is_number P.n_is_number hr.dn hg3 tk (sa_cons (se_ix (se_var hv0) se_int) sa_nil)) (se_one (se_call P.c_is_number P.n_is_number hr.dn hg3 tk (sa_cons (se_ix (se_var hv0) se_int) sa_nil))))))))
theorem sb_is_number {C : Nat → Fn} {X : Cx} {W : WX} {k : Nat} (h : Cxf N_is_number (defScope s_is_number) (defScope s_is_number) X) (tk : Takes X W) (po : PassesOwn (model X.prog X.w) X.A X.env X.xe) (hr : Room (k + 1) X.A) (P : Prg C X.wd k) : SB X W (defBody s_is_number) (b_is_number C) := by
  have hf := h.v [("value", 0)] (by decide +kernel); obtain ⟨hv0, -⟩ := hf; have hf := h.g ["isinstance", "int", "bool"] (by decide +kernel); obtain ⟨hg0, hg1, hg2, -⟩ := hf
  exact (sb_one (ss_ret (se_and (se_isiT hg0 (P.bis.all "isinstance" (by decide)) hg1 (P.bis.all "int" (by decide)) (by rfl) (by decide) (se_var hv0)) (se_one (se_not (se_isiT hg0 (P.bis.all "isinstance" (by decide)) hg2 (P.bis.all "bool" (by decide)) (by rfl) (by decide) (se_var hv0)))))))
theorem sb_Board___eq__ {C : Nat → Fn} {X : Cx} {W : WX} {k : Nat} (h : Cxf N_Board___eq__ (defScope s_Board___eq__) (defScope s_Board___eq__) X) (tk : Takes X W) (po : PassesOwn (model X.prog X.w) X.A X.env X.xe) (hr : Room (k + 1) X.A) (P : Prg C X.wd k) : SB X W (defBody s_Board___eq__) (b_Board___eq__ C) := by
  have hf := h.v [("other", 1), ("self", 0)] (by decide +kernel); obtain ⟨hv1, hv0, -⟩ := hf; have hf := h.g ["isinstance", "Board"] (by decide +kernel); obtain ⟨hg0, hg1, -⟩ := hf
  exact (sb_one (ss_ret (se_and (se_isiC hg0 (P.bis.all "isinstance" (by decide)) hg1 P.i_Board (se_var hv1)) (se_one (se_cmp (hu hr) (se_fld P.f_own_text (se_var hv0)) (se_fld P.f_own_text (se_var hv1)))))))
theorem sb_Board___len__ {C : Nat → Fn} {X : Cx} {W : WX} {k : Nat} (h : Cxf N_Board___len__ (defScope s_Board___len__) (defScope s_Board___len__) X) (tk : Takes X W) (po : PassesOwn (model X.prog X.w) X.A X.env X.xe) (hr : Room (k + 1) X.A) (P : Prg C X.wd k) : SB X W (defBody s_Board___len__) (b_Board___len__ C) := by
  have hf := h.v [("self", 0)] (by decide +kernel); obtain ⟨hv0, -⟩ := hf; have hf := h.g ["len"] (by decide +kernel); obtain ⟨hg0, -⟩ := hf
  exact (sb_one (ss_ret (se_bi hg0 (P.bis.all "len" (by decide)) (by rfl) (by decide) (len_ok hr P.d_len) (sa_cons (se_fld P.f_own_keys (se_var hv0)) sa_nil))))
theorem sb_Board___repr__ {C : Nat → Fn} {X : Cx} {W : WX} {k : Nat} (h : Cxf N_Board___repr__ (defScope s_Board___repr__) (defScope s_Board___repr__) X) (tk : Takes X W) (po : PassesOwn (model X.prog X.w) X.A X.env X.xe) (hr : Room (k + 1) X.A) (P : Prg C X.wd k) : SB X W (defBody s_Board___repr__) (b_Board___repr__ C) := by
  have hf := h.v [("self", 0)] (by decide +kernel); obtain ⟨hv0, -⟩ := hf
  exact (sb_one (ss_ret (se_js (SEs.cons se_str (SEs.cons (se_fmt (se_pro P.p_height hr (se_var hv0))) (SEs.cons se_str (SEs.cons (se_fmt (se_pro P.p_width hr (se_var hv0))) (SEs.cons se_str SEs.nil))))))))
theorem sb_law {C : Nat → Fn} {X : Cx} {W : WX} {k : Nat} (h : Cxf N_law (defScope s_law) (defScope s_law) X) (LH : LawH "law.<locals>." (defScope s_law) X) (kt : Keys.txt = lamL) (tk : Takes X W) (po : PassesOwn (model X.prog X.w) X.A X.env X.xe) (hr : Room (k + 1) X.A) (P : Prg C X.wd k) : SB X W (defBody s_law) (b_law C) := by
  have hf := h.v [("_law_script", 0), ("_law_hand", 1), ("_law_plan_here", 3), ("_law_row", 6), ("_law_column", 7), ("_law_board", 4), ("_law_keys_here", 5), ("_law_some", 9), ("_law_full", 11), ("_law_rows", 12), ("_law_asks", 14), ("_law_wrong", 13)] (by decide +kernel); obtain ⟨hv0, hv1, hv3, hv6, hv7, hv4, hv5, hv9, hv11, hv12, hv14, hv13, -⟩ := hf; have hf := h.l [("_law_hand", 1), ("_law_turn", 2), ("_law_plan_here", 3), ("_law_keys_here", 5), ("_law_board", 4), ("_law_row", 6), ("_law_column", 7), ("_law_some", 9), ("_law_full", 11), ("_law_rows", 12), ("_law_wrong", 13), ("_law_asks", 14)] (by decide +kernel); obtain ⟨hl1, hl2, hl3, hl5, hl4, hl6, hl7, hl9, hl11, hl12, hl13, hl14, -⟩ := hf; have hf := h.g ["_law_start", "range", "_law_plan", "_law_made", "_law_keys", "_law_like", "_law_odd_values", "any", "len", "_law_draw", "Board", "_law_pick", "_law_tries"] (by decide +kernel); obtain ⟨hg0, hg1, hg2, hg3, hg4, hg5, hg6, hg7, hg8, hg9, hg10, hg11, hg12, -⟩ := hf
  exact (sb_cons (ss_set hl1 (se_call P.c__law_start P.n__law_start hr.dn hg0 tk (sa_cons (se_var hv0) sa_nil)))
  (sb_cons (ss_for (si_rg1 hg1 (P.bis.all "range" (by decide)) se_int) (gt_nm hl2) (sb_cut (sb_fgt [2, 3, 4, 5, 6, 7, 9] (sb_cons (ss_set hl3 (se_call P.c__law_plan P.n__law_plan hr.dn hg2 tk (sa_cons (se_var hv1) (sa_cons se_int (sa_cons se_int (sa_cons se_int (sa_cons se_int sa_nil)))))))
  (sb_cons (ss_tgt (gt_tp (gs_cons (gt_nm hl4) (gs_cons (gt_nm hl5) gs_nil)) h.calm) (se_tup (sa_cons (se_call P.c__law_made P.n__law_made hr.dn hg3 tk (sa_cons (se_var hv3) sa_nil)) (sa_cons (se_call P.c__law_keys P.n__law_keys hr.dn hg4 tk (sa_cons (se_var hv3) sa_nil)) sa_nil))) (hw := h.sw (by intro V hV; obtain ⟨⟩ := V; cases hV; rfl)))
  (sb_cons (ss_for (si_rg1 hg1 (P.bis.all "range" (by decide)) se_int) (gt_nm hl6) (sb_cut (sb_fgt [6, 7] (sb_one (ss_for (si_rg1 hg1 (P.bis.all "range" (by decide)) se_int) (gt_nm hl7) (sb_cut (sb_fgt [7] (sb_one (ss_if (st_not (st_val (se_call P.c__law_like P.n__law_like hr.dn hg5 tk (sa_cons (se_cmpT (hu hr) hr P.d_eq P.d_in (se_tup (sa_cons (se_var hv6) (sa_cons (se_var hv7) sa_nil))) (se_var hv4)) (sa_cons (se_cmp (hu hr) (se_tup (sa_cons (se_var hv6) (sa_cons (se_var hv7) sa_nil))) (se_var hv5)) sa_nil))))) (sb_one (ss_ret se_bl)) sb_nil)))) po h.calm)))) po h.calm)
  (sb_cons (ss_if (st_val (se_bi hg7 (P.bis.all "any" (by decide)) (by rfl) (by decide) (any_ok h.calm) (sa_cons (se_lc (ts := [8]) (own := [("_law_odd", 8)]) false (si_val (se_call0 P.c__law_odd_values P.n__law_odd_values hr.dn hg6 tk)) (fun _ _ _ _ _ => by refine cbGT h fun hb => ?_; have hf := hb.l [("_law_odd", 8)] (by decide +kernel); obtain ⟨hbl8, -⟩ := hf; exact (gt_nm hbl8)) (by decide) (fun _ _ _ _ _ => by refine cbSIf h fun hb => ?_; exact sif_nil) (fun _ _ _ _ _ => by refine cbSE h fun hb => ?_; have hf := hb.v [("_law_odd", 8), ("_law_board", 4)] (by decide +kernel); obtain ⟨hbv8, hbv4, -⟩ := hf; exact (se_cmpT (hu hr) hr P.d_eq P.d_in (se_var hbv8) (se_var hbv4))) h.calm (h.nd (by decide +kernel)) (blk_ok h (⟨by decide +kernel, by decide +kernel, by decide +kernel, by decide +kernel, by decide +kernel⟩))) sa_nil))) (sb_one (ss_ret se_bl)) sb_nil)
  (sb_cons (ss_set hl9 (se_bin (se_lc (ts := [10]) (own := [("_law_key", 10)]) false (si_val (se_var hv5)) (fun _ _ _ _ _ => by refine cbGT h fun hb => ?_; have hf := hb.l [("_law_key", 10)] (by decide +kernel); obtain ⟨hbl10, -⟩ := hf; exact (gt_nm hbl10)) (by decide) (fun _ _ _ _ _ => by refine cbSIf h fun hb => ?_; exact sif_nil) (fun _ _ _ _ _ => by refine cbSE h fun hb => ?_; have hf := hb.v [("_law_key", 10), ("_law_board", 4)] (by decide +kernel); obtain ⟨hbv10, hbv4, -⟩ := hf; have hf := hb.g ["list"] (by decide +kernel); obtain ⟨hbg0, -⟩ := hf; exact (se_cmpT (hu hr) hr P.d_eq P.d_in (se_bt hbg0 (P.bis.all "list" (by decide)) (by rfl) (by decide) (listT_ok false) (sa_cons (se_var hbv10) sa_nil)) (se_var hbv4))) h.calm (h.nd (by decide +kernel)) (blk_ok h (⟨by decide +kernel, by decide +kernel, by decide +kernel, by decide +kernel, by decide +kernel⟩))) (se_lc (ts := [10]) (own := [("_law_key", 10)]) false (si_val (se_var hv5)) (fun _ _ _ _ _ => by refine cbGT h fun hb => ?_; have hf := hb.l [("_law_key", 10)] (by decide +kernel); obtain ⟨hbl10, -⟩ := hf; exact (gt_nm hbl10)) (by decide) (fun _ _ _ _ _ => by refine cbSIf h fun hb => ?_; exact sif_nil) (fun _ _ _ _ _ => by refine cbSE h fun hb => ?_; have hf := hb.v [("_law_key", 10), ("_law_board", 4)] (by decide +kernel); obtain ⟨hbv10, hbv4, -⟩ := hf; exact (se_cmpT (hu hr) hr P.d_eq P.d_in (se_bin (se_var hbv10) (se_tup (sa_cons se_int sa_nil))) (se_var hbv4))) h.calm (h.nd (by decide +kernel)) (blk_ok h (⟨by decide +kernel, by decide +kernel, by decide +kernel, by decide +kernel, by decide +kernel⟩)))))
  (sb_one (ss_if (st_W (sw_or (st_cmp (hu hr) (se_var hv9) (se_bin (se_lst false (sa_cons se_bl sa_nil)) (se_bin se_int (se_bi hg8 (P.bis.all "len" (by decide)) (by rfl) (by decide) (len_ok hr P.d_len) (sa_cons (se_var hv5) sa_nil))))) (sw_one (st_cmp (hu hr) (se_bi hg8 (P.bis.all "len" (by decide)) (by rfl) (by decide) (len_ok hr P.d_len) (sa_cons (se_var hv4) sa_nil)) (se_bi hg8 (P.bis.all "len" (by decide)) (by rfl) (by decide) (len_ok hr P.d_len) (sa_cons (se_var hv5) sa_nil)))))) (sb_one (ss_ret se_bl)) sb_nil))))))))) po h.calm)
  (sb_cons (ss_set hl11 (se_stmK P.sk_Board_full_0 rfl hr.dn hg10 tk (sa_cons (se_bin se_int (se_call P.c__law_draw P.n__law_draw hr.dn hg9 tk (sa_cons (se_var hv1) (sa_cons se_int sa_nil)))) sa_nil) (sk_cons (se_bin se_int (se_call P.c__law_draw P.n__law_draw hr.dn hg9 tk (sa_cons (se_var hv1) (sa_cons se_int sa_nil)))) sk_nil) rfl rfl (by decide)))
  (sb_cons (ss_setLc (ts := [6]) (own := [("_law_row", 6)]) false hl12 (h.loc (by decide +kernel)) (si_rg1 hg1 (P.bis.all "range" (by decide)) (se_pro P.p_height hr (se_var hv11))) (fun _ _ _ _ _ => by refine cbGT h fun hb => ?_; have hf := hb.l [("_law_row", 6)] (by decide +kernel); obtain ⟨hbl6, -⟩ := hf; exact (gt_nm hbl6)) (by decide) (fun _ _ _ _ _ => by refine cbSIf h fun hb => ?_; exact sif_nil) (fun _ _ _ _ _ => by refine cbSE h fun hb => ?_; have hf := hb.v [("_law_row", 6), ("_law_full", 11)] (by decide +kernel); obtain ⟨hbv6, hbv11, -⟩ := hf; exact (se_tup (sa_cons (se_var hbv6) (sa_cons (se_bin se_str (se_pro P.p_width hr (se_var hbv11))) sa_nil)))) h.calm (blk_ok h (⟨by decide +kernel, by decide +kernel, by decide +kernel, by decide +kernel, by decide +kernel⟩)) (h.sw2 (by intro V hV; obtain ⟨⟩ := V; cases hV; rfl)))
  (sb_cons (ss_set hl13 (se_call P.c__law_pick P.n__law_pick hr.dn hg11 tk (sa_cons (se_var hv1) (sa_cons (se_lst false (sa_cons se_int (sa_cons se_int (sa_cons (se_neg se_int) (sa_cons (se_bin se_int se_int) sa_nil))))) sa_nil))))
  (sb_cons (ss_set hl14 (se_lst false (sa_cons (se_lam LH.mkr (lamF_of (T := lamL 0) LH kt rfl rfl (by decide +kernel)) (by rw [kt]; rfl)) (sa_cons (se_lam0 LH.mkr (lamF_of (T := lamL 1) LH kt rfl rfl (by decide +kernel)) (by rw [kt]; rfl) (by rfl) (by rfl)) sa_nil))))
  (sb_one (ss_ret (se_and (se_cmpT (hu hr) hr P.d_eq P.d_in (se_var hv11) (se_make true P.k_Board hr hg10 tk (sa_cons (se_pro P.p_height hr (se_var hv11)) (sa_cons (se_var hv12) sa_nil)))) (se_and (se_cmp (hu hr) (se_bi hg8 (P.bis.all "len" (by decide)) (by rfl) (by decide) (len_ok hr P.d_len) (sa_cons (se_var hv11) sa_nil)) (se_bin (se_pro P.p_height hr (se_var hv11)) (se_pro P.p_width hr (se_var hv11)))) (se_one (se_cmp (hu hr) (se_callC P.c__law_tries (capT_of h.q LH kt (by decide +kernel)) LH.fn hr.dn hg12 (se_var hv14)) (se_bin (se_lst false (sa_cons (se_tup (sa_cons se_str (sa_cons (se_var hv13) sa_nil))) sa_nil)) se_int)))))))))))))
theorem sl_0 {C : Nat → Fn} {X : Cx} {W : WX} {k : Nat} (h : Cxf (lamL 0).N (lamL 0).scope (lamL 0).scope X) (tk : Takes X W) (po : PassesOwn (model X.prog X.w) X.A X.env X.xe) (hr : Room (k + 1) X.A) (P : Prg C X.wd k) : SE X W (lamL 0).body (bl_0 C) := by
  have hf := h.v [("_law_wrong", 0)] (by decide +kernel); obtain ⟨hv0, -⟩ := hf; have hf := h.g ["Board"] (by decide +kernel); obtain ⟨hg0, -⟩ := hf
  exact (se_stm P.st_Board_full hr.dn hg0 tk (sa_cons (se_var hv0) (sa_cons (se_bin (se_var hv0) se_int) sa_nil)))
theorem sl_1 {C : Nat → Fn} {X : Cx} {W : WX} {k : Nat} (h : Cxf (lamL 1).N (lamL 1).scope (lamL 1).scope X) (tk : Takes X W) (po : PassesOwn (model X.prog X.w) X.A X.env X.xe) (hr : Room (k + 1) X.A) (P : Prg C X.wd k) : SE X W (lamL 1).body (bl_1 C) := by
  have hf := h.v [("_law_wrong", 1)] (by decide +kernel); obtain ⟨hv1, -⟩ := hf; have hf := h.g ["Board"] (by decide +kernel); obtain ⟨hg0, -⟩ := hf
  exact (se_stm P.st_Board_full hr.dn hg0 tk (sa_cons se_int (sa_cons (se_var hv1) sa_nil)))
end
def fnTab (C : Nat → Fn) : Nat → Fn
  | 0 => prim__law_start
  | 1 => prim__law_draw
  | 2 => mkFn false 2 3 (b_Board_full C)
  | 3 => mkFn false 3 3 (b_check_number C)
  | 4 => mkFn false 3 13 (b_Board___init__ C)
  | 5 => mkFn false 2 2 (b__law_pick C)
  | 6 => mkFn false 5 15 (b__law_plan C)
  | 7 => mkFn false 2 4 (b__law_mixed C)
  | 8 => mkFn false 1 1 (b__law_made C)
  | 9 => mkFn false 1 5 (b__law_keys C)
  | 10 => mkFn false 1 1 (b_Board_width C)
  | 11 => mkFn false 1 1 (b_Board_height C)
  | 12 => mkFn false 1 2 (b__law_tries C)
  | 13 => mkFn false 1 2 (b__law_try C)
  | 14 => mkFn false 1 1 (b__law_fields C)
  | 15 => mkFn false 2 3 (b__law_like C)
  | 16 => mkFn false 0 0 (b__law_odd_values C)
  | 17 => mkFn false 2 2 (b_Board___contains__ C)
  | 18 => mkFn false 1 1 (b_is_pair C)
  | 19 => mkFn false 1 1 (b_is_number C)
  | 20 => mkFn false 2 2 (b_Board___eq__ C)
  | 21 => mkFn false 1 1 (b_Board___len__ C)
  | 22 => mkFn false 1 1 (b_Board___repr__ C)
  | 23 => lamFnS (lamL 0) (bl_0 C)
  | 24 => lamFnS (lamL 1) (bl_1 C)
  | _ => fun _ => bad
section
variable {n : Nat}
theorem cc_0 : callN fnTab (n + 1) 0 = prim__law_start := rfl
theorem cc_1 : callN fnTab (n + 1) 1 = prim__law_draw := rfl
theorem cc_2 : callN fnTab (n + 1) 2 = mkFn false 2 3 (b_Board_full (callN fnTab n)) := rfl
theorem cc_3 : callN fnTab (n + 1) 3 = mkFn false 3 3 (b_check_number (callN fnTab n)) := rfl
theorem cc_4 : callN fnTab (n + 1) 4 = mkFn false 3 13 (b_Board___init__ (callN fnTab n)) := rfl
theorem cc_5 : callN fnTab (n + 1) 5 = mkFn false 2 2 (b__law_pick (callN fnTab n)) := rfl
theorem cc_6 : callN fnTab (n + 1) 6 = mkFn false 5 15 (b__law_plan (callN fnTab n)) := rfl
theorem cc_7 : callN fnTab (n + 1) 7 = mkFn false 2 4 (b__law_mixed (callN fnTab n)) := rfl
theorem cc_8 : callN fnTab (n + 1) 8 = mkFn false 1 1 (b__law_made (callN fnTab n)) := rfl
theorem cc_9 : callN fnTab (n + 1) 9 = mkFn false 1 5 (b__law_keys (callN fnTab n)) := rfl
theorem cc_10 : callN fnTab (n + 1) 10 = mkFn false 1 1 (b_Board_width (callN fnTab n)) := rfl
theorem cc_11 : callN fnTab (n + 1) 11 = mkFn false 1 1 (b_Board_height (callN fnTab n)) := rfl
theorem cc_12 : callN fnTab (n + 1) 12 = mkFn false 1 2 (b__law_tries (callN fnTab n)) := rfl
theorem cc_13 : callN fnTab (n + 1) 13 = mkFn false 1 2 (b__law_try (callN fnTab n)) := rfl
theorem cc_14 : callN fnTab (n + 1) 14 = mkFn false 1 1 (b__law_fields (callN fnTab n)) := rfl
theorem cc_15 : callN fnTab (n + 1) 15 = mkFn false 2 3 (b__law_like (callN fnTab n)) := rfl
theorem cc_16 : callN fnTab (n + 1) 16 = mkFn false 0 0 (b__law_odd_values (callN fnTab n)) := rfl
theorem cc_17 : callN fnTab (n + 1) 17 = mkFn false 2 2 (b_Board___contains__ (callN fnTab n)) := rfl
theorem cc_18 : callN fnTab (n + 1) 18 = mkFn false 1 1 (b_is_pair (callN fnTab n)) := rfl
theorem cc_19 : callN fnTab (n + 1) 19 = mkFn false 1 1 (b_is_number (callN fnTab n)) := rfl
theorem cc_20 : callN fnTab (n + 1) 20 = mkFn false 2 2 (b_Board___eq__ (callN fnTab n)) := rfl
theorem cc_21 : callN fnTab (n + 1) 21 = mkFn false 1 1 (b_Board___len__ (callN fnTab n)) := rfl
theorem cc_22 : callN fnTab (n + 1) 22 = mkFn false 1 1 (b_Board___repr__ (callN fnTab n)) := rfl
theorem cc_23 : callN fnTab (n + 1) 23 = lamFnS (lamL 0) (bl_0 (callN fnTab n)) := rfl
theorem cc_24 : callN fnTab (n + 1) 24 = lamFnS (lamL 1) (bl_1 (callN fnTab n)) := rfl
@[simp] theorem cap_0 : capO capL 0 = some [13] := rfl
@[simp] theorem cap_1 : capO capL 1 = some [13] := rfl
@[simp] theorem lro_0 {d0 : D} : lamRo (lamL 0) [d0] = [.dat d0] := rfl
@[simp] theorem lro_1 {d0 : D} : lamRo (lamL 1) [d0] = [.dat (.int 0), .dat d0] := rfl
end
def freeL : List Str := ["len", "int", "str", "list", "tuple", "range", "enumerate", "zip", "max", "min", "all", "any", "isinstance", "repr", "sorted", "set", "bool", "sum", "dict"]
def dl : List DR := [
  ⟨fun K => gA K "_law_start", "_law_start", "_law_start", s__law_start⟩,
  ⟨fun K => gA K "_law_draw", "_law_draw", "_law_draw", s__law_draw⟩,
  ⟨sG "Board" "full", "full", "Board.full", s_Board_full⟩,
  ⟨fun K => gA K "check_number", "check_number", "check_number", s_check_number⟩,
  ⟨mA "Board" "__init__", "__init__", "Board.__init__", s_Board___init__⟩,
  ⟨fun K => gA K "_law_pick", "_law_pick", "_law_pick", s__law_pick⟩,
  ⟨fun K => gA K "_law_plan", "_law_plan", "_law_plan", s__law_plan⟩,
  ⟨fun K => gA K "_law_mixed", "_law_mixed", "_law_mixed", s__law_mixed⟩,
  ⟨fun K => gA K "_law_made", "_law_made", "_law_made", s__law_made⟩,
  ⟨fun K => gA K "_law_keys", "_law_keys", "_law_keys", s__law_keys⟩,
  ⟨pG "Board" "width", "width", "Board.width", s_Board_width⟩,
  ⟨pG "Board" "height", "height", "Board.height", s_Board_height⟩,
  ⟨fun K => gA K "_law_tries", "_law_tries", "_law_tries", s__law_tries⟩,
  ⟨fun K => gA K "_law_try", "_law_try", "_law_try", s__law_try⟩,
  ⟨fun K => gA K "_law_fields", "_law_fields", "_law_fields", s__law_fields⟩,
  ⟨fun K => gA K "_law_like", "_law_like", "_law_like", s__law_like⟩,
  ⟨fun K => gA K "_law_odd_values", "_law_odd_values", "_law_odd_values", s__law_odd_values⟩,
  ⟨mA "Board" "__contains__", "__contains__", "Board.__contains__", s_Board___contains__⟩,
  ⟨fun K => gA K "is_pair", "is_pair", "is_pair", s_is_pair⟩,
  ⟨fun K => gA K "is_number", "is_number", "is_number", s_is_number⟩,
  ⟨mA "Board" "__eq__", "__eq__", "Board.__eq__", s_Board___eq__⟩,
  ⟨mA "Board" "__len__", "__len__", "Board.__len__", s_Board___len__⟩,
  ⟨mA "Board" "__repr__", "__repr__", "Board.__repr__", s_Board___repr__⟩,
  ⟨fun K => gA K "law", "law", "law", s_law⟩
]
def el : List ER := [⟨"BadNumber", "BadNumber.__init__", inClass (top 3) 0, "/claim/cut.py"⟩, ⟨"BadRow", "BadRow.__init__", inClass (top 5) 0, "/claim/cut.py"⟩]
theorem ext_BadNumber : ExT (inClass (top 3) 0) "BadNumber" "given" 0 := ⟨rfl, rfl, rfl, rfl, rfl, rfl, by decide +kernel, by decide +kernel, by decide +kernel, by decide +kernel, by decide +kernel, by decide, by decide, by decide⟩
theorem ext_BadRow : ExT (inClass (top 5) 0) "BadRow" "at" 0 := ⟨rfl, rfl, rfl, rfl, rfl, rfl, by decide +kernel, by decide +kernel, by decide +kernel, by decide +kernel, by decide +kernel, by decide, by decide, by decide⟩
def fk : List Fk := [
  fun K => freeL.all fun x => (He.Fa.free x).ok K,
  fun K => (He.Fa.meth "Board" "__len__").ok K,
  fun K => (He.Fa.int "MOST_LINES" 4).ok K,
  fun K => (He.Fa.glo "check_number").ok K,
  fun K => (He.Fa.mkr "Board").ok K,
  fun K => (He.Fa.glo "Board").ok K,
  kRai "BadNumber" "given",
  fun K => (He.Fa.glo "BadNumber").ok K,
  fun K => (He.Fa.int "MOST_TICKS" 6).ok K,
  kRai "BadRow" "at",
  fun K => (He.Fa.glo "BadRow").ok K,
  fun K => (He.Fa.str "SIGNS" ".o><").ok K,
  fun K => (He.Fa.cls "Board").ok K,
  fun K => (He.Fa.noat "Board" "own_ticks").ok K,
  fun K => (He.Fa.noat "Board" "own_places").ok K,
  fun K => (He.Fa.noat "Board" "own_signs").ok K,
  fun K => (He.Fa.noat "Board" "own_text").ok K,
  fun K => (He.Fa.noat "Board" "own_keys").ok K,
  fun K => (He.Fa.glo "_law_draw").ok K,
  fun K => (He.Fa.glo "_law_mixed").ok K,
  fun K => (He.Fa.glo "_law_pick").ok K,
  fun K => (He.Fa.glo "_law_try").ok K,
  fun K => (He.Fa.glo "FeintError").ok K,
  fun K => (He.Fa.glo "NoName").ok K,
  fun K => (He.Fa.glo "NothingLeft").ok K,
  kCat catL ["FeintError", "NoName", "NothingLeft"],
  fun K => (He.Fa.glo "_law_fields").ok K,
  kXf "BadNumber" "code",
  kXf "BadText" "code",
  kXf "BadRow" "code",
  kXf "NoName" "code",
  kXf "NothingLeft" "code",
  kXf "BadNumber" "given",
  kXf "BadText" "given",
  kXf "BadRow" "at",
  kXf "NoName" "name",
  fun K => (He.Fa.glo "_law_like").ok K,
  fun K => (He.Fa.glo "is_pair").ok K,
  fun K => (He.Fa.glo "is_number").ok K,
  kIsi 0 [0],
  kProp "Board" "height",
  kProp "Board" "width",
  fun K => (He.Fa.glo "_law_start").ok K,
  fun K => (He.Fa.glo "_law_plan").ok K,
  fun K => (He.Fa.glo "_law_made").ok K,
  fun K => (He.Fa.glo "_law_keys").ok K,
  fun K => (He.Fa.meth "Board" "__eq__").ok K,
  kEq "Board",
  fun K => (He.Fa.meth "Board" "__contains__").ok K,
  fun K => (He.Fa.glo "_law_odd_values").ok K,
  kStm "Board" "full",
  fun K => (He.Fa.glo "_law_tries").ok K,
  fun K => (He.Fa.glo "law").ok K,
  kTab "law"
]
section
variable [Keys] {P : Program} {w : World} {K : PySem.W.Frag} {h : Heap} {mg : Str → Option Value} {base : Heap}
structure Als (P : Program) (w : World) (K : PySem.W.Frag) (mg : Str → Option Value) (base : Heap) (n : Nat) : Prop where
  a__law_start : ∃ fd, FnOk P w K mg base (L2.CX P w) (2 * n + 2) ((fun K => gA K "_law_start" : PySem.W.Frag → Addr) K) fd ["_law_script"] (spF K 1 (callN fnTab n 0)) ∧ Binds K fd ["_law_script"] []
  a__law_draw : ∃ fd, FnOk P w K mg base (L2.CX P w) (2 * n + 2) ((fun K => gA K "_law_draw" : PySem.W.Frag → Addr) K) fd ["_law_hand", "_law_many"] (spF K 2 (callN fnTab n 1)) ∧ Binds K fd ["_law_hand", "_law_many"] []
  a_Board_full : ∃ fd, FnOk P w K mg base (L2.CX P w) (2 * n + 2) ((sG "Board" "full" : PySem.W.Frag → Addr) K) fd ["height", "width"] (spF K 2 (callN fnTab n 2)) ∧ Binds K fd ["height", "width"] [] ∧ KBn K fd ["height", "width"] 1 ["width"] (fun us ws => us ++ permL [0] ws) (fun us ws => us ++ permL [0] ws)
  a_check_number : ∃ fd, FnOk P w K mg base (L2.CX P w) (2 * n + 2) ((fun K => gA K "check_number" : PySem.W.Frag → Addr) K) fd ["number", "least", "most"] (spF K 3 (callN fnTab n 3)) ∧ Binds K fd ["number", "least", "most"] []
  a_Board___init__ : ∃ fd, FnOk P w K mg base (L2.CX P w) (2 * n + 2) ((mA "Board" "__init__" : PySem.W.Frag → Addr) K) fd ["self", "ticks", "rows"] (spF K 3 (callN fnTab n 4)) ∧ Binds K fd ["self", "ticks", "rows"] []
  a__law_pick : ∃ fd, FnOk P w K mg base (L2.CX P w) (2 * n + 2) ((fun K => gA K "_law_pick" : PySem.W.Frag → Addr) K) fd ["_law_hand", "_law_things"] (spF K 2 (callN fnTab n 5)) ∧ Binds K fd ["_law_hand", "_law_things"] []
  a__law_plan : ∃ fd, FnOk P w K mg base (L2.CX P w) (2 * n + 2) ((fun K => gA K "_law_plan" : PySem.W.Frag → Addr) K) fd ["_law_hand", "_law_high", "_law_wide", "_law_most", "_law_longest"] (spF K 5 (callN fnTab n 6)) ∧ Binds K fd ["_law_hand", "_law_high", "_law_wide", "_law_most", "_law_longest"] []
  a__law_mixed : ∃ fd, FnOk P w K mg base (L2.CX P w) (2 * n + 2) ((fun K => gA K "_law_mixed" : PySem.W.Frag → Addr) K) fd ["_law_hand", "_law_things"] (spF K 2 (callN fnTab n 7)) ∧ Binds K fd ["_law_hand", "_law_things"] []
  a__law_made : ∃ fd, FnOk P w K mg base (L2.CX P w) (2 * n + 2) ((fun K => gA K "_law_made" : PySem.W.Frag → Addr) K) fd ["_law_plan_here"] (spF K 1 (callN fnTab n 8)) ∧ Binds K fd ["_law_plan_here"] []
  a__law_keys : ∃ fd, FnOk P w K mg base (L2.CX P w) (2 * n + 2) ((fun K => gA K "_law_keys" : PySem.W.Frag → Addr) K) fd ["_law_plan_here"] (spF K 1 (callN fnTab n 9)) ∧ Binds K fd ["_law_plan_here"] []
  a_Board_width : ∃ fd, FnOk P w K mg base (L2.CX P w) (2 * n + 2) ((pG "Board" "width" : PySem.W.Frag → Addr) K) fd ["self"] (spF K 1 (callN fnTab n 10)) ∧ Binds K fd ["self"] []
  a_Board_height : ∃ fd, FnOk P w K mg base (L2.CX P w) (2 * n + 2) ((pG "Board" "height" : PySem.W.Frag → Addr) K) fd ["self"] (spF K 1 (callN fnTab n 11)) ∧ Binds K fd ["self"] []
  a__law_tries : ∃ fd, FnOk P w K mg base (L2.CX P w) (2 * n + 2) ((fun K => gA K "_law_tries" : PySem.W.Frag → Addr) K) fd ["_law_asks"] (spF K 1 (callN fnTab n 12)) ∧ Binds K fd ["_law_asks"] []
  a__law_try : ∃ fd, FnOk P w K mg base (L2.CX P w) (2 * n + 2) ((fun K => gA K "_law_try" : PySem.W.Frag → Addr) K) fd ["_law_ask"] (spF K 1 (callN fnTab n 13)) ∧ Binds K fd ["_law_ask"] []
  a__law_fields : ∃ fd, FnL P w K mg base (L2.CX P w) (2 * n + 2) ((fun K => gA K "_law_fields" : PySem.W.Frag → Addr) K) fd ["_law_e"] (spF K 1 (callN fnTab n 14)) ∧ Binds K fd ["_law_e"] []
  a__law_like : ∃ fd, FnOk P w K mg base (L2.CX P w) (2 * n + 2) ((fun K => gA K "_law_like" : PySem.W.Frag → Addr) K) fd ["_law_found", "_law_due"] (spF K 2 (callN fnTab n 15)) ∧ Binds K fd ["_law_found", "_law_due"] []
  a__law_odd_values : ∃ fd, FnOk P w K mg base (L2.CX P w) (2 * n + 2) ((fun K => gA K "_law_odd_values" : PySem.W.Frag → Addr) K) fd [] (spF K 0 (callN fnTab n 16)) ∧ Binds K fd [] []
  a_Board___contains__ : ∃ fd, FnOk P w K mg base (L2.CX P w) (2 * n + 2) ((mA "Board" "__contains__" : PySem.W.Frag → Addr) K) fd ["self", "key"] (spF K 2 (callN fnTab n 17)) ∧ Binds K fd ["self", "key"] []
  a_is_pair : ∃ fd, FnOk P w K mg base (L2.CX P w) (2 * n + 2) ((fun K => gA K "is_pair" : PySem.W.Frag → Addr) K) fd ["value"] (spF K 1 (callN fnTab n 18)) ∧ Binds K fd ["value"] []
  a_is_number : ∃ fd, FnOk P w K mg base (L2.CX P w) (2 * n + 2) ((fun K => gA K "is_number" : PySem.W.Frag → Addr) K) fd ["value"] (spF K 1 (callN fnTab n 19)) ∧ Binds K fd ["value"] []
  a_Board___eq__ : ∃ fd, FnOk P w K mg base (L2.CX P w) (2 * n + 2) ((mA "Board" "__eq__" : PySem.W.Frag → Addr) K) fd ["self", "other"] (spF K 2 (callN fnTab n 20)) ∧ Binds K fd ["self", "other"] []
  a_Board___len__ : ∃ fd, FnOk P w K mg base (L2.CX P w) (2 * n + 2) ((mA "Board" "__len__" : PySem.W.Frag → Addr) K) fd ["self"] (spF K 1 (callN fnTab n 21)) ∧ Binds K fd ["self"] []
  a_Board___repr__ : ∃ fd, FnOk P w K mg base (L2.CX P w) (2 * n + 2) ((mA "Board" "__repr__" : PySem.W.Frag → Addr) K) fd ["self"] (spF K 1 (callN fnTab n 22)) ∧ Binds K fd ["self"] []
  l_0 : LamFn ⟨P, w, K, mg, base⟩ (2 * n + 2) 0 fun ws => callN fnTab n (23 + 0) (ws.map .dat)
  l_1 : LamFn ⟨P, w, K, mg, base⟩ (2 * n + 2) 1 fun ws => callN fnTab n (23 + 1) (ws.map .dat)
theorem len__law_start : ∀ (n : Nat) {ss : List Sl} {M : List MO} {Q : Re Sl → Prop}, wp (callN fnTab n 0 ss M) Q → ss.length = 1
  | 0, _, _, _, h => h.elim
  | n + 1, ss, M, Q, h => plen__law_start h
theorem len__law_draw : ∀ (n : Nat) {ss : List Sl} {M : List MO} {Q : Re Sl → Prop}, wp (callN fnTab n 1 ss M) Q → ss.length = 2
  | 0, _, _, _, h => h.elim
  | n + 1, ss, M, Q, h => plen__law_draw h
theorem len_Board_full : ∀ (n : Nat) {ss : List Sl} {M : List MO} {Q : Re Sl → Prop}, wp (callN fnTab n 2 ss M) Q → ss.length = 2
  | 0, _, _, _, h => h.elim
  | n + 1, ss, M, Q, h => mkFn_len (show wp (mkFn false 2 3 (b_Board_full (callN fnTab n)) ss M) Q from h)
theorem len_check_number : ∀ (n : Nat) {ss : List Sl} {M : List MO} {Q : Re Sl → Prop}, wp (callN fnTab n 3 ss M) Q → ss.length = 3
  | 0, _, _, _, h => h.elim
  | n + 1, ss, M, Q, h => mkFn_len (show wp (mkFn false 3 3 (b_check_number (callN fnTab n)) ss M) Q from h)
theorem len_Board___init__ : ∀ (n : Nat) {ss : List Sl} {M : List MO} {Q : Re Sl → Prop}, wp (callN fnTab n 4 ss M) Q → ss.length = 3
  | 0, _, _, _, h => h.elim
  | n + 1, ss, M, Q, h => mkFn_len (show wp (mkFn false 3 13 (b_Board___init__ (callN fnTab n)) ss M) Q from h)
theorem len__law_pick : ∀ (n : Nat) {ss : List Sl} {M : List MO} {Q : Re Sl → Prop}, wp (callN fnTab n 5 ss M) Q → ss.length = 2
  | 0, _, _, _, h => h.elim
  | n + 1, ss, M, Q, h => mkFn_len (show wp (mkFn false 2 2 (b__law_pick (callN fnTab n)) ss M) Q from h)
theorem len__law_plan : ∀ (n : Nat) {ss : List Sl} {M : List MO} {Q : Re Sl → Prop}, wp (callN fnTab n 6 ss M) Q → ss.length = 5
  | 0, _, _, _, h => h.elim
  | n + 1, ss, M, Q, h => mkFn_len (show wp (mkFn false 5 15 (b__law_plan (callN fnTab n)) ss M) Q from h)
theorem len__law_mixed : ∀ (n : Nat) {ss : List Sl} {M : List MO} {Q : Re Sl → Prop}, wp (callN fnTab n 7 ss M) Q → ss.length = 2
  | 0, _, _, _, h => h.elim
  | n + 1, ss, M, Q, h => mkFn_len (show wp (mkFn false 2 4 (b__law_mixed (callN fnTab n)) ss M) Q from h)
theorem len__law_made : ∀ (n : Nat) {ss : List Sl} {M : List MO} {Q : Re Sl → Prop}, wp (callN fnTab n 8 ss M) Q → ss.length = 1
  | 0, _, _, _, h => h.elim
  | n + 1, ss, M, Q, h => mkFn_len (show wp (mkFn false 1 1 (b__law_made (callN fnTab n)) ss M) Q from h)
theorem len__law_keys : ∀ (n : Nat) {ss : List Sl} {M : List MO} {Q : Re Sl → Prop}, wp (callN fnTab n 9 ss M) Q → ss.length = 1
  | 0, _, _, _, h => h.elim
  | n + 1, ss, M, Q, h => mkFn_len (show wp (mkFn false 1 5 (b__law_keys (callN fnTab n)) ss M) Q from h)
theorem len_Board_width : ∀ (n : Nat) {ss : List Sl} {M : List MO} {Q : Re Sl → Prop}, wp (callN fnTab n 10 ss M) Q → ss.length = 1
  | 0, _, _, _, h => h.elim
  | n + 1, ss, M, Q, h => mkFn_len (show wp (mkFn false 1 1 (b_Board_width (callN fnTab n)) ss M) Q from h)
theorem len_Board_height : ∀ (n : Nat) {ss : List Sl} {M : List MO} {Q : Re Sl → Prop}, wp (callN fnTab n 11 ss M) Q → ss.length = 1
  | 0, _, _, _, h => h.elim
  | n + 1, ss, M, Q, h => mkFn_len (show wp (mkFn false 1 1 (b_Board_height (callN fnTab n)) ss M) Q from h)
theorem len__law_tries : ∀ (n : Nat) {ss : List Sl} {M : List MO} {Q : Re Sl → Prop}, wp (callN fnTab n 12 ss M) Q → ss.length = 1
  | 0, _, _, _, h => h.elim
  | n + 1, ss, M, Q, h => mkFn_len (show wp (mkFn false 1 2 (b__law_tries (callN fnTab n)) ss M) Q from h)
theorem len__law_try : ∀ (n : Nat) {ss : List Sl} {M : List MO} {Q : Re Sl → Prop}, wp (callN fnTab n 13 ss M) Q → ss.length = 1
  | 0, _, _, _, h => h.elim
  | n + 1, ss, M, Q, h => mkFn_len (show wp (mkFn false 1 2 (b__law_try (callN fnTab n)) ss M) Q from h)
theorem len__law_fields : ∀ (n : Nat) {ss : List Sl} {M : List MO} {Q : Re Sl → Prop}, wp (callN fnTab n 14 ss M) Q → ss.length = 1
  | 0, _, _, _, h => h.elim
  | n + 1, ss, M, Q, h => mkFn_len (show wp (mkFn false 1 1 (b__law_fields (callN fnTab n)) ss M) Q from h)
theorem len__law_like : ∀ (n : Nat) {ss : List Sl} {M : List MO} {Q : Re Sl → Prop}, wp (callN fnTab n 15 ss M) Q → ss.length = 2
  | 0, _, _, _, h => h.elim
  | n + 1, ss, M, Q, h => mkFn_len (show wp (mkFn false 2 3 (b__law_like (callN fnTab n)) ss M) Q from h)
theorem len__law_odd_values : ∀ (n : Nat) {ss : List Sl} {M : List MO} {Q : Re Sl → Prop}, wp (callN fnTab n 16 ss M) Q → ss.length = 0
  | 0, _, _, _, h => h.elim
  | n + 1, ss, M, Q, h => mkFn_len (show wp (mkFn false 0 0 (b__law_odd_values (callN fnTab n)) ss M) Q from h)
theorem len_Board___contains__ : ∀ (n : Nat) {ss : List Sl} {M : List MO} {Q : Re Sl → Prop}, wp (callN fnTab n 17 ss M) Q → ss.length = 2
  | 0, _, _, _, h => h.elim
  | n + 1, ss, M, Q, h => mkFn_len (show wp (mkFn false 2 2 (b_Board___contains__ (callN fnTab n)) ss M) Q from h)
theorem len_is_pair : ∀ (n : Nat) {ss : List Sl} {M : List MO} {Q : Re Sl → Prop}, wp (callN fnTab n 18 ss M) Q → ss.length = 1
  | 0, _, _, _, h => h.elim
  | n + 1, ss, M, Q, h => mkFn_len (show wp (mkFn false 1 1 (b_is_pair (callN fnTab n)) ss M) Q from h)
theorem len_is_number : ∀ (n : Nat) {ss : List Sl} {M : List MO} {Q : Re Sl → Prop}, wp (callN fnTab n 19 ss M) Q → ss.length = 1
  | 0, _, _, _, h => h.elim
  | n + 1, ss, M, Q, h => mkFn_len (show wp (mkFn false 1 1 (b_is_number (callN fnTab n)) ss M) Q from h)
theorem len_Board___eq__ : ∀ (n : Nat) {ss : List Sl} {M : List MO} {Q : Re Sl → Prop}, wp (callN fnTab n 20 ss M) Q → ss.length = 2
  | 0, _, _, _, h => h.elim
  | n + 1, ss, M, Q, h => mkFn_len (show wp (mkFn false 2 2 (b_Board___eq__ (callN fnTab n)) ss M) Q from h)
theorem len_Board___len__ : ∀ (n : Nat) {ss : List Sl} {M : List MO} {Q : Re Sl → Prop}, wp (callN fnTab n 21 ss M) Q → ss.length = 1
  | 0, _, _, _, h => h.elim
  | n + 1, ss, M, Q, h => mkFn_len (show wp (mkFn false 1 1 (b_Board___len__ (callN fnTab n)) ss M) Q from h)
theorem len_Board___repr__ : ∀ (n : Nat) {ss : List Sl} {M : List MO} {Q : Re Sl → Prop}, wp (callN fnTab n 22 ss M) Q → ss.length = 1
  | 0, _, _, _, h => h.elim
  | n + 1, ss, M, Q, h => mkFn_len (show wp (mkFn false 1 1 (b_Board___repr__ (callN fnTab n)) ss M) Q from h)
structure Kps (K : PySem.W.Frag) : Prop where
  kp_check_number : PySem.W.keepIn K (.ref (gA K "check_number")) = true
  kp__law_draw : PySem.W.keepIn K (.ref (gA K "_law_draw")) = true
  kp__law_mixed : PySem.W.keepIn K (.ref (gA K "_law_mixed")) = true
  kp__law_pick : PySem.W.keepIn K (.ref (gA K "_law_pick")) = true
  kp__law_try : PySem.W.keepIn K (.ref (gA K "_law_try")) = true
  kp__law_like : PySem.W.keepIn K (.ref (gA K "_law_like")) = true
  kp_is_pair : PySem.W.keepIn K (.ref (gA K "is_pair")) = true
  kp_is_number : PySem.W.keepIn K (.ref (gA K "is_number")) = true
  kp__law_start : PySem.W.keepIn K (.ref (gA K "_law_start")) = true
  kp__law_plan : PySem.W.keepIn K (.ref (gA K "_law_plan")) = true
  kp__law_made : PySem.W.keepIn K (.ref (gA K "_law_made")) = true
  kp__law_keys : PySem.W.keepIn K (.ref (gA K "_law_keys")) = true
  kp__law_odd_values : PySem.W.keepIn K (.ref (gA K "_law_odd_values")) = true
  kp__law_tries : PySem.W.keepIn K (.ref (gA K "_law_tries")) = true
  kp__law_fields : PySem.W.keepIn K (.ref (gA K "_law_fields")) = true
  kp_Board_full : PySem.W.keepIn K (.ref (sG "Board" "full" K)) = true
theorem kps (c : SaysR fk dl K) : Kps K where
  kp_check_number := by
    obtain ⟨fd, F⟩ := c.def_ 3
    exact F.kp
  kp__law_draw := by
    obtain ⟨fd, F⟩ := c.def_ 1
    exact F.kp
  kp__law_mixed := by
    obtain ⟨fd, F⟩ := c.def_ 7
    exact F.kp
  kp__law_pick := by
    obtain ⟨fd, F⟩ := c.def_ 5
    exact F.kp
  kp__law_try := by
    obtain ⟨fd, F⟩ := c.def_ 13
    exact F.kp
  kp__law_like := by
    obtain ⟨fd, F⟩ := c.def_ 15
    exact F.kp
  kp_is_pair := by
    obtain ⟨fd, F⟩ := c.def_ 18
    exact F.kp
  kp_is_number := by
    obtain ⟨fd, F⟩ := c.def_ 19
    exact F.kp
  kp__law_start := by
    obtain ⟨fd, F⟩ := c.def_ 0
    exact F.kp
  kp__law_plan := by
    obtain ⟨fd, F⟩ := c.def_ 6
    exact F.kp
  kp__law_made := by
    obtain ⟨fd, F⟩ := c.def_ 8
    exact F.kp
  kp__law_keys := by
    obtain ⟨fd, F⟩ := c.def_ 9
    exact F.kp
  kp__law_odd_values := by
    obtain ⟨fd, F⟩ := c.def_ 16
    exact F.kp
  kp__law_tries := by
    obtain ⟨fd, F⟩ := c.def_ 12
    exact F.kp
  kp__law_fields := by
    obtain ⟨fd, F⟩ := c.def_ 14
    exact F.kp
  kp_Board_full := by
    obtain ⟨fd, F⟩ := c.def_ 2
    exact F.kp
theorem prg (kt : Keys.txt = lamL) (hPf : ("/claim/cut.py" : Str) = P.main.file) (hPs : (P.main.scope.names.lookup ("super" : Str)).isSome = false) (X : K.In h) (G : h.Ns mainGlobals mg) (ce : SaysE fk dl el K) {n : Nat} (a : Als P w K mg base n) : Prg (callN fnTab n) ⟨P, w, K, mg, base⟩ (2 * n + 2) :=
  have c := ce.r
  have kp := kps c
  { bis := ⟨fun x hx => He.free_ok X G (List.all_eq_true.mp (c.fact 0) x hx)⟩
    k1 := by omega
    d_len := fun c0 F0 hl => by
      have hl := tbl1 hl
      obtain ⟨rfl, rfl⟩ := hl
      obtain ⟨fd, FO, hb⟩ := a.a_Board___len__
      have M := He.meth_ok (c.fact 1)
      exact ⟨⟨_, fd, _, FO, M.at_, M.fn, hb⟩, len_Board___len__ _⟩
    g_MOST_LINES := He.int_ok X G (c.fact 2)
    c_check_number := by
      obtain ⟨fd, FO, hb⟩ := a.a_check_number
      exact ⟨_, fd, _, FO, (He.glo_ok X G (c.fact 3)), kp.kp_check_number, hb⟩
    n_check_number := len_check_number _
    k_Board := by
      obtain ⟨fd, FO, hb⟩ := a.a_Board___init__
      exact ⟨⟨_, fd, _, FO, He.mkr_ok (c.fact 4), (He.glo_ok X G (c.fact 5)), hb⟩, len_Board___init__ _⟩
    r_BadNumber := rai_ok (c.fact 6) (ce.er 0) rfl hPf hPs ext_BadNumber (fun _ _ _ _ _ _ us hl => match us, hl with | [_, _], _ => rfl) rfl (He.glo_ok X G (c.fact 7))
    g_MOST_TICKS := He.int_ok X G (c.fact 8)
    r_BadRow := rai_ok (c.fact 9) (ce.er 1) rfl hPf hPs ext_BadRow (fun _ _ _ _ _ _ us hl => match us, hl with | [_, _], _ => rfl) rfl (He.glo_ok X G (c.fact 10))
    g_SIGNS := He.str_ok X G (c.fact 11)
    f_own_ticks := fun c0 h0 => by
      obtain rfl := List.mem_singleton.mp h0
      exact ⟨He.cls_ok (c.fact 12), He.noat_ok (c.fact 13)⟩
    f_own_places := fun c0 h0 => by
      obtain rfl := List.mem_singleton.mp h0
      exact ⟨He.cls_ok (c.fact 12), He.noat_ok (c.fact 14)⟩
    f_own_signs := fun c0 h0 => by
      obtain rfl := List.mem_singleton.mp h0
      exact ⟨He.cls_ok (c.fact 12), He.noat_ok (c.fact 15)⟩
    f_own_text := fun c0 h0 => by
      obtain rfl := List.mem_singleton.mp h0
      exact ⟨He.cls_ok (c.fact 12), He.noat_ok (c.fact 16)⟩
    f_own_keys := fun c0 h0 => by
      obtain rfl := List.mem_singleton.mp h0
      exact ⟨He.cls_ok (c.fact 12), He.noat_ok (c.fact 17)⟩
    c__law_draw := by
      obtain ⟨fd, FO, hb⟩ := a.a__law_draw
      exact ⟨_, fd, _, FO, (He.glo_ok X G (c.fact 18)), kp.kp__law_draw, hb⟩
    n__law_draw := len__law_draw _
    c__law_mixed := by
      obtain ⟨fd, FO, hb⟩ := a.a__law_mixed
      exact ⟨_, fd, _, FO, (He.glo_ok X G (c.fact 19)), kp.kp__law_mixed, hb⟩
    n__law_mixed := len__law_mixed _
    c__law_pick := by
      obtain ⟨fd, FO, hb⟩ := a.a__law_pick
      exact ⟨_, fd, _, FO, (He.glo_ok X G (c.fact 20)), kp.kp__law_pick, hb⟩
    n__law_pick := len__law_pick _
    c__law_try := by
      obtain ⟨fd, FO, hb⟩ := a.a__law_try
      exact ⟨_, fd, _, FO, (He.glo_ok X G (c.fact 21)), kp.kp__law_try, hb⟩
    n__law_try := len__law_try _
    gl_FeintError := (He.glo_ok X G (c.fact 22))
    gl_NoName := (He.glo_ok X G (c.fact 23))
    gl_NothingLeft := (He.glo_ok X G (c.fact 24))
    cat := cat_ok (c.fact 25)
    lam := lam_tbl fun i hi => match i, hi with
      | 0, _ => a.l_0
      | 1, _ => a.l_1
      | n + 2, h => absurd h (by omega)
    cl__law_fields := by
      obtain ⟨fd, FO, hb⟩ := a.a__law_fields
      exact ⟨_, fd, _, FO, (He.glo_ok X G (c.fact 26)), kp.kp__law_fields, hb⟩
    n__law_fields := len__law_fields _
    x_code := fun c0 h0 => by
      simp only [List.mem_cons, List.not_mem_nil, or_false] at h0
      rcases h0 with rfl | rfl | rfl | rfl | rfl
      · exact xf_ok (c.fact 27) rfl
      · exact xf_ok (c.fact 28) rfl
      · exact xf_ok (c.fact 29) rfl
      · exact xf_ok (c.fact 30) rfl
      · exact xf_ok (c.fact 31) rfl
    x_given := fun c0 h0 => by
      simp only [List.mem_cons, List.not_mem_nil, or_false] at h0
      rcases h0 with rfl | rfl
      · exact xf_ok (c.fact 32) rfl
      · exact xf_ok (c.fact 33) rfl
    x_at := fun c0 h0 => by
      obtain rfl := List.mem_singleton.mp h0
      exact xf_ok (c.fact 34) rfl
    x_most := fun c0 h0 => by simp at h0
    x_key := fun c0 h0 => by simp at h0
    x_name := fun c0 h0 => by
      obtain rfl := List.mem_singleton.mp h0
      exact xf_ok (c.fact 35) rfl
    c__law_like := by
      obtain ⟨fd, FO, hb⟩ := a.a__law_like
      exact ⟨_, fd, _, FO, (He.glo_ok X G (c.fact 36)), kp.kp__law_like, hb⟩
    n__law_like := len__law_like _
    c_is_pair := by
      obtain ⟨fd, FO, hb⟩ := a.a_is_pair
      exact ⟨_, fd, _, FO, (He.glo_ok X G (c.fact 37)), kp.kp_is_pair, hb⟩
    n_is_pair := len_is_pair _
    c_is_number := by
      obtain ⟨fd, FO, hb⟩ := a.a_is_number
      exact ⟨_, fd, _, FO, (He.glo_ok X G (c.fact 38)), kp.kp_is_number, hb⟩
    n_is_number := len_is_number _
    i_Board := ⟨(He.glo_ok X G (c.fact 5)), (kIsi_ok (c.fact 39)).1, (kIsi_ok (c.fact 39)).2⟩
    p_height := fun c0 F0 hl => by
      have hl := tbl1 hl
      obtain ⟨rfl, rfl⟩ := hl
      obtain ⟨fd, FO, hb⟩ := a.a_Board_height
      exact ⟨⟨_, _, fd, _, FO, He.cls_ok (c.fact 12), kProp_ok (c.fact 40), hb⟩⟩
    p_width := fun c0 F0 hl => by
      have hl := tbl1 hl
      obtain ⟨rfl, rfl⟩ := hl
      obtain ⟨fd, FO, hb⟩ := a.a_Board_width
      exact ⟨⟨_, _, fd, _, FO, He.cls_ok (c.fact 12), kProp_ok (c.fact 41), hb⟩⟩
    c__law_start := by
      obtain ⟨fd, FO, hb⟩ := a.a__law_start
      exact ⟨_, fd, _, FO, (He.glo_ok X G (c.fact 42)), kp.kp__law_start, hb⟩
    n__law_start := len__law_start _
    c__law_plan := by
      obtain ⟨fd, FO, hb⟩ := a.a__law_plan
      exact ⟨_, fd, _, FO, (He.glo_ok X G (c.fact 43)), kp.kp__law_plan, hb⟩
    n__law_plan := len__law_plan _
    c__law_made := by
      obtain ⟨fd, FO, hb⟩ := a.a__law_made
      exact ⟨_, fd, _, FO, (He.glo_ok X G (c.fact 44)), kp.kp__law_made, hb⟩
    n__law_made := len__law_made _
    c__law_keys := by
      obtain ⟨fd, FO, hb⟩ := a.a__law_keys
      exact ⟨_, fd, _, FO, (He.glo_ok X G (c.fact 45)), kp.kp__law_keys, hb⟩
    n__law_keys := len__law_keys _
    d_eq := fun c0 F0 hl => by
      have hl := tbl1 hl
      obtain ⟨rfl, rfl⟩ := hl
      obtain ⟨fd, FO, hb⟩ := a.a_Board___eq__
      have M := He.meth_ok (c.fact 46)
      exact ⟨⟨⟨_, fd, _, FO, M.at_, M.fn, hb⟩, len_Board___eq__ _⟩, (kEq_ok (c.fact 47)).1, (kEq_ok (c.fact 47)).2⟩
    d_in := fun c0 F0 hl => by
      have hl := tbl1 hl
      obtain ⟨rfl, rfl⟩ := hl
      obtain ⟨fd, FO, hb⟩ := a.a_Board___contains__
      have M := He.meth_ok (c.fact 48)
      exact ⟨⟨_, fd, _, FO, M.at_, M.fn, hb⟩, len_Board___contains__ _⟩
    c__law_odd_values := by
      obtain ⟨fd, FO, hb⟩ := a.a__law_odd_values
      exact ⟨_, fd, _, FO, (He.glo_ok X G (c.fact 49)), kp.kp__law_odd_values, hb⟩
    n__law_odd_values := len__law_odd_values _
    sk_Board_full_0 := by
      obtain ⟨fd, FO, hb, hk0⟩ := a.a_Board_full
      exact ⟨⟨_, fd, _, _, FO, (He.glo_ok X G (c.fact 5)), kStm_ok (c.fact 50), kp.kp_Board_full, hk0⟩, len_Board_full _⟩
    c__law_tries := by
      obtain ⟨fd, FO, hb⟩ := a.a__law_tries
      exact ⟨_, fd, _, FO, (He.glo_ok X G (c.fact 51)), kp.kp__law_tries, hb⟩
    n__law_tries := len__law_tries _
    st_Board_full := by
      obtain ⟨fd, FO, hb, hk0⟩ := a.a_Board_full
      exact ⟨⟨_, fd, _, _, FO, (He.glo_ok X G (c.fact 5)), kStm_ok (c.fact 50), kp.kp_Board_full, hb⟩, len_Board_full _⟩
  }
theorem als (kt : Keys.txt = lamL) (hPf : ("/claim/cut.py" : Str) = P.main.file) (hPs : (P.main.scope.names.lookup ("super" : Str)).isSome = false) (X : K.In h) (G : h.Ns mainGlobals mg) (ce : SaysE fk dl el K) : ∀ n, Als P w K mg base n
  | 0 =>
    have c := ce.r
    {
    a__law_start := by
      obtain ⟨fd, F⟩ := c.def_ 0
      exact ⟨fd, fn_bad, (F.binds fun _ _ _ _ _ _ us hl => match us, hl with | [_], _ => rfl)⟩
    a__law_draw := by
      obtain ⟨fd, F⟩ := c.def_ 1
      exact ⟨fd, fn_bad, (F.binds fun _ _ _ _ _ _ us hl => match us, hl with | [_, _], _ => rfl)⟩
    a_Board_full := by
      obtain ⟨fd, F⟩ := c.def_ 2
      exact ⟨fd, fn_bad, (F.binds fun _ _ _ _ _ _ us hl => match us, hl with | [_, _], _ => rfl), fun_kbnP F fun _ _ _ _ _ _ us ws h1 h2 => match us, ws, h1, h2 with | [_], [_], _, _ => rfl⟩
    a_check_number := by
      obtain ⟨fd, F⟩ := c.def_ 3
      exact ⟨fd, fn_bad, (F.binds fun _ _ _ _ _ _ us hl => match us, hl with | [_, _, _], _ => rfl)⟩
    a_Board___init__ := by
      obtain ⟨fd, F⟩ := c.def_ 4
      exact ⟨fd, fn_bad, (F.binds fun _ _ _ _ _ _ us hl => match us, hl with | [_, _, _], _ => rfl)⟩
    a__law_pick := by
      obtain ⟨fd, F⟩ := c.def_ 5
      exact ⟨fd, fn_bad, (F.binds fun _ _ _ _ _ _ us hl => match us, hl with | [_, _], _ => rfl)⟩
    a__law_plan := by
      obtain ⟨fd, F⟩ := c.def_ 6
      exact ⟨fd, fn_bad, (F.binds fun _ _ _ _ _ _ us hl => match us, hl with | [_, _, _, _, _], _ => rfl)⟩
    a__law_mixed := by
      obtain ⟨fd, F⟩ := c.def_ 7
      exact ⟨fd, fn_bad, (F.binds fun _ _ _ _ _ _ us hl => match us, hl with | [_, _], _ => rfl)⟩
    a__law_made := by
      obtain ⟨fd, F⟩ := c.def_ 8
      exact ⟨fd, fn_bad, (F.binds fun _ _ _ _ _ _ us hl => match us, hl with | [_], _ => rfl)⟩
    a__law_keys := by
      obtain ⟨fd, F⟩ := c.def_ 9
      exact ⟨fd, fn_bad, (F.binds fun _ _ _ _ _ _ us hl => match us, hl with | [_], _ => rfl)⟩
    a_Board_width := by
      obtain ⟨fd, F⟩ := c.def_ 10
      exact ⟨fd, fn_bad, (F.binds fun _ _ _ _ _ _ us hl => match us, hl with | [_], _ => rfl)⟩
    a_Board_height := by
      obtain ⟨fd, F⟩ := c.def_ 11
      exact ⟨fd, fn_bad, (F.binds fun _ _ _ _ _ _ us hl => match us, hl with | [_], _ => rfl)⟩
    a__law_tries := by
      obtain ⟨fd, F⟩ := c.def_ 12
      exact ⟨fd, fn_bad, (F.binds fun _ _ _ _ _ _ us hl => match us, hl with | [_], _ => rfl)⟩
    a__law_try := by
      obtain ⟨fd, F⟩ := c.def_ 13
      exact ⟨fd, fn_bad, (F.binds fun _ _ _ _ _ _ us hl => match us, hl with | [_], _ => rfl)⟩
    a__law_fields := by
      obtain ⟨fd, F⟩ := c.def_ 14
      exact ⟨fd, fnL_bad, (F.binds fun _ _ _ _ _ _ us hl => match us, hl with | [_], _ => rfl)⟩
    a__law_like := by
      obtain ⟨fd, F⟩ := c.def_ 15
      exact ⟨fd, fn_bad, (F.binds fun _ _ _ _ _ _ us hl => match us, hl with | [_, _], _ => rfl)⟩
    a__law_odd_values := by
      obtain ⟨fd, F⟩ := c.def_ 16
      exact ⟨fd, fn_bad, (F.binds fun _ _ _ _ _ _ us hl => match us, hl with | [], _ => rfl)⟩
    a_Board___contains__ := by
      obtain ⟨fd, F⟩ := c.def_ 17
      exact ⟨fd, fn_bad, (F.binds fun _ _ _ _ _ _ us hl => match us, hl with | [_, _], _ => rfl)⟩
    a_is_pair := by
      obtain ⟨fd, F⟩ := c.def_ 18
      exact ⟨fd, fn_bad, (F.binds fun _ _ _ _ _ _ us hl => match us, hl with | [_], _ => rfl)⟩
    a_is_number := by
      obtain ⟨fd, F⟩ := c.def_ 19
      exact ⟨fd, fn_bad, (F.binds fun _ _ _ _ _ _ us hl => match us, hl with | [_], _ => rfl)⟩
    a_Board___eq__ := by
      obtain ⟨fd, F⟩ := c.def_ 20
      exact ⟨fd, fn_bad, (F.binds fun _ _ _ _ _ _ us hl => match us, hl with | [_, _], _ => rfl)⟩
    a_Board___len__ := by
      obtain ⟨fd, F⟩ := c.def_ 21
      exact ⟨fd, fn_bad, (F.binds fun _ _ _ _ _ _ us hl => match us, hl with | [_], _ => rfl)⟩
    a_Board___repr__ := by
      obtain ⟨fd, F⟩ := c.def_ 22
      exact ⟨fd, fn_bad, (F.binds fun _ _ _ _ _ _ us hl => match us, hl with | [_], _ => rfl)⟩
    l_0 := lam_bad
    l_1 := lam_bad
    }
  | n + 1 =>
    have c := ce.r
    have Q := prg kt hPf hPs X G ce (als kt hPf hPs X G ce n)
    {
    a__law_start := by
      obtain ⟨fd, F⟩ := c.def_ 0
      exact ⟨fd, (fn_ok true F sc__law_start (fun cdv A outer s H E hr => sb__law_start Cxf.bx takes_bx po_bx hr Q)).imp imp_start, F.binds fun _ _ _ _ _ _ us hl => match us, hl with | [_], _ => rfl⟩
    a__law_draw := by
      obtain ⟨fd, F⟩ := c.def_ 1
      exact ⟨fd, (fn_ok false F sc__law_draw (fun cdv A outer s H E hr => sb__law_draw Cxf.bx takes_bx po_bx hr Q)).imp imp_draw, F.binds fun _ _ _ _ _ _ us hl => match us, hl with | [_, _], _ => rfl⟩
    a_Board_full := by
      obtain ⟨fd, F⟩ := c.def_ 2
      exact ⟨fd, fn_ok false F sc_Board_full (fun cdv A outer s H E hr => sb_Board_full Cxf.bx takes_bx po_bx hr Q), (F.binds fun _ _ _ _ _ _ us hl => match us, hl with | [_, _], _ => rfl), fun_kbnP F fun _ _ _ _ _ _ us ws h1 h2 => match us, ws, h1, h2 with | [_], [_], _, _ => rfl⟩
    a_check_number := by
      obtain ⟨fd, F⟩ := c.def_ 3
      exact ⟨fd, fn_ok false F sc_check_number (fun cdv A outer s H E hr => sb_check_number Cxf.bx takes_bx po_bx hr Q), (F.binds fun _ _ _ _ _ _ us hl => match us, hl with | [_, _, _], _ => rfl)⟩
    a_Board___init__ := by
      obtain ⟨fd, F⟩ := c.def_ 4
      exact ⟨fd, fn_ok false F sc_Board___init__ (fun cdv A outer s H E hr => sb_Board___init__ Cxf.bx takes_bx po_bx hr Q), (F.binds fun _ _ _ _ _ _ us hl => match us, hl with | [_, _, _], _ => rfl)⟩
    a__law_pick := by
      obtain ⟨fd, F⟩ := c.def_ 5
      exact ⟨fd, fn_ok false F sc__law_pick (fun cdv A outer s H E hr => sb__law_pick Cxf.bx takes_bx po_bx hr Q), (F.binds fun _ _ _ _ _ _ us hl => match us, hl with | [_, _], _ => rfl)⟩
    a__law_plan := by
      obtain ⟨fd, F⟩ := c.def_ 6
      exact ⟨fd, fn_ok false F sc__law_plan (fun cdv A outer s H E hr => sb__law_plan Cxf.bx takes_bx po_bx hr Q), (F.binds fun _ _ _ _ _ _ us hl => match us, hl with | [_, _, _, _, _], _ => rfl)⟩
    a__law_mixed := by
      obtain ⟨fd, F⟩ := c.def_ 7
      exact ⟨fd, fn_ok false F sc__law_mixed (fun cdv A outer s H E hr => sb__law_mixed Cxf.bx takes_bx po_bx hr Q), (F.binds fun _ _ _ _ _ _ us hl => match us, hl with | [_, _], _ => rfl)⟩
    a__law_made := by
      obtain ⟨fd, F⟩ := c.def_ 8
      exact ⟨fd, fn_ok false F sc__law_made (fun cdv A outer s H E hr => sb__law_made Cxf.bx takes_bx po_bx hr Q), (F.binds fun _ _ _ _ _ _ us hl => match us, hl with | [_], _ => rfl)⟩
    a__law_keys := by
      obtain ⟨fd, F⟩ := c.def_ 9
      exact ⟨fd, fn_ok false F sc__law_keys (fun cdv A outer s H E hr => sb__law_keys Cxf.bx takes_bx po_bx hr Q), (F.binds fun _ _ _ _ _ _ us hl => match us, hl with | [_], _ => rfl)⟩
    a_Board_width := by
      obtain ⟨fd, F⟩ := c.def_ 10
      exact ⟨fd, fn_ok false F sc_Board_width (fun cdv A outer s H E hr => sb_Board_width Cxf.bx takes_bx po_bx hr Q), (F.binds fun _ _ _ _ _ _ us hl => match us, hl with | [_], _ => rfl)⟩
    a_Board_height := by
      obtain ⟨fd, F⟩ := c.def_ 11
      exact ⟨fd, fn_ok false F sc_Board_height (fun cdv A outer s H E hr => sb_Board_height Cxf.bx takes_bx po_bx hr Q), (F.binds fun _ _ _ _ _ _ us hl => match us, hl with | [_], _ => rfl)⟩
    a__law_tries := by
      obtain ⟨fd, F⟩ := c.def_ 12
      exact ⟨fd, fn_ok false F sc__law_tries (fun cdv A outer s H E hr => sb__law_tries Cxf.bx takes_bx po_bx hr Q), (F.binds fun _ _ _ _ _ _ us hl => match us, hl with | [_], _ => rfl)⟩
    a__law_try := by
      obtain ⟨fd, F⟩ := c.def_ 13
      exact ⟨fd, fn_ok false F sc__law_try (fun cdv A outer s H E hr => sb__law_try Cxf.bx TryX.bx takes_bx po_bx hr Q), (F.binds fun _ _ _ _ _ _ us hl => match us, hl with | [_], _ => rfl)⟩
    a__law_fields := by
      obtain ⟨fd, F⟩ := c.def_ 14
      exact ⟨fd, fn_okL false F sc__law_fields (fun cdv A outer s H E hr => sb__law_fields Cxq.blx takes_blx hr Q), (F.binds fun _ _ _ _ _ _ us hl => match us, hl with | [_], _ => rfl)⟩
    a__law_like := by
      obtain ⟨fd, F⟩ := c.def_ 15
      exact ⟨fd, fn_ok false F sc__law_like (fun cdv A outer s H E hr => sb__law_like Cxf.bx takes_bx po_bx hr Q), (F.binds fun _ _ _ _ _ _ us hl => match us, hl with | [_, _], _ => rfl)⟩
    a__law_odd_values := by
      obtain ⟨fd, F⟩ := c.def_ 16
      exact ⟨fd, fn_ok false F sc__law_odd_values (fun cdv A outer s H E hr => sb__law_odd_values Cxf.bx takes_bx po_bx hr Q), (F.binds fun _ _ _ _ _ _ us hl => match us, hl with | [], _ => rfl)⟩
    a_Board___contains__ := by
      obtain ⟨fd, F⟩ := c.def_ 17
      exact ⟨fd, fn_ok false F sc_Board___contains__ (fun cdv A outer s H E hr => sb_Board___contains__ Cxf.bx takes_bx po_bx hr Q), (F.binds fun _ _ _ _ _ _ us hl => match us, hl with | [_, _], _ => rfl)⟩
    a_is_pair := by
      obtain ⟨fd, F⟩ := c.def_ 18
      exact ⟨fd, fn_ok false F sc_is_pair (fun cdv A outer s H E hr => sb_is_pair Cxf.bx takes_bx po_bx hr Q), (F.binds fun _ _ _ _ _ _ us hl => match us, hl with | [_], _ => rfl)⟩
    a_is_number := by
      obtain ⟨fd, F⟩ := c.def_ 19
      exact ⟨fd, fn_ok false F sc_is_number (fun cdv A outer s H E hr => sb_is_number Cxf.bx takes_bx po_bx hr Q), (F.binds fun _ _ _ _ _ _ us hl => match us, hl with | [_], _ => rfl)⟩
    a_Board___eq__ := by
      obtain ⟨fd, F⟩ := c.def_ 20
      exact ⟨fd, fn_ok false F sc_Board___eq__ (fun cdv A outer s H E hr => sb_Board___eq__ Cxf.bx takes_bx po_bx hr Q), (F.binds fun _ _ _ _ _ _ us hl => match us, hl with | [_, _], _ => rfl)⟩
    a_Board___len__ := by
      obtain ⟨fd, F⟩ := c.def_ 21
      exact ⟨fd, fn_ok false F sc_Board___len__ (fun cdv A outer s H E hr => sb_Board___len__ Cxf.bx takes_bx po_bx hr Q), (F.binds fun _ _ _ _ _ _ us hl => match us, hl with | [_], _ => rfl)⟩
    a_Board___repr__ := by
      obtain ⟨fd, F⟩ := c.def_ 22
      exact ⟨fd, fn_ok false F sc_Board___repr__ (fun cdv A outer s H E hr => sb_Board___repr__ Cxf.bx takes_bx po_bx hr Q), (F.binds fun _ _ _ _ _ _ us hl => match us, hl with | [_], _ => rfl)⟩
    l_0 := by
      have S : LamS (Keys.txt 0) := by rw [kt]; exact lamS_of (by decide +kernel)
      have B : LamB (Keys.txt 0) := by rw [kt]; exact ⟨fun _ _ _ _ _ _ _ => rfl, fun z => (by cases z)⟩
      refine lam_ent (T := lamL 0) (b := bl_0 (callN fnTab n)) ?_ rfl
      have LF := lam_fn (Dw := ⟨P, w, K, mg, base⟩) (k := 2 * n + 3) (i := 0) (b := bl_0 (callN fnTab n)) S B (fun cl f c2 A outer s H E hr => by
        rw [kt] at S hr ⊢
        exact sl_0 (Cxf.lx S) takes_lx po_lx hr Q)
      rw [kt] at LF
      exact LF
    l_1 := by
      have S : LamS (Keys.txt 1) := by rw [kt]; exact lamS_of (by decide +kernel)
      have B : LamB (Keys.txt 1) := by rw [kt]; exact ⟨fun z => (by cases z), fun _ _ _ _ _ _ _ => ⟨_, rfl, fun _ => rfl⟩⟩
      refine lam_ent (T := lamL 1) (b := bl_1 (callN fnTab n)) ?_ rfl
      have LF := lam_fn (Dw := ⟨P, w, K, mg, base⟩) (k := 2 * n + 3) (i := 1) (b := bl_1 (callN fnTab n)) S B (fun cl f c2 A outer s H E hr => by
        rw [kt] at S hr ⊢
        exact sl_1 (Cxf.lx S) takes_lx po_lx hr Q)
      rw [kt] at LF
      exact LF
    }
end
abbrev lawF : Fn := mkFn false 1 15 (b_law (callN fnTab 11))
instance keys0 : R.Keys := ⟨lamL, fun _ => 0, fun _ => Str.empty, []⟩
end Pf

set_option Elab.async false
set_option linter.all false
set_option maxRecDepth 100000
set_option maxHeartbeats 4000000
namespace Pf
open PySem PySem.Spec PyProof.Rows L2 R
set_option maxHeartbeats 0
abbrev RW : PySem.W.OpenRow := PySem.W.OpenLaw.row PySem.Challenge.rw_feintkeys_k07_keys_in_boards
abbrev hk : PySem.W.Hook := hookT 8 fk dl el
def ob (s : PySem.W.SharedT) : AlE := obsTG 8 fk dl el (HandSHeadRun.getT s)
theorem ob_eq (s : PySem.W.SharedT) : ob s = hk.obs s.abs := obsTG_eq (HandSHeadRun.getT_eq s)
def loose : List Str := ["_wall", "__name__", "FeintError", "BadNumber", "BadText", "BadRow", "NoName", "NothingLeft", "SIGNS", "MOST_TICKS", "MOST_LINES", "number_of", "is_number", "is_pair", "check_number", "Board", "_law_start", "_law_draw", "_law_pick", "_law_mixed", "_law_like", "_law_fields", "_law_try", "_law_tries", "_law_plan", "_law_made", "_law_keys", "_law_odd_values"]
theorem run (w : World) : HandSHeadRun.RunEq RW (PySem.W.view RW.prog [30]) hk ob 6000 loose w := by
  intro os
  kernel_rfl
@[reducible] def keysK (K : PySem.W.Frag) : Keys := ⟨lamL, fun _ => tabP K (gA K "law"), fun _ => "law.<locals>.<lambda>", []⟩
theorem facts {P : Program} {w : World} {K : PySem.W.Frag} {h : Heap} {mg : Str → Option Value} {f : Addr} (hPf : ("/claim/cut.py" : Str) = P.main.file) (hPs : (P.main.scope.names.lookup ("super" : Str)).isSome = false) (X : K.In h) (G : h.Ns mainGlobals mg) (hfa : mg ("law" : Str) = some (.ref f)) (ce : SaysE fk dl el K) :
    ∃ (fd : FuncData) (c : Addr) (oc : Value) (od : Option Addr) (osl : Array (Option Value)) (cc : Value) (cd : Option Addr) (vs : Array Value) (cs : Array (Option Value)), K.lookup f = some ⟨oc, od, .func fd, osl⟩ ∧ fd.code = .ref c ∧ K.lookup c = some ⟨cc, cd, .fields vs, cs⟩ ∧ vs[11]? = some (.ref ((keysK K).tab 0)) ∧ K.lookup ((keysK K).tab 0) = none ∧
      (∀ (s : Shared) (v : Value), BindsTo s fd ⟨[v], []⟩ [("_law_script", v)]) ∧ ∀ base : Heap, K.In base → base.Ns mainGlobals mg → LamX.TabB base mg c ((keysK K).tab 0) → FnOk P w K mg base (L2.CX P w) 26 f fd ["_law_script"] (spA (keysK K) K 1 lawF) := by
  have c := SaysE.r ce
  have e := hfa.symm.trans (He.glo_ok X G (c.fact 52))
  cases e
  obtain ⟨fd, F⟩ := c.def_ 23
  obtain ⟨oc, od, fd2, osl, cc, cd, vs, cs, q1, q2, q3, q4, q5⟩ := tab_ok (c.fact 53)
  obtain ⟨oc', od', kV, doc, pm, an, cdv, ct, osl', hfd, lk, hcd⟩ := F.ex
  have e2 := q1.symm.trans lk
  cases e2
  refine ⟨fd, _, oc, od, osl, cc, cd, vs, cs, q1, q2, q3, q4, q5, fun s v => ?_, fun base _ _ tb => ?_⟩
  · rw [hfd]
    exact .of_eq rfl
  · refine fn_okK (keysK K) false F q2 sc_law fun A outer s H E hr => ?_
    letI : Keys := (keysK K).at (envOfC "law" (defScope s_law) s.heap.objs.size (gA K "law") (.ref (tabC K (gA K "law")))).cells
    exact sb_law Cxf.bx (lawH_bx (keysK K) tb rfl rfl) rfl takes_bx po_bx hr (prg rfl hPf hPs X G ce (als rfl hPf hPs X G ce 11))
end Pf

set_option maxHeartbeats 4000000
set_option Elab.async false
set_option linter.all false
set_option maxRecDepth 100000
namespace Pf
open PySem PySem.Spec PyProof.Rows L2 R
local macro_rules | `(tactic| walk_at "sx") => `(tactic| simp (maxSteps := 5000000) (disch := first | omega | (simp; done) | ((simp only [Str.length_append, List.length_cons, List.length_nil, List.length_map, List.length_append, List.length_take, List.length_drop]) <;> omega)) [-kMak_r])
local macro_rules | `(tactic| walk_at "sz") => `(tactic| simp (maxSteps := 5000000) (disch := first | omega | (simp [*]; done) | ((simp only [Str.length_append, List.length_cons, List.length_nil, List.length_map, List.length_append, List.length_take, List.length_drop, List.length_replicate]) <;> omega)) [*, -kMak_r, cutD_map, R.atI_map])
abbrev M0 : List MO := [.tab 0, .hand]
theorem cl0 : Cl M0 := rfl
abbrev okR (d : D) : T (Re Sl) := .ret (.ok (.dat d) M0)
def odds : List D := [.non, .bl true, .int 3, .str "", .str "a", .tup [], .tup [.int 0], .tup [.int 0, .int 0, .int 0], .lst [.int 0, .int 0], .tup [.int 0, .str "0"], .tup [.non, .int 0], .tup [.int 9, .int 0], .tup [.int 0, .int (-1)], .tup [.tup [.int 0, .int 0], .int 0], .tup [.bl true, .int 0]]
structure Tb (C : Nat → Fn) : Prop where
  c0 : C 0 = prim__law_start
  c1 : C 1 = prim__law_draw
  t5 : ∃ t : Tbl, C 5 = mkFn false 2 2 (bPick prim__law_draw t)
  t6 : ∃ t : Tbl, C 6 = mkFn false 5 15 (bPlan prim__law_draw (mkFn false 2 2 (bPick prim__law_draw t)) (mkFn false 2 4 (bMixed prim__law_draw t)))
  made : ∀ {k : Int} {rows : List (Int × Str)} {w : Nat}, BoardOk k rows w → C 8 [.dat (planD k rows)] M0 = okR (boardD k rows)
  keys : ∀ {k : Int} {rows : List (Int × Str)} {w : Nat}, BoardOk k rows w → C 9 [.dat (planD k rows)] M0 = okR (.lst (keysF 0 rows))
  len : ∀ {k : Int} {rows : List (Int × Str)} {w : Nat}, BoardOk k rows w → C 21 [.dat (boardD k rows)] M0 = okR (.int ((keysF 0 rows).length : Int))
  odd : C 16 [] M0 = okR (.lst odds)
  inP : ∀ {k : Int} {rows : List (Int × Str)} (a b : Int), cmpG .In [(0, C 20)] [(0, C 17)] (.dat (.tup [.int a, .int b])) (.dat (boardD k rows)) M0 = okR (.bl (inK (.tup [.int a, .int b]) (keysF 0 rows)))
  inO : ∀ {k : Int} {rows : List (Int × Str)} {w : Nat}, BoardOk k rows w → ∀ d ∈ odds, cmpG .In [(0, C 20)] [(0, C 17)] (.dat d) (.dat (boardD k rows)) M0 = okR (.bl false)
  inL : ∀ {k : Int} {rows : List (Int × Str)} (a b : Int), cmpG .In [(0, C 20)] [(0, C 17)] (.dat (.lst [.int a, .int b])) (.dat (boardD k rows)) M0 = okR (.bl false)
  inT : ∀ {k : Int} {rows : List (Int × Str)} (a b : Int), cmpG .In [(0, C 20)] [(0, C 17)] (.dat (.tup [.int a, .int b, .int 0])) (.dat (boardD k rows)) M0 = okR (.bl false)
  like : ∀ {d}, good 4 d = true → C 15 [.dat d, .dat d] M0 = okR (.bl true)
  full : ∀ {a b : Nat}, a < 4 → b < 4 → C 2 [.dat (.int (1 + (a : Int))), .dat (.int (1 + (b : Int)))] M0 = okR (boardD (1 + (a : Int)) (fullR a b))
  hgt : ∀ {a b : Nat}, a < 4 → b < 4 → C 11 [.dat (boardD (1 + (a : Int)) (fullR a b))] M0 = okR (.int (1 + (a : Int)))
  wid : ∀ {a b : Nat}, a < 4 → b < 4 → C 10 [.dat (boardD (1 + (a : Int)) (fullR a b))] M0 = okR (.int (1 + (b : Int)))
  mkb : ∀ {a b : Nat}, a < 4 → b < 4 → kMak true 0 (C 4) [.dat (.int (1 + (a : Int))), .dat (.lst ((fullR a b).map rowD))] M0 = okR (boardD (1 + (a : Int)) (fullR a b))
  eq : ∀ {k : Int} {rows : List (Int × Str)}, cmpG .Eq [(0, C 20)] [(0, C 17)] (.dat (boardD k rows)) (.dat (boardD k rows)) M0 = okR (.bl true)
  tries : ∀ {x : Int}, x = 0 ∨ x = 5 ∨ x = -2 ∨ x = 10000000000 → C 12 [.dat (.lst [.fnc 0 [.int x], .fnc 1 [.int x]])] M0 = okR (.lst [.tup [.str "BadNumber", .int x], .tup [.str "BadNumber", .int x]])
theorem law_run (C : Nat → Fn) (h : Tb C) (ns : List Int) : W (b_law C [.dat (.scr ns), .un, .un, .un, .un, .un, .un, .un, .un, .un, .un, .un, .un, .un, .un] [.tab 0]) fun r => W (retK false 1 r) fun r => ∃ M, r = .ok (.dat (.bl true)) M := by
  obtain ⟨t5, h5⟩ := h.t5
  obtain ⟨t6, h6⟩ := h.t6
  have ho := h.odd
  have pw : ∀ M : List MO, bin .Pow M (.dat (.int 10)) (.dat (.int 10)) = some (.dat (.int 10000000000), M) := fun _ => rfl
  have so1 : PyData.strOk (Str.ofString "BadNumber") = true := by decide +kernel
  unfold b_law
  rw [h.c0, h.c1]
  simp [prim__law_start]
  refine W_walk (fun _ ρ M => ρ = .dat (.scr ns) :: .mu 1 :: List.replicate 13 .un ∧ M = M0) ?_ ?_ _ _ _ ⟨rfl, rfl⟩
  · rintro d r _ _ ⟨rfl, rfl⟩
    refine ⟨_, rfl, ?_⟩
    walk_at "sx"
    rw [h6]
    refine plan_wp (high := 4) (wide := 4) (most := 16) (longest := 6) cl0 rfl (by omega) (by omega) (by omega) fun k rows w pk => ?_
    have bo : BoardOk k rows w := PlanOk.board pk (by omega) (by omega) (by omega)
    have md := h.made bo
    have ky := h.keys bo
    have ln := h.len bo
    have bk := bo.keys
    have hl := bo.h2
    walk_at "sz"
    have lst1 : ∀ d ∈ keysF 0 rows, ∃ a b : Int, d = .tup [.int a, .int b] := fun d hd => by
      rw [keysF_z] at hd
      obtain ⟨p, _, rfl⟩ := List.mem_map.mp hd
      exact ⟨p.1, p.2, rfl⟩
    refine W_same (fun d hd => ⟨_, rfl, ?_⟩) ?_
    · obtain ⟨i, rfl, hi⟩ := rng_mem hd
      walk_at "sz"
      refine W_same (fun d hd => ⟨_, rfl, ?_⟩) ?_
      · obtain ⟨j, rfl, hj⟩ := rng_mem hd
        have ip := h.inP (k := k) (rows := rows) (i : Int) (j : Int)
        have ck : cmpV .In M0 (.dat (.tup [.int (i : Int), .int (j : Int)])) (.dat (.lst (keysF 0 rows))) = some (inK (.tup [.int (i : Int), .int (j : Int)]) (keysF 0 rows)) := cin_keys
        have lk := h.like (d := .bl (inK (.tup [.int (i : Int), .int (j : Int)]) (keysF 0 rows))) rfl
        walk_at "sz"
      · walk_at "sz"
    · have io := h.inO bo
      have ol : odds.length = 15 := rfl
      walk_at "sz"
      rw [cmpD_no (by intro x hx; have e := io x hx; simp [e])]
      have an : anyG false M0 [.dat (.lst (List.replicate odds.length (D.bl false)))] = some (.dat (.bl false), M0) := any_no
      clear ol
      walk_at "sz"
      rw [cmpD_no (by intro x hx; obtain ⟨a, b, rfl⟩ := lst1 x hx; have e := h.inL (k := k) (rows := rows) a b; simp [e])]
      walk_at "sz"
      rw [cmpD_no (by intro x hx; obtain ⟨a, b, rfl⟩ := lst1 x hx; have e := h.inT (k := k) (rows := rows) a b; simp [e])]
      have ek : eqK (D.lst (List.replicate ((keysF 0 rows).length + (keysF 0 rows).length) (D.bl false))) (D.lst (List.replicate (2 * ((keysF 0 rows).length : Int)).toNat (D.bl false))) = some true := by
        rw [show (2 * ((keysF 0 rows).length : Int)).toNat = (keysF 0 rows).length + (keysF 0 rows).length by omega, eqK_ll plains_rep plains_rep, sms_rep]
      walk_at "sz"
  · rintro _ _ ⟨rfl, rfl⟩
    walk_at "sz"
    refine draw_W rfl (by omega) (by omega) fun d1 l1 u1 => ?_
    walk_at "sz"
    refine draw_W rfl (by omega) (by omega) fun d2 l2 u2 => ?_
    obtain ⟨a, rfl⟩ : ∃ a : Nat, d1 = a := ⟨d1.toNat, by omega⟩
    obtain ⟨b, rfl⟩ : ∃ b : Nat, d2 = b := ⟨d2.toNat, by omega⟩
    have ha : a < 4 := by omega
    have hb : b < 4 := by omega
    have fl := h.full ha hb
    have hg := h.hgt ha hb
    have wd := h.wid ha hb
    have pp : permL [0] [Sl.dat (.int (1 + (b : Int)))] = [Sl.dat (.int (1 + (b : Int)))] := rfl
    have tn : (1 + (a : Int)).toNat = a + 1 := by omega
    have lr : (rng 0 (a + 1)).length = a + 1 := by unfold rng; simp
    walk_at "sz"
    have bm : ∀ M : List MO, bin .Mult M (.dat (.str "o")) (.dat (.int (1 + (b : Int)))) = some (.dat (.str (Txt.mul "o" (1 + (b : Int)))), M) := fun M => bin_mul_s (by omega) (by omega) (by decide +kernel)
    rw [cmpD_rng (f := fun i : Nat => D.tup [.int (i : Int), .str (Txt.mul "o" (1 + (b : Int)))]) (by intro i; simp [wd, bm])]
    have rr : (List.range (a + 1)).map (fun i : Nat => D.tup [.int (i : Int), .str (Txt.mul "o" (1 + (b : Int)))]) = (fullR a b).map rowD := by
      unfold fullR oS
      rw [List.map_map]
      refine List.map_congr_left fun i _ => ?_
      show _ = D.tup [.int (i : Int), .str (Txt.mul "o" ((b + 1 : Nat) : Int))]
      rw [show ((b + 1 : Nat) : Int) = 1 + (b : Int) by omega]
    rw [rr]
    clear rr
    walk_at "sz"
    refine pick_W rfl (by simp) (by simp) fun d hd => ?_
    obtain ⟨x, rfl, hx⟩ : ∃ x : Int, d = .int x ∧ (x = 0 ∨ x = 5 ∨ x = -2 ∨ x = 10000000000) := by
      simp at hd
      rcases hd with rfl | rfl | rfl | rfl <;> exact ⟨_, rfl, by omega⟩
    have tt := h.tries hx
    have mb := h.mkb ha hb
    have eb := h.eq (k := 1 + (a : Int)) (rows := fullR a b)
    have ln := h.len (full_ok ha hb)
    have bk := (full_ok ha hb).keys
    clear hd hx
    walk_at "sz"
    have qq : ((keysF 0 (fullR a b)).length : Int) = (1 + (a : Int)) * (1 + (b : Int)) := by
      rw [full_keys a ha b hb]
      simp [Int.add_comm]
    walk_at "sz"
/-! the functions of the table -/
section
variable {n : Nat} {k : Int} {rows : List (Int × Str)} {w : Nat}
abbrev T2 (n : Nat) : Tbl := [(0, callN fnTab n 21)]
theorem c6 : callN fnTab (n + 3) 6 = mkFn false 5 15 (bPlan prim__law_draw (mkFn false 2 2 (bPick prim__law_draw (T2 (n + 1)))) (mkFn false 2 4 (bMixed prim__law_draw (T2 (n + 1))))) := rfl
theorem c4 : callN fnTab (n + 2) 4 = mkFn false 3 13 (bInitX (mkFn false 3 3 (bChk 12)) (T2 (n + 1))) := rfl
theorem c3 : callN fnTab (n + 1) 3 = mkFn false 3 3 (bChk 12) := rfl
theorem c17 : callN fnTab (n + 1) 17 = mkFn false 2 2 (bCont (callN fnTab n 18)) := rfl
theorem mkG (bo : BoardOk k rows w) : kMak true 0 (callN fnTab (n + 2) 4) [.dat (.int k), .dat (.lst (rows.map rowD))] M0 = okR (boardD k rows) := by
  rw [c4, mkBoard cl0 (by have := bo.h2; omega) (fun r hr => by have := (bo.sg r hr).1; have := bo.w2; omega)]
  unfold brd
  rw [if_pos ⟨bo.k1, bo.k2⟩, if_pos ⟨bo.h1, bo.h2⟩, G3.all_good bo]
theorem pairY (a b : Int) : callN fnTab (n + 2) 18 [.dat (.tup [.int a, .int b])] M0 = okR (.bl true) := by kernel_rfl
theorem pairL (a b : Int) : callN fnTab (n + 2) 18 [.dat (.lst [.int a, .int b])] M0 = okR (.bl false) := by kernel_rfl
theorem pairT (a b : Int) : callN fnTab (n + 2) 18 [.dat (.tup [.int a, .int b, .int 0])] M0 = okR (.bl false) := by kernel_rfl
theorem pairO : ∀ d ∈ odds, callN fnTab (n + 2) 18 [.dat d] M0 = okR (.bl false) ∨ ∃ a b : Int, d = .tup [.int a, .int b] ∧ (4 ≤ a ∨ b < 0) := by
  intro d hd
  unfold odds at hd
  simp only [List.mem_cons, List.not_mem_nil, or_false] at hd
  rcases hd with rfl | rfl | rfl | rfl | rfl | rfl | rfl | rfl | rfl | rfl | rfl | rfl | rfl | rfl | rfl
  · exact .inl (by kernel_rfl)
  · exact .inl (by kernel_rfl)
  · exact .inl (by kernel_rfl)
  · exact .inl (by kernel_rfl)
  · exact .inl (by kernel_rfl)
  · exact .inl (by kernel_rfl)
  · exact .inl (by kernel_rfl)
  · exact .inl (by kernel_rfl)
  · exact .inl (by kernel_rfl)
  · exact .inl (by kernel_rfl)
  · exact .inl (by kernel_rfl)
  · exact .inr ⟨9, 0, rfl, .inl (by omega)⟩
  · exact .inr ⟨0, -1, rfl, .inr (by omega)⟩
  · exact .inl (by kernel_rfl)
  · exact .inl (by kernel_rfl)
theorem f_num (C : Nat → Fn) (x : Int) (M : List MO) : b__law_fields C [.dat (.exc 12 (numX x))] M = .ret (.ok (.rt (.dat (.tup [.int x]))) M) := by kernel_rfl
theorem try_x {i : Nat} (hi : i < 2) {ws : List D} {x : Int} (e : callN fnTab (n + 1) (23 + i) (ws.map .dat) M0 = .ret (.ex 12 (numX x) M0)) : callN fnTab (n + 2) 13 [.dat (.fnc i ws)] M0 = okR (.tup [.str "BadNumber", .int x]) := by
  rw [cc_13]
  refine try_ex (lamTb_lt hi) e rfl rfl rfl ?_ rfl rfl (by simp)
  rw [cc_14, fn_eq (by rfl)]
  show (b__law_fields _ [.dat (.exc 12 (numX x))] M0).bind _ = _
  rw [f_num, x_bret, retK_dat, cut_self rfl]
theorem full_bad0 {x : Int} {y : D} (h : ¬ (1 ≤ x ∧ x ≤ 4)) : callN fnTab (n + 2) 2 [.dat (.int x), .dat y] M0 = .ret (.ex 12 (numX x) M0) := by
  rw [cc_2, fn_eq (by rfl)]
  have key : b_Board_full (callN fnTab (n + 1)) [.dat (.int x), .dat y, .un] M0 = .ret (.ex 12 (numX x) M0) := by
    unfold b_Board_full
    rw [c3]
    simp [chk_run, h]
  show (b_Board_full _ [.dat (.int x), .dat y, .un] M0).bind _ = _
  rw [key, x_bret, retK_ex, cut_self rfl]
theorem full_bad1 {x : Int} (h : ¬ (1 ≤ x ∧ x ≤ 4)) : callN fnTab (n + 2) 2 [.dat (.int 2), .dat (.int x)] M0 = .ret (.ex 12 (numX x) M0) := by
  rw [cc_2, fn_eq (by rfl)]
  have key : b_Board_full (callN fnTab (n + 1)) [.dat (.int 2), .dat (.int x), .un] M0 = .ret (.ex 12 (numX x) M0) := by
    unfold b_Board_full
    rw [c3]
    simp [chk_run, h]
  show (b_Board_full _ [.dat (.int 2), .dat (.int x), .un] M0).bind _ = _
  rw [key, x_bret, retK_ex, cut_self rfl]
theorem rowsE {a b : Nat} : (List.range (a + 1)).map (fun i : Nat => D.tup [.int (i : Int), .str (Txt.mul "o" (1 + (b : Int)))]) = (fullR a b).map rowD := by
  unfold fullR oS
  rw [List.map_map]
  refine List.map_congr_left fun i _ => ?_
  show _ = D.tup [.int (i : Int), .str (Txt.mul "o" ((b + 1 : Nat) : Int))]
  rw [show ((b + 1 : Nat) : Int) = 1 + (b : Int) by omega]
theorem full_run {a b : Nat} (ha : a < 4) (hb : b < 4) : callN fnTab (n + 3) 2 [.dat (.int (1 + (a : Int))), .dat (.int (1 + (b : Int)))] M0 = okR (boardD (1 + (a : Int)) (fullR a b)) := by
  rw [cc_2, fn_eq (by rfl)]
  have m := mkG (n := n) (full_ok ha hb)
  have key : b_Board_full (callN fnTab (n + 2)) [.dat (.int (1 + (a : Int))), .dat (.int (1 + (b : Int))), .un] M0 = .ret (.ok (.rt (.dat (boardD (1 + (a : Int)) (fullR a b)))) M0) := by
    have k1 := chk_good (c := 12) (M := M0) (x := 1 + (a : Int)) (lo := 1) (hi := 4) (by omega) (by omega)
    have k2 := chk_good (c := 12) (M := M0) (x := 1 + (b : Int)) (lo := 1) (hi := 4) (by omega) (by omega)
    have tn : (1 + (a : Int)).toNat = a + 1 := by omega
    have lr : (rng 0 (a + 1)).length = a + 1 := by unfold rng; simp
    have bm : ∀ M : List MO, bin .Mult M (.dat (.str "o")) (.dat (.int (1 + (b : Int)))) = some (.dat (.str (Txt.mul "o" (1 + (b : Int)))), M) := fun M => bin_mul_s (by omega) (by omega) (by decide +kernel)
    unfold b_Board_full
    rw [c3]
    walk_at "sz"
    rw [cmpD_rng (f := fun i : Nat => D.tup [.int (i : Int), .str (Txt.mul "o" (1 + (b : Int)))]) (by intro i; simp [bm]), rowsE]
    walk_at "sz"
  show (b_Board_full _ [.dat (.int (1 + (a : Int))), .dat (.int (1 + (b : Int))), .un] M0).bind _ = _
  rw [key, x_bret, retK_dat, cut_self rfl]
theorem tb (n : Nat) : Tb (callN fnTab (n + 7)) where
  c0 := rfl
  c1 := rfl
  t5 := ⟨_, rfl⟩
  t6 := ⟨_, c6⟩
  made := fun {k rows w} bo => by
    have m := mkG (n := n + 4) bo
    rw [cc_8, fn_eq (by rfl)]
    show (b__law_made _ [.dat (planD k rows)] M0).bind _ = _
    unfold b__law_made
    simp [-kMak_r, m]
  keys := fun bo => by rw [cc_9]; exact law_keys_run bo
  len := fun bo => by rw [cc_21]; exact len_run bo
  odd := by kernel_rfl
  inP := fun a b => gIn_board (by rw [c17]; exact cont_yes (pairY a b))
  inO := fun {k rows w} bo d hd => gIn_board (by
    rw [c17]
    rcases pairO (n := n + 4) d hd with e | ⟨a, b, rfl, h⟩
    · exact cont_no e
    · have q := cont_yes (M := M0) (k := k) (rows := rows) (pairY (n := n + 4) a b)
      rw [keys_no bo.h2 h] at q
      exact q)
  inL := fun a b => gIn_board (by rw [c17]; exact cont_no (pairL a b))
  inT := fun a b => gIn_board (by rw [c17]; exact cont_no (pairT a b))
  like := fun {d} g => like_good (L := fun n => callN fnTab n 15) (fun n => cc_15) (show 4 ≤ n + 6 by omega) g
  full := fun ha hb => full_run ha hb
  hgt := fun {a b} ha hb => by
    have e : callN fnTab (n + 7) 11 [.dat (boardD (1 + (a : Int)) (fullR a b))] M0 = okR (.int ((fullR a b).length : Int)) := by rw [cc_11]; exact height_run (full_ok ha hb)
    rw [e, full_len, show ((a + 1 : Nat) : Int) = 1 + (a : Int) by omega]
  wid := fun {a b} ha hb => by
    have e : callN fnTab (n + 7) 10 [.dat (boardD (1 + (a : Int)) (fullR a b))] M0 = okR (.int ((b + 1 : Nat) : Int)) := by rw [cc_10]; exact width_run (full_ok ha hb)
    rw [e, show ((b + 1 : Nat) : Int) = 1 + (b : Int) by omega]
  mkb := fun ha hb => mkG (n := n + 5) (full_ok ha hb)
  eq := fun {k rows} => g_eq (by
    rw [cc_20]
    have q := eq_run (M := M0) (k := k) (rows := rows) (k' := k) (rows' := rows)
    rw [decide_eq_true rfl] at q
    exact q)
  tries := fun {x} hx => by
    have hb : ¬ (1 ≤ x ∧ x ≤ 4) := by omega
    have t1 : callN fnTab (n + 6) 13 [.dat (.fnc 0 [.int x])] M0 = okR (.tup [.str "BadNumber", .int x]) := by
      refine try_x (n := n + 4) (i := 0) (by omega) ?_
      have e : ∀ y, callN fnTab (n + 4) 2 [.dat (.int x), .dat y] M0 = .ret (.ex 12 (numX x) M0) := fun y => full_bad0 (n := n + 2) hb
      rw [show (23 + 0 : Nat) = 23 from rfl, cc_23]
      have ba : bin .Add M0 (.dat (.int x)) (.dat (.int 1)) = some (.dat (.int (x + 1)), M0) := rfl
      unfold bl_0
      simp [e, ba]
    have t2 : callN fnTab (n + 6) 13 [.dat (.fnc 1 [.int x])] M0 = okR (.tup [.str "BadNumber", .int x]) := by
      refine try_x (n := n + 4) (i := 1) (by omega) ?_
      have e : callN fnTab (n + 4) 2 [.dat (.int 2), .dat (.int x)] M0 = .ret (.ex 12 (numX x) M0) := full_bad1 (n := n + 2) hb
      rw [show (23 + 1 : Nat) = 24 from rfl, cc_24]
      unfold bl_1
      simp [e]
    have r := tries_run (M := M0) (F := callN fnTab (n + 6) 13) (xs := [(D.fnc 0 [.int x], D.tup [.str "BadNumber", .int x]), (.fnc 1 [.int x], .tup [.str "BadNumber", .int x])]) (f := fun p => p.1) (g := fun p => p.2) (by simp) (by
      intro x hx
      simp only [List.mem_cons, List.not_mem_nil, or_false] at hx
      rcases hx with rfl | rfl
      · exact t1
      · exact t2)
    rw [cc_12]
    exact r
end
theorem plainW (ns : List Int) (hl : ns.length ≤ 63) : W (lawF [.dat (.scr ns)] [.tab 0]) fun r => ∃ M, r = .ok (.dat (.bl true)) M :=
  W_mkFn rfl (law_run _ (tb 4) ns)
end Pf

set_option Elab.async false
set_option linter.all false
set_option maxRecDepth 100000
set_option maxHeartbeats 4000000
set_option maxHeartbeats 0
namespace Pf
open PySem PySem.Spec PyProof.Rows L2 R
theorem sp_law {K : PySem.W.Frag} {ns : List Int} {H : Hp} {a : Addr} (hT : H ((keysK K).tab 0) = some (.tbl #[])) (hS : SqL K H a (ns.map V.int)) (hl : ns.length ≤ 63) : spA (keysK K) K 1 lawF [.ref a] H (fun v _ => v = .bl true) fun _ _ _ => False :=
  law_spTW (keysK K) hT hS (plainW ns hl)
end Pf
open PySem PySem.W PySem.Calls PyProof.Rows
theorem PySem.Challenge.cw_feintkeys_k07_keys_in_boards_holds : PySem.Challenge.rw_feintkeys_k07_keys_in_boards.Holds := by
  w_on; o_law
  refine HandSHeadRun.head_any (r := OpenLaw.row PySem.Challenge.rw_feintkeys_k07_keys_in_boards) (q := view (OpenLaw.row PySem.Challenge.rw_feintkeys_k07_keys_in_boards).prog [30]) (H := Pf.hk) (ob := Pf.ob) (M := 6000) (loose := Pf.loose) (d := HandSHeadRun.topDef (OpenLaw.row PySem.Challenge.rw_feintkeys_k07_keys_in_boards).prog 30) (kwd := []) Pf.ob_eq
    (by kernel_rfl) (fun s => by kernel_rfl) Pf.run (by kernel_rfl) (by kernel_rfl) (by kernel_rfl) (by rfl) (by first | assumption | decide +kernel) (by decide +kernel) ⟨rfl, rfl, rfl, rfl, rfl, by decide +kernel⟩ ?hw ?hc
  case hw => w_witness2
  case hc =>
    refine R.walk_RT (l := PySem.Challenge.rw_feintkeys_k07_keys_in_boards) (n := 63) (k := 26) (x := "_law_script") rfl (by decide) (by kernel_rfl) ⟨rfl, by decide, by decide⟩ (by kernel_rfl) ?F
    intro w mg fa h Y G hmg0
    obtain ⟨K, KX, c⟩ := Y
    have hmg : mg ("law" : PySem.Str) = some (.ref fa) := by
      have e : (HandSHeadRun.topDef (OpenLaw.row PySem.Challenge.rw_feintkeys_k07_keys_in_boards).prog 30).name = ("law" : PySem.Str) := by kernel_rfl
      rw [← e]
      exact hmg0
    obtain ⟨fd, c1, oc, od, osl, cc, cd, vs, cs, q1, q2, q3, q4, q5, hb, hF⟩ := Pf.facts (P := (PySem.Challenge.rw_feintkeys_k07_keys_in_boards).prog) (w := w) rfl rfl KX G hmg c
    exact ⟨K, fd, c1, _, oc, od, osl, cc, cd, vs, cs, R.spA (Pf.keysK K) K 1 Pf.lawF, KX, q1, q2, q3, q4, q5, hb, fun H a ns hl hT hS => Pf.sp_law hT hS hl, hF⟩

