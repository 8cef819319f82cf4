import PyProof.Rows.All
import Wide.All
import OpenK.AllK
import Wide.FinOn
import HandS.ForMost
import HandS.Exc
import HandS.TryOnly
import HandS.ExcOwn
import HandS.WordsExc
import HandS.CallSlots
import KE.KeyNested
import HandS.Nested
import HandS.Flow
import HandS.TupAny
import HandS.Wide
import HandS.IsInst
import HandS.ExcIs
import KE.KExcIs
import HandS.Defaults
import KE.KCallOwn
import KE.KOpsOwn
import PyProof.DictMoreH
import PyProof.DictCalls
import KE.KDictZip
import HandS.Zip0
import PyProof.EnumMake
import HandS.Zip
import HandS.ExcValue
import HandS.Comp
import HandS.ExcInit
import HandS.ExcField
import HandS.List
import HandS.Text
import HandS.Deep
import KE.KUnpackStar
import KE.KLam
import PyProof.ReprRoads
import HandS.Conv
import HandS.HeadWalk
import HandS.Head2
import HandS.HeadHook2
import HandS.EndTab
import HandS.EndBits
import KE.KNestM
import HandS.HeadHook4
import PySem.Challenge.RW_lateplaces_k54_facts_on_graphs
import PyProof.StrLawsTight
import PyProof.StrLawsChain
import PyProof.StrLawsRepr
import PyProof.Rows.StrIn
set_option Elab.async false
set_option linter.all false
set_option maxRecDepth 100000
section
/-! Mp, part 1: plain data, the store, frames; how they lie to the abstract heap. -/
namespace Mp
open PySem L2

/-- a Python value as plain data; ref: a shared object of the store; ins, exc: by the class's name -/
inductive D where
  | non | bl (b : Bool) | int (i : Int) | str (x : Str)
  | tup (ds : List D) | lst (ds : List D)
  | dct (ks vs : List D)
  | ins (C : Str) (ns : List Str) (ds : List D)
  | exc (C : Str) (ns : List Str) (ds : List D)
  | clo (c : Nat) (ds : List D)
  | scr (ns : List Int)
  | ref (n : Nat)
  | fn (f : Str)
  | ty (n : String)
  deriving Inhabited

/-- an object that may change -/
inductive MO where
  | lst (ds : List D)
  | dct (ks vs : List D)
  | ins (C : Str) (ns : List Str) (ds : List D)
  deriving Inhabited

/-- the shared objects, by number -/
structure Store where
  get : Nat → Option MO
  next : Nat

/-- the local names' values -/
abbrev Fr := List (Option D)

structure Ex where
  cls : Str
  ns : List Str
  ds : List D

inductive Out (α : Type) where
  | ok (a : α) (f : Fr) (s : Store)
  | exc (x : Ex) (f : Fr) (s : Store)
  | stuck
abbrev M (α : Type) := Fr → Store → Out α
def M.pure {α : Type} (a : α) : M α := fun f s => .ok a f s
def M.bind {α β : Type} (m : M α) (k : α → M β) : M β := fun f s => match m f s with
  | .ok a f' s' => k a f' s'
  | .exc x f' s' => .exc x f' s'
  | .stuck => .stuck
instance : Monad M where
  pure := M.pure
  bind := M.bind
def M.stuck {α : Type} : M α := fun _ _ => .stuck

/-- a lambda, a def within a def: its qualified name, the names that it captures, how its object looks (the captured cells, the code object) -/
structure LamI where
  qual : Str
  fr : List Str
  isF : List (Str × Addr) → Addr → FuncData → Prop
/-- the world around: the written part, where its classes and defs stand; the tables of code objects; the lambdas -/
structure SE where
  K : PySem.W.Frag
  adr : Str → Addr
  w : World
  tb : List NdefX.NTab
  lam : Nat → Option LamI
/-- the object at f is that function, with these captured cells -/
def CloO (L : LamI) (f : Addr) (cl : List (Str × Addr)) (c : Addr) : HO := .ext fun h => ∃ (od : Option Addr) (sl : Array (Option Value)) (fd : FuncData), h.get? f = some (⟨.type "function", od, .func fd, sl⟩ : Obj) ∧ L.isF cl c fd
/-- at c just this object -/
def CellO (c : Addr) (o : Obj) : HO := .ext fun h => h.get? c = some o
/-- the captured cells hold these -/
structure CellsG (G : Hp) (cl : List (Str × Addr)) (fr : List Str) (xs : List V) : Prop where
  len : xs.length = fr.length
  all : ∀ y a, cl.lookup y = some a → ∃ o v, G a = some (CellO a o) ∧ o.data = .cell v
  inj : ∀ x y a, cl.lookup x = some a → cl.lookup y = some a → x = y
  has : ∀ (i : Nat) (y : Str), fr[i]? = some y → ∃ a o u v, cl.lookup y = some a ∧ G a = some (CellO a o) ∧ o.data = .cell (some u) ∧ xs[i]? = some v ∧ RelV v u
theorem CellsG.mono {G G' : Hp} {cl : List (Str × Addr)} {fr : List Str} {xs : List V} (e : ∀ a o, G a = some o → G' a = some o) (h : CellsG G cl fr xs) : CellsG G' cl fr xs :=
  ⟨h.len, fun y a q => by
    obtain ⟨o, v, h1, h2⟩ := h.all y a q
    exact ⟨o, v, e _ _ h1, h2⟩, h.inj, fun i y q => by
    obtain ⟨a, o, u, v, h1, h2, h3⟩ := h.has i y q
    exact ⟨a, o, u, v, h1, e _ _ h2, h3⟩⟩
/-- a class: a built-in one; one of the text's -/
inductive Tg where
  | ty (n : String) | own (C : Str) | err (C : Str)
  deriving DecidableEq
def Tg.val (E : SE) : Tg → Value
  | .ty n => .type n
  | .own C => .ref (E.adr C)
  | .err C => .ref (E.adr C)

/-- an exception that is held as a value: its class, its dict -/
def ExV (cls : Value) (d : Option Addr) (a : Addr) : HO := .ext fun h => ∃ (oe : Obj) (vs : Array Value), h.get? a = some oe ∧ Zc cls d oe ∧ oe.data = .fields vs

/-- the ghost: where the shared objects stand (the first nx of them), what is frozen -/
structure Gh where
  io : Nat → Addr
  nx : Nat
  G : Hp

/-- the entries of a dict -/
inductive Ents : List Int → List V → List V → List DictEntry → Prop where
  | nil : Ents [] [] [] []
  | cons {h : Int} {k v : V} {hs : List Int} {ks vs : List V} {e : DictEntry} {es : List DictEntry} (h1 : e.hash = h) (h2 : RelV k e.key) (h3 : RelV v e.val) (t : Ents hs ks vs es) : Ents (h :: hs) (k :: ks) (v :: vs) (e :: es)
/-- a dict by its entries: hashes, keys, values -/
def DictO (a : Addr) (hs : List Int) (ks vs : List V) : HO := .ext fun h => (a == sysModules) = false ∧ ks.length ≤ sizeLine ∧ ∃ o es ep, h.get? a = some o ∧ o.ExactDict ∧ o.data = .dict es ep ∧ Ents hs ks vs es.toList

/-- a key of a dict -/
def D.key : D → Option NestedKey
  | .non => some .none
  | .int i => some (.num i)
  | .str x => some (.text x)
  | .tup ds => (go ds).map .tup
  | _ => none
where go : List D → Option (List NestedKey)
  | [] => some []
  | d :: ds => match D.key d, go ds with
    | some k, some ks => some (k :: ks)
    | _, _ => none
def D.hash (w : World) (d : D) : Int := match d.key with
  | some k => k.hash w
  | none => 0

mutual
def Rep (E : SE) (g : Gh) : D → V → Prop
  | .non, v => v = .non
  | .bl b, v => v = .bl b
  | .int i, v => v = .int i
  | .str x, v => v = .str x
  | .tup ds, v => ∃ a xs, v = .ref a ∧ SqT E.K g.G a xs ∧ xs.length ≤ sizeLine ∧ Reps E g ds xs
  | .lst ds, v => ∃ a xs, v = .ref a ∧ g.G a = some (.lst xs) ∧ xs.length ≤ sizeLine ∧ Reps E g ds xs
  | .scr ns, v => ∃ a, v = .ref a ∧ SqL E.K g.G a (ns.map V.int) ∧ ns.length ≤ sizeLine
  | .dct ks ds, v => ∃ a hs xs ys, v = .ref a ∧ g.G a = some (DictO a hs xs ys) ∧ hs = ks.map (D.hash E.w) ∧ Reps E g ks xs ∧ Reps E g ds ys
  | .ins C ns ds, v => ∃ a dx xs, v = .ref a ∧ g.G a = some (.ins (E.adr C) dx (ns.zip xs)) ∧ ns.length = xs.length ∧ Reps E g ds xs
  | .exc C ns ds, v => ∃ a d, v = .ref a ∧ g.G a = some (ExV (.ref (E.adr C)) d a) ∧ ((d = none ∧ ns = [] ∧ ds = []) ∨ ∃ dx xs, d = some dx ∧ g.G dx = some (.xd (ns.zip xs)) ∧ ns.length = xs.length ∧ Reps E g ds xs)
  | .clo k ds, v => ∃ f cl c L xs, v = .ref f ∧ E.lam k = some L ∧ g.G f = some (CloO L f cl c) ∧ g.G c = some (LamX.CodeO c L.qual) ∧ CellsG g.G cl L.fr xs ∧ Reps E g ds xs
  | .ref n, v => n < g.nx ∧ v = .ref (g.io n)
  | .fn f, v => v = .ref (E.adr f)
  | .ty n, v => v = .ty n
def Reps (E : SE) (g : Gh) : List D → List V → Prop
  | [], vs => vs = []
  | d :: ds, vs => ∃ v r, vs = v :: r ∧ Rep E g d v ∧ Reps E g ds r
end

/-- the ghost grows -/
structure GLe (g g' : Gh) : Prop where
  nx : g.nx ≤ g'.nx
  io : ∀ n, n < g.nx → g'.io n = g.io n
  G : ∀ a o, g.G a = some o → g'.G a = some o
theorem GLe.refl (g : Gh) : GLe g g := ⟨Nat.le_refl _, fun _ _ => rfl, fun _ _ h => h⟩
theorem GLe.trans {g g1 g2 : Gh} (a : GLe g g1) (b : GLe g1 g2) : GLe g g2 :=
  ⟨Nat.le_trans a.nx b.nx, fun n h => (b.io n (Nat.lt_of_lt_of_le h a.nx)).trans (a.io n h), fun c o h => b.G c o (a.G c o h)⟩
theorem sub_rd {H H' : Hp} {a : Addr} {u : HO} (e : ∀ a o, H a = some o → H' a = some o) (h : Rd H a u) : Rd H' a u := by
  rcases h with h | ⟨o, h⟩
  · exact .inl (e _ _ h)
  · exact .inr ⟨o, e _ _ h⟩
theorem sub_l {K : PySem.W.Frag} {H H' : Hp} {a : Addr} {xs : List V} (e : ∀ a o, H a = some o → H' a = some o) (h : SqL K H a xs) : SqL K H' a xs := by
  rcases h with h | h
  · exact .inl (sub_rd e h)
  · exact .inr h
theorem sub_t {K : PySem.W.Frag} {H H' : Hp} {a : Addr} {xs : List V} (e : ∀ a o, H a = some o → H' a = some o) (h : SqT K H a xs) : SqT K H' a xs := by
  rcases h with h | h
  · exact .inl (sub_rd e h)
  · exact .inr h

mutual
theorem Rep.mono {E : SE} {g g' : Gh} (e : GLe g g') : ∀ {d : D} {v : V}, Rep E g d v → Rep E g' d v
  | .non, v, h => by simp only [Rep] at h ⊢; exact h
  | .bl b, v, h => by simp only [Rep] at h ⊢; exact h
  | .int i, v, h => by simp only [Rep] at h ⊢; exact h
  | .str x, v, h => by simp only [Rep] at h ⊢; exact h
  | .tup ds, v, h => by
    simp only [Rep] at h ⊢
    obtain ⟨a, xs, h1, h2, h3, h4⟩ := h
    exact ⟨a, xs, h1, sub_t e.G h2, h3, Reps.mono e h4⟩
  | .lst ds, v, h => by
    simp only [Rep] at h ⊢
    obtain ⟨a, xs, h1, h2, h3, h4⟩ := h
    exact ⟨a, xs, h1, e.G _ _ h2, h3, Reps.mono e h4⟩
  | .scr ns, v, h => by
    simp only [Rep] at h ⊢
    obtain ⟨a, h1, h2, h3⟩ := h
    exact ⟨a, h1, sub_l e.G h2, h3⟩
  | .dct ks ds, v, h => by
    simp only [Rep] at h ⊢
    obtain ⟨a, hs, xs, ys, h1, h2, h3, h4, h5⟩ := h
    exact ⟨a, hs, xs, ys, h1, e.G _ _ h2, h3, Reps.mono e h4, Reps.mono e h5⟩
  | .ins C ns ds, v, h => by
    simp only [Rep] at h ⊢
    obtain ⟨a, dx, xs, h1, h2, h3, h4⟩ := h
    exact ⟨a, dx, xs, h1, e.G _ _ h2, h3, Reps.mono e h4⟩
  | .exc C ns ds, v, h => by
    simp only [Rep] at h ⊢
    obtain ⟨a, d, h1, h2, h3⟩ := h
    exact ⟨a, d, h1, e.G _ _ h2, h3.imp id fun ⟨dx, xs, q1, q2, q3, q4⟩ => ⟨dx, xs, q1, e.G _ _ q2, q3, Reps.mono e q4⟩⟩
  | .clo c ds, v, h => by
    simp only [Rep] at h ⊢
    obtain ⟨f, cl, c, L, xs, h1, h2, h3, h4, h5, h6⟩ := h
    exact ⟨f, cl, c, L, xs, h1, h2, e.G _ _ h3, e.G _ _ h4, h5.mono e.G, Reps.mono e h6⟩
  | .ref n, v, h => by
    simp only [Rep] at h ⊢
    exact ⟨Nat.lt_of_lt_of_le h.1 e.nx, by rw [e.io n h.1]; exact h.2⟩
  | .fn f, v, h => by simp only [Rep] at h ⊢; exact h
  | .ty n, v, h => by simp only [Rep] at h ⊢; exact h
theorem Reps.mono {E : SE} {g g' : Gh} (e : GLe g g') : ∀ {ds : List D} {vs : List V}, Reps E g ds vs → Reps E g' ds vs
  | [], vs, h => by simp only [Reps] at h ⊢; exact h
  | d :: ds, vs, h => by
    simp only [Reps] at h ⊢
    obtain ⟨v, r, h1, h2, h3⟩ := h
    exact ⟨v, r, h1, Rep.mono e h2, Reps.mono e h3⟩
end
end Mp
end
section
/-! Mp, part 2: how a state of the mirror lies to the abstract heap; readings by a mirror. -/
namespace Mp
open PySem L2

/-- an object that may change, at a -/
def ObjRel (E : SE) (g : Gh) (H : Hp) (a : Addr) : MO → Prop
  | .lst ds => ∃ xs, H a = some (.lst xs) ∧ xs.length ≤ sizeLine ∧ Reps E g ds xs
  | .dct ks ds => ∃ hs xs ys, H a = some (DictO a hs xs ys) ∧ hs = ks.map (D.hash E.w) ∧ Reps E g ks xs ∧ Reps E g ds ys
  | .ins C ns ds => ∃ dx xs, H a = some (.ins (E.adr C) dx (ns.zip xs)) ∧ ns.length = xs.length ∧ Reps E g ds xs
theorem ObjRel.there {E : SE} {g : Gh} {H : Hp} {a : Addr} {m : MO} (h : ObjRel E g H a m) : ∃ o, H a = some o := by
  cases m with
  | lst ds => obtain ⟨xs, h, _⟩ := h; exact ⟨_, h⟩
  | dct ks ds => obtain ⟨hs, xs, ys, h, _⟩ := h; exact ⟨_, h⟩
  | ins C ns ds => obtain ⟨dx, xs, h, _⟩ := h; exact ⟨_, h⟩
theorem ObjRel.mono {E : SE} {g g' : Gh} {H H' : Hp} {a : Addr} {m : MO} (e : GLe g g') (k : ∀ o, H a = some o → H' a = some o) (h : ObjRel E g H a m) : ObjRel E g' H' a m := by
  cases m with
  | lst ds => obtain ⟨xs, h, z, r⟩ := h; exact ⟨xs, k _ h, z, r.mono e⟩
  | dct ks ds => obtain ⟨hs, xs, ys, h, z, r1, r2⟩ := h; exact ⟨hs, xs, ys, k _ h, z, r1.mono e, r2.mono e⟩
  | ins C ns ds => obtain ⟨dx, xs, h, z, r⟩ := h; exact ⟨dx, xs, k _ h, z, r.mono e⟩

theorem ObjRel.nt {E : SE} {g : Gh} {H : Hp} {a : Addr} {m : MO} (h : ObjRel E g H a m) (ps : Array Value) : H a ≠ some (.tbl ps) := fun z => by
  cases m with
  | lst ds => obtain ⟨xs, h, _⟩ := h; rw [h] at z; cases z
  | dct ks ds =>
    obtain ⟨hs, xs, ys, h, _⟩ := h
    rw [h] at z
    have z := Option.some.inj z
    unfold DictO at z
    cases z
  | ins C ns ds => obtain ⟨dx, xs, h, _⟩ := h; rw [h] at z; cases z
/-- a table of code objects -/
def TabG (g : Gh) (H : Hp) (p : NdefX.NTab) : Prop := g.G p.1 = none ∧ ∃ ps : Array Value, H p.1 = some (.tbl ps) ∧ TriplesOk ps.toList ∧ ∀ (pos : Pos) (cv : Value), codeAmong pos ps.toList = some cv → ∃ c, cv = .ref c ∧ g.G c = some (LamX.CodeO c (p.2 pos.line pos.col))
theorem TabG.mono {g g' : Gh} {H H' : Hp} {p : NdefX.NTab} (h : TabG g H p) (e : GLe g g') (k : ∀ ps, H p.1 = some (.tbl ps) → H' p.1 = some (.tbl ps)) (n : g'.G p.1 = none) : TabG g' H' p := by
  obtain ⟨h1, ps, h2, h3, h4⟩ := h
  refine ⟨n, ps, k _ h2, h3, fun pos cv z => ?_⟩
  obtain ⟨c, z1, z2⟩ := h4 pos cv z
  exact ⟨c, z1, e.G _ _ z2⟩
/-- the shared part -/
structure RelG (E : SE) (g : Gh) (st : Store) (H : Hp) : Prop where
  sub : ∀ a o, g.G a = some o → H a = some o
  nx : g.nx = st.next
  dom : ∀ n m, st.get n = some m → n < st.next
  obj : ∀ n m, st.get n = some m → ObjRel E g H (g.io n) m
  out : ∀ n m, st.get n = some m → g.G (g.io n) = none
  inj : ∀ n m k l, st.get n = some m → st.get k = some l → g.io n = g.io k → n = k
  tab : ∀ p ∈ E.tb, TabG g H p
/-- the frame's part -/
structure RelF (E : SE) (g : Gh) (fr : Fr) (st : Store) (σ : L2.St) (H : Hp) : Prop extends RelG E g st H where
  len : fr.length = σ.length
  val : ∀ (i : Nat) (d : D), fr[i]? = some (some d) → ∃ v, σ[i]? = some (some v) ∧ Rep E g d v

/-- what may be written: the shared objects; the tables of code objects -/
def foO (g : Gh) (st : Store) (a : Addr) : Prop := ∃ n m, st.get n = some m ∧ g.io n = a
def foS (E : SE) (g : Gh) (st : Store) (a : Addr) : Prop := foO g st a ∨ ∃ p ∈ E.tb, p.1 = a

/-- from here to there: what is not ours is kept, and not frozen -/
structure Ext (g : Gh) (F : Addr → Prop) (H : Hp) (g' : Gh) (F' : Addr → Prop) (H' : Hp) : Prop where
  le : GLe g g'
  keep : ∀ a o, H a = some o → ¬ F a → H' a = some o
  new : ∀ a o, H a = some o → ¬ F a → g.G a = none → g'.G a = none
  fo : ∀ a, F' a → F a ∨ H a = none
theorem Ext.refl (g : Gh) (F : Addr → Prop) (H : Hp) : Ext g F H g F H := ⟨.refl g, fun _ _ h _ => h, fun _ _ _ _ h => h, fun _ h => .inl h⟩
theorem Ext.trans {g g1 g2 : Gh} {F F1 F2 : Addr → Prop} {H H1 H2 : Hp} (a : Ext g F H g1 F1 H1) (b : Ext g1 F1 H1 g2 F2 H2) : Ext g F H g2 F2 H2 := by
  have nf : ∀ c o, H c = some o → ¬ F c → ¬ F1 c := fun c o h n q => (a.fo c q).elim n fun z => by rw [h] at z; cases z
  refine ⟨a.le.trans b.le, fun c o h n => b.keep c o (a.keep c o h n) (nf c o h n), fun c o h n z => b.new c o (a.keep c o h n) (nf c o h n) (a.new c o h n z), fun c h => ?_⟩
  rcases b.fo c h with q | q
  · exact a.fo c q
  · cases e : H c with
    | none => exact .inr rfl
    | some o =>
      refine .inl (Classical.byContradiction fun n => ?_)
      rw [a.keep c o e n] at q
      cases q
/-- fewer are ours -/
theorem Ext.weak {g g' : Gh} {F F' : Addr → Prop} {H H' : Hp} (P : Addr → Prop) (e : Ext g F H g' F' H') : Ext g (fun a => F a ∨ P a) H g' (fun a => F' a ∨ P a) H' :=
  ⟨e.le, fun a o h n => e.keep a o h fun z => n (.inl z), fun a o h n => e.new a o h fun z => n (.inl z), fun a h => h.elim (fun z => (e.fo a z).imp .inl id) fun z => .inl (.inr z)⟩

/-- an exception in the air -/
def ExR (E : SE) (g : Gh) (x : Ex) (cls : Value) (d : Option Addr) : Prop := cls = .ref (E.adr x.cls) ∧ ((d = none ∧ x.ns = [] ∧ x.ds = []) ∨ ∃ dx xs, d = some dx ∧ g.G dx = some (.xd (x.ns.zip xs)) ∧ x.ns.length = xs.length ∧ Reps E g x.ds xs)
theorem ExR.mono {E : SE} {g g' : Gh} {x : Ex} {cls : Value} {d : Option Addr} (e : GLe g g') (h : ExR E g x cls d) : ExR E g' x cls d :=
  ⟨h.1, h.2.imp id fun ⟨dx, xs, q1, q2, q3, q4⟩ => ⟨dx, xs, q1, e.G _ _ q2, q3, Reps.mono e q4⟩⟩

/-- what is wanted of an end -/
def Post {α : Type} (E : SE) (W : WX) (g : Gh) (F : Addr → Prop) (H : Hp) (σ : L2.St) (R : Gh → α → Fr → Store → Hp → Prop) : Out α → Prop
  | .ok d fr st => ∀ g' H', Ext g F H g' (foS E g' st) H' → RelF E g' fr st σ H' → R g' d fr st H'
  | .exc x fr st => ∀ g' H' cls dx, Ext g F H g' (foS E g' st) H' → RelF E g' fr st σ H' → ExR E g' x cls dx → W cls dx σ H'
  | .stuck => False
theorem Post.ext {α : Type} {E : SE} {W : WX} {g g1 : Gh} {F F1 : Addr → Prop} {H H1 : Hp} {σ : L2.St} {R : Gh → α → Fr → Store → Hp → Prop} {o : Out α} (e : Ext g F H g1 F1 H1) (h : Post E W g F H σ R o) : Post E W g1 F1 H1 σ R o := by
  cases o with
  | ok d fr st => exact fun g' H' e' r => h g' H' (e.trans e') r
  | exc x fr st => exact fun g' H' cls dx e' r q => h g' H' cls dx (e.trans e') r q
  | stuck => exact h
theorem Post.imp {α : Type} {E : SE} {W : WX} {g : Gh} {F : Addr → Prop} {H : Hp} {σ : L2.St} {R R' : Gh → α → Fr → Store → Hp → Prop} {o : Out α} (k : ∀ g' d fr st H', GLe g g' → R g' d fr st H' → R' g' d fr st H') (h : Post E W g F H σ R o) : Post E W g F H σ R' o := by
  cases o with
  | ok d fr st => exact fun g' H' e' r => k _ _ _ _ _ e'.le (h g' H' e' r)
  | exc x fr st => exact h
  | stuck => exact h

/-- a value that represents -/
abbrev RV (E : SE) (Q : VK) : Gh → D → Fr → Store → Hp → Prop := fun g d _ _ H => ∀ v, Rep E g d v → Q v H
/-- the reading of an expression by its mirror -/
def tI (E : SE) (W : WX) (m : M D) : TE := fun σ H Q => ∃ g fr st, RelF E g fr st σ H ∧ Post E W g (foS E g st) H σ (RV E Q) (m fr st)
def tIT (E : SE) (W : WX) (m : M Bool) : TT := fun σ H Q => ∃ g fr st, RelF E g fr st σ H ∧ Post E W g (foS E g st) H σ (fun _ b _ _ H' => Q b H') (m fr st)
def tIA (E : SE) (W : WX) (m : M (List D)) : TA := fun σ H Q => ∃ g fr st, RelF E g fr st σ H ∧ Post E W g (foS E g st) H σ (fun g' ds _ _ H' => ∀ vs, Reps E g' ds vs → Q vs H') (m fr st)

/-- the first part of a do: what is known behind it -/
structure Then (E : SE) (W : WX) (g : Gh) (σ : L2.St) {β : Type} (R : Gh → β → Fr → Store → Hp → Prop) (k : Fr → Store → Out β) (g1 : Gh) (fr1 : Fr) (st1 : Store) (H1 : Hp) : Prop where
  rel : RelF E g1 fr1 st1 σ H1
  le : GLe g g1
  post : Post E W g1 (foS E g1 st1) H1 σ R (k fr1 st1)
theorem Post.bind {α β : Type} {E : SE} {W : WX} {g : Gh} {F : Addr → Prop} {H : Hp} {σ : L2.St} {R : Gh → β → Fr → Store → Hp → Prop} {m : M α} {k : α → M β} {fr : Fr} {st : Store} (h : Post E W g F H σ R ((m >>= k) fr st)) :
    Post E W g F H σ (fun g1 a fr1 st1 H1 => Then E W g σ R (k a) g1 fr1 st1 H1) (m fr st) := by
  have h' : Post E W g F H σ R (match m fr st with | .ok a f' s' => k a f' s' | .exc x f' s' => .exc x f' s' | .stuck => .stuck) := h
  cases e : m fr st with
  | ok a fr1 st1 =>
    rw [e] at h'
    exact fun g1 H1 e1 r1 => ⟨r1, e1.le, h'.ext e1⟩
  | exc x fr1 st1 =>
    rw [e] at h'
    exact h'
  | stuck =>
    rw [e] at h'
    exact h'
/-- the reading of the first part of a do -/
theorem tI_bind {β : Type} {E : SE} {W : WX} {g : Gh} {H : Hp} {σ : L2.St} {R : Gh → β → Fr → Store → Hp → Prop} {m : M D} {k : D → M β} {fr : Fr} {st : Store} (r : RelF E g fr st σ H) (h : Post E W g (foS E g st) H σ R ((m >>= k) fr st))
    {Q : VK} (q : ∀ g1 fr1 st1 H1 d v, Then E W g σ R (k d) g1 fr1 st1 H1 → Rep E g1 d v → Q v H1) : tI E W m σ H Q := by
  refine ⟨g, fr, st, r, ?_⟩
  have h1 := h.bind
  cases e : m fr st with
  | ok a fr1 st1 =>
    rw [e] at h1
    exact fun g1 H1 e1 r1 v rv => q g1 fr1 st1 H1 a v (h1 g1 H1 e1 r1) rv
  | exc x fr1 st1 =>
    rw [e] at h1
    exact h1
  | stuck =>
    rw [e] at h1
    exact h1
theorem tIT_bind {β : Type} {E : SE} {W : WX} {g : Gh} {H : Hp} {σ : L2.St} {R : Gh → β → Fr → Store → Hp → Prop} {m : M Bool} {k : Bool → M β} {fr : Fr} {st : Store} (r : RelF E g fr st σ H) (h : Post E W g (foS E g st) H σ R ((m >>= k) fr st))
    {Q : Bool → Hp → Prop} (q : ∀ g1 fr1 st1 H1 b, Then E W g σ R (k b) g1 fr1 st1 H1 → Q b H1) : tIT E W m σ H Q := by
  refine ⟨g, fr, st, r, ?_⟩
  have h1 := h.bind
  cases e : m fr st with
  | ok a fr1 st1 =>
    rw [e] at h1
    exact fun g1 H1 e1 r1 => q g1 fr1 st1 H1 a (h1 g1 H1 e1 r1)
  | exc x fr1 st1 =>
    rw [e] at h1
    exact h1
  | stuck =>
    rw [e] at h1
    exact h1
theorem tIA_bind {β : Type} {E : SE} {W : WX} {g : Gh} {H : Hp} {σ : L2.St} {R : Gh → β → Fr → Store → Hp → Prop} {m : M (List D)} {k : List D → M β} {fr : Fr} {st : Store} (r : RelF E g fr st σ H) (h : Post E W g (foS E g st) H σ R ((m >>= k) fr st))
    {Q : List V → Hp → Prop} (q : ∀ g1 fr1 st1 H1 ds vs, Then E W g σ R (k ds) g1 fr1 st1 H1 → Reps E g1 ds vs → Q vs H1) : tIA E W m σ H Q := by
  refine ⟨g, fr, st, r, ?_⟩
  have h1 := h.bind
  cases e : m fr st with
  | ok a fr1 st1 =>
    rw [e] at h1
    exact fun g1 H1 e1 r1 v rv => q g1 fr1 st1 H1 a v (h1 g1 H1 e1 r1) rv
  | exc x fr1 st1 =>
    rw [e] at h1
    exact h1
  | stuck =>
    rw [e] at h1
    exact h1
/-- the last part -/
theorem Then.tI {E : SE} {W : WX} {g : Gh} {σ : L2.St} {Q : VK} {m : M D} {g1 : Gh} {fr1 : Fr} {st1 : Store} {H1 : Hp} (t : Then E W g σ (RV E Q) m g1 fr1 st1 H1) : tI E W m σ H1 Q := ⟨g1, fr1, st1, t.rel, t.post⟩
/-- at an end -/
theorem Then.ok {β : Type} {E : SE} {W : WX} {g : Gh} {σ : L2.St} {R : Gh → β → Fr → Store → Hp → Prop} {b : β} {g1 : Gh} {fr1 : Fr} {st1 : Store} {H1 : Hp} (t : Then E W g σ R (M.pure b) g1 fr1 st1 H1) : R g1 b fr1 st1 H1 :=
  t.post g1 H1 (.refl ..) t.rel
end Mp
end
section
/-! Mp, part 3: the moves of a state: something new and frozen, a shared object made, written, frozen. -/
namespace Mp
open PySem L2
/-- the store with a shared object set; one more -/
def Store.set (st : Store) (n : Nat) (m : Option MO) : Store := ⟨fun k => if k = n then m else st.get k, st.next⟩
def Store.new (st : Store) (m : MO) : Store := ⟨fun k => if k = st.next then some m else st.get k, st.next + 1⟩
section
variable {E : SE} {g : Gh} {fr : Fr} {st : Store} {σ : L2.St} {H : Hp} {p : Addr} {o : HO}
abbrev Gh.frz (g : Gh) (p : Addr) (o : HO) : Gh := ⟨g.io, g.nx, upd g.G p o⟩
/-- the ghost with one more shared object at p -/
abbrev Gh.one (g : Gh) (p : Addr) : Gh := ⟨fun n => if n = g.nx then p else g.io n, g.nx + 1, g.G⟩
theorem RelG.gnone (r : RelG E g st H) (hp : H p = none) : g.G p = none := by
  cases e : g.G p with
  | none => rfl
  | some u => rw [r.sub p u e] at hp; cases hp
theorem GLe.frz (h : g.G p = none) : GLe g (g.frz p o) := ⟨Nat.le_refl _, fun _ _ => rfl, fun a u e => by
  show upd g.G p o a = some u
  rw [upd_ne (ne_of_none e h)]
  exact e⟩
theorem GLe.one : GLe g (g.one p) := ⟨Nat.le_succ _, fun n h => if_neg (Nat.ne_of_lt h), fun _ _ e => e⟩
theorem RelF.val_mono (r : RelF E g fr st σ H) {g' : Gh} (le : GLe g g') : ∀ (i : Nat) (d : D), fr[i]? = some (some d) → ∃ v, σ[i]? = some (some v) ∧ Rep E g' d v := fun i d e => by
  obtain ⟨v, h1, h2⟩ := r.val i d e
  exact ⟨v, h1, h2.mono le⟩
/-- something new, frozen -/
theorem RelF.newF (r : RelF E g fr st σ H) (hp : H p = none) (o : HO) : RelF E (g.frz p o) fr st σ (upd H p o) ∧ Ext g (foS E g st) H (g.frz p o) (foS E (g.frz p o) st) (upd H p o) := by
  have gp := r.gnone hp
  have le : GLe g (g.frz p o) := GLe.frz gp
  have k : ∀ a u, H a = some u → upd H p o a = some u := fun a u e => by rw [upd_ne (ne_of_none e hp)]; exact e
  have nS : ∀ n m, st.get n = some m → g.io n ≠ p := fun n m e z => by
    obtain ⟨u, q⟩ := (r.obj n m e).there
    rw [z, hp] at q
    cases q
  refine ⟨⟨⟨fun a u e => ?_, r.nx, r.dom, fun n m e => (r.obj n m e).mono le (k _), fun n m e => ?_, r.inj, fun q hq => (r.tab q hq).mono le (fun ps z => k _ _ z) ?_⟩, r.len, r.val_mono le⟩, ⟨le, fun a u e _ => k a u e, fun a u e _ z => ?_, fun a h => .inl h⟩⟩
  · have e : upd g.G p o a = some u := e
    by_cases h : a = p
    · subst h
      rw [upd_same] at e ⊢
      exact e
    · rw [upd_ne h] at e
      rw [upd_ne h]
      exact r.sub a u e
  · show upd g.G p o (g.io n) = none
    rw [upd_ne (nS n m e)]
    exact r.out n m e
  · obtain ⟨z, ps, z2, _⟩ := r.tab q hq
    show upd g.G p o q.1 = none
    rw [upd_ne (ne_of_none z2 hp)]
    exact z
  · show upd g.G p o a = none
    rw [upd_ne (ne_of_none e hp)]
    exact z
/-- something new that nobody tracks by data -/
theorem RelF.newU (r : RelF E g fr st σ H) (hp : H p = none) (o : HO) : RelF E g fr st σ (upd H p o) ∧ Ext g (foS E g st) H g (foS E g st) (upd H p o) := by
  have k : ∀ a u, H a = some u → upd H p o a = some u := fun a u e => by rw [upd_ne (ne_of_none e hp)]; exact e
  exact ⟨⟨⟨fun a u e => k a u (r.sub a u e), r.nx, r.dom, fun n m e => (r.obj n m e).mono (.refl g) (k _), r.out, r.inj, fun q hq => (r.tab q hq).mono (.refl g) (fun ps z => k _ _ z) (r.tab q hq).1⟩, r.len, r.val⟩, ⟨.refl g, fun a u e _ => k a u e, fun a u e _ z => z, fun a h => .inl h⟩⟩
theorem RelG.none_next (r : RelG E g st H) : st.get st.next = none := by
  cases e : st.get st.next with
  | none => rfl
  | some m => exact absurd (r.dom _ m e) (Nat.lt_irrefl _)
/-- a new shared object -/
theorem RelF.newS (r : RelF E g fr st σ H) (hp : H p = none) {m : MO} (ho : ∀ g', GLe g g' → ObjRel E g' (upd H p o) p m) : RelF E (g.one p) fr (st.new m) σ (upd H p o) ∧ Ext g (foS E g st) H (g.one p) (foS E (g.one p) (st.new m)) (upd H p o) := by
  have le : GLe g (g.one p) := GLe.one
  have k : ∀ a u, H a = some u → upd H p o a = some u := fun a u e => by rw [upd_ne (ne_of_none e hp)]; exact e
  have gp := r.gnone hp
  have there : ∀ n l, st.get n = some l → g.io n ≠ p := fun n l e z => by
    obtain ⟨u, q⟩ := (r.obj n l e).there
    rw [z, hp] at q
    cases q
  have io : ∀ n l, st.get n = some l → (g.one p).io n = g.io n := fun n l e => if_neg (by rw [r.nx]; exact Nat.ne_of_lt (r.dom n l e))
  have back : ∀ {n l}, (st.new m).get n = some l → (n = st.next ∧ l = m) ∨ (n ≠ st.next ∧ st.get n = some l) := fun {n l} e => by
    have e : (if n = st.next then some m else st.get n) = some l := e
    split at e
    · rename_i h; exact .inl ⟨h, (Option.some.inj e).symm⟩
    · rename_i h; exact .inr ⟨h, e⟩
  have io1 : (g.one p).io st.next = p := if_pos r.nx.symm
  refine ⟨⟨⟨fun a u e => k a u (r.sub a u e), by show g.nx + 1 = st.next + 1; rw [r.nx], fun n l e => ?_, fun n l e => ?_, fun n l e => ?_, fun n l k l' e1 e2 q => ?_, fun q hq => (r.tab q hq).mono le (fun ps z => k _ _ z) (r.tab q hq).1⟩, r.len, r.val_mono le⟩, ⟨le, fun a u e _ => k a u e, fun a u e _ z => z, fun a h => ?_⟩⟩
  · show n < st.next + 1
    rcases back e with ⟨rfl, _⟩ | ⟨_, e⟩
    · omega
    · have := r.dom n l e; omega
  · rcases back e with ⟨rfl, rfl⟩ | ⟨_, e⟩
    · rw [io1]; exact ho _ le
    · rw [io n l e]; exact (r.obj n l e).mono le (k _)
  · show g.G _ = none
    rcases back e with ⟨rfl, rfl⟩ | ⟨_, e⟩
    · rw [io1]; exact gp
    · rw [io n l e]; exact r.out n l e
  · rcases back e1 with ⟨y1, _⟩ | ⟨_, e1⟩
    · rcases back e2 with ⟨y2, _⟩ | ⟨_, e2⟩
      · rw [y1, y2]
      · rw [y1, io1, io k l' e2] at q
        exact (there k l' e2 q.symm).elim
    · rcases back e2 with ⟨y2, _⟩ | ⟨_, e2⟩
      · rw [y2, io1, io n l e1] at q
        exact (there n l e1 q).elim
      · rw [io n l e1, io k l' e2] at q
        exact r.inj n l k l' e1 e2 q
  · rcases h with ⟨n, l, e, q⟩ | h
    · rcases back e with ⟨rfl, rfl⟩ | ⟨_, e⟩
      · rw [io1] at q
        exact .inr (q ▸ hp)
      · rw [io n l e] at q
        exact .inl (.inl ⟨n, l, e, q⟩)
    · exact .inl (.inr h)
theorem Store.set_get {n k : Nat} {m : Option MO} {l : MO} (e : (st.set n m).get k = some l) : (k = n ∧ m = some l) ∨ (k ≠ n ∧ st.get k = some l) := by
  have e : (if k = n then m else st.get k) = some l := e
  split at e
  · rename_i h; exact .inl ⟨h, e⟩
  · rename_i h; exact .inr ⟨h, e⟩
/-- a shared object is written -/
theorem RelF.writeS (r : RelF E g fr st σ H) {n : Nat} {m m' : MO} (e : st.get n = some m) (hp : g.io n = p) (hn : ObjRel E g (upd H p o) p m') :
    RelF E g fr (st.set n (some m')) σ (upd H p o) ∧ Ext g (foS E g st) H g (foS E g (st.set n (some m'))) (upd H p o) := by
  have gp : g.G p = none := hp ▸ r.out n m e
  have ne : ∀ a u, g.G a = some u → a ≠ p := fun a u q z => by rw [z, gp] at q; cases q
  refine ⟨⟨⟨fun a u q => ?_, r.nx, fun k l q => ?_, fun k l q => ?_, fun k l q => ?_, fun k l j l' q1 q2 q => ?_, fun q hq => (r.tab q hq).mono (.refl g) (fun ps z => by rw [upd_ne fun y => (r.obj n m e).nt ps (by rw [hp, ← y]; exact z)]; exact z) (r.tab q hq).1⟩, r.len, r.val⟩, ⟨.refl g, fun a u q w => ?_, fun a u q w z => z, fun a h => ?_⟩⟩
  · rw [upd_ne (ne a u q)]
    exact r.sub a u q
  · rcases Store.set_get q with ⟨rfl, _⟩ | ⟨_, q⟩
    · exact r.dom _ _ e
    · exact r.dom _ _ q
  · rcases Store.set_get q with ⟨z1, z2⟩ | ⟨w, q⟩
    · rw [z1, hp, ← Option.some.inj z2]
      exact hn
    · refine (r.obj k l q).mono (.refl g) fun u z => ?_
      rw [upd_ne]
      · exact z
      · exact fun y => w (r.inj k l n m q e (y.trans hp.symm))
  · rcases Store.set_get q with ⟨rfl, _⟩ | ⟨_, q⟩
    · exact r.out _ _ e
    · exact r.out _ _ q
  · have b : ∀ {k l}, (st.set n (some m')).get k = some l → ∃ l0, st.get k = some l0 := fun {k l} q => by
      rcases Store.set_get q with ⟨rfl, _⟩ | ⟨_, q⟩
      · exact ⟨m, e⟩
      · exact ⟨l, q⟩
    obtain ⟨_, b1⟩ := b q1
    obtain ⟨_, b2⟩ := b q2
    exact r.inj k _ j _ b1 b2 q
  · rw [upd_ne]
    · exact q
    · intro y
      exact w (.inl ⟨n, m, e, hp.trans y.symm⟩)
  · rcases h with ⟨k, l, q, z⟩ | h
    · rcases Store.set_get q with ⟨rfl, _⟩ | ⟨_, q⟩
      · exact .inl (.inl ⟨_, m, e, z⟩)
      · exact .inl (.inl ⟨k, l, q, z⟩)
    · exact .inl (.inr h)
/-- a shared object is frozen -/
theorem RelF.frzS (r : RelF E g fr st σ H) {n : Nat} {m : MO} (e : st.get n = some m) (hp : g.io n = p) (ho : H p = some o) :
    RelF E (g.frz p o) fr (st.set n none) σ H ∧ Ext g (foS E g st) H (g.frz p o) (foS E (g.frz p o) (st.set n none)) H := by
  have gp : g.G p = none := hp ▸ r.out n m e
  have le : GLe g (g.frz p o) := GLe.frz gp
  have b : ∀ {k l}, (st.set n none).get k = some l → k ≠ n ∧ st.get k = some l := fun {k l} q => by
    rcases Store.set_get q with ⟨_, q⟩ | q
    · cases q
    · exact q
  refine ⟨⟨⟨fun a u q => ?_, r.nx, fun k l q => r.dom _ _ (b q).2, fun k l q => (r.obj k l (b q).2).mono le (fun _ z => z), fun k l q => ?_, fun k l j l' q1 q2 q => r.inj k l j l' (b q1).2 (b q2).2 q, fun q hq => (r.tab q hq).mono le (fun ps z => z) ?_⟩, r.len, r.val_mono le⟩, ⟨le, fun a u q w => q, fun a u q w z => ?_, fun a h => ?_⟩⟩
  · have q : upd g.G p o a = some u := q
    by_cases h : a = p
    · subst h
      rw [upd_same] at q
      cases q
      exact ho
    · rw [upd_ne h] at q
      exact r.sub a u q
  · obtain ⟨hne, q⟩ := b q
    show upd g.G p o (g.io k) = none
    rw [upd_ne fun y => hne (r.inj k l n m q e (y.trans hp.symm))]
    exact r.out k l q
  · obtain ⟨z, ps, z2, _⟩ := r.tab q hq
    show upd g.G p o q.1 = none
    rw [upd_ne]
    · exact z
    · intro y
      exact (r.obj n m e).nt ps (by rw [hp, ← y]; exact z2)
  · show upd g.G p o a = none
    rw [upd_ne]
    · exact z
    · intro y
      exact w (.inl ⟨n, m, e, hp.trans y.symm⟩)
  · rcases h with ⟨k, l, q, z⟩ | h
    · exact .inl (.inl ⟨k, l, (b q).2, z⟩)
    · exact .inl (.inr h)
/-- a value is stored at a slot -/
theorem RelF.set_val (r : RelF E g fr st σ H) {i : Nat} {d : D} {v : V} (rv : Rep E g d v) : RelF E g (fr.set i (some d)) st (σ.set i (some v)) H := by
  refine ⟨r.toRelG, by rw [List.length_set, List.length_set]; exact r.len, fun j x e => ?_⟩
  rw [List.getElem?_set] at e
  split at e
  · rename_i h
    subst h
    split at e
    · rename_i hl
      cases e
      refine ⟨v, ?_, rv⟩
      rw [List.getElem?_set_self (by rw [← r.len]; exact hl)]
    · cases e
  · rename_i h
    obtain ⟨w, w1, w2⟩ := r.val j x e
    exact ⟨w, by rw [List.getElem?_set_ne h]; exact w1, w2⟩
/-- a slot is forgotten -/
theorem RelF.set_un (r : RelF E g fr st σ H) {i : Nat} {v : Option V} : RelF E g (fr.set i none) st (σ.set i v) H := by
  refine ⟨r.toRelG, by rw [List.length_set, List.length_set]; exact r.len, fun j x e => ?_⟩
  rw [List.getElem?_set] at e
  split at e
  · split at e <;> cases e
  · rename_i h
    obtain ⟨w, w1, w2⟩ := r.val j x e
    exact ⟨w, by rw [List.getElem?_set_ne h]; exact w1, w2⟩
end
end Mp
end
section
/-! Mp, part 4: expressions: names, constants, displays, operators, comparisons. -/
namespace Mp
open PySem L2

theorem pe_imp {X : Cx} {e : Expr} {t t' : TE} (h : PE X e t) (k : ∀ σ H Q, t' σ H Q → t σ H Q) : PE X e t' := ⟨fun pins s σ H Q I hw => h.run pins s σ H Q I (k σ H Q hw)⟩
theorem pt_imp {X : Cx} {e : Expr} {t t' : TT} (h : PT X e t) (k : ∀ σ H Q, t' σ H Q → t σ H Q) : PT X e t' := ⟨fun pins s σ H Q I hw => h.run pins s σ H Q I (k σ H Q hw)⟩
theorem pw_imp {X : Cx} {e : Expr} {t t' : TT} (h : PW X e t) (k : ∀ σ H Q, t' σ H Q → t σ H Q) : PW X e t' := ⟨fun wh pins s σ H Q I hw => h.run wh pins s σ H Q I (k σ H Q hw)⟩
theorem pa_imp {X : Cx} {es : List Expr} {t t' : TA} (h : PA X es t) (k : ∀ σ H Q, t' σ H Q → t σ H Q) : PA X es t' := ⟨fun pos pins s σ H Q I hw => h.run pos pins s σ H Q I (k σ H Q hw)⟩

/-! ### mirrors -/
def lift {α : Type} : Option α → M α
  | some a => M.pure a
  | none => M.stuck
/-- an object frozen to a value -/
def MO.val : MO → D
  | .lst ds => .lst ds
  | .dct ks vs => .dct ks vs
  | .ins C ns ds => .ins C ns ds
/-- the value of the name in slot i -/
def mVar (i : Nat) : M D := fun fr st => match fr[i]? with
  | some (some d) => .ok d fr st
  | _ => .stuck
def mArgs : List (M D) → M (List D)
  | [] => M.pure []
  | m :: ms => do
    let d ← m
    let ds ← mArgs ms
    M.pure (d :: ds)
def mTup (ms : M (List D)) : M D := do
  let ds ← ms
  if ds.length ≤ sizeLine then M.pure (.tup ds) else M.stuck
def mLst (ms : M (List D)) : M D := do
  let ds ← ms
  if ds.length ≤ sizeLine then M.pure (.lst ds) else M.stuck
def liftS {α : Type} (f : Store → Option α) : M α := fun fr st => match f st with
  | some a => .ok a fr st
  | none => .stuck
def mBin (f : D → D → Option D) (a b : M D) : M D := do
  let x ← a
  let y ← b
  lift (f x y)
/-- an operation that looks at the shared objects -/
def mBinS (f : Store → D → D → Option D) (a b : M D) : M D := do
  let x ← a
  let y ← b
  liftS fun st => f st x y
def mNotT (a : M Bool) : M Bool := do
  let x ← a
  M.pure (!x)
def mAndT (a b : M Bool) : M Bool := do
  let x ← a
  if x then b else M.pure false
def mOrT (a b : M Bool) : M Bool := do
  let x ← a
  if x then M.pure true else b
def mIf {α : Type} (c : M Bool) (a b : M α) : M α := do
  let x ← c
  if x then a else b
/-- a truth as a value; a value that is a truth -/
def mBl (c : M Bool) : M D := do
  let x ← c
  M.pure (.bl x)
def D.truth : D → Option Bool
  | .non => some false
  | .bl b => some b
  | .int i => some (i != 0)
  | .str x => if x.length ≤ sizeLine then some ((x.length : Int) != 0) else none
  | .tup ds => some (!ds.isEmpty)
  | .lst ds => some (!ds.isEmpty)
  | _ => none
def mTru (a : M D) : M Bool := do
  let x ← a
  lift x.truth

/-! ### data -/
mutual
def D.data : D → Option PyData
  | .non => some .none
  | .bl b => some (.bool b)
  | .int i => some (.int i)
  | .str x => some (.str x)
  | .tup ds => (D.datas ds).map .tuple
  | .lst ds => (D.datas ds).map .list
  | _ => none
def D.datas : List D → Option (List PyData)
  | [] => some []
  | d :: ds => match D.data d, D.datas ds with
    | some p, some ps => some (p :: ps)
    | _, _ => none
end
section
variable {E : SE} {g : Gh} {H : Hp}
mutual
theorem Rep.dp (s : ∀ a o, g.G a = some o → H a = some o) : ∀ {d : D} {v : V} {p : PyData}, Rep E g d v → d.data = some p → Dp E.K H v p
  | .non, v, p, h, e => by simp only [Rep] at h; simp only [D.data, Option.some.injEq] at e; subst h e; exact .non
  | .bl b, v, p, h, e => by simp only [Rep] at h; simp only [D.data, Option.some.injEq] at e; subst h e; exact .bl b
  | .int i, v, p, h, e => by simp only [Rep] at h; simp only [D.data, Option.some.injEq] at e; subst h e; exact .int i
  | .str x, v, p, h, e => by simp only [Rep] at h; simp only [D.data, Option.some.injEq] at e; subst h e; exact .str x
  | .tup ds, v, p, h, e => by
    simp only [Rep] at h
    obtain ⟨a, xs, rfl, h2, _, h4⟩ := h
    simp only [D.data, Option.map_eq_some_iff] at e
    obtain ⟨ps, e1, rfl⟩ := e
    exact .tup (sub_t s h2) (Reps.dp s h4 e1)
  | .lst ds, v, p, h, e => by
    simp only [Rep] at h
    obtain ⟨a, xs, rfl, h2, _, h4⟩ := h
    simp only [D.data, Option.map_eq_some_iff] at e
    obtain ⟨ps, e1, rfl⟩ := e
    exact .lst (SqL.of (s _ _ h2)) (Reps.dp s h4 e1)
  | .dct ks ds, v, p, h, e => by simp [D.data] at e
  | .ins C ns ds, v, p, h, e => by simp [D.data] at e
  | .exc C ns ds, v, p, h, e => by simp [D.data] at e
  | .clo c ds, v, p, h, e => by simp [D.data] at e
  | .scr c, v, p, h, e => by simp [D.data] at e
  | .ref n, v, p, h, e => by simp [D.data] at e
  | .fn f, v, p, h, e => by simp [D.data] at e
  | .ty f, v, p, h, e => by simp [D.data] at e
theorem Reps.dp (s : ∀ a o, g.G a = some o → H a = some o) : ∀ {ds : List D} {vs : List V} {ps : List PyData}, Reps E g ds vs → D.datas ds = some ps → DpAll E.K H vs ps
  | [], vs, ps, h, e => by simp only [Reps] at h; simp only [D.datas, Option.some.injEq] at e; subst h e; exact .nil
  | d :: ds, vs, ps, h, e => by
    simp only [Reps] at h
    obtain ⟨v, r, rfl, h2, h3⟩ := h
    simp only [D.datas] at e
    cases e1 : D.data d with
    | none => rw [e1] at e; simp at e
    | some p =>
      cases e2 : D.datas ds with
      | none => rw [e1, e2] at e; simp at e
      | some ps' =>
        rw [e1, e2] at e
        simp only [Option.some.injEq] at e
        subst e
        exact .cons (Rep.dp s h2 e1) (Reps.dp s h3 e2)
end
theorem Reps.length : ∀ {ds : List D} {vs : List V}, Reps E g ds vs → vs.length = ds.length
  | [], vs, h => by simp only [Reps] at h; rw [h]; rfl
  | d :: ds, vs, h => by
    simp only [Reps] at h
    obtain ⟨v, r, rfl, h2, h3⟩ := h
    rw [List.length_cons, List.length_cons, Reps.length h3]
theorem Reps.nil : Reps E g [] [] := by simp only [Reps]
theorem Reps.cons {d : D} {v : V} {ds : List D} {vs : List V} (h : Rep E g d v) (t : Reps E g ds vs) : Reps E g (d :: ds) (v :: vs) := by
  simp only [Reps]
  exact ⟨v, vs, rfl, h, t⟩
theorem Reps.append : ∀ {ds es : List D} {vs ws : List V}, Reps E g ds vs → Reps E g es ws → Reps E g (ds ++ es) (vs ++ ws)
  | [], es, vs, ws, h, t => by simp only [Reps] at h; subst h; exact t
  | d :: ds, es, vs, ws, h, t => by
    simp only [Reps] at h
    obtain ⟨v, r, rfl, h2, h3⟩ := h
    exact .cons h2 (Reps.append h3 t)
theorem Reps.get : ∀ {ds : List D} {vs : List V} {i : Nat} {d : D}, Reps E g ds vs → ds[i]? = some d → ∃ v, vs[i]? = some v ∧ Rep E g d v
  | [], _, _, _, _, e => by simp at e
  | d :: ds, vs, 0, x, h, e => by
    simp only [Reps] at h
    obtain ⟨v, r, rfl, h2, h3⟩ := h
    simp at e
    subst e
    exact ⟨v, by simp, h2⟩
  | d :: ds, vs, i + 1, x, h, e => by
    simp only [Reps] at h
    obtain ⟨v, r, rfl, h2, h3⟩ := h
    obtain ⟨w, e1, e2⟩ := Reps.get (i := i) h3 (by simpa using e)
    exact ⟨w, by simpa using e1, e2⟩
theorem Reps.get' : ∀ {ds : List D} {vs : List V} {i : Nat} {v : V}, Reps E g ds vs → vs[i]? = some v → ∃ d, ds[i]? = some d ∧ Rep E g d v
  | [], vs, _, _, h, e => by simp only [Reps] at h; subst h; simp at e
  | d :: ds, vs, 0, x, h, e => by
    simp only [Reps] at h
    obtain ⟨v, r, rfl, h2, h3⟩ := h
    simp at e
    subst e
    exact ⟨d, by simp, h2⟩
  | d :: ds, vs, i + 1, x, h, e => by
    simp only [Reps] at h
    obtain ⟨v, r, rfl, h2, h3⟩ := h
    obtain ⟨w, e1, e2⟩ := Reps.get' (i := i) h3 (by simpa using e)
    exact ⟨w, by simpa using e1, e2⟩
theorem Reps.take : ∀ {ds : List D} {vs : List V} (n : Nat), Reps E g ds vs → Reps E g (ds.take n) (vs.take n)
  | _, _, 0, _ => by simp only [List.take_zero]; exact .nil
  | [], vs, n + 1, h => by simp only [Reps] at h; subst h; exact .nil
  | d :: ds, vs, n + 1, h => by
    simp only [Reps] at h
    obtain ⟨v, r, rfl, h2, h3⟩ := h
    exact .cons h2 (Reps.take n h3)
theorem Reps.drop : ∀ {ds : List D} {vs : List V} (n : Nat), Reps E g ds vs → Reps E g (ds.drop n) (vs.drop n)
  | _, _, 0, h => h
  | [], vs, n + 1, h => by simp only [Reps] at h; subst h; exact .nil
  | d :: ds, vs, n + 1, h => by
    simp only [Reps] at h
    obtain ⟨v, r, rfl, h2, h3⟩ := h
    exact Reps.drop n h3
end

/-! ### names, constants, displays -/
section
variable {E : SE} {W : WX} {X : Cx}
theorem tI_pure {d : D} {σ : L2.St} {H : Hp} {Q : VK} (h : tI E W (M.pure d) σ H Q) : ∃ g fr st, RelF E g fr st σ H ∧ ∀ v, Rep E g d v → Q v H := by
  obtain ⟨g, fr, st, r, p⟩ := h
  exact ⟨g, fr, st, r, p g H (.refl ..) r⟩
theorem s_int {i : Int} {j pos} : PE X (.Constant (.int i) j pos) (tI E W (M.pure (.int i))) := pe_imp pe_int fun σ H Q h => by
  obtain ⟨g, fr, st, r, q⟩ := tI_pure h
  exact q _ (by simp only [Rep])
theorem s_bl {b : Bool} {j pos} : PE X (.Constant (.bool b) j pos) (tI E W (M.pure (.bl b))) := pe_imp pe_bl fun σ H Q h => by
  obtain ⟨g, fr, st, r, q⟩ := tI_pure h
  exact q _ (by simp only [Rep])
theorem s_non {j pos} : PE X (.Constant .none j pos) (tI E W (M.pure .non)) := pe_imp pe_non fun σ H Q h => by
  obtain ⟨g, fr, st, r, q⟩ := tI_pure h
  exact q _ (by simp only [Rep])
theorem s_str {x : Str} {j pos} : PE X (.Constant (.str x) j pos) (tI E W (M.pure (.str x))) := pe_imp pe_str fun σ H Q h => by
  obtain ⟨g, fr, st, r, q⟩ := tI_pure h
  exact q _ (by simp only [Rep])
/-- the object of an own name, frozen, is its value -/
theorem ObjRel.val {g : Gh} {H : Hp} {p : Addr} {m : MO} {o : HO} (h : ObjRel E g H p m) (e : H p = some o) (gp : g.G p = none) : Rep E (g.frz p o) m.val (.ref p) := by
  have le : GLe g (g.frz p o) := GLe.frz gp
  cases m with
  | lst ds =>
    obtain ⟨xs, h1, z, r⟩ := h
    rw [h1] at e
    cases e
    simp only [MO.val, Rep]
    exact ⟨p, xs, rfl, upd_same, z, r.mono le⟩
  | dct ks ds =>
    obtain ⟨hs, xs, ys, h1, z, r1, r2⟩ := h
    rw [h1] at e
    cases e
    simp only [MO.val, Rep]
    exact ⟨p, hs, xs, ys, rfl, upd_same, z, r1.mono le, r2.mono le⟩
  | ins C ns ds =>
    obtain ⟨dx, xs, h1, z, r⟩ := h
    rw [h1] at e
    cases e
    simp only [MO.val, Rep]
    exact ⟨p, dx, xs, rfl, upd_same, z, r.mono le⟩
theorem s_var (i : Nat) {x : Str} {pos : Pos} (hN : X.N[i]? = some x := by rfl) (hv : Vis X.env.scope x := by first | exact Or.inl rfl | exact Or.inr (Or.inl rfl) | exact Or.inr (Or.inr rfl)) (hd : (x == ("__debug__" : Str)) = false := by decide)
    (hcd : (x == ("__classdict__" : Str)) = false := by decide) : PE X (.Name x pos) (tI E W (mVar i)) := pe_imp (pe_var hN hv hd hcd) fun σ H Q h => by
  obtain ⟨g, fr, st, r, p⟩ := h
  unfold mVar at p
  split at p
  · rename_i d e
    obtain ⟨v, hs, rv⟩ := r.val i d e
    exact ⟨v, hs, p g H (.refl ..) r v rv⟩
  · exact p.elim
/-- a module's constant -/
theorem s_glob {x : Str} {pos : Pos} {d : D} {v : V} {u : Value} (hg : Gl X x) (hm : X.mg x = some u) (rv : RelV v u) (hr : ∀ g, Rep E g d v) (hd : (x == ("__debug__" : Str)) = false := by decide) : PE X (.Name x pos) (tI E W (M.pure d)) :=
  pe_imp (pe_glob hg hm rv hd) fun σ H Q h => by
    obtain ⟨g, fr, st, r, q⟩ := tI_pure h
    exact q _ (hr g)

theorem s_nil : PA X [] (tIA E W (mArgs [])) := pa_imp pa_nil fun σ H Q h => by
  obtain ⟨g, fr, st, r, p⟩ := h
  exact p g H (.refl ..) r [] .nil
theorem s_cons {e : Expr} {es : List Expr} {m : M D} {ms : List (M D)} (ha : PE X e (tI E W m)) (hr : PA X es (tIA E W (mArgs ms))) (hs : starEach (e :: es) X.env = (false, eval e X.env) :: starEach es X.env := by rfl) : PA X (e :: es) (tIA E W (mArgs (m :: ms))) :=
  pa_imp (pa_cons ha hr hs) fun σ H Q h => by
    obtain ⟨g, fr, st, r, p⟩ := h
    refine tI_bind r p fun g1 fr1 st1 H1 d v t rv => ?_
    refine tIA_bind t.rel t.post fun g2 fr2 st2 H2 ds vs t2 rvs => ?_
    exact t2.ok (v :: vs) (.cons (rv.mono t2.le) rvs)
theorem s_tup {es : List Expr} {ms : List (M D)} {k : Nat} {pos : Pos} (h : PA X es (tIA E W (mArgs ms))) : PE X (.Tuple es k pos) (tI E W (mTup (mArgs ms))) := pe_imp (pe_tup h) fun σ H Q h => by
  obtain ⟨g, fr, st, r, p⟩ := h
  refine tIA_bind r p fun g1 fr1 st1 H1 ds vs t rvs => ?_
  have hp := t.post
  have hl := rvs.length
  split at hp
  · rename_i hz
    refine ⟨by omega, fun q hq => ?_⟩
    obtain ⟨r', e'⟩ := t.rel.newF hq (.tup vs)
    refine hp _ _ e' r' _ ?_
    simp only [Rep]
    exact ⟨q, vs, rfl, SqT.of upd_same, by omega, rvs.mono e'.le⟩
  · exact hp.elim
/-- a list display, as a value -/
theorem s_lst {es : List Expr} {ms : List (M D)} {pos : Pos} (h : PA X es (tIA E W (mArgs ms))) : PE X (.List es pos) (tI E W (mLst (mArgs ms))) := pe_imp (pe_lst h) fun σ H Q h => by
  obtain ⟨g, fr, st, r, p⟩ := h
  refine tIA_bind r p fun g1 fr1 st1 H1 ds vs t rvs => ?_
  have hp := t.post
  have hl := rvs.length
  split at hp
  · rename_i hz
    refine ⟨by omega, fun q hq => ?_⟩
    obtain ⟨r', e'⟩ := t.rel.newF hq (.lst vs)
    refine hp _ _ e' r' _ ?_
    simp only [Rep]
    exact ⟨q, vs, rfl, upd_same, by omega, rvs.mono e'.le⟩
  · exact hp.elim
end
end Mp
end
section
/-! Mp, part 5: operators, comparisons, tests. -/
namespace Mp
open PySem L2

theorem Reps.nil_of {E : SE} {g : Gh} {ds : List D} (h : Reps E g ds []) : ds = [] := by
  have := h.length
  cases ds with
  | nil => rfl
  | cons _ _ => simp at this
/-- what an operation on data asks, on values -/
def OpS (E : SE) (W : WX) (f : D → D → Option D) (r : R2) : Prop :=
  ∀ (g : Gh) (fr : Fr) (st : Store) (σ : L2.St) (H : Hp) (x y : D) (v w : V) (z : D) (Q : VK), RelF E g fr st σ H → Rep E g x v → Rep E g y w → f x y = some z →
    (∀ g' H', Ext g (foS E g st) H g' (foS E g' st) H' → RelF E g' fr st σ H' → ∀ u, Rep E g' z u → Q u H') → r v w H Q
def OpSS (E : SE) (W : WX) (f : Store → D → D → Option D) (r : R2) : Prop :=
  ∀ (g : Gh) (fr : Fr) (st : Store) (σ : L2.St) (H : Hp) (x y : D) (v w : V) (z : D) (Q : VK), RelF E g fr st σ H → Rep E g x v → Rep E g y w → f st x y = some z →
    (∀ g' H', Ext g (foS E g st) H g' (foS E g' st) H' → RelF E g' fr st σ H' → ∀ u, Rep E g' z u → Q u H') → r v w H Q
section
variable {E : SE} {W : WX} {X : Cx}
theorem op_impS {f : Store → D → D → Option D} {r : R2} (hs : OpSS E W f r) {ma mb : M D} {σ : L2.St} {H : Hp} {Q : VK} (h : tI E W (mBinS f ma mb) σ H Q) : tOp r (tI E W ma) (tI E W mb) σ H Q := by
  obtain ⟨g, fr, st, rl, p⟩ := h
  refine tI_bind rl p fun g1 fr1 st1 H1 x v t rx => ?_
  refine tI_bind t.rel t.post fun g2 fr2 st2 H2 y w t2 ry => ?_
  have hp := t2.post
  unfold liftS at hp
  dsimp only at hp
  cases e : f st2 x y with
  | none => rw [e] at hp; exact hp.elim
  | some z =>
    rw [e] at hp
    exact hs g2 fr2 st2 σ H2 x y v w z Q t2.rel (rx.mono t2.le) ry e fun g' H' e' r' u ru => hp g' H' e' r' u ru
theorem s_binS {op : Operator} {r : R2} {f : Store → D → D → Option D} (ho : OpR X (binaryOp op) r) (hs : OpSS E W f r) {a b : Expr} {ma mb : M D} {pos : Pos} (ha : PE X a (tI E W ma)) (hb : PE X b (tI E W mb)) : PE X (.BinOp a op b pos) (tI E W (mBinS f ma mb)) :=
  pe_imp (pe_op ho ha hb) fun _ _ _ h => op_impS hs h
theorem s_cmpS {op : CmpOp} {r : R2} {f : Store → D → D → Option D} (ho : OpR X (compareOp op) r) (hs : OpSS E W f r) {a b : Expr} {ma mb : M D} {pos : Pos} (ha : PE X a (tI E W ma)) (hb : PE X b (tI E W mb)) (hm : behindInMarks op b = false) :
    PE X (.Compare a [op] [b] pos) (tI E W (mBinS f ma mb)) := pe_imp (pe_cmpR ho ha hb hm) fun _ _ _ h => op_impS hs h
theorem op_imp {f : D → D → Option D} {r : R2} (hs : OpS E W f r) {ma mb : M D} {σ : L2.St} {H : Hp} {Q : VK} (h : tI E W (mBin f ma mb) σ H Q) : tOp r (tI E W ma) (tI E W mb) σ H Q := by
  obtain ⟨g, fr, st, rl, p⟩ := h
  refine tI_bind rl p fun g1 fr1 st1 H1 x v t rx => ?_
  refine tI_bind t.rel t.post fun g2 fr2 st2 H2 y w t2 ry => ?_
  have hp := t2.post
  unfold lift at hp
  cases e : f x y with
  | none => rw [e] at hp; exact hp.elim
  | some z =>
    rw [e] at hp
    exact hs g2 fr2 st2 σ H2 x y v w z Q t2.rel (rx.mono t2.le) ry e fun g' H' e' r' u ru => hp g' H' e' r' u ru
theorem s_bin {op : Operator} {r : R2} {f : D → D → Option D} (ho : OpR X (binaryOp op) r) (hs : OpS E W f r) {a b : Expr} {ma mb : M D} {pos : Pos} (ha : PE X a (tI E W ma)) (hb : PE X b (tI E W mb)) : PE X (.BinOp a op b pos) (tI E W (mBin f ma mb)) :=
  pe_imp (pe_op ho ha hb) fun _ _ _ h => op_imp hs h
theorem s_cmp {op : CmpOp} {r : R2} {f : D → D → Option D} (ho : OpR X (compareOp op) r) (hs : OpS E W f r) {a b : Expr} {ma mb : M D} {pos : Pos} (ha : PE X a (tI E W ma)) (hb : PE X b (tI E W mb)) (hm : behindInMarks op b = false) :
    PE X (.Compare a [op] [b] pos) (tI E W (mBin f ma mb)) := pe_imp (pe_cmpR ho ha hb hm) fun _ _ _ h => op_imp hs h
/-- a truth, as a test -/
def mTt (m : M D) : M Bool := do
  let d ← m
  lift (match d with | .bl b => some b | _ => none)
theorem tIT_of {m : M D} {σ : L2.St} {H : Hp} {Q : Bool → Hp → Prop} (h : tIT E W (mTt m) σ H Q) : tI E W m σ H fun x H' => ∃ k, x = .bl k ∧ Q k H' := by
  obtain ⟨g, fr, st, rl, p⟩ := h
  refine tI_bind rl p fun g1 fr1 st1 H1 x v t rx => ?_
  have hp := t.post
  cases x with
  | bl b =>
    simp only [Rep] at rx
    exact ⟨b, rx, hp g1 H1 (.refl ..) t.rel⟩
  | _ => exact hp.elim
theorem s_cmpT {op : CmpOp} {r : R2} {f : D → D → Option D} (ho : OpR X (compareOp op) r) (hs : OpS E W f r) {a b : Expr} {ma mb : M D} {pos : Pos} (ha : PE X a (tI E W ma)) (hb : PE X b (tI E W mb)) (hm : behindInMarks op b = false) :
    PT X (.Compare a [op] [b] pos) (tIT E W (mTt (mBin f ma mb))) := pt_imp (pt_cmpR ho ha hb hm) fun _ _ _ h => op_imp hs (tIT_of h)
/-- a value that is a truth, as a test -/
theorem s_valT {e : Expr} {m : M D} (h : PE X e (tI E W m)) (he : ∀ whole, isTrue e X.env whole = (do let v ← whole; standAt e.pos; holding [v] (truthy v)) := by intro _; rfl) : PT X e (tIT E W (mTt m)) :=
  pt_imp (pt_val h he) fun _ _ _ h => tIT_of h

/-! ### the operators -/
def addD : D → D → Option D
  | .int i, .int j => some (.int (i + j))
  | .str a, .str b => if a.length + b.length ≤ sizeLine then some (.str (a ++ b)) else none
  | .lst a, .lst b => if a.length + b.length ≤ sizeLine then some (.lst (a ++ b)) else none
  | .tup a, .tup b => if a.length + b.length ≤ sizeLine then some (.tup (a ++ b)) else none
  | _, _ => none
def rAddU (K : PySem.W.Frag) : R2 := fun x y H Q => (rI0 (fun i j => .int (i + j)) x y H Q ∨ (∃ i j, x = .str i ∧ y = .str j ∧ i.length + j.length ≤ sizeLine ∧ Q (.str (i ++ j)) H)) ∨ rCat x y H Q ∨ rCatA K x y H Q
theorem op_addU : OpR X (binaryOp .Add) (rAddU X.K) := (op_add.or op_add_str).or (op_cat.or op_catA)
theorem add_s (hK : X.K = E.K) : OpS E W addD (rAddU X.K) := by
  intro g fr st σ H x y v w z Q r rx ry e q
  unfold addD at e
  split at e
  · cases e
    simp only [Rep] at rx ry
    exact .inl (.inl ⟨_, _, rx, ry, q g H (.refl ..) r _ (by simp only [Rep])⟩)
  · split at e
    · rename_i hz
      cases e
      simp only [Rep] at rx ry
      exact .inl (.inr ⟨_, _, rx, ry, hz, q g H (.refl ..) r _ (by simp only [Rep])⟩)
    · cases e
  · split at e
    · rename_i hz
      cases e
      simp only [Rep] at rx ry
      obtain ⟨a, xs, rfl, h1, _, h3⟩ := rx
      obtain ⟨b, ys, rfl, h4, _, h6⟩ := ry
      have l1 := h3.length
      have l2 := h6.length
      refine .inr (.inl ⟨a, b, xs, ys, rfl, rfl, r.sub _ _ h1, r.sub _ _ h4, by omega, fun p hp => ?_⟩)
      obtain ⟨r', e'⟩ := r.newF hp (.lst (xs ++ ys))
      refine q _ _ e' r' _ ?_
      simp only [Rep]
      exact ⟨p, xs ++ ys, rfl, upd_same, by rw [List.length_append]; omega, (h3.append h6).mono e'.le⟩
    · cases e
  · split at e
    · rename_i hz
      cases e
      have rx0 := rx
      have ry0 := ry
      simp only [Rep] at rx ry
      obtain ⟨a, xs, rfl, h1, _, h3⟩ := rx
      obtain ⟨b, ys, rfl, h4, _, h6⟩ := ry
      have l1 := h3.length
      have l2 := h6.length
      refine .inr (.inr ⟨a, b, xs, ys, rfl, rfl, by rw [hK]; exact sub_t r.sub h1, by rw [hK]; exact sub_t r.sub h4, by omega, fun hx => ?_, fun hx hy => ?_, fun hx hy p hp => ?_⟩)
      · refine q g H (.refl ..) r _ ?_
        subst hx
        have z := h3.nil_of
        subst z
        exact ry0
      · refine q g H (.refl ..) r _ ?_
        subst hy
        have z := h6.nil_of
        subst z
        rw [List.append_nil]
        exact rx0
      · obtain ⟨r', e'⟩ := r.newF hp (.tup (xs ++ ys))
        refine q _ _ e' r' _ ?_
        simp only [Rep]
        exact ⟨p, xs ++ ys, rfl, SqT.of upd_same, by rw [List.length_append]; omega, (h3.append h6).mono e'.le⟩
    · cases e
  · cases e

def intD (f : Int → Int → Option D) : D → D → Option D
  | .int i, .int j => f i j
  | _, _ => none
theorem int_s {C : Int → Int → Prop} {h : Int → Int → V} {f : Int → Int → Option D} (hf : ∀ i j z, f i j = some z → C i j ∧ ∀ g, Rep E g z (h i j)) : OpS E W (intD f) (rI C h) := by
  intro g fr st σ H x y v w z Q r rx ry e q
  unfold intD at e
  split at e
  · simp only [Rep] at rx ry
    obtain ⟨c, hr⟩ := hf _ _ _ e
    exact ⟨_, _, rx, ry, c, q g H (.refl ..) r _ (hr g)⟩
  · cases e
theorem int_s0 {h : Int → Int → V} {f : Int → Int → Option D} (hf : ∀ i j z, f i j = some z → ∀ g, Rep E g z (h i j)) : OpS E W (intD f) (rI0 h) := by
  intro g fr st σ H x y v w z Q r rx ry e q
  unfold intD at e
  split at e
  · simp only [Rep] at rx ry
    exact ⟨_, _, rx, ry, q g H (.refl ..) r _ (hf _ _ _ e g)⟩
  · cases e
def subD : D → D → Option D := intD fun i j => some (.int (i - j))
theorem sub_s : OpS E W subD (rI0 fun i j => .int (i - j)) := int_s0 fun i j z e g => by cases e; simp only [Rep]
def smallI (i : Int) : Bool := decide (-(2 ^ 64) < i) && decide (i < 2 ^ 64)
def modD : D → D → Option D := intD fun i j => if j = 0 then none else some (.int (i.fmod j))
theorem mod_s : OpS E W modD (rI (fun _ j => j ≠ 0) fun i j => .int (i.fmod j)) := int_s fun i j z e => by
  split at e
  · cases e
  · rename_i h
    cases e
    exact ⟨h, fun g => by simp only [Rep]⟩
def fdivD : D → D → Option D := intD fun i j => if j = 0 ∨ 1073741824 ≤ j.natAbs then none else some (.int (i.fdiv j))
theorem fdiv_s : OpS E W fdivD (rI CDivN fun i j => .int (i.fdiv j)) := int_s fun i j z e => by
  split at e
  · cases e
  · rename_i h
    cases e
    exact ⟨⟨fun z => h (.inl z), by omega⟩, fun g => by simp only [Rep]⟩
def powD : D → D → Option D := intD fun i j => if 0 ≤ j ∧ j ≤ 1000000 ∧ i.natAbs < 2 ^ 64 then some (.int (i ^ j.toNat)) else none
theorem pow_s : OpS E W powD (rI CPow fun i j => .int (i ^ j.toNat)) := int_s fun i j z e => by
  split at e
  · rename_i h
    cases e
    exact ⟨h, fun g => by simp only [Rep]⟩
  · cases e
/-- int * int (one within 2 ^ 64), list * int -/
def mulD : D → D → Option D
  | .int i, .int j => if (-(2 ^ 64) < i ∧ i < 2 ^ 64) ∨ (-(2 ^ 64) < j ∧ j < 2 ^ 64) then some (.int (i * j)) else none
  | .lst ds, .int k => if -(2 ^ 63) ≤ k ∧ k < 2 ^ 63 ∧ ds.length * k.toNat ≤ sizeLine then some (.lst (List.replicate k.toNat ds).flatten) else none
  | _, _ => none
def rMulU : R2 := fun x y H Q => rI CMul (fun i j => .int (i * j)) x y H Q ∨ rRep x y H Q
theorem op_mulU : OpR X (binaryOp .Mult) rMulU := op_mul.or op_rep
theorem Reps.rep {g : Gh} {ds : List D} {vs : List V} (h : Reps E g ds vs) : ∀ n : Nat, Reps E g (List.replicate n ds).flatten (List.replicate n vs).flatten
  | 0 => .nil
  | n + 1 => by
    rw [List.replicate_succ, List.replicate_succ, List.flatten_cons, List.flatten_cons]
    exact h.append (Reps.rep h n)
theorem mul_s : OpS E W mulD rMulU := by
  intro g fr st σ H x y v w z Q r rx ry e q
  unfold mulD at e
  split at e
  · split at e
    · rename_i hc
      cases e
      simp only [Rep] at rx ry
      exact .inl ⟨_, _, rx, ry, hc, q g H (.refl ..) r _ (by simp only [Rep])⟩
    · cases e
  · split at e
    · rename_i hc
      cases e
      simp only [Rep] at rx ry
      obtain ⟨a, xs, rfl, h1, _, h3⟩ := rx
      have l1 := h3.length
      obtain ⟨c1, c2, c3⟩ := hc
      refine .inr ⟨a, _, xs, rfl, ry, r.sub _ _ h1, c1, c2, by rw [l1]; exact c3, fun p hp => ?_⟩
      obtain ⟨r', e'⟩ := r.newF hp (.lst (List.replicate _ xs).flatten)
      refine q _ _ e' r' _ ?_
      simp only [Rep]
      refine ⟨p, _, rfl, upd_same, ?_, (h3.rep _).mono e'.le⟩
      rw [(h3.rep _).length, List.length_flatten, List.map_replicate, List.sum_replicate_nat, Nat.mul_comm]
      exact c3
    · cases e
  · cases e
end
end Mp
end
section
/-! Mp, part 6: comparisons and tests. -/
namespace Mp
open PySem L2

section
variable {E : SE} {W : WX} {X : Cx}
/-! ### == and != of data -/
def scalD : D → D → Option Bool
  | .non, .non => some true
  | .non, .int _ => some false | .int _, .non => some false
  | .non, .bl _ => some false | .bl _, .non => some false
  | .non, .str _ => some false | .str _, .non => some false
  | .int i, .int j => some (decide (i = j))
  | .bl i, .bl j => some (decide (i = j))
  | .str i, .str j => some (decide (i = j))
  | .int _, .str _ => some false | .str _, .int _ => some false
  | .bl _, .str _ => some false | .str _, .bl _ => some false
  | _, _ => none
/-- == of data: scalars; else by shape -/
def eqD (x y : D) : Option Bool := match scalD x y with
  | some b => some b
  | none => match x.data, y.data with
    | some p, some q => if SeqAt.shaped p && SeqAt.shaped q then some (PyData.eqv p q) else none
    | _, _ => none
def eqB (x y : D) : Option D := (eqD x y).map .bl
def neB (x y : D) : Option D := (eqD x y).map fun b => .bl (!b)
theorem scal_s {g : Gh} {x y : D} {v w : V} {b : Bool} (rx : Rep E g x v) (ry : Rep E g y w) (e : scalD x y = some b) : scal v w = true ∧ decide (v = w) = b := by
  cases x <;> cases y <;> simp only [scalD, reduceCtorEq, Option.some.injEq] at e <;> simp only [Rep] at rx ry <;> subst rx ry e <;> simp [scal]
def rEqU (K : PySem.W.Frag) : R2 := fun x y H Q => rEq x y H Q ∨ rEqD K x y H Q
def rNeU (K : PySem.W.Frag) : R2 := fun x y H Q => rNe x y H Q ∨ rNeD K x y H Q
theorem op_eqU (hu : X.A.units + 64 < cLine) : OpR X (compareOp .Eq) (rEqU X.K) := op_eq.or (op_eqD hu)
theorem op_neU (hu : X.A.units + 64 < cLine) : OpR X (compareOp .NotEq) (rNeU X.K) := op_ne.or (op_neD hu)
theorem eq_s (hK : X.K = E.K) : OpS E W eqB (rEqU X.K) := by
  intro g fr st σ H x y v w z Q r rx ry e q
  unfold eqB eqD at e
  cases h : scalD x y with
  | some b =>
    rw [h] at e
    cases e
    obtain ⟨h1, h2⟩ := scal_s rx ry h
    exact .inl ⟨h1, by rw [h2]; exact q g H (.refl ..) r _ (by simp only [Rep])⟩
  | none =>
    rw [h] at e
    simp only at e
    cases e1 : x.data with
    | none => rw [e1] at e; cases e
    | some p =>
      cases e2 : y.data with
      | none => rw [e1, e2] at e; cases e
      | some p' =>
        rw [e1, e2] at e
        simp only at e
        split at e
        · rename_i hs
          cases e
          rw [Bool.and_eq_true] at hs
          exact .inr ⟨p, p', by rw [hK]; exact rx.dp r.sub e1, by rw [hK]; exact ry.dp r.sub e2, hs.1, hs.2, q g H (.refl ..) r _ (by simp only [Rep])⟩
        · cases e
theorem ne_s (hK : X.K = E.K) : OpS E W neB (rNeU X.K) := by
  intro g fr st σ H x y v w z Q r rx ry e q
  unfold neB eqD at e
  cases h : scalD x y with
  | some b =>
    rw [h] at e
    cases e
    obtain ⟨h1, h2⟩ := scal_s rx ry h
    exact .inl ⟨h1, by rw [h2]; exact q g H (.refl ..) r _ (by simp only [Rep])⟩
  | none =>
    rw [h] at e
    simp only at e
    cases e1 : x.data with
    | none => rw [e1] at e; cases e
    | some p =>
      cases e2 : y.data with
      | none => rw [e1, e2] at e; cases e
      | some p' =>
        rw [e1, e2] at e
        simp only at e
        split at e
        · rename_i hs
          cases e
          rw [Bool.and_eq_true] at hs
          exact .inr ⟨p, p', by rw [hK]; exact rx.dp r.sub e1, by rw [hK]; exact ry.dp r.sub e2, hs.1, hs.2, q g H (.refl ..) r _ (by simp only [Rep])⟩
        · cases e
/-! ### <, <=, .. of ints; is None -/
def ltD : D → D → Option D := intD fun i j => some (.bl (decide (i < j)))
def leD : D → D → Option D := intD fun i j => some (.bl (decide (i ≤ j)))
def gtD : D → D → Option D := intD fun i j => some (.bl (decide (j < i)))
def geD : D → D → Option D := intD fun i j => some (.bl (decide (j ≤ i)))
theorem lt_s : OpS E W ltD (rI0 fun i j => .bl (decide (i < j))) := int_s0 fun i j z e g => by cases e; simp only [Rep]
theorem le_s : OpS E W leD (rI0 fun i j => .bl (decide (i ≤ j))) := int_s0 fun i j z e g => by cases e; simp only [Rep]
theorem gt_s : OpS E W gtD (rI0 fun i j => .bl (decide (j < i))) := int_s0 fun i j z e g => by cases e; simp only [Rep]
theorem ge_s : OpS E W geD (rI0 fun i j => .bl (decide (j ≤ i))) := int_s0 fun i j z e g => by cases e; simp only [Rep]
def D.isNon : D → Bool
  | .non => true
  | _ => false
theorem Rep.non_iff {g : Gh} {d : D} {v : V} (h : Rep E g d v) : decide (v = V.non) = d.isNon := by
  cases d <;> simp only [Rep] at h
  case non => subst h; rfl
  case bl => subst h; rfl
  case int => subst h; rfl
  case str => subst h; rfl
  case tup => obtain ⟨a, xs, rfl, _⟩ := h; rfl
  case lst => obtain ⟨a, xs, rfl, _⟩ := h; rfl
  case dct => obtain ⟨a, hs, xs, ys, rfl, _⟩ := h; rfl
  case ins => obtain ⟨a, dx, xs, rfl, _⟩ := h; rfl
  case scr => obtain ⟨a, rfl, _⟩ := h; rfl
  case exc => obtain ⟨a, d, rfl, _⟩ := h; rfl
  case clo => obtain ⟨a, cl, c, L, xs, rfl, _⟩ := h; rfl
  case ref => rw [h.2]; rfl
  case fn => subst h; rfl
  case ty => subst h; rfl
def isD (x y : D) : Option D := match y with
  | .non => some (.bl x.isNon)
  | _ => none
def isnotD (x y : D) : Option D := match y with
  | .non => some (.bl (!x.isNon))
  | _ => none
theorem is_s : OpS E W isD (fun x y H Q => y = .non ∧ Q (.bl (decide (x = .non))) H) := by
  intro g fr st σ H x y v w z Q r rx ry e q
  unfold isD at e
  split at e
  · cases e
    simp only [Rep] at ry
    exact ⟨ry, by rw [rx.non_iff]; exact q g H (.refl ..) r _ (by simp only [Rep])⟩
  · cases e
theorem isnot_s : OpS E W isnotD (fun x y H Q => y = .non ∧ Q (.bl (!decide (x = .non))) H) := by
  intro g fr st σ H x y v w z Q r rx ry e q
  unfold isnotD at e
  split at e
  · cases e
    simp only [Rep] at ry
    exact ⟨ry, by rw [rx.non_iff]; exact q g H (.refl ..) r _ (by simp only [Rep])⟩
  · cases e

/-! ### in: a text in a text, a flat thing in a list or tuple of flat things -/
def D.flat : D → Bool
  | .non => true | .bl _ => true | .int _ => true | .str _ => true
  | _ => false
def eqF : D → D → Bool
  | .non, .non => true
  | .bl a, .bl b => a == b
  | .bl a, .int b => (if a then 1 else 0) == b
  | .int a, .bl b => a == (if b then 1 else 0)
  | .int a, .int b => a == b
  | .str a, .str b => a == b
  | _, _ => false
def inStr (j i : Str) : Bool := !(Builtin.Str.occurrences j i 0 j.length 1).isEmpty
def inD (x y : D) : Option Bool := match x, y with
  | .str i, .str j => some (inStr j i)
  | x, .lst ds => if x.flat && ds.all D.flat then some (ds.any fun y => eqF y x) else none
  | x, .tup ds => if x.flat && ds.all D.flat then some (ds.any fun y => eqF y x) else none
  | _, _ => none
def inB (x y : D) : Option D := (inD x y).map .bl
def ninB (x y : D) : Option D := (inD x y).map fun b => .bl (!b)
theorem flat_s {g : Gh} {d : D} {v : V} (h : Rep E g d v) (e : d.flat = true) : flatV v = true := by
  cases d <;> simp only [D.flat, Bool.false_eq_true] at e <;> simp only [Rep] at h <;> subst h <;> rfl
theorem eqF_s {g : Gh} {x y : D} {v w : V} (hx : Rep E g x v) (hy : Rep E g y w) (e1 : x.flat = true) (e2 : y.flat = true) : eqV w v = eqF y x := by
  cases x <;> simp only [D.flat, Bool.false_eq_true] at e1 <;> cases y <;> simp only [D.flat, Bool.false_eq_true] at e2 <;> simp only [Rep] at hx hy <;> subst hx hy <;> rfl
theorem flats_s {g : Gh} : ∀ {ds : List D} {vs : List V}, Reps E g ds vs → ds.all D.flat = true → vs.all flatV = true
  | [], vs, h, _ => by simp only [Reps] at h; subst h; rfl
  | d :: ds, vs, h, e => by
    simp only [Reps] at h
    obtain ⟨v, r, rfl, h2, h3⟩ := h
    rw [List.all_cons, Bool.and_eq_true] at e ⊢
    exact ⟨flat_s h2 e.1, flats_s h3 e.2⟩
theorem anyF_s {g : Gh} {x : D} {v : V} (hx : Rep E g x v) (e1 : x.flat = true) : ∀ {ds : List D} {vs : List V}, Reps E g ds vs → ds.all D.flat = true → inV v vs = ds.any fun y => eqF y x
  | [], vs, h, _ => by simp only [Reps] at h; subst h; rfl
  | d :: ds, vs, h, e => by
    simp only [Reps] at h
    obtain ⟨w, r, rfl, h2, h3⟩ := h
    rw [List.all_cons, Bool.and_eq_true] at e
    have ih := anyF_s hx e1 h3 e.2
    unfold inV at ih ⊢
    rw [List.any_cons, List.any_cons, ih, eqF_s hx h2 e1 e.1]
def rInU (K : PySem.W.Frag) : R2 := fun x y H Q => (∃ i j, x = .str i ∧ y = .str j ∧ Q (.bl (!(Builtin.Str.occurrences j i 0 j.length 1).isEmpty)) H) ∨ rIn K false x y H Q
def rNinU (K : PySem.W.Frag) : R2 := fun x y H Q => (∃ i j, x = .str i ∧ y = .str j ∧ Q (.bl (!(!(Builtin.Str.occurrences j i 0 j.length 1).isEmpty))) H) ∨ rIn K true x y H Q
theorem op_inU : OpR X (compareOp .In) (rInU X.K) := op_in_str.or op_in_seq
theorem op_ninU : OpR X (compareOp .NotIn) (rNinU X.K) := op_notin_str.or op_notIn_seq
theorem inU_of {neg : Bool} (hK : X.K = E.K) {g : Gh} {fr : Fr} {st : Store} {σ : L2.St} {H : Hp} {x y : D} {v w : V} {b : Bool} {Q : VK} (r : RelF E g fr st σ H) (rx : Rep E g x v) (ry : Rep E g y w) (e : inD x y = some b) (q : Q (.bl (if neg then !b else b)) H) :
    (∃ i j, v = .str i ∧ w = .str j ∧ Q (.bl (if neg then !(!(Builtin.Str.occurrences j i 0 j.length 1).isEmpty) else !(Builtin.Str.occurrences j i 0 j.length 1).isEmpty)) H) ∨ rIn X.K neg v w H Q := by
  unfold inD at e
  split at e
  · cases e
    simp only [Rep] at rx ry
    exact .inl ⟨_, _, rx, ry, q⟩
  · split at e
    · rename_i hf
      cases e
      rw [Bool.and_eq_true] at hf
      simp only [Rep] at ry
      obtain ⟨a, xs, rfl, h1, _, h3⟩ := ry
      refine .inr ⟨a, xs, rfl, .inl (SqL.of (r.sub _ _ h1)), flat_s rx hf.1, flats_s h3 hf.2, ?_⟩
      rw [anyF_s rx hf.1 h3 hf.2]
      exact q
    · cases e
  · split at e
    · rename_i hf
      cases e
      rw [Bool.and_eq_true] at hf
      simp only [Rep] at ry
      obtain ⟨a, xs, rfl, h1, _, h3⟩ := ry
      refine .inr ⟨a, xs, rfl, .inr (by rw [hK]; exact sub_t r.sub h1), flat_s rx hf.1, flats_s h3 hf.2, ?_⟩
      rw [anyF_s rx hf.1 h3 hf.2]
      exact q
    · cases e
  · cases e
theorem in_s (hK : X.K = E.K) : OpS E W inB (rInU X.K) := by
  intro g fr st σ H x y v w z Q r rx ry e q
  obtain ⟨b, e1, rfl⟩ := Option.map_eq_some_iff.mp e
  exact inU_of (neg := false) hK r rx ry e1 (q g H (.refl ..) r _ (by simp only [Rep]; rfl))
theorem nin_s (hK : X.K = E.K) : OpS E W ninB (rNinU X.K) := by
  intro g fr st σ H x y v w z Q r rx ry e q
  obtain ⟨b, e1, rfl⟩ := Option.map_eq_some_iff.mp e
  exact inU_of (neg := true) (Q := Q) hK r rx ry e1 (q g H (.refl ..) r _ (by simp only [Rep]; rfl))

/-! ### and, or, not, if-else -/
theorem s_not {a : Expr} {ma : M Bool} {pos : Pos} (ha : PT X a (tIT E W ma)) : PT X (.UnaryOp .Not a pos) (tIT E W (mNotT ma)) := pt_imp (pt_not ha) fun σ H Q h => by
  obtain ⟨g, fr, st, r, p⟩ := h
  exact tIT_bind r p fun g1 fr1 st1 H1 b t => t.ok
theorem s_and1 {a : Expr} {ma : M Bool} {pos : Pos} (ha : PT X a (tIT E W ma)) : PW X (.BoolOp .And [a] pos) (tIT E W ma) := pw_and1 ha
theorem s_or1 {a : Expr} {ma : M Bool} {pos : Pos} (ha : PT X a (tIT E W ma)) : PW X (.BoolOp .Or [a] pos) (tIT E W ma) := pw_or1 ha
theorem s_and {a b : Expr} {rest : List Expr} {ma mb : M Bool} {pos : Pos} (ha : PT X a (tIT E W ma)) (hb : PW X (.BoolOp .And (b :: rest) pos) (tIT E W mb)) : PW X (.BoolOp .And (a :: b :: rest) pos) (tIT E W (mAndT ma mb)) := pw_imp (pw_and ha hb) fun σ H Q h => by
  obtain ⟨g, fr, st, r, p⟩ := h
  refine tIT_bind r p fun g1 fr1 st1 H1 b t => ?_
  cases b with
  | true => rw [if_pos rfl]; exact ⟨g1, fr1, st1, t.rel, t.post⟩
  | false => rw [if_neg Bool.false_ne_true]; exact t.ok
theorem s_or {a b : Expr} {rest : List Expr} {ma mb : M Bool} {pos : Pos} (ha : PT X a (tIT E W ma)) (hb : PW X (.BoolOp .Or (b :: rest) pos) (tIT E W mb)) : PW X (.BoolOp .Or (a :: b :: rest) pos) (tIT E W (mOrT ma mb)) := pw_imp (pw_or ha hb) fun σ H Q h => by
  obtain ⟨g, fr, st, r, p⟩ := h
  refine tIT_bind r p fun g1 fr1 st1 H1 b t => ?_
  cases b with
  | true => rw [if_pos rfl]; exact t.ok
  | false => rw [if_neg Bool.false_ne_true]; exact ⟨g1, fr1, st1, t.rel, t.post⟩
theorem s_ifE {c a b : Expr} {mc : M Bool} {ma mb : M D} {pos : Pos} (hc : PT X c (tIT E W mc)) (ha : PE X a (tI E W ma)) (hb : PE X b (tI E W mb)) : PE X (.IfExp c a b pos) (tI E W (mIf mc ma mb)) := pe_imp (pe_ifExp hc ha hb) fun σ H Q h => by
  obtain ⟨g, fr, st, r, p⟩ := h
  refine tIT_bind r p fun g1 fr1 st1 H1 b t => ?_
  cases b with
  | true => rw [if_pos rfl]; exact ⟨g1, fr1, st1, t.rel, t.post⟩
  | false => rw [if_neg Bool.false_ne_true]; exact ⟨g1, fr1, st1, t.rel, t.post⟩
theorem empty_s {g : Gh} : ∀ {ds : List D} {vs : List V}, Reps E g ds vs → vs.isEmpty = ds.isEmpty
  | [], vs, h => by simp only [Reps] at h; subst h; rfl
  | d :: ds, vs, h => by
    simp only [Reps] at h
    obtain ⟨v, r, rfl, _⟩ := h
    rfl
/-- by truth, as a test -/
theorem tru_s {g : Gh} {d : D} {v : V} {k : Bool} {H : Hp} (s : ∀ a o, g.G a = some o → H a = some o) (rv : Rep E g d v) (e : d.truth = some k) : TruV E.K v H k := by
  cases d <;> simp only [D.truth, reduceCtorEq, Option.some.injEq] at e <;> simp only [Rep] at rv
  case non => subst rv e; exact rfl
  case bl => subst rv e; exact rfl
  case int => subst rv e; exact rfl
  case str x =>
    split at e
    · rename_i h
      cases e
      subst rv
      exact ⟨h, rfl⟩
    · cases e
  case tup =>
    obtain ⟨a, xs, rfl, h1, _, h3⟩ := rv
    exact .inr (.inl ⟨xs, sub_t s h1, by rw [← e, empty_s h3]⟩)
  case lst =>
    obtain ⟨a, xs, rfl, h1, _, h3⟩ := rv
    exact .inl ⟨xs, SqL.of (s _ _ h1), by rw [← e, empty_s h3]⟩
theorem s_truT (hK : X.K = E.K) {e : Expr} {m : M D} (h : PE X e (tI E W m)) (he : ∀ whole, isTrue e X.env whole = (do let v ← whole; standAt e.pos; holding [v] (truthy v)) := by intro _; rfl) : PT X e (tIT E W (mTru m)) :=
  pt_imp (pt_truth h he) fun σ H Q h => by
    obtain ⟨g, fr, st, rl, p⟩ := h
    refine tI_bind rl p fun g1 fr1 st1 H1 x v t rx => ?_
    have hp := t.post
    unfold lift at hp
    cases e : x.truth with
    | none => rw [e] at hp; exact hp.elim
    | some k =>
      rw [e] at hp
      exact ⟨k, by rw [hK]; exact tru_s t.rel.sub rx e, hp g1 H1 (.refl ..) t.rel⟩
/-- or, and as values, by truth -/
def mOrV (a b : M D) : M D := do
  let x ← a
  let k ← lift x.truth
  if k then M.pure x else b
def mAndV (a b : M D) : M D := do
  let x ← a
  let k ← lift x.truth
  if k then b else M.pure x
theorem s_one {op : BoolOp} {a : Expr} {ma : M D} {pos : Pos} (ha : PE X a (tI E W ma)) : PE X (.BoolOp op [a] pos) (tI E W ma) := pe_one ha
theorem s_orV (hK : X.K = E.K) {a b : Expr} {rest : List Expr} {ma mb : M D} {pos : Pos} (ha : PE X a (tI E W ma)) (hb : PE X (.BoolOp .Or (b :: rest) pos) (tI E W mb)) : PE X (.BoolOp .Or (a :: b :: rest) pos) (tI E W (mOrV ma mb)) := pe_imp (pe_orT ha hb) fun σ H Q h => by
  obtain ⟨g, fr, st, rl, p⟩ := h
  refine tI_bind rl p fun g1 fr1 st1 H1 x v t rx => ?_
  have hp := t.post.bind
  unfold lift at hp
  cases e : x.truth with
  | none => rw [e] at hp; exact hp.elim
  | some k =>
    rw [e] at hp
    have t2 := hp g1 H1 (.refl ..) t.rel
    refine ⟨k, by rw [hK]; exact tru_s t.rel.sub rx e, ?_⟩
    cases k with
    | true => rw [if_pos rfl]; exact t2.ok v rx
    | false => rw [if_neg Bool.false_ne_true]; exact ⟨g1, fr1, st1, t2.rel, t2.post⟩
theorem s_andV (hK : X.K = E.K) {a b : Expr} {rest : List Expr} {ma mb : M D} {pos : Pos} (ha : PE X a (tI E W ma)) (hb : PE X (.BoolOp .And (b :: rest) pos) (tI E W mb)) : PE X (.BoolOp .And (a :: b :: rest) pos) (tI E W (mAndV ma mb)) := pe_imp (pe_andT ha hb) fun σ H Q h => by
  obtain ⟨g, fr, st, rl, p⟩ := h
  refine tI_bind rl p fun g1 fr1 st1 H1 x v t rx => ?_
  have hp := t.post.bind
  unfold lift at hp
  cases e : x.truth with
  | none => rw [e] at hp; exact hp.elim
  | some k =>
    rw [e] at hp
    have t2 := hp g1 H1 (.refl ..) t.rel
    refine ⟨k, by rw [hK]; exact tru_s t.rel.sub rx e, ?_⟩
    cases k with
    | true => rw [if_pos rfl]; exact ⟨g1, fr1, st1, t2.rel, t2.post⟩
    | false => rw [if_neg Bool.false_ne_true]; exact t2.ok v rx
def mNotV (a : M D) : M D := do
  let x ← a
  let k ← lift x.truth
  M.pure (.bl (!k))
theorem s_notV (hK : X.K = E.K) {a : Expr} {ma : M D} {pos : Pos} (ha : PE X a (tI E W ma)) : PE X (.UnaryOp .Not a pos) (tI E W (mNotV ma)) := pe_imp (pe_notT ha) fun σ H Q h => by
  obtain ⟨g, fr, st, rl, p⟩ := h
  refine tI_bind rl p fun g1 fr1 st1 H1 x v t rx => ?_
  have hp := t.post.bind
  unfold lift at hp
  cases e : x.truth with
  | none => rw [e] at hp; exact hp.elim
  | some k =>
    rw [e] at hp
    have t2 := hp g1 H1 (.refl ..) t.rel
    exact ⟨k, by rw [hK]; exact tru_s t.rel.sub rx e, t2.ok _ (by simp only [Rep])⟩
/-- a < b < c, b asked once -/
def mChain (f f' : D → D → Option D) (a b c : M D) : M D := do
  let x ← a
  let y ← b
  let z ← lift (f x y)
  match z with
  | .bl true => do
    let w ← c
    lift (f' y w)
  | .bl false => M.pure (.bl false)
  | _ => M.stuck
end
end Mp
end
section
/-! Mp, part 7: chains, places, slices, calls of built-ins. -/
namespace Mp
open PySem L2
section
variable {E : SE} {W : WX} {X : Cx}
theorem chain_imp {f f' : D → D → Option D} {r r' : R2} (hs : OpS E W f r) (hs' : OpS E W f' r') {ma mb mc : M D} {σ : L2.St} {H : Hp} {Q : VK} (h : tI E W (mChain f f' ma mb mc) σ H Q) : tChain r r' (tI E W ma) (tI E W mb) (tI E W mc) σ H Q := by
  obtain ⟨g, fr, st, rl, p⟩ := h
  refine tI_bind rl p fun g1 fr1 st1 H1 x v t rx => ?_
  refine tI_bind t.rel t.post fun g2 fr2 st2 H2 y w t2 ry => ?_
  have hp := t2.post.bind
  unfold lift at hp
  cases e : f x y with
  | none => rw [e] at hp; exact hp.elim
  | some z =>
    rw [e] at hp
    refine hs g2 fr2 st2 σ H2 x y v w z _ t2.rel (rx.mono t2.le) ry e fun g3 H3 e3 r3 u ru => ?_
    have t3 := hp g3 H3 e3 r3
    have hp3 := t3.post
    cases z with
    | bl k =>
      simp only [Rep] at ru
      refine ⟨k, ru, ?_⟩
      cases k with
      | true =>
        rw [if_pos rfl]
        refine tI_bind t3.rel hp3 fun g4 fr4 st4 H4 z w4 t4 rz => ?_
        have hp4 := t4.post
        unfold lift at hp4
        cases e' : f' y z with
        | none => rw [e'] at hp4; exact hp4.elim
        | some z' =>
          rw [e'] at hp4
          exact hs' g4 fr4 st4 σ H4 y z w w4 z' Q t4.rel ((ry.mono e3.le).mono t4.le) rz e' fun g' H' e'' r' u ru => hp4 g' H' e'' r' u ru
      | false =>
        rw [if_neg Bool.false_ne_true]
        exact hp3 g3 H3 (.refl ..) t3.rel _ (by simp only [Rep])
    | _ => exact hp3.elim
theorem s_chain {op op' : CmpOp} {r r' : R2} {f f' : D → D → Option D} (ho : OpR X (compareOp op) r) (hs : OpS E W f r) (ho' : OpR X (compareOp op') r') (hs' : OpS E W f' r') {a b c : Expr} {ma mb mc : M D} {pos : Pos} (ha : PE X a (tI E W ma)) (hb : PE X b (tI E W mb)) (hc : PE X c (tI E W mc))
    (hm : lastMarks [op, op'] [b, c] = false := by with_unfolding_all rfl) : PE X (.Compare a [op, op'] [b, c] pos) (tI E W (mChain f f' ma mb mc)) := pe_imp (pe_chain ho ho' ha hb hc hm) fun _ _ _ h => chain_imp hs hs' h
theorem s_chainT {op op' : CmpOp} {r r' : R2} {f f' : D → D → Option D} (ho : OpR X (compareOp op) r) (hs : OpS E W f r) (ho' : OpR X (compareOp op') r') (hs' : OpS E W f' r') {a b c : Expr} {ma mb mc : M D} {pos : Pos} (ha : PE X a (tI E W ma)) (hb : PE X b (tI E W mb)) (hc : PE X c (tI E W mc))
    (hm : lastMarks [op, op'] [b, c] = false := by with_unfolding_all rfl) : PT X (.Compare a [op, op'] [b, c] pos) (tIT E W (mTt (mChain f f' ma mb mc))) := pt_imp (pt_chain ho ho' ha hb hc hm) fun _ _ _ h => chain_imp hs hs' (tIT_of h)

/-! ### places -/
theorem atI_map {α β : Type} {xs : List α} {ys : List β} (h : xs.length = ys.length) {i : Int} {y : β} (e : atI ys i = some y) : ∃ j : Nat, ys[j]? = some y ∧ ∀ x, xs[j]? = some x → atI xs i = some x := by
  unfold atI at e ⊢
  rw [h]
  cases q : ixN ys.length i with
  | none => rw [q] at e; cases e
  | some j =>
    rw [q] at e
    exact ⟨j, e, fun x hx => hx⟩
/-- xs[i], t[i], s[i] -/
def ixD : D → D → Option D
  | .lst ds, .int i => atI ds i
  | .tup ds, .int i => atI ds i
  | .str z, .int i => if z.length ≤ sizeLine then (atI z.cps.toList i).map fun c => .str ⟨#[c]⟩ else none
  | _, _ => none
theorem ix_s (hK : X.K = E.K) : OpS E W ixD (rIx X.K) := by
  intro g fr st σ H x y v w z Q r rx ry e q
  unfold ixD at e
  split at e
  · simp only [Rep] at rx ry
    obtain ⟨a, xs, rfl, h1, _, h3⟩ := rx
    obtain ⟨j, e1, e2⟩ := atI_map h3.length e
    obtain ⟨u, e3, ru⟩ := h3.get e1
    exact .inl ⟨a, xs, _, u, rfl, ry, SqL.of (r.sub _ _ h1), e2 u e3, q g H (.refl ..) r u ru⟩
  · simp only [Rep] at rx ry
    obtain ⟨a, xs, rfl, h1, _, h3⟩ := rx
    obtain ⟨j, e1, e2⟩ := atI_map h3.length e
    obtain ⟨u, e3, ru⟩ := h3.get e1
    exact .inr (.inl ⟨a, xs, _, u, rfl, ry, by rw [hK]; exact sub_t r.sub h1, e2 u e3, q g H (.refl ..) r u ru⟩)
  · split at e
    · rename_i hz
      obtain ⟨c, e1, rfl⟩ := Option.map_eq_some_iff.mp e
      simp only [Rep] at rx ry
      exact .inr (.inr ⟨_, _, c, rx, ry, hz, e1, q g H (.refl ..) r _ (by simp only [Rep])⟩)
    · cases e
  · cases e
theorem s_ix (hK : X.K = E.K) {a b : Expr} {ma mb : M D} {pos : Pos} (ha : PE X a (tI E W ma)) (hb : PE X b (tI E W mb)) (hs : PlainIx b) : PE X (.Subscript a b pos) (tI E W (mBin ixD ma mb)) := pe_imp (pe_ix ix_seq ha hb hs) fun _ _ _ h => op_imp (ix_s hK) h

/-! ### slices -/
def cutD {α : Type} (xs : List α) (lo hi : Option Int) : List α := (xs.drop (HT.sIx xs.length 0 lo)).take (HT.sIx xs.length xs.length hi - HT.sIx xs.length 0 lo)
def slD (x : D) (lo hi : Option Int) : Option D := match x with
  | .lst ds => some (.lst (cutD ds lo hi))
  | .tup ds => some (.tup (cutD ds lo hi))
  | .str z => if z.length ≤ sizeLine then some (.str (cutS z lo hi)) else none
  | _ => none
def tIO (E : SE) (W : WX) (m : M (Option Int)) : TO := fun σ H Q => ∃ g fr st, RelF E g fr st σ H ∧ Post E W g (foS E g st) H σ (fun _ o _ _ H' => Q o H') (m fr st)
theorem po_imp {o : Option Expr} {t t' : TO} (h : PO X o t) (k : ∀ σ H Q, t' σ H Q → t σ H Q) : PO X o t' := ⟨fun pins s σ H Q I hw => h.run pins s σ H Q I (k σ H Q hw)⟩
def mPart (m : M D) : M (Option Int) := do
  let d ← m
  lift (match d with | .int i => some (some i) | _ => none)
theorem so_none : PO X none (tIO E W (M.pure none)) := po_imp po_none fun σ H Q h => by
  obtain ⟨g, fr, st, r, p⟩ := h
  exact p g H (.refl ..) r
theorem so_some {e : Expr} {m : M D} (h : PE X e (tI E W m)) : PO X (some e) (tIO E W (mPart m)) := po_imp (po_some h) fun σ H Q h => by
  obtain ⟨g, fr, st, rl, p⟩ := h
  refine tI_bind rl p fun g1 fr1 st1 H1 x v t rx => ?_
  have hp := t.post
  cases x with
  | int i =>
    simp only [Rep] at rx
    exact ⟨i, rx, hp g1 H1 (.refl ..) t.rel⟩
  | _ => exact hp.elim
theorem tIO_bind {β : Type} {g : Gh} {H : Hp} {σ : L2.St} {R : Gh → β → Fr → Store → Hp → Prop} {m : M (Option Int)} {k : Option Int → M β} {fr : Fr} {st : Store} (r : RelF E g fr st σ H) (h : Post E W g (foS E g st) H σ R ((m >>= k) fr st))
    {Q : Option Int → Hp → Prop} (q : ∀ g1 fr1 st1 H1 b, Then E W g σ R (k b) g1 fr1 st1 H1 → Q b H1) : tIO E W m σ H Q := by
  refine ⟨g, fr, st, r, ?_⟩
  have h1 := h.bind
  cases e : m fr st with
  | ok a fr1 st1 =>
    rw [e] at h1
    exact fun g1 H1 e1 r1 => q g1 fr1 st1 H1 a (h1 g1 H1 e1 r1)
  | exc x fr1 st1 =>
    rw [e] at h1
    exact h1
  | stuck =>
    rw [e] at h1
    exact h1
def mSl (a : M D) (lo hi : M (Option Int)) : M D := do
  let x ← a
  let l ← lo
  let h ← hi
  lift (slD x l h)
def rSlU (K : PySem.W.Frag) : V → Option Int → Option Int → Hp → VK → Prop := fun x lo hi H Q => rSlL K x lo hi H Q ∨ rSlA K x lo hi H Q ∨ rSlS x lo hi H Q
theorem Reps.cut {g : Gh} {ds : List D} {vs : List V} (h : Reps E g ds vs) (lo hi : Option Int) : Reps E g (cutD ds lo hi) (cutV vs lo hi) := by
  unfold cutD cutV
  rw [h.length]
  exact (h.drop _).take _
theorem s_slice (hK : X.K = E.K) {e : Expr} {lo hi : Option Expr} {m : M D} {ml mh : M (Option Int)} {pos p2 : Pos} (he : PE X e (tI E W m)) (hl : PO X lo (tIO E W ml)) (hu : PO X hi (tIO E W mh)) : PE X (.Subscript e (.Slice lo hi none p2) pos) (tI E W (mSl m ml mh)) :=
  pe_imp (pe_slice (sl_list.or (sl_tupA.or sl_str)) he hl hu) fun σ H Q h => by
    obtain ⟨g, fr, st, rl, p⟩ := h
    refine tI_bind rl p fun g1 fr1 st1 H1 x v t rx => ?_
    refine tIO_bind t.rel t.post fun g2 fr2 st2 H2 l t2 => ?_
    refine tIO_bind t2.rel t2.post fun g3 fr3 st3 H3 h t3 => ?_
    have hp := t3.post
    have rx := (rx.mono t2.le).mono t3.le
    have r := t3.rel
    cases x with
    | lst ds =>
      have rx0 := rx
      simp only [Rep] at rx
      obtain ⟨a, xs, rfl, h1, z, h3⟩ := rx
      refine .inl ⟨a, xs, rfl, SqL.of (r.sub _ _ h1), fun q hq => ?_⟩
      obtain ⟨r', e'⟩ := r.newF hq (.lst (cutV xs l h))
      refine hp _ _ e' r' _ ?_
      simp only [Rep]
      exact ⟨q, _, rfl, upd_same, Nat.le_trans (cutV_length xs l h) z, (h3.cut l h).mono e'.le⟩
    | tup ds =>
      have rx0 := rx
      simp only [Rep] at rx
      obtain ⟨a, xs, rfl, h1, z, h3⟩ := rx
      refine .inr (.inl ⟨a, xs, rfl, by rw [hK]; exact sub_t r.sub h1, fun hw => ?_, fun hw q hq => ?_⟩)
      · refine hp g3 H3 (.refl ..) r _ ?_
        have e0 : cutD ds l h = ds := by
          unfold cutD
          rw [← h3.length, hw.1, hw.2, List.drop_zero, Nat.sub_zero, h3.length, List.take_length]
        rw [e0]
        exact rx0
      · obtain ⟨r', e'⟩ := r.newF hq (.tup (cutV xs l h))
        refine hp _ _ e' r' _ ?_
        simp only [Rep]
        exact ⟨q, _, rfl, SqT.of upd_same, Nat.le_trans (cutV_length xs l h) z, (h3.cut l h).mono e'.le⟩
    | str s =>
      simp only [slD] at hp
      split at hp
      · rename_i hz
        simp only [Rep] at rx
        exact .inr (.inr ⟨s, rx, hz, hp g3 H3 (.refl ..) r _ (by simp only [Rep])⟩)
      · exact hp.elim
    | _ => exact hp.elim

/-! ### built-ins -/
/-- what a built-in asks of its arguments' data -/
def CallS (E : SE) (W : WX) (f : Store → List D → Option D) (r : List V → Hp → VK → Prop) : Prop :=
  ∀ (g : Gh) (fr : Fr) (st : Store) (σ : L2.St) (H : Hp) (ds : List D) (vs : List V) (z : D) (Q : VK), RelF E g fr st σ H → Reps E g ds vs → f st ds = some z →
    (∀ g' H', Ext g (foS E g st) H g' (foS E g' st) H' → RelF E g' fr st σ H' → ∀ u, Rep E g' z u → Q u H') → r vs H Q
def mCallB (f : Store → List D → Option D) (ms : M (List D)) : M D := do
  let ds ← ms
  fun fr st => match f st ds with
    | some z => .ok z fr st
    | none => .stuck
theorem call_imp {f : Store → List D → Option D} {r : List V → Hp → VK → Prop} (hs : CallS E W f r) {ms : M (List D)} {σ : L2.St} {H : Hp} {Q : VK} (h : tI E W (mCallB f ms) σ H Q) : tCB r (tIA E W ms) σ H Q := by
  obtain ⟨g, fr, st, rl, p⟩ := h
  refine tIA_bind rl p fun g1 fr1 st1 H1 ds vs t rs => ?_
  have hp := t.post
  cases e : f st1 ds with
  | none => rw [e] at hp; exact hp.elim
  | some z =>
    rw [e] at hp
    exact hs g1 fr1 st1 σ H1 ds vs z Q t.rel rs e fun g' H' e' r' u ru => hp g' H' e' r' u ru
theorem Reps.one {g : Gh} {d : D} {vs : List V} (h : Reps E g [d] vs) : ∃ v, vs = [v] ∧ Rep E g d v := by
  simp only [Reps] at h
  obtain ⟨v, r, rfl, h2, rfl⟩ := h
  exact ⟨v, rfl, h2⟩
theorem Reps.two {g : Gh} {d e : D} {vs : List V} (h : Reps E g [d, e] vs) : ∃ v w, vs = [v, w] ∧ Rep E g d v ∧ Rep E g e w := by
  simp only [Reps] at h
  obtain ⟨v, r, rfl, h2, w, r2, rfl, h3, rfl⟩ := h
  exact ⟨v, w, rfl, h2, h3⟩
def lenB (st : Store) : List D → Option D
  | [.str x] => if x.length ≤ sizeLine then some (.int x.length) else none
  | [.lst ds] => some (.int ds.length)
  | [.tup ds] => some (.int ds.length)
  | [.scr ns] => some (.int ns.length)
  | [.ref n] => match st.get n with
    | some (.lst ds) => some (.int ds.length)
    | _ => none
  | _ => none
def rLenU (K : PySem.W.Frag) : List V → Hp → VK → Prop := fun xs H Q => ∃ x n, xs = [x] ∧ LenV K x H n ∧ Q (.int n) H
theorem len_s (hK : X.K = E.K) : CallS E W lenB (rLenU X.K) := by
  intro g fr st σ H ds vs z Q r rs e q
  have fin : ∀ n : Nat, z = .int n → Q (.int n) H := fun n ez => q g H (.refl ..) r _ (by subst ez; simp only [Rep])
  unfold lenB at e
  split at e
  · split at e
    · rename_i hz
      cases e
      obtain ⟨v, rfl, rv⟩ := rs.one
      simp only [Rep] at rv
      exact ⟨v, _, rfl, by rw [rv]; exact ⟨hz, rfl⟩, fin _ rfl⟩
    · cases e
  · cases e
    obtain ⟨v, rfl, rv⟩ := rs.one
    simp only [Rep] at rv
    obtain ⟨a, xs, rfl, h1, _, h3⟩ := rv
    exact ⟨_, _, rfl, .inl ⟨xs, SqL.of (r.sub _ _ h1), h3.length.symm⟩, fin _ rfl⟩
  · cases e
    obtain ⟨v, rfl, rv⟩ := rs.one
    simp only [Rep] at rv
    obtain ⟨a, xs, rfl, h1, _, h3⟩ := rv
    exact ⟨_, _, rfl, .inr ⟨xs, by rw [hK]; exact sub_t r.sub h1, h3.length.symm⟩, fin _ rfl⟩
  · cases e
    obtain ⟨v, rfl, rv⟩ := rs.one
    simp only [Rep] at rv
    obtain ⟨a, rfl, h1, _⟩ := rv
    exact ⟨_, _, rfl, .inl ⟨_, by rw [hK]; exact sub_l r.sub h1, (List.length_map _).symm⟩, fin _ rfl⟩
  · split at e
    · rename_i n ds eo
      cases e
      obtain ⟨v, rfl, rv⟩ := rs.one
      simp only [Rep] at rv
      obtain ⟨xs, h1, _, h3⟩ := r.obj _ _ eo
      rw [rv.2]
      exact ⟨_, _, rfl, .inl ⟨xs, SqL.of h1, h3.length.symm⟩, fin _ rfl⟩
    · cases e
  · cases e
theorem s_callB {id : String} {f : Store → List D → Option D} {r : List V → Hp → VK → Prop} {x : Str} {e : Expr} {es : List Expr} {ms : M (List D)} {p pos : Pos} (hc : CallR X (.builtin id) r) (hs : CallS E W f r) (hg : Gl X x) (hm : X.mg x = none) (hv : bootBuiltins x = some (.builtin id)) (ha : PA X (e :: es) (tIA E W ms)) (hn : x ≠ "__name__" := by decide) (hdb : (x == ("__debug__" : Str)) = false := by decide)
    (he : starEach (e :: es) X.env = (false, eval e X.env) :: starEach es X.env := by rfl) (hpl : (backTo pos (starEach es X.env)).any (·.1) = false := by rfl) : PE X (.Call (.Name x p) (e :: es) [] pos) (tI E W (mCallB f ms)) :=
  pe_imp (pe_callB hc hg hm hv ha hn hdb he hpl) fun _ _ _ h => call_imp hs h
theorem s_callTy {id : String} {f : Store → List D → Option D} {r : List V → Hp → VK → Prop} {x : Str} {e : Expr} {es : List Expr} {ms : M (List D)} {p pos : Pos} (hc : CallR X (.type id) r) (hs : CallS E W f r) (hg : Gl X x) (hm : X.mg x = none) (hv : bootBuiltins x = some (.type id)) (ha : PA X (e :: es) (tIA E W ms)) (hn : x ≠ "__name__" := by decide) (hdb : (x == ("__debug__" : Str)) = false := by decide)
    (he : starEach (e :: es) X.env = (false, eval e X.env) :: starEach es X.env := by rfl) (hpl : (backTo pos (starEach es X.env)).any (·.1) = false := by rfl) : PE X (.Call (.Name x p) (e :: es) [] pos) (tI E W (mCallB f ms)) :=
  pe_imp (pe_callTy hc hg hm hv ha hn hdb he hpl) fun _ _ _ h => call_imp hs h
end
end Mp
end
section
/-! Mp, part 8: list, tuple, int, abs, min, max, all, any, isinstance. -/
namespace Mp
open PySem L2
section
variable {E : SE} {W : WX} {X : Cx}
/-- the items of a list or tuple, also of a shared list -/
def itemsD (st : Store) : D → Option (List D)
  | .lst ds => some ds
  | .tup ds => some ds
  | .ref n => match st.get n with
    | some (.lst ds) => some ds
    | _ => none
  | _ => none
theorem items_s {g : Gh} {fr : Fr} {st : Store} {σ : L2.St} {H : Hp} {d : D} {v : V} {ds : List D} (r : RelF E g fr st σ H) (rv : Rep E g d v) (e : itemsD st d = some ds) :
    ∃ a xs, v = .ref a ∧ (SqL E.K H a xs ∨ SqT E.K H a xs) ∧ xs.length ≤ sizeLine ∧ Reps E g ds xs := by
  unfold itemsD at e
  split at e
  · cases e
    simp only [Rep] at rv
    obtain ⟨a, xs, rfl, h1, h2, h3⟩ := rv
    exact ⟨a, xs, rfl, .inl (SqL.of (r.sub _ _ h1)), h2, h3⟩
  · cases e
    simp only [Rep] at rv
    obtain ⟨a, xs, rfl, h1, h2, h3⟩ := rv
    exact ⟨a, xs, rfl, .inr (sub_t r.sub h1), h2, h3⟩
  · split at e
    · rename_i n ds' eo
      cases e
      simp only [Rep] at rv
      obtain ⟨xs, h1, h2, h3⟩ := r.obj _ _ eo
      exact ⟨_, xs, rv.2, .inl (SqL.of h1), h2, h3⟩
    · cases e
  · cases e
/-- list(x), tuple(x), as values -/
def listB (st : Store) : List D → Option D
  | [d] => (itemsD st d).map .lst
  | _ => none
def tupleB (st : Store) : List D → Option D
  | [d] => (itemsD st d).map .tup
  | _ => none
def rListU (K : PySem.W.Frag) : List V → Hp → VK → Prop := fun xs H Q => ∃ p ys, xs = [.ref p] ∧ (SqL K H p ys ∨ SqT K H p ys) ∧ ∀ l, H l = none → Q (.ref l) (upd H l (.lst ys))
def rTupU (K : PySem.W.Frag) : List V → Hp → VK → Prop := fun xs H Q => ∃ p ys, xs = [.ref p] ∧ ((SqL K H p ys ∧ ∀ l, H l = none → Q (.ref l) (upd H l (.tup ys))) ∨ (SqT K H p ys ∧ Q (.ref p) H))
theorem list_s (hK : X.K = E.K) : CallS E W listB (rListU X.K) := by
  intro g fr st σ H ds vs z Q r rs e q
  unfold listB at e
  split at e
  · obtain ⟨xs, e1, rfl⟩ := Option.map_eq_some_iff.mp e
    obtain ⟨v, rfl, rv⟩ := rs.one
    obtain ⟨a, ys, rfl, h1, h2, h3⟩ := items_s r rv e1
    refine ⟨a, ys, rfl, by rw [hK]; exact h1, fun l hl => ?_⟩
    obtain ⟨r', e'⟩ := r.newF hl (.lst ys)
    refine q _ _ e' r' _ ?_
    simp only [Rep]
    exact ⟨l, ys, rfl, upd_same, h2, h3.mono e'.le⟩
  · cases e
theorem tuple_s (hK : X.K = E.K) : CallS E W tupleB (rTupU X.K) := by
  intro g fr st σ H ds vs z Q r rs e q
  unfold tupleB at e
  split at e
  · obtain ⟨xs, e1, rfl⟩ := Option.map_eq_some_iff.mp e
    obtain ⟨v, rfl, rv⟩ := rs.one
    unfold itemsD at e1
    have fin : ∀ {a : Addr} {ys : List V}, ys.length ≤ sizeLine → Reps E g xs ys → ∀ l, H l = none → Q (.ref l) (upd H l (.tup ys)) := fun {a ys} h2 h3 l hl => by
      obtain ⟨r', e'⟩ := r.newF hl (.tup ys)
      refine q _ _ e' r' _ ?_
      simp only [Rep]
      exact ⟨l, ys, rfl, SqT.of upd_same, h2, h3.mono e'.le⟩
    split at e1
    · cases e1
      simp only [Rep] at rv
      obtain ⟨a, ys, rfl, h1, h2, h3⟩ := rv
      exact ⟨a, ys, rfl, .inl ⟨SqL.of (r.sub _ _ h1), fin (a := a) h2 h3⟩⟩
    · cases e1
      have rv0 := rv
      simp only [Rep] at rv
      obtain ⟨a, ys, rfl, h1, h2, h3⟩ := rv
      exact ⟨a, ys, rfl, .inr ⟨by rw [hK]; exact sub_t r.sub h1, q g H (.refl ..) r _ rv0⟩⟩
    · split at e1
      · rename_i n ds' eo
        cases e1
        simp only [Rep] at rv
        obtain ⟨ys, h1, h2, h3⟩ := r.obj _ _ eo
        rw [rv.2]
        exact ⟨_, ys, rfl, .inl ⟨SqL.of h1, fin (a := 0) h2 h3⟩⟩
      · cases e1
    · cases e1
  · cases e
def intB (_ : Store) : List D → Option D
  | [.int i] => some (.int i)
  | [.bl b] => some (.int (if b then 1 else 0))
  | _ => none
theorem int1_s : CallS E W intB (fun xs H Q => (∃ i, xs = [.int i] ∧ Q (.int i) H) ∨ ∃ k, xs = [.bl k] ∧ Q (.int (if k then 1 else 0)) H) := by
  intro g fr st σ H ds vs z Q r rs e q
  unfold intB at e
  split at e
  · cases e
    obtain ⟨v, rfl, rv⟩ := rs.one
    simp only [Rep] at rv
    subst rv
    exact .inl ⟨_, rfl, q g H (.refl ..) r _ (by simp only [Rep])⟩
  · cases e
    obtain ⟨v, rfl, rv⟩ := rs.one
    simp only [Rep] at rv
    subst rv
    exact .inr ⟨_, rfl, q g H (.refl ..) r _ (by simp only [Rep])⟩
  · cases e
def absB (_ : Store) : List D → Option D
  | [.int i] => some (.int (if i < 0 then -i else i))
  | _ => none
theorem abs_s : CallS E W absB (fun xs H Q => ∃ i, xs = [.int i] ∧ Q (.int (if i < 0 then -i else i)) H) := by
  intro g fr st σ H ds vs z Q r rs e q
  unfold absB at e
  split at e
  · cases e
    obtain ⟨v, rfl, rv⟩ := rs.one
    simp only [Rep] at rv
    subst rv
    exact ⟨_, rfl, q g H (.refl ..) r _ (by simp only [Rep])⟩
  · cases e
def minB (_ : Store) : List D → Option D
  | [.int i, .int j] => some (.int (if j < i then j else i))
  | _ => none
theorem min_s : CallS E W minB (fun xs H Q => ∃ i j, xs = [.int i, .int j] ∧ Q (.int (if j < i then j else i)) H) := by
  intro g fr st σ H ds vs z Q r rs e q
  unfold minB at e
  split at e
  · cases e
    obtain ⟨v, w, rfl, rv, rw'⟩ := rs.two
    simp only [Rep] at rv rw'
    subst rv rw'
    exact ⟨_, _, rfl, q g H (.refl ..) r _ (by simp only [Rep])⟩
  · cases e
def maxB (_ : Store) : List D → Option D
  | [.int i, .int j] => some (.int (if j > i then j else i))
  | _ => none
theorem max_s : CallS E W maxB (fun xs H Q => ∃ i j, xs = [.int i, .int j] ∧ Q (.int (if j > i then j else i)) H) := by
  intro g fr st σ H ds vs z Q r rs e q
  unfold maxB at e
  split at e
  · cases e
    obtain ⟨v, w, rfl, rv, rw'⟩ := rs.two
    simp only [Rep] at rv rw'
    subst rv rw'
    exact ⟨_, _, rfl, q g H (.refl ..) r _ (by simp only [Rep])⟩
  · cases e
/-- a list of truths -/
def blsD : List D → Option (List Bool)
  | [] => some []
  | .bl b :: ds => (blsD ds).map (b :: ·)
  | _ => none
theorem bls_s {g : Gh} : ∀ {ds : List D} {vs : List V} {bs : List Bool}, Reps E g ds vs → blsD ds = some bs → vs = bs.map V.bl
  | [], vs, bs, h, e => by
    simp only [Reps] at h
    simp only [blsD, Option.some.injEq] at e
    subst h e
    rfl
  | d :: ds, vs, bs, h, e => by
    simp only [Reps] at h
    obtain ⟨v, r, rfl, h2, h3⟩ := h
    unfold blsD at e
    split at e
    · rename_i h; cases h
    · rename_i b ds' hd
      cases hd
      obtain ⟨bs', e1, rfl⟩ := Option.map_eq_some_iff.mp e
      simp only [Rep] at h2
      rw [h2, bls_s h3 e1]
      rfl
    · cases e
def allB (_ : Store) : List D → Option D
  | [.lst ds] => (blsD ds).map fun bs => .bl (bs.all id)
  | _ => none
theorem all_s (hK : X.K = E.K) : CallS E W allB (rAll X.K) := by
  intro g fr st σ H ds vs z Q r rs e q
  unfold allB at e
  split at e
  · obtain ⟨bs, e1, rfl⟩ := Option.map_eq_some_iff.mp e
    obtain ⟨v, rfl, rv⟩ := rs.one
    simp only [Rep] at rv
    obtain ⟨a, xs, rfl, h1, _, h3⟩ := rv
    have := bls_s h3 e1
    subst this
    exact ⟨a, bs, rfl, SqL.of (r.sub _ _ h1), q g H (.refl ..) r _ (by simp only [Rep])⟩
  · cases e
def anyB (_ : Store) : List D → Option D
  | [.lst ds] => (blsD ds).map fun bs => .bl (bs.any id)
  | _ => none
theorem any_s (hK : X.K = E.K) : CallS E W anyB (rAny X.K) := by
  intro g fr st σ H ds vs z Q r rs e q
  unfold anyB at e
  split at e
  · obtain ⟨bs, e1, rfl⟩ := Option.map_eq_some_iff.mp e
    obtain ⟨v, rfl, rv⟩ := rs.one
    simp only [Rep] at rv
    obtain ⟨a, xs, rfl, h1, _, h3⟩ := rv
    have := bls_s h3 e1
    subst this
    exact ⟨a, bs, rfl, SqL.of (r.sub _ _ h1), q g H (.refl ..) r _ (by simp only [Rep])⟩
  · cases e

/-! ### isinstance -/
/-- the class of a value -/
def tagD (st : Store) : D → Option Tg
  | .non => some (.ty "NoneType")
  | .bl _ => some (.ty "bool")
  | .int _ => some (.ty "int")
  | .str _ => some (.ty "str")
  | .tup _ => some (.ty "tuple")
  | .lst _ => some (.ty "list")
  | .dct _ _ => some (.ty "dict")
  | .ins C _ _ => some (.own C)
  | .exc C _ _ => some (.err C)
  | .ref n => match st.get n with
    | some (.ins C _ _) => some (.own C)
    | some (.lst _) => some (.ty "list")
    | some (.dct _ _) => some (.ty "dict")
    | _ => none
  | _ => none
/-- a class as a value -/
def clsD : D → Option Tg
  | .ty n => some (.ty n)
  | .fn C => some (.own C)
  | _ => none
/-- what is known of a class of the text's -/
structure ClsI (K : PySem.W.Frag) (C : Addr) : Prop where
  cl : Cls K C
  ha : PySem.W.findIn K (.ref C) "__class__" = some (some (.builtin "object.__class__"))
  hn : PySem.W.specialIn K (.builtin "object.__class__") "__get__" = some (some (.builtin "getset_descriptor.__get__"))
  tk : PySem.W.takesIn K (.builtin "object.__class__") = some true
  ob : PySem.W.mroIn K C (.type "object") = some true
/-- the table of isinstance's answers is right -/
structure IsiOk (E : SE) (isi : Tg → Tg → Option Bool) : Prop where
  one : ∀ t c b, isi t c = some b → PySem.W.kitOne E.K (t.val E) (c.val E) = some b
  cls : ∀ C c b, isi (.own C) c = some b → ClsI E.K (E.adr C)
  err : ∀ C c b, isi (.err C) c = some b → ExcC E.K (E.adr C)
/-- the library's wish for isinstance, of a value -/
def KitV (K : PySem.W.Frag) (x : V) (t : Value) (H : Hp) : Prop := ∀ (X : Cx) (pins : List (Addr × Obj)) (σ : L2.St) (s : Shared) (u : Value), X.K = K → Inv X pins σ H s → RelV x u → ∃ P : Heap → Prop, PySem.W.KitX X.K u t P ∧ P s.heap ∧ u ≠ .builtin "__main__.__loader__#opaque"
theorem KitV.of {K : PySem.W.Frag} {x : V} {t : Value} {H : Hp} (h : TyX K H x t) : KitV K x t H := fun X pins σ s u hK I r => by
  subst hK
  exact kit_of I r h
theorem KitV.dict {K : PySem.W.Frag} {a : Addr} {hs : List Int} {ks ys : List V} {H : Hp} (h : H a = some (DictO a hs ks ys)) : KitV K (.ref a) (.type "dict") H := fun X pins σ s u hK I r => by
  cases (show u = Value.ref a from r)
  obtain ⟨⟨_, _, o, es, ep, h1, h2, _⟩, _, _⟩ := I.hok a _ h
  exact ⟨_, PySem.W.kitx_dict, ⟨o, h1, h2.1⟩, fun z => nomatch z⟩
/-- a caught error -/
theorem KitV.err {K : PySem.W.Frag} {a C : Addr} {d : Option Addr} {H : Hp} (ok : ExcC K C) (h : H a = some (ExV (.ref C) d a)) (hd : d = none ∨ ∃ dx fs, d = some dx ∧ H dx = some (.xd fs)) : KitV K (.ref a) (.ref C) H := fun X pins σ s u hK I r => by
  subst hK
  cases (show u = Value.ref a from r)
  obtain ⟨⟨oe, vs, h1, h2, h3⟩, _, _⟩ := I.hok a _ h
  have no : PySem.W.notCls oe = true := by unfold PySem.W.notCls; rw [h3] <;> rfl
  obtain ⟨od, J⟩ : ∃ od, PySem.W.InstAt s.heap a oe C od := by
    rcases hd with rfl | ⟨dx, fs, rfl, hx⟩
    · exact ⟨none, h1, h2.1, no, by rw [h2.2] <;> trivial⟩
    · have q : ObjOk X.prog X.w H s.heap dx (.xd fs) := I.hok dx _ hx
      obtain ⟨mA, ⟨o, es, ep, ho, _⟩, _⟩ := q
      exact ⟨some o, h1, h2.1, no, by rw [h2.2]; exact ho⟩
  have hcl : (PySem.W.clsIn X.K C).isSome = true := by
    have q := ok.hd
    unfold PySem.W.hasDictIn at q
    cases e : PySem.W.clsIn X.K C with
    | some _ => rfl
    | none => rw [e] at q; cases q
  exact ⟨_, PySem.W.kitx_exc hcl ok.hg ok.hk ok.hs ok.ha ok.hn ok.ht ok.hm, J, fun z => nomatch z⟩
theorem tag_k {g : Gh} {fr : Fr} {st : Store} {σ : L2.St} {H : Hp} {d : D} {v : V} {t : Tg} (r : RelF E g fr st σ H) (rv : Rep E g d v) (e : tagD st d = some t) (hc : ∀ C, t = .own C → ClsI E.K (E.adr C)) (he : ∀ C, t = .err C → ExcC E.K (E.adr C)) : KitV E.K v (t.val E) H := by
  unfold tagD at e
  split at e
  case h_1 => cases e; simp only [Rep] at rv; subst rv; exact .of (.base .non)
  case h_2 => cases e; simp only [Rep] at rv; subst rv; exact .of (.base (.bl _))
  case h_3 => cases e; simp only [Rep] at rv; subst rv; exact .of (.base (.int _))
  case h_4 => cases e; simp only [Rep] at rv; subst rv; exact .of (.base (.str _))
  case h_5 =>
    cases e
    simp only [Rep] at rv
    obtain ⟨a, xs, rfl, h1, _⟩ := rv
    rcases sub_t r.sub h1 with h | ⟨o, its, n, hk, hc, _⟩
    · rcases h with h | ⟨o, h⟩
      · exact .of (.base (.tup h))
      · exact .of (.fTuple h)
    · exact .of (.kTuple hk hc)
  case h_6 =>
    cases e
    simp only [Rep] at rv
    obtain ⟨a, xs, rfl, h1, _⟩ := rv
    exact .of (.base (.lst (r.sub _ _ h1)))
  case h_7 =>
    cases e
    simp only [Rep] at rv
    obtain ⟨a, hs, xs, ys, rfl, h1, _⟩ := rv
    exact .dict (r.sub _ _ h1)
  case h_8 =>
    cases e
    simp only [Rep] at rv
    obtain ⟨a, dx, xs, rfl, h1, _⟩ := rv
    have ci := hc _ rfl
    exact .of (.base (.ins (r.sub _ _ h1) ci.cl ci.ha ci.hn ci.tk ci.ob))
  case h_9 =>
    cases e
    simp only [Rep] at rv
    obtain ⟨a, d, rfl, h1, h2⟩ := rv
    exact .err (he _ rfl) (r.sub _ _ h1) (h2.imp (fun z => z.1) fun ⟨dx, xs, q1, q2, _⟩ => ⟨dx, _, q1, r.sub _ _ q2⟩)
  case h_10 =>
    simp only [Rep] at rv
    obtain ⟨hn, rfl⟩ := rv
    split at e
    · rename_i eo
      cases e
      obtain ⟨dx, xs, h1, _⟩ := r.obj _ _ eo
      have ci := hc _ rfl
      exact .of (.base (.ins h1 ci.cl ci.ha ci.hn ci.tk ci.ob))
    · rename_i eo
      cases e
      obtain ⟨xs, h1, _⟩ := r.obj _ _ eo
      exact .of (.base (.lst h1))
    · rename_i eo
      cases e
      obtain ⟨hs, xs, ys, h1, _⟩ := r.obj _ _ eo
      exact .dict h1
    · cases e
  case h_11 => cases e
theorem tag_s {isi : Tg → Tg → Option Bool} (ok : IsiOk E isi) {g : Gh} {fr : Fr} {st : Store} {σ : L2.St} {H : Hp} {d : D} {v : V} {t c : Tg} {b : Bool} (r : RelF E g fr st σ H) (rv : Rep E g d v) (e : tagD st d = some t) (eb : isi t c = some b) : KitV E.K v (t.val E) H :=
  tag_k r rv e (fun C q => by
    subst q
    exact ok.cls _ _ _ eb) fun C q => by
    subst q
    exact ok.err _ _ _ eb
theorem cls_s {g : Gh} {d : D} {v : V} {t : Tg} (rv : Rep E g d v) (e : clsD d = some t) : ClsV v (t.val E) := by
  unfold clsD at e
  split at e
  · cases e; simp only [Rep] at rv; subst rv; exact .ty _
  · cases e; simp only [Rep] at rv; subst rv; exact .own _
  · cases e
def clssD : List D → Option (List Tg)
  | [] => some []
  | d :: ds => match clsD d, clssD ds with
    | some t, some ts => some (t :: ts)
    | _, _ => none
theorem clss_s {g : Gh} : ∀ {ds : List D} {vs : List V} {ts : List Tg}, Reps E g ds vs → clssD ds = some ts → Paired ClsV vs (ts.map (Tg.val E))
  | [], vs, ts, h, e => by
    simp only [Reps] at h
    simp only [clssD, Option.some.injEq] at e
    subst h e
    exact .nil
  | d :: ds, vs, ts, h, e => by
    simp only [Reps] at h
    obtain ⟨v, r, rfl, h2, h3⟩ := h
    unfold clssD at e
    split at e
    · rename_i t ts' e1 e2
      cases e
      exact .cons (cls_s h2 e1) (clss_s h3 e2)
    · cases e
/-- isinstance(x, (c, ..)) -/
def isiAny (isi : Tg → Tg → Option Bool) (t : Tg) : List Tg → Option Bool
  | [] => some false
  | c :: cs => match isi t c with
    | some true => some true
    | some false => isiAny isi t cs
    | none => none
theorem isiAny_s {isi : Tg → Tg → Option Bool} (ok : IsiOk E isi) {t : Tg} : ∀ {cs : List Tg} {b : Bool}, isiAny isi t cs = some b → PySem.W.kitAny E.K (t.val E) (cs.map (Tg.val E)) = some b
  | [], b, e => e
  | c :: cs, b, e => by
    unfold isiAny at e
    rw [List.map_cons]
    unfold PySem.W.kitAny
    cases h : isi t c with
    | none => rw [h] at e; cases e
    | some k =>
      rw [h] at e
      rw [ok.one _ _ _ h]
      cases k with
      | true => exact e
      | false => exact isiAny_s ok e
def isiB (isi : Tg → Tg → Option Bool) (st : Store) : List D → Option D
  | [x, .tup cs] => match tagD st x, clssD cs with
    | some t, some ts => match isi t (ts.headD (.ty "")) with
      | some _ => (isiAny isi t ts).map .bl
      | none => none
    | _, _ => none
  | [x, c] => match tagD st x, clsD c with
    | some t, some u => (isi t u).map .bl
    | _, _ => none
  | _ => none
def rIsiU (K : PySem.W.Frag) : List V → Hp → VK → Prop := fun xs H Q =>
  (∃ (x c : V) (t u : Value) (b : Bool), xs = [x, c] ∧ ClsV c u ∧ KitV K x t H ∧ PySem.W.kitOne K t u = some b ∧ Q (.bl b) H) ∨
  (∃ (x : V) (tp : Addr) (cs : List V) (t : Value) (us : List Value) (b : Bool), xs = [x, .ref tp] ∧ SqT K H tp cs ∧ Paired ClsV cs us ∧ KitV K x t H ∧ PySem.W.kitAny K t us = some b ∧ Q (.bl b) H)
theorem call_isiU : CallR X (.builtin "isinstance") (rIsiU X.K) := by
  intro pins s σ H xs us Q I r h
  rcases h with ⟨x, c, t, u, b, rfl, k, ty, e, q⟩ | ⟨x, tp, cs, t, ws, b, rfl, hT, k, ty, e, q⟩
  · obtain ⟨u1, u2, rfl, r1, r2⟩ := vals2 r
    have e2 := k.eq r2
    subst e2
    obtain ⟨P, Z, p, hx⟩ := ty X pins σ s u1 rfl I r1
    exact PySem.W.kia_one Z I.kIn p e hx fun tk => ⟨.bl b, H, I.tok tk, rfl, q⟩
  · obtain ⟨u1, u2, rfl, r1, r2⟩ := vals2 r
    cases (show u2 = Value.ref tp from r2)
    obtain ⟨P, Z, p, hx⟩ := ty X pins σ s u1 rfl I r1
    obtain ⟨its, rv, ht, _⟩ := I.tuple hT
    obtain ⟨o, h1, h2, n, h3⟩ := ht
    have e3 := ClsV.all k rv
    subst e3
    obtain ⟨oc, od, dt, sl⟩ := o
    simp only at h2 h3
    subst h2 h3
    exact PySem.W.kia_tup Z I.kIn p h1 e hx fun tk => ⟨.bl b, H, I.tok tk, rfl, q⟩
theorem isi_s (hK : X.K = E.K) {isi : Tg → Tg → Option Bool} (ok : IsiOk E isi) : CallS E W (isiB isi) (rIsiU X.K) := by
  intro g fr st σ H ds vs z Q r rs e q
  unfold isiB at e
  split at e
  · obtain ⟨v, w, rfl, rv, rw'⟩ := rs.two
    split at e
    · rename_i t ts e1 e2
      split at e
      · rename_i k e3
        obtain ⟨b, e4, rfl⟩ := Option.map_eq_some_iff.mp e
        simp only [Rep] at rw'
        obtain ⟨a, xs, rfl, h1, _, h3⟩ := rw'
        rw [hK]
        exact .inr ⟨v, a, xs, _, _, b, rfl, sub_t r.sub h1, clss_s h3 e2, tag_s ok r rv e1 e3, isiAny_s ok e4, q g H (.refl ..) r _ (by simp only [Rep])⟩
      · cases e
    · cases e
  · obtain ⟨v, w, rfl, rv, rw'⟩ := rs.two
    split at e
    · rename_i t u e1 e2
      obtain ⟨b, e4, rfl⟩ := Option.map_eq_some_iff.mp e
      rw [hK]
      exact .inl ⟨v, w, _, _, b, rfl, cls_s rw' e2, tag_s ok r rv e1 e4, ok.one _ _ _ e4, q g H (.refl ..) r _ (by simp only [Rep])⟩
    · cases e
  · cases e
end
end Mp
end
section
/-! Mp, part 9: statements: how they end, blocks, return, if, while, for; targets. -/
namespace Mp
open PySem L2

/-- how a statement ends -/
inductive Ctl where
  | nx | bk | ct | rt (d : D)
  deriving Inhabited
/-- what is wanted of an end, where names may have been set -/
def PostX {α : Type} (E : SE) (W : WX) (g : Gh) (F : Addr → Prop) (H : Hp) (R : Gh → α → Fr → Store → L2.St → Hp → Prop) : Out α → Prop
  | .ok a fr st => ∀ g' σ' H', Ext g F H g' (foS E g' st) H' → RelF E g' fr st σ' H' → R g' a fr st σ' H'
  | .exc x fr st => ∀ g' σ' H' cls dx, Ext g F H g' (foS E g' st) H' → RelF E g' fr st σ' H' → ExR E g' x cls dx → W cls dx σ' H'
  | .stuck => False
theorem PostX.ext {α : Type} {E : SE} {W : WX} {g g1 : Gh} {F F1 : Addr → Prop} {H H1 : Hp} {R : Gh → α → Fr → Store → L2.St → Hp → Prop} {o : Out α} (e : Ext g F H g1 F1 H1) (h : PostX E W g F H R o) : PostX E W g1 F1 H1 R o := by
  cases o with
  | ok d fr st => exact fun g' σ' H' e' r => h g' σ' H' (e.trans e') r
  | exc x fr st => exact fun g' σ' H' cls dx e' r q => h g' σ' H' cls dx (e.trans e') r q
  | stuck => exact h
structure ThenX (E : SE) (W : WX) (g : Gh) {β : Type} (R : Gh → β → Fr → Store → L2.St → Hp → Prop) (k : Fr → Store → Out β) (g1 : Gh) (fr1 : Fr) (st1 : Store) (σ1 : L2.St) (H1 : Hp) : Prop where
  rel : RelF E g1 fr1 st1 σ1 H1
  le : GLe g g1
  post : PostX E W g1 (foS E g1 st1) H1 R (k fr1 st1)
theorem ThenX.ok {β : Type} {E : SE} {W : WX} {g : Gh} {R : Gh → β → Fr → Store → L2.St → Hp → Prop} {b : β} {g1 : Gh} {fr1 : Fr} {st1 : Store} {σ1 : L2.St} {H1 : Hp} (t : ThenX E W g R (M.pure b) g1 fr1 st1 σ1 H1) : R g1 b fr1 st1 σ1 H1 :=
  t.post g1 σ1 H1 (.refl ..) t.rel
theorem PostX.bind {α β : Type} {E : SE} {W : WX} {g : Gh} {F : Addr → Prop} {H : Hp} {R : Gh → β → Fr → Store → L2.St → Hp → Prop} {m : M α} {k : α → M β} {fr : Fr} {st : Store} (h : PostX E W g F H R ((m >>= k) fr st)) :
    PostX E W g F H (fun g1 a fr1 st1 σ1 H1 => ThenX E W g R (k a) g1 fr1 st1 σ1 H1) (m fr st) := by
  have h' : PostX E W g F H R (match m fr st with | .ok a f' s' => k a f' s' | .exc x f' s' => .exc x f' s' | .stuck => .stuck) := h
  cases e : m fr st with
  | ok a fr1 st1 =>
    rw [e] at h'
    exact fun g1 σ1 H1 e1 r1 => ⟨r1, e1.le, h'.ext e1⟩
  | exc x fr1 st1 =>
    rw [e] at h'
    exact h'
  | stuck =>
    rw [e] at h'
    exact h'
/-- an expression ahead -/
theorem PostX.at {α : Type} {E : SE} {W : WX} {g : Gh} {F : Addr → Prop} {H : Hp} {σ : L2.St} {R : Gh → α → Fr → Store → L2.St → Hp → Prop} {R' : Gh → α → Fr → Store → Hp → Prop} {o : Out α} (h : PostX E W g F H R o) (k : ∀ g' a fr st H', R g' a fr st σ H' → R' g' a fr st H') : Post E W g F H σ R' o := by
  cases o with
  | ok d fr st => exact fun g' H' e r => k _ _ _ _ _ (h g' σ H' e r)
  | exc x fr st => exact fun g' H' cls dx e r q => h g' σ H' cls dx e r q
  | stuck => exact h
section
variable {E : SE} {W : WX} {g : Gh} {H : Hp} {σ : L2.St} {β : Type} {R : Gh → β → Fr → Store → L2.St → Hp → Prop} {fr : Fr} {st : Store}
theorem tI_bindX {m : M D} {k : D → M β} (r : RelF E g fr st σ H) (h : PostX E W g (foS E g st) H R ((m >>= k) fr st))
    {Q : VK} (q : ∀ g1 fr1 st1 H1 d v, ThenX E W g R (k d) g1 fr1 st1 σ H1 → Rep E g1 d v → Q v H1) : tI E W m σ H Q :=
  ⟨g, fr, st, r, h.bind.at fun g' d fr st H' t v rv => q g' fr st H' d v t rv⟩
theorem tIT_bindX {m : M Bool} {k : Bool → M β} (r : RelF E g fr st σ H) (h : PostX E W g (foS E g st) H R ((m >>= k) fr st))
    {Q : Bool → Hp → Prop} (q : ∀ g1 fr1 st1 H1 b, ThenX E W g R (k b) g1 fr1 st1 σ H1 → Q b H1) : tIT E W m σ H Q :=
  ⟨g, fr, st, r, h.bind.at fun g' d fr st H' t => q g' fr st H' d t⟩
theorem tIA_bindX {m : M (List D)} {k : List D → M β} (r : RelF E g fr st σ H) (h : PostX E W g (foS E g st) H R ((m >>= k) fr st))
    {Q : List V → Hp → Prop} (q : ∀ g1 fr1 st1 H1 ds vs, ThenX E W g R (k ds) g1 fr1 st1 σ H1 → Reps E g1 ds vs → Q vs H1) : tIA E W m σ H Q :=
  ⟨g, fr, st, r, h.bind.at fun g' d fr st H' t v rv => q g' fr st H' d v t rv⟩
end
/-- the end of a block, as the library wants it -/
def CtlE (E : SE) (D : Ends) : Gh → Ctl → Fr → Store → L2.St → Hp → Prop := fun g c _ _ σ H => match c with
  | .nx => D.nx σ H
  | .bk => D.bk σ H
  | .ct => D.ct σ H
  | .rt d => ∀ v, Rep E g d v → D.rt v H
def tS (E : SE) (W : WX) (m : M Ctl) : TS := fun D σ H => ∃ g fr st, RelF E g fr st σ H ∧ PostX E W g (foS E g st) H (CtlE E D) (m fr st)
/-- a target's reading -/
def tG (E : SE) (W : WX) (m : D → M Unit) : TG := fun v σ H Q => ∃ g fr st d, RelF E g fr st σ H ∧ Rep E g d v ∧ PostX E W g (foS E g st) H (fun _ _ _ _ σ' H' => Q σ' H') (m d fr st)
def tGs (E : SE) (W : WX) (m : List D → M Unit) : TGs := fun vs σ H Q => ∃ g fr st ds, RelF E g fr st σ H ∧ Reps E g ds vs ∧ PostX E W g (foS E g st) H (fun _ _ _ _ σ' H' => Q σ' H') (m ds fr st)
theorem ps_imp {X : Cx} {s : Stmt} {t t' : TS} (h : PS X s t) (k : ∀ D σ H, t' D σ H → t D σ H) : PS X s t' := ⟨fun pins s σ H D I hw => h.run pins s σ H D I (k D σ H hw)⟩
theorem pss_imp {X : Cx} {s : List Stmt} {t t' : TS} (h : PSs X s t) (k : ∀ D σ H, t' D σ H → t D σ H) : PSs X s t' := ⟨fun pins s σ H D I hw => h.run pins s σ H D I (k D σ H hw)⟩
theorem pg_imp {X : Cx} {e : Expr} {t t' : TG} (h : PG X e t) (k : ∀ v σ H Q, t' v σ H Q → t v σ H Q) : PG X e t' := ⟨fun pins s σ H v u Q I r hw => h.run pins s σ H v u Q I r (k v σ H Q hw)⟩
theorem pgs_imp {X : Cx} {e : List Expr} {t t' : TGs} (h : PGs X e t) (k : ∀ v σ H Q, t' v σ H Q → t v σ H Q) : PGs X e t' := ⟨fun pins s σ H v u Q I r hw => h.run pins s σ H v u Q I r (k v σ H Q hw)⟩

/-! ### blocks -/
def mSeq (a b : M Ctl) : M Ctl := do
  let c ← a
  match c with
  | .nx => b
  | c => M.pure c
section
variable {E : SE} {W : WX} {X : Cx}
theorem s_pass {pos : Pos} : PS X (.Pass pos) (tS E W (M.pure .nx)) := ps_imp ps_pass fun D σ H h => by
  obtain ⟨g, fr, st, r, p⟩ := h
  exact p g σ H (.refl ..) r
theorem s_break {pos : Pos} : PS X (.Break pos) (tS E W (M.pure .bk)) := ps_imp ps_break fun D σ H h => by
  obtain ⟨g, fr, st, r, p⟩ := h
  exact p g σ H (.refl ..) r
theorem s_cont {pos : Pos} : PS X (.Continue pos) (tS E W (M.pure .ct)) := ps_imp ps_continue fun D σ H h => by
  obtain ⟨g, fr, st, r, p⟩ := h
  exact p g σ H (.refl ..) r
theorem s_snil : PSs X [] (tS E W (M.pure .nx)) := pss_imp pss_nil fun D σ H h => by
  obtain ⟨g, fr, st, r, p⟩ := h
  exact p g σ H (.refl ..) r
theorem s_sone {s : Stmt} {m : M Ctl} (h : PS X s (tS E W m)) : PSs X [s] (tS E W m) := pss_one h
theorem s_scons {s : Stmt} {ss : List Stmt} {m n : M Ctl} (h : PS X s (tS E W m)) (k : PSs X ss (tS E W n)) : PSs X (s :: ss) (tS E W (mSeq m n)) := pss_imp (pss_cons h k) fun D σ H h => by
  obtain ⟨g, fr, st, r, p⟩ := h
  have h1 := p.bind
  refine ⟨g, fr, st, r, ?_⟩
  cases e : m fr st with
  | ok c fr1 st1 =>
    rw [e] at h1
    intro g1 σ1 H1 e1 r1
    have t := h1 g1 σ1 H1 e1 r1
    cases c with
    | nx => exact ⟨g1, fr1, st1, r1, t.post⟩
    | bk => exact t.ok
    | ct => exact t.ok
    | rt d => exact t.ok
  | exc x fr1 st1 =>
    rw [e] at h1
    exact h1
  | stuck =>
    rw [e] at h1
    exact h1
def mRet (m : M D) : M Ctl := do
  let d ← m
  M.pure (.rt d)
def mDrop (m : M D) : M Ctl := do
  let _ ← m
  M.pure .nx
theorem s_ret {e : Expr} {m : M D} {pos : Pos} (h : PE X e (tI E W m)) : PS X (.Return (some e) pos) (tS E W (mRet m)) := ps_imp (ps_ret h) fun D σ H h => by
  obtain ⟨g, fr, st, r, p⟩ := h
  exact tI_bindX r p fun g1 fr1 st1 H1 d v t rv => t.ok v rv
theorem s_retN {pos : Pos} : PS X (.Return none pos) (tS E W (M.pure (.rt .non))) := ps_imp ps_retN fun D σ H h => by
  obtain ⟨g, fr, st, r, p⟩ := h
  exact p g σ H (.refl ..) r .non (by simp only [Rep])
theorem s_expr {e : Expr} {m : M D} {pos : Pos} (h : PE X e (tI E W m)) (hs : swapsWith e none pos.line X.env = pure false := by rfl) : PS X (.Expr e pos) (tS E W (mDrop m)) := ps_imp (ps_expr h hs) fun D σ H h => by
  obtain ⟨g, fr, st, r, p⟩ := h
  exact tI_bindX r p fun g1 fr1 st1 H1 d v t rv => t.ok
theorem s_doc {x j pos pos'} : PS X (.Expr (.Constant (.str x) j pos) pos') (tS E W (M.pure .nx)) := ps_imp ps_doc fun D σ H h => by
  obtain ⟨g, fr, st, r, p⟩ := h
  exact p g σ H (.refl ..) r
theorem s_if {c : Expr} {a b : List Stmt} {mc : M Bool} {ma mb : M Ctl} {pos : Pos} (hc : PT X c (tIT E W mc)) (ha : PSs X a (tS E W ma)) (hb : PSs X b (tS E W mb)) : PS X (.If c a b pos) (tS E W (mIf mc ma mb)) := ps_imp (ps_if hc ha hb) fun D σ H h => by
  obtain ⟨g, fr, st, r, p⟩ := h
  refine tIT_bindX r p fun g1 fr1 st1 H1 b t => ?_
  cases b with
  | true => rw [if_pos rfl]; exact ⟨g1, fr1, st1, t.rel, t.post⟩
  | false => rw [if_neg Bool.false_ne_true]; exact ⟨g1, fr1, st1, t.rel, t.post⟩

/-! ### while -/
def mWhileN (c : M Bool) (b : M Ctl) : Nat → M Ctl
  | 0 => M.stuck
  | n + 1 => do
    let k ← c
    if k then do
      let e ← b
      match e with
      | .nx => mWhileN c b n
      | .ct => mWhileN c b n
      | .bk => M.pure .nx
      | .rt d => M.pure (.rt d)
    else M.pure .nx
open Classical in
/-- by as many turns as it takes -/
noncomputable def mWhile (c : M Bool) (b : M Ctl) : M Ctl := fun fr st => if h : ∃ n, mWhileN c b n fr st ≠ .stuck then mWhileN c b h.choose fr st else .stuck
theorem s_while {c : Expr} {body : List Stmt} {mc : M Bool} {mb : M Ctl} {pos : Pos} (hp : PassesOwn (model X.prog X.w) X.A X.env X.xe) (hc : PT X c (tIT E W mc)) (hb : PSs X body (tS E W mb)) : PS X (.While c body [] pos) (tS E W (mWhile mc mb)) :=
  ps_imp (ps_while hp hc hb) fun D σ H h => by
    obtain ⟨g, fr, st, r, p⟩ := h
    unfold mWhile at p
    split at p
    · rename_i hx
      refine ⟨fun n σ' H' => tS E W (mWhileN mc mb n) D σ' H', ⟨_, g, fr, st, r, p⟩, fun n σ' H' h => ?_⟩
      obtain ⟨g, fr, st, r, p⟩ := h
      cases n with
      | zero => exact p.elim
      | succ n =>
        refine tIT_bindX r p fun g1 fr1 st1 H1 b t => ?_
        have tp := t.post
        cases b with
        | true =>
          rw [if_pos rfl] at tp ⊢
          refine ⟨fun σ2 H2 => tS E W (mWhileN mc mb n) D σ2 H2, fun σ2 H2 q => ⟨n, Nat.lt_succ_self _, q⟩, g1, fr1, st1, t.rel, ?_⟩
          have h1 := tp.bind
          cases e : mb fr1 st1 with
          | ok c fr2 st2 =>
            rw [e] at h1
            intro g2 σ2 H2 e2 r2
            have t := h1 g2 σ2 H2 e2 r2
            cases c with
            | nx => exact ⟨g2, fr2, st2, r2, t.post⟩
            | bk => exact t.ok
            | ct => exact ⟨g2, fr2, st2, r2, t.post⟩
            | rt d => exact t.ok
          | exc x fr2 st2 =>
            rw [e] at h1
            exact h1
          | stuck =>
            rw [e] at h1
            exact h1
        | false =>
          rw [if_neg Bool.false_ne_true] at tp ⊢
          exact tp g1 _ H1 (.refl ..) t.rel
    · exact p.elim

/-! ### for -/
/-- an iterator yields these, as long as the shared objects are as C says -/
structure ItD (E : SE) (g : Gh) (J : It) (ds : List D) (C : Store → Bool) : Prop where
  go : ∀ i d, ds[i]? = some d → ∀ g' st H, GLe g g' → RelG E g' st H → C st = true → J.go i H
  stop : ∀ g' st H, GLe g g' → RelG E g' st H → C st = true → J.stop ds.length H
  yld : ∀ i d, ds[i]? = some d → ∀ g' st H x H', GLe g g' → RelG E g' st H → C st = true → J.yld i H x H' → (H' = H ∧ Rep E g' d x) ∨ ∃ p o, H p = none ∧ H' = upd H p o ∧ ∀ g2, GLe g' g2 → g2.G p = some o → Rep E g2 d x
def tII (E : SE) (W : WX) (m : M (List D × (Store → Bool))) : TI := fun σ H R => ∃ g fr st, RelF E g fr st σ H ∧ Post E W g (foS E g st) H σ (fun g' p _ _ H' => ∀ J, ItD E g' J p.1 p.2 → R J H') (m fr st)
theorem pi_imp {tg e : Expr} {t t' : TI} (h : PI X tg e t) (k : ∀ σ H R, t' σ H R → t σ H R) : PI X tg e t' := ⟨fun pins s σ H R I hw => h.run pins s σ H R I (k σ H R hw)⟩
/-- as long as C says -/
def chk (C : Store → Bool) : M Unit := fun fr st => if C st = true then .ok () fr st else .stuck
def mForL (C : Store → Bool) (mg : D → M Unit) (mb : M Ctl) : List D → M Ctl
  | [] => do
    chk C
    M.pure .nx
  | d :: ds => do
    chk C
    mg d
    let e ← mb
    match e with
    | .nx => mForL C mg mb ds
    | .ct => mForL C mg mb ds
    | .bk => M.pure .nx
    | .rt d => M.pure (.rt d)
def mFor (mi : M (List D × (Store → Bool))) (mg : D → M Unit) (mb : M Ctl) : M Ctl := do
  let p ← mi
  mForL p.2 mg mb p.1
theorem bind_eq {α β : Type} (m : M α) (k : α → M β) (fr : Fr) (st : Store) : (m >>= k) fr st = match m fr st with | .ok a f' s' => k a f' s' | .exc x f' s' => .exc x f' s' | .stuck => .stuck := rfl
theorem chk_bind {β : Type} {C : Store → Bool} {k : Unit → M β} {g : Gh} {F : Addr → Prop} {H : Hp} {R : Gh → β → Fr → Store → L2.St → Hp → Prop} {fr : Fr} {st : Store} (h : PostX E W g F H R ((chk C >>= k) fr st)) : C st = true ∧ PostX E W g F H R (k () fr st) := by
  rw [bind_eq] at h
  unfold chk at h
  cases e : C st with
  | true =>
    rw [e, if_pos rfl] at h
    exact ⟨rfl, h⟩
  | false =>
    rw [e, if_neg Bool.false_ne_true] at h
    exact h.elim
theorem s_for {tg iter : Expr} {body : List Stmt} {mi : M (List D × (Store → Bool))} {mg : D → M Unit} {mb : M Ctl} {pos : Pos} (hp : PassesOwn (model X.prog X.w) X.A X.env X.xe) (hc : X.calm = true) (hi : PI X tg iter (tII E W mi)) (hg : PG X tg (tG E W mg)) (hb : PSs X body (tS E W mb))
    (hs : ∀ x, foldedSetIterable iter X.env x = pure x := by intro _; rfl) : PS X (.For tg iter body [] pos) (tS E W (mFor mi mg mb)) := ps_imp (ps_for hp hc hi hg hb hs) fun D σ H h => by
  obtain ⟨g, fr, st, r, p⟩ := h
  refine ⟨g, fr, st, r, p.bind.at fun g1 dC fr1 st1 H1 t J hJ => ?_⟩
  obtain ⟨ds, C⟩ := dC
  have tp : PostX E W g1 (foS E g1 st1) H1 (CtlE E D) (mForL C mg mb ds fr1 st1) := t.post
  have hJ : ItD E g1 J ds C := hJ
  refine ⟨fun i m σ' H' => m = ds.length - i ∧ i ≤ ds.length ∧ ∃ g' fr' st', GLe g1 g' ∧ RelF E g' fr' st' σ' H' ∧ PostX E W g' (foS E g' st') H' (CtlE E D) (mForL C mg mb (ds.drop i) fr' st'), ⟨_, rfl, Nat.zero_le _, g1, fr1, st1, .refl _, t.rel, by rw [List.drop_zero]; exact tp⟩, ?_⟩
  rintro i m σ2 H2 ⟨rfl, hi, g2, fr2, st2, le2, r2, p2⟩
  rcases Nat.lt_or_ge i ds.length with hlt | hge
  · have hd : ds[i]? = some ds[i] := by simp [hlt]
    rw [List.drop_eq_getElem_cons hlt] at p2
    obtain ⟨hC, p2⟩ := chk_bind p2
    refine .inr ⟨hJ.go i _ hd g2 st2 H2 le2 r2.toRelG hC, fun σ' H' => ∃ g' fr' st', GLe g1 g' ∧ RelF E g' fr' st' σ' H' ∧ PostX E W g' (foS E g' st') H' (CtlE E D) (mForL C mg mb (ds.drop (i + 1)) fr' st'), fun σ' H' ⟨g3, fr3, st3, le3, r3, p3⟩ => ⟨ds.length - (i + 1), by omega, rfl, hlt, g3, fr3, st3, le3, r3, p3⟩, fun x H3 y => ?_⟩
    have fin : ∀ g3, GLe g2 g3 → Ext g2 (foS E g2 st2) H2 g3 (foS E g3 st2) H3 → RelF E g3 fr2 st2 σ2 H3 → Rep E g3 ds[i] x → tG E W mg x σ2 H3 fun σ4 H4 => tS E W mb { D with nx := fun σ' H' => ∃ g' fr' st', GLe g1 g' ∧ RelF E g' fr' st' σ' H' ∧ PostX E W g' (foS E g' st') H' (CtlE E D) (mForL C mg mb (ds.drop (i + 1)) fr' st'), ct := fun σ' H' => ∃ g' fr' st', GLe g1 g' ∧ RelF E g' fr' st' σ' H' ∧ PostX E W g' (foS E g' st') H' (CtlE E D) (mForL C mg mb (ds.drop (i + 1)) fr' st'), bk := D.nx } σ4 H4 := fun g3 l3 e3 r3 rx => by
      refine ⟨g3, fr2, st2, ds[i], r3, rx, ?_⟩
      have h1 := PostX.bind (p2.ext e3)
      cases e : mg ds[i] fr2 st2 with
      | ok u fr4 st4 =>
        rw [e] at h1
        intro g4 σ4 H4 e4 r4
        have t4 := h1 g4 σ4 H4 e4 r4
        refine ⟨g4, fr4, st4, r4, ?_⟩
        have h5 := t4.post.bind
        cases e5 : mb fr4 st4 with
        | ok c fr5 st5 =>
          rw [e5] at h5
          intro g5 σ5 H5 e5 r5
          have t5 := h5 g5 σ5 H5 e5 r5
          have le5 : GLe g1 g5 := ((le2.trans l3).trans e4.le).trans e5.le
          cases c with
          | nx => exact ⟨g5, fr5, st5, le5, r5, t5.post⟩
          | bk => exact t5.ok
          | ct => exact ⟨g5, fr5, st5, le5, r5, t5.post⟩
          | rt d => exact t5.ok
        | exc x fr5 st5 =>
          rw [e5] at h5
          exact h5
        | stuck =>
          rw [e5] at h5
          exact h5
      | exc x fr4 st4 =>
        rw [e] at h1
        exact h1
      | stuck =>
        rw [e] at h1
        exact h1
    rcases hJ.yld i _ hd g2 st2 H2 x H3 le2 r2.toRelG hC y with ⟨rfl, rx⟩ | ⟨q, o, hq, rfl, rx⟩
    · exact fin g2 (.refl _) (.refl ..) r2 rx
    · obtain ⟨r', e'⟩ := r2.newF hq o
      exact fin _ e'.le e' r' (rx _ e'.le upd_same)
  · have e : i = ds.length := by omega
    subst e
    rw [List.drop_length] at p2
    obtain ⟨hC, p2⟩ := chk_bind p2
    exact .inl ⟨hJ.stop g2 st2 H2 le2 r2.toRelG hC, p2 g2 _ H2 (.refl ..) r2⟩

/-! ### targets -/
def gSet (i : Nat) : D → M Unit := fun d fr st => .ok () (fr.set i (some d)) st
theorem s_gname (i : Nat) {x : Str} {pos : Pos} (hN : X.N.Nodup) (hi : X.N[i]? = some x) (hx : Loc X.env.scope x) (hf : X.fn x = true ∨ X.env.scope.names.lookup x = some .local := by first | exact .inl rfl | exact .inr rfl | assumption) : PG X (.Name x pos) (tG E W (gSet i)) :=
  pg_imp (pg_name hN hi hx hf) fun v σ H Q h => by
    obtain ⟨g, fr, st, d, r, rv, p⟩ := h
    exact p g _ H (.refl ..) (r.set_val rv)
def gAll : List (D → M Unit) → List D → M Unit
  | [], [] => M.pure ()
  | m :: ms, d :: ds => do
    m d
    gAll ms ds
  | _, _ => M.stuck
theorem s_gnil : PGs X [] (tGs E W (gAll [])) := pgs_imp pgs_nil fun vs σ H Q h => by
  obtain ⟨g, fr, st, ds, r, rv, p⟩ := h
  cases ds with
  | nil =>
    simp only [Reps] at rv
    exact ⟨rv, p g σ H (.refl ..) r⟩
  | cons d ds => exact p.elim
theorem s_gcons {e : Expr} {es : List Expr} {m : D → M Unit} {ms : List (D → M Unit)} (h1 : PG X e (tG E W m)) (h2 : PGs X es (tGs E W (gAll ms)))
    (hs : (assignEach (e :: es) X.env).map (·.2) = assign e X.env :: (assignEach es X.env).map (·.2) := by rfl) : PGs X (e :: es) (tGs E W (gAll (m :: ms))) := pgs_imp (pgs_cons h1 h2 hs) fun vs σ H Q h => by
  obtain ⟨g, fr, st, ds, r, rv, p⟩ := h
  cases ds with
  | nil => exact p.elim
  | cons d ds =>
    simp only [Reps] at rv
    obtain ⟨v, rr, rfl, rd, rs⟩ := rv
    refine ⟨v, rr, rfl, g, fr, st, d, r, rd, ?_⟩
    have h1 := PostX.bind p
    cases e : m d fr st with
    | ok u fr1 st1 =>
      rw [e] at h1
      intro g1 σ1 H1 e1 r1
      have t := h1 g1 σ1 H1 e1 r1
      exact ⟨g1, fr1, st1, ds, r1, rs.mono e1.le, t.post⟩
    | exc x fr1 st1 =>
      rw [e] at h1
      exact h1
    | stuck =>
      rw [e] at h1
      exact h1
/-- a, b, .. = a tuple (or a list) -/
def gTupD (ms : List (D → M Unit)) : D → M Unit
  | .tup ds => if ds.length = ms.length then gAll ms ds else M.stuck
  | _ => M.stuck
theorem s_gtup (hK : X.K = E.K) {es : List Expr} {k : Nat} {ms : List (D → M Unit)} {pos : Pos} (hc : X.calm = true) (h : PGs X es (tGs E W (gAll ms)))
    (hn : (assignEach es X.env).length = ms.length := by rfl) (hst : (assignEach es X.env).findIdx? (·.1) = none := by rfl) : PG X (.Tuple es k pos) (tG E W (gTupD ms)) := pg_imp (pg_tup (n := ms.length) hc h hn hst) fun v σ H Q h => by
  obtain ⟨g, fr, st, d, r, rv, p⟩ := h
  cases d with
  | tup ds =>
    simp only [gTupD] at p
    split at p
    · rename_i hl
      simp only [Rep] at rv
      obtain ⟨a, xs, rfl, h1, h2, h3⟩ := rv
      exact ⟨a, xs, rfl, by rw [hK]; exact sub_t r.sub h1, by rw [h3.length, hl], g, fr, st, ds, r, h3, p⟩
    · exact p.elim
  | _ => exact p.elim
def mAsg (m : M D) (mg : D → M Unit) : M Ctl := do
  let d ← m
  mg d
  M.pure .nx
theorem s_asg {tg e : Expr} {m : M D} {mg : D → M Unit} {pos : Pos} (he : PE X e (tI E W m)) (hg : PG X tg (tG E W mg)) (hs : swapsWithSole [tg] e pos.line X.env = pure false := by rfl) (hw : swappedStores [tg] e X.env = pure none := by rfl)
    (h1 : (assignEach [tg] X.env).map (·.2) = [assign tg X.env] := by rfl) : PS X (.Assign [tg] e pos) (tS E W (mAsg m mg)) :=
  ps_imp (ps_asg he hg hs hw h1) fun D σ H h => by
    obtain ⟨g, fr, st, r, p⟩ := h
    refine tI_bindX r p fun g1 fr1 st1 H1 d v t rv => ⟨g1, fr1, st1, d, t.rel, rv, ?_⟩
    have h1 := t.post.bind
    cases e : mg d fr1 st1 with
    | ok u fr2 st2 =>
      rw [e] at h1
      exact fun g2 σ2 H2 e2 r2 => (h1 g2 σ2 H2 e2 r2).ok
    | exc x fr2 st2 =>
      rw [e] at h1
      exact h1
    | stuck =>
      rw [e] at h1
      exact h1
/-- a, b = x, y -/
def mPar (i j : Nat) (ms : M (List D)) : M Ctl := do
  let ds ← ms
  match ds with
  | [x, y] => do
    gSet i x
    gSet j y
    M.pure .nx
  | _ => M.stuck
theorem s_par (i j : Nat) {x y : Str} {a b : Expr} {ms : M (List D)} {px py pt : Pos} {kt k2 pt2} {pos : Pos} (hc : X.calm = true) (hN : X.N.Nodup) (hi : X.N[i]? = some x) (hj : X.N[j]? = some y) (hij : i ≠ j)
    (hx : X.env.scope.names.lookup x = some .local) (hy : X.env.scope.names.lookup y = some .local) (ha : PA X [a, b] (tIA E W ms))
    (hw : swappedStores [.Tuple [.Name x px, .Name y py] kt pt] (.Tuple [a, b] k2 pt2) X.env = pure (some [x, y]))
    (hs : swapsWithSole [.Tuple [.Name x px, .Name y py] kt pt] (.Tuple [a, b] k2 pt2) pos.line X.env = pure false := by rfl) :
    PS X (.Assign [.Tuple [.Name x px, .Name y py] kt pt] (.Tuple [a, b] k2 pt2) pos) (tS E W (mPar i j ms)) := ps_imp (ps_par hc hN hi hj hij hx hy ha hw hs) fun D σ H h => by
  obtain ⟨g, fr, st, r, p⟩ := h
  refine tIA_bindX r p fun g1 fr1 st1 H1 ds vs t rvs => ?_
  have hp := t.post
  match ds, rvs, hp with
  | [x, y], rvs, hp =>
    obtain ⟨v, w, rfl, r1, r2⟩ := rvs.two
    have q : PostX E W g1 (foS E g1 st1) H1 (CtlE E D) (.ok .nx ((fr1.set i (some x)).set j (some y)) st1) := hp
    exact ⟨v, w, rfl, q g1 _ H1 (.refl ..) ((t.rel.set_val r1).set_val r2)⟩
  | [], _, hp => exact hp.elim
  | [_], _, hp => exact hp.elim
  | _ :: _ :: _ :: _, _, hp => exact hp.elim
end
end Mp
end
section
/-! Mp, part 10: defs, calls of defs and methods, instances made, attributes read and set. -/
namespace Mp
open PySem PySem.Spec PyProof.Rows L2

/-- a def's mirror -/
abbrev Fn := List D → Store → Out D
def mkFn (n np : Nat) (b : M Ctl) : Fn := fun ds st => if ds.length = np then
    match b (ds.map some ++ List.replicate (n - np) none) st with
    | .ok c _ st' => match c with
      | .nx => .ok .non [] st'
      | .rt d => .ok d [] st'
      | _ => .stuck
    | .exc x _ st' => .exc x [] st'
    | .stuck => .stuck
  else .stuck
/-- what a caller wants -/
def PostC (E : SE) (g : Gh) (F : Addr → Prop) (H : Hp) (Q : VK) (XE : XK) : Out D → Prop
  | .ok d _ st => ∀ g' H' v, Ext g F H g' (foS E g' st) H' → RelG E g' st H' → Rep E g' d v → Q v H'
  | .exc x _ st => ∀ g' H' cls dx, Ext g F H g' (foS E g' st) H' → RelG E g' st H' → ExR E g' x cls dx → XE cls dx H'
  | .stuck => False
def spI (E : SE) (f : Fn) : Sp := fun vs H Q XE => ∃ g st ds, RelG E g st H ∧ Reps E g ds vs ∧ PostC E g (foS E g st) H Q XE (f ds st)
theorem getQ_append_rep {α : Type} (l : List (Option α)) (k i : Nat) (x : α) (h : (l ++ List.replicate k none)[i]? = some (some x)) : l[i]? = some (some x) := by
  rw [List.getElem?_append] at h
  split at h
  · exact h
  · rw [List.getElem?_replicate] at h
    split at h <;> cases h
section
variable {E : SE} {P : Program} {w : World} {K : PySem.W.Frag} {mg : Str → Option Value} {base : Heap} {x qual : Str} {params : Arguments} {body : List Stmt} {scope : Scope} {dvs : List V} {kws : List (Str × V)} {f : Addr} {fd : FuncData}
/-- THE RULE: a def keeps its mirror's promise -/
theorem fn_s {N ps : List Str} {k : Nat} {m : M Ctl} (F : FunD K x qual params body scope dvs kws f fd) (S : FnScope N ps scope)
    (hbody : ∀ (cdv : Value) (A : Around) (outer : List Env) (s : Shared) (H : Hp) (XE : XK), Room k (A.deeper (envOfC qual scope s.heap.objs.size f cdv)) →
      PSs (cxOf (L2.CX P w) P w K mg base N qual scope f cdv A outer s H XE) body (tS E (fun cls d _ H => XE cls d H) m)) : FnOk P w K mg base (L2.CX P w) (k + 1) f fd ps (spI E (mkFn N.length ps.length m)) := by
  refine F.ok S (fun vs H Q XE h => ?_) fun cdv A outer s H vs Q XE hr h => ⟨_, hbody cdv A outer s H XE hr, ?_⟩
  · obtain ⟨g, st, ds, r, rs, p⟩ := h
    rw [rs.length]
    unfold mkFn at p
    split at p
    · assumption
    · exact p.elim
  · obtain ⟨g, st, ds, r, rs, p⟩ := h
    unfold mkFn at p
    split at p
    · rename_i hl
      refine ⟨g, ds.map some ++ List.replicate (N.length - ps.length) none, st, ⟨r, ?_, fun i d e => ?_⟩, ?_⟩
      · unfold L2.start
        simp only [List.length_append, List.length_map, List.length_replicate, rs.length, hl]
      · have e1 := getQ_append_rep _ _ _ _ e
        rw [List.getElem?_map, Option.map_eq_some_iff] at e1
        obtain ⟨d', e2, e3⟩ := e1
        cases e3
        obtain ⟨v, e4, rv⟩ := rs.get e2
        refine ⟨v, ?_, rv⟩
        unfold L2.start
        rw [List.getElem?_append_left (by rw [List.length_map]; exact (List.getElem?_eq_some_iff.mp e4).1), List.getElem?_map, e4]
        rfl
      · cases e : m (ds.map some ++ List.replicate (N.length - ps.length) none) st with
        | ok c fr st' =>
          rw [e] at p
          intro g' σ' H' e' r'
          cases c with
          | nx => exact p g' H' .non e' r'.toRelG (by simp only [Rep])
          | rt d => exact fun v rv => p g' H' v e' r'.toRelG rv
          | bk => exact p.elim
          | ct => exact p.elim
        | exc x fr st' =>
          rw [e] at p
          exact fun g' σ' H' cls dx e' r' q => p g' H' cls dx e' r'.toRelG q
        | stuck =>
          rw [e] at p
          exact p.elim
    · exact p.elim
end

/-! ### calls of defs -/
/-- the frame around a def's end -/
def callK (fr : Fr) : Out D → Out D
  | .ok d _ st => .ok d fr st
  | .exc x _ st => .exc x fr st
  | .stuck => .stuck
def mCall (f : Fn) (dds : List D) (ms : M (List D)) : M D := do
  let ds ← ms
  fun fr st => callK fr (f (ds ++ dds) st)
section
variable {E : SE} {W : WX} {X : Cx}
theorem RelF.after {g g' : Gh} {fr : Fr} {st st' : Store} {σ : L2.St} {H H' : Hp} (r : RelF E g fr st σ H) (le : GLe g g') (r' : RelG E g' st' H') : RelF E g' fr st' σ H' := ⟨r', r.len, r.val_mono le⟩
theorem callK_post {g : Gh} {fr : Fr} {st : Store} {σ : L2.St} {H : Hp} {Q : VK} {o : Out D} (r : RelF E g fr st σ H) (p : Post E W g (foS E g st) H σ (RV E Q) (callK fr o)) : PostC E g (foS E g st) H Q (WE W σ) o := by
  cases o with
  | ok d _ st' => exact fun g' H' v e rg rv => p g' H' e (r.after e.le rg) v rv
  | exc x _ st' => exact fun g' H' cls dx e rg q => p g' H' cls dx e (r.after e.le rg) q
  | stuck => exact p
theorem Reps.dflt {g : Gh} {ds dds : List D} {vs dvs : List V} (h : Reps E g ds vs) (hd : ∀ g, Reps E g dds dvs) : Reps E g (ds ++ dds) (vs ++ dvs) := h.append (hd g)
theorem call_sp {f : Fn} {dds : List D} {dvs : List V} (hd : ∀ g, Reps E g dds dvs) {ms : M (List D)} {σ : L2.St} {H : Hp} {Q : VK} (h : tI E W (mCall f dds ms) σ H Q) : tCallSD (spI E f) dvs (WE W) (tIA E W ms) σ H Q := by
  obtain ⟨g, fr, st, rl, p⟩ := h
  refine tIA_bind rl p fun g1 fr1 st1 H1 ds vs t rs => ?_
  exact ⟨g1, st1, ds ++ dds, t.rel.toRelG, rs.dflt hd, callK_post t.rel t.post⟩
theorem s_call {k : Nat} {fa : Addr} {fd : FuncData} {ps : List Str} {f : Fn} {dds : List D} {dvs : List V} {ds : List Value} {x : Str} {p pos : Pos} {e : Expr} {es : List Expr} {ms : M (List D)} (F : FnOk X.prog X.w X.K X.mg X.base (L2.CX X.prog X.w) k fa fd ps (spI E f)) (hr : Room k X.A) (tk : Takes X W) (hm : X.mg x = some (.ref fa)) (hk : PySem.W.keepIn X.K (.ref fa) = true)
    (hb : Binds X.K fd ps ds) (hdv : Vals dvs ds) (hd : ∀ g, Reps E g dds dvs) (ha : PA X (e :: es) (tIA E W ms)) (hg : Gl X x := by rfl) (hdb : (x == ("__debug__" : Str)) = false := by decide)
    (he : starEach (e :: es) X.env = (false, eval e X.env) :: starEach es X.env := by rfl) (hpl : (backTo pos (starEach es X.env)).any (·.1) = false := by rfl) : PE X (.Call (.Name x p) (e :: es) [] pos) (tI E W (mCall f dds ms)) :=
  pe_imp (pe_callSD F hr hg hm hk hb hdv (fun σ => passAt tk σ) ha hdb he hpl) fun _ _ _ h => call_sp hd h
theorem s_call0 {k : Nat} {fa : Addr} {fd : FuncData} {ps : List Str} {f : Fn} {dds : List D} {dvs : List V} {ds : List Value} {x : Str} {p pos : Pos} (F : FnOk X.prog X.w X.K X.mg X.base (L2.CX X.prog X.w) k fa fd ps (spI E f)) (hr : Room k X.A) (tk : Takes X W) (hm : X.mg x = some (.ref fa)) (hk : PySem.W.keepIn X.K (.ref fa) = true)
    (hb : Binds X.K fd ps ds) (hdv : Vals dvs ds) (hd : ∀ g, Reps E g dds dvs) (hg : Gl X x := by rfl) (hdb : (x == ("__debug__" : Str)) = false := by decide) : PE X (.Call (.Name x p) [] [] pos) (tI E W (mCall f dds (mArgs []))) := by
  refine ⟨fun pins s σ H Q I h => ?_⟩
  obtain ⟨g, fr, st, rl, p⟩ := h
  refine wpAny_Call_Name_kw (ld_glob I hg hm ?_ hdb)
  refine PySem.W.callWith_K0 I.kIn hk (run_fnSD (us := []) (vs := []) F hr hb hdv (passAt tk σ) I .nil ?_)
  have t := p.bind g H (.refl ..) rl
  exact ⟨g, st, [] ++ dds, t.rel.toRelG, Reps.dflt (vs := []) .nil hd, callK_post t.rel t.post⟩

/-! ### attributes -/
/-- the class, the names, the values of an instance -/
def insD (st : Store) : D → Option (Str × List Str × List D)
  | .ins C ns ds => some (C, ns, ds)
  | .ref n => match st.get n with
    | some (.ins C ns ds) => some (C, ns, ds)
    | _ => none
  | _ => none
theorem ins_s {g : Gh} {fr : Fr} {st : Store} {σ : L2.St} {H : Hp} {d : D} {v : V} {C : Str} {ns : List Str} {ds : List D} (r : RelF E g fr st σ H) (rv : Rep E g d v) (e : insD st d = some (C, ns, ds)) :
    ∃ a dx xs, v = .ref a ∧ H a = some (.ins (E.adr C) dx (ns.zip xs)) ∧ ns.length = xs.length ∧ Reps E g ds xs := by
  unfold insD at e
  split at e
  · cases e
    simp only [Rep] at rv
    obtain ⟨a, dx, xs, rfl, h1, h2, h3⟩ := rv
    exact ⟨a, dx, xs, rfl, r.sub _ _ h1, h2, h3⟩
  · split at e
    · rename_i eo
      cases e
      simp only [Rep] at rv
      obtain ⟨dx, xs, h1, h2, h3⟩ := r.obj _ _ eo
      exact ⟨_, dx, xs, rv.2, h1, h2, h3⟩
    · cases e
  · cases e
def lookD (f : Str) : List Str → List D → Option D
  | n :: ns, d :: ds => if f = n then some d else lookD f ns ds
  | _, _ => none
theorem look_s {g : Gh} {f : Str} : ∀ {ns : List Str} {ds : List D} {xs : List V} {d : D}, ns.length = xs.length → Reps E g ds xs → lookD f ns ds = some d → ∃ v, (ns.zip xs).lookup f = some v ∧ Rep E g d v
  | [], ds, xs, d, _, _, e => by cases ds <;> cases e
  | n :: ns, [], xs, d, _, _, e => by cases e
  | n :: ns, d :: ds, xs, z, hl, h, e => by
    simp only [Reps] at h
    obtain ⟨v, r, rfl, h2, h3⟩ := h
    unfold lookD at e
    rw [List.zip_cons_cons]
    split at e
    · rename_i q
      cases e
      subst q
      exact ⟨v, by simp [List.lookup], h2⟩
    · rename_i q
      have hb : (f == n) = false := beq_eq_false_iff_ne.mpr q
      obtain ⟨u, h4, h5⟩ := look_s (by simpa using hl) h3 e
      exact ⟨u, by simp only [List.lookup, hb]; exact h4, h5⟩
theorem nolook_s {f : Str} : ∀ {ns : List Str} {xs : List V}, ns.contains f = false → (ns.zip xs).lookup f = none
  | [], xs, h => by simp
  | n :: ns, [], h => by simp
  | n :: ns, x :: xs, h => by
    rw [List.contains_cons, Bool.or_eq_false_iff] at h
    rw [List.zip_cons_cons]
    simp only [List.lookup, h.1]
    exact nolook_s h.2
/-- what the attribute f wants of these classes -/
def AttrOk (E : SE) (f : Str) (cs : List Str) : Prop := ∀ C ∈ cs, Cls E.K (E.adr C) ∧ NoAttr E.K (E.adr C) f
def attrD (f : Str) (cs : List Str) (st : Store) (d : D) : Option D := match insD st d with
  | some (C, ns, ds) => if C ∈ cs then lookD f ns ds else none
  | none => none
def mAttr (f : Str) (cs : List Str) (m : M D) : M D := do
  let d ← m
  liftS fun st => attrD f cs st d
theorem s_attr (hK : X.K = E.K) {f : Str} {cs : List Str} (ok : AttrOk E f cs) {e : Expr} {m : M D} {pos : Pos} (h : PE X e (tI E W m)) (hb : attributeBase e f X.env (eval e X.env) = eval e X.env := by rfl) : PE X (.Attribute e f pos) (tI E W (mAttr f cs m)) :=
  pe_imp (pe_fld h hb) fun σ H Q h => by
    obtain ⟨g, fr, st, rl, p⟩ := h
    refine tI_bind rl p fun g1 fr1 st1 H1 d v t rv => ?_
    have hp := t.post
    unfold liftS at hp
    dsimp only at hp
    unfold attrD at hp
    cases e1 : insD st1 d with
    | none => rw [e1] at hp; exact hp.elim
    | some q =>
      obtain ⟨C, ns, ds⟩ := q
      rw [e1] at hp
      dsimp only at hp
      obtain ⟨a, dx, xs, rfl, h1, h2, h3⟩ := ins_s t.rel rv e1
      by_cases hc : C ∈ cs
      · rw [if_pos hc] at hp
        cases e2 : lookD f ns ds with
        | none => rw [e2] at hp; exact hp.elim
        | some z =>
          rw [e2] at hp
          obtain ⟨u, h4, h5⟩ := look_s h2 h3 e2
          obtain ⟨c, n⟩ := ok C hc
          exact ⟨a, _, dx, _, u, rfl, h1, by rw [hK]; exact c, by rw [hK]; exact n, h4, hp g1 H1 (.refl ..) t.rel u h5⟩
      · rw [if_neg hc] at hp
        exact hp.elim

/-! ### attributes set -/
def putD (f : Str) (y : D) : List Str → List D → List Str × List D
  | n :: ns, d :: ds => if n = f then (n :: ns, y :: ds) else (n :: (putD f y ns ds).1, d :: (putD f y ns ds).2)
  | _, _ => ([f], [y])
theorem put_s {g : Gh} {f : Str} {y : D} {v : V} (ry : Rep E g y v) : ∀ {ns : List Str} {ds : List D} {xs : List V}, ns.length = xs.length → Reps E g ds xs →
    ∃ ws, putF f v (ns.zip xs) = (putD f y ns ds).1.zip ws ∧ (putD f y ns ds).1.length = ws.length ∧ Reps E g (putD f y ns ds).2 ws
  | [], ds, xs, hl, h => by
    have e : xs = [] := List.length_eq_zero_iff.mp hl.symm
    subst e
    have e := h.nil_of
    subst e
    exact ⟨[v], rfl, rfl, .cons ry .nil⟩
  | n :: ns, [], xs, hl, h => by
    simp only [Reps] at h
    subst h
    cases hl
  | n :: ns, d :: ds, xs, hl, h => by
    simp only [Reps] at h
    obtain ⟨u, r, rfl, h2, h3⟩ := h
    have hl' : ns.length = r.length := by simpa using hl
    rw [List.zip_cons_cons]
    unfold putD putF
    by_cases q : n = f
    · rw [if_pos q, if_pos q]
      exact ⟨v :: r, rfl, by simp [hl'], .cons ry h3⟩
    · rw [if_neg q, if_neg q]
      obtain ⟨ws, e1, e2, e3⟩ := put_s ry hl' h3
      exact ⟨u :: ws, by rw [e1]; rfl, by simp [e2], .cons h2 e3⟩
def mSetA (f : Str) (cs : List Str) (mv mo : M D) : M Ctl := do
  let y ← mv
  let d ← mo
  fun fr st => match d with
    | .ref n => match st.get n with
      | some (.ins C ns ds) => if C ∈ cs ∧ ns.length < 900 then .ok .nx fr (st.set n (some (.ins C (putD f y ns ds).1 (putD f y ns ds).2))) else .stuck
      | _ => .stuck
    | _ => .stuck
theorem s_setA (hK : X.K = E.K) {f : Str} {cs : List Str} (ok : AttrOk E f cs) {o value : Expr} {mo mv : M D} {pos pos' : Pos} (ho : PE X o (tI E W mo)) (hv : PE X value (tI E W mv)) (hs : swapsWith value (some (.Attribute o f pos')) pos.line X.env = pure false := by rfl) : PS X (.Assign [.Attribute o f pos'] value pos) (tS E W (mSetA f cs mv mo)) :=
  ps_imp (ps_fld ho hv hs) fun D σ H h => by
    obtain ⟨g, fr, st, rl, p⟩ := h
    refine tI_bindX rl p fun g1 fr1 st1 H1 y v t ry => ?_
    refine tI_bindX t.rel t.post fun g2 fr2 st2 H2 d u t2 rd => ?_
    have hp := t2.post
    have ry := ry.mono t2.le
    cases d with
    | ref n =>
      dsimp only at hp
      cases e1 : st2.get n with
      | none => rw [e1] at hp; exact hp.elim
      | some m =>
        rw [e1] at hp
        cases m with
        | ins C ns ds =>
          dsimp only at hp
          split at hp
          · rename_i hc
            simp only [Rep] at rd
            obtain ⟨dx, xs, h1, h2, h3⟩ := t2.rel.obj _ _ e1
            obtain ⟨c, nn⟩ := ok C hc.1
            obtain ⟨ws, e2, e3, e4⟩ := put_s ry h2 h3
            refine ⟨_, _, dx, _, rd.2, h1, by rw [hK]; exact c, by rw [hK]; exact nn, ?_, ?_⟩
            · rw [List.length_zip]
              omega
            · rw [e2]
              obtain ⟨r', e'⟩ := t2.rel.writeS (o := .ins (E.adr C) dx ((putD f y ns ds).1.zip ws)) (m' := .ins C (putD f y ns ds).1 (putD f y ns ds).2) e1 rfl ⟨dx, ws, upd_same, e3, e4⟩
              exact hp _ _ _ e' r'
          · exact hp.elim
        | _ => exact hp.elim
    | _ => exact hp.elim
end
end Mp
end
section
/-! Mp, part 11: methods, instances made, operators by own methods. -/
namespace Mp
open PySem PySem.Spec PyProof.Rows L2

/-- the method m of the class C, by its mirror f; dds: its defaults -/
structure MthD (P : Program) (w : World) (K : PySem.W.Frag) (mg : Str → Option Value) (base : Heap) (E : SE) (k : Nat) (m C : Str) (f : Fn) (dds : List D) : Prop where
  ex : ∃ (fa : Addr) (fd : FuncData) (ps : List Str) (dvs : List V) (ds : List Value), Cls K (E.adr C) ∧ Meth K (E.adr C) m fa ∧ PySem.W.fnIn K fa = true ∧ FnOk P w K mg base (L2.CX P w) k fa fd ps (spI E f) ∧ Binds K fd ps ds ∧ Vals dvs ds ∧ ∀ g, Reps E g dds dvs
abbrev MTab := List (Str × Fn × List D)
def MthOk (P : Program) (w : World) (K : PySem.W.Frag) (mg : Str → Option Value) (base : Heap) (E : SE) (k : Nat) (m : Str) (tab : MTab) : Prop := ∀ C f dds, tab.lookup C = some (f, dds) → MthD P w K mg base E k m C f dds
def methD (m : Str) (tab : MTab) (st : Store) (d : D) : Option (Fn × List D) := match insD st d with
  | some (C, ns, _) => if ns.contains m then none else tab.lookup C
  | none => none
def mMeth (m : Str) (tab : MTab) (mo : M D) (ms : M (List D)) : M D := do
  let d ← mo
  let f ← liftS (methD m tab · d)
  let ds ← ms
  fun fr st => callK fr (f.1 ((d :: ds) ++ f.2) st)
theorem MthOk.nil {P : Program} {w : World} {K : PySem.W.Frag} {mg : Str → Option Value} {base : Heap} {E : SE} {k : Nat} {m : Str} : MthOk P w K mg base E k m [] := fun C f dds e => by cases e
theorem MthOk.cons {P : Program} {w : World} {K : PySem.W.Frag} {mg : Str → Option Value} {base : Heap} {E : SE} {k : Nat} {m C : Str} {f : Fn} {dds : List D} {tab : MTab} (h : MthD P w K mg base E k m C f dds) (t : MthOk P w K mg base E k m tab) : MthOk P w K mg base E k m ((C, f, dds) :: tab) := fun C' f' dds' e => by
  unfold List.lookup at e
  split at e
  · rename_i q
    cases e
    rw [beq_iff_eq.mp q]
    exact h
  · exact t _ _ _ e
theorem MthD.mono {P : Program} {w : World} {K : PySem.W.Frag} {mg : Str → Option Value} {base : Heap} {E : SE} {k j : Nat} {m C : Str} {f : Fn} {dds : List D} (h : MthD P w K mg base E k m C f dds) (l : k ≤ j) : MthD P w K mg base E j m C f dds := by
  obtain ⟨fa, fd, ps, dvs, ds, h1, h2, h3, h4, h5⟩ := h.ex
  exact ⟨fa, fd, ps, dvs, ds, h1, h2, h3, h4.mono l, h5⟩
section
variable {E : SE} {W : WX} {X : Cx}
theorem meth_bind {g : Gh} {σ : L2.St} {Q : VK} {m : Str} {tab : MTab} {d : D} {k : Fn × List D → M D} {g1 : Gh} {fr1 : Fr} {st1 : Store} {H1 : Hp} (t : Then E W g σ (RV E Q) (liftS (methD m tab · d) >>= k) g1 fr1 st1 H1) :
    ∃ f dds C ns ds, insD st1 d = some (C, ns, ds) ∧ ns.contains m = false ∧ tab.lookup C = some (f, dds) ∧ Then E W g σ (RV E Q) (k (f, dds)) g1 fr1 st1 H1 := by
  have hp := t.post.bind
  unfold liftS at hp
  dsimp only at hp
  cases e : methD m tab st1 d with
  | none => rw [e] at hp; exact hp.elim
  | some q =>
    rw [e] at hp
    have t2 := hp g1 H1 (.refl ..) t.rel
    unfold methD at e
    cases e1 : insD st1 d with
    | none => rw [e1] at e; cases e
    | some z =>
      obtain ⟨C, ns, ds⟩ := z
      rw [e1] at e
      dsimp only at e
      cases e2 : ns.contains m with
      | true => rw [e2, if_pos rfl] at e; cases e
      | false =>
        rw [e2, if_neg Bool.false_ne_true] at e
        exact ⟨q.1, q.2, C, ns, ds, rfl, e2, e, ⟨t2.rel, t.le, t2.post⟩⟩
theorem s_meth {k : Nat} {m : Str} {tab : MTab} (hK : X.K = E.K) (ok : MthOk X.prog X.w X.K X.mg X.base E k m tab) (hr : Room k X.A) (tk : Takes X W) {o e : Expr} {es : List Expr} {mo : M D} {ms : M (List D)} {pos apos : Pos} {pl : Sem Bool} (he : PE X o (tI E W mo)) (ha : PA X (e :: es) (tIA E W ms))
    (hst : starEach (e :: es) X.env = (false, eval e X.env) :: starEach es X.env := by rfl) (hpl : (backTo pos (starEach es X.env)).any (·.1) = false := by rfl)
    (ht : eval (.Call (.Attribute o m apos) (e :: es) [] pos) X.env = (do
      let ov ← eval o X.env
      standAt apos.atName
      let (f, first) ← holding [ov] (getMethod ov m pl)
      callWith pos f first (backTo pos (starEach (e :: es) X.env)) (backToKw pos (keywordEach [] X.env))) := by rfl) :
    PE X (.Call (.Attribute o m apos) (e :: es) [] pos) (tI E W (mMeth m tab mo ms)) := by
  refine ⟨fun pins s σ H Q I h => ?_⟩
  obtain ⟨g, fr, st, rl, p⟩ := h
  refine PySem.W.methodCall_KW (pl := pl) (thn (he.run pins s σ H _ I (tI_bind (Q := fun v H1 => ∃ g1 fr1 st1 d f dds C ns ds, Rep E g1 d v ∧ insD st1 d = some (C, ns, ds) ∧ ns.contains m = false ∧ tab.lookup C = some (f, dds) ∧
    Then E W g σ (RV E Q) (do let ds ← ms; fun fr st => callK fr (f ((d :: ds) ++ dds) st) : M D) g1 fr1 st1 H1) rl p fun g1 fr1 st1 H1 d v t rv => ?_)) fun u s1 ⟨x, H1, I1, rx, q⟩ => ?_) ht
  · obtain ⟨f, dds, C, ns, ds, h1, h2, h3, h4⟩ := meth_bind t
    exact ⟨g1, fr1, st1, d, f, dds, C, ns, ds, rv, h1, h2, h3, h4⟩
  · obtain ⟨g1, fr1, st1, d, f, dds, C, ns, ds, rv, h1, h2, h3, h4⟩ := q
    obtain ⟨fa, fd, ps, dvs, dvl, c1, c2, c3, c4, c5, c6, c7⟩ := (ok C f dds h3).ex
    have rv0 := rv
    obtain ⟨a, dx, xs, rfl, hi, _, _⟩ := ins_s h4.rel rv h1
    obtain rfl : u = Value.ref a := rx
    refine getmeth_ok I1 hi c1 c2 (nolook_s h2) ?_
    refine PySem.W.callWith_K (first := [.ref a]) (h₀ := X.base) I.ok.mod.kin c2.kp (thn (ha.run pos pins s1 σ H1 _ I1 (tIA_bind (Q := fun vs H2 => spI E f (V.ref a :: vs ++ dvs) H2 Q (WE W σ)) h4.rel h4.post fun g2 fr2 st2 H2 ds2 vs2 t2 rs2 => ?_)) fun us s2 ⟨vs, H2, I2, r, q2⟩ => ⟨I2.kIn, ?_⟩) hst hpl
    · exact ⟨g2, st2, _, t2.rel.toRelG, (Reps.cons (rv0.mono t2.le) rs2).dflt c7, callK_post t2.rel t2.post⟩
    · exact run_fnSD (us := .ref a :: us) (vs := .ref a :: vs) c4 hr c5 c6 (passAt tk σ) I2 (.cons rfl r) q2
theorem s_meth0 {k : Nat} {m : Str} {tab : MTab} (hK : X.K = E.K) (ok : MthOk X.prog X.w X.K X.mg X.base E k m tab) (hr : Room k X.A) (tk : Takes X W) {o : Expr} {mo : M D} {pos apos : Pos} {pl : Sem Bool} (he : PE X o (tI E W mo))
    (ht : eval (.Call (.Attribute o m apos) [] [] pos) X.env = (do
      let ov ← eval o X.env
      standAt apos.atName
      let (f, first) ← holding [ov] (getMethod ov m pl)
      callWith pos f first (backTo pos (starEach [] X.env)) (backToKw pos (keywordEach [] X.env))) := by rfl) :
    PE X (.Call (.Attribute o m apos) [] [] pos) (tI E W (mMeth m tab mo (mArgs []))) := by
  refine ⟨fun pins s σ H Q I h => ?_⟩
  obtain ⟨g, fr, st, rl, p⟩ := h
  refine PySem.W.methodCall_KW (pl := pl) (thn (he.run pins s σ H _ I (tI_bind (Q := fun v H1 => ∃ g1 fr1 st1 d f dds C ns ds, Rep E g1 d v ∧ insD st1 d = some (C, ns, ds) ∧ ns.contains m = false ∧ tab.lookup C = some (f, dds) ∧
    Then E W g σ (RV E Q) (do let ds ← mArgs []; fun fr st => callK fr (f ((d :: ds) ++ dds) st) : M D) g1 fr1 st1 H1) rl p fun g1 fr1 st1 H1 d v t rv => ?_)) fun u s1 ⟨x, H1, I1, rx, q⟩ => ?_) ht
  · obtain ⟨f, dds, C, ns, ds, h1, h2, h3, h4⟩ := meth_bind t
    exact ⟨g1, fr1, st1, d, f, dds, C, ns, ds, rv, h1, h2, h3, h4⟩
  · obtain ⟨g1, fr1, st1, d, f, dds, C, ns, ds, rv, h1, h2, h3, h4⟩ := q
    obtain ⟨fa, fd, ps, dvs, dvl, c1, c2, c3, c4, c5, c6, c7⟩ := (ok C f dds h3).ex
    have rv0 := rv
    obtain ⟨a, dx, xs, rfl, hi, _, _⟩ := ins_s h4.rel rv h1
    obtain rfl : u = Value.ref a := rx
    refine getmeth_ok I1 hi c1 c2 (nolook_s h2) ?_
    refine PySem.W.callWith_K0 (first := [.ref a]) I1.kIn c2.kp (run_fnSD (us := [.ref a]) (vs := [.ref a]) c4 hr c5 c6 (passAt tk σ) I1 (.cons rfl .nil) ?_)
    have t2 := h4.post.bind g1 H1 (.refl ..) h4.rel
    exact ⟨g1, st1, _, t2.rel.toRelG, (Reps.cons rv0 .nil).dflt c7, callK_post t2.rel t2.post⟩

/-! ### instances made -/
structure MkD (P : Program) (w : World) (K : PySem.W.Frag) (mg : Str → Option Value) (base : Heap) (E : SE) (k : Nat) (C : Str) (f : Fn) (dds : List D) : Prop where
  ex : ∃ (fa : Addr) (fd : FuncData) (ps : List Str) (dvs : List V) (ds : List Value), Mk K (E.adr C) fa ∧ FnOk P w K mg base (L2.CX P w) k fa fd ps (spI E f) ∧ Binds K fd ps ds ∧ Vals dvs ds ∧ ∀ g, Reps E g dds dvs
def makeK (n : Nat) (frz : Bool) (fr : Fr) : Out D → Out D
  | .ok .non _ st => if frz then (match st.get n with
      | some (.ins C ns ds) => .ok (.ins C ns ds) fr (st.set n none)
      | _ => .stuck) else .ok (.ref n) fr st
  | .ok _ _ _ => .stuck
  | .exc x _ st => .exc x fr st
  | .stuck => .stuck
/-- C(..); frz: nobody writes to it behind its __init__ -/
def mMake (C : Str) (f : Fn) (dds : List D) (frz : Bool) (ms : M (List D)) : M D := do
  let ds ← ms
  fun fr st => makeK st.next frz fr (f (.ref st.next :: ds ++ dds) (st.new (.ins C [] [])))
theorem run_makeS {CX : CXT} {k : Nat} {f C : Addr} {fd : FuncData} {ps : List Str} {sp : Sp} {dvs : List V} {ds : List Value} {XE : L2.St → XK} {pins : List (Addr × Obj)} {σ : L2.St} {H : Hp} {s : Shared} {Q : VK} {us : List Value} {vs : List V} (M : Mk X.K C f) (F : FnOk X.prog X.w X.K X.mg X.base CX k f fd ps sp) (hr : Room (k + 1) X.A) (hb : Binds X.K fd ps ds) (hd : Vals dvs ds)
    (hx : PassesAt CX X σ (XE σ)) (I : Inv X pins σ H s) (r : Vals vs us)
    (h : ∀ x dx, H x = none → H dx = none → dx ≠ x → sp (.ref x :: (vs ++ dvs)) (upd (upd H dx (.own x)) x (.ins C dx [])) (fun v H2 => v = .non ∧ Q (.ref x) H2) (XE σ)) :
    wpAny (model X.prog X.w) X.A (call (.ref C) us) (EP X pins σ Q) X.xe s := by
  have hq := h (s.heap.objs.size + 1) s.heap.objs.size (I.hok.fresh (Nat.le_succ _)) (I.hok.fresh (Nat.le_refl _)) (Nat.ne_of_lt (Nat.lt_succ_self _))
  have I2 := Inv.made (C := C) I
  have r2 : Vals (V.ref (s.heap.objs.size + 1) :: (vs ++ dvs)) (Value.ref (s.heap.objs.size + 1) :: (us ++ ds)) := .cons rfl (r.append hd)
  have hl : (Value.ref (s.heap.objs.size + 1) :: us ++ ds).length = ps.length := by
    have e := r2.length
    rw [F.len _ _ _ _ hq] at e
    exact e.symm
  refine wpAny_call (make_map (f := f) I.kIn M.makes M.init (beq_iff_eq.mp M.fn) (codeAny_mono (F.run _ X.stack _ _ ⟨Value.ref (s.heap.objs.size + 1) :: us, []⟩ (Value.ref (s.heap.objs.size + 1) :: (us ++ ds)) _ _ _ (hr.make C us [])
    (I2.env0.make C us []) (hb _ (Value.ref (s.heap.objs.size + 1) :: us) I2.kIn hl) r2 hq) fun r s' hq' => ?_))
  cases r with
  | error e => exact hx pins _ _ e s' I2 hq'
  | ok fl =>
    cases fl with
    | ret u =>
      obtain ⟨v, H', I3, rv, ev, q3⟩ := I2.after hq'
      subst ev
      exact ⟨rv, ⟨V.ref (s.heap.objs.size + 1), H', I3, rfl, q3⟩⟩
    | next => exact False.elim hq'
    | brk => exact False.elim hq'
    | cont => exact False.elim hq'
/-- the way from an instance's making to the wish -/
theorem make_sp {f : Fn} {C : Str} {dds : List D} {dvs : List V} {frz : Bool} {g : Gh} {fr : Fr} {st : Store} {σ : L2.St} {H : Hp} {Q : VK} {ds : List D} {vs : List V} (hd : ∀ g, Reps E g dds dvs) (r : RelF E g fr st σ H) (rs : Reps E g ds vs)
    (p : Post E W g (foS E g st) H σ (RV E Q) (makeK st.next frz fr (f (.ref st.next :: ds ++ dds) (st.new (.ins C [] []))))) (x dx : Addr) (hx : H x = none) (hdx : H dx = none) (hne : dx ≠ x) :
    spI E f (.ref x :: (vs ++ dvs)) (upd (upd H dx (.own x)) x (.ins (E.adr C) dx [])) (fun v H2 => v = .non ∧ Q (.ref x) H2) (WE W σ) := by
  obtain ⟨r1, e1⟩ := r.newU hdx (.own x)
  have hx1 : upd H dx (.own x) x = none := by rw [upd_ne (Ne.symm hne)]; exact hx
  obtain ⟨r2, e2⟩ := r1.newS (o := .ins (E.adr C) dx []) (m := .ins C [] []) hx1 fun g' _ => ⟨dx, [], upd_same, rfl, .nil⟩
  have le := e1.le.trans e2.le
  have io : (g.one x).io st.next = x := if_pos r.nx.symm
  refine ⟨_, _, .ref st.next :: ds ++ dds, r2.toRelG, .cons (by simp only [Rep]; exact ⟨by show st.next < g.nx + 1; rw [r.nx]; exact Nat.lt_succ_self _, congrArg V.ref io.symm⟩) ((rs.mono le).dflt hd), ?_⟩
  have p := p.ext (e1.trans e2)
  cases e : f (.ref st.next :: ds ++ dds) (st.new (.ins C [] [])) with
  | ok d frd st' =>
    rw [e] at p
    intro g' H' v e' rg rv
    cases d with
    | non =>
      simp only [Rep] at rv
      refine ⟨rv, ?_⟩
      have io' : g'.io st.next = x := by rw [e'.le.io _ (by show st.next < g.nx + 1; rw [r.nx]; exact Nat.lt_succ_self _)]; exact io
      have nx' : st.next < g'.nx := Nat.lt_of_lt_of_le (by show st.next < g.nx + 1; rw [r.nx]; exact Nat.lt_succ_self _) e'.le.nx
      have rf := r2.after e'.le rg
      cases frz with
      | false =>
        exact p g' H' e' rf _ (by simp only [Rep]; exact ⟨nx', by rw [io']⟩)
      | true =>
        have p : Post E W (g.one x) (foS E (g.one x) (st.new (MO.ins C [] []))) (upd (upd H dx (HO.own x)) x (HO.ins (E.adr C) dx [])) σ (RV E Q) (match st'.get st.next with
          | some (.ins C ns ds) => .ok (.ins C ns ds) fr (st'.set st.next none)
          | _ => .stuck) := p
        cases em : st'.get st.next with
        | none => rw [em] at p; exact p.elim
        | some m =>
          rw [em] at p
          cases m with
          | ins C' ns ds' =>
            obtain ⟨dx', xs, h1, h2, h3⟩ := rg.obj _ _ em
            obtain ⟨r3, e3⟩ := rf.frzS em io' (by rw [← io']; exact h1)
            refine p _ H' (e'.trans e3) r3 _ ?_
            simp only [Rep]
            exact ⟨x, dx', xs, rfl, upd_same, h2, h3.mono e3.le⟩
          | lst _ => exact p.elim
          | dct _ _ => exact p.elim
    | _ => exact p.elim
  | exc y frd st' =>
    rw [e] at p
    intro g' H' cls dx' e' rg q
    exact p g' H' cls dx' e' (r2.after e'.le rg) q
  | stuck =>
    rw [e] at p
    exact p.elim
theorem s_make {k : Nat} {C : Str} {f : Fn} {dds : List D} (frz : Bool) (mk : MkD X.prog X.w X.K X.mg X.base E k C f dds) (hr : Room (k + 1) X.A) (tk : Takes X W) {x : Str} {p pos : Pos} {e : Expr} {es : List Expr} {ms : M (List D)} (hm : X.mg x = some (.ref (E.adr C))) (ha : PA X (e :: es) (tIA E W ms))
    (hg : Gl X x := by rfl) (hdb : (x == ("__debug__" : Str)) = false := by decide) (he : starEach (e :: es) X.env = (false, eval e X.env) :: starEach es X.env := by rfl) (hpl : (backTo pos (starEach es X.env)).any (·.1) = false := by rfl) :
    PE X (.Call (.Name x p) (e :: es) [] pos) (tI E W (mMake C f dds frz ms)) := by
  obtain ⟨fa, fd, ps, dvs, ds, c1, c2, c3, c4, c5⟩ := mk.ex
  refine ⟨fun pins s σ H Q I h => ?_⟩
  obtain ⟨g, fr, st, rl, pp⟩ := h
  refine wpAny_Call_Name_kw (ld_glob I hg hm ?_ hdb)
  refine PySem.W.callWith_K (h₀ := X.base) I.ok.mod.kin c1.kp (thn (ha.run pos pins s σ H _ I (tIA_bind (Q := fun vs H1 => ∀ x dx, H1 x = none → H1 dx = none → dx ≠ x → spI E f (.ref x :: (vs ++ dvs)) (upd (upd H1 dx (.own x)) x (.ins (E.adr C) dx [])) (fun v H2 => v = .non ∧ Q (.ref x) H2) (WE W σ)) rl pp fun g1 fr1 st1 H1 ds1 vs1 t1 rs1 => ?_)) fun us s1 ⟨vs, H1, I1, r, q⟩ => ⟨I1.kIn, ?_⟩) he hpl
  · exact fun x dx hx hdx hne => make_sp c5 t1.rel rs1 t1.post x dx hx hdx hne
  · exact run_makeS (XE := fun σ => WE W σ) c1 c2 hr c3 c4 (passAt tk σ) I1 r q
theorem s_make0 {k : Nat} {C : Str} {f : Fn} {dds : List D} (frz : Bool) (mk : MkD X.prog X.w X.K X.mg X.base E k C f dds) (hr : Room (k + 1) X.A) (tk : Takes X W) {x : Str} {p pos : Pos} (hm : X.mg x = some (.ref (E.adr C)))
    (hg : Gl X x := by rfl) (hdb : (x == ("__debug__" : Str)) = false := by decide) : PE X (.Call (.Name x p) [] [] pos) (tI E W (mMake C f dds frz (mArgs []))) := by
  obtain ⟨fa, fd, ps, dvs, ds, c1, c2, c3, c4, c5⟩ := mk.ex
  refine ⟨fun pins s σ H Q I h => ?_⟩
  obtain ⟨g, fr, st, rl, pp⟩ := h
  refine wpAny_Call_Name_kw (ld_glob I hg hm ?_ hdb)
  refine PySem.W.callWith_K0 I.kIn c1.kp (run_makeS (XE := fun σ => WE W σ) (us := []) (vs := []) c1 c2 hr c3 c4 (passAt tk σ) I .nil ?_)
  have t := pp.bind g H (.refl ..) rl
  exact fun x dx hx hdx hne => make_sp (vs := []) (ds := []) c5 t.rel .nil t.post x dx hx hdx hne
end
end Mp
end
section
/-! Mp, part 12: in, not in, ==, !=, < by own methods; calls of instances; unions of operators. -/
namespace Mp
open PySem PySem.Spec PyProof.Rows L2

/-- a two-place operation by a mirror -/
def OpM (X : Cx) (E : SE) (W : WX) (sem : Value → Value → Sem Value) (f : D → D → M D) : Prop :=
  ∀ (pins : List (Addr × Obj)) (s : Shared) (σ : L2.St) (H : Hp) (g : Gh) (fr : Fr) (st : Store) (x y : D) (v w : V) (u u' : Value) (Q : VK), Inv X pins σ H s → RelF E g fr st σ H → Rep E g x v → Rep E g y w → RelV v u → RelV w u' →
    Post E W g (foS E g st) H σ (RV E Q) (f x y fr st) → wpAny (model X.prog X.w) X.A (sem u u') (EP X pins σ Q) X.xe s
def mBinM (f : D → D → M D) (a b : M D) : M D := do
  let x ← a
  let y ← b
  f x y
/-- x != y where only == is one's own -/
theorem ne_entry {prog : Program} {w : World} {A : Around} {EE : Value → Shared → Prop} {K : PySem.W.Frag} {s : Shared} {x C f : Addr} {ox : Obj} {od : Option Obj} {b : Value} {Q : Fin → Shared → Prop} (hu : A.units < cLine) (X : K.In s.heap) (I : PySem.W.InstAt s.heap x ox C od)
    (hs : PySem.W.findIn K (.ref C) "__eq__" = some (some (.ref f))) (hf : PySem.W.isFn K (.ref f) = true)
    (h : wpAny (model prog w) A (call (.ref f) [.ref x, b]) (fun v s' => ∃ k, v = .bool k ∧ Q (.done (.ret (.bool (!k)))) s') EE s) : wpAny (model prog w) A (Builtin.«object.__ne__» ⟨[.ref x, b], []⟩) Q EE s := by
  unfold Builtin.«object.__ne__»
  repeat (first
    | with_reducible refine wpAny_cRoomFor hu ?_
    | (refine wpAny_bind (m := callSpecialIfBound? (.ref x) (Str.ofString "__eq__") [b])
        (PySem.W.ifBound_K X I hs hf (wpAny_mono h (fun r s' hr => by
          obtain ⟨k, rfl, hq⟩ := hr
          repeat (first | exact hq | exact wpAny_pure hq | exact wpAny_truthy_bool hq | (refine wpAny_bind (m := truthy (.bool _)) (wpAny_truthy_bool ?_)) | wp_step)) fun _ _ e => e)))
    | wp_step)
theorem ifBound_ne {M : Model} {A : Around} {EE : Value → Shared → Prop} {K : PySem.W.Frag} {s : Shared} {x C : Addr} {ox : Obj} {od : Option Obj} {args : List Value} {Q : Option Value → Shared → Prop} (X : K.In s.heap) (I : PySem.W.InstAt s.heap x ox C od) (hs : PySem.W.findIn K (.ref C) "__ne__" = some (some (.builtin "object.__ne__")))
    (h : wpAny M A (call (.builtin "object.__ne__") (.ref x :: args)) (fun v => Q (some v)) EE s) : wpAny M A (callSpecialIfBound? (.ref x) "__ne__" args) Q EE s := by
  simp only [callSpecialIfBound?, bindSpecialIfBound?]
  refine wpAny_holding (wpAny_bind (wpAny_bind (wpAny_bind (I.type.here ((PySem.W.looks_findIn X hs).here ?_)))))
  refine wpAny_bind (wpAny_askSetting (wpAny_ite ?_))
  have fin : wpAny M A (call (.builtin "object.__ne__") ([.ref x] ++ args) >>= fun v => pure (some v)) Q EE s := wpAny_bind (wpAny_mono h (fun v s' h' => wpAny_pure h') fun _ _ h' => h')
  split
  · exact wpAny_bind (wpAny_of_eq (F.cmp_object.ne.bind _) (wpAny_pure (by exact fin)))
  · exact wpAny_tryCatch (wpAny_bind (wpAny_of_eq (F.cmp_object.ne.bind _) (wpAny_pure (by exact fin))))
theorem ne_K {prog : Program} {w : World} {A : Around} {EE : Value → Shared → Prop} {K : PySem.W.Frag} {s : Shared} {x C f : Addr} {ox : Obj} {od : Option Obj} {b tb : Value} {Q : Value → Shared → Prop} (hu : A.units + 1 < cLine) (X : K.In s.heap) (I : PySem.W.InstAt s.heap x ox C od)
    (hb : PySem.W.Looks (model prog w) s.heap (typeOf b) tb) (hn : PySem.W.notFirst K C tb = true) (hm : PySem.W.mroIn K C (.type "object") = some true) (hne : PySem.W.findIn K (.ref C) "__ne__" = some (some (.builtin "object.__ne__")))
    (hs : PySem.W.findIn K (.ref C) "__eq__" = some (some (.ref f))) (hf : PySem.W.isFn K (.ref f) = true)
    (h : wpAny (model prog w) A.in1 (call (.ref f) [.ref x, b]) (fun v s' => ∃ k, v = .bool k ∧ Q (.bool (!k)) s') EE s) : wpAny (model prog w) A (richCompare .NotEq (.ref x) b) Q EE s := by
  have one : wpAny (model prog w) A (tryCompare (.ref x) "__ne__" b) (fun r s' => ∃ v, r = some v ∧ Q v s') EE s := by
    unfold tryCompare
    refine wpAny_bind (ifBound_ne X I hne (wpAny_call (codeAny_call_builtin F.cmp_object.ne.plain F.cmpEntry_ne (PySem.W.check_slot F.cmpKind_ne F.cmpSplit_ne (I.type.andThen (PySem.W.looks_mroIn X hm)) (F.cmpArgs_ne _ _) (ne_entry (A := A.in1) hu X I hs hf (wpAny_mono h (fun v s' hv => ?_) fun _ _ e => e))))))
    obtain ⟨k, rfl, hq⟩ := hv
    exact ⟨k, rfl, wpAny_pure ⟨_, rfl, hq⟩⟩
  unfold richCompare
  simp only [oneThing_ref]
  refine wpAny_holding (wpAny_bind (wpAny_cRoomFor (Nat.lt_of_succ_lt hu) ?_))
  rw [cmpInfo_NotEq]
  refine wpAny_bind (I.type.here (wpAny_bind (hb.here ?_)))
  split
  · rename_i q
    have e : PySem.W.subIn K tb (.ref C) = some false := by
      rcases Bool.or_eq_true_iff.mp hn with e | e
      · rw [beq_iff_eq.mp e] at q; simp at q
      · exact beq_iff_eq.mp e
    refine wpAny_bind ((PySem.W.looks_subIn X e).here ?_)
    simp only [Bool.false_eq_true, if_false]
    refine wpAny_bind (wpAny_mono one (fun r s' z => ?_) fun _ _ e => e)
    obtain ⟨v, rfl, hq⟩ := z
    exact wpAny_pure hq
  · refine wpAny_bind (wpAny_pure ?_)
    simp only [Bool.false_eq_true, if_false]
    refine wpAny_bind (wpAny_mono one (fun r s' z => ?_) fun _ _ e => e)
    obtain ⟨v, rfl, hq⟩ := z
    exact wpAny_pure hq
section
variable {E : SE} {W : WX} {X : Cx}
theorem OpM.pure {sem : Value → Value → Sem Value} {r : R2} {f : Store → D → D → Option D} (ho : OpR X sem r) (hs : OpSS E W f r) : OpM X E W sem fun x y => liftS fun st => f st x y := by
  intro pins s σ H g fr st x y v w u u' Q I rl rx ry r1 r2 p
  unfold liftS at p
  dsimp only at p
  cases e : f st x y with
  | none => rw [e] at p; exact p.elim
  | some z =>
    rw [e] at p
    exact ho pins s σ H v w u u' Q I r1 r2 (hs g fr st σ H x y v w z Q rl rx ry e fun g' H' e' r' u ru => p g' H' e' r' u ru)
theorem OpS.ss {f : D → D → Option D} {r : R2} (h : OpS E W f r) : OpSS E W (fun _ => f) r := h
theorem binM {a b : Expr} {ma mb : M D} {f : D → D → M D} (ha : PE X a (tI E W ma)) (hb : PE X b (tI E W mb)) {pins : List (Addr × Obj)} {s : Shared} {σ : L2.St} {H : Hp} {Q0 : VK} (I : Inv X pins σ H s) (h : tI E W (mBinM f ma mb) σ H Q0) {Q : Value → Shared → Prop} {sem : Value → Value → Sem Value}
    (hf : ∀ v u s2 g fr st x y w w' H2, Inv X pins σ H2 s2 → RelF E g fr st σ H2 → Rep E g x w → Rep E g y w' → RelV w v → RelV w' u → Post E W g (foS E g st) H2 σ (RV E Q0) (f x y fr st) → wpAny (model X.prog X.w) X.A (sem v u) Q X.xe s2) :
    wpAny (model X.prog X.w) X.A (eval a X.env) (fun v s₁ => wpAny (model X.prog X.w) X.A (eval b X.env) (fun u s₂ => wpAny (model X.prog X.w) X.A (sem v u) Q X.xe s₂) X.xe s₁) X.xe s := by
  obtain ⟨g, fr, st, rl, p⟩ := h
  refine thn (ha.run pins s σ H _ I (tI_bind (Q := fun v H1 => ∃ g1 fr1 st1 d, Rep E g1 d v ∧ Then E W g σ (RV E Q0) (do let y ← mb; f d y : M D) g1 fr1 st1 H1) rl p fun g1 fr1 st1 H1 d v t rv => ⟨g1, fr1, st1, d, rv, t⟩)) fun v s1 hh => ?_
  obtain ⟨x, H1, I1, r1, g1, fr1, st1, d, rv, t⟩ := hh
  refine thn (hb.run pins s1 σ H1 _ I1 (tI_bind (Q := fun w H2 => ∃ g2 fr2 st2 d2, Rep E g2 d x ∧ Rep E g2 d2 w ∧ Then E W g1 σ (RV E Q0) (f d d2) g2 fr2 st2 H2) t.rel t.post fun g2 fr2 st2 H2 d2 v2 t2 rv2 => ⟨g2, fr2, st2, d2, rv.mono t2.le, rv2, t2⟩)) fun u s2 hh => ?_
  obtain ⟨y, H2, I2, r2, g2, fr2, st2, d2, rd, rd2, t2⟩ := hh
  exact hf v u s2 g2 fr2 st2 d d2 x y H2 I2 t2.rel rd rd2 r1 r2 t2.post
theorem s_binM {op : Operator} {f : D → D → M D} (ho : OpM X E W (binaryOp op) f) {a b : Expr} {ma mb : M D} {pos : Pos} (ha : PE X a (tI E W ma)) (hb : PE X b (tI E W mb)) : PE X (.BinOp a op b pos) (tI E W (mBinM f ma mb)) :=
  ⟨fun pins s σ H Q I h => wpAny_BinOp (binM ha hb I h fun v u s2 g fr st x y w w' H2 I2 rl rx ry r1 r2 p => ho pins s2 σ H2 g fr st x y w w' v u Q I2 rl rx ry r1 r2 p)⟩
theorem s_cmpM {op : CmpOp} {f : D → D → M D} (ho : OpM X E W (compareOp op) f) {a b : Expr} {ma mb : M D} {pos : Pos} (ha : PE X a (tI E W ma)) (hb : PE X b (tI E W mb)) (hm : behindInMarks op b = false) : PE X (.Compare a [op] [b] pos) (tI E W (mBinM f ma mb)) :=
  ⟨fun pins s σ H Q I h => wpAny_Compare1 (binM ha hb I h fun v u s2 g fr st x y w w' H2 I2 rl rx ry r1 r2 p => ho pins s2 σ H2 g fr st x y w w' v u Q I2 rl rx ry r1 r2 p) hm⟩
theorem s_cmpMT {op : CmpOp} {f : D → D → M D} (ho : OpM X E W (compareOp op) f) {a b : Expr} {ma mb : M D} {pos : Pos} (ha : PE X a (tI E W ma)) (hb : PE X b (tI E W mb)) (hm : behindInMarks op b = false) : PT X (.Compare a [op] [b] pos) (tIT E W (mTt (mBinM f ma mb))) :=
  ⟨fun pins s σ H Q I h => wpAny_isTrue_Compare1 (binM ha hb I (tIT_of h) fun v u s2 g fr st x y w w' H2 I2 rl rx ry r1 r2 p =>
    thn (ho pins s2 σ H2 g fr st x y w w' v u _ I2 rl rx ry r1 r2 p) fun c s3 ⟨z, H3, I3, r3, k, e, q3⟩ => by
      subst e
      cases r3
      exact wpAny_truthy_bool ⟨H3, I3, q3⟩) hm⟩

/-! ### own methods behind operators -/
/-- the callee, at another depth -/
theorem code_fnA {k : Nat} {fa : Addr} {fd : FuncData} {ps : List Str} {sp : Sp} {dvs : List V} {ds : List Value} {XE : L2.St → XK} {A : Around} {pins : List (Addr × Obj)} {σ : L2.St} {H : Hp} {s : Shared} {Q : VK} {us : List Value} {vs : List V} (hA : A.frames = some X.stack) (hr : Room k A)
    (F : FnOk X.prog X.w X.K X.mg X.base (L2.CX X.prog X.w) k fa fd ps sp) (hb : Binds X.K fd ps ds) (hd : Vals dvs ds) (hx : PassesAt (L2.CX X.prog X.w) X σ (XE σ))
    (I : Inv X pins σ H s) (r : Vals vs us) (h : sp (vs ++ dvs) H Q (XE σ)) : codeAny (model X.prog X.w) A (.call (.ref fa) ⟨us, []⟩) (fun r s' => match r with | .ok (.ret v) => EP X pins σ Q v s' | .ok _ => False | .error e => X.xe e s') s := by
  have r2 : Vals (vs ++ dvs) (us ++ ds) := r.append hd
  have hl : (us ++ ds).length = ps.length := by rw [← r2.length]; exact F.len _ _ _ _ h
  have e := I.env0
  refine codeAny_mono (F.run A X.stack s H ⟨us, []⟩ (us ++ ds) (vs ++ dvs) Q (XE σ) hr ⟨hA, e.mod, e.bs, e.bsz, e.funs, e.frf, e.hok, e.bare⟩ (hb s us I.kIn hl) r2 h) fun r s' hq => ?_
  cases r with
  | error e => exact hx pins H s e s' I hq
  | ok fl =>
    cases fl with
    | ret u => exact I.after hq
    | next => exact False.elim hq
    | brk => exact False.elim hq
    | cont => exact False.elim hq
theorem run_fnA {k : Nat} {fa : Addr} {fd : FuncData} {ps : List Str} {sp : Sp} {dvs : List V} {ds : List Value} {XE : L2.St → XK} {A : Around} {pins : List (Addr × Obj)} {σ : L2.St} {H : Hp} {s : Shared} {Q : VK} {us : List Value} {vs : List V} (hA : A.frames = some X.stack) (hr : Room k A)
    (F : FnOk X.prog X.w X.K X.mg X.base (L2.CX X.prog X.w) k fa fd ps sp) (hb : Binds X.K fd ps ds) (hd : Vals dvs ds) (hx : PassesAt (L2.CX X.prog X.w) X σ (XE σ))
    (I : Inv X pins σ H s) (r : Vals vs us) (h : sp (vs ++ dvs) H Q (XE σ)) : wpAny (model X.prog X.w) A (call (.ref fa) us) (EP X pins σ Q) X.xe s := wpAny_call (code_fnA hA hr F hb hd hx I r h)
theorem inst_at {pins : List (Addr × Obj)} {σ : L2.St} {H : Hp} {s : Shared} {a C dx : Addr} {fs : List (Str × V)} (I : Inv X pins σ H s) (h : H a = some (.ins C dx fs)) : ∃ od, PySem.W.InstAt s.heap a (PySem.W.instObj C dx) C (some od) := by
  obtain ⟨mA, O, _⟩ := ins_get I.hok h
  obtain ⟨od, J, _⟩ := O.look
  exact ⟨od, J⟩
/-- the answer of a method that answers a truth -/
def boolK (neg : Bool) (fr : Fr) : Out D → Out D
  | .ok (.bl b) _ st => .ok (.bl (if neg then !b else b)) fr st
  | .ok _ _ _ => .stuck
  | .exc x _ st => .exc x fr st
  | .stuck => .stuck
theorem boolK_post {g : Gh} {fr : Fr} {st : Store} {σ : L2.St} {H : Hp} {Q : VK} {neg : Bool} {o : Out D} (r : RelF E g fr st σ H) (p : Post E W g (foS E g st) H σ (RV E Q) (boolK neg fr o)) : PostC E g (foS E g st) H (fun v H' => ∃ b, v = .bl b ∧ Q (.bl (if neg then !b else b)) H') (WE W σ) o := by
  cases o with
  | ok d frd st' =>
    cases d with
    | bl b =>
      intro g' H' v e rg rv
      simp only [Rep] at rv
      exact ⟨b, rv, p g' H' e (r.after e.le rg) _ (by simp only [Rep])⟩
    | _ => exact p.elim
  | exc x frd st' => exact fun g' H' cls dx e rg q => p g' H' cls dx e (r.after e.le rg) q
  | stuck => exact p.elim
/-- y in x by x's own method, or else -/
def inM (neg : Bool) (tab : MTab) (f : D → D → M D) (x y : D) : M D := fun fr st => match insD st y with
  | some (C, _, _) => match tab.lookup C with
    | some (m, []) => boolK neg fr (m [y, x] st)
    | _ => .stuck
  | none => f x y fr st
theorem in_m {k : Nat} {tab : MTab} {f : D → D → M D} (hK : X.K = E.K) (ok : MthOk X.prog X.w X.K X.mg X.base E k "__contains__" tab) (hr : Room k X.A) (tk : Takes X W) (h : OpM X E W (compareOp .In) f) : OpM X E W (compareOp .In) (inM false tab f) := by
  intro pins s σ H g fr st x y v w u u' Q I rl rx ry r1 r2 p
  unfold inM at p
  cases e : insD st y with
  | none => rw [e] at p; exact h pins s σ H g fr st x y v w u u' Q I rl rx ry r1 r2 p
  | some q =>
    obtain ⟨C, ns, ds⟩ := q
    rw [e] at p
    dsimp only at p
    split at p
    · rename_i m e2
      obtain ⟨fa, fd, ps, dvs, dvl, c1, c2, c3, c4, c5, c6, c7⟩ := (ok C m [] e2).ex
      obtain ⟨a, dx, xs, rfl, hi, _, _⟩ := ins_s rl ry e
      obtain rfl : u' = Value.ref a := r2
      obtain ⟨od, J⟩ := inst_at I hi
      obtain ⟨mm, hF⟩ := I.fr
      refine PySem.W.in_K hF I.ok.mod.kin J c2.at_ c2.fn (thn (run_fnA (us := [.ref a, u]) (vs := [.ref a, v]) (XE := fun σ => WE W σ) I.ok.frames hr c4 c5 c6 (passAt tk σ) I (.cons rfl (.cons r1 .nil)) ⟨g, st, [y, x] ++ [], rl.toRelG, (Reps.cons ry (.cons rx .nil)).dflt c7, boolK_post rl p⟩) fun r s' hh => ?_)
      obtain ⟨z, H', I', rz, b, rfl, q⟩ := hh
      cases rz
      exact wpAny_truthy_bool ⟨.bl b, H', I', rfl, q⟩
    · exact p.elim
theorem nin_m {k : Nat} {tab : MTab} {f : D → D → M D} (hK : X.K = E.K) (ok : MthOk X.prog X.w X.K X.mg X.base E k "__contains__" tab) (hr : Room k X.A) (tk : Takes X W) (h : OpM X E W (compareOp .NotIn) f) : OpM X E W (compareOp .NotIn) (inM true tab f) := by
  intro pins s σ H g fr st x y v w u u' Q I rl rx ry r1 r2 p
  unfold inM at p
  cases e : insD st y with
  | none => rw [e] at p; exact h pins s σ H g fr st x y v w u u' Q I rl rx ry r1 r2 p
  | some q =>
    obtain ⟨C, ns, ds⟩ := q
    rw [e] at p
    dsimp only at p
    split at p
    · rename_i m e2
      obtain ⟨fa, fd, ps, dvs, dvl, c1, c2, c3, c4, c5, c6, c7⟩ := (ok C m [] e2).ex
      obtain ⟨a, dx, xs, rfl, hi, _, _⟩ := ins_s rl ry e
      obtain rfl : u' = Value.ref a := r2
      obtain ⟨od, J⟩ := inst_at I hi
      obtain ⟨mm, hF⟩ := I.fr
      refine PySem.W.notIn_K hF I.ok.mod.kin J c2.at_ c2.fn (thn (run_fnA (us := [.ref a, u]) (vs := [.ref a, v]) (XE := fun σ => WE W σ) I.ok.frames hr c4 c5 c6 (passAt tk σ) I (.cons rfl (.cons r1 .nil)) ⟨g, st, [y, x] ++ [], rl.toRelG, (Reps.cons ry (.cons rx .nil)).dflt c7, boolK_post rl p⟩) fun r s' hh => ?_)
      obtain ⟨z, H', I', rz, b, rfl, q⟩ := hh
      cases rz
      exact wpAny_truthy_bool ⟨.bl (!b), H', I', rfl, q⟩
    · exact p.elim
/-- what == of instances of these classes asks of the right side's class -/
def NfOk (E : SE) (nf : Str → Tg → Bool) : Prop := ∀ C t, nf C t = true → PySem.W.notFirst E.K (E.adr C) (t.val E) = true ∧ (∀ D, t = .own D → ClsI E.K (E.adr D)) ∧ ∀ D, t = .err D → ExcC E.K (E.adr D)
/-- x == y by x's own method, or else -/
def eqM (neg : Bool) (nf : Str → Tg → Bool) (tab : MTab) (f : D → D → M D) (x y : D) : M D := fun fr st => match insD st x with
  | some (C, _, _) => match tab.lookup C, tagD st y with
    | some (m, []), some t => if nf C t then boolK neg fr (m [x, y] st) else .stuck
    | _, _ => .stuck
  | none => f x y fr st
theorem looks_tag {pins : List (Addr × Obj)} {g : Gh} {fr : Fr} {st : Store} {σ : L2.St} {H : Hp} {s : Shared} {d : D} {v : V} {u : Value} {t : Tg} (hK : X.K = E.K) (I : Inv X pins σ H s) (rl : RelF E g fr st σ H) (rv : Rep E g d v) (r : RelV v u) (e : tagD st d = some t) (hc : ∀ C, t = .own C → ClsI E.K (E.adr C)) (he : ∀ C, t = .err C → ExcC E.K (E.adr C)) :
    PySem.W.Looks (model X.prog X.w) s.heap (typeOf u) (t.val E) := by
  obtain ⟨P, Z, p, _⟩ := tag_k rl rv e hc he X pins σ s u hK I r
  exact Z.ty _ _ I.kIn p
theorem eq_m {k : Nat} {nf : Str → Tg → Bool} {tab : MTab} {f : D → D → M D} {op : CmpOp} {nm : Str} (hop : (∀ v w : Value, compareOp op v w = richCompare op v w) ∧ (cmpInfo op).2.1 = nm) (hK : X.K = E.K) (hnf : NfOk E nf) (ok : MthOk X.prog X.w X.K X.mg X.base E k nm tab) (hr : Room k X.A) (tk : Takes X W) (h : OpM X E W (compareOp op) f) : OpM X E W (compareOp op) (eqM false nf tab f) := by
  intro pins s σ H g fr st x y v w u u' Q I rl rx ry r1 r2 p
  unfold eqM at p
  cases e : insD st x with
  | none => rw [e] at p; exact h pins s σ H g fr st x y v w u u' Q I rl rx ry r1 r2 p
  | some q =>
    obtain ⟨C, ns, ds⟩ := q
    rw [e] at p
    dsimp only at p
    split at p
    · rename_i m t e2 e3
      split at p
      · rename_i hn
        obtain ⟨n1, n2, n3⟩ := hnf C t hn
        obtain ⟨fa, fd, ps, dvs, dvl, c1, c2, c3, c4, c5, c6, c7⟩ := (ok C m [] e2).ex
        obtain ⟨a, dx, xs, rfl, hi, _, _⟩ := ins_s rl rx e
        obtain rfl : u = Value.ref a := r1
        obtain ⟨od, J⟩ := inst_at I hi
        obtain ⟨mm, hF⟩ := I.fr
        rw [hop.1]
        refine PySem.W.cmp_K hr.units0 hF I.ok.mod.kin J (looks_tag hK I rl ry r2 e3 n2 n3) (by rw [hK]; exact n1) (by rw [hop.2]; exact c2.at_) c2.fn (thn (run_fnA (us := [.ref a, u']) (vs := [.ref a, w]) (XE := fun σ => WE W σ) I.ok.frames hr c4 c5 c6 (passAt tk σ) I (.cons rfl (.cons r2 .nil)) ⟨g, st, [x, y] ++ [], rl.toRelG, (Reps.cons rx (.cons ry .nil)).dflt c7, boolK_post rl p⟩) fun r s' hh => ?_)
        obtain ⟨z, H', I', rz, b, rfl, q⟩ := hh
        cases rz
        exact ⟨.bl b, H', I', rfl, q⟩
      · exact p.elim
    · exact p.elim
/-- the classes that have no != of their own -/
def NeOk (E : SE) (tab : MTab) : Prop := ∀ C m, tab.lookup C = some m → PySem.W.findIn E.K (.ref (E.adr C)) "__ne__" = some (some (.builtin "object.__ne__")) ∧ PySem.W.mroIn E.K (E.adr C) (.type "object") = some true
theorem ne_m {k : Nat} {nf : Str → Tg → Bool} {tab : MTab} {f : D → D → M D} (hK : X.K = E.K) (hnf : NfOk E nf) (hne : NeOk E tab) (ok : MthOk X.prog X.w X.K X.mg X.base E k "__eq__" tab) (hr : Room (k + 1) X.A) (tk : Takes X W) (h : OpM X E W (compareOp .NotEq) f) : OpM X E W (compareOp .NotEq) (eqM true nf tab f) := by
  intro pins s σ H g fr st x y v w u u' Q I rl rx ry r1 r2 p
  unfold eqM at p
  cases e : insD st x with
  | none => rw [e] at p; exact h pins s σ H g fr st x y v w u u' Q I rl rx ry r1 r2 p
  | some q =>
    obtain ⟨C, ns, ds⟩ := q
    rw [e] at p
    dsimp only at p
    split at p
    · rename_i m t e2 e3
      split at p
      · rename_i hn
        obtain ⟨n1, n2, n3⟩ := hnf C t hn
        obtain ⟨ne1, ne2⟩ := hne C _ e2
        obtain ⟨fa, fd, ps, dvs, dvl, c1, c2, c3, c4, c5, c6, c7⟩ := (ok C m [] e2).ex
        obtain ⟨a, dx, xs, rfl, hi, _, _⟩ := ins_s rl rx e
        obtain rfl : u = Value.ref a := r1
        obtain ⟨od, J⟩ := inst_at I hi
        rw [← hK] at ne1 ne2 n1
        have hu : X.A.units + 1 < cLine := by have := hr.un; omega
        refine ne_K hu I.kIn J (looks_tag hK I rl ry r2 e3 n2 n3) n1 ne2 ne1 c2.at_ c2.fn (thn (run_fnA (A := X.A.in1) (us := [.ref a, u']) (vs := [.ref a, w]) (XE := fun σ => WE W σ) I.ok.frames hr.in1 c4 c5 c6 (passAt tk σ) I (.cons rfl (.cons r2 .nil)) ⟨g, st, [x, y] ++ [], rl.toRelG, (Reps.cons rx (.cons ry .nil)).dflt c7, boolK_post rl p⟩) fun r s' hh => ?_)
        obtain ⟨z, H', I', rz, b, rfl, q⟩ := hh
        cases rz
        exact ⟨b, rfl, .bl (!b), H', I', rfl, q⟩
      · exact p.elim
    · exact p.elim

/-! ### f(..) of an instance by its own __call__; f a local name -/
def mCallI (tab : MTab) (mo : M D) (ms : M (List D)) : M D := do
  let d ← mo
  let _ ← liftS (insD · d)
  let ds ← ms
  fun fr st => match insD st d with
    | some (C, _, _) => match tab.lookup C with
      | some (m, dds) => callK fr (m ((d :: ds) ++ dds) st)
      | none => .stuck
    | none => .stuck
theorem callI_of {M : Model} {A : Around} {EE : Value → Shared → Prop} {s : Shared} {pos : Pos} {x : Addr} {first : List Value} {Q : Value → Shared → Prop} {args : List (Bool × Sem Value)} {keywords : List (Option Str × Sem Value)} (hplain : (args.any (·.1) || keywords.any (·.1.isNone)) = false)
    (h : wpAny M A (evalArgs (.ref x) true args keywords) (fun a s₁ => (∃ ox C od, PySem.W.InstAt s₁.heap x ox C od ∧ ox.data = .plain) ∧ wpAny M A (call (.ref x) (first ++ a.pos) a.kw) Q EE s₁) EE s) : wpAny M A (callWith pos (.ref x) first args keywords) Q EE s := by
  unfold callWith
  refine wpAny_bind (wpAny_holding (wpAny_mono h (fun a s₁ h₁ => wpAny_bind (wpAny_standAt ?_)) fun _ _ y => y))
  obtain ⟨ox, C, od, J, hd⟩ := h₁.1
  have L := PySem.W.kco_keeper (M := M) J hd
  simp only [hplain]
  refine wpAny_bind (L.here ?_)
  have tail : ∀ {t : Sem Value}, wpAny M A t Q EE s₁ → wpAny M A (t >>= fun r => holding [r] point >>= fun _ => pure r) Q EE s₁ :=
    fun ht => wpAny_bind (wpAny_mono ht (fun r s₂ hr => wpAny_bind (wpAny_holding (wpAny_point (wpAny_pure hr)))) fun _ _ y => y)
  exact tail (wpAny_operateT h₁.2)
theorem s_callI {k : Nat} {tab : MTab} (hK : X.K = E.K) (ok : MthOk X.prog X.w X.K X.mg X.base E k "__call__" tab) (hr : Room k X.A) (tk : Takes X W) {x : Str} {p pos : Pos} {e : Expr} {es : List Expr} {mo : M D} {ms : M (List D)} (ho : PE X (.Name x p) (tI E W mo)) (ha : PA X (e :: es) (tIA E W ms))
    (he : starEach (e :: es) X.env = (false, eval e X.env) :: starEach es X.env := by rfl) (hpl : (backTo pos (starEach es X.env)).any (·.1) = false := by rfl) : PE X (.Call (.Name x p) (e :: es) [] pos) (tI E W (mCallI tab mo ms)) := by
  refine ⟨fun pins s σ H Q I h => ?_⟩
  obtain ⟨g, fr, st, rl, pp⟩ := h
  refine wpAny_Call_Name_kw (thn (ho.run pins s σ H _ I (tI_bind (Q := fun v H1 => ∃ a g1 fr1 st1 d, v = .ref a ∧ Rep E g1 d v ∧ Then E W g1 σ (RV E Q) (do
    let ds ← ms
    fun fr st => match insD st d with
      | some (C, _, _) => match tab.lookup C with
        | some (m, dds) => callK fr (m ((d :: ds) ++ dds) st)
        | none => .stuck
      | none => .stuck : M D) g1 fr1 st1 H1) rl pp fun g1 fr1 st1 H1 d v t rv => ?_)) fun u s1 hh => ?_)
  · have hp := t.post.bind
    unfold liftS at hp
    dsimp only at hp
    cases e1 : insD st1 d with
    | none => rw [e1] at hp; exact hp.elim
    | some q =>
      obtain ⟨C, ns, ds⟩ := q
      rw [e1] at hp
      have rv0 := rv
      obtain ⟨a, dx, xs, rfl, _⟩ := ins_s t.rel rv e1
      exact ⟨a, g1, fr1, st1, d, rfl, rv0, hp g1 H1 (.refl ..) t.rel⟩
  obtain ⟨v, H1, I1, rv1, a, g1, fr1, st1, d, rfl, rd, t⟩ := hh
  obtain rfl : u = Value.ref a := rv1
  rw [he]
  refine callI_of (by show ((false || (backTo pos (starEach es X.env)).any (·.1)) || false) = false; rw [hpl]; rfl) (PySem.Calls.evalArgs_plain ?_)
  have hrun := ha.run
  rw [he] at hrun
  refine thn (hrun pos pins s1 σ H1 _ I1 (tIA_bind (Q := fun vs H2 => ∃ C dx fs m dds g2 fr2 st2 ds2, H2 a = some (.ins (E.adr C) dx fs) ∧ tab.lookup C = some (m, dds) ∧ RelF E g2 fr2 st2 σ H2 ∧ Rep E g2 d (.ref a) ∧ Reps E g2 ds2 vs ∧ Post E W g2 (foS E g2 st2) H2 σ (RV E Q) (callK fr2 (m ((d :: ds2) ++ dds) st2))) t.rel t.post fun g2 fr2 st2 H2 ds2 vs2 t2 rs2 => ?_)) fun us s2 hh => ?_
  · have hp := t2.post
    have rd2 := rd.mono t2.le
    cases e1 : insD st2 d with
    | none => rw [e1] at hp; exact hp.elim
    | some q =>
      obtain ⟨C, ns, ds⟩ := q
      rw [e1] at hp
      dsimp only at hp
      cases e2 : tab.lookup C with
      | none => rw [e2] at hp; exact hp.elim
      | some z =>
        rw [e2] at hp
        obtain ⟨a', dx, xs, ea, hi, _, _⟩ := ins_s t2.rel rd2 e1
        cases ea
        exact ⟨C, dx, _, z.1, z.2, g2, fr2, st2, ds2, hi, e2, t2.rel, rd2, rs2, hp⟩
  · obtain ⟨vs, H2, I2, r2, C, dx, fs, m, dds, g2, fr2, st2, ds2, hi, e2, rl2, rd2, rs2, hp⟩ := hh
    obtain ⟨fa, fd, ps, dvs, dvl, c1, c2, c3, c4, c5, c6, c7⟩ := (ok C m dds e2).ex
    obtain ⟨od, J⟩ := inst_at I2 hi
    refine ⟨⟨_, _, _, J, rfl⟩, ?_⟩
    refine wpAny_call (PySem.W.kco_code I2.kIn J rfl c2.at_ c2.fn c3 ?_)
    exact code_fnA (us := .ref a :: us) (vs := .ref a :: vs) (XE := fun σ => WE W σ) (Q := Q) I2.ok.frames hr c4 c5 c6 (passAt tk σ) I2 (.cons rfl r2) ⟨g2, st2, _, rl2.toRelG, (Reps.cons rd2 rs2).dflt c7, callK_post rl2 hp⟩
end
end Mp
end
section
/-! Mp, part 13: a dict of mixed keys: finding, reading, writing a key. -/
namespace Mp
open PySem PySem.Spec PyProof.Rows PySem.SeqAt
/-- the entries' keys, as data -/
structure KeysN (w : World) (h : Heap) (es : Array DictEntry) (ks : List NestedKey) : Prop where
  len : ks.length = es.size
  is : ∀ (j : Nat) (e : DictEntry) (k : NestedKey), es[j]? = some e → ks[j]? = some k → NestedIs h k e.key ∧ k.depth ≤ 8 ∧ e.hash = k.hash w
  nd : ks.Nodup
section
variable {prog : Program} {w : World} {A : Around} {E : Value → Shared → Prop} {s : Shared}
theorem KeysN.at {h : Heap} {es : Array DictEntry} {ks : List NestedKey} (K : KeysN w h es ks) {j : Nat} (hj : j < es.size) : ∃ k, ks[j]? = some k ∧ NestedIs h k es[j].key ∧ k.depth ≤ 8 ∧ es[j].hash = k.hash w := by
  have hk : ks[j]? = some (ks[j]'(by rw [K.len]; exact hj)) := List.getElem?_eq_getElem _
  exact ⟨_, hk, K.is j es[j] _ (Array.getElem?_eq_getElem hj) hk⟩
theorem nodup_at {ks : List NestedKey} (nd : ks.Nodup) {i j : Nat} {k : NestedKey} (h1 : ks[i]? = some k) (h2 : ks[j]? = some k) : i = j := by
  obtain ⟨a1, e1⟩ := List.getElem?_eq_some_iff.mp h1
  obtain ⟨a2, e2⟩ := List.getElem?_eq_some_iff.mp h2
  exact (List.getElem_inj nd).mp (e1.trans e2.symm)
theorem tableTell_n {u : Value} {stored : List Value} {Q : Bool → Shared → Prop} (hq : ∀ v ∈ u :: stored, QuietAt prog w 8 s v) (h : Q false s) : wpAny (model prog w) A (tableMayTell u stored) Q E s := by
  unfold tableMayTell
  split
  · exact wpAny_pure h
  · refine wpAny_bind (hq u List.mem_cons_self _ _ _ ?_)
    simp only [Bool.not_true, Bool.false_eq_true, if_false]
    refine wpAny_bind ?_
    refine wpAny_forIn_list _ (fun rest r s' => s' = s ∧ r = (none, ()) ∧ ∀ v ∈ rest, QuietAt prog w 8 s v) _ ?_ ?_ _ _ ⟨rfl, rfl, fun v hv => hq v (List.mem_cons_of_mem _ hv)⟩
    · rintro x rest r s' ⟨rfl, rfl, hr⟩
      refine wpAny_bind (hr x List.mem_cons_self _ _ _ ?_)
      simp only [Bool.not_true, Bool.false_eq_true, if_false]
      exact wpAny_pure ⟨rfl, rfl, fun v hv => hr v (List.mem_cons_of_mem _ hv)⟩
    · rintro r s' ⟨rfl, rfl, _⟩
      exact wpAny_pure h
theorem eqb_n {x y : NestedKey} {a b : Value} {Q : Bool → Shared → Prop} (hu : A.units + 8 < cLine) (hx : NestedIs s.heap x a) (hy : NestedIs s.heap y b) (dx : x.depth ≤ 8) (h : Q (decide (x = y)) s) : wpAny (model prog w) A (eqBool a b) Q E s :=
  eqAt_key x y A s _ _ hx hy (by omega) _ _ _ _ (by rw [← NestedKey.decide_eq]; exact h)
theorem find_n {d : Addr} {o : Obj} {es ep} {ks : List NestedKey} {k : NestedKey} {u : Value} {Q : Option Nat → Shared → Prop} (hu : A.units + 8 < cLine) (hkey : NestedIs s.heap k u) (hd8 : k.depth ≤ 8)
    (ho : s.heap.get? d = some o) (hd : o.data = .dict es ep) (K : KeysN w s.heap es ks) (hnone : k ∉ ks → Q none s) (hsome : ∀ j, ks[j]? = some k → Q (some j) s) :
    wpAny (model prog w) A (dictFind d u (k.hash w)) Q E s := by
  have hsz := K.len
  have nokey : ∀ j, j < es.size → ((es[j]?.map (·.hash)) == some (k.hash w)) = false → ks[j]? ≠ some k := by
    intro j hj hp e
    obtain ⟨k', e1, _, _, e2⟩ := K.at hj
    rw [e1] at e
    cases e
    rw [Array.getElem?_eq_getElem hj, Option.map_some, e2] at hp
    simp at hp
  have notin : (∀ j, j < es.size → ks[j]? ≠ some k) → k ∉ ks := fun h hm => by
    obtain ⟨j, hj, e⟩ := List.mem_iff_getElem.mp hm
    exact h j (by omega) (by rw [List.getElem?_eq_getElem hj, e])
  have old : wpAny (model prog w) A (dictWalkPlain d u (k.hash w) es (placesWithHash es.size (fun i => es[i]?.map (·.hash)) (k.hash w))) Q E s := by
    refine wpAny_bind ?_
    refine wpAny_forIn_list _
      (fun rest b s' => s' = s ∧ b = (none, ()) ∧ ∃ i, rest = (List.range' i (es.size - i)).filter (fun i => (es[i]?.map (·.hash)) == some (k.hash w)) ∧ i ≤ es.size ∧
        ∀ j, j < i → ks[j]? ≠ some k) _ ?_ ?_ _ _
      ⟨rfl, rfl, 0, by rw [placesWithHash, List.range_eq_range', Nat.sub_zero], Nat.zero_le _, fun _ h => absurd h (Nat.not_lt_zero _)⟩
    · rintro x rest b s' ⟨rfl, rfl, i, hr, hi, hno⟩
      obtain ⟨hix, hxn, hpx, hskip, hrest⟩ := filter_range'_cons _ _ _ _ _ hr.symm
      have hlt : x < es.size := by omega
      obtain ⟨k', hk', his, hdp, hhash⟩ := K.at hlt
      have hnext : ¬ k' = k → ∃ i, rest = (List.range' i (es.size - i)).filter (fun i => (es[i]?.map (·.hash)) == some (k.hash w)) ∧ i ≤ es.size ∧
          ∀ j, j < i → ks[j]? ≠ some k := fun hne =>
        ⟨x + 1, by rw [hrest]; congr 2; omega, hlt, fun j hji => by
          rcases Nat.lt_or_ge j i with h | h
          · exact hno j h
          · rcases Nat.lt_or_ge j x with h' | h'
            · exact nokey j (by omega) (hskip j h h')
            · have : j = x := by omega
              subst this
              rw [hk']
              exact fun e => hne (Option.some.inj e)⟩
      simp only [Array.getElem?_eq_getElem hlt]
      by_cases hh : (es[x].hash == k.hash w) = true
      · rw [if_pos hh]
        refine wpAny_bind (wpAny_dictEpoch ho hd (wpAny_bind (eqb_n hu his hkey hdp (wpAny_bind (wpAny_dictEpoch ho hd ?_)))))
        show wpAny _ _ (if (ep != ep) = true then _ else _) _ E _
        rw [if_neg (by simp)]
        by_cases hkk : k' = k
        · rw [decide_eq_true hkk]
          exact wpAny_bind (wpAny_rule (wpAny_pure (wpAny_pure (hsome x (hkk ▸ hk')))))
        · rw [decide_eq_false hkk]
          exact wpAny_bind (wpAny_rule (wpAny_pure ⟨rfl, rfl, hnext hkk⟩))
      · rw [if_neg hh]
        refine wpAny_pure ⟨rfl, rfl, hnext ?_⟩
        intro hkk
        rw [hhash, hkk] at hh; simp at hh
    · rintro b s' ⟨rfl, rfl, i, hr, hi, hno⟩
      refine wpAny_pure (hnone (notin fun j hj => ?_))
      rcases Nat.lt_or_ge j i with h | h
      · exact hno j h
      · refine nokey j hj ?_
        have := List.filter_eq_nil_iff.mp hr.symm j (List.mem_range'_1.mpr ⟨h, by omega⟩)
        simpa using this
  have hmem : ∀ v ∈ (placesWithHash es.size (fun i => es[i]?.map (·.hash)) (k.hash w)).filterMap (fun i => es[i]?.map (·.key)), ∃ k', NestedIs s.heap k' v ∧ k'.depth ≤ 8 := by
    intro v hv
    obtain ⟨i, _, hi⟩ := List.mem_filterMap.mp hv
    cases hei : es[i]? with
    | none => rw [hei] at hi; cases hi
    | some e =>
      rw [hei] at hi
      obtain rfl : e.key = v := by simpa using hi
      obtain ⟨hlt, rfl⟩ := Array.getElem?_eq_some_iff.mp hei
      obtain ⟨k', _, his, hdp, _⟩ := K.at hlt
      exact ⟨k', his, hdp⟩
  have hquiet : ∀ v ∈ u :: (placesWithHash es.size (fun i => es[i]?.map (·.hash)) (k.hash w)).filterMap (fun i => es[i]?.map (·.key)), QuietAt prog w 8 s v := by
    intro v hv
    rcases List.mem_cons.mp hv with rfl | hv
    · exact quiet_key k _ 8 s hkey hd8
    · obtain ⟨k', h1, h2⟩ := hmem v hv
      exact quiet_key k' _ 8 s h1 h2
  have hany : ¬ (es.any fun e => e.key == u && e.hash != k.hash w) = true := by
    rw [← Array.any_toList, List.any_eq_true]
    rintro ⟨e, hin, hc⟩
    obtain ⟨j, hj, rfl⟩ := Array.mem_iff_getElem.mp (Array.mem_toList_iff.mp hin)
    obtain ⟨k', _, his, _, hh⟩ := K.at hj
    simp only [Bool.and_eq_true, beq_iff_eq, bne_iff_ne, ne_eq] at hc
    rw [hc.1] at his
    exact hc.2 (by rw [hh, NestedIs.inj _ _ _ his hkey])
  have haskey : ∀ (j : Nat), ks[j]? = some k → j < es.size → ((es[j]?.map (·.hash)) == some (k.hash w)) = true := by
    intro j hj hlt
    obtain ⟨k', e1, _, _, e2⟩ := K.at hlt
    rw [e1] at hj
    cases hj
    rw [Array.getElem?_eq_getElem hlt, Option.map_some, e2]
    simp
  have klt : ∀ j, ks[j]? = some k → j < es.size := fun j hj => by
    have := (List.getElem?_eq_some_iff.mp hj).1
    omega
  unfold dictFind
  try with_reducible refine wpAny_holding ?_
  refine wpAny_bind (wpAny_dictEntries ho hd ?_)
  have hkey0 := hkey
  cases hkey with
  | text x t =>
    dsimp only
    by_cases hstrs : (es.all fun e => isExactStrKey e.key) = true
    · rw [if_pos hstrs]
      unfold foundByValue
      cases hf : es.findIdx? (fun e => e.key.isStr x) with
      | none =>
        refine wpAny_pure (hnone (notin fun j hj e => ?_))
        obtain ⟨k', e1, his, _, _⟩ := K.at hj
        rw [e1] at e
        cases e
        have z := Array.findIdx?_eq_none_iff.mp hf es[j] (Array.getElem_mem hj)
        generalize es[j].key = kk at his z
        cases his
        simp [Value.isStr] at z
      | some i =>
        obtain ⟨hlt, hi, _⟩ := Array.findIdx?_eq_some_iff_getElem.mp hf
        obtain ⟨k', e1, his, hdp, _⟩ := K.at hlt
        have hkk : k' = .text x := by
          generalize es[i].key = kk at his hi
          cases kk <;> simp [Value.isStr] at hi
          subst hi
          cases his
          rfl
        simp only [Array.getElem?_eq_getElem hlt]
        refine wpAny_bind (wpAny_dictEpoch ho hd (wpAny_bind (eqb_n hu his (.text x t) hdp (wpAny_bind (wpAny_dictEpoch ho hd ?_)))))
        show wpAny _ _ (if (ep != ep) = true then _ else _) _ E _
        rw [if_neg (by simp), decide_eq_true hkk]
        exact wpAny_bind (wpAny_rule (wpAny_pure (hsome i (hkk ▸ e1))))
    · rw [if_neg hstrs]
      by_cases hall : ((Value.str x t) :: (placesWithHash es.size (fun i => es[i]?.map (·.hash)) (NestedKey.hash w (NestedKey.text x))).filterMap fun i => es[i]?.map (·.key)).all carriedByValue = true
      · rw [if_pos hall]
        exact old
      · rw [if_neg hall]
        try dsimp only
        try rw [if_neg hany]
        by_cases hone : (((placesWithHash es.size (fun i => es[i]?.map (·.hash)) (NestedKey.hash w (NestedKey.text x))).filterMap (fun i => es[i]?.map (·.key))) == [(Value.str x t)]) = true <;>
        (first | rw [if_pos hone] | rw [if_neg hone]) <;> (first | refine wpAny_bind (wpAny_pure ?_) | refine wpAny_bind (tableTell_n hquiet ?_)) <;> (
          rw [if_neg (by simp)]
          refine wpAny_bind ?_
          refine wpAny_forIn_list _
            (fun rest b s' => s' = s ∧ ∃ i hit, b = (none, hit) ∧ rest = (List.range' i (es.size - i)).filter (fun i => (es[i]?.map (·.hash)) == some (NestedKey.hash w (NestedKey.text x))) ∧ i ≤ es.size ∧
              ((hit = none ∧ ∀ j, j < i → ks[j]? ≠ some (NestedKey.text x)) ∨ ∃ j, hit = some j ∧ j < i ∧ ks[j]? = some (NestedKey.text x))) _ ?_ ?_ _ _
            ⟨rfl, 0, none, rfl, by rw [placesWithHash, List.range_eq_range', Nat.sub_zero], Nat.zero_le _, .inl ⟨rfl, fun _ h => absurd h (Nat.not_lt_zero _)⟩⟩
          · rintro x0 rest b s' ⟨rfl, i, hit, rfl, hr, hi, hH⟩
            obtain ⟨hix, hxn, hpx, hskip, hrest⟩ := filter_range'_cons _ _ _ _ _ hr.symm
            have hlt : x0 < es.size := by omega
            have hrest' : rest = (List.range' (x0 + 1) (es.size - (x0 + 1))).filter (fun i => (es[i]?.map (·.hash)) == some (NestedKey.hash w (NestedKey.text x))) := by rw [hrest]; congr 2; omega
            obtain ⟨k', hk', his, hdp, hhash⟩ := K.at hlt
            have hHx : (hit = none ∧ ∀ j, j < x0 → ks[j]? ≠ some (NestedKey.text x)) ∨ ∃ j, hit = some j ∧ j < x0 ∧ ks[j]? = some (NestedKey.text x) := by
              rcases hH with ⟨h0, hno⟩ | ⟨j, h1, hji, hj⟩
              · refine .inl ⟨h0, fun j hjx hj => ?_⟩
                rcases Nat.lt_or_ge j i with h | h
                · exact hno j h hj
                · have := hskip j h hjx
                  rw [haskey j hj (klt j hj)] at this
                  exact absurd this (by decide)
              · exact .inr ⟨j, h1, by omega, hj⟩
            have hstay : ¬ k' = (NestedKey.text x) → ((hit = none ∧ ∀ j, j < x0 + 1 → ks[j]? ≠ some (NestedKey.text x)) ∨ ∃ j, hit = some j ∧ j < x0 + 1 ∧ ks[j]? = some (NestedKey.text x)) := by
              intro hne
              rcases hHx with ⟨h0, hno⟩ | ⟨j, h1, hjx, hj⟩
              · refine .inl ⟨h0, fun j hjx hj => ?_⟩
                rcases Nat.lt_or_ge j x0 with h | h
                · exact hno j h hj
                · have hjx' : j = x0 := by omega
                  subst hjx'
                  rw [hk'] at hj
                  exact hne (Option.some.inj hj)
              · exact .inr ⟨j, h1, by omega, hj⟩
            rw [Array.getElem?_eq_getElem hlt]
            dsimp only
            by_cases hh : (es[x0].hash == NestedKey.hash w (NestedKey.text x)) = true
            · rw [if_pos hh]
              refine wpAny_bind (wpAny_dictEpoch ho hd (wpAny_bind (eqb_n hu his hkey0 hdp (wpAny_bind (wpAny_dictEpoch ho hd ?_)))))
              show wpAny _ _ (if (ep != ep) = true then _ else _) _ E _
              rw [if_neg (by simp)]
              by_cases hkk : k' = (NestedKey.text x)
              · rw [decide_eq_true hkk]
                rw [hkk] at hk'
                rcases hHx with ⟨rfl, _⟩ | ⟨j, _, hjx, hj⟩
                · first | rw [if_pos rfl] | skip
                  simp only [Option.isSome_none, Bool.false_eq_true, if_false]
                  first | refine wpAny_bind (wpAny_pure ?_) | skip
                  refine wpAny_bind (wpAny_rule ?_)
                  split
                  · exact wpAny_pure (wpAny_pure (hsome x0 hk'))
                  · exact wpAny_pure ⟨rfl, x0 + 1, some x0, rfl, hrest', hlt, .inr ⟨x0, rfl, Nat.lt_succ_self x0, hk'⟩⟩
                · exact absurd (nodup_at K.nd hj hk') (by omega)
              · rw [decide_eq_false hkk]
                simp only [Bool.false_eq_true, if_false]
                refine wpAny_bind (wpAny_rule ?_)
                first | rw [if_neg (by simp)] | skip
                first
                  | exact wpAny_pure ⟨rfl, x0 + 1, hit, rfl, hrest', hlt, hstay hkk⟩
                  | exact wpAny_bind (wpAny_pure (wpAny_pure ⟨rfl, x0 + 1, hit, rfl, hrest', hlt, hstay hkk⟩))
            · rw [if_neg hh]
              refine wpAny_pure ⟨rfl, x0 + 1, hit, rfl, hrest', hlt, hstay ?_⟩
              intro hkk
              rw [hhash, hkk] at hh; simp at hh
          · rintro b s' ⟨rfl, i, hit, rfl, hr, hi, hH⟩
            have hall : ∀ j, i ≤ j → j < es.size → ((es[j]?.map (·.hash)) == some (NestedKey.hash w (NestedKey.text x))) = false := by
              intro j h1 h2
              have := List.filter_eq_nil_iff.mp hr.symm j (List.mem_range'_1.mpr ⟨h1, by omega⟩)
              simpa using this
            rcases hH with ⟨rfl, hno⟩ | ⟨j, rfl, _, hj⟩
            · refine wpAny_pure (hnone (notin fun j hjl hj => ?_))
              rcases Nat.lt_or_ge j i with h | h
              · exact hno j h hj
              · have := hall j h hjl
                rw [haskey j hj hjl] at this
                exact absurd this (by decide)
            · exact wpAny_pure (hsome j hj))
  | none =>
    dsimp only
    by_cases hall : (Value.none :: (placesWithHash es.size (fun i => es[i]?.map (·.hash)) (NestedKey.hash w NestedKey.none)).filterMap fun i => es[i]?.map (·.key)).all carriedByValue = true
    · rw [if_pos hall]
      exact old
    · rw [if_neg hall]
      try dsimp only
      try rw [if_neg hany]
      by_cases hone : (((placesWithHash es.size (fun i => es[i]?.map (·.hash)) (NestedKey.hash w NestedKey.none)).filterMap (fun i => es[i]?.map (·.key))) == [Value.none]) = true <;>
      (first | rw [if_pos hone] | rw [if_neg hone]) <;> (first | refine wpAny_bind (wpAny_pure ?_) | refine wpAny_bind (tableTell_n hquiet ?_)) <;> (
        rw [if_neg (by simp)]
        refine wpAny_bind ?_
        refine wpAny_forIn_list _
          (fun rest b s' => s' = s ∧ ∃ i hit, b = (none, hit) ∧ rest = (List.range' i (es.size - i)).filter (fun i => (es[i]?.map (·.hash)) == some (NestedKey.hash w NestedKey.none)) ∧ i ≤ es.size ∧
            ((hit = none ∧ ∀ j, j < i → ks[j]? ≠ some NestedKey.none) ∨ ∃ j, hit = some j ∧ j < i ∧ ks[j]? = some NestedKey.none)) _ ?_ ?_ _ _
          ⟨rfl, 0, none, rfl, by rw [placesWithHash, List.range_eq_range', Nat.sub_zero], Nat.zero_le _, .inl ⟨rfl, fun _ h => absurd h (Nat.not_lt_zero _)⟩⟩
        · rintro x0 rest b s' ⟨rfl, i, hit, rfl, hr, hi, hH⟩
          obtain ⟨hix, hxn, hpx, hskip, hrest⟩ := filter_range'_cons _ _ _ _ _ hr.symm
          have hlt : x0 < es.size := by omega
          have hrest' : rest = (List.range' (x0 + 1) (es.size - (x0 + 1))).filter (fun i => (es[i]?.map (·.hash)) == some (NestedKey.hash w NestedKey.none)) := by rw [hrest]; congr 2; omega
          obtain ⟨k', hk', his, hdp, hhash⟩ := K.at hlt
          have hHx : (hit = none ∧ ∀ j, j < x0 → ks[j]? ≠ some NestedKey.none) ∨ ∃ j, hit = some j ∧ j < x0 ∧ ks[j]? = some NestedKey.none := by
            rcases hH with ⟨h0, hno⟩ | ⟨j, h1, hji, hj⟩
            · refine .inl ⟨h0, fun j hjx hj => ?_⟩
              rcases Nat.lt_or_ge j i with h | h
              · exact hno j h hj
              · have := hskip j h hjx
                rw [haskey j hj (klt j hj)] at this
                exact absurd this (by decide)
            · exact .inr ⟨j, h1, by omega, hj⟩
          have hstay : ¬ k' = NestedKey.none → ((hit = none ∧ ∀ j, j < x0 + 1 → ks[j]? ≠ some NestedKey.none) ∨ ∃ j, hit = some j ∧ j < x0 + 1 ∧ ks[j]? = some NestedKey.none) := by
            intro hne
            rcases hHx with ⟨h0, hno⟩ | ⟨j, h1, hjx, hj⟩
            · refine .inl ⟨h0, fun j hjx hj => ?_⟩
              rcases Nat.lt_or_ge j x0 with h | h
              · exact hno j h hj
              · have hjx' : j = x0 := by omega
                subst hjx'
                rw [hk'] at hj
                exact hne (Option.some.inj hj)
            · exact .inr ⟨j, h1, by omega, hj⟩
          rw [Array.getElem?_eq_getElem hlt]
          dsimp only
          by_cases hh : (es[x0].hash == NestedKey.hash w NestedKey.none) = true
          · rw [if_pos hh]
            refine wpAny_bind (wpAny_dictEpoch ho hd (wpAny_bind (eqb_n hu his hkey0 hdp (wpAny_bind (wpAny_dictEpoch ho hd ?_)))))
            show wpAny _ _ (if (ep != ep) = true then _ else _) _ E _
            rw [if_neg (by simp)]
            by_cases hkk : k' = NestedKey.none
            · rw [decide_eq_true hkk]
              rw [hkk] at hk'
              rcases hHx with ⟨rfl, _⟩ | ⟨j, _, hjx, hj⟩
              · first | rw [if_pos rfl] | skip
                simp only [Option.isSome_none, Bool.false_eq_true, if_false]
                first | refine wpAny_bind (wpAny_pure ?_) | skip
                refine wpAny_bind (wpAny_rule ?_)
                split
                · exact wpAny_pure (wpAny_pure (hsome x0 hk'))
                · exact wpAny_pure ⟨rfl, x0 + 1, some x0, rfl, hrest', hlt, .inr ⟨x0, rfl, Nat.lt_succ_self x0, hk'⟩⟩
              · exact absurd (nodup_at K.nd hj hk') (by omega)
            · rw [decide_eq_false hkk]
              simp only [Bool.false_eq_true, if_false]
              refine wpAny_bind (wpAny_rule ?_)
              first | rw [if_neg (by simp)] | skip
              first
                | exact wpAny_pure ⟨rfl, x0 + 1, hit, rfl, hrest', hlt, hstay hkk⟩
                | exact wpAny_bind (wpAny_pure (wpAny_pure ⟨rfl, x0 + 1, hit, rfl, hrest', hlt, hstay hkk⟩))
          · rw [if_neg hh]
            refine wpAny_pure ⟨rfl, x0 + 1, hit, rfl, hrest', hlt, hstay ?_⟩
            intro hkk
            rw [hhash, hkk] at hh; simp at hh
        · rintro b s' ⟨rfl, i, hit, rfl, hr, hi, hH⟩
          have hall : ∀ j, i ≤ j → j < es.size → ((es[j]?.map (·.hash)) == some (NestedKey.hash w NestedKey.none)) = false := by
            intro j h1 h2
            have := List.filter_eq_nil_iff.mp hr.symm j (List.mem_range'_1.mpr ⟨h1, by omega⟩)
            simpa using this
          rcases hH with ⟨rfl, hno⟩ | ⟨j, rfl, _, hj⟩
          · refine wpAny_pure (hnone (notin fun j hjl hj => ?_))
            rcases Nat.lt_or_ge j i with h | h
            · exact hno j h hj
            · have := hall j h hjl
              rw [haskey j hj hjl] at this
              exact absurd this (by decide)
          · exact wpAny_pure (hsome j hj))
  | @bool bb ii hb =>
    dsimp only
    by_cases hall : ((Value.bool bb) :: (placesWithHash es.size (fun i => es[i]?.map (·.hash)) (NestedKey.hash w (NestedKey.num ii))).filterMap fun i => es[i]?.map (·.key)).all carriedByValue = true
    · rw [if_pos hall]
      exact old
    · rw [if_neg hall]
      try dsimp only
      try rw [if_neg hany]
      by_cases hone : (((placesWithHash es.size (fun i => es[i]?.map (·.hash)) (NestedKey.hash w (NestedKey.num ii))).filterMap (fun i => es[i]?.map (·.key))) == [(Value.bool bb)]) = true <;>
      (first | rw [if_pos hone] | rw [if_neg hone]) <;> (first | refine wpAny_bind (wpAny_pure ?_) | refine wpAny_bind (tableTell_n hquiet ?_)) <;> (
        rw [if_neg (by simp)]
        refine wpAny_bind ?_
        refine wpAny_forIn_list _
          (fun rest b s' => s' = s ∧ ∃ i hit, b = (none, hit) ∧ rest = (List.range' i (es.size - i)).filter (fun i => (es[i]?.map (·.hash)) == some (NestedKey.hash w (NestedKey.num ii))) ∧ i ≤ es.size ∧
            ((hit = none ∧ ∀ j, j < i → ks[j]? ≠ some (NestedKey.num ii)) ∨ ∃ j, hit = some j ∧ j < i ∧ ks[j]? = some (NestedKey.num ii))) _ ?_ ?_ _ _
          ⟨rfl, 0, none, rfl, by rw [placesWithHash, List.range_eq_range', Nat.sub_zero], Nat.zero_le _, .inl ⟨rfl, fun _ h => absurd h (Nat.not_lt_zero _)⟩⟩
        · rintro x0 rest b s' ⟨rfl, i, hit, rfl, hr, hi, hH⟩
          obtain ⟨hix, hxn, hpx, hskip, hrest⟩ := filter_range'_cons _ _ _ _ _ hr.symm
          have hlt : x0 < es.size := by omega
          have hrest' : rest = (List.range' (x0 + 1) (es.size - (x0 + 1))).filter (fun i => (es[i]?.map (·.hash)) == some (NestedKey.hash w (NestedKey.num ii))) := by rw [hrest]; congr 2; omega
          obtain ⟨k', hk', his, hdp, hhash⟩ := K.at hlt
          have hHx : (hit = none ∧ ∀ j, j < x0 → ks[j]? ≠ some (NestedKey.num ii)) ∨ ∃ j, hit = some j ∧ j < x0 ∧ ks[j]? = some (NestedKey.num ii) := by
            rcases hH with ⟨h0, hno⟩ | ⟨j, h1, hji, hj⟩
            · refine .inl ⟨h0, fun j hjx hj => ?_⟩
              rcases Nat.lt_or_ge j i with h | h
              · exact hno j h hj
              · have := hskip j h hjx
                rw [haskey j hj (klt j hj)] at this
                exact absurd this (by decide)
            · exact .inr ⟨j, h1, by omega, hj⟩
          have hstay : ¬ k' = (NestedKey.num ii) → ((hit = none ∧ ∀ j, j < x0 + 1 → ks[j]? ≠ some (NestedKey.num ii)) ∨ ∃ j, hit = some j ∧ j < x0 + 1 ∧ ks[j]? = some (NestedKey.num ii)) := by
            intro hne
            rcases hHx with ⟨h0, hno⟩ | ⟨j, h1, hjx, hj⟩
            · refine .inl ⟨h0, fun j hjx hj => ?_⟩
              rcases Nat.lt_or_ge j x0 with h | h
              · exact hno j h hj
              · have hjx' : j = x0 := by omega
                subst hjx'
                rw [hk'] at hj
                exact hne (Option.some.inj hj)
            · exact .inr ⟨j, h1, by omega, hj⟩
          rw [Array.getElem?_eq_getElem hlt]
          dsimp only
          by_cases hh : (es[x0].hash == NestedKey.hash w (NestedKey.num ii)) = true
          · rw [if_pos hh]
            refine wpAny_bind (wpAny_dictEpoch ho hd (wpAny_bind (eqb_n hu his hkey0 hdp (wpAny_bind (wpAny_dictEpoch ho hd ?_)))))
            show wpAny _ _ (if (ep != ep) = true then _ else _) _ E _
            rw [if_neg (by simp)]
            by_cases hkk : k' = (NestedKey.num ii)
            · rw [decide_eq_true hkk]
              rw [hkk] at hk'
              rcases hHx with ⟨rfl, _⟩ | ⟨j, _, hjx, hj⟩
              · first | rw [if_pos rfl] | skip
                simp only [Option.isSome_none, Bool.false_eq_true, if_false]
                first | refine wpAny_bind (wpAny_pure ?_) | skip
                refine wpAny_bind (wpAny_rule ?_)
                split
                · exact wpAny_pure (wpAny_pure (hsome x0 hk'))
                · exact wpAny_pure ⟨rfl, x0 + 1, some x0, rfl, hrest', hlt, .inr ⟨x0, rfl, Nat.lt_succ_self x0, hk'⟩⟩
              · exact absurd (nodup_at K.nd hj hk') (by omega)
            · rw [decide_eq_false hkk]
              simp only [Bool.false_eq_true, if_false]
              refine wpAny_bind (wpAny_rule ?_)
              first | rw [if_neg (by simp)] | skip
              first
                | exact wpAny_pure ⟨rfl, x0 + 1, hit, rfl, hrest', hlt, hstay hkk⟩
                | exact wpAny_bind (wpAny_pure (wpAny_pure ⟨rfl, x0 + 1, hit, rfl, hrest', hlt, hstay hkk⟩))
          · rw [if_neg hh]
            refine wpAny_pure ⟨rfl, x0 + 1, hit, rfl, hrest', hlt, hstay ?_⟩
            intro hkk
            rw [hhash, hkk] at hh; simp at hh
        · rintro b s' ⟨rfl, i, hit, rfl, hr, hi, hH⟩
          have hall : ∀ j, i ≤ j → j < es.size → ((es[j]?.map (·.hash)) == some (NestedKey.hash w (NestedKey.num ii))) = false := by
            intro j h1 h2
            have := List.filter_eq_nil_iff.mp hr.symm j (List.mem_range'_1.mpr ⟨h1, by omega⟩)
            simpa using this
          rcases hH with ⟨rfl, hno⟩ | ⟨j, rfl, _, hj⟩
          · refine wpAny_pure (hnone (notin fun j hjl hj => ?_))
            rcases Nat.lt_or_ge j i with h | h
            · exact hno j h hj
            · have := hall j h hjl
              rw [haskey j hj hjl] at this
              exact absurd this (by decide)
          · exact wpAny_pure (hsome j hj))
  | int i0 t =>
    dsimp only
    by_cases hall : ((Value.int i0 t) :: (placesWithHash es.size (fun i => es[i]?.map (·.hash)) (NestedKey.hash w (NestedKey.num i0))).filterMap fun i => es[i]?.map (·.key)).all carriedByValue = true
    · rw [if_pos hall]
      exact old
    · rw [if_neg hall]
      try dsimp only
      try rw [if_neg hany]
      by_cases hone : (((placesWithHash es.size (fun i => es[i]?.map (·.hash)) (NestedKey.hash w (NestedKey.num i0))).filterMap (fun i => es[i]?.map (·.key))) == [(Value.int i0 t)]) = true <;>
      (first | rw [if_pos hone] | rw [if_neg hone]) <;> (first | refine wpAny_bind (wpAny_pure ?_) | refine wpAny_bind (tableTell_n hquiet ?_)) <;> (
        rw [if_neg (by simp)]
        refine wpAny_bind ?_
        refine wpAny_forIn_list _
          (fun rest b s' => s' = s ∧ ∃ i hit, b = (none, hit) ∧ rest = (List.range' i (es.size - i)).filter (fun i => (es[i]?.map (·.hash)) == some (NestedKey.hash w (NestedKey.num i0))) ∧ i ≤ es.size ∧
            ((hit = none ∧ ∀ j, j < i → ks[j]? ≠ some (NestedKey.num i0)) ∨ ∃ j, hit = some j ∧ j < i ∧ ks[j]? = some (NestedKey.num i0))) _ ?_ ?_ _ _
          ⟨rfl, 0, none, rfl, by rw [placesWithHash, List.range_eq_range', Nat.sub_zero], Nat.zero_le _, .inl ⟨rfl, fun _ h => absurd h (Nat.not_lt_zero _)⟩⟩
        · rintro x0 rest b s' ⟨rfl, i, hit, rfl, hr, hi, hH⟩
          obtain ⟨hix, hxn, hpx, hskip, hrest⟩ := filter_range'_cons _ _ _ _ _ hr.symm
          have hlt : x0 < es.size := by omega
          have hrest' : rest = (List.range' (x0 + 1) (es.size - (x0 + 1))).filter (fun i => (es[i]?.map (·.hash)) == some (NestedKey.hash w (NestedKey.num i0))) := by rw [hrest]; congr 2; omega
          obtain ⟨k', hk', his, hdp, hhash⟩ := K.at hlt
          have hHx : (hit = none ∧ ∀ j, j < x0 → ks[j]? ≠ some (NestedKey.num i0)) ∨ ∃ j, hit = some j ∧ j < x0 ∧ ks[j]? = some (NestedKey.num i0) := by
            rcases hH with ⟨h0, hno⟩ | ⟨j, h1, hji, hj⟩
            · refine .inl ⟨h0, fun j hjx hj => ?_⟩
              rcases Nat.lt_or_ge j i with h | h
              · exact hno j h hj
              · have := hskip j h hjx
                rw [haskey j hj (klt j hj)] at this
                exact absurd this (by decide)
            · exact .inr ⟨j, h1, by omega, hj⟩
          have hstay : ¬ k' = (NestedKey.num i0) → ((hit = none ∧ ∀ j, j < x0 + 1 → ks[j]? ≠ some (NestedKey.num i0)) ∨ ∃ j, hit = some j ∧ j < x0 + 1 ∧ ks[j]? = some (NestedKey.num i0)) := by
            intro hne
            rcases hHx with ⟨h0, hno⟩ | ⟨j, h1, hjx, hj⟩
            · refine .inl ⟨h0, fun j hjx hj => ?_⟩
              rcases Nat.lt_or_ge j x0 with h | h
              · exact hno j h hj
              · have hjx' : j = x0 := by omega
                subst hjx'
                rw [hk'] at hj
                exact hne (Option.some.inj hj)
            · exact .inr ⟨j, h1, by omega, hj⟩
          rw [Array.getElem?_eq_getElem hlt]
          dsimp only
          by_cases hh : (es[x0].hash == NestedKey.hash w (NestedKey.num i0)) = true
          · rw [if_pos hh]
            refine wpAny_bind (wpAny_dictEpoch ho hd (wpAny_bind (eqb_n hu his hkey0 hdp (wpAny_bind (wpAny_dictEpoch ho hd ?_)))))
            show wpAny _ _ (if (ep != ep) = true then _ else _) _ E _
            rw [if_neg (by simp)]
            by_cases hkk : k' = (NestedKey.num i0)
            · rw [decide_eq_true hkk]
              rw [hkk] at hk'
              rcases hHx with ⟨rfl, _⟩ | ⟨j, _, hjx, hj⟩
              · first | rw [if_pos rfl] | skip
                simp only [Option.isSome_none, Bool.false_eq_true, if_false]
                first | refine wpAny_bind (wpAny_pure ?_) | skip
                refine wpAny_bind (wpAny_rule ?_)
                split
                · exact wpAny_pure (wpAny_pure (hsome x0 hk'))
                · exact wpAny_pure ⟨rfl, x0 + 1, some x0, rfl, hrest', hlt, .inr ⟨x0, rfl, Nat.lt_succ_self x0, hk'⟩⟩
              · exact absurd (nodup_at K.nd hj hk') (by omega)
            · rw [decide_eq_false hkk]
              simp only [Bool.false_eq_true, if_false]
              refine wpAny_bind (wpAny_rule ?_)
              first | rw [if_neg (by simp)] | skip
              first
                | exact wpAny_pure ⟨rfl, x0 + 1, hit, rfl, hrest', hlt, hstay hkk⟩
                | exact wpAny_bind (wpAny_pure (wpAny_pure ⟨rfl, x0 + 1, hit, rfl, hrest', hlt, hstay hkk⟩))
          · rw [if_neg hh]
            refine wpAny_pure ⟨rfl, x0 + 1, hit, rfl, hrest', hlt, hstay ?_⟩
            intro hkk
            rw [hhash, hkk] at hh; simp at hh
        · rintro b s' ⟨rfl, i, hit, rfl, hr, hi, hH⟩
          have hall : ∀ j, i ≤ j → j < es.size → ((es[j]?.map (·.hash)) == some (NestedKey.hash w (NestedKey.num i0))) = false := by
            intro j h1 h2
            have := List.filter_eq_nil_iff.mp hr.symm j (List.mem_range'_1.mpr ⟨h1, by omega⟩)
            simpa using this
          rcases hH with ⟨rfl, hno⟩ | ⟨j, rfl, _, hj⟩
          · refine wpAny_pure (hnone (notin fun j hjl hj => ?_))
            rcases Nat.lt_or_ge j i with h | h
            · exact hno j h hj
            · have := hall j h hjl
              rw [haskey j hj hjl] at this
              exact absurd this (by decide)
          · exact wpAny_pure (hsome j hj))
  | @tup ta to tvs tn tks h1 h2 h3 h4 =>
    dsimp only
    by_cases hall : ((Value.ref ta) :: (placesWithHash es.size (fun i => es[i]?.map (·.hash)) (NestedKey.hash w (NestedKey.tup tks))).filterMap fun i => es[i]?.map (·.key)).all carriedByValue = true
    · rw [if_pos hall]
      exact old
    · rw [if_neg hall]
      try dsimp only
      try rw [if_neg hany]
      by_cases hone : (((placesWithHash es.size (fun i => es[i]?.map (·.hash)) (NestedKey.hash w (NestedKey.tup tks))).filterMap (fun i => es[i]?.map (·.key))) == [(Value.ref ta)]) = true <;>
      (first | rw [if_pos hone] | rw [if_neg hone]) <;> (first | refine wpAny_bind (wpAny_pure ?_) | refine wpAny_bind (tableTell_n hquiet ?_)) <;> (
        rw [if_neg (by simp)]
        refine wpAny_bind ?_
        refine wpAny_forIn_list _
          (fun rest b s' => s' = s ∧ ∃ i hit, b = (none, hit) ∧ rest = (List.range' i (es.size - i)).filter (fun i => (es[i]?.map (·.hash)) == some (NestedKey.hash w (NestedKey.tup tks))) ∧ i ≤ es.size ∧
            ((hit = none ∧ ∀ j, j < i → ks[j]? ≠ some (NestedKey.tup tks)) ∨ ∃ j, hit = some j ∧ j < i ∧ ks[j]? = some (NestedKey.tup tks))) _ ?_ ?_ _ _
          ⟨rfl, 0, none, rfl, by rw [placesWithHash, List.range_eq_range', Nat.sub_zero], Nat.zero_le _, .inl ⟨rfl, fun _ h => absurd h (Nat.not_lt_zero _)⟩⟩
        · rintro x0 rest b s' ⟨rfl, i, hit, rfl, hr, hi, hH⟩
          obtain ⟨hix, hxn, hpx, hskip, hrest⟩ := filter_range'_cons _ _ _ _ _ hr.symm
          have hlt : x0 < es.size := by omega
          have hrest' : rest = (List.range' (x0 + 1) (es.size - (x0 + 1))).filter (fun i => (es[i]?.map (·.hash)) == some (NestedKey.hash w (NestedKey.tup tks))) := by rw [hrest]; congr 2; omega
          obtain ⟨k', hk', his, hdp, hhash⟩ := K.at hlt
          have hHx : (hit = none ∧ ∀ j, j < x0 → ks[j]? ≠ some (NestedKey.tup tks)) ∨ ∃ j, hit = some j ∧ j < x0 ∧ ks[j]? = some (NestedKey.tup tks) := by
            rcases hH with ⟨h0, hno⟩ | ⟨j, h1, hji, hj⟩
            · refine .inl ⟨h0, fun j hjx hj => ?_⟩
              rcases Nat.lt_or_ge j i with h | h
              · exact hno j h hj
              · have := hskip j h hjx
                rw [haskey j hj (klt j hj)] at this
                exact absurd this (by decide)
            · exact .inr ⟨j, h1, by omega, hj⟩
          have hstay : ¬ k' = (NestedKey.tup tks) → ((hit = none ∧ ∀ j, j < x0 + 1 → ks[j]? ≠ some (NestedKey.tup tks)) ∨ ∃ j, hit = some j ∧ j < x0 + 1 ∧ ks[j]? = some (NestedKey.tup tks)) := by
            intro hne
            rcases hHx with ⟨h0, hno⟩ | ⟨j, h1, hjx, hj⟩
            · refine .inl ⟨h0, fun j hjx hj => ?_⟩
              rcases Nat.lt_or_ge j x0 with h | h
              · exact hno j h hj
              · have hjx' : j = x0 := by omega
                subst hjx'
                rw [hk'] at hj
                exact hne (Option.some.inj hj)
            · exact .inr ⟨j, h1, by omega, hj⟩
          rw [Array.getElem?_eq_getElem hlt]
          dsimp only
          by_cases hh : (es[x0].hash == NestedKey.hash w (NestedKey.tup tks)) = true
          · rw [if_pos hh]
            refine wpAny_bind (wpAny_dictEpoch ho hd (wpAny_bind (eqb_n hu his hkey0 hdp (wpAny_bind (wpAny_dictEpoch ho hd ?_)))))
            show wpAny _ _ (if (ep != ep) = true then _ else _) _ E _
            rw [if_neg (by simp)]
            by_cases hkk : k' = (NestedKey.tup tks)
            · rw [decide_eq_true hkk]
              rw [hkk] at hk'
              rcases hHx with ⟨rfl, _⟩ | ⟨j, _, hjx, hj⟩
              · first | rw [if_pos rfl] | skip
                simp only [Option.isSome_none, Bool.false_eq_true, if_false]
                first | refine wpAny_bind (wpAny_pure ?_) | skip
                refine wpAny_bind (wpAny_rule ?_)
                split
                · exact wpAny_pure (wpAny_pure (hsome x0 hk'))
                · exact wpAny_pure ⟨rfl, x0 + 1, some x0, rfl, hrest', hlt, .inr ⟨x0, rfl, Nat.lt_succ_self x0, hk'⟩⟩
              · exact absurd (nodup_at K.nd hj hk') (by omega)
            · rw [decide_eq_false hkk]
              simp only [Bool.false_eq_true, if_false]
              refine wpAny_bind (wpAny_rule ?_)
              first | rw [if_neg (by simp)] | skip
              first
                | exact wpAny_pure ⟨rfl, x0 + 1, hit, rfl, hrest', hlt, hstay hkk⟩
                | exact wpAny_bind (wpAny_pure (wpAny_pure ⟨rfl, x0 + 1, hit, rfl, hrest', hlt, hstay hkk⟩))
          · rw [if_neg hh]
            refine wpAny_pure ⟨rfl, x0 + 1, hit, rfl, hrest', hlt, hstay ?_⟩
            intro hkk
            rw [hhash, hkk] at hh; simp at hh
        · rintro b s' ⟨rfl, i, hit, rfl, hr, hi, hH⟩
          have hall : ∀ j, i ≤ j → j < es.size → ((es[j]?.map (·.hash)) == some (NestedKey.hash w (NestedKey.tup tks))) = false := by
            intro j h1 h2
            have := List.filter_eq_nil_iff.mp hr.symm j (List.mem_range'_1.mpr ⟨h1, by omega⟩)
            simpa using this
          rcases hH with ⟨rfl, hno⟩ | ⟨j, rfl, _, hj⟩
          · refine wpAny_pure (hnone (notin fun j hjl hj => ?_))
            rcases Nat.lt_or_ge j i with h | h
            · exact hno j h hj
            · have := hall j h hjl
              rw [haskey j hj hjl] at this
              exact absurd this (by decide)
          · exact wpAny_pure (hsome j hj))
end
end Mp
end
section
/-! Mp, part 14: dicts: reading, in, writing, displays. -/
namespace Mp
open PySem PySem.Spec PyProof.Rows L2
section
variable {prog : Program} {w : World} {A : Around} {EE : Value → Shared → Prop} {s : Shared}
/-- the dict at d, its keys as data -/
def DN (w : World) (h : Heap) (d : Addr) (ks : List NestedKey) (es : Array DictEntry) : Prop := ∃ o ep, h.get? d = some o ∧ o.ExactDict ∧ o.data = .dict es ep ∧ KeysN w h es ks
theorem get_n {d : Addr} {ks : List NestedKey} {es : Array DictEntry} {k : NestedKey} {u : Value} {Q : Option Value → Shared → Prop} (hu : A.units + 8 < cLine) (hkey : NestedIs s.heap k u) (hd8 : k.depth ≤ 8) (hm : DN w s.heap d ks es)
    (h : Q ((ks.findIdx? fun x => decide (x = k)).bind fun i => es[i]?.map (·.val)) { s with toks := s.toks + k.draws }) : wpAny (model prog w) A (dictGet d u) Q EE s := by
  obtain ⟨o, ep, ho, _, hd, K⟩ := hm
  unfold dictGet
  try with_reducible refine wpAny_holding ?_
  refine wpAny_bind (pyHash_key k u A s _ hkey (by omega) (wpAny_bind (find_n (s := { s with toks := s.toks + k.draws }) hu hkey hd8 ho hd K ?_ ?_)))
  · intro hno
    have e : (ks.findIdx? fun x => decide (x = k)) = none := List.findIdx?_eq_none_iff.mpr fun x hx => decide_eq_false fun q => hno (q ▸ hx)
    rw [e] at h
    exact wpAny_pure h
  · intro j hj
    have e : (ks.findIdx? fun x => decide (x = k)) = some j := by
      obtain ⟨hl, ej⟩ := List.getElem?_eq_some_iff.mp hj
      refine List.findIdx?_eq_some_iff_getElem.mpr ⟨hl, decide_eq_true ej, fun i hi => ?_⟩
      simp only [Bool.not_eq_true, decide_eq_false_iff_not]
      intro q
      have := nodup_at K.nd (i := i) (j := j) (k := k) (by rw [List.getElem?_eq_getElem (by omega), q]) hj
      omega
    rw [e] at h
    exact wpAny_bind (wpAny_dictEntries (s := { s with toks := s.toks + k.draws }) ho hd (wpAny_pure h))
theorem DN.typeIs {d : Addr} {ks : List NestedKey} {es : Array DictEntry} (hm : DN w s.heap d ks es) : s.TypeIs (.ref d) "dict" := by
  obtain ⟨o, ep, ho, hc, _⟩ := hm
  exact ⟨o, ho, hc.1⟩
theorem in_n {d : Addr} {ks : List NestedKey} {es : Array DictEntry} {k : NestedKey} {u : Value} {Q : Bool → Shared → Prop} (hu : A.units + 9 < cLine) (hkey : NestedIs s.heap k u) (hd8 : k.depth ≤ 8) (hsys : (d == sysModules) = false) (hm : DN w s.heap d ks es)
    (h : Q (ks.findIdx? fun x => decide (x = k)).isSome { s with toks := s.toks + k.draws }) : wpAny (model prog w) A (contains (.ref d) u) Q EE s := by
  unfold contains
  try with_reducible refine wpAny_holding ?_
  refine wpAny_bind (wpAny_specialOf hm.typeIs slot_dict_contains.lookup ?_)
  show wpAny _ _ (if (some (Value.builtin "dict.__contains__") == some Value.none) = true then _ else _) _ EE s
  rw [if_neg (by rw [beq_builtin_none]; exact Bool.false_ne_true)]
  refine wpAny_bind (wpAny_callSpecialUnlessNone?_slot (name := Str.ofString "__contains__") hm.typeIs slot_dict_contains
    (wpAny_call_entry slot_dict_contains hm.typeIs entry_dict_contains ?_ (args_dict_contains _ _)))
  show wpAny _ _ (dictGet d u >>= _) _ _ s
  have hlen : ∀ i, (ks.findIdx? fun x => decide (x = k)) = some i → ∃ v, es[i]?.map (·.val) = some v := fun i hi => by
    obtain ⟨hl, _⟩ := List.findIdx?_eq_some_iff_getElem.mp hi
    obtain ⟨o, ep, _, _, _, K⟩ := hm
    have : i < es.size := by have := K.len; omega
    exact ⟨_, by rw [Array.getElem?_eq_getElem this]; rfl⟩
  refine wpAny_bind (get_n (A := A.in1) (by show A.units + 1 + 8 < _; omega) hkey hd8 hm ?_)
  cases hf : ks.findIdx? fun x => decide (x = k) with
  | some i =>
    rw [hf] at h
    obtain ⟨v, hv⟩ := hlen i hf
    rw [Option.bind_some, hv]
    show wpAny _ _ (ret (.bool true)) _ _ _
    exact wpAny_pure ⟨_, rfl, wpAny_truthy_bool h⟩
  | none =>
    rw [hf] at h
    show wpAny _ _ (Builtin.Dict.pendingKey? d u >>= _) _ _ _
    exact wpAny_bind (wpAny_pendingKey_other hsys (wpAny_pure ⟨_, rfl, wpAny_truthy_bool h⟩))
theorem getItem_n {d : Addr} {ks : List NestedKey} {es : Array DictEntry} {k : NestedKey} {u v : Value} {Q : Value → Shared → Prop} (hu : A.units + 9 < cLine) (hkey : NestedIs s.heap k u) (hd8 : k.depth ≤ 8) (hm : DN w s.heap d ks es)
    (hv : ((ks.findIdx? fun x => decide (x = k)).bind fun i => es[i]?.map (·.val)) = some v) (h : Q v { s with toks := s.toks + k.draws }) : wpAny (model prog w) A (getItem (.ref d) u) Q EE s := by
  unfold getItem
  try with_reducible refine wpAny_holding ?_
  refine wpAny_bind (wpAny_sequenceKey hm.typeIs (by decide) ?_)
  refine wpAny_bind (wpAny_callSpecial?_slot (name := Str.ofString "__getitem__") hm.typeIs slot_dict_getitem
    (wpAny_call_entry slot_dict_getitem hm.typeIs entry_dict_getitem ?_ (args_dict_getitem _ _)))
  show wpAny _ _ (dictGet d u >>= _) _ _ s
  refine wpAny_bind (get_n (A := A.in1) (by show A.units + 1 + 8 < _; omega) hkey hd8 hm ?_)
  rw [hv]
  exact wpAny_pure ⟨v, rfl, wpAny_pure h⟩
/-- the entries behind a write -/
def putE (w : World) (ks : List NestedKey) (es : Array DictEntry) (k : NestedKey) (u v : Value) : Array DictEntry := match ks.findIdx? fun x => decide (x = k) with
  | some i => es.modify i fun e => { e with val := v }
  | none => es.push ⟨k.hash w, u, v⟩
theorem setItem_n {d : Addr} {ks : List NestedKey} {es : Array DictEntry} {k : NestedKey} {u v : Value} {Q : Unit → Shared → Prop} (hu : A.units + 9 < cLine) (hkey : NestedIs s.heap k u) (hd8 : k.depth ≤ 8) (hm : DN w s.heap d ks es) (hsz : es.size ≤ sizeLine)
    (hQ : ∀ h' o ep, h'.get? d = some o → o.ExactDict → o.data = .dict (putE w ks es k u v) ep → Heap.SameBut d s.heap h' → Q () { s with heap := h', toks := s.toks + k.draws }) : wpAny (model prog w) A (setItem (.ref d) u v) Q EE s := by
  unfold setItem
  try with_reducible refine wpAny_holding ?_
  refine wpAny_bind (wpAny_sequenceKey hm.typeIs (by decide) ?_)
  refine wpAny_bind (wpAny_callSpecial?_slot (name := Str.ofString "__setitem__") hm.typeIs slot_dict_setitem
    (wpAny_call_entry slot_dict_setitem hm.typeIs entry_dict_setitem ?_ (args_dict_setitem _ _ _)))
  show wpAny _ _ (Builtin.Dict.notOrdered "__setitem__" ⟨[.ref d, u, v], []⟩ >>= _) _ _ s
  refine wpAny_bind (wpAny_notOrdered_dict hm.typeIs ?_)
  show wpAny _ _ (dictSet d u v >>= _) _ _ s
  obtain ⟨o, ep, ho, hc, hd, K⟩ := hm
  refine wpAny_bind ?_
  unfold dictSet
  try with_reducible refine wpAny_holding ?_
  refine wpAny_bind (pyHash_key k u A.in1 s _ hkey (by show A.units + 1 + _ < _; omega) ?_)
  unfold dictSetHashed
  try with_reducible refine wpAny_holding ?_
  refine wpAny_bind (find_n (A := A.in1) (s := { s with toks := s.toks + k.draws }) (by show A.units + 1 + 8 < _; omega) hkey hd8 ho hd K ?_ ?_)
  · intro hno
    have e : (ks.findIdx? fun x => decide (x = k)) = none := List.findIdx?_eq_none_iff.mpr fun x hx => decide_eq_false fun q => hno (q ▸ hx)
    unfold putE at hQ
    rw [e] at hQ
    exact wpAny_bind (wpAny_rule (wpAny_updateDictKeys (hz := hsz) (s := { s with toks := s.toks + k.draws }) ho hd (wpAny_pure ⟨.none, rfl, wpAny_pure (hQ _ _ (ep + 1) (Heap.get?_update_self _ ho (Obj.isFreed_of_dict (Obj.data_mapDictKeys hd _))) (hc.mapDictKeys _) (Obj.data_mapDictKeys hd _) (Heap.SameBut.update ..))⟩)))
  · intro j hj
    have e : (ks.findIdx? fun x => decide (x = k)) = some j := by
      obtain ⟨hl, ej⟩ := List.getElem?_eq_some_iff.mp hj
      refine List.findIdx?_eq_some_iff_getElem.mpr ⟨hl, decide_eq_true ej, fun i hi => ?_⟩
      simp only [Bool.not_eq_true, decide_eq_false_iff_not]
      intro q
      have := nodup_at K.nd (i := i) (j := j) (k := k) (by rw [List.getElem?_eq_getElem (by omega), q]) hj
      omega
    unfold putE at hQ
    rw [e] at hQ
    exact wpAny_bind (wpAny_rule (wpAny_bind (wpAny_updateDict (s := { s with toks := s.toks + k.draws }) ho hd (wpAny_point (wpAny_pure ⟨.none, rfl, wpAny_pure (hQ _ _ ep (Heap.get?_update_self _ ho (Obj.isFreed_of_dict (Obj.data_mapDict hd _))) (hc.mapDict _) (Obj.data_mapDict hd _) (Heap.SameBut.update ..))⟩)))))
end

/-! ### by data -/
/-- the keys as data, if they are such -/
def okK (ks : List D) : Option (List NestedKey) := match D.key.go ks with
  | some nks => if nks.Nodup ∧ (∀ k ∈ nks, k.depth ≤ 8) ∧ nks.length ≤ sizeLine then some nks else none
  | none => none
def okKey (k : D) : Option NestedKey := match k.key with
  | some nk => if nk.depth ≤ 8 then some nk else none
  | none => none
/-- where the key stands -/
def dfind (ks : List D) (k : D) : Option (Option Nat) := match okK ks, okKey k with
  | some nks, some nk => some (nks.findIdx? fun x => decide (x = nk))
  | _, _ => none
def dgetD (ks vs : List D) (k : D) : Option D := match dfind ks k with
  | some (some i) => vs[i]?
  | _ => none
def dputD (ks vs : List D) (k v : D) : Option (List D × List D) := match dfind ks k with
  | some (some i) => some (ks, vs.set i v)
  | some none => if ks.length < sizeLine then some (ks ++ [k], vs ++ [v]) else none
  | none => none
theorem key_go : ∀ {ks : List D} {nks : List NestedKey}, D.key.go ks = some nks → nks.length = ks.length ∧ ∀ (i : Nat) (k : D) (nk : NestedKey), ks[i]? = some k → nks[i]? = some nk → k.key = some nk
  | [], nks, e => by
    simp only [D.key.go, Option.some.injEq] at e
    subst e
    exact ⟨rfl, fun i k nk h => by simp at h⟩
  | d :: ds, nks, e => by
    simp only [D.key.go] at e
    cases e1 : D.key d with
    | none => rw [e1] at e; simp at e
    | some k0 =>
      cases e2 : D.key.go ds with
      | none => rw [e1, e2] at e; simp at e
      | some ks0 =>
        rw [e1, e2] at e
        simp only [Option.some.injEq] at e
        subst e
        obtain ⟨h1, h2⟩ := key_go e2
        refine ⟨by simp [h1], fun i k nk hi hj => ?_⟩
        cases i with
        | zero =>
          simp only [List.getElem?_cons_zero, Option.some.injEq] at hi hj
          subst hi hj
          exact e1
        | succ i => exact h2 i k nk (by simpa using hi) (by simpa using hj)
section
variable {E : SE} {W : WX} {X : Cx}
mutual
theorem Rep.nested (hK : X.K = E.K) {g : Gh} {pins : List (Addr × Obj)} {σ : L2.St} {H : Hp} {s : Shared} (I : Inv X pins σ H s) (sub : ∀ a o, g.G a = some o → H a = some o) : ∀ {d : D} {v : V} {u : Value} {nk : NestedKey}, Rep E g d v → RelV v u → d.key = some nk → NestedIs s.heap nk u
  | .non, v, u, nk, h, r, e => by
    simp only [Rep] at h
    simp only [D.key, Option.some.injEq] at e
    subst h e
    cases (show u = Value.none from r)
    exact .none
  | .int i, v, u, nk, h, r, e => by
    simp only [Rep] at h
    simp only [D.key, Option.some.injEq] at e
    subst h e
    obtain ⟨t, rfl⟩ := (show ∃ t, u = Value.int i t from r)
    exact .int i t
  | .str x, v, u, nk, h, r, e => by
    simp only [Rep] at h
    simp only [D.key, Option.some.injEq] at e
    subst h e
    obtain ⟨t, rfl⟩ := (show ∃ t, u = Value.str x t from r)
    exact .text x t
  | .tup ds, v, u, nk, h, r, e => by
    simp only [Rep] at h
    obtain ⟨a, xs, rfl, h2, _, h4⟩ := h
    simp only [D.key, Option.map_eq_some_iff] at e
    obtain ⟨nks, e1, rfl⟩ := e
    cases (show u = Value.ref a from r)
    obtain ⟨its, rv, ht, _⟩ := I.tuple (by rw [hK]; exact sub_t sub h2)
    obtain ⟨o, o1, o2, n, o3⟩ := ht
    exact .tup o1 o2 o3 (by simpa using Reps.nested hK I sub h4 rv e1)
  | .bl b, v, u, nk, h, r, e => by simp [D.key] at e
  | .lst ds, v, u, nk, h, r, e => by simp [D.key] at e
  | .dct ks ds, v, u, nk, h, r, e => by simp [D.key] at e
  | .ins C ns ds, v, u, nk, h, r, e => by simp [D.key] at e
  | .exc C ns ds, v, u, nk, h, r, e => by simp [D.key] at e
  | .clo c ds, v, u, nk, h, r, e => by simp [D.key] at e
  | .scr c, v, u, nk, h, r, e => by simp [D.key] at e
  | .ref n, v, u, nk, h, r, e => by simp [D.key] at e
  | .fn f, v, u, nk, h, r, e => by simp [D.key] at e
  | .ty f, v, u, nk, h, r, e => by simp [D.key] at e
theorem Reps.nested (hK : X.K = E.K) {g : Gh} {pins : List (Addr × Obj)} {σ : L2.St} {H : Hp} {s : Shared} (I : Inv X pins σ H s) (sub : ∀ a o, g.G a = some o → H a = some o) : ∀ {ds : List D} {vs : List V} {us : List Value} {nks : List NestedKey}, Reps E g ds vs → Vals vs us → D.key.go ds = some nks → NestedAll s.heap nks us
  | [], vs, us, nks, h, r, e => by
    simp only [Reps] at h
    simp only [D.key.go, Option.some.injEq] at e
    subst h e
    cases r
    exact .nil
  | d :: ds, vs, us, nks, h, r, e => by
    simp only [Reps] at h
    obtain ⟨v, r', rfl, h2, h3⟩ := h
    cases r with
    | cons r1 r2 =>
      simp only [D.key.go] at e
      cases e1 : D.key d with
      | none => rw [e1] at e; simp at e
      | some k0 =>
        cases e2 : D.key.go ds with
        | none => rw [e1, e2] at e; simp at e
        | some ks0 =>
          rw [e1, e2] at e
          simp only [Option.some.injEq] at e
          subst e
          exact .cons (Rep.nested hK I sub h2 r1 e1) (Reps.nested hK I sub h3 r2 e2)
end
theorem Ents.get {hs : List Int} {ks vs : List V} {es : List DictEntry} (h : Ents hs ks vs es) : hs.length = es.length ∧ ks.length = es.length ∧ vs.length = es.length ∧ ∀ (i : Nat) (e : DictEntry), es[i]? = some e → hs[i]? = some e.hash ∧ (∃ k, ks[i]? = some k ∧ RelV k e.key) ∧ ∃ v, vs[i]? = some v ∧ RelV v e.val := by
  induction h with
  | nil => exact ⟨rfl, rfl, rfl, fun i e h => by simp at h⟩
  | cons h1 h2 h3 t ih =>
    obtain ⟨a, b, c, d⟩ := ih
    refine ⟨by simp [a], by simp [b], by simp [c], fun i e he => ?_⟩
    cases i with
    | zero =>
      simp only [List.getElem?_cons_zero, Option.some.injEq] at he
      subst he
      exact ⟨by simp [h1], ⟨_, by simp, h2⟩, _, by simp, h3⟩
    | succ i => simpa using d i e (by simpa using he)
theorem Ents.snoc {hs : List Int} {ks vs : List V} {es : List DictEntry} (h : Ents hs ks vs es) {k v : V} {e : DictEntry} (h2 : RelV k e.key) (h3 : RelV v e.val) : Ents (hs ++ [e.hash]) (ks ++ [k]) (vs ++ [v]) (es ++ [e]) := by
  induction h with
  | nil => exact .cons rfl h2 h3 .nil
  | cons a b c t ih => exact .cons a b c ih
theorem Ents.set {hs : List Int} {ks vs : List V} {es : List DictEntry} (h : Ents hs ks vs es) {v : V} {u : Value} (r : RelV v u) : ∀ i : Nat, Ents hs ks (vs.set i v) (es.modify i fun e => { e with val := u }) := by
  induction h with
  | nil => intro i; cases i <;> exact .nil
  | cons a b c t ih =>
    intro i
    cases i with
    | zero => exact .cons a b r t
    | succ i => exact .cons a b c (ih i)
/-- the keys of a dict of ours -/
theorem dn_s {g : Gh} {pins : List (Addr × Obj)} {σ : L2.St} {H : Hp} {s : Shared} {a : Addr} {hs : List Int} {kds : List D} {ks vs : List V} {nks : List NestedKey} (hK : X.K = E.K) (hw : X.w = E.w) (I : Inv X pins σ H s) (sub : ∀ a o, g.G a = some o → H a = some o) (h : H a = some (DictO a hs ks vs)) (eh : hs = kds.map (D.hash E.w)) (rk : Reps E g kds ks) (ok : okK kds = some nks) :
    (a == sysModules) = false ∧ ∃ es, DN X.w s.heap a nks es ∧ Ents hs ks vs es.toList := by
  obtain ⟨⟨hsys, hsz, o, es, ep, h1, h2, h3, h4⟩, _, _⟩ := I.hok a _ h
  refine ⟨hsys, es, ⟨o, ep, h1, h2, h3, ?_⟩, h4⟩
  unfold okK at ok
  cases e1 : D.key.go kds with
  | none => rw [e1] at ok; cases ok
  | some nks' =>
    rw [e1] at ok
    dsimp only at ok
    split at ok
    · rename_i hc
      cases ok
      obtain ⟨l1, l2⟩ := key_go e1
      obtain ⟨m1, m2, m3, m4⟩ := h4.get
      have lk := rk.length
      refine ⟨by rw [l1, ← lk, m2]; simp, fun j e k he hk => ?_, hc.1⟩
      have he' : es.toList[j]? = some e := by rw [Array.getElem?_toList]; exact he
      obtain ⟨q1, ⟨kv, q2, q3⟩, _⟩ := m4 j e he'
      obtain ⟨kd, q4, q5⟩ := rk.get' q2
      have q6 := l2 j kd k q4 hk
      refine ⟨q5.nested hK I sub q3 q6, hc.2.1 k (List.mem_of_getElem? hk), ?_⟩
      rw [eh, List.getElem?_map, q4] at q1
      have q7 : D.hash E.w kd = e.hash := Option.some.inj q1
      rw [← q7, hw]
      unfold D.hash
      rw [q6]
    · cases ok
/-- what a dict holds -/
def dctD (st : Store) : D → Option (List D × List D)
  | .dct ks vs => some (ks, vs)
  | .ref n => match st.get n with
    | some (.dct ks vs) => some (ks, vs)
    | _ => none
  | _ => none
theorem dct_s {g : Gh} {fr : Fr} {st : Store} {σ : L2.St} {H : Hp} {d : D} {v : V} {kds vds : List D} (r : RelF E g fr st σ H) (rv : Rep E g d v) (e : dctD st d = some (kds, vds)) :
    ∃ a hs ks vs, v = .ref a ∧ H a = some (DictO a hs ks vs) ∧ hs = kds.map (D.hash E.w) ∧ Reps E g kds ks ∧ Reps E g vds vs := by
  unfold dctD at e
  split at e
  · cases e
    simp only [Rep] at rv
    obtain ⟨a, hs, xs, ys, rfl, h1, h2, h3, h4⟩ := rv
    exact ⟨a, hs, xs, ys, rfl, r.sub _ _ h1, h2, h3, h4⟩
  · split at e
    · rename_i eo
      cases e
      simp only [Rep] at rv
      obtain ⟨hs, xs, ys, h1, h2, h3, h4⟩ := r.obj _ _ eo
      exact ⟨_, hs, xs, ys, rv.2, h1, h2, h3, h4⟩
    · cases e
  · cases e
end
end Mp
end
section
/-! Mp, part 15: subscripts and in, of dicts, lists and instances; items set. -/
namespace Mp
open PySem PySem.Spec PyProof.Rows L2

/-- a subscript by a mirror -/
def IxM (X : Cx) (E : SE) (W : WX) (f : D → D → M D) : Prop :=
  ∀ (value slice : Expr) (pins : List (Addr × Obj)) (s : Shared) (σ : L2.St) (H : Hp) (g : Gh) (fr : Fr) (st : Store) (x y : D) (v w : V) (u u' : Value) (Q : VK), Inv X pins σ H s → RelF E g fr st σ H → Rep E g x v → Rep E g y w → RelV v u → RelV w u' →
    Post E W g (foS E g st) H σ (RV E Q) (f x y fr st) → subscripted slice false u u' = operate [u, u'] (getItem u u') → subscripted slice true u u' = runValue (.builtin "lifetime.subscript" ⟨[u, u'], []⟩) → wpAny (model X.prog X.w) X.A (subscriptTail value slice u u') (EP X pins σ Q) X.xe s
def PlainIx2 (b : Expr) : Prop := ∀ o i, subscripted b true o i = runValue (.builtin "lifetime.subscript" ⟨[o, i], []⟩)
section
variable {E : SE} {W : WX} {X : Cx}
theorem s_ixM {f : D → D → M D} (hf : IxM X E W f) {a b : Expr} {ma mb : M D} {pos : Pos} (ha : PE X a (tI E W ma)) (hb : PE X b (tI E W mb)) (hs : PlainIx b := by intro _ _; rfl) (hs2 : PlainIx2 b := by intro _ _; rfl) : PE X (.Subscript a b pos) (tI E W (mBinM f ma mb)) :=
  ⟨fun pins s σ H Q I h => Subscript_ (binM (sem := fun v u => subscriptTail a b v u) ha hb I h fun v u s2 g fr st x y w w' H2 I2 rl rx ry r1 r2 p => hf a b pins s2 σ H2 g fr st x y w w' v u Q I2 rl rx ry r1 r2 p (hs _ _) (hs2 _ _))⟩
theorem IxM.pure {r : R2} {f : Store → D → D → Option D} (ho : IxR X r) (hs : OpSS E W f r) : IxM X E W fun x y => liftS fun st => f st x y := by
  intro value slice pins s σ H g fr st x y v w u u' Q I rl rx ry r1 r2 p h1 h2
  unfold liftS at p
  dsimp only at p
  cases e : f st x y with
  | none => rw [e] at p; exact p.elim
  | some z =>
    rw [e] at p
    exact ho value slice pins s σ H v w u u' Q I r1 r2 (hs g fr st σ H x y v w z Q rl rx ry e fun g' H' e' r' u ru => p g' H' e' r' u ru) h1
/-- of lists, tuples, texts, shared lists -/
def ixS (st : Store) (x y : D) : Option D := match x with
  | .ref n => match st.get n with
    | some (.lst ds) => match y with
      | .int i => atI ds i
      | _ => none
    | _ => none
  | .scr ns => match y with
    | .int i => (atI ns i).map .int
    | _ => none
  | _ => ixD x y
theorem ixS_s (hK : X.K = E.K) : OpSS E W ixS (rIx X.K) := by
  intro g fr st σ H x y v w z Q r rx ry e q
  unfold ixS at e
  split at e
  · split at e
    · rename_i n ds eo
      split at e
      · simp only [Rep] at rx ry
        obtain ⟨xs, h1, _, h3⟩ := r.obj _ _ eo
        obtain ⟨j, e1, e2⟩ := atI_map h3.length e
        obtain ⟨u, e3, ru⟩ := h3.get e1
        exact .inl ⟨_, xs, _, u, rx.2, ry, SqL.of h1, e2 u e3, q g H (.refl ..) r u ru⟩
      · cases e
    · cases e
  · split at e
    · obtain ⟨i0, e0, rfl⟩ := Option.map_eq_some_iff.mp e
      simp only [Rep] at rx ry
      obtain ⟨a, rfl, h1, _⟩ := rx
      obtain ⟨j, e1, e2⟩ := atI_map (List.length_map (f := V.int)) e0
      exact .inl ⟨a, _, _, .int i0, rfl, ry, by rw [hK]; exact sub_l r.sub h1, e2 _ (by rw [List.getElem?_map, e1]; rfl), q g H (.refl ..) r _ (by simp only [Rep])⟩
    · cases e
  · exact ix_s (W := W) hK g fr st σ H x y v w z Q r rx ry e q
/-- of dicts, or else -/
def ixDct (f : D → D → M D) (x y : D) : M D := fun fr st => match dctD st x with
  | some (ks, vs) => match dgetD ks vs y with
    | some d => .ok d fr st
    | none => .stuck
  | none => f x y fr st
theorem okKey_s {k : D} {nk : NestedKey} (e : okKey k = some nk) : k.key = some nk ∧ nk.depth ≤ 8 := by
  unfold okKey at e
  cases e1 : k.key with
  | none => rw [e1] at e; cases e
  | some z =>
    rw [e1] at e
    dsimp only at e
    split at e
    · cases e; exact ⟨rfl, by assumption⟩
    · cases e
theorem ent_val {hs : List Int} {ks vs : List V} {es : Array DictEntry} (h : Ents hs ks vs es.toList) {i : Nat} {v : V} (e : vs[i]? = some v) : ∃ u, es[i]?.map (·.val) = some u ∧ RelV v u := by
  obtain ⟨m1, m2, m3, m4⟩ := h.get
  have hi : i < es.toList.length := by rw [← m3]; exact (List.getElem?_eq_some_iff.mp e).1
  obtain ⟨_, _, v', e', r⟩ := m4 i es.toList[i] (List.getElem?_eq_getElem hi)
  rw [e] at e'
  cases e'
  exact ⟨_, by rw [← Array.getElem?_toList, List.getElem?_eq_getElem hi]; rfl, r⟩
theorem ix_dct {f : D → D → M D} (hK : X.K = E.K) (hw : X.w = E.w) (hu : X.A.units + 9 < cLine) (h : IxM X E W f) : IxM X E W (ixDct f) := by
  intro value slice pins s σ H g fr st x y v w u u' Q I rl rx ry r1 r2 p h1 h2
  unfold ixDct at p
  cases e : dctD st x with
  | none => rw [e] at p; exact h value slice pins s σ H g fr st x y v w u u' Q I rl rx ry r1 r2 p h1 h2
  | some q =>
    obtain ⟨kds, vds⟩ := q
    rw [e] at p
    dsimp only at p
    obtain ⟨a, hs, ks, vs, rfl, hd, eh, rk, rv⟩ := dct_s rl rx e
    obtain rfl : u = Value.ref a := r1
    cases eg : dgetD kds vds y with
    | none => rw [eg] at p; exact p.elim
    | some d =>
      rw [eg] at p
      unfold dgetD dfind at eg
      cases ek : okK kds with
      | none => rw [ek] at eg; cases eg
      | some nks =>
        cases ey : okKey y with
        | none => rw [ek, ey] at eg; cases eg
        | some nk =>
          rw [ek, ey] at eg
          dsimp only at eg
          obtain ⟨k1, k2⟩ := okKey_s ey
          obtain ⟨hsys, es, hm, hE⟩ := dn_s hK hw I rl.sub hd eh rk ek
          split at eg
          · rename_i i ei
            have ei := Option.some.inj ei
            obtain ⟨dv, e1, e2⟩ := rv.get eg
            obtain ⟨uv, e3, e4⟩ := ent_val hE e1
            refine tail_any hm.typeIs slot_dict_getitem.lookup (getItem_n hu (ry.nested hK I rl.sub r2 k1) k2 hm (by rw [ei]; exact e3) ⟨dv, H, I.tok _, e4, p g H (.refl ..) rl dv e2⟩) h1
          · cases eg
/-- of instances by their own __getitem__, or else -/
def ixOwn (tab : MTab) (f : D → D → M D) (x y : D) : M D := fun fr st => match insD st x with
  | some (C, _, _) => match tab.lookup C with
    | some (m, []) => callK fr (m [x, y] st)
    | _ => .stuck
  | none => f x y fr st
theorem ix_own {k : Nat} {tab : MTab} {f : D → D → M D} (hK : X.K = E.K) (ok : MthOk X.prog X.w X.K X.mg X.base E k "__getitem__" tab) (hr : Room (k + 1) X.A) (tk : Takes X W) (h : IxM X E W f) : IxM X E W (ixOwn tab f) := by
  intro value slice pins s σ H g fr st x y v w u u' Q I rl rx ry r1 r2 p h1 h2
  unfold ixOwn at p
  cases e : insD st x with
  | none => rw [e] at p; exact h value slice pins s σ H g fr st x y v w u u' Q I rl rx ry r1 r2 p h1 h2
  | some q =>
    obtain ⟨C, ns, ds⟩ := q
    rw [e] at p
    dsimp only at p
    split at p
    · rename_i m e2
      obtain ⟨fa, fd, ps, dvs, dvl, c1, c2, c3, c4, c5, c6, c7⟩ := (ok C m [] e2).ex
      obtain ⟨a, dx, xs, rfl, hi, _, _⟩ := ins_s rl rx e
      obtain rfl : u = Value.ref a := r1
      obtain ⟨od, J⟩ := inst_at I hi
      obtain ⟨mm, hF⟩ := I.fr
      exact PySem.W.sub_K hF I.ok.mod.kin J c2.at_ c3 c2.fn (run_fnA (A := X.A.in1) (us := [.ref a, u']) (vs := [.ref a, w]) (XE := fun σ => WE W σ) I.ok.frames hr.in1 c4 c5 c6 (passAt tk σ) I (.cons rfl (.cons r2 .nil)) ⟨g, st, [x, y] ++ [], rl.toRelG, (Reps.cons rx (.cons ry .nil)).dflt c7, callK_post rl p⟩) h2
    · exact p.elim

/-! ### in a dict -/
def inDct (neg : Bool) (f : D → D → M D) (x y : D) : M D := fun fr st => match dctD st y with
  | some (ks, _) => match dfind ks x with
    | some o => .ok (.bl (if neg then !o.isSome else o.isSome)) fr st
    | none => .stuck
  | none => f x y fr st
theorem dfind_s {ks : List D} {k : D} {o : Option Nat} (e : dfind ks k = some o) : ∃ nks nk, okK ks = some nks ∧ okKey k = some nk ∧ (nks.findIdx? fun x => decide (x = nk)) = o := by
  unfold dfind at e
  cases ek : okK ks with
  | none => rw [ek] at e; cases e
  | some nks =>
    cases ey : okKey k with
    | none => rw [ek, ey] at e; cases e
    | some nk =>
      rw [ek, ey] at e
      exact ⟨nks, nk, rfl, rfl, Option.some.inj e⟩
theorem in_dct {f : D → D → M D} (hK : X.K = E.K) (hw : X.w = E.w) (hu : X.A.units + 9 < cLine) (h : OpM X E W (compareOp .In) f) : OpM X E W (compareOp .In) (inDct false f) := by
  intro pins s σ H g fr st x y v w u u' Q I rl rx ry r1 r2 p
  unfold inDct at p
  cases e : dctD st y with
  | none => rw [e] at p; exact h pins s σ H g fr st x y v w u u' Q I rl rx ry r1 r2 p
  | some q =>
    obtain ⟨kds, vds⟩ := q
    rw [e] at p
    dsimp only at p
    obtain ⟨a, hs, ks, vs, rfl, hd, eh, rk, rv⟩ := dct_s rl ry e
    obtain rfl : u' = Value.ref a := r2
    cases ef : dfind kds x with
    | none => rw [ef] at p; exact p.elim
    | some o =>
      rw [ef] at p
      obtain ⟨nks, nk, ek, ey, rfl⟩ := dfind_s ef
      obtain ⟨k1, k2⟩ := okKey_s ey
      obtain ⟨hsys, es, hm, hE⟩ := dn_s hK hw I rl.sub hd eh rk ek
      refine wpAny_bind (in_n hu (rx.nested hK I rl.sub r1 k1) k2 hsys hm (wpAny_pure ⟨.bl _, H, I.tok _, rfl, p g H (.refl ..) rl _ (by simp only [Rep]; rfl)⟩))
theorem nin_dct {f : D → D → M D} (hK : X.K = E.K) (hw : X.w = E.w) (hu : X.A.units + 9 < cLine) (h : OpM X E W (compareOp .NotIn) f) : OpM X E W (compareOp .NotIn) (inDct true f) := by
  intro pins s σ H g fr st x y v w u u' Q I rl rx ry r1 r2 p
  unfold inDct at p
  cases e : dctD st y with
  | none => rw [e] at p; exact h pins s σ H g fr st x y v w u u' Q I rl rx ry r1 r2 p
  | some q =>
    obtain ⟨kds, vds⟩ := q
    rw [e] at p
    dsimp only at p
    obtain ⟨a, hs, ks, vs, rfl, hd, eh, rk, rv⟩ := dct_s rl ry e
    obtain rfl : u' = Value.ref a := r2
    cases ef : dfind kds x with
    | none => rw [ef] at p; exact p.elim
    | some o =>
      rw [ef] at p
      obtain ⟨nks, nk, ek, ey, rfl⟩ := dfind_s ef
      obtain ⟨k1, k2⟩ := okKey_s ey
      obtain ⟨hsys, es, hm, hE⟩ := dn_s hK hw I rl.sub hd eh rk ek
      refine wpAny_bind (in_n hu (rx.nested hK I rl.sub r1 k1) k2 hsys hm (wpAny_pure ⟨.bl _, H, I.tok _, rfl, p g H (.refl ..) rl _ (by simp only [Rep]; rfl)⟩))

/-! ### items set -/
def SetM (X : Cx) (E : SE) (W : WX) (f : D → D → D → M Unit) : Prop :=
  ∀ (pins : List (Addr × Obj)) (s : Shared) (σ : L2.St) (H : Hp) (g : Gh) (fr : Fr) (st : Store) (o i d : D) (vo vi vd : V) (ov iv u : Value) (Q : Hp → Prop), Inv X pins σ H s → RelF E g fr st σ H → Rep E g o vo → Rep E g i vi → Rep E g d vd → RelV vo ov → RelV vi iv → RelV vd u →
    Post E W g (foS E g st) H σ (fun _ _ _ _ H' => Q H') (f o i d fr st) → wpAny (model X.prog X.w) X.A (setItem ov iv u) (fun _ s' => ∃ H', Inv X pins σ H' s' ∧ Q H') X.xe s
/-- o[i] = d; behind it Q is asked at the frame as it is -/
def gSub (f : D → D → D → M Unit) (mo mi : M D) (d : D) : M Unit := do
  let o ← mo
  let i ← mi
  f o i d
theorem s_gsub {f : D → D → D → M Unit} (hf : SetM X E W f) {o i : Expr} {mo mi : M D} {pos : Pos} (ho : PE X o (tI E W mo)) (hi : PE X i (tI E W mi))
    (ha : ∀ v, assign (.Subscript o i pos) X.env v = (do
      let ov ← holding [v] (eval o X.env)
      let iv ← holding [v, ov] (eval i X.env)
      standAt pos
      holding [v, ov, iv] (setItem ov iv v)
      release [v, ov, iv] []) := by intro _; rfl) : PG X (.Subscript o i pos) (tG E W (gSub f mo mi)) := by
  refine ⟨fun pins s σ H v u Q I r h => ?_⟩
  obtain ⟨g, fr, st, d, rl, rd, p⟩ := h
  rw [ha]
  refine wpAny_bind (wpAny_holding (thn (ho.run pins s σ H (fun w H1 => ∃ g1 fr1 st1 od, Rep E g1 od w ∧ Rep E g1 d v ∧ ThenX E W g (fun _ _ _ _ σ' H' => Q σ' H') (do
    let i ← mi
    f od i d : M Unit) g1 fr1 st1 σ H1) I (tI_bindX rl p fun g1 fr1 st1 H1 od w t rw' => ⟨g1, fr1, st1, od, rw', rd.mono t.le, t⟩)) fun ov s1 hh => ?_))
  obtain ⟨x, H1, I1, r1, g1, fr1, st1, od, ro1, rd1, t1⟩ := hh
  refine wpAny_bind (wpAny_holding (thn (hi.run pins s1 σ H1 (fun w H2 => ∃ g2 fr2 st2 id, Rep E g2 id w ∧ Rep E g2 od x ∧ Rep E g2 d v ∧ ThenX E W g1 (fun _ _ _ _ σ' H' => Q σ' H') (f od id d) g2 fr2 st2 σ H2) I1 (tI_bindX t1.rel t1.post fun g2 fr2 st2 H2 id w t rw' => ⟨g2, fr2, st2, id, rw', ro1.mono t.le, rd1.mono t.le, t⟩)) fun iv s2 hh => ?_))
  obtain ⟨y, H2, I2, r2, g2, fr2, st2, id, ri2, ro2, rd2, t2⟩ := hh
  refine wpAny_bind (wpAny_standAt (wpAny_bind (wpAny_holding (thn (hf pins s2 σ H2 g2 fr2 st2 od id d x y v ov iv u (Q σ) I2 t2.rel ro2 ri2 rd2 r1 r2 r (t2.post.at fun _ _ _ _ _ q => q)) fun _ s3 hh => ?_))))
  obtain ⟨H3, I3, q3⟩ := hh
  exact wpAny_release ⟨σ, H3, I3, q3⟩
/-- of shared lists -/
def setLst (o i d : D) : M Unit := fun fr st => match o, i with
  | .ref n, .int k => match st.get n with
    | some (.lst ds) => match ixN ds.length k with
      | some j => .ok () fr (st.set n (some (.lst (ds.set j d))))
      | none => .stuck
    | _ => .stuck
  | _, _ => .stuck
theorem Reps.set {g : Gh} {d : D} {v : V} (r : Rep E g d v) : ∀ {ds : List D} {vs : List V} (j : Nat), Reps E g ds vs → Reps E g (ds.set j d) (vs.set j v)
  | [], vs, j, h => by simp only [Reps] at h; subst h; exact .nil
  | x :: ds, vs, 0, h => by
    simp only [Reps] at h
    obtain ⟨w, q, rfl, h2, h3⟩ := h
    exact .cons r h3
  | x :: ds, vs, j + 1, h => by
    simp only [Reps] at h
    obtain ⟨w, q, rfl, h2, h3⟩ := h
    exact .cons h2 (Reps.set r j h3)
theorem set_lst : SetM X E W setLst := by
  intro pins s σ H g fr st o i d vo vi vd ov iv u Q I rl ro ri rd r1 r2 r3 p
  unfold setLst at p
  split at p
  · rename_i o i n k
    cases eo : st.get n with
    | none => rw [eo] at p; exact p.elim
    | some m =>
      rw [eo] at p
      cases m with
      | lst ds =>
        dsimp only at p
        cases ej : ixN ds.length k with
        | none => rw [ej] at p; exact p.elim
        | some j =>
          rw [ej] at p
          dsimp only at p
          simp only [Rep] at ro ri
          obtain ⟨xs, h1, h2, h3⟩ := rl.obj _ _ eo
          obtain ⟨r', e'⟩ := rl.writeS (o := .lst (xs.set j vd)) (m' := .lst (ds.set j d)) eo rfl ⟨_, upd_same, by rw [List.length_set]; exact h2, h3.set rd j⟩
          exact set_list pins s σ H vo vi vd ov iv u Q I r1 r2 r3 ⟨_, xs, k, j, ro.2, ri, h1, by rw [h3.length]; exact ej, p g _ e' r'⟩
      | _ => exact p.elim
  · exact p.elim
/-- of shared dicts, or else -/
def setDct (f : D → D → D → M Unit) (o i d : D) : M Unit := fun fr st => match o with
  | .ref n => match st.get n with
    | some (.dct ks vs) => match dputD ks vs i d with
      | some q => .ok () fr (st.set n (some (.dct q.1 q.2)))
      | none => .stuck
    | _ => f o i d fr st
  | _ => f o i d fr st
theorem set_dct {f : D → D → D → M Unit} (hK : X.K = E.K) (hw : X.w = E.w) (hu : X.A.units + 9 < cLine) (h : SetM X E W f) : SetM X E W (setDct f) := by
  intro pins s σ H g fr st o i d vo vi vd ov iv u Q I rl ro ri rd r1 r2 r3 p
  unfold setDct at p
  split at p
  · rename_i o n
    split at p
    · rename_i kds vds eo
      cases ep : dputD kds vds i d with
      | none => rw [ep] at p; exact p.elim
      | some q =>
        rw [ep] at p
        dsimp only at p
        simp only [Rep] at ro
        obtain ⟨hn, rfl⟩ := ro
        obtain rfl : ov = Value.ref (g.io n) := r1
        obtain ⟨hs, ks, vs, hd, eh, rk, rv⟩ := rl.obj _ _ eo
        unfold dputD at ep
        cases ef : dfind kds i with
        | none => rw [ef] at ep; cases ep
        | some fo =>
          rw [ef] at ep
          obtain ⟨nks, nk, ek, ey, efo⟩ := dfind_s ef
          obtain ⟨k1, k2⟩ := okKey_s ey
          obtain ⟨hsys, es, hm, hE⟩ := dn_s hK hw I rl.sub hd eh rk ek
          have lks : nks.length ≤ sizeLine := by
            unfold okK at ek
            split at ek
            · split at ek
              · rename_i hc
                cases ek
                exact hc.2.2
              · cases ek
            · cases ek
          have hlen : es.size ≤ sizeLine := by
            obtain ⟨_, _, _, _, _, K⟩ := hm
            rw [← K.len]
            exact lks
          refine setItem_n hu (ri.nested hK I rl.sub r2 k1) k2 hm hlen fun h' o' ep' q1 q2 q3 q4 => ?_
          have fin : ∀ ks' vs' kds' vds' hs', Ents hs' ks' vs' (putE X.w nks es nk iv u).toList → ks'.length ≤ sizeLine → hs' = kds'.map (D.hash E.w) → Reps E g kds' ks' → Reps E g vds' vs' → q = (kds', vds') →
              ∃ H', Inv X pins σ H' { s with heap := h', toks := s.toks + nk.draws } ∧ Q H' := fun ks' vs' kds' vds' hs' hE' hl hh rk' rv' eq => by
            subst eq
            obtain ⟨r', e'⟩ := rl.writeS (o := DictO (g.io n) hs' ks' vs') (m' := .dct kds' vds') eo rfl ⟨hs', ks', vs', upd_same, hh, rk', rv'⟩
            refine ⟨_, ?_, p g _ e' r'⟩
            refine d_write I (by rw [hd]; exact True.intro) q4 ⟨_, q1⟩ ?_
            exact ⟨⟨hsys, hl, o', _, ep', q1, q2, q3, hE'⟩, ⟨_, q1⟩, fun h1 h2 ⟨z1, z2, zo, ze, zp, z3, z4⟩ k => ⟨z1, z2, zo, ze, zp, k _ z3, z4⟩⟩
          have lkk := rk.length
          obtain ⟨m1, m2, m3, m4⟩ := hE.get
          have hkl : ks.length ≤ sizeLine := by rw [m2]; simpa using hlen
          cases fo with
          | some j =>
            cases ep
            refine fin ks (vs.set j vd) kds (vds.set j d) hs ?_ hkl eh rk (rv.set rd j) rfl
            unfold putE
            rw [efo]
            have := hE.set r3 j
            obtain ⟨l⟩ := es
            simpa using this
          | none =>
            dsimp only at ep
            split at ep
            · rename_i hlt
              cases ep
              refine fin (ks ++ [vi]) (vs ++ [vd]) (kds ++ [i]) (vds ++ [d]) (hs ++ [nk.hash X.w]) ?_ ?_ ?_ (rk.append (.cons ri .nil)) (rv.append (.cons rd .nil)) rfl
              · unfold putE
                rw [efo]
                have := hE.snoc (e := ⟨nk.hash X.w, iv, u⟩) r2 r3
                obtain ⟨l⟩ := es
                simpa using this
              · rw [List.length_append, lkk]
                simp
                omega
              · rw [eh, List.map_append]
                unfold D.hash
                simp [k1, hw]
            · cases ep
    · exact h pins s σ H g fr st _ i d vo vi vd ov iv u Q I rl ro ri rd r1 r2 r3 p
  · exact h pins s σ H g fr st o i d vo vi vd ov iv u Q I rl ro ri rd r1 r2 r3 p
end
end Mp
end
section
/-! Mp, part 16: zip and enumerate over lists and tuples alike. -/
namespace Mp
open PySem
open PySem.Sem (wp)
/-- an iterator of a list (a tuple) at l; the list (tuple) -/
def SIt (t : Bool) (h : Heap) (it l : Addr) (i : Nat) : Prop := match t with
  | false => h.IsListIter it l i
  | true => h.IsTupleIter it l i
def SSq (t : Bool) (h : Heap) (l : Addr) (xs : Array Value) : Prop := match t with
  | false => h.IsList l xs
  | true => h.IsTuple l xs
section
variable {t : Bool} {h h' : Heap} {it l b : Addr} {i : Nat} {xs : Array Value}
theorem SIt.extBut (x : SIt t h it l i) (hs : Heap.ExtBut b h h') (hab : it ≠ b) : SIt t h' it l i := by
  cases t with
  | false => exact Heap.IsListIter.extBut x hs hab
  | true => obtain ⟨o, ho, r⟩ := x; exact ⟨o, hs _ _ hab ho, r⟩
theorem SSq.extBut (x : SSq t h l xs) (hs : Heap.ExtBut b h h') (hab : l ≠ b) : SSq t h' l xs := by
  cases t with
  | false => exact Heap.IsList.extBut x hs hab
  | true => exact Heap.IsTuple.extBut x hs hab
theorem SIt.at (x : SIt t h it l i) (k : ∀ o, h.get? it = some o → h'.get? it = some o) : SIt t h' it l i := by
  cases t with
  | false => obtain ⟨o, ho, r⟩ := x; exact ⟨o, k o ho, r⟩
  | true => obtain ⟨o, ho, r⟩ := x; exact ⟨o, k o ho, r⟩
theorem SSq.at (x : SSq t h l xs) (k : ∀ o, h.get? l = some o → h'.get? l = some o) : SSq t h' l xs := by
  cases t with
  | false => obtain ⟨o, ho, r⟩ := x; exact ⟨o, k o ho, r⟩
  | true => obtain ⟨o, ho, r⟩ := x; exact ⟨o, k o ho, r⟩
theorem SIt.there (x : SIt t h it l i) : ∃ o, h.get? it = some o ∧ ∀ v, o.data ≠ .cell v := by
  cases t with
  | false => obtain ⟨o, ho, _, d⟩ := x; exact ⟨o, ho, fun v q => by rw [d] at q; cases q⟩
  | true => obtain ⟨o, ho, _, d⟩ := x; exact ⟨o, ho, fun v q => by rw [d] at q; cases q⟩
theorem SIt.lt (x : SIt t h it l i) : it < h.objs.size := let ⟨_, e, _⟩ := x.there; Heap.lt_size e
theorem SSq.there (x : SSq t h l xs) : ∃ o, h.get? l = some o := by
  cases t with
  | false => obtain ⟨o, ho, _⟩ := x; exact ⟨o, ho⟩
  | true => obtain ⟨o, ho, _⟩ := x; exact ⟨o, ho⟩
theorem SSq.lt (x : SSq t h l xs) : l < h.objs.size := let ⟨_, e⟩ := x.there; Heap.lt_size e
end
section
variable {prog : Program} {w : World} {A : Around} {E : Value → Shared → Prop} {s : Shared}
theorem nextOf_sit_item {t : Bool} {it l : Addr} {i : Nat} {items : Array Value} {x : Value} {Q : Value → Shared → Prop} (hit : SIt t s.heap it l i) (hl : SSq t s.heap l items) (hx : items[i]? = some x)
    (hQ : ∀ h', SIt t h' it l (i + 1) → Heap.SameBut it s.heap h' → Q x { s with heap := h' }) : wpAny (model prog w) A (Builtin.SmallTypes.nextOf (.ref it)) Q E s := by
  cases t with
  | false => exact wpAny_nextOf_list_item hit hl hx hQ
  | true => exact RZ.nextOf_tuple_item hit hl hx hQ
theorem nextOf_sit_end {t : Bool} {it l : Addr} {i : Nat} {items : Array Value} {Q : Value → Shared → Prop} (hh : A.handled = none) (hit : SIt t s.heap it l i) (hl : SSq t s.heap l items) (hx : items[i]? = none)
    (hE : ∀ h' e, Heap.ExtBut it s.heap h' → (∃ o, h'.get? e = some o ∧ o.cls = .type "StopIteration") → E (.ref e) { s with heap := h' }) : wpAny (model prog w) A (Builtin.SmallTypes.nextOf (.ref it)) Q E s := by
  cases t with
  | false => exact wpAny_nextOf_list_end hh hit hl hx hE
  | true => exact RZ.nextOf_tuple_end hh hit hl hx hE
end
section
variable {prog : Program} {w : World} {A : Around} {E : Value → Shared → Prop} {s : Shared}
theorem g_zip_next_item {t1 t2 : Bool} {z TI TO i1 i2 l1 l2 : Addr} {k1 k2 : Nat} {xs ys : Array Value} {x y a b : Value} {Q : Value → Shared → Prop} (D : ZipApart z TI TO i1 i2 l1 l2)
    (hz : IsZip s.heap z TI TO .none) (hTI : IsPair s.heap TI (.ref i1) (.ref i2)) (hTO : IsPair s.heap TO a b)
    (h1 : SIt t1 s.heap i1 l1 k1) (h2 : SIt t2 s.heap i2 l2 k2) (hl1 : SSq t1 s.heap l1 xs) (hl2 : SSq t2 s.heap l2 ys) (hx : xs[k1]? = some x) (hy : ys[k2]? = some y)
    (hQ : ∀ h', IsZip h' z TI TO (rawInt s.heap.objs.size) → IsPair h' TO x y → SIt t1 h' i1 l1 (k1 + 1) → SIt t2 h' i2 l2 (k2 + 1) → IsPair h' s.heap.objs.size x y → h'.objs.size = s.heap.objs.size + 1 →
      (∀ c o, c ≠ z → c ≠ TO → c ≠ i1 → c ≠ i2 → s.heap.get? c = some o → h'.get? c = some o) → Q (.ref s.heap.objs.size) { s with heap := h' }) :
    wpAny (model prog w) A (Builtin.«zip.__next__» ⟨[.ref z], []⟩) (fun fin s' => ∃ v, fin = .done (.ret v) ∧ Q v s') E s := by
  show wpAny _ _ (field (.ref z) 2 >>= _) _ _ _
  refine wpAny_bind (wpAny_field hz rfl (x := .bool false) rfl ?_)
  show wpAny _ _ (field (.ref z) 3 >>= _) _ _ _
  refine wpAny_bind (wpAny_field hz rfl (x := .ref TI) rfl ?_)
  refine wpAny_bind (wpAny_seqItems hTI rfl ?_)
  show wpAny _ _ (Builtin.SmallTypes.ownedTupleIsFree (.ref z) >>= _) _ _ _
  refine wpAny_bind ?_
  unfold Builtin.SmallTypes.ownedTupleIsFree
  refine wpAny_bind (wpAny_field hz rfl (x := .none) rfl (wpAny_pure ?_))
  simp only [if_true]
  refine wpAny_bind (wpAny_rule ?_)
  refine wpAny_bind (wpAny_field hz rfl (x := .ref TO) rfl ?_)
  refine wpAny_bind (wpAny_setField_rec hz (by simp) fun h₁ hz₁ hs₁ => ?_)
  replace hz₁ : IsZip h₁ z TI TO .ellipsis := hz₁
  refine wpAny_bind ?_
  simp only [List.zipIdx_cons, List.zipIdx_nil, List.forIn_cons, List.forIn_nil]

  refine wpAny_bind (wpAny_bind (wpAny_onRaise ?_))
  show wpAny _ _ (Builtin.SmallTypes.nextOf (.ref i1) >>= _) _ _ _
  refine wpAny_bind (nextOf_sit_item (h1.extBut hs₁.extBut D.i1z) (hl1.extBut hs₁.extBut D.l1z) hx fun h₂ h1₂ hs₂ => wpAny_pure ?_)
  have hTO₂ : IsPair h₂ TO a b := hs₂.extBut _ _ D.TOi1 (hs₁.extBut _ _ D.TOz hTO)
  refine wpAny_bind (wpAny_seqItems hTO₂ rfl ?_)
  refine wpAny_bind (wpAny_updateSeq_pair hTO₂ fun h₃ hTO₃ hs₃ => ?_)
  replace hTO₃ : IsPair h₃ TO x b := hTO₃
  refine wpAny_bind (wpAny_letGo (wpAny_pure ?_))

  refine wpAny_bind (wpAny_bind (wpAny_onRaise ?_))
  show wpAny _ _ (Builtin.SmallTypes.nextOf (.ref i2) >>= _) _ _ _
  refine wpAny_bind (nextOf_sit_item (((h2.extBut hs₁.extBut D.i2z).extBut hs₂.extBut D.i12.symm).extBut hs₃.extBut D.TOi2.symm)
    (((hl2.extBut hs₁.extBut D.l2z).extBut hs₂.extBut D.l2i1).extBut hs₃.extBut D.l2TO) hy fun h₄ h2₄ hs₄ => wpAny_pure ?_)
  have hTO₄ : IsPair h₄ TO x b := hs₄.extBut _ _ D.TOi2 hTO₃
  refine wpAny_bind (wpAny_seqItems hTO₄ rfl ?_)
  refine wpAny_bind (wpAny_updateSeq_pair hTO₄ fun h₅ hTO₅ hs₅ => ?_)
  replace hTO₅ : IsPair h₅ TO x y := hTO₅
  refine wpAny_bind (wpAny_letGo (wpAny_pure (wpAny_pure ?_)))

  refine wpAny_bind (wpAny_seqItems hTO₅ rfl ?_)
  refine wpAny_bind (wpAny_newTuple ?_)
  have hsz : h₅.objs.size = s.heap.objs.size := by rw [hs₅.1, hs₄.1, hs₃.1, hs₂.1, hs₁.1]
  have hz₅ : IsZip h₅ z TI TO .ellipsis := hs₅.extBut _ _ D.TOz.symm (hs₄.extBut _ _ D.i2z.symm (hs₃.extBut _ _ D.TOz.symm (hs₂.extBut _ _ D.i1z.symm hz₁)))
  have hk₅ : ∀ c o, c ≠ z → c ≠ TO → c ≠ i1 → c ≠ i2 → s.heap.get? c = some o → h₅.get? c = some o := fun c o c1 c2 c3 c4 e =>
    hs₅.extBut _ _ c2 (hs₄.extBut _ _ c4 (hs₃.extBut _ _ c2 (hs₂.extBut _ _ c3 (hs₁.extBut _ _ c1 e))))
  have h1₅ : SIt t1 h₅ i1 l1 (k1 + 1) := ((h1₂.extBut hs₃.extBut D.TOi1.symm).extBut hs₄.extBut D.i12).extBut hs₅.extBut D.TOi1.symm
  have h2₅ : SIt t2 h₅ i2 l2 (k2 + 1) := h2₄.extBut hs₅.extBut D.TOi2.symm
  have hzlt : z < h₅.objs.size := Heap.lt_size hz₅
  have hTOlt : TO < h₅.objs.size := Heap.lt_size hTO₅
  have hi1lt : i1 < h₅.objs.size := h1₅.lt
  have hi2lt : i2 < h₅.objs.size := h2₅.lt
  show wpAny _ _ (Builtin.SmallTypes.ownedTupleHandOut (.ref z) (.ref h₅.objs.size) >>= _) _ _ _
  refine wpAny_bind ?_
  unfold Builtin.SmallTypes.ownedTupleHandOut
  have hz₆ : IsZip (h₅.push { cls := .type "tuple", data := .seq #[x, y] }) z TI TO .ellipsis := Heap.get?_push_of_some _ hz₅
  refine wpAny_bind (wpAny_setField_rec hz₆ (by simp) fun h₇ hz₇ hs₇ => ?_)
  replace hz₇ : IsZip h₇ z TI TO (rawInt h₅.objs.size) := hz₇
  refine wpAny_setField_rec hz₇ (by simp) fun h₈ hz₈ hs₈ => ?_
  replace hz₈ : IsZip h₈ z TI TO (rawInt h₅.objs.size) := hz₈
  have up : ∀ c o, c ≠ z → h₅.get? c = some o → h₈.get? c = some o := fun c o c1 e => hs₈.extBut _ _ c1 (hs₇.extBut _ _ c1 (Heap.get?_push_of_some _ e))
  have hT₈ : IsPair h₈ h₅.objs.size x y := hs₈.extBut _ _ (Nat.ne_of_gt hzlt) (hs₇.extBut _ _ (Nat.ne_of_gt hzlt) (Heap.get?_push_size _ rfl))
  have hz8 : h₈.objs.size = h₅.objs.size + 1 := by rw [hs₈.1, hs₇.1, Heap.size_push]
  rw [hsz] at hz₈ hT₈ hz8
  refine wpAny_pure ⟨_, rfl, ?_⟩
  show Q (.ref h₅.objs.size) _
  rw [hsz]
  exact hQ h₈ hz₈ (up _ _ D.TOz hTO₅) (h1₅.at fun o e => up _ o D.i1z e) (h2₅.at fun o e => up _ o D.i2z e) hT₈ hz8 fun c o c1 c2 c3 c4 e => up c o c1 (hk₅ c o c1 c2 c3 c4 e)

theorem g_zip_next_end {t1 t2 : Bool} {z TI TO i1 i2 l1 l2 : Addr} {k1 k2 : Nat} {xs ys : Array Value} {a b : Value} {Q : Fin → Shared → Prop} (hh : A.handled = none) (D : ZipApart z TI TO i1 i2 l1 l2)
    (hz : IsZip s.heap z TI TO .none) (hTI : IsPair s.heap TI (.ref i1) (.ref i2)) (hTO : IsPair s.heap TO a b)
    (h1 : SIt t1 s.heap i1 l1 k1) (h2 : SIt t2 s.heap i2 l2 k2) (hl1 : SSq t1 s.heap l1 xs) (hl2 : SSq t2 s.heap l2 ys) (hend : xs[k1]? = none ∨ ys[k2]? = none)
    (hE : ∀ h' e, (∀ c o, c ≠ z → c ≠ TO → c ≠ i1 → c ≠ i2 → s.heap.get? c = some o → h'.get? c = some o) → (∃ o, h'.get? e = some o ∧ o.cls = .type "StopIteration") → E (.ref e) { s with heap := h' }) :
    wpAny (model prog w) A (Builtin.«zip.__next__» ⟨[.ref z], []⟩) Q E s := by
  show wpAny _ _ (field (.ref z) 2 >>= _) _ _ _
  refine wpAny_bind (wpAny_field hz rfl (x := .bool false) rfl ?_)
  show wpAny _ _ (field (.ref z) 3 >>= _) _ _ _
  refine wpAny_bind (wpAny_field hz rfl (x := .ref TI) rfl ?_)
  refine wpAny_bind (wpAny_seqItems hTI rfl ?_)
  show wpAny _ _ (Builtin.SmallTypes.ownedTupleIsFree (.ref z) >>= _) _ _ _
  refine wpAny_bind ?_
  unfold Builtin.SmallTypes.ownedTupleIsFree
  refine wpAny_bind (wpAny_field hz rfl (x := .none) rfl (wpAny_pure ?_))
  simp only [if_true]
  refine wpAny_bind (wpAny_rule ?_)
  refine wpAny_bind (wpAny_field hz rfl (x := .ref TO) rfl ?_)
  refine wpAny_bind (wpAny_setField_rec hz (by simp) fun h₁ hz₁ hs₁ => ?_)
  replace hz₁ : IsZip h₁ z TI TO .ellipsis := hz₁
  refine wpAny_bind ?_
  simp only [List.zipIdx_cons, List.zipIdx_nil, List.forIn_cons, List.forIn_nil]
  refine wpAny_bind (wpAny_bind (wpAny_onRaise ?_))
  show wpAny _ _ (Builtin.SmallTypes.nextOf (.ref i1) >>= _) _ _ _
  cases hx : xs[k1]? with
  | none =>
    refine wpAny_bind (nextOf_sit_end hh (h1.extBut hs₁.extBut D.i1z) (hl1.extBut hs₁.extBut D.l1z) hx fun h₂ e hs₂ he => ?_)
    obtain ⟨oe, hoe, hce⟩ := he
    have hz₂ : IsZip h₂ z TI TO .ellipsis := hs₂ _ _ D.i1z.symm hz₁
    have hez : e ≠ z := fun x => by subst x; rw [hz₂] at hoe; cases hoe; simp at hce
    refine wpAny_setField_rec hz₂ (by simp) fun h₃ _ hs₃ => hE h₃ e (fun c o c1 _ c3 _ x => hs₃.extBut _ _ c1 (hs₂ _ _ c3 (hs₁.extBut _ _ c1 x))) ⟨oe, hs₃.extBut _ _ hez hoe, hce⟩
  | some x =>
    have hy : ys[k2]? = none := by rcases hend with h | h; rw [hx] at h; cases h; exact h
    refine wpAny_bind (nextOf_sit_item (h1.extBut hs₁.extBut D.i1z) (hl1.extBut hs₁.extBut D.l1z) hx fun h₂ h1₂ hs₂ => wpAny_pure ?_)
    have hTO₂ : IsPair h₂ TO a b := hs₂.extBut _ _ D.TOi1 (hs₁.extBut _ _ D.TOz hTO)
    refine wpAny_bind (wpAny_seqItems hTO₂ rfl ?_)
    refine wpAny_bind (wpAny_updateSeq_pair hTO₂ fun h₃ hTO₃ hs₃ => ?_)
    refine wpAny_bind (wpAny_letGo (wpAny_pure ?_))
    refine wpAny_bind (wpAny_bind (wpAny_onRaise ?_))
    show wpAny _ _ (Builtin.SmallTypes.nextOf (.ref i2) >>= _) _ _ _
    refine wpAny_bind (nextOf_sit_end hh (((h2.extBut hs₁.extBut D.i2z).extBut hs₂.extBut D.i12.symm).extBut hs₃.extBut D.TOi2.symm)
      (((hl2.extBut hs₁.extBut D.l2z).extBut hs₂.extBut D.l2i1).extBut hs₃.extBut D.l2TO) hy fun h₄ e hs₄ he => ?_)
    obtain ⟨oe, hoe, hce⟩ := he
    have hz₄ : IsZip h₄ z TI TO .ellipsis := hs₄ _ _ D.i2z.symm (hs₃.extBut _ _ D.TOz.symm (hs₂.extBut _ _ D.i1z.symm hz₁))
    have hez : e ≠ z := fun x => by subst x; rw [hz₄] at hoe; cases hoe; simp at hce
    refine wpAny_setField_rec hz₄ (by simp) fun h₅ _ hs₅ => hE h₅ e (fun c o c1 c2 c3 c4 x => hs₅.extBut _ _ c1 (hs₄ _ _ c4 (hs₃.extBut _ _ c2 (hs₂.extBut _ _ c3 (hs₁.extBut _ _ c1 x))))) ⟨oe, hs₅.extBut _ _ hez hoe, hce⟩

theorem g_wpAny_pyNext_zip_item {t1 t2 : Bool} {z TI TO i1 i2 l1 l2 : Addr} {k1 k2 : Nat} {xs ys : Array Value} {x y a b : Value} {Q : Option Value → Shared → Prop} (D : ZipApart z TI TO i1 i2 l1 l2)
    (hz : IsZip s.heap z TI TO .none) (hTI : IsPair s.heap TI (.ref i1) (.ref i2)) (hTO : IsPair s.heap TO a b)
    (h1 : SIt t1 s.heap i1 l1 k1) (h2 : SIt t2 s.heap i2 l2 k2) (hl1 : SSq t1 s.heap l1 xs) (hl2 : SSq t2 s.heap l2 ys) (hx : xs[k1]? = some x) (hy : ys[k2]? = some y)
    (hQ : ∀ h', IsZip h' z TI TO (rawInt s.heap.objs.size) → IsPair h' TO x y → SIt t1 h' i1 l1 (k1 + 1) → SIt t2 h' i2 l2 (k2 + 1) → IsPair h' s.heap.objs.size x y → h'.objs.size = s.heap.objs.size + 1 →
      (∀ c o, c ≠ z → c ≠ TO → c ≠ i1 → c ≠ i2 → s.heap.get? c = some o → h'.get? c = some o) → Q (some (.ref s.heap.objs.size)) { s with heap := h' }) :
    wpAny (model prog w) A (pyNext (.ref z)) Q E s := by
  have hT : s.TypeIs (.ref z) "zip" := ⟨_, hz, rfl⟩
  unfold pyNext
  exact wpAny_bind (wpAny_attempt (wpAny_callSpecial?_slot (name := Str.ofString "__next__") hT F.slot_zip_next
    (wpAny_call_entry F.slot_zip_next hT F.entry_zip_next
      (g_zip_next_item D hz hTI hTO h1 h2 hl1 hl2 hx hy fun h' a1 a2 a3 a4 a5 a6 a7 => wpAny_pure (hQ h' a1 a2 a3 a4 a5 a6 a7)) (F.args_zip_next_1 _))))

theorem g_wpAny_pyNext_zip_end {t1 t2 : Bool} {z TI TO i1 i2 l1 l2 : Addr} {k1 k2 : Nat} {xs ys : Array Value} {a b : Value} {Q : Option Value → Shared → Prop} (hh : A.handled = none) (D : ZipApart z TI TO i1 i2 l1 l2)
    (hz : IsZip s.heap z TI TO .none) (hTI : IsPair s.heap TI (.ref i1) (.ref i2)) (hTO : IsPair s.heap TO a b)
    (h1 : SIt t1 s.heap i1 l1 k1) (h2 : SIt t2 s.heap i2 l2 k2) (hl1 : SSq t1 s.heap l1 xs) (hl2 : SSq t2 s.heap l2 ys) (hend : xs[k1]? = none ∨ ys[k2]? = none)
    (hQ : ∀ h', (∀ c o, c ≠ z → c ≠ TO → c ≠ i1 → c ≠ i2 → s.heap.get? c = some o → h'.get? c = some o) → Q none { s with heap := h' }) : wpAny (model prog w) A (pyNext (.ref z)) Q E s := by
  have hT : s.TypeIs (.ref z) "zip" := ⟨_, hz, rfl⟩
  unfold pyNext
  refine wpAny_bind (wpAny_attempt (wpAny_callSpecial?_slot (name := Str.ofString "__next__") hT F.slot_zip_next
    (wpAny_call_entry F.slot_zip_next hT F.entry_zip_next (g_zip_next_end hh D hz hTI hTO h1 h2 hl1 hl2 hend fun h' e hk he => ?_) (F.args_zip_next_1 _))))
  obtain ⟨o, ho, hc⟩ := he
  refine wpAny_bind (wpAny_isInstance (T := "StopIteration") (b := true) ⟨o, ho, hc⟩ isSubtype_stop ?_)
  exact wpAny_pure (hQ _ hk)

theorem g_zip_next_item_held {t1 t2 : Bool} {z TI TO T i1 i2 l1 l2 : Addr} {f : Bool} {oT : Obj} {k1 k2 : Nat} {xs ys : Array Value} {x y : Value} {Q : Value → Shared → Prop} (D : ZipApart z TI TO i1 i2 l1 l2)
    (hz : IsZipHeld s.heap z TI TO T f) (hT : s.heap.get? T = some oT) (hTI : IsPair s.heap TI (.ref i1) (.ref i2))
    (h1 : SIt t1 s.heap i1 l1 k1) (h2 : SIt t2 s.heap i2 l2 k2) (hl1 : SSq t1 s.heap l1 xs) (hl2 : SSq t2 s.heap l2 ys) (hx : xs[k1]? = some x) (hy : ys[k2]? = some y)
    (hQ : ∀ h', IsZipHeld h' z TI TO T true → SIt t1 h' i1 l1 (k1 + 1) → SIt t2 h' i2 l2 (k2 + 1) → IsPair h' s.heap.objs.size x y → h'.objs.size = s.heap.objs.size + 1 →
      (∀ c o, c ≠ z → c ≠ i1 → c ≠ i2 → s.heap.get? c = some o → h'.get? c = some o) → Q (.ref s.heap.objs.size) { s with heap := h' }) :
    wpAny (model prog w) A (Builtin.«zip.__next__» ⟨[.ref z], []⟩) (fun fin s' => ∃ v, fin = .done (.ret v) ∧ Q v s') E s := by
  show wpAny _ _ (field (.ref z) 2 >>= _) _ _ _
  refine wpAny_bind (wpAny_field hz rfl (x := .bool false) rfl ?_)
  show wpAny _ _ (field (.ref z) 3 >>= _) _ _ _
  refine wpAny_bind (wpAny_field hz rfl (x := .ref TI) rfl ?_)
  refine wpAny_bind (wpAny_seqItems hTI rfl ?_)
  show wpAny _ _ (Builtin.SmallTypes.ownedTupleIsFree (.ref z) >>= _) _ _ _
  refine wpAny_bind (wpAny_tupleHeld_zip hz hT fun h₁ hz₁ hs₁ => ?_)
  simp only [Bool.false_eq_true, if_false]
  refine wpAny_bind ?_
  rw [← Array.forIn_toList]
  simp only [List.forIn_cons, List.forIn_nil]
  refine wpAny_bind (wpAny_bind (wpAny_holding ?_))
  show wpAny _ _ (Builtin.SmallTypes.nextOf (.ref i1) >>= _) _ _ _
  refine wpAny_bind (nextOf_sit_item (s := { s with heap := h₁ }) (h1.extBut hs₁.extBut D.i1z) (hl1.extBut hs₁.extBut D.l1z) hx fun h₂ h1₂ hs₂ => wpAny_pure ?_)
  refine wpAny_pure ?_
  refine wpAny_bind (wpAny_bind (wpAny_holding ?_))
  show wpAny _ _ (Builtin.SmallTypes.nextOf (.ref i2) >>= _) _ _ _
  refine wpAny_bind (nextOf_sit_item (s := { s with heap := h₂ }) ((h2.extBut hs₁.extBut D.i2z).extBut hs₂.extBut D.i12.symm) ((hl2.extBut hs₁.extBut D.l2z).extBut hs₂.extBut D.l2i1) hy fun h₃ h2₃ hs₃ => wpAny_pure ?_)
  refine wpAny_pure (wpAny_pure ?_)
  show wpAny _ _ (newTuple [x, y] >>= _) _ _ _
  refine wpAny_bind (wpAny_newTuple ?_)
  have hsz : h₃.objs.size = s.heap.objs.size := by rw [hs₃.1, hs₂.1, hs₁.1]
  have hz₃ : IsZipHeld h₃ z TI TO T true := hs₃.extBut _ _ D.i2z.symm (hs₂.extBut _ _ D.i1z.symm hz₁)
  have hk : ∀ c o, c ≠ z → c ≠ i1 → c ≠ i2 → s.heap.get? c = some o → h₃.get? c = some o := fun c o c1 c2 c3 e => hs₃.extBut _ _ c3 (hs₂.extBut _ _ c2 (hs₁.extBut _ _ c1 e))
  have h1₃ : SIt t1 h₃ i1 l1 (k1 + 1) := h1₂.extBut hs₃.extBut D.i12
  refine wpAny_pure ⟨_, rfl, ?_⟩
  show Q (.ref h₃.objs.size) _
  have hp : IsPair (h₃.push { cls := .type "tuple", data := .seq #[x, y] }) h₃.objs.size x y := Heap.get?_push_size _ rfl
  have hz4 : (h₃.push { cls := .type "tuple", data := .seq #[x, y] }).objs.size = h₃.objs.size + 1 := Heap.size_push ..
  rw [hsz] at hp hz4 ⊢
  exact hQ _ (Heap.get?_push_of_some _ hz₃) (h1₃.at fun o e => Heap.get?_push_of_some _ e) (h2₃.at fun o e => Heap.get?_push_of_some _ e) hp hz4 fun c o c1 c2 c3 e => Heap.get?_push_of_some _ (hk c o c1 c2 c3 e)

theorem g_zip_next_end_held {t1 t2 : Bool} {z TI TO T i1 i2 l1 l2 : Addr} {f : Bool} {oT : Obj} {k1 k2 : Nat} {xs ys : Array Value} {Q : Fin → Shared → Prop} (hh : A.handled = none) (D : ZipApart z TI TO i1 i2 l1 l2)
    (hz : IsZipHeld s.heap z TI TO T f) (hT : s.heap.get? T = some oT) (hTI : IsPair s.heap TI (.ref i1) (.ref i2))
    (h1 : SIt t1 s.heap i1 l1 k1) (h2 : SIt t2 s.heap i2 l2 k2) (hl1 : SSq t1 s.heap l1 xs) (hl2 : SSq t2 s.heap l2 ys) (hend : xs[k1]? = none ∨ ys[k2]? = none)
    (hE : ∀ h' e, (∀ c o, c ≠ z → c ≠ i1 → c ≠ i2 → s.heap.get? c = some o → h'.get? c = some o) → (∃ o, h'.get? e = some o ∧ o.cls = .type "StopIteration") → E (.ref e) { s with heap := h' }) :
    wpAny (model prog w) A (Builtin.«zip.__next__» ⟨[.ref z], []⟩) Q E s := by
  show wpAny _ _ (field (.ref z) 2 >>= _) _ _ _
  refine wpAny_bind (wpAny_field hz rfl (x := .bool false) rfl ?_)
  show wpAny _ _ (field (.ref z) 3 >>= _) _ _ _
  refine wpAny_bind (wpAny_field hz rfl (x := .ref TI) rfl ?_)
  refine wpAny_bind (wpAny_seqItems hTI rfl ?_)
  show wpAny _ _ (Builtin.SmallTypes.ownedTupleIsFree (.ref z) >>= _) _ _ _
  refine wpAny_bind (wpAny_tupleHeld_zip hz hT fun h₁ hz₁ hs₁ => ?_)
  simp only [Bool.false_eq_true, if_false]
  refine wpAny_bind ?_
  rw [← Array.forIn_toList]
  simp only [List.forIn_cons, List.forIn_nil]
  refine wpAny_bind (wpAny_bind (wpAny_holding ?_))
  show wpAny _ _ (Builtin.SmallTypes.nextOf (.ref i1) >>= _) _ _ _
  cases hx : xs[k1]? with
  | none =>
    refine wpAny_bind (nextOf_sit_end (s := { s with heap := h₁ }) hh (h1.extBut hs₁.extBut D.i1z) (hl1.extBut hs₁.extBut D.l1z) hx fun h₂ e hs₂ he => ?_)
    exact hE h₂ e (fun c o c1 c2 _ x => hs₂ _ _ c2 (hs₁.extBut _ _ c1 x)) he
  | some x =>
    have hy : ys[k2]? = none := by rcases hend with h | h; rw [hx] at h; cases h; exact h
    refine wpAny_bind (nextOf_sit_item (s := { s with heap := h₁ }) (h1.extBut hs₁.extBut D.i1z) (hl1.extBut hs₁.extBut D.l1z) hx fun h₂ h1₂ hs₂ => wpAny_pure ?_)
    refine wpAny_pure ?_
    refine wpAny_bind (wpAny_bind (wpAny_holding ?_))
    show wpAny _ _ (Builtin.SmallTypes.nextOf (.ref i2) >>= _) _ _ _
    refine wpAny_bind (nextOf_sit_end (s := { s with heap := h₂ }) hh ((h2.extBut hs₁.extBut D.i2z).extBut hs₂.extBut D.i12.symm) ((hl2.extBut hs₁.extBut D.l2z).extBut hs₂.extBut D.l2i1) hy fun h₃ e hs₃ he => ?_)
    exact hE h₃ e (fun c o c1 c2 c3 x => hs₃ _ _ c3 (hs₂.extBut _ _ c2 (hs₁.extBut _ _ c1 x))) he

theorem g_wpAny_pyNext_zip_item_held {t1 t2 : Bool} {z TI TO T i1 i2 l1 l2 : Addr} {f : Bool} {oT : Obj} {k1 k2 : Nat} {xs ys : Array Value} {x y : Value} {Q : Option Value → Shared → Prop} (D : ZipApart z TI TO i1 i2 l1 l2)
    (hz : IsZipHeld s.heap z TI TO T f) (hT : s.heap.get? T = some oT) (hTI : IsPair s.heap TI (.ref i1) (.ref i2))
    (h1 : SIt t1 s.heap i1 l1 k1) (h2 : SIt t2 s.heap i2 l2 k2) (hl1 : SSq t1 s.heap l1 xs) (hl2 : SSq t2 s.heap l2 ys) (hx : xs[k1]? = some x) (hy : ys[k2]? = some y)
    (hQ : ∀ h', IsZipHeld h' z TI TO T true → SIt t1 h' i1 l1 (k1 + 1) → SIt t2 h' i2 l2 (k2 + 1) → IsPair h' s.heap.objs.size x y → h'.objs.size = s.heap.objs.size + 1 →
      (∀ c o, c ≠ z → c ≠ i1 → c ≠ i2 → s.heap.get? c = some o → h'.get? c = some o) → Q (some (.ref s.heap.objs.size)) { s with heap := h' }) :
    wpAny (model prog w) A (pyNext (.ref z)) Q E s := by
  have hTy : s.TypeIs (.ref z) "zip" := ⟨_, hz, rfl⟩
  unfold pyNext
  exact wpAny_bind (wpAny_attempt (wpAny_callSpecial?_slot (name := Str.ofString "__next__") hTy F.slot_zip_next
    (wpAny_call_entry F.slot_zip_next hTy F.entry_zip_next
      (g_zip_next_item_held D hz hT hTI h1 h2 hl1 hl2 hx hy fun h' a1 a3 a4 a5 a6 a7 => wpAny_pure (hQ h' a1 a3 a4 a5 a6 a7)) (F.args_zip_next_1 _))))
theorem g_wpAny_pyNext_zip_end_held {t1 t2 : Bool} {z TI TO T i1 i2 l1 l2 : Addr} {f : Bool} {oT : Obj} {k1 k2 : Nat} {xs ys : Array Value} {Q : Option Value → Shared → Prop} (hh : A.handled = none) (D : ZipApart z TI TO i1 i2 l1 l2)
    (hz : IsZipHeld s.heap z TI TO T f) (hT : s.heap.get? T = some oT) (hTI : IsPair s.heap TI (.ref i1) (.ref i2))
    (h1 : SIt t1 s.heap i1 l1 k1) (h2 : SIt t2 s.heap i2 l2 k2) (hl1 : SSq t1 s.heap l1 xs) (hl2 : SSq t2 s.heap l2 ys) (hend : xs[k1]? = none ∨ ys[k2]? = none)
    (hQ : ∀ h', (∀ c o, c ≠ z → c ≠ i1 → c ≠ i2 → s.heap.get? c = some o → h'.get? c = some o) → Q none { s with heap := h' }) : wpAny (model prog w) A (pyNext (.ref z)) Q E s := by
  have hTy : s.TypeIs (.ref z) "zip" := ⟨_, hz, rfl⟩
  unfold pyNext
  refine wpAny_bind (wpAny_attempt (wpAny_callSpecial?_slot (name := Str.ofString "__next__") hTy F.slot_zip_next
    (wpAny_call_entry F.slot_zip_next hTy F.entry_zip_next (g_zip_next_end_held hh D hz hT hTI h1 h2 hl1 hl2 hend fun h' e hk he => ?_) (F.args_zip_next_1 _))))
  obtain ⟨o, ho, hc⟩ := he
  refine wpAny_bind (wpAny_isInstance (T := "StopIteration") (b := true) ⟨o, ho, hc⟩ isSubtype_stop ?_)
  exact wpAny_pure (hQ _ hk)

end
abbrev zipH1TL (h : Heap) (l1 : Addr) : Heap := h.push { cls := .type "tuple_iterator", data := .fields #[.ref l1, .int 0 0] }
abbrev zipH2TL (h : Heap) (l1 l2 : Addr) : Heap := (zipH1TL h l1).push { cls := .type "list_iterator", data := .fields #[.ref l2, .int 0 0] }
abbrev zipH3TL (h : Heap) (l1 l2 : Addr) : Heap := (zipH2TL h l1 l2).push { cls := .type "tuple", data := .seq #[.ref h.objs.size, .ref (zipH1TL h l1).objs.size] }
abbrev zipH4TL (h : Heap) (l1 l2 : Addr) : Heap := (zipH3TL h l1 l2).push { cls := .type "tuple", data := .seq #[.none, .none] }
abbrev zipH5TL (h : Heap) (l1 l2 : Addr) : Heap := (zipH4TL h l1 l2).push { cls := .type "zip", data := .fields #[.none, .bool false, .bool false, .ref (zipH2TL h l1 l2).objs.size, .ref (zipH3TL h l1 l2).objs.size] }

theorem meets_zip_newTL (l1 l2 : Addr) (xs ys : Array Value) :
    Meets (Builtin.«zip.__new__» ⟨[.type "zip", .ref l1, .ref l2], []⟩) (fun _ R s => s.heap.IsTuple l1 xs ∧ s.heap.IsList l2 ys ∧
      R (.ok (.ret (.ref (zipH4TL s.heap l1 l2).objs.size))) { s with heap := zipH5TL s.heap l1 l2 }) :=
  .of_wp fun prog w A R s h => by
    obtain ⟨hp, g, d, tk, os⟩ := s; obtain ⟨hl1, hl2, h⟩ := h
    have hsub := sub_zip
    have hL1 : Heap.IsTuple (Shared.heap ⟨hp, g, d, tk, os⟩) l1 xs := hl1
    have hL2 : Heap.IsList (Shared.heap ⟨hp.push { cls := .type "tuple_iterator", data := .fields #[.ref l1, .int 0 0] }, g, d, tk, os⟩) l2 ys := Heap.IsList.push hl2 _
    wp_walk using wpAny_pyIter_tuple hL1, wpAny_pyIter_list hL2
    exact ⟨_, rfl, h⟩

section
variable {prog : Program} {w : World} {A : Around} {E : Value → Shared → Prop} {s : Shared}

theorem call_zip_2TL {l1 l2 : Addr} {xs ys : Array Value} {Q : Value → Shared → Prop} (hl1 : s.heap.IsTuple l1 xs) (hl2 : s.heap.IsList l2 ys)
    (h : ∀ h', IsZip h' (s.heap.objs.size + 4) (s.heap.objs.size + 2) (s.heap.objs.size + 3) .none → IsPair h' (s.heap.objs.size + 2) (.ref s.heap.objs.size) (.ref (s.heap.objs.size + 1)) →
      IsPair h' (s.heap.objs.size + 3) .none .none → h'.IsTupleIter s.heap.objs.size l1 0 → h'.IsListIter (s.heap.objs.size + 1) l2 0 → h'.objs.size = s.heap.objs.size + 5 →
      (∀ c o, s.heap.get? c = some o → h'.get? c = some o) → Q (.ref (s.heap.objs.size + 4)) { s with heap := h' }) :
    wpAny (model prog w) A (call (.type "zip") [.ref l1, .ref l2]) Q E s := by
  refine callType_new F.called_zip (by decide) (F.typeCall_zip_2 _ _) (F.newCall_zip_2 _ _) (fun obj => F.args_object_init_3 obj _ _) F.entry_zip_new
    (meets_zip_newTL l1 l2 xs ys) ⟨hl1, hl2, ?_⟩
  have z1 : (zipH1TL s.heap l1).objs.size = s.heap.objs.size + 1 := Heap.size_push ..
  have z2 : (zipH2TL s.heap l1 l2).objs.size = s.heap.objs.size + 2 := by rw [Heap.size_push, z1]
  have z3 : (zipH3TL s.heap l1 l2).objs.size = s.heap.objs.size + 3 := by rw [Heap.size_push, z2]
  have z4 : (zipH4TL s.heap l1 l2).objs.size = s.heap.objs.size + 4 := by rw [Heap.size_push, z3]
  have z5 : (zipH5TL s.heap l1 l2).objs.size = s.heap.objs.size + 5 := by rw [Heap.size_push, z4]
  have g5 : (zipH5TL s.heap l1 l2).get? (zipH4TL s.heap l1 l2).objs.size = some _ := Heap.get?_push_size _ rfl
  have g4 : (zipH5TL s.heap l1 l2).get? (zipH3TL s.heap l1 l2).objs.size = some _ := Heap.get?_push_of_some _ (Heap.get?_push_size _ rfl)
  have g3 : (zipH5TL s.heap l1 l2).get? (zipH2TL s.heap l1 l2).objs.size = some _ := Heap.get?_push_of_some _ (Heap.get?_push_of_some _ (Heap.get?_push_size _ rfl))
  have g2 : (zipH5TL s.heap l1 l2).get? (zipH1TL s.heap l1).objs.size = some _ := Heap.get?_push_of_some _ (Heap.get?_push_of_some _ (Heap.get?_push_of_some _ (Heap.get?_push_size _ rfl)))
  have g1 : (zipH5TL s.heap l1 l2).get? s.heap.objs.size = some _ := Heap.get?_push_of_some _ (Heap.get?_push_of_some _ (Heap.get?_push_of_some _ (Heap.get?_push_of_some _ (Heap.get?_push_size _ rfl))))
  show _ ∧ _
  rw [z2, z3, z4] at g5
  rw [z1, z2] at g3
  rw [z3] at g4
  rw [z1] at g2
  rw [z4]
  exact ⟨⟨_, g5, rfl⟩, h _ g5 g3 g4 ⟨_, g1, rfl, rfl⟩ ⟨_, g2, rfl, rfl⟩ z5 fun c o x =>
    Heap.get?_push_of_some _ (Heap.get?_push_of_some _ (Heap.get?_push_of_some _ (Heap.get?_push_of_some _ (Heap.get?_push_of_some _ x))))⟩


end
abbrev zipH1LT (h : Heap) (l1 : Addr) : Heap := h.push { cls := .type "list_iterator", data := .fields #[.ref l1, .int 0 0] }
abbrev zipH2LT (h : Heap) (l1 l2 : Addr) : Heap := (zipH1LT h l1).push { cls := .type "tuple_iterator", data := .fields #[.ref l2, .int 0 0] }
abbrev zipH3LT (h : Heap) (l1 l2 : Addr) : Heap := (zipH2LT h l1 l2).push { cls := .type "tuple", data := .seq #[.ref h.objs.size, .ref (zipH1LT h l1).objs.size] }
abbrev zipH4LT (h : Heap) (l1 l2 : Addr) : Heap := (zipH3LT h l1 l2).push { cls := .type "tuple", data := .seq #[.none, .none] }
abbrev zipH5LT (h : Heap) (l1 l2 : Addr) : Heap := (zipH4LT h l1 l2).push { cls := .type "zip", data := .fields #[.none, .bool false, .bool false, .ref (zipH2LT h l1 l2).objs.size, .ref (zipH3LT h l1 l2).objs.size] }

theorem meets_zip_newLT (l1 l2 : Addr) (xs ys : Array Value) :
    Meets (Builtin.«zip.__new__» ⟨[.type "zip", .ref l1, .ref l2], []⟩) (fun _ R s => s.heap.IsList l1 xs ∧ s.heap.IsTuple l2 ys ∧
      R (.ok (.ret (.ref (zipH4LT s.heap l1 l2).objs.size))) { s with heap := zipH5LT s.heap l1 l2 }) :=
  .of_wp fun prog w A R s h => by
    obtain ⟨hp, g, d, tk, os⟩ := s; obtain ⟨hl1, hl2, h⟩ := h
    have hsub := sub_zip
    have hL1 : Heap.IsList (Shared.heap ⟨hp, g, d, tk, os⟩) l1 xs := hl1
    have hL2 : Heap.IsTuple (Shared.heap ⟨hp.push { cls := .type "list_iterator", data := .fields #[.ref l1, .int 0 0] }, g, d, tk, os⟩) l2 ys := Heap.IsTuple.push hl2 _
    wp_walk using wpAny_pyIter_list hL1, wpAny_pyIter_tuple hL2
    exact ⟨_, rfl, h⟩

section
variable {prog : Program} {w : World} {A : Around} {E : Value → Shared → Prop} {s : Shared}

theorem call_zip_2LT {l1 l2 : Addr} {xs ys : Array Value} {Q : Value → Shared → Prop} (hl1 : s.heap.IsList l1 xs) (hl2 : s.heap.IsTuple l2 ys)
    (h : ∀ h', IsZip h' (s.heap.objs.size + 4) (s.heap.objs.size + 2) (s.heap.objs.size + 3) .none → IsPair h' (s.heap.objs.size + 2) (.ref s.heap.objs.size) (.ref (s.heap.objs.size + 1)) →
      IsPair h' (s.heap.objs.size + 3) .none .none → h'.IsListIter s.heap.objs.size l1 0 → h'.IsTupleIter (s.heap.objs.size + 1) l2 0 → h'.objs.size = s.heap.objs.size + 5 →
      (∀ c o, s.heap.get? c = some o → h'.get? c = some o) → Q (.ref (s.heap.objs.size + 4)) { s with heap := h' }) :
    wpAny (model prog w) A (call (.type "zip") [.ref l1, .ref l2]) Q E s := by
  refine callType_new F.called_zip (by decide) (F.typeCall_zip_2 _ _) (F.newCall_zip_2 _ _) (fun obj => F.args_object_init_3 obj _ _) F.entry_zip_new
    (meets_zip_newLT l1 l2 xs ys) ⟨hl1, hl2, ?_⟩
  have z1 : (zipH1LT s.heap l1).objs.size = s.heap.objs.size + 1 := Heap.size_push ..
  have z2 : (zipH2LT s.heap l1 l2).objs.size = s.heap.objs.size + 2 := by rw [Heap.size_push, z1]
  have z3 : (zipH3LT s.heap l1 l2).objs.size = s.heap.objs.size + 3 := by rw [Heap.size_push, z2]
  have z4 : (zipH4LT s.heap l1 l2).objs.size = s.heap.objs.size + 4 := by rw [Heap.size_push, z3]
  have z5 : (zipH5LT s.heap l1 l2).objs.size = s.heap.objs.size + 5 := by rw [Heap.size_push, z4]
  have g5 : (zipH5LT s.heap l1 l2).get? (zipH4LT s.heap l1 l2).objs.size = some _ := Heap.get?_push_size _ rfl
  have g4 : (zipH5LT s.heap l1 l2).get? (zipH3LT s.heap l1 l2).objs.size = some _ := Heap.get?_push_of_some _ (Heap.get?_push_size _ rfl)
  have g3 : (zipH5LT s.heap l1 l2).get? (zipH2LT s.heap l1 l2).objs.size = some _ := Heap.get?_push_of_some _ (Heap.get?_push_of_some _ (Heap.get?_push_size _ rfl))
  have g2 : (zipH5LT s.heap l1 l2).get? (zipH1LT s.heap l1).objs.size = some _ := Heap.get?_push_of_some _ (Heap.get?_push_of_some _ (Heap.get?_push_of_some _ (Heap.get?_push_size _ rfl)))
  have g1 : (zipH5LT s.heap l1 l2).get? s.heap.objs.size = some _ := Heap.get?_push_of_some _ (Heap.get?_push_of_some _ (Heap.get?_push_of_some _ (Heap.get?_push_of_some _ (Heap.get?_push_size _ rfl))))
  show _ ∧ _
  rw [z2, z3, z4] at g5
  rw [z1, z2] at g3
  rw [z3] at g4
  rw [z1] at g2
  rw [z4]
  exact ⟨⟨_, g5, rfl⟩, h _ g5 g3 g4 ⟨_, g1, rfl, rfl⟩ ⟨_, g2, rfl, rfl⟩ z5 fun c o x =>
    Heap.get?_push_of_some _ (Heap.get?_push_of_some _ (Heap.get?_push_of_some _ (Heap.get?_push_of_some _ (Heap.get?_push_of_some _ x))))⟩


end

section
variable {prog : Program} {w : World} {A : Around} {E : Value → Shared → Prop} {s : Shared}
theorem g_call_zip {t1 t2 : Bool} {l1 l2 : Addr} {xs ys : Array Value} {Q : Value → Shared → Prop} (hl1 : SSq t1 s.heap l1 xs) (hl2 : SSq t2 s.heap l2 ys)
    (h : ∀ h', IsZip h' (s.heap.objs.size + 4) (s.heap.objs.size + 2) (s.heap.objs.size + 3) .none → IsPair h' (s.heap.objs.size + 2) (.ref s.heap.objs.size) (.ref (s.heap.objs.size + 1)) →
      IsPair h' (s.heap.objs.size + 3) .none .none → SIt t1 h' s.heap.objs.size l1 0 → SIt t2 h' (s.heap.objs.size + 1) l2 0 → h'.objs.size = s.heap.objs.size + 5 →
      (∀ c o, s.heap.get? c = some o → h'.get? c = some o) → Q (.ref (s.heap.objs.size + 4)) { s with heap := h' }) :
    wpAny (model prog w) A (call (.type "zip") [.ref l1, .ref l2]) Q E s := by
  cases t1 with
  | false => cases t2 with
    | false => exact call_zip_2 hl1 hl2 h
    | true => exact call_zip_2LT hl1 hl2 h
  | true => cases t2 with
    | false => exact call_zip_2TL hl1 hl2 h
    | true => exact RZ.call_zipT hl1 hl2 h
end
end Mp
end
section
/-! Mp, part 17: what is walked: lists, tuples, texts, ranges, enumerate, zip. -/
namespace Mp
open PySem
open PySem.Sem (wp)
open AutoSeq1 (wpAny_loadPart')
section
variable {prog : Program} {w : World} {A : Around} {E : Value → Shared → Prop} {s : Shared}
theorem g_enumerate_next_item {t : Bool} {e it l : Addr} {i : Nat} {items : Array Value} {x old : Value} {Q : Value → Shared → Prop}
    (he : IsEnum s.heap e it i old) (hit : SIt t s.heap it l i) (hl : SSq t s.heap l items) (hx : items[i]? = some x) (hne : e ≠ it)
    (hQ : ∀ h', IsEnumOut h' e it ((i : Int) + 1) x s.heap.objs.size → SIt t h' it l (i + 1) →
      h'.get? s.heap.objs.size = some { cls := .type "tuple", data := .seq #[.int i s.toks, x] } → h'.objs.size = s.heap.objs.size + 1 →
      (∀ b o, b ≠ e → b ≠ it → s.heap.get? b = some o → h'.get? b = some o) → Q (.ref s.heap.objs.size) { s with heap := h', toks := s.toks + 1 }) :
    wpAny (model prog w) A (Builtin.«enumerate.__next__» ⟨[.ref e], []⟩) (fun fin s' => ∃ v, fin = .done (.ret v) ∧ Q v s') E s := by
  obtain ⟨hp, g, d, tk, os⟩ := s
  show wpAny _ _ (field (.ref e) 2 >>= _) _ _ _
  refine wpAny_bind (wpAny_field he rfl (x := .ref it) rfl ?_)
  refine wpAny_bind (nextOf_sit_item hit hl hx fun h₁ hit₁ hs₁ => ?_)
  replace hs₁ : Heap.SameBut it hp h₁ := hs₁
  have he₁ : IsEnum h₁ e it i old := (hs₁.2 e hne).trans he
  show wpAny _ _ (field (.ref e) 3 >>= _) _ _ ⟨h₁, g, d, tk, os⟩
  refine wpAny_bind (wpAny_field he₁ rfl (x := rawInt i) rfl ?_)
  show wpAny _ _ (field (.ref e) 4 >>= _) _ _ ⟨h₁, g, d, tk, os⟩
  refine wpAny_bind (wpAny_field he₁ rfl (x := .none) rfl ?_)
  show wpAny _ _ (mkInt i >>= _) _ _ ⟨h₁, g, d, tk, os⟩
  refine wpAny_bind (wpAny_mkInt ?_)
  show wpAny _ _ (setField (.ref e) 3 (rawInt ((i : Int) + 1)) >>= _) _ _ ⟨h₁, g, d, tk + 1, os⟩
  refine wpAny_bind (wpAny_setField_rec he₁ (by simp) fun h₂ he₂ hs₂ => ?_)
  replace hs₂ : Heap.SameBut e h₁ h₂ := hs₂
  replace he₂ : IsEnum h₂ e it ((i : Int) + 1) old := he₂
  show wpAny _ _ (setField (.ref e) 4 .none >>= _) _ _ ⟨h₂, g, d, tk + 1, os⟩
  refine wpAny_bind (wpAny_setField_rec he₂ (by simp) fun h₃ he₃ hs₃ => ?_)
  replace hs₃ : Heap.SameBut e h₂ h₃ := hs₃
  replace he₃ : IsEnum h₃ e it ((i : Int) + 1) old := he₃
  show wpAny _ _ (newTuple [.int i tk, x] >>= _) _ _ ⟨h₃, g, d, tk + 1, os⟩
  refine wpAny_bind (wpAny_newTuple ?_)
  have he₄ : IsEnum (h₃.push { cls := .type "tuple", data := .seq #[.int i tk, x] }) e it ((i : Int) + 1) old := Heap.get?_push_of_some _ he₃
  generalize hh₄ : h₃.push { cls := .type "tuple", data := .seq #[.int i tk, x] } = h₄ at he₄
  have hsz : h₃.objs.size = hp.objs.size := by rw [hs₃.1, hs₂.1, hs₁.1]
  have hel : e < hp.objs.size := Heap.lt_size he
  have ht₄ : h₄.get? hp.objs.size = some { cls := .type "tuple", data := .seq #[.int i tk, x] } := by rw [← hh₄, ← hsz]; exact Heap.get?_push_size _ rfl
  have hz₄ : h₄.objs.size = hp.objs.size + 1 := by rw [← hh₄, Heap.size_push, hsz]
  have hk₄ : ∀ b o, b ≠ e → b ≠ it → hp.get? b = some o → h₄.get? b = some o := fun b o hbe hbi hb => by
    rw [← hh₄]; exact Heap.get?_push_of_some _ (hs₃.extBut b o hbe (hs₂.extBut b o hbe (hs₁.extBut b o hbi hb)))
  have hit₄ : SIt t h₄ it l (i + 1) := by
    rw [← hh₄]; exact ((hit₁.extBut hs₂.extBut (Ne.symm hne)).extBut hs₃.extBut (Ne.symm hne)).at fun o e => Heap.get?_push_of_some _ e
  show wpAny _ _ (Builtin.SmallTypes.ownedTupleIsFree (.ref e) >>= _) _ _ ⟨h₄, g, d, tk + 1, os⟩
  rw [hsz]
  clear hh₄ he₃ hs₃ he₂ hs₂ he₁ hs₁ hit₁ hsz h₃ h₂ h₁
  refine wpAny_bind ?_
  · unfold Builtin.SmallTypes.ownedTupleIsFree
    refine wpAny_bind (wpAny_field he₄ rfl (x := .none) rfl (wpAny_pure ?_))
    simp only [if_true]
    refine wpAny_bind (wpAny_rule ?_)
    refine wpAny_bind (wpAny_field he₄ rfl (x := old) rfl ?_)
    refine wpAny_bind (wpAny_setField_rec he₄ (by simp) fun h₅ he₅ hs₅ => ?_)
    replace hs₅ : Heap.SameBut e h₄ h₅ := hs₅
    replace he₅ : IsEnum h₅ e it ((i : Int) + 1) x := he₅
    show wpAny _ _ (Builtin.SmallTypes.ownedTupleHandOut (.ref e) (.ref hp.objs.size) >>= _) _ _ ⟨h₅, g, d, tk + 1, os⟩
    refine wpAny_bind ?_
    · unfold Builtin.SmallTypes.ownedTupleHandOut
      refine wpAny_bind (wpAny_setField_rec he₅ (by simp) fun h₆ he₆ hs₆ => ?_)
      replace hs₆ : Heap.SameBut e h₅ h₆ := hs₆
      replace he₆ : IsEnumOut h₆ e it ((i : Int) + 1) x hp.objs.size := he₆
      refine wpAny_setField_rec he₆ (by simp) fun h₇ he₇ hs₇ => ?_
      replace hs₇ : Heap.SameBut e h₆ h₇ := hs₇
      replace he₇ : IsEnumOut h₇ e it ((i : Int) + 1) x hp.objs.size := he₇
      refine wpAny_bind (wpAny_letGo (wpAny_pure ⟨_, rfl, hQ h₇ he₇ ?_ ?_ ?_ ?_⟩))
      · exact ((hit₄.extBut hs₅.extBut (Ne.symm hne)).extBut hs₆.extBut (Ne.symm hne)).extBut hs₇.extBut (Ne.symm hne)
      · exact hs₇.extBut _ _ (Nat.ne_of_gt hel) (hs₆.extBut _ _ (Nat.ne_of_gt hel) (hs₅.extBut _ _ (Nat.ne_of_gt hel) ht₄))
      · rw [hs₇.1, hs₆.1, hs₅.1, hz₄]
      · exact fun b o hbe hbi hb => hs₇.extBut b o hbe (hs₆.extBut b o hbe (hs₅.extBut b o hbe (hk₄ b o hbe hbi hb)))

theorem g_wpAny_pyNext_enum_item {t : Bool} {e it l : Addr} {i : Nat} {items : Array Value} {x old : Value} {Q : Option Value → Shared → Prop}
    (he : IsEnum s.heap e it i old) (hit : SIt t s.heap it l i) (hl : SSq t s.heap l items) (hx : items[i]? = some x) (hne : e ≠ it)
    (hQ : ∀ h', IsEnumOut h' e it ((i : Int) + 1) x s.heap.objs.size → SIt t h' it l (i + 1) →
      h'.get? s.heap.objs.size = some { cls := .type "tuple", data := .seq #[.int i s.toks, x] } → h'.objs.size = s.heap.objs.size + 1 →
      (∀ b o, b ≠ e → b ≠ it → s.heap.get? b = some o → h'.get? b = some o) → Q (some (.ref s.heap.objs.size)) { s with heap := h', toks := s.toks + 1 }) :
    wpAny (model prog w) A (pyNext (.ref e)) Q E s := by
  have hT : s.TypeIs (.ref e) "enumerate" := ⟨_, he, rfl⟩
  unfold pyNext
  exact wpAny_bind (wpAny_attempt (wpAny_callSpecial?_slot (name := Str.ofString "__next__") hT F.slot_enumerate_next
    (wpAny_call_entry F.slot_enumerate_next hT F.entry_enumerate_next
      (g_enumerate_next_item he hit hl hx hne fun h' a b c d k => wpAny_pure (hQ h' a b c d k)) (F.args_enumerate_next_1 _))))

theorem g_wpAny_pyNext_enum_end {t : Bool} {e it l : Addr} {i : Nat} {items : Array Value} {old : Value} {Q : Option Value → Shared → Prop} (hh : A.handled = none)
    (he : IsEnum s.heap e it i old) (hit : SIt t s.heap it l i) (hl : SSq t s.heap l items) (hx : items[i]? = none)
    (hQ : ∀ h', Heap.ExtBut it s.heap h' → Q none { s with heap := h' }) : wpAny (model prog w) A (pyNext (.ref e)) Q E s := by
  have hT : s.TypeIs (.ref e) "enumerate" := ⟨_, he, rfl⟩
  unfold pyNext
  refine wpAny_bind (wpAny_attempt (wpAny_callSpecial?_slot (name := Str.ofString "__next__") hT F.slot_enumerate_next
    (wpAny_call_entry F.slot_enumerate_next hT F.entry_enumerate_next ?_ (F.args_enumerate_next_1 _))))
  show wpAny _ _ (field (.ref e) 2 >>= _) _ _ _
  refine wpAny_bind (wpAny_field he rfl (x := .ref it) rfl ?_)
  refine wpAny_bind (nextOf_sit_end hh hit hl hx fun h' x he' hx' => ?_)
  obtain ⟨o, ho, hc⟩ := hx'
  refine wpAny_bind (wpAny_isInstance (T := "StopIteration") (b := true) ⟨o, ho, hc⟩ isSubtype_stop ?_)
  exact wpAny_pure (hQ _ he')
end
theorem meets_enumerate_newT (l : Addr) (items : Array Value) (n : Nat) (dct : Option Addr) (sl : Array (Option Value)) :
    Meets (Builtin.«enumerate.__new__» ⟨[.type "enumerate", .ref l], []⟩) (fun _ R s => s.heap.get? l = some { cls := .type "tuple", dict := dct, data := .seq items n, slots := sl } ∧
      R (.ok (.ret (.ref (s.heap.push { cls := .type "tuple_iterator", data := .fields #[.ref l, .int 0 0] }).objs.size)))
        { s with heap := (s.heap.push { cls := .type "tuple_iterator", data := .fields #[.ref l, .int 0 0] }).push { cls := .type "enumerate", data := .fields #[.none, .bool false, .ref s.heap.objs.size, rawInt 0, .none, .none] } }) :=
  .of_wp fun prog w A R s h => by
    obtain ⟨hp, g, d, tk, os⟩ := s; obtain ⟨hl, h⟩ := h
    have hsub := sub_enumerate
    have hL : Heap.IsTuple (Shared.heap ⟨hp, g, d, tk, os⟩) l items := ⟨_, hl, rfl, n, rfl⟩
    wp_walk using wpAny_loadPart' hl
    refine wpAny_stack_any fun st => wpAny_pure ?_
    split
    · rename_i c _ _ _ _ _
      cases (c == Value.type "enumerate")
      · wp_walk using wpAny_loadPart' hl, wpAny_pyIter_tuple hL
        exact ⟨_, rfl, h⟩
      · wp_walk using wpAny_loadPart' hl, wpAny_pyIter_tuple hL
        exact ⟨_, rfl, h⟩
    · wp_walk using wpAny_loadPart' hl, wpAny_pyIter_tuple hL
      exact ⟨_, rfl, h⟩

section
variable {prog : Program} {w : World} {A : Around} {E : Value → Shared → Prop} {s : Shared}
theorem call_enumerate_tupleX {l : Addr} {items : Array Value} {Q : Value → Shared → Prop} (hL : s.heap.IsTuple l items)
    (h : ∀ h', IsEnum h' (s.heap.objs.size + 1) s.heap.objs.size 0 .none → h'.IsTupleIter s.heap.objs.size l 0 → h'.objs.size = s.heap.objs.size + 2 →
      (∀ b o, s.heap.get? b = some o → h'.get? b = some o) → Q (.ref (s.heap.objs.size + 1)) { s with heap := h' }) :
    wpAny (model prog w) A (call (.type "enumerate") [.ref l]) Q E s := by
  obtain ⟨⟨c, dct, dt, sl⟩, hl, hc, n, hd⟩ := hL
  replace hc : c = .type "tuple" := hc
  replace hd : dt = .seq items n := hd
  subst hc hd
  refine callType_new F.called_enumerate (by decide) (F.typeCall_enumerate_1 _) (F.newCall_enumerate_1 _) (fun obj => F.args_object_init_2 obj _) F.entry_enumerate_new
    (meets_enumerate_newT l items n dct sl) ⟨hl, ?_⟩
  have hz : (s.heap.push { cls := .type "tuple_iterator", data := .fields #[.ref l, .int 0 0] }).objs.size = s.heap.objs.size + 1 := Heap.size_push ..
  show _ ∧ _
  rw [hz]
  have he : IsEnum ((s.heap.push { cls := .type "tuple_iterator", data := .fields #[.ref l, .int 0 0] }).push
      { cls := .type "enumerate", data := .fields #[.none, .bool false, .ref s.heap.objs.size, rawInt 0, .none, .none] }) (s.heap.objs.size + 1) s.heap.objs.size 0 .none := by
    have := Heap.get?_push_size (s.heap.push { cls := .type "tuple_iterator", data := .fields #[.ref l, .int 0 0] })
      (o := { cls := .type "enumerate", data := .fields #[.none, .bool false, .ref s.heap.objs.size, rawInt 0, .none, .none] }) rfl
    rw [hz] at this; exact this
  refine ⟨⟨_, he, rfl⟩, h _ he ⟨_, Heap.get?_push_of_some _ (Heap.get?_push_size _ rfl), rfl, rfl⟩ (by rw [Heap.size_push, hz]) fun b o x => Heap.get?_push_of_some _ (Heap.get?_push_of_some _ x)⟩

theorem g_call_enumerate {t : Bool} {l : Addr} {items : Array Value} {Q : Value → Shared → Prop} (hL : SSq t s.heap l items)
    (h : ∀ h', IsEnum h' (s.heap.objs.size + 1) s.heap.objs.size 0 .none → SIt t h' s.heap.objs.size l 0 → h'.objs.size = s.heap.objs.size + 2 →
      (∀ b o, s.heap.get? b = some o → h'.get? b = some o) → Q (.ref (s.heap.objs.size + 1)) { s with heap := h' }) :
    wpAny (model prog w) A (call (.type "enumerate") [.ref l]) Q E s := by
  cases t with
  | false => exact call_enumerate_list hL h
  | true => exact call_enumerate_tupleX hL h
end
end Mp
namespace Mp
open PySem PySem.Spec PyProof.Rows L2
/-- a list (a tuple) in the abstract heap -/
def SqV (t : Bool) (K : PySem.W.Frag) (H : Hp) (a : Addr) (xs : List V) : Prop := match t with
  | false => SqL K H a xs
  | true => SqT K H a xs
theorem SqV.sub {t : Bool} {K : PySem.W.Frag} {H H' : Hp} {a : Addr} {xs : List V} (e : ∀ a o, H a = some o → H' a = some o) (h : SqV t K H a xs) : SqV t K H' a xs := by
  cases t with
  | false => exact sub_l e h
  | true => exact sub_t e h
section
variable {X : Cx} {pins : List (Addr × Obj)} {σ : L2.St} {H : Hp} {s : Shared} {t : Bool} {a : Addr} {xs ys : List V}
theorem Inv.sq (I : Inv X pins σ H s) (h : SqV t X.K H a xs) : ∃ its : List Value, Vals xs its ∧ SSq t s.heap a its.toArray ∧ xs.length ≤ sizeLine := by
  cases t with
  | false =>
    obtain ⟨its, r, p, z⟩ := I.list h
    exact ⟨its, r, p.isList, z⟩
  | true =>
    obtain ⟨its, r, p, z⟩ := I.tuple h
    exact ⟨its, r, p, z⟩
theorem Inv.sq_inj (I : Inv X pins σ H s) (h : SqV t X.K H a xs) (h' : SqV t X.K H a ys) : xs = ys := by
  cases t with
  | false => exact I.list_inj h h'
  | true => exact I.tuple_inj h h'
end
/-- the tuples at a and b as they stand at each turn, the items in new pairs -/
def ItzG (t1 t2 : Bool) (K : PySem.W.Frag) (a b : Addr) : It :=
  ⟨fun i H => ∃ (xs ys : List V) (x y : V), SqV t1 K H a xs ∧ SqV t2 K H b ys ∧ xs[i]? = some x ∧ ys[i]? = some y,
    fun i H v H' => ∃ T x y, v = .ref T ∧ H T = none ∧ H' = upd H T (.tup [x, y]) ∧ (∀ xs, SqV t1 K H a xs → xs[i]? = some x) ∧ ∀ ys, SqV t2 K H b ys → ys[i]? = some y,
    fun i H => ∃ xs ys : List V, SqV t1 K H a xs ∧ SqV t2 K H b ys ∧ (xs.length ≤ i ∨ ys.length ≤ i)⟩
theorem turn_zipG {P : Program} {w : World} {K : PySem.W.Frag} {elts : List Expr} {kk : Nat} {tpos : Pos} {t1 t2 : Bool} {a b z TI TO i1 i2 : Addr} (D : ZipApart z TI TO i1 i2 a b) :
    Turn P w K (.Tuple elts kk tpos) (ItzG t1 t2 K a b) [z, TI, TO, i1, i2] z (fun i h => IsZip h z TI TO .none ∧ IsPair h TI (.ref i1) (.ref i2) ∧ (∃ x y, IsPair h TO x y) ∧ SIt t1 h i1 a i ∧ SIt t2 h i2 b i) where
  mem := by simp
  obj := fun i h st c hc => by
    obtain ⟨hz, hTI, ⟨x, y, hTO⟩, h1, h2⟩ := st
    obtain ⟨o1, e1, d1⟩ := h1.there
    obtain ⟨o2, e2, d2⟩ := h2.there
    have e' : c = z ∨ c = TI ∨ c = TO ∨ c = i1 ∨ c = i2 := by simpa using hc
    rcases e' with q | q | q | q | q
    · rw [q]; exact ⟨_, hz, fun v q => nomatch q⟩
    · rw [q]; exact ⟨_, hTI, fun v q => nomatch q⟩
    · rw [q]; exact ⟨_, hTO, fun v q => nomatch q⟩
    · rw [q]; exact ⟨o1, e1, d1⟩
    · rw [q]; exact ⟨o2, e2, d2⟩
  keep := fun i h h' st k => by
    obtain ⟨hz, hTI, ⟨x, y, hTO⟩, h1, h2⟩ := st
    exact ⟨k z (by simp) _ hz, k TI (by simp) _ hTI, ⟨x, y, k TO (by simp) _ hTO⟩, h1.at fun o q => k i1 (by simp) o q, h2.at fun o q => k i2 (by simp) o q⟩
  item := by
    intro X hP hw hK hc i pins s σ H E I hf st hg
    subst hP hw hK
    obtain ⟨hz, hTI, ⟨x0, y0, hTO⟩, h1, h2⟩ := st
    obtain ⟨xs, ys, x, y, hqx, hqy, hx, hy⟩ := hg
    obtain ⟨its, rv, p, _⟩ := Inv.sq I hqx
    obtain ⟨its2, rv2, p2, _⟩ := Inv.sq I hqy
    obtain ⟨u, hu, ru⟩ := rv.get hx
    obtain ⟨u2, hu2, ru2⟩ := rv2.get hy
    have hzl : z < s.heap.objs.size := Heap.lt_size hz
    refine g_wpAny_pyNext_zip_item D hz hTI hTO h1 h2 p p2 (x := u) (y := u2) (by simpa using hu) (by simpa using hu2) fun h' z' TO' h1' h2' hT hsz hk => ?_
    refine ⟨_, rfl, wpAny_letOwnedTupleGo_zip (s := { s with heap := h' }) z' fun h'' z'' sb => ?_⟩
    have hT2 : h''.get? s.heap.objs.size = some { cls := .type "tuple", data := .seq #[u, u2] } := (sb.2 _ (Nat.ne_of_gt hzl)).trans hT
    have new : ObjOk X.prog X.w (upd H s.heap.objs.size (.tup [x, y])) h'' s.heap.objs.size (.tup [x, y]) :=
      ⟨by show 2 ≤ sizeLine; decide, [u, u2], .cons ru (.cons ru2 .nil), ⟨_, hT2, rfl, _, rfl⟩⟩
    have I1 : Inv X pins σ (upd H s.heap.objs.size (.tup [x, y])) { s with heap := h'' } :=
      I.turnedNew (t' := s.toks) (ch := [z, TI, TO, i1, i2]) (fun c o hb q => (sb.2 c (fun q' => hb (by simp [q']))).trans (hk c o (fun q' => hb (by simp [q'])) (fun q' => hb (by simp [q'])) (fun q' => hb (by simp [q'])) (fun q' => hb (by simp [q'])) q)) hf (Nat.le_refl _) new
    refine ⟨.ref s.heap.objs.size, _, I1, rfl, ⟨_, x, y, rfl, I.hok.fresh (Nat.le_refl _), rfl, fun l hl => by rw [Inv.sq_inj I hl hqx]; exact hx, fun l hl => by rw [Inv.sq_inj I hl hqy]; exact hy⟩, ⟨z'', ?_, ⟨u, u2, ?_⟩, ?_, ?_⟩, fun c hcm => ?_⟩
    · exact (sb.2 _ D.TIz).trans (hk _ _ D.TIz D.TITO D.TIi1 D.TIi2 hTI)
    · exact (sb.2 _ D.TOz).trans TO'
    · exact h1'.at fun o q => (sb.2 _ D.i1z).trans q
    · exact h2'.at fun o q => (sb.2 _ D.i2z).trans q
    · have hlt : c < s.heap.objs.size := by
        have e' : c = z ∨ c = TI ∨ c = TO ∨ c = i1 ∨ c = i2 := by simpa using hcm
        rcases e' with q | q | q | q | q
        · rw [q]; exact hzl
        · rw [q]; exact Heap.lt_size hTI
        · rw [q]; exact Heap.lt_size hTO
        · rw [q]; exact h1.lt
        · rw [q]; exact h2.lt
      rw [upd_ne (Nat.ne_of_lt hlt)]
      exact (hf c hcm).1
  done := by
    intro X hP hw hK hc i pins s σ H E I hf st hg
    subst hP hw hK
    obtain ⟨hz, hTI, ⟨x0, y0, hTO⟩, h1, h2⟩ := st
    obtain ⟨xs, ys, hqx, hqy, hend⟩ := hg
    obtain ⟨its, rv, p, _⟩ := Inv.sq I hqx
    obtain ⟨its2, rv2, p2, _⟩ := Inv.sq I hqy
    have l1 := rv.length
    have l2 := rv2.length
    have he : its.toArray[i]? = none ∨ its2.toArray[i]? = none := by
      rcases hend with q | q
      · exact .inl (by simp; omega)
      · exact .inr (by simp; omega)
    exact g_wpAny_pyNext_zip_end (I.ok.hd hc) D hz hTI hTO h1 h2 p p2 he fun h' hk => ⟨rfl, I.turnedL (t' := s.toks) (ch := [z, TI, TO, i1, i2]) (fun c o hb q =>
      hk c o (fun q' => hb (by simp [q'])) (fun q' => hb (by simp [q'])) (fun q' => hb (by simp [q'])) (fun q' => hb (by simp [q'])) q) hf⟩
  self := fun A i s Q E st h => wpAny_pyIter_zip st.1 h


def iZipG (t1 t2 : Bool) (K : PySem.W.Frag) (vs : List V) (H : Hp) (R : It → Hp → Prop) : Prop := ∃ a b xs ys, vs = [.ref a, .ref b] ∧ SqV t1 K H a xs ∧ SqV t2 K H b ys ∧ R (ItzG t1 t2 K a b) H
theorem pi_zipG {X : Cx} {e e2 : Expr} {ta : TA} {p pos tpos : Pos} {elts : List Expr} {kk : Nat} (hg : Gl X "zip") (hm : X.mg "zip" = none) (ha : PA X [e, e2] ta)
    (hs : starEach [e, e2] X.env = (false, eval e X.env) :: starEach [e2] X.env := by rfl) (hpl : (backTo pos (starEach [e2] X.env)).any (·.1) = false := by rfl) :
    PI X (.Tuple elts kk tpos) (.Call (.Name "zip" p) [e, e2] [] pos) (fun σ H R => ta σ H fun vs H1 => ∃ t1 t2, iZipG t1 t2 X.K vs H1 R) := by
  refine ⟨fun pins s σ H R I h => ?_⟩
  refine Call_ (ld_blt I hg hm PyProof.Rows.boot_zip (PyProof.Rows.callWith_type1 (thn (ha.run pos pins s σ H _ I h) fun us s1 hh => ?_) hs hpl))
  obtain ⟨vs, H1, I1, r1, t1, t2, a, b, xs, ys, ex, hqx, hqy, q⟩ := hh
  subst ex
  cases r1 with
  | cons r rr =>
    cases rr with
    | cons r' rr =>
      cases rr
      cases r
      cases r'
      have fresh5 : ∀ c, c ∈ [s1.heap.objs.size + 4, s1.heap.objs.size + 2, s1.heap.objs.size + 3, s1.heap.objs.size, s1.heap.objs.size + 1] → FpOk X pins H1 c := fun c hcm => by
        have e' : c = s1.heap.objs.size + 4 ∨ c = s1.heap.objs.size + 2 ∨ c = s1.heap.objs.size + 3 ∨ c = s1.heap.objs.size ∨ c = s1.heap.objs.size + 1 := by simpa using hcm
        have hle : s1.heap.objs.size ≤ c := by
          rcases e' with z | z | z | z | z <;> omega
        exact I1.fpOk hle (I1.hok.fresh hle)
      obtain ⟨its, rv, p1, _⟩ := Inv.sq I1 hqx
      obtain ⟨its2, rv2, p2, _⟩ := Inv.sq I1 hqy
      refine g_call_zip p1 p2 fun h' hz hTI hTO h1 h2 hsz hk => wpAny_pyIter_zip hz ?_
      have I2 : Inv X pins σ H1 { s1 with heap := h' } := I1.kept (t' := s1.toks) hk
      exact ⟨s1.heap.objs.size + 4, [s1.heap.objs.size + 4, s1.heap.objs.size + 2, s1.heap.objs.size + 3, s1.heap.objs.size, s1.heap.objs.size + 1], _, _, H1, rfl, I2, turn_zipG (PySem.W.ktu_apart s1.heap.objs.size a b p1.lt p2.lt), ⟨hz, hTI, ⟨_, _, hTO⟩, h1, h2⟩, fresh5, q⟩
/-- the list at a as it stands at each turn, each item in a new pair -/
def IteG (t : Bool) (K : PySem.W.Frag) (a : Addr) : It :=
  ⟨fun i H => ∃ (xs : List V) (x : V), SqV t K H a xs ∧ xs[i]? = some x, fun i H v H' => ∃ T x, v = .ref T ∧ H T = none ∧ H' = upd H T (.tup [.int (i : Nat), x]) ∧ ∀ xs, SqV t K H a xs → xs[i]? = some x, fun i H => ∃ xs : List V, SqV t K H a xs ∧ xs.length ≤ i⟩
theorem turn_enumG {P : Program} {w : World} {K : PySem.W.Frag} {elts : List Expr} {kk : Nat} {tpos : Pos} (t : Bool) (a e it : Addr) :
    Turn P w K (.Tuple elts kk tpos) (IteG t K a) [e, it] e (fun i h => (∃ old, IsEnum h e it ((i : Nat) : Int) old) ∧ SIt t h it a i ∧ e ≠ it) where
  mem := by simp
  obj := fun i h st b hb => by
    obtain ⟨⟨old, he⟩, hit, _⟩ := st
    obtain ⟨o, ho, hd⟩ := hit.there
    have e' : b = e ∨ b = it := by simpa using hb
    rcases e' with z | z
    · rw [z]; exact ⟨_, he, fun v q => nomatch q⟩
    · rw [z]; exact ⟨o, ho, hd⟩
  keep := fun i h h' st k => let ⟨⟨old, he⟩, hi, hne⟩ := st; ⟨⟨old, k e (by simp) _ he⟩, hi.at fun o q => k it (by simp) o q, hne⟩
  item := by
    intro X hP hw hK hc i pins s σ H E I hf st hg
    subst hP hw hK
    obtain ⟨⟨old, he⟩, hit, hne⟩ := st
    obtain ⟨xs, x, hq, hx⟩ := hg
    obtain ⟨its, rv, p, hz⟩ := Inv.sq I hq
    obtain ⟨u, hu, ru⟩ := rv.get hx
    have hel : e < s.heap.objs.size := Heap.lt_size he
    have hil : it < s.heap.objs.size := hit.lt
    refine g_wpAny_pyNext_enum_item he hit p (x := u) (by simpa using hu) hne fun h' ho hit' hT hsz hk => ?_
    refine ⟨_, rfl, wpAny_letOwnedTupleGo_enum (s := { s with heap := h', toks := s.toks + 1 }) ho fun h'' he' sb => ?_⟩
    have hT2 : h''.get? s.heap.objs.size = some { cls := .type "tuple", data := .seq #[.int i s.toks, u] } := (sb.2 _ (Nat.ne_of_gt hel)).trans hT
    have new : ObjOk X.prog X.w (upd H s.heap.objs.size (.tup [.int (i : Nat), x])) h'' s.heap.objs.size (.tup [.int (i : Nat), x]) :=
      ⟨by show 2 ≤ sizeLine; decide, [.int i s.toks, u], .cons ⟨_, rfl⟩ (.cons ru .nil), ⟨_, hT2, rfl, _, rfl⟩⟩
    have I1 : Inv X pins σ (upd H s.heap.objs.size (.tup [.int (i : Nat), x])) { s with heap := h'', toks := s.toks + 1 } :=
      I.turnedNew (ch := [e, it]) (fun b ob hb q => (sb.2 b (fun z => hb (by simp [z]))).trans (hk b ob (fun z => hb (by simp [z])) (fun z => hb (by simp [z])) q)) hf (Nat.le_refl _) new
    refine ⟨.ref s.heap.objs.size, _, I1, rfl, ⟨_, x, rfl, I.hok.fresh (Nat.le_refl _), rfl, fun ys hy => by rw [Inv.sq_inj I hy hq]; exact hx⟩, ⟨⟨u, ?_⟩, hit'.at fun o q => (sb.2 it (Ne.symm hne)).trans q, hne⟩, fun b hb => ?_⟩
    · have e1 : ((i + 1 : Nat) : Int) = (i : Int) + 1 := by omega
      rw [e1]; exact he'
    · have hb' : b < s.heap.objs.size := by
        have e' : b = e ∨ b = it := by simpa using hb
        rcases e' with z | z
        · rw [z]; exact hel
        · rw [z]; exact hil
      rw [upd_ne (Nat.ne_of_lt hb')]
      exact (hf b hb).1
  done := by
    intro X hP hw hK hc i pins s σ H E I hf st hg
    subst hP hw hK
    obtain ⟨⟨old, he⟩, hit, hne⟩ := st
    obtain ⟨xs, hq, hx⟩ := hg
    obtain ⟨its, rv, p, hz⟩ := Inv.sq I hq
    obtain ⟨f0, f1, f2, f3, f4, f5⟩ := hf it (by simp)
    have hl := rv.length
    exact g_wpAny_pyNext_enum_end (I.ok.hd hc) he hit p (by simp; omega) fun h' eb => ⟨rfl, I.turned (t' := s.toks) (fun b o hb q => eb b o hb q) f0 f1 f3 f4 f5⟩
  self := fun A i s Q E st h => let ⟨⟨_, he⟩, _⟩ := st; wpAny_pyIter_enum he h

def iEnumG (t : Bool) (K : PySem.W.Frag) (vs : List V) (H : Hp) (R : It → Hp → Prop) : Prop := ∃ a xs, vs = [.ref a] ∧ SqV t K H a xs ∧ R (IteG t K a) H
theorem pi_enumG {X : Cx} {e : Expr} {ta : TA} {p pos tpos : Pos} {elts : List Expr} {kk : Nat} (hg : Gl X "enumerate") (hm : X.mg "enumerate" = none) (ha : PA X [e] ta) (hs : starEach [e] X.env = [(false, eval e X.env)] := by rfl) :
    PI X (.Tuple elts kk tpos) (.Call (.Name "enumerate" p) [e] [] pos) (fun σ H R => ta σ H fun vs H1 => ∃ t, iEnumG t X.K vs H1 R) := by
  refine ⟨fun pins s σ H R I h => ?_⟩
  refine Call_ (ld_blt I hg hm boot_enumerate (PyProof.Rows.callWith_type1 (thn (ha.run pos pins s σ H _ I h) fun us s1 hh => ?_) hs rfl))
  obtain ⟨vs, H1, I1, r1, t, a, xs, ex, hq, q⟩ := hh
  subst ex
  cases r1 with
  | cons r rr =>
    cases rr
    cases r
    obtain ⟨its, rv, p', hz⟩ := Inv.sq I1 hq
    refine g_call_enumerate p' fun h' he hit hsz hk => wpAny_pyIter_enum he ?_
    have I2 : Inv X pins σ H1 { s1 with heap := h' } := I1.kept (t' := s1.toks) hk
    refine ⟨s1.heap.objs.size + 1, [s1.heap.objs.size + 1, s1.heap.objs.size], _, _, H1, rfl, I2, turn_enumG t a (s1.heap.objs.size + 1) s1.heap.objs.size, ⟨⟨.none, he⟩, hit, Nat.succ_ne_self _⟩, fun b hb => ?_, q⟩
    have e' : b = s1.heap.objs.size + 1 ∨ b = s1.heap.objs.size := by simpa using hb
    have hle : s1.heap.objs.size ≤ b := by
      rcases e' with z | z
      · rw [z]; exact Nat.le_add_right _ _
      · rw [z]; exact Nat.le_refl _
    exact I1.fpOk hle (I1.hok.fresh hle)
end Mp
end
section
/-! Mp, part 18: what loops walk, by mirrors. -/
namespace Mp
open PySem PySem.Spec PyProof.Rows L2
section
variable {E : SE} {W : WX} {X : Cx}
def itQ (t : Bool) (K : PySem.W.Frag) (a : Addr) : It := match t with
  | false => Itl K a
  | true => Itt K a
/-- a list or a tuple, walked -/
def iSeqG (K : PySem.W.Frag) (x : V) (H : Hp) (R : It → Hp → Prop) : Prop := ∃ t a xs, x = .ref a ∧ SqV t K H a xs ∧ R (itQ t K a) H
theorem pi_seqG {tg l : Expr} {tl : TE} (hl : PE X l tl) : PI X tg l (fun σ H R => tl σ H fun x H1 => iSeqG X.K x H1 R) := by
  refine ⟨fun pins s σ H R I h => ?_⟩
  refine thn (hl.run pins s σ H _ I h) fun v s1 ⟨x, H1, I1, r1, q1⟩ => ?_
  obtain ⟨t, a, xs, e, hq, q⟩ := q1
  subst e
  cases r1
  cases t with
  | false =>
    obtain ⟨its, rv, p, hz⟩ := I1.list hq
    refine wpAny_pyIter_list p.isList ?_
    refine ⟨s1.heap.objs.size, [s1.heap.objs.size], _, _, H1, rfl, I1.kept (t' := s1.toks) fun b o e => Heap.get?_push_of_some _ e, turn_list a _, ⟨_, Heap.get?_push_size _ rfl, rfl, rfl⟩, fun b hb => ?_, q⟩
    have e : b = s1.heap.objs.size := by simpa using hb
    subst e
    exact I1.fpOk (Nat.le_refl _) (I1.hok.fresh (Nat.le_refl _))
  | true =>
    obtain ⟨its, rv, p, hz⟩ := I1.tuple hq
    refine wpAny_pyIter_tuple (show s1.heap.IsTuple a its.toArray from p) ?_
    refine ⟨s1.heap.objs.size, [s1.heap.objs.size], _, _, H1, rfl, I1.kept (t' := s1.toks) fun b o e => Heap.get?_push_of_some _ e, turn_tuple a _, ⟨_, Heap.get?_push_size _ rfl, rfl, rfl⟩, fun b hb => ?_, q⟩
    have e : b = s1.heap.objs.size := by simpa using hb
    subst e
    exact I1.fpOk (Nat.le_refl _) (I1.hok.fresh (Nat.le_refl _))
/-- a value's items, and while they stand -/
def seqI (st : Store) : D → Option (List D × (Store → Bool))
  | .lst ds => some (ds, fun _ => true)
  | .tup ds => some (ds, fun _ => true)
  | .scr ns => some (ns.map D.int, fun _ => true)
  | _ => none
theorem Reps.ints {g : Gh} : ∀ ns : List Int, Reps E g (ns.map D.int) (ns.map V.int)
  | [] => .nil
  | n :: ns => .cons (by simp only [Rep]) (Reps.ints ns)
/-- where the items stand: as a list, as a tuple -/
theorem seqI_s {g : Gh} {fr : Fr} {st : Store} {σ : L2.St} {H : Hp} {d : D} {v : V} {ds : List D} {C : Store → Bool} (r : RelF E g fr st σ H) (rv : Rep E g d v) (e : seqI st d = some (ds, C)) :
    ∃ t a xs, v = .ref a ∧ SqV t E.K g.G a xs ∧ Reps E g ds xs := by
  unfold seqI at e
  split at e
  · cases e
    simp only [Rep] at rv
    obtain ⟨a, xs, rfl, h1, h2, h3⟩ := rv
    exact ⟨false, a, xs, rfl, SqL.of h1, h3⟩
  · cases e
    simp only [Rep] at rv
    obtain ⟨a, xs, rfl, h1, h2, h3⟩ := rv
    exact ⟨true, a, xs, rfl, h1, h3⟩
  · cases e
    simp only [Rep] at rv
    obtain ⟨a, rfl, h1, _⟩ := rv
    exact ⟨false, a, _, rfl, h1, Reps.ints _⟩
  · cases e
theorem itd_seq (hK : X.K = E.K) {g : Gh} {t : Bool} {a : Addr} {xs : List V} {ds : List D} {C : Store → Bool} (h : SqV t E.K g.G a xs) (rs : Reps E g ds xs) : ItD E g (itQ t X.K a) ds C := by
  have hl := rs.length
  have at_ : ∀ {i : Nat} {d : D} {x : V}, ds[i]? = some d → xs[i]? = some x → Rep E g d x := fun {i d x} e1 e2 => by
    obtain ⟨d', e3, r⟩ := rs.get' e2
    rw [e1] at e3
    cases e3
    exact r
  cases t with
  | false =>
    refine ⟨fun i d e g' st H le r _ => ?_, fun g' st H le r _ => ?_, fun i d e g' st H x H' le r _ y => ?_⟩
    · obtain ⟨v, e1, _⟩ := rs.get e
      exact ⟨xs, v, by rw [hK]; exact sub_l (fun a o q => r.sub a o (le.G a o q)) h, e1⟩
    · exact ⟨xs, by rw [hK]; exact sub_l (fun a o q => r.sub a o (le.G a o q)) h, by omega⟩
    · obtain ⟨rfl, y⟩ := y
      exact .inl ⟨rfl, (at_ e (y xs (by rw [hK]; exact sub_l (fun a o q => r.sub a o (le.G a o q)) h))).mono le⟩
  | true =>
    refine ⟨fun i d e g' st H le r _ => ?_, fun g' st H le r _ => ?_, fun i d e g' st H x H' le r _ y => ?_⟩
    · obtain ⟨v, e1, _⟩ := rs.get e
      exact ⟨xs, v, by rw [hK]; exact sub_t (fun a o q => r.sub a o (le.G a o q)) h, e1⟩
    · exact ⟨xs, by rw [hK]; exact sub_t (fun a o q => r.sub a o (le.G a o q)) h, by omega⟩
    · obtain ⟨rfl, y⟩ := y
      exact .inl ⟨rfl, (at_ e (y xs (by rw [hK]; exact sub_t (fun a o q => r.sub a o (le.G a o q)) h))).mono le⟩
abbrev Src := M (List D × (Store → Bool))
def mItS (m : M D) : Src := do
  let d ← m
  liftS fun st => seqI st d
theorem s_iseq (hK : X.K = E.K) {tg e : Expr} {m : M D} (h : PE X e (tI E W m)) : PI X tg e (tII E W (mItS m)) := pi_imp (pi_seqG h) fun σ H R h => by
  obtain ⟨g, fr, st, rl, p⟩ := h
  refine tI_bind rl p fun g1 fr1 st1 H1 d v t rv => ?_
  have hp := t.post
  unfold liftS at hp
  dsimp only at hp
  cases e1 : seqI st1 d with
  | none => rw [e1] at hp; exact hp.elim
  | some q =>
    obtain ⟨ds, C⟩ := q
    rw [e1] at hp
    obtain ⟨t0, a, xs, rfl, h1, h2⟩ := seqI_s t.rel rv e1
    exact ⟨t0, a, xs, rfl, by rw [hK]; exact h1.sub t.rel.sub, hp g1 H1 (.refl ..) t.rel _ (itd_seq hK h1 h2)⟩
def mItStr (m : M D) : Src := do
  let d ← m
  lift (match d with | .str x => some (x.cps.toList.map fun c => D.str ⟨#[c]⟩, fun _ => true) | _ => none)
theorem s_istr {tg e : Expr} {m : M D} (h : PE X e (tI E W m)) : PI X tg e (tII E W (mItStr m)) := pi_imp (pi_str h) fun σ H R h => by
  obtain ⟨g, fr, st, rl, p⟩ := h
  refine tI_bind rl p fun g1 fr1 st1 H1 d v t rv => ?_
  have hp := t.post
  cases d with
  | str x =>
    simp only [Rep] at rv
    refine ⟨x, rv, hp g1 H1 (.refl ..) t.rel _ ?_⟩
    have hl : (x.cps.toList.map fun c => D.str ⟨#[c]⟩).length = x.cps.size := by simp
    refine ⟨fun i d e g' st H le r _ => ?_, fun g' st H le r _ => by show x.cps.size ≤ _; rw [hl]; exact Nat.le_refl _, fun i d e g' st H y H' le r _ z => ?_⟩
    · show i < x.cps.size
      rw [← hl]
      exact (List.getElem?_eq_some_iff.mp e).1
    · obtain ⟨rfl, c, ec, rfl⟩ := z
      rw [List.getElem?_map, Array.getElem?_toList, ec] at e
      cases e
      exact .inl ⟨rfl, by simp only [Rep]⟩
  | _ => exact hp.elim
/-- range(n), range(i, j) -/
def rngI (lo hi : Int) : Option (List D × (Store → Bool)) := if -(2 ^ 62) ≤ lo ∧ lo < 2 ^ 62 ∧ -(2 ^ 62) ≤ hi ∧ hi < 2 ^ 62 then some ((List.range (hi - lo).toNat).map fun (k : Nat) => D.int (lo + k), fun _ => true) else none
theorem itd_rng {g : Gh} {lo : Int} {n : Nat} {C : Store → Bool} : ItD E g (Itr lo n) ((List.range n).map fun (k : Nat) => D.int (lo + k)) C := by
  have hl : ((List.range n).map fun (k : Nat) => D.int (lo + k)).length = n := by simp
  refine ⟨fun i d e g' st H le r _ => ?_, fun g' st H le r _ => by show n ≤ _; rw [hl]; exact Nat.le_refl _, fun i d e g' st H y H' le r _ z => ?_⟩
  · show i < n
    rw [← hl]
    exact (List.getElem?_eq_some_iff.mp e).1
  · obtain ⟨rfl, rfl⟩ := z
    have hi : i < n := by rw [← hl]; exact (List.getElem?_eq_some_iff.mp e).1
    rw [List.getElem?_map, List.getElem?_range hi] at e
    cases e
    exact .inl ⟨rfl, by simp only [Rep]⟩
def mItR1 (ms : M (List D)) : Src := do
  let ds ← ms
  lift (match ds with | [.int j] => rngI 0 j | _ => none)
def mItR2 (ms : M (List D)) : Src := do
  let ds ← ms
  lift (match ds with | [.int i, .int j] => rngI i j | _ => none)
theorem s_irng1 {tg a : Expr} {ms : M (List D)} {p pos : Pos} (hm : X.mg "range" = none) (ha : PA X [a] (tIA E W ms)) (hg : Gl X "range" := by rfl) (hs : starEach [a] X.env = [(false, eval a X.env)] := by rfl) : PI X tg (.Call (.Name "range" p) [a] [] pos) (tII E W (mItR1 ms)) :=
  pi_imp (pi_range1 hg hm ha hs) fun σ H R h => by
    obtain ⟨g, fr, st, rl, p⟩ := h
    refine tIA_bind rl p fun g1 fr1 st1 H1 ds vs t rs => ?_
    have hp := t.post
    split at hp
    · rename_i j
      obtain ⟨v, rfl, rv⟩ := rs.one
      simp only [Rep] at rv
      subst rv
      unfold rngI at hp
      split at hp
      · rename_i hc
        have e : (j - 0).toNat = j.toNat := by rw [Int.sub_zero]
        refine ⟨j, rfl, hc.2.2.1, hc.2.2.2, hp g1 H1 (.refl ..) t.rel _ ?_⟩
        rw [e]
        exact itd_rng
      · exact hp.elim
    · exact hp.elim
theorem s_irng2 {tg a b : Expr} {ms : M (List D)} {p pos : Pos} (hm : X.mg "range" = none) (ha : PA X [a, b] (tIA E W ms)) (hg : Gl X "range" := by rfl) (hs : starEach [a, b] X.env = [(false, eval a X.env), (false, eval b X.env)] := by rfl) (hs2 : starEach [b] X.env = [(false, eval b X.env)] := by rfl) : PI X tg (.Call (.Name "range" p) [a, b] [] pos) (tII E W (mItR2 ms)) :=
  pi_imp (pi_range2 hg hm ha hs hs2) fun σ H R h => by
    obtain ⟨g, fr, st, rl, p⟩ := h
    refine tIA_bind rl p fun g1 fr1 st1 H1 ds vs t rs => ?_
    have hp := t.post
    split at hp
    · rename_i i j
      obtain ⟨v, w, rfl, rv, rw'⟩ := rs.two
      simp only [Rep] at rv rw'
      subst rv rw'
      unfold rngI at hp
      split at hp
      · rename_i hc
        exact ⟨i, j, rfl, hc, hp g1 H1 (.refl ..) t.rel _ itd_rng⟩
      · exact hp.elim
    · exact hp.elim
/-- enumerate(x) -/
def mItE (ms : M (List D)) : Src := do
  let ds ← ms
  liftS fun st => match ds with
    | [d] => (seqI st d).map fun p => ((List.range p.1.length).zipWith (fun (k : Nat) x => D.tup [.int k, x]) p.1, p.2)
    | _ => none
theorem two_line : (2 : Nat) ≤ sizeLine := by rw [sizeLine_eq]; decide
theorem s_ienum (hK : X.K = E.K) {e : Expr} {elts : List Expr} {kk : Nat} {ms : M (List D)} {p pos tpos : Pos} (hm : X.mg "enumerate" = none) (ha : PA X [e] (tIA E W ms)) (hg : Gl X "enumerate" := by rfl) (hs : starEach [e] X.env = [(false, eval e X.env)] := by rfl) : PI X (.Tuple elts kk tpos) (.Call (.Name "enumerate" p) [e] [] pos) (tII E W (mItE ms)) :=
  pi_imp (pi_enumG hg hm ha hs) fun σ H R h => by
    obtain ⟨g, fr, st, rl, p⟩ := h
    refine tIA_bind rl p fun g1 fr1 st1 H1 ds vs t rs => ?_
    have hp := t.post
    unfold liftS at hp
    dsimp only at hp
    split at hp
    · rename_i q e1
      split at e1
      · rename_i d
        obtain ⟨⟨is, C⟩, e2, rfl⟩ := Option.map_eq_some_iff.mp e1
        obtain ⟨v, rfl, rv⟩ := rs.one
        obtain ⟨t0, a, xs, rfl, h1, h2⟩ := seqI_s t.rel rv e2
        refine ⟨t0, a, xs, rfl, by rw [hK]; exact h1.sub t.rel.sub, hp g1 H1 (.refl ..) t.rel _ ?_⟩
        have hl := h2.length
        have hl2 : ((List.range is.length).zipWith (fun (k : Nat) x => D.tup [.int k, x]) is).length = is.length := by simp
        refine ⟨fun i d e g' st H le r _ => ?_, fun g' st H le r _ => ?_, fun i d e g' st H x H' le r _ y => ?_⟩
        · have hi : i < is.length := by rw [← hl2]; exact (List.getElem?_eq_some_iff.mp e).1
          obtain ⟨u, e4, _⟩ := h2.get (i := i) (List.getElem?_eq_getElem hi)
          exact ⟨xs, u, by rw [hK]; exact h1.sub (fun a o q => r.sub a o (le.G a o q)), e4⟩
        · exact ⟨xs, by rw [hK]; exact h1.sub (fun a o q => r.sub a o (le.G a o q)), by rw [hl2, hl]; exact Nat.le_refl _⟩
        · obtain ⟨T, x', rfl, hT, rfl, f1⟩ := y
          have ex := f1 xs (by rw [hK]; exact h1.sub (fun a o q => r.sub a o (le.G a o q)))
          obtain ⟨d', e5, r5⟩ := h2.get' ex
          have hi : i < is.length := (List.getElem?_eq_some_iff.mp e5).1
          rw [List.getElem?_zipWith, List.getElem?_range hi, e5] at e
          cases e
          refine .inr ⟨T, _, hT, rfl, fun g2 le2 eT => ?_⟩
          simp only [Rep]
          exact ⟨T, _, rfl, SqT.of eT, two_line, .cons (by simp only [Rep]) (.cons ((r5.mono le).mono le2) .nil)⟩
      · cases e1
    · exact hp.elim
/-- zip(x, y) -/
def mItZ (ms : M (List D)) : Src := do
  let ds ← ms
  liftS fun st => match ds with
    | [x, y] => match seqI st x, seqI st y with
      | some p, some q => some (p.1.zipWith (fun x y => D.tup [x, y]) q.1, fun st => p.2 st && q.2 st)
      | _, _ => none
    | _ => none
theorem s_izip (hK : X.K = E.K) {e e2 : Expr} {elts : List Expr} {kk : Nat} {ms : M (List D)} {p pos tpos : Pos} (hm : X.mg "zip" = none) (ha : PA X [e, e2] (tIA E W ms)) (hg : Gl X "zip" := by rfl) (hs : starEach [e, e2] X.env = (false, eval e X.env) :: starEach [e2] X.env := by rfl) (hpl : (backTo pos (starEach [e2] X.env)).any (·.1) = false := by rfl) :
    PI X (.Tuple elts kk tpos) (.Call (.Name "zip" p) [e, e2] [] pos) (tII E W (mItZ ms)) :=
  pi_imp (pi_zipG hg hm ha hs hpl) fun σ H R h => by
    obtain ⟨g, fr, st, rl, p⟩ := h
    refine tIA_bind rl p fun g1 fr1 st1 H1 ds vs t rs => ?_
    have hp := t.post
    unfold liftS at hp
    dsimp only at hp
    split at hp
    · rename_i q e1
      split at e1
      · rename_i dx dy
        split at e1
        · rename_i px py e2 e3
          cases e1
          obtain ⟨ix, Cx'⟩ := px
          obtain ⟨iy, Cy⟩ := py
          obtain ⟨v, w, rfl, rv, rw'⟩ := rs.two
          obtain ⟨t1, a, xs, rfl, h1, h2⟩ := seqI_s t.rel rv e2
          obtain ⟨t2, b, ys, rfl, h3, h4⟩ := seqI_s t.rel rw' e3
          refine ⟨t1, t2, a, b, xs, ys, rfl, by rw [hK]; exact h1.sub t.rel.sub, by rw [hK]; exact h3.sub t.rel.sub, hp g1 H1 (.refl ..) t.rel _ ?_⟩
          have hl := h2.length
          have hl' := h4.length
          have hl2 : (ix.zipWith (fun x y => D.tup [x, y]) iy).length = min ix.length iy.length := by simp
          refine ⟨fun i d e g' st H le r _ => ?_, fun g' st H le r _ => ?_, fun i d e g' st H x H' le r _ y => ?_⟩
          · have hi : i < min ix.length iy.length := by rw [← hl2]; exact (List.getElem?_eq_some_iff.mp e).1
            obtain ⟨u, e4, _⟩ := h2.get (i := i) (List.getElem?_eq_getElem (by omega))
            obtain ⟨u2, e5, _⟩ := h4.get (i := i) (List.getElem?_eq_getElem (by omega))
            exact ⟨xs, ys, u, u2, by rw [hK]; exact h1.sub (fun a o q => r.sub a o (le.G a o q)), by rw [hK]; exact h3.sub (fun a o q => r.sub a o (le.G a o q)), e4, e5⟩
          · refine ⟨xs, ys, by rw [hK]; exact h1.sub (fun a o q => r.sub a o (le.G a o q)), by rw [hK]; exact h3.sub (fun a o q => r.sub a o (le.G a o q)), ?_⟩
            show _ ≤ (ix.zipWith (fun x y => D.tup [x, y]) iy).length ∨ _ ≤ (ix.zipWith (fun x y => D.tup [x, y]) iy).length
            rw [hl2, hl, hl']
            omega
          · obtain ⟨T, x', y', rfl, hT, rfl, f1, f2⟩ := y
            have ex := f1 xs (by rw [hK]; exact h1.sub (fun a o q => r.sub a o (le.G a o q)))
            have ey := f2 ys (by rw [hK]; exact h3.sub (fun a o q => r.sub a o (le.G a o q)))
            obtain ⟨d', e5, r5⟩ := h2.get' ex
            obtain ⟨d2, e6, r6⟩ := h4.get' ey
            have e : (ix.zipWith (fun x y => D.tup [x, y]) iy)[i]? = some d := e
            rw [List.getElem?_zipWith, e5, e6] at e
            cases e
            refine .inr ⟨T, _, hT, rfl, fun g2 le2 eT => ?_⟩
            simp only [Rep]
            exact ⟨T, _, rfl, SqT.of eT, two_line, .cons ((r5.mono le).mono le2) (.cons ((r6.mono le).mono le2) .nil)⟩
        · cases e1
      · cases e1
    · exact hp.elim
end
end Mp
end
section
/-! Mp, part 19: new lists and dicts, frozen or shared; dict(zip(x, y)). -/
namespace Mp
open PySem
section
variable {prog : Program} {w : World} {A : Around} {E : Value → Shared → Prop} {s : Shared}
theorem g_pairArg_zip (t1 t2 : Bool) (z TI TO i1 i2 l1 l2 : Addr) (D : ZipApart z TI TO i1 i2 l1 l2) (xs ys : Array Value) :
    PairArg prog w "zip" z [z, TI, TO, i1, i2, l1, l2] [z, TO, i1, i2] (min xs.size ys.size) (fun i k v => xs[i]? = some k ∧ ys[i]? = some v)
      (fun h => IsZip h z TI TO .none ∧ IsPair h TI (.ref i1) (.ref i2) ∧ (∃ a b, IsPair h TO a b) ∧ SIt t1 h i1 l1 0 ∧ SIt t2 h i2 l2 0 ∧ SSq t1 h l1 xs ∧ SSq t2 h l2 ys) where
  type := fun s ok => ⟨_, ok.1, rfl⟩
  notDict := by decide
  keep := fun h h' ok hk => by
    obtain ⟨hz, hTI, ⟨a, b, hTO⟩, h1, h2, hl1, hl2⟩ := ok
    exact ⟨hk _ _ hz, hk _ _ hTI, ⟨a, b, hk _ _ hTO⟩, h1.at fun o e => hk _ o e, h2.at fun o e => hk _ o e, hl1.at fun o e => hk _ o e, hl2.at fun o e => hk _ o e⟩
  there := fun h ok b hb => by
    obtain ⟨hz, hTI, ⟨a, c, hTO⟩, h1, h2, hl1, hl2⟩ := ok
    obtain ⟨o1, h1, _⟩ := h1.there
    obtain ⟨o2, h2, _⟩ := h2.there
    obtain ⟨o3, hl1⟩ := hl1.there
    obtain ⟨o4, hl2⟩ := hl2.there
    simp only [List.mem_cons, List.not_mem_nil, or_false] at hb
    rcases hb with rfl | rfl | rfl | rfl | rfl | rfl | rfl
    all_goals first | exact ⟨_, hz⟩ | exact ⟨_, hTI⟩ | exact ⟨_, hTO⟩ | exact ⟨_, h1⟩ | exact ⟨_, h2⟩ | exact ⟨_, hl1⟩ | exact ⟨_, hl2⟩
  sub := fun b hb => by simp at hb ⊢; rcases hb with rfl | rfl | rfl | rfl <;> simp
  noKeys := fun A s Q E hA ok h => getAttrOr_miss_zip ok.1 rfl rfl rfl zip_no_keys (by decide +kernel) hA h
  iter := fun A s d Q E hA ok hd hdf h => by
    obtain ⟨hz, hTI, ⟨a, b, hTO⟩, h1, h2, hl1, hl2⟩ := ok
    simp only [List.mem_cons, List.not_mem_nil, or_false, not_or] at hdf
    obtain ⟨dz, dTI, dTO, di1, di2, dl1, dl2⟩ := hdf
    refine wpAny_pyIter_zip hz (h z [z, TO, i1, i2] (fun i h => IsPair h TI (.ref i1) (.ref i2) ∧ SIt t1 h i1 l1 i ∧ SIt t2 h i2 l2 i ∧ SSq t1 h l1 xs ∧ SSq t2 h l2 ys ∧
      ((IsZip h z TI TO .none ∧ ∃ a b, IsPair h TO a b) ∨ ∃ T f oT, IsZipHeld h z TI TO T f ∧ h.get? T = some oT ∧ T ≠ z ∧ T ≠ i1 ∧ T ≠ i2 ∧ T ≠ d)) s.heap s.toks ?_
      ⟨hTI, h1, h2, hl1, hl2, .inl ⟨hz, a, b, hTO⟩⟩ (fun _ _ e => e) fun b hb => .inl hb)
    exact {
      off := fun hm => by
        simp only [List.mem_cons, List.not_mem_nil, or_false] at hm
        rcases hm with e | e | e | e
        · exact dz e
        · exact dTO e
        · exact di1 e
        · exact di2 e
      frame := fun i h₁ h₂ st hk => by
        obtain ⟨hTI, h1, h2, hl1, hl2, hz⟩ := st
        refine ⟨hk _ _ (Ne.symm dTI) hTI, h1.at fun o e => hk _ o (Ne.symm di1) e, h2.at fun o e => hk _ o (Ne.symm di2) e, hl1.at fun o e => hk _ o (Ne.symm dl1) e, hl2.at fun o e => hk _ o (Ne.symm dl2) e, ?_⟩
        rcases hz with ⟨hz, a, b, hTO⟩ | ⟨T, f, oT, hz, hT, r1, r2, r3, r4⟩
        · exact .inl ⟨hk _ _ (Ne.symm dz) hz, a, b, hk _ _ (Ne.symm dTO) hTO⟩
        · exact .inr ⟨T, f, oT, hk _ _ (Ne.symm dz) hz, hk _ _ r4 hT, r1, r2, r3, r4⟩
      item := fun i s₁ Q₁ E₁ hi st hds hQ => by
        obtain ⟨hTI, h1, h2, hl1, hl2, hz⟩ := st
        have hix : i < xs.size := Nat.lt_of_lt_of_le hi (Nat.min_le_left ..)
        have hiy : i < ys.size := Nat.lt_of_lt_of_le hi (Nat.min_le_right ..)
        have ex := Array.getElem?_eq_getElem hix
        have ey := Array.getElem?_eq_getElem hiy
        have lt : ∀ {c o}, s₁.heap.get? c = some o → s₁.heap.objs.size ≠ c := fun e => Nat.ne_of_gt (Heap.lt_size e)
        have n1 : s₁.heap.objs.size ≠ i1 := let ⟨_, e, _⟩ := h1.there; lt e
        have n2 : s₁.heap.objs.size ≠ i2 := let ⟨_, e, _⟩ := h2.there; lt e
        rcases hz with ⟨hz, a, b, hTO⟩ | ⟨T, f, oT, hz, hT, r1, r2, r3, r4⟩
        · refine g_wpAny_pyNext_zip_item D hz hTI hTO h1 h2 hl1 hl2 ex ey fun h' a1 a2 a3 a4 a5 a6 hk => ?_
          exact hQ s₁.heap.objs.size _ _ h' s₁.toks ⟨ex, ey⟩ (.inl ⟨_, a5, rfl, _, rfl⟩)
            ⟨hk _ _ D.TIz D.TITO D.TIi1 D.TIi2 hTI, a3, a4, hl1.at fun o e => hk _ o D.l1z D.l1TO D.l1i1 D.l1i2 e, hl2.at fun o e => hk _ o D.l2z D.l2TO D.l2i1 D.l2i2 e,
              .inr ⟨s₁.heap.objs.size, false, _, a1, a5, lt hz, n1, n2, Nat.ne_of_gt hds⟩⟩
            fun c o hc e => hk c o (fun x => hc (by simp [x])) (fun x => hc (by simp [x])) (fun x => hc (by simp [x])) (fun x => hc (by simp [x])) e
        · refine g_wpAny_pyNext_zip_item_held D hz hT hTI h1 h2 hl1 hl2 ex ey fun h' a1 a3 a4 a5 a6 hk => ?_
          exact hQ s₁.heap.objs.size _ _ h' s₁.toks ⟨ex, ey⟩ (.inl ⟨_, a5, rfl, _, rfl⟩)
            ⟨hk _ _ D.TIz D.TIi1 D.TIi2 hTI, a3, a4, hl1.at fun o e => hk _ o D.l1z D.l1i1 D.l1i2 e, hl2.at fun o e => hk _ o D.l2z D.l2i1 D.l2i2 e,
              .inr ⟨T, true, oT, a1, hk _ _ r1 r2 r3 hT, r1, r2, r3, r4⟩⟩
            fun c o hc e => hk c o (fun x => hc (by simp [x])) (fun x => hc (by simp [x])) (fun x => hc (by simp [x])) e
      done := fun s₁ Q₁ E₁ st hQ => by
        obtain ⟨hTI, h1, h2, hl1, hl2, hz⟩ := st
        have hend : xs[min xs.size ys.size]? = none ∨ ys[min xs.size ys.size]? = none := by
          rcases Nat.le_total xs.size ys.size with h | h
          · exact .inl (Array.getElem?_eq_none (by rw [Nat.min_eq_left h]; exact Nat.le_refl _))
          · exact .inr (Array.getElem?_eq_none (by rw [Nat.min_eq_right h]; exact Nat.le_refl _))
        rcases hz with ⟨hz, a, b, hTO⟩ | ⟨T, f, oT, hz, hT, r1, r2, r3, r4⟩
        · exact g_wpAny_pyNext_zip_end hA D hz hTI hTO h1 h2 hl1 hl2 hend fun h' hk => hQ h' s₁.toks fun c o hc e => hk c o (fun x => hc (by simp [x])) (fun x => hc (by simp [x])) (fun x => hc (by simp [x])) (fun x => hc (by simp [x])) e
        · exact g_wpAny_pyNext_zip_end_held hA D hz hT hTI h1 h2 hl1 hl2 hend fun h' hk => hQ h' s₁.toks fun c o hc e => hk c o (fun x => hc (by simp [x])) (fun x => hc (by simp [x])) (fun x => hc (by simp [x])) e }


end
end Mp
namespace Mp
open PySem PySem.Spec PyProof.Rows L2
section
variable {prog : Program} {w : World} {A : Around} {EE : Value → Shared → Prop} {s : Shared}
theorem idx_none {ks : List NestedKey} {k : NestedKey} (h : k ∉ ks) : (ks.findIdx? fun x => decide (x = k)) = none := List.findIdx?_eq_none_iff.mpr fun x hx => decide_eq_false fun q => h (q ▸ hx)
theorem idx_some {ks : List NestedKey} (nd : ks.Nodup) {k : NestedKey} {j : Nat} (h : ks[j]? = some k) : (ks.findIdx? fun x => decide (x = k)) = some j := by
  obtain ⟨hl, ej⟩ := List.getElem?_eq_some_iff.mp h
  refine List.findIdx?_eq_some_iff_getElem.mpr ⟨hl, decide_eq_true ej, fun i hi => ?_⟩
  simp only [Bool.not_eq_true, decide_eq_false_iff_not]
  intro q
  have := nodup_at nd (i := i) (j := j) (k := k) (by rw [List.getElem?_eq_getElem (by omega), q]) h
  omega
theorem dictSet_n {d : Addr} {ks : List NestedKey} {es : Array DictEntry} {k : NestedKey} {u v : Value} {Q : Unit → Shared → Prop} (hu : A.units + 8 < cLine) (hkey : NestedIs s.heap k u) (hd8 : k.depth ≤ 8) (hm : DN w s.heap d ks es) (hsz : es.size ≤ sizeLine)
    (hQ : ∀ h' o ep, h'.get? d = some o → o.ExactDict → o.data = .dict (putE w ks es k u v) ep → Heap.SameBut d s.heap h' → Q () { s with heap := h', toks := s.toks + k.draws }) : wpAny (model prog w) A (dictSet d u v) Q EE s := by
  obtain ⟨o, ep, ho, hc, hd, K⟩ := hm
  unfold dictSet
  try with_reducible refine wpAny_holding ?_
  refine wpAny_bind (pyHash_key k u A s _ hkey (by omega) ?_)
  unfold dictSetHashed
  try with_reducible refine wpAny_holding ?_
  refine wpAny_bind (find_n (s := { s with toks := s.toks + k.draws }) hu hkey hd8 ho hd K ?_ ?_)
  · intro hno
    unfold putE at hQ
    rw [idx_none hno] at hQ
    exact wpAny_bind (wpAny_rule (wpAny_updateDictKeys (hz := hsz) (s := { s with toks := s.toks + k.draws }) ho hd (hQ _ _ (ep + 1) (Heap.get?_update_self _ ho (Obj.isFreed_of_dict (Obj.data_mapDictKeys hd _))) (hc.mapDictKeys _) (Obj.data_mapDictKeys hd _) (Heap.SameBut.update ..))))
  · intro j hj
    unfold putE at hQ
    rw [idx_some K.nd hj] at hQ
    exact wpAny_bind (wpAny_rule (wpAny_bind (wpAny_updateDict (s := { s with toks := s.toks + k.draws }) ho hd (wpAny_point (hQ _ _ ep (Heap.get?_update_self _ ho (Obj.isFreed_of_dict (Obj.data_mapDict hd _))) (hc.mapDict _) (Obj.data_mapDict hd _) (Heap.SameBut.update ..))))))
end

/-! ### new objects -/
/-- a new object: shared, or a value -/
def newD (sh : Bool) (m : MO) : M D := fun fr st => match sh with
  | true => .ok (.ref st.next) fr (st.new m)
  | false => .ok m.val fr st
section
variable {E : SE} {W : WX} {X : Cx}
theorem newD_post {sh : Bool} {m : MO} {g : Gh} {fr : Fr} {st : Store} {σ : L2.St} {H : Hp} {Q : VK} (r : RelF E g fr st σ H) (p : Post E W g (foS E g st) H σ (RV E Q) (newD sh m fr st)) {a : Addr} {o : HO} (ha : H a = none) (ho : ∀ g', GLe g g' → ObjRel E g' (upd H a o) a m) : Q (.ref a) (upd H a o) := by
  cases sh with
  | true =>
    obtain ⟨r', e'⟩ := r.newS ha ho
    refine p _ _ e' r' _ ?_
    simp only [Rep]
    exact ⟨by show st.next < g.nx + 1; rw [r.nx]; exact Nat.lt_succ_self _, congrArg V.ref (if_pos r.nx.symm).symm⟩
  | false =>
    obtain ⟨r', e'⟩ := r.newF ha o
    exact p _ _ e' r' _ ((ho g (.refl g)).val upd_same (r.gnone ha))
/-- [x, ..] -/
def mLstN (sh : Bool) (ms : M (List D)) : M D := do
  let ds ← ms
  if ds.length ≤ sizeLine then newD sh (.lst ds) else M.stuck
theorem s_lstN (sh : Bool) {es : List Expr} {ms : M (List D)} {pos : Pos} (h : PA X es (tIA E W ms)) : PE X (.List es pos) (tI E W (mLstN sh ms)) := pe_imp (pe_lst h) fun σ H Q h => by
  obtain ⟨g, fr, st, r, p⟩ := h
  refine tIA_bind r p fun g1 fr1 st1 H1 ds vs t rvs => ?_
  have hp := t.post
  have hl := rvs.length
  split at hp
  · exact ⟨by omega, fun q hq => newD_post t.rel hp hq fun g' le => ⟨vs, upd_same, by omega, rvs.mono le⟩⟩
  · exact hp.elim
/-- list(x) -/
def mListN (sh : Bool) (ms : M (List D)) : M D := do
  let ds ← ms
  let xs ← liftS fun st => match ds with
    | [d] => itemsD st d
    | _ => none
  newD sh (.lst xs)
theorem s_listN (hK : X.K = E.K) (sh : Bool) {e : Expr} {ms : M (List D)} {p pos : Pos} (hm : X.mg "list" = none) (ha : PA X [e] (tIA E W ms)) (hg : Gl X "list" := by rfl) (he : starEach [e] X.env = (false, eval e X.env) :: starEach [] X.env := by rfl) : PE X (.Call (.Name "list" p) [e] [] pos) (tI E W (mListN sh ms)) :=
  pe_imp (pe_callTy call_list_of hg hm boot_list ha (by decide) (by decide) he rfl) fun σ H Q h => by
    obtain ⟨g, fr, st, r, p⟩ := h
    refine tIA_bind r p fun g1 fr1 st1 H1 ds vs t rvs => ?_
    have hp := t.post.bind
    unfold liftS at hp
    dsimp only at hp
    split at hp
    · rename_i xs e1
      split at e1
      · rename_i d
        have t2 := hp g1 H1 (.refl ..) t.rel
        obtain ⟨v, rfl, rv⟩ := rvs.one
        obtain ⟨a, ys, rfl, h1, h2, h3⟩ := items_s t.rel rv e1
        exact ⟨a, ys, rfl, by rw [hK]; exact h1, fun l hl => newD_post t2.rel t2.post hl fun g' le => ⟨ys, upd_same, h2, h3.mono le⟩⟩
      · cases e1
    · exact hp.elim

/-! ### dict(zip(x, y)) -/
def dmerge : List D → List D → List (D × D) → Option (List D × List D)
  | ks, vs, [] => some (ks, vs)
  | ks, vs, p :: r => match dputD ks vs p.1 p.2 with
    | some q => dmerge q.1 q.2 r
    | none => none
theorem dmerge_take : ∀ {l : List (D × D)} {ks vs : List D} {i : Nat} {p : D × D} {q : List D × List D}, l[i]? = some p → dmerge ks vs (l.take (i + 1)) = some q → ∃ q0, dmerge ks vs (l.take i) = some q0 ∧ dputD q0.1 q0.2 p.1 p.2 = some q
  | [], _, _, _, _, _, e, _ => by simp at e
  | x :: l, ks, vs, 0, p, q, e, h => by
    simp only [List.getElem?_cons_zero, Option.some.injEq] at e
    subst e
    simp only [List.take_succ_cons, List.take_zero, dmerge] at h ⊢
    cases e1 : dputD ks vs x.1 x.2 with
    | none => rw [e1] at h; cases h
    | some z =>
      rw [e1] at h
      exact ⟨(ks, vs), rfl, h.symm ▸ e1⟩
  | x :: l, ks, vs, i + 1, p, q, e, h => by
    simp only [List.take_succ_cons, dmerge] at h ⊢
    cases e1 : dputD ks vs x.1 x.2 with
    | none => rw [e1] at h; cases h
    | some z =>
      rw [e1] at h
      exact dmerge_take (by simpa using e) h
theorem dmerge_pre : ∀ {l : List (D × D)} {ks vs : List D} {q : List D × List D}, dmerge ks vs l = some q → ∀ i, ∃ q0, dmerge ks vs (l.take i) = some q0
  | [], ks, vs, q, h, i => ⟨(ks, vs), by simp [dmerge]⟩
  | x :: l, ks, vs, q, h, 0 => ⟨(ks, vs), by simp [dmerge]⟩
  | x :: l, ks, vs, q, h, i + 1 => by
    simp only [List.take_succ_cons, dmerge] at h ⊢
    cases e1 : dputD ks vs x.1 x.2 with
    | none => rw [e1] at h; cases h
    | some z =>
      rw [e1] at h
      exact dmerge_pre h i
end
end Mp
end
section
/-! Mp, part 20: dict(zip(x, y)). -/
namespace Mp
open PySem PySem.Spec PyProof.Rows L2
section
variable {E : SE} {W : WX} {X : Cx}
/-- a dict's object, filled with these, at a later heap that keeps what stood in s -/
theorem dn_later {g : Gh} {pins : List (Addr × Obj)} {σ : L2.St} {H : Hp} {s : Shared} {h' : Heap} {d : Addr} {o : Obj} {es : Array DictEntry} {ep : Nat} {kds : List D} {ks vs : List V} {nks : List NestedKey} (hK : X.K = E.K) (hw : X.w = E.w) (I : Inv X pins σ H s) (sub : ∀ a o, g.G a = some o → H a = some o)
    (keep : ∀ b o vs n, s.heap.get? b = some o → o.data = .seq vs n → h'.get? b = some o) (h1 : h'.get? d = some o) (h2 : o.ExactDict) (h3 : o.data = .dict es ep) (h4 : Ents (kds.map (D.hash E.w)) ks vs es.toList) (rk : Reps E g kds ks) (ok : okK kds = some nks) : DN X.w h' d nks es := by
  refine ⟨o, ep, h1, h2, h3, ?_⟩
  unfold okK at ok
  cases e1 : D.key.go kds with
  | none => rw [e1] at ok; cases ok
  | some nks' =>
    rw [e1] at ok
    dsimp only at ok
    split at ok
    · rename_i hc
      cases ok
      obtain ⟨l1, l2⟩ := key_go e1
      obtain ⟨m1, m2, m3, m4⟩ := h4.get
      have lk := rk.length
      refine ⟨by rw [l1, ← lk, m2]; simp, fun j e k he hk => ?_, hc.1⟩
      have he' : es.toList[j]? = some e := by rw [Array.getElem?_toList]; exact he
      obtain ⟨q1, ⟨kv, q2, q3⟩, _⟩ := m4 j e he'
      obtain ⟨kd, q4, q5⟩ := rk.get' q2
      have q6 := l2 j kd k q4 hk
      refine ⟨(q5.nested hK I sub q3 q6).at fun a o vs n q z => keep a o vs n q z, hc.2.1 k (List.mem_of_getElem? hk), ?_⟩
      rw [List.getElem?_map, q4] at q1
      have q7 : D.hash E.w kd = e.hash := Option.some.inj q1
      rw [← q7, hw]
      unfold D.hash
      rw [q6]
    · cases ok
/-- one more pair: what a write by data does to the entries -/
theorem put_ents {g : Gh} {kds vds : List D} {k v : D} {q : List D × List D} {ks vs : List V} {es : Array DictEntry} {vk vv : V} {u w : Value} (hw : X.w = E.w) (ep : dputD kds vds k v = some q) (hE : Ents (kds.map (D.hash E.w)) ks vs es.toList) (rk : Reps E g kds ks) (rv : Reps E g vds vs) (r1 : Rep E g k vk) (r2 : Rep E g v vv) (ru : RelV vk u) (rw' : RelV vv w) :
    ∃ nks nk, okK kds = some nks ∧ okKey k = some nk ∧ nks.length ≤ sizeLine ∧ ∃ ks' vs', Ents (q.1.map (D.hash E.w)) ks' vs' (putE X.w nks es nk u w).toList ∧ Reps E g q.1 ks' ∧ Reps E g q.2 vs' := by
  unfold dputD at ep
  cases ef : dfind kds k with
  | none => rw [ef] at ep; cases ep
  | some fo =>
    rw [ef] at ep
    obtain ⟨nks, nk, ek, ey, efo⟩ := dfind_s ef
    obtain ⟨k1, k2⟩ := okKey_s ey
    have lks : nks.length ≤ sizeLine := by
      unfold okK at ek
      split at ek
      · split at ek
        · rename_i hc
          cases ek
          exact hc.2.2
        · cases ek
      · cases ek
    refine ⟨nks, nk, ek, ey, lks, ?_⟩
    unfold putE
    rw [efo]
    cases fo with
    | some j =>
      cases ep
      refine ⟨ks, vs.set j vv, ?_, rk, rv.set r2 j⟩
      have := hE.set rw' j
      obtain ⟨l⟩ := es
      simpa using this
    | none =>
      dsimp only at ep
      split at ep
      · cases ep
        refine ⟨ks ++ [vk], vs ++ [vv], ?_, rk.append (.cons r1 .nil), rv.append (.cons r2 .nil)⟩
        have := hE.snoc (e := ⟨nk.hash X.w, u, w⟩) ru rw'
        rw [List.map_append]
        have hh : List.map (D.hash E.w) [k] = [nk.hash X.w] := by
          simp only [List.map_cons, List.map_nil]
          unfold D.hash
          simp [k1, hw]
        rw [hh]
        obtain ⟨l⟩ := es
        simpa using this
      · cases ep
theorem Ents.len {hs : List Int} {ks vs : List V} {es : List DictEntry} (h : Ents hs ks vs es) : ks.length = es.length := h.get.2.1
/-- dict(zip(x, y)) -/
def mDictZ (sh : Bool) (ms : M (List D)) : M D := do
  let ds ← ms
  let q ← liftS fun st => match ds with
    | [x, y] => match seqI st x, seqI st y with
      | some p, some q => dmerge [] [] (p.1.zip q.1)
      | _, _ => none
    | _ => none
  if q.1.length ≤ sizeLine then newD sh (.dct q.1 q.2) else M.stuck
theorem s_dictzip (hK : X.K = E.K) (hw : X.w = E.w) (hcalm : X.calm = true) (hu : X.A.units + 16 < cLine) (sh : Bool) {a b : Expr} {ms : M (List D)} {p1 p2 pos1 pos2 : Pos} (hm1 : X.mg "dict" = none) (hm2 : X.mg "zip" = none) (ha : PA X [a, b] (tIA E W ms)) (hg1 : Gl X "dict" := by rfl) (hg2 : Gl X "zip" := by rfl)
    (hs : starEach [a, b] X.env = (false, eval a X.env) :: starEach [b] X.env := by rfl) (hpl : (backTo pos2 (starEach [b] X.env)).any (·.1) = false := by rfl) (hs2 : starEach [.Call (.Name "zip" p2) [a, b] [] pos2] X.env = (false, eval (.Call (.Name "zip" p2) [a, b] [] pos2) X.env) :: starEach [] X.env := by rfl) :
    PE X (.Call (.Name "dict" p1) [.Call (.Name "zip" p2) [a, b] [] pos2] [] pos1) (tI E W (mDictZ sh ms)) := by
  refine ⟨fun pins s σ H Q I h => ?_⟩
  obtain ⟨g, fr, st, rl, p⟩ := h
  have hz : wpAny (model X.prog X.w) X.A (eval (.Call (.Name "zip" p2) [a, b] [] pos2) X.env) (fun u s2 => ∃ (s1 : Shared) (h' : Heap) (H1 : Hp) (t1 t2 : Bool) (l1 l2 : Addr) (its1 its2 : List Value) (g1 : Gh) (fr1 : Fr) (st1 : Store) (x1 x2 : List D) (q : List D × List D) (xs1 xs2 : List V),
      Inv X pins σ H1 s1 ∧ u = .ref (s1.heap.objs.size + 4) ∧ s2 = { s1 with heap := h' } ∧ IsZip h' (s1.heap.objs.size + 4) (s1.heap.objs.size + 2) (s1.heap.objs.size + 3) .none ∧ IsPair h' (s1.heap.objs.size + 2) (.ref s1.heap.objs.size) (.ref (s1.heap.objs.size + 1)) ∧ IsPair h' (s1.heap.objs.size + 3) .none .none ∧
      SIt t1 h' s1.heap.objs.size l1 0 ∧ SIt t2 h' (s1.heap.objs.size + 1) l2 0 ∧ h'.objs.size = s1.heap.objs.size + 5 ∧ (∀ c o, s1.heap.get? c = some o → h'.get? c = some o) ∧ SSq t1 s1.heap l1 its1.toArray ∧ SSq t2 s1.heap l2 its2.toArray ∧
      RelF E g1 fr1 st1 σ H1 ∧ Reps E g1 x1 xs1 ∧ Reps E g1 x2 xs2 ∧ Vals xs1 its1 ∧ Vals xs2 its2 ∧ dmerge [] [] (x1.zip x2) = some q ∧ q.1.length ≤ sizeLine ∧ Post E W g1 (foS E g1 st1) H1 σ (RV E Q) (newD sh (.dct q.1 q.2) fr1 st1)) X.xe s := by
    refine Call_ (ld_blt I hg2 hm2 PyProof.Rows.boot_zip (PyProof.Rows.callWith_type1 (thn (ha.run pos2 pins s σ H _ I (tIA_bind (Q := fun vs H1 => ∃ g1 fr1 st1 ds, Reps E g1 ds vs ∧ Then E W g σ (RV E Q) (do
      let q ← liftS fun st => match ds with
        | [x, y] => match seqI st x, seqI st y with
          | some p, some q => dmerge [] [] (p.1.zip q.1)
          | _, _ => none
        | _ => none
      if q.1.length ≤ sizeLine then newD sh (.dct q.1 q.2) else M.stuck : M D) g1 fr1 st1 H1) rl p fun g1 fr1 st1 H1 ds vs t rvs => ⟨g1, fr1, st1, ds, rvs, t⟩)) fun us s1 hh => ?_) hs hpl))
    obtain ⟨vs, H1, I1, r1, g1, fr1, st1, ds, rvs, t⟩ := hh
    have hp := t.post.bind
    unfold liftS at hp
    dsimp only at hp
    split at hp
    · rename_i q e1
      split at e1
      · rename_i dx dy
        split at e1
        · rename_i px py e2 e3
          obtain ⟨ix, Cx'⟩ := px
          obtain ⟨iy, Cy⟩ := py
          have t2 := hp g1 H1 (.refl ..) t.rel
          have tp := t2.post
          split at tp
          · rename_i hq
            obtain ⟨v, w, rfl, rv, rw'⟩ := rvs.two
            obtain ⟨t1, a1, xs, rfl, h1, h2⟩ := seqI_s t2.rel rv e2
            obtain ⟨t2', b1, ys, rfl, h3, h4⟩ := seqI_s t2.rel rw' e3
            cases r1 with
            | cons r rr =>
              cases rr with
              | cons r' rr =>
                cases rr
                cases r
                cases r'
                obtain ⟨its, rv1, p1', _⟩ := Inv.sq I1 (by rw [hK]; exact h1.sub t2.rel.sub)
                obtain ⟨its2, rv2, p2', _⟩ := Inv.sq I1 (by rw [hK]; exact h3.sub t2.rel.sub)
                exact g_call_zip p1' p2' fun h' hz hTI hTO q1 q2 hsz hk => ⟨s1, h', H1, t1, t2', a1, b1, its, its2, g1, fr1, st1, ix, iy, q, xs, ys, I1, rfl, rfl, hz, hTI, hTO, q1, q2, hsz, hk, p1', p2', t2.rel, h2, h4, rv1, rv2, e1, hq, tp⟩
          · exact tp.elim
        · cases e1
      · cases e1
    · exact hp.elim
  refine wpAny_Call_Name_kw (ld_blt I hg1 hm1 boot_dict (PyProof.Rows.callWith_type1 (e := .Call (.Name "zip" p2) [a, b] [] pos2) (rest := []) (env := X.env) ?_ hs2 rfl))
  rw [hs2]
  show wpAny _ _ (spliced ((false, eval (.Call (.Name "zip" p2) [a, b] [] pos2) X.env) :: backTo pos1 (starEach [] X.env))) _ _ s
  refine Calls.spliced_cons (thn hz fun u s2 hh => Calls.spliced_nil ?_)
  obtain ⟨s1, h', H1, t1, t2, l1, l2, its1, its2, g1, fr1, st1, x1, x2, q, xs1, xs2, I1, rfl, rfl, hzz, hTI, hTO, hi1, hi2, hsz, hk, hq1, hq2, rl1, rx1, rx2, rv1, rv2, eq, hql, hp⟩ := hh
  have l1lt : l1 < s1.heap.objs.size := hq1.lt
  have l2lt : l2 < s1.heap.objs.size := hq2.lt
  refine call_dict_arg (g_pairArg_zip t1 t2 _ _ _ _ _ l1 l2 (PySem.W.ktu_apart s1.heap.objs.size l1 l2 l1lt l2lt) its1.toArray its2.toArray) ⟨hzz, hTI, ⟨_, _, hTO⟩, hi1, hi2, hq1.at fun o e => hk _ o e, hq2.at fun o e => hk _ o e⟩ fun s3 hs3 hdf ok3 => ?_
  subst hs3
  have dge : s1.heap.objs.size ≤ h'.objs.size := by rw [hsz]; exact Nat.le_add_right _ _
  have dne : ∀ b o, s1.heap.get? b = some o → b ≠ h'.objs.size := fun b o e => Nat.ne_of_lt (Nat.lt_of_lt_of_le (Heap.lt_size e) dge)
  have lx1 := rx1.length
  have lx2 := rx2.length
  have lv1 := rv1.length
  have lv2 := rv2.length
  have lz : (x1.zip x2).length = min its1.toArray.size its2.toArray.size := by
    rw [List.length_zip, List.size_toArray, List.size_toArray]
    omega
  refine updateFrom_arg (A := X.A.in1) (Tab := fun i hh => (∀ b o, s1.heap.get? b = some o → hh.get? b = some o) ∧ ∃ o es ep q0 ks vs, hh.get? h'.objs.size = some o ∧ o.ExactDict ∧ o.data = .dict es ep ∧ dmerge [] [] ((x1.zip x2).take i) = some q0 ∧
    Ents (q0.1.map (D.hash E.w)) ks vs es.toList ∧ Reps E g1 q0.1 ks ∧ Reps E g1 q0.2 vs) (g_pairArg_zip t1 t2 _ _ _ _ _ l1 l2 (PySem.W.ktu_apart s1.heap.objs.size l1 l2 l1lt l2lt) its1.toArray its2.toArray) .none (I1.ok.hd hcalm) ok3 hdf ?_ ?_ ?_ ?_ ?_
  · obtain ⟨o, es, ep, ho, hc, hd, he, _⟩ := Heap.DictOfH.new (knd := nestedKind X.prog X.w) h'
    refine ⟨fun b o e => Heap.get?_push_of_some _ (hk b o e), o, es, ep, ([], []), [], [], ho, hc, hd, rfl, ?_, .nil, .nil⟩
    rw [he]
    exact .nil
  · rintro i hh ⟨_, o, es, ep, q0, ks, vs, ho, _⟩
    exact Heap.lt_size ho
  · rintro i hh hh' wr' hdw hwr ⟨k0, o, es, ep, q0, ks, vs, ho, r⟩ hk'
    refine ⟨fun b o e => hk' b o (fun hm => ?_) (k0 b o e), o, es, ep, q0, ks, vs, hk' _ _ hdw ho, r⟩
    have hb := Heap.lt_size e
    rcases hwr b hm with z | z
    · simp only [List.mem_cons, List.not_mem_nil, or_false] at z
      rcases z with z | z | z | z
      · rw [z] at hb; exact absurd (Nat.lt_of_le_of_lt (Nat.le_add_right _ _) hb) (Nat.lt_irrefl _)
      · rw [z] at hb; exact absurd (Nat.lt_of_le_of_lt (Nat.le_add_right _ _) hb) (Nat.lt_irrefl _)
      · rw [z] at hb; exact absurd hb (Nat.lt_irrefl _)
      · rw [z] at hb; exact absurd (Nat.lt_of_le_of_lt (Nat.le_add_right _ _) hb) (Nat.lt_irrefl _)
    · have z' : (h'.push { cls := .type "dict", data := .dict #[] }).get? b = none := z
      rw [Heap.get?_push_of_some _ (hk b o e)] at z'
      cases z'
  · rintro i key v s' Q' E' hi ⟨hr1, hr2⟩ ⟨k0, o, es, ep, q0, ks, vs, ho, hc, hd, hm, hE, rk, rv⟩ hT hQ
    have hr1 : its1[i]? = some key := by simpa using hr1
    have hr2 : its2[i]? = some v := by simpa using hr2
    have i1 : i < xs1.length := by rw [lv1]; exact (List.getElem?_eq_some_iff.mp hr1).1
    have i2 : i < xs2.length := by rw [lv2]; exact (List.getElem?_eq_some_iff.mp hr2).1
    obtain ⟨u1, e1, ru1⟩ := rv1.get (List.getElem?_eq_getElem i1)
    obtain ⟨u2, e2, ru2⟩ := rv2.get (List.getElem?_eq_getElem i2)
    rw [hr1] at e1
    rw [hr2] at e2
    cases e1
    cases e2
    obtain ⟨kd, e3, rkd⟩ := rx1.get' (List.getElem?_eq_getElem i1)
    obtain ⟨vd, e4, rvd⟩ := rx2.get' (List.getElem?_eq_getElem i2)
    have ez : (x1.zip x2)[i]? = some (kd, vd) := by rw [List.getElem?_zip_eq_some]; exact ⟨e3, e4⟩
    obtain ⟨q1, eq1⟩ := dmerge_pre eq (i + 1)
    obtain ⟨q0', eq0, ep1⟩ := dmerge_take ez eq1
    rw [hm] at eq0
    cases eq0
    obtain ⟨nks, nk, ek, ey, lks, ks', vs', hE', rk', rv'⟩ := put_ents hw ep1 hE rk rv rkd rvd ru1 ru2
    obtain ⟨k1, k2⟩ := okKey_s ey
    have hDN := dn_later hK hw I1 rl1.sub (fun b o _ _ q _ => k0 b o q) ho hc hd hE rk ek
    have hes : es.size ≤ sizeLine := by
      obtain ⟨_, _, _, _, hd', KN⟩ := id hDN
      rw [← KN.len]
      exact lks
    refine dictSet_n (A := X.A.in1.in1) (by show X.A.units + 1 + 1 + 8 < _; omega) ((rkd.nested hK I1 rl1.sub ru1 k1).at fun a o vs n q _ => k0 a o q) k2 hDN hes fun h3 o3 ep3 z1 z2 z3 z4 => ?_
    exact hQ h3 _ ⟨fun b o e => z4.extBut b o (dne b o e) (k0 b o e), o3, _, ep3, q1, ks', vs', z1, z2, z3, eq1, hE', rk', rv'⟩ z4
  · rintro h3 tk ⟨k0, o, es, ep, q0, ks, vs, ho, hc, hd, hm, hE, rk, rv⟩ hk3
    rw [← lz, List.take_length, eq] at hm
    cases hm
    refine ⟨rfl, ?_⟩
    have hn : H1 h'.objs.size = none := I1.hok.fresh dge
    have hsys : (h'.objs.size == sysModules) = false := beq_eq_false_iff_ne.mpr (Ne.symm (Nat.ne_of_lt (Nat.lt_of_lt_of_le I1.big dge)))
    have lk := rk.length
    refine ⟨.ref h'.objs.size, upd H1 h'.objs.size (DictO h'.objs.size (q.1.map (D.hash E.w)) ks vs), ?_, rfl, newD_post rl1 hp hn fun g' le => ⟨_, ks, vs, upd_same, rfl, rk.mono le, rv.mono le⟩⟩
    exact I1.laid (t' := tk) (o := DictO h'.objs.size (q.1.map (D.hash E.w)) ks vs) (h' := h3) k0 dge ⟨⟨hsys, by rw [lk]; exact hql, o, es, ep, ho, hc, hd, hE⟩, ⟨_, ho⟩, fun h1 h2 ⟨z1, z2, zo, ze, zp, z3, z4⟩ k => ⟨z1, z2, zo, ze, zp, k _ z3, z4⟩⟩
end
end Mp
end
section
/-! Mp, part 21: dict displays; tracking what stands. -/
namespace Mp
open PySem PySem.Spec PyProof.Rows L2
section
variable {E : SE} {W : WX} {X : Cx}
/-- a young untracked object of ours is tracked -/
theorem Inv.track {pins : List (Addr × Obj)} {σ : L2.St} {H : Hp} {s : Shared} {a : Addr} {o : HO} (I : Inv X pins σ H s) (hn : H a = none) (h0 : X.s_0.heap.objs.size ≤ a) (hL : a ≠ X.env.locals) (hc : ∀ x c, X.env.cells.lookup x = some c → c ≠ a) (hp : ∀ p ∈ X.pn ++ pins, p.1 ≠ a)
    (new : ObjOk X.prog X.w (upd H a o) s.heap a o) : Inv X pins σ (upd H a o) s := by
  have ne0 : ∀ b u, X.s_0.heap.get? b = some u → b ≠ a := fun b u e => Nat.ne_of_lt (Nat.lt_of_lt_of_le (Heap.lt_size e) h0)
  refine ⟨I.ok, I.os, I.bare, ⟨I.base.keep, I.base.slot, fun b u e n hx => ?_, I.base.there, fun b xs e => ?_, fun b u v e => ?_, fun b ps e => ?_⟩, I.loc, I.cell, ?_, fun x c e => ?_, fun p q => ?_, ?_, I.len⟩
  · rw [upd_ne (ne0 b u e)]
    exact I.base.free b u e n hx
  · have q := I.base.tups b xs e
    rw [upd_ne (ne_of_none q hn)]
    exact q
  · have q := I.base.frzs b u v e
    rw [upd_ne (ne_of_none q hn)]
    exact q
  · obtain ⟨m, q⟩ := I.base.tbls b ps e
    exact ⟨m, by rw [upd_ne (ne_of_none q hn)]; exact q⟩
  · rw [upd_ne (Ne.symm hL)]
    exact I.free
  · rw [upd_ne (hc x c e)]
    exact I.freeC x c e
  · obtain ⟨e, n, r⟩ := I.pin p q
    exact ⟨e, by rw [upd_ne (hp p q)]; exact n, r⟩
  · exact HOk.laidN I.hok (fun _ _ e => e) hn new
def mPairs : List (M D × M D) → M (List (D × D))
  | [] => M.pure []
  | p :: r => do
    let k ← p.1
    let v ← p.2
    let t ← mPairs r
    M.pure ((k, v) :: t)
inductive RPairs (E : SE) (g : Gh) : List (D × D) → List (Value × Value) → Prop where
  | nil : RPairs E g [] []
  | cons {k v : D} {a b : V} {u w : Value} {t : List (D × D)} {r : List (Value × Value)} (h1 : Rep E g k a) (h2 : RelV a u) (h3 : Rep E g v b) (h4 : RelV b w) (h : RPairs E g t r) : RPairs E g ((k, v) :: t) ((u, w) :: r)
def tIP (E : SE) (W : WX) (m : M (List (D × D))) : L2.St → Hp → (Gh → Fr → Store → List (D × D) → Hp → Prop) → Prop := fun σ H Q => ∃ g fr st, RelF E g fr st σ H ∧ Post E W g (foS E g st) H σ (fun g' ds fr' st' H' => RelF E g' fr' st' σ H' → Q g' fr' st' ds H') (m fr st)
structure PPM (X : Cx) (E : SE) (W : WX) (pos : Pos) (keys : List (Option Expr)) (values : List Expr) (m : M (List (D × D))) : Prop where
  run : ∀ (pins : List (Addr × Obj)) (s : Shared) (σ : L2.St) (H : Hp) (Q : Gh → Fr → Store → List (D × D) → Hp → Prop), Inv X pins σ H s → tIP E W m σ H Q →
    wpAny (model X.prog X.w) X.A (evalPairs (pairTrees keys values X.env pos)) (fun vs s' => ∃ g fr st ds H', Inv X pins σ H' s' ∧ RelF E g fr st σ H' ∧ RPairs E g ds vs ∧ Q g fr st ds H') X.xe s
theorem s_ppnil {pos : Pos} : PPM X E W pos [] [] (mPairs []) := ⟨fun pins s σ H Q I h => by
  obtain ⟨g, fr, st, r, p⟩ := h
  exact pairTrees_nil_walk ⟨g, fr, st, [], H, I, r, .nil, p g H (.refl ..) r r⟩⟩
theorem s_ppcons {pos : Pos} {k v : Expr} {ks : List (Option Expr)} {vs : List Expr} {mk mv : M D} {ms : List (M D × M D)} (hk : PE X k (tI E W mk)) (hv : PE X v (tI E W mv)) (hr : PPM X E W pos ks vs (mPairs ms)) : PPM X E W pos (some k :: ks) (v :: vs) (mPairs ((mk, mv) :: ms)) := ⟨fun pins s σ H Q I h => by
  obtain ⟨g, fr, st, rl, p⟩ := h
  refine pairTrees_cons_walk (thn (hk.run pins s σ H _ I (tI_bind (Q := fun a H1 => ∃ g1 fr1 st1 d, Rep E g1 d a ∧ Then E W g σ (fun g' ds fr' st' H' => RelF E g' fr' st' σ H' → Q g' fr' st' ds H') (do
    let v ← mv
    let t ← mPairs ms
    M.pure ((d, v) :: t) : M (List (D × D))) g1 fr1 st1 H1) rl p fun g1 fr1 st1 H1 d a t rd => ⟨g1, fr1, st1, d, rd, t⟩)) fun u s1 hh => ?_)
  obtain ⟨a, H1, I1, r1, g1, fr1, st1, d, rd, t1⟩ := hh
  refine thn (hv.run pins s1 σ H1 _ I1 (tI_bind (Q := fun b H2 => ∃ g2 fr2 st2 e, Rep E g2 d a ∧ Rep E g2 e b ∧ Then E W g1 σ (fun g' ds fr' st' H' => RelF E g' fr' st' σ H' → Q g' fr' st' ds H') (do
    let t ← mPairs ms
    M.pure ((d, e) :: t) : M (List (D × D))) g2 fr2 st2 H2) t1.rel t1.post fun g2 fr2 st2 H2 e b t re => ⟨g2, fr2, st2, e, rd.mono t.le, re, t⟩)) fun w s2 hh => ?_
  obtain ⟨b, H2, I2, r2, g2, fr2, st2, e, rd2, re2, t2⟩ := hh
  have hb := t2.post.bind
  refine thn (hr.run pins s2 σ H2 (fun g3 fr3 st3 ds H3 => GLe g2 g3 ∧ Q g3 fr3 st3 ((d, e) :: ds) H3) I2 ⟨g2, fr2, st2, t2.rel, ?_⟩) fun ws s3 hh => ?_
  · cases em : mPairs ms fr2 st2 with
    | ok ds fr3 st3 =>
      rw [em] at hb
      exact fun g3 H3 e3 r3 _ => ⟨e3.le, (hb g3 H3 e3 r3).ok r3⟩
    | exc x fr3 st3 =>
      rw [em] at hb
      exact hb
    | stuck =>
      rw [em] at hb
      exact hb
  · obtain ⟨g3, fr3, st3, ds, H3, I3, r3, rp, le, q⟩ := hh
    exact ⟨g3, fr3, st3, (d, e) :: ds, H3, I3, r3, .cons (rd2.mono le) r1 (re2.mono le) r2 rp, q⟩⟩
/-- the pairs are stored, one behind the other -/
theorem store_n {g : Gh} {pins : List (Addr × Obj)} {σ : L2.St} {H : Hp} {s₀ : Shared} {A : Around} {EE : Value → Shared → Prop} {d : Addr} (hK : X.K = E.K) (hw : X.w = E.w) (hu : A.units + 8 < cLine) (I : Inv X pins σ H s₀) (sub : ∀ a o, g.G a = some o → H a = some o) (hd0 : ∀ o, s₀.heap.get? d = some o → ∀ vs n, o.data ≠ .seq vs n) :
    ∀ (ps : List (D × D)) (vs : List (Value × Value)) (q0 q : List D × List D) (s : Shared) (Q : PUnit → Shared → Prop), RPairs E g ps vs → dmerge q0.1 q0.2 ps = some q → (∀ b o, b ≠ d → s₀.heap.get? b = some o → s.heap.get? b = some o) →
      (∃ o es ep ks ws, s.heap.get? d = some o ∧ o.ExactDict ∧ o.data = .dict es ep ∧ Ents (q0.1.map (D.hash E.w)) ks ws es.toList ∧ Reps E g q0.1 ks ∧ Reps E g q0.2 ws) →
      (∀ h' tk, (∀ b o, b ≠ d → s.heap.get? b = some o → h'.get? b = some o) → (∃ o es ep ks ws, h'.get? d = some o ∧ o.ExactDict ∧ o.data = .dict es ep ∧ Ents (q.1.map (D.hash E.w)) ks ws es.toList ∧ Reps E g q.1 ks ∧ Reps E g q.2 ws) → Q PUnit.unit { s with heap := h', toks := tk }) →
      wpAny (model X.prog X.w) A (forIn vs PUnit.unit fun (x : Value × Value) (_ : PUnit) => (do dictSet d x.1 x.2; pure (ForInStep.yield PUnit.unit) : Sem (ForInStep PUnit))) Q EE s
  | [], vs, q0, q, s, Q, rp, hm, hk, hd, hQ => by
    cases rp
    rw [List.forIn_nil]
    simp only [dmerge, Option.some.injEq] at hm
    subst hm
    exact wpAny_pure (hQ s.heap s.toks (fun _ _ _ e => e) hd)
  | p :: ps, vs, q0, q, s, Q, rp, hm, hk, hd, hQ => by
    cases rp with
    | @cons k v a b u w t r h1 h2 h3 h4 h =>
      obtain ⟨o, es, ep, ks, ws, ho, hc, hdat, hE, rk, rv⟩ := hd
      unfold dmerge at hm
      cases e1 : dputD q0.1 q0.2 k v with
      | none => rw [e1] at hm; cases hm
      | some z =>
        rw [e1] at hm
        dsimp only at hm
        obtain ⟨nks, nk, ek, ey, lks, ks', vs', hE', rk', rv'⟩ := put_ents hw e1 hE rk rv h1 h3 h2 h4
        obtain ⟨k1, k2⟩ := okKey_s ey
        have kp : ∀ b o vs n, s₀.heap.get? b = some o → o.data = .seq vs n → s.heap.get? b = some o := fun b o vs n e z => hk b o (fun zz => hd0 o (zz ▸ e) vs n z) e
        have hDN := dn_later hK hw I sub kp ho hc hdat hE rk ek
        have hes : es.size ≤ sizeLine := by
          obtain ⟨_, _, _, _, _, KN⟩ := id hDN
          rw [← KN.len]
          exact lks
        rw [List.forIn_cons]
        refine wpAny_bind (wpAny_bind (dictSet_n hu ((h1.nested hK I sub h2 k1).at kp) k2 hDN hes fun h' o' ep' z1 z2 z3 z4 => wpAny_pure ?_))
        refine store_n hK hw hu I sub hd0 ps r z q _ Q h hm (fun b o hb e => z4.extBut b o hb (hk b o hb e)) ⟨o', _, ep', ks', vs', z1, z2, z3, hE', rk', rv'⟩ fun h2' tk k2' d2 => ?_
        exact hQ h2' tk (fun b o hb e => k2' b o hb (z4.extBut b o hb e)) d2
/-- {k: v, ..} -/
def mDisp (sh : Bool) (ms : M (List (D × D))) : M D := do
  let ps ← ms
  let q ← lift (dmerge [] [] ps)
  if q.1.length ≤ sizeLine then newD sh (.dct q.1 q.2) else M.stuck
theorem dict_empty (X : Cx) (h : Heap) : ∃ o es ep, (h.push { cls := .type "dict", data := .dict #[] }).get? h.objs.size = some o ∧ o = { cls := .type "dict", data := .dict #[] } ∧ o.ExactDict ∧ o.data = .dict es ep ∧ es.toList = [] := by
  refine ⟨_, #[], _, Heap.get?_push_size _ rfl, rfl, ?_, rfl, rfl⟩
  obtain ⟨o, es, ep, ho, hc, hd, he, _⟩ := Heap.DictOfH.new (knd := nestedKind X.prog X.w) h
  rw [Heap.get?_push_size _ rfl] at ho
  cases ho
  exact hc
theorem s_disp (hK : X.K = E.K) (hw : X.w = E.w) (hu : X.A.units + 16 < cLine) (sh : Bool) {keys : List (Option Expr)} {values : List Expr} {ms : M (List (D × D))} {pos : Pos} (h : PPM X E W pos keys values ms) (hall : keys.all (·.isSome) = true := by rfl) (hl : keys.length = values.length := by rfl) (h0 : keys ≠ [] := by exact fun z => nomatch z) (h15 : keys.length ≤ 15 := by decide) :
    PE X (.Dict keys values pos) (tI E W (mDisp sh ms)) := by
  refine ⟨fun pins s σ H Q I q => ?_⟩
  obtain ⟨g, fr, st, rl, p⟩ := q
  have hn := pairTrees_length keys values X.env pos hall hl
  have hne : pairTrees keys values X.env pos ≠ [] := fun z => by
    rw [z] at hn
    exact h0 (List.length_eq_zero_iff.mp hn.symm)
  rw [arm_eval_Dict, zip_pairTrees keys values X.env pos hall hl, dictDisplay_pairs _ hne (by rw [hn]; omega)]
  refine wpAny_bind (wpAny_standAt (wpAny_bind ?_))
  unfold subDict
  refine wpAny_bind (wpAny_alloc ?_)
  refine wpAny_bind (wpAny_holding ?_)
  rw [if_pos (by rw [hn]; exact h15)]
  obtain ⟨o0, es0, ep0, d1, d2, d3, d4, d5⟩ := dict_empty X s.heap
  have I1 : Inv X pins σ H { s with heap := s.heap.push { cls := .type "dict", data := .dict #[] } } := I.kept (t' := s.toks) fun _ _ q => Heap.get?_push_of_some _ q
  have hfp : ∀ b ∈ [s.heap.objs.size], FpOk X pins H b := fun b hb => by
    have e : b = s.heap.objs.size := by simpa using hb
    subst e
    exact I.fpOk (Nat.le_refl _) (I.hok.fresh (Nat.le_refl _))
  have I1p := I1.pinned hfp fun b hb => by
    have e : b = s.heap.objs.size := by simpa using hb
    subst e
    exact ⟨o0, d1, fun v z => by rw [d4] at z; cases z⟩
  refine wpAny_bind (thn (h.run _ _ σ H (fun g1 fr1 st1 ps H1 => GLe g g1 ∧ ∃ q, dmerge [] [] ps = some q ∧ q.1.length ≤ sizeLine ∧ Post E W g1 (foS E g1 st1) H1 σ (RV E Q) (newD sh (.dct q.1 q.2) fr1 st1)) I1p ⟨g, fr, st, rl, ?_⟩) fun vs s2 hh => ?_)
  · have hb := p.bind
    cases em : ms fr st with
    | ok ps fr1 st1 =>
      rw [em] at hb
      intro g1 H1 e1 r1 _
      have t := hb g1 H1 e1 r1
      have hp := t.post.bind
      unfold lift at hp
      cases eq : dmerge [] [] ps with
      | none => rw [eq] at hp; exact hp.elim
      | some q =>
        rw [eq] at hp
        have t2 := hp g1 H1 (.refl ..) t.rel
        have tp := t2.post
        split at tp
        · rename_i hq
          exact ⟨e1.le, q, rfl, hq, tp⟩
        · exact tp.elim
    | exc x fr1 st1 =>
      rw [em] at hb
      exact hb
    | stuck =>
      rw [em] at hb
      exact hb
  · obtain ⟨g1, fr1, st1, ps, H1, I2, rl1, rp, _, q, eq, hq, hp⟩ := hh
    have hpin := I2.pin (s.heap.objs.size, o0) (List.mem_append_right _ (List.mem_append_right _ (mem_pinsAt (List.mem_singleton.mpr rfl) d1)))
    have I2' := I2.unpinned
    refine wpAny_holding (wpAny_bind (store_n (X := X) (E := E) (d := s.heap.objs.size) hK hw (by omega) I2' rl1.sub (fun o e vs n z => ?_) ps vs ([], []) q s2 _ rp eq (fun _ _ _ e => e) ⟨o0, es0, ep0, [], [], hpin.1, d3, d4, ?_, .nil, .nil⟩ fun h' tk hk hd => ?_))
    · rw [hpin.1] at e
      cases e
      rw [d4] at z
      cases z
    · rw [d5]
      exact .nil
    · obtain ⟨o, es, ep, ks, ws, z1, z2, z3, hE, rk, rv⟩ := hd
      have fp := hfp s.heap.objs.size (List.mem_singleton.mpr rfl)
      have I3 : Inv X pins σ H1 { s2 with heap := h', toks := tk } := I2'.turned (it := s.heap.objs.size) hk hpin.2.1 fp.2.1 fp.2.2.2.1 fp.2.2.2.2.1 fp.2.2.2.2.2
      have hsys : (s.heap.objs.size == sysModules) = false := beq_eq_false_iff_ne.mpr (Ne.symm (Nat.ne_of_lt I.big))
      have lk := rk.length
      have new : ObjOk X.prog X.w (upd H1 s.heap.objs.size (DictO s.heap.objs.size (q.1.map (D.hash E.w)) ks ws)) h' s.heap.objs.size (DictO s.heap.objs.size (q.1.map (D.hash E.w)) ks ws) :=
        ⟨⟨hsys, by rw [lk]; exact hq, o, es, ep, z1, z2, z3, hE⟩, ⟨_, z1⟩, fun h1 h2 ⟨y1, y2, zo, ze, zp, y3, y4⟩ k => ⟨y1, y2, zo, ze, zp, k _ y3, y4⟩⟩
      have I4 : Inv X pins σ (upd H1 s.heap.objs.size (DictO s.heap.objs.size (q.1.map (D.hash E.w)) ks ws)) { s2 with heap := h', toks := tk } := Inv.track I3 hpin.2.1 I.sz fp.2.1 fp.2.2.2.2.1 fp.2.2.2.2.2 new
      exact wpAny_pure (wpAny_pure (wpAny_pure ⟨.ref s.heap.objs.size, _, I4, rfl, newD_post rl1 hp hpin.2.1 fun g' le => ⟨_, ks, ws, upd_same, rfl, rk.mono le, rv.mono le⟩⟩))
/-- {} -/
theorem s_dispE (sh : Bool) {pos : Pos} : PE X (.Dict [] [] pos) (tI E W (newD sh (.dct [] []))) := by
  refine ⟨fun pins s σ H Q I h => ?_⟩
  obtain ⟨g, fr, st, rl, p⟩ := h
  refine wpAny_Dict_empty ?_
  obtain ⟨o0, es0, ep0, d1, d2, d3, d4, d5⟩ := dict_empty X s.heap
  have hsys : (s.heap.objs.size == sysModules) = false := beq_eq_false_iff_ne.mpr (Ne.symm (Nat.ne_of_lt I.big))
  have I1 := I.laid (a := s.heap.objs.size) (o := DictO s.heap.objs.size [] [] []) (h' := s.heap.push { cls := .type "dict", data := .dict #[] }) (t' := s.toks) (fun _ _ q => Heap.get?_push_of_some _ q) (Nat.le_refl _)
    ⟨⟨hsys, Nat.zero_le _, o0, es0, ep0, d1, d3, d4, by rw [d5]; exact .nil⟩, ⟨_, d1⟩, fun h1 h2 ⟨y1, y2, zo, ze, zp, y3, y4⟩ k => ⟨y1, y2, zo, ze, zp, k _ y3, y4⟩⟩
  exact ⟨.ref s.heap.objs.size, _, I1, rfl, newD_post rl p (I.hok.fresh (Nat.le_refl _)) fun g' le => ⟨_, [], [], upd_same, rfl, .nil, .nil⟩⟩
end
end Mp
end
section
/-! Mp, part 22: list comprehensions. -/
namespace Mp
open PySem PySem.Spec PyProof.Rows L2
/-- nothing is let out -/
abbrev W0 : WX := fun _ _ _ _ => False
def wipeF (fr : Fr) : List Nat → Fr
  | [] => fr
  | v :: vs => (wipeF fr vs).set v none
section
variable {E : SE} {W : WX} {X : Cx}
theorem RelF.wipe {g : Gh} {fr : Fr} {st : Store} {σ : L2.St} {H : Hp} (r : RelF E g fr st σ H) : ∀ vs : List Nat, RelF E g (wipeF fr vs) st (L2.wipe σ vs) H
  | [] => r
  | v :: vs => (RelF.wipe r vs).set_un
theorem wipe_get (σ : L2.St) : ∀ (vs : List Nat) (j : Nat), (L2.wipe σ vs)[j]? = if j ∈ vs then (if j < σ.length then some none else none) else σ[j]?
  | [], j => by simp [L2.wipe]
  | v :: vs, j => by
    unfold L2.wipe
    rw [List.getElem?_set, wipe_length, wipe_get σ vs j]
    by_cases h : v = j
    · subst h
      simp
    · rw [if_neg h]
      have e : (j ∈ v :: vs) ↔ j ∈ vs := by
        simp only [List.mem_cons]
        exact ⟨fun z => z.elim (fun z => absurd z.symm h) id, .inr⟩
      simp only [e]
theorem wipe_set (σ : L2.St) {vs : List Nat} {i : Nat} (x : Option V) (h : i ∈ vs) : L2.wipe (σ.set i x) vs = L2.wipe σ vs := by
  refine List.ext_getElem? fun j => ?_
  rw [wipe_get, wipe_get, List.length_set]
  by_cases hj : j ∈ vs
  · rw [if_pos hj, if_pos hj]
  · rw [if_neg hj, if_neg hj]
    exact List.getElem?_set_ne (fun z : i = j => hj (z ▸ h))
theorem wipe_idem (σ : L2.St) (vs : List Nat) : L2.wipe (L2.wipe σ vs) vs = L2.wipe σ vs := by
  refine List.ext_getElem? fun j => ?_
  rw [wipe_get, wipe_get, wipe_length]
  by_cases hj : j ∈ vs
  · rw [if_pos hj, if_pos hj]
  · rw [if_neg hj, if_neg hj]
/-- a target that sets the block's own names only -/
def tGw (E : SE) (W : WX) (vs : List Nat) (m : D → M Unit) : TG := fun v σ H Q => ∃ g fr st d, RelF E g fr st σ H ∧ Rep E g d v ∧ PostX E W g (foS E g st) H (fun _ _ _ _ σ' H' => L2.wipe σ' vs = L2.wipe σ vs → Q σ' H') (m d fr st)
def tGsw (E : SE) (W : WX) (vs : List Nat) (m : List D → M Unit) : TGs := fun ws σ H Q => ∃ g fr st ds, RelF E g fr st σ H ∧ Reps E g ds ws ∧ PostX E W g (foS E g st) H (fun _ _ _ _ σ' H' => L2.wipe σ' vs = L2.wipe σ vs → Q σ' H') (m ds fr st)
theorem s_gnameW (vs : List Nat) (i : Nat) {x : Str} {pos : Pos} (hN : X.N.Nodup) (hi : X.N[i]? = some x) (hx : Loc X.env.scope x) (hv : i ∈ vs := by decide) (hf : X.fn x = true ∨ X.env.scope.names.lookup x = some .local := by first | exact .inl rfl | exact .inr rfl | assumption) : PG X (.Name x pos) (tGw E W vs (gSet i)) :=
  pg_imp (pg_name hN hi hx hf) fun v σ H Q h => by
    obtain ⟨g, fr, st, d, r, rv, p⟩ := h
    exact p g _ H (.refl ..) (r.set_val rv) (wipe_set σ (some v) hv)
theorem s_gnilW (vs : List Nat) : PGs X [] (tGsw E W vs (gAll [])) := pgs_imp pgs_nil fun ws σ H Q h => by
  obtain ⟨g, fr, st, ds, r, rv, p⟩ := h
  cases ds with
  | nil =>
    simp only [Reps] at rv
    exact ⟨rv, p g σ H (.refl ..) r rfl⟩
  | cons d ds => exact p.elim
theorem s_gconsW (vs : List Nat) {e : Expr} {es : List Expr} {m : D → M Unit} {ms : List (D → M Unit)} (h1 : PG X e (tGw E W vs m)) (h2 : PGs X es (tGsw E W vs (gAll ms)))
    (hs : (assignEach (e :: es) X.env).map (·.2) = assign e X.env :: (assignEach es X.env).map (·.2) := by rfl) : PGs X (e :: es) (tGsw E W vs (gAll (m :: ms))) := pgs_imp (pgs_cons h1 h2 hs) fun ws σ H Q h => by
  obtain ⟨g, fr, st, ds, r, rv, p⟩ := h
  cases ds with
  | nil => exact p.elim
  | cons d ds =>
    simp only [Reps] at rv
    obtain ⟨v, rr, rfl, rd, rs⟩ := rv
    refine ⟨v, rr, rfl, g, fr, st, d, r, rd, ?_⟩
    have h1 := PostX.bind p
    cases e : m d fr st with
    | ok u fr1 st1 =>
      rw [e] at h1
      intro g1 σ1 H1 e1 r1 hw
      have t := h1 g1 σ1 H1 e1 r1
      refine ⟨g1, fr1, st1, ds, r1, rs.mono e1.le, ?_⟩
      have tp := t.post
      cases e2 : gAll ms ds fr1 st1 with
      | ok u2 fr2 st2 =>
        rw [e2] at tp
        exact fun g2 σ2 H2 e3 r3 hw2 => tp g2 σ2 H2 e3 r3 (hw2.trans hw)
      | exc x fr2 st2 =>
        rw [e2] at tp
        exact tp
      | stuck =>
        rw [e2] at tp
        exact tp
    | exc x fr1 st1 =>
      rw [e] at h1
      exact h1
    | stuck =>
      rw [e] at h1
      exact h1
theorem s_gtupW (vs : List Nat) (hK : X.K = E.K) {es : List Expr} {k : Nat} {ms : List (D → M Unit)} {pos : Pos} (hc : X.calm = true) (h : PGs X es (tGsw E W vs (gAll ms)))
    (hn : (assignEach es X.env).length = ms.length := by rfl) (hst : (assignEach es X.env).findIdx? (·.1) = none := by rfl) : PG X (.Tuple es k pos) (tGw E W vs (gTupD ms)) := pg_imp (pg_tup (n := ms.length) hc h hn hst) fun v σ H Q h => by
  obtain ⟨g, fr, st, d, r, rv, p⟩ := h
  cases d with
  | tup ds =>
    simp only [gTupD] at p
    split at p
    · rename_i hl
      simp only [Rep] at rv
      obtain ⟨a, xs, rfl, h1, h2, h3⟩ := rv
      exact ⟨a, xs, rfl, by rw [hK]; exact sub_t r.sub h1, by rw [h3.length, hl], g, fr, st, ds, r, h3, p⟩
    · exact p.elim
  | _ => exact p.elim

/-! ### a list that was built aside is taken over -/
theorem RelF.adopt {g0 g : Gh} {F0 : Addr → Prop} {H0 : Hp} {fr : Fr} {st : Store} {σ : L2.St} {H : Hp} {a : Addr} {o : HO} {m : MO} {sh : Bool} {Q : VK} (b : Ext g0 F0 H0 g (foS E g st) H) (r : RelF E g fr st σ H) (h0 : H0 a = none) (ha : H a = some o) (gn : g.G a = none) (sn : ∀ n l, st.get n = some l → g.io n ≠ a) (om : ObjRel E g H a m)
    (p : Post E W g0 F0 H0 σ (RV E Q) (newD sh m fr st)) : Q (.ref a) H := by
  cases sh with
  | true =>
    have le : GLe g (g.one a) := GLe.one
    have io : ∀ n l, st.get n = some l → (g.one a).io n = g.io n := fun n l e => if_neg (by rw [r.nx]; exact Nat.ne_of_lt (r.dom n l e))
    have io1 : (g.one a).io st.next = a := if_pos r.nx.symm
    have back : ∀ {n l}, (st.new m).get n = some l → (n = st.next ∧ l = m) ∨ (n ≠ st.next ∧ st.get n = some l) := fun {n l} e => by
      have e : (if n = st.next then some m else st.get n) = some l := e
      split at e
      · rename_i h; exact .inl ⟨h, (Option.some.inj e).symm⟩
      · rename_i h; exact .inr ⟨h, e⟩
    refine p (g.one a) H ⟨b.le.trans le, b.keep, b.new, fun c h => ?_⟩ ⟨⟨r.sub, by show g.nx + 1 = st.next + 1; rw [r.nx], fun n l e => ?_, fun n l e => ?_, fun n l e => ?_, fun n l k l' e1 e2 q => ?_, fun q hq => (r.tab q hq).mono le (fun _ z => z) (r.tab q hq).1⟩, r.len, r.val_mono le⟩ _ ?_
    · rcases h with ⟨n, l, e, q⟩ | h
      · rcases back e with ⟨z, _⟩ | ⟨_, e⟩
        · rw [z, io1] at q
          exact .inr (q ▸ h0)
        · rw [io n l e] at q
          exact b.fo c (.inl ⟨n, l, e, q⟩)
      · exact b.fo c (.inr h)
    · show n < st.next + 1
      rcases back e with ⟨z, _⟩ | ⟨_, e⟩
      · omega
      · have := r.dom n l e; omega
    · rcases back e with ⟨z, z2⟩ | ⟨_, e⟩
      · rw [z, z2, io1]
        exact om.mono le fun _ q => q
      · rw [io n l e]
        exact (r.obj n l e).mono le fun _ q => q
    · show g.G _ = none
      rcases back e with ⟨z, _⟩ | ⟨_, e⟩
      · rw [z, io1]; exact gn
      · rw [io n l e]; exact r.out n l e
    · rcases back e1 with ⟨y1, _⟩ | ⟨_, e1⟩
      · rcases back e2 with ⟨y2, _⟩ | ⟨_, e2⟩
        · rw [y1, y2]
        · rw [y1, io1, io k l' e2] at q
          exact (sn k l' e2 q.symm).elim
      · rcases back e2 with ⟨y2, _⟩ | ⟨_, e2⟩
        · rw [y2, io1, io n l e1] at q
          exact (sn n l e1 q).elim
        · rw [io n l e1, io k l' e2] at q
          exact r.inj n l k l' e1 e2 q
    · simp only [Rep]
      exact ⟨by show st.next < g.nx + 1; rw [r.nx]; exact Nat.lt_succ_self _, congrArg V.ref io1.symm⟩
  | false =>
    have le : GLe g (g.frz a o) := GLe.frz gn
    refine p (g.frz a o) H ⟨b.le.trans le, b.keep, fun c u h n z => ?_, fun c h => b.fo c h⟩ ⟨⟨fun c u e => ?_, r.nx, r.dom, fun n l e => (r.obj n l e).mono le fun _ q => q, fun n l e => ?_, r.inj, fun q hq => (r.tab q hq).mono le (fun _ z => z) ?_⟩, r.len, r.val_mono le⟩ _ (om.val ha gn)
    · show upd g.G a o c = none
      rw [upd_ne (ne_of_none h h0)]
      exact b.new c u h n z
    · have e : upd g.G a o c = some u := e
      by_cases hc : c = a
      · subst hc
        rw [upd_same] at e
        cases e
        exact ha
      · rw [upd_ne hc] at e
        exact r.sub c u e
    · show upd g.G a o (g.io n) = none
      rw [upd_ne (sn n l e)]
      exact r.out n l e
    · obtain ⟨z, ps, z2, _⟩ := r.tab q hq
      show upd g.G a o q.1 = none
      rw [upd_ne fun y => om.nt ps (by rw [← y]; exact z2)]
      exact z

/-! ### the comprehension -/
/-- one turn: the item is bound, tested, the element made -/
def compT (mg : D → M Unit) (mt : M Bool) (me : M D) (d : D) : M (Option D) := do
  mg d
  let b ← mt
  if b then do
    let y ← me
    M.pure (some y)
  else M.pure none
def compL (C : Store → Bool) (vs : List Nat) (mg : D → M Unit) (mt : M Bool) (me : M D) : List D → List D → M (List D)
  | [], acc => fun fr st => if C st = true then .ok acc fr st else .stuck
  | d :: ds, acc => fun fr st => if C st = true then match compT mg mt me d (wipeF fr vs) st with
      | .ok o _ st' => match o with
        | some y => if acc.length < sizeLine then compL C vs mg mt me ds (acc ++ [y]) fr st' else .stuck
        | none => compL C vs mg mt me ds acc fr st'
      | _ => .stuck
    else .stuck
/-- [elt for target in iter if ..]; vs: the slots of the block's own names -/
def mComp (sh : Bool) (vs : List Nat) (mi : Src) (mg : D → M Unit) (mt : M Bool) (me : M D) : M D := do
  let p ← mi
  let ys ← compL p.2 vs mg mt me p.1 []
  newD sh (.lst ys)
theorem pt_test0 {X : Cx} {t t' : TT} {ifs : List Expr} (h : PTs X ifs t) (k : ∀ σ H Q, t' σ H Q → t σ H Q) : PTs X ifs t' := ⟨fun pins s σ H Q I hw => h.run pins s σ H Q I (k σ H Q hw)⟩
theorem s_tsnil {X : Cx} : PTs X [] (tIT E W (M.pure true)) := pt_test0 pts_nil fun σ H Q h => by
  obtain ⟨g, fr, st, r, p⟩ := h
  exact p g H (.refl ..) r
theorem s_tsone {X : Cx} {c : Expr} {m : M Bool} (h : PT X c (tIT E W m)) : PTs X [c] (tIT E W m) := pts_one h
theorem RelG.updU {g : Gh} {st : Store} {H : Hp} {a : Addr} {o : HO} (r : RelG E g st H) (gn : g.G a = none) (sn : ∀ n l, st.get n = some l → g.io n ≠ a) (na : ∀ ps, H a ≠ some (.tbl ps)) : RelG E g st (upd H a o) :=
  ⟨fun c u e => by rw [upd_ne (fun z => by rw [z, gn] at e; cases e)]; exact r.sub c u e, r.nx, r.dom, fun n l e => (r.obj n l e).mono (.refl g) fun u z => by rw [upd_ne (sn n l e)]; exact z, r.out, r.inj, fun q hq => (r.tab q hq).mono (.refl g) (fun ps z => by rw [upd_ne (fun y => na ps (by rw [← y]; exact z))]; exact z) (r.tab q hq).1⟩
/-- between two turns: the new list at a, what is to come -/
def CompSt (E : SE) (W : WX) (g1 : Gh) (st1 : Store) (H1 : Hp) (σ : L2.St) (Q : VK) (a : Addr) (fr1 : Fr) (k : List D → M D) (H' : Hp) : Prop :=
  ∃ g' st' accD accV, Ext g1 (foS E g1 st1) H1 g' (foS E g' st') H' ∧ RelG E g' st' H' ∧ H' a = some (.lst accV) ∧ accV.length ≤ sizeLine ∧ Reps E g' accD accV ∧ g'.G a = none ∧ (∀ n l, st'.get n = some l → g'.io n ≠ a) ∧ Post E W g1 (foS E g1 st1) H1 σ (RV E Q) (k accD fr1 st')
theorem comp_imp (sh : Bool) {vs : List Nat} {mi : Src} {mg : D → M Unit} {mt : M Bool} {me : M D} {σ : L2.St} {H : Hp} {Q : VK} (h : tI E W (mComp sh vs mi mg mt me) σ H Q) : tLc (tII E W mi) (tGw E W0 vs mg) (tIT E W0 mt) (tI E W0 me) vs σ H Q := by
  obtain ⟨g, fr, st, rl, p⟩ := h
  refine ⟨g, fr, st, rl, ?_⟩
  have hb := p.bind
  cases em : mi fr st with
  | exc x fr1 st1 => rw [em] at hb; exact hb
  | stuck => rw [em] at hb; exact hb
  | ok q fr1 st1 =>
    obtain ⟨ds, C⟩ := q
    rw [em] at hb
    intro g1 H1 e1 r1 J hJ a hD
    have hJ : ItD E g1 J ds C := hJ
    have t := hb g1 H1 e1 r1
    have tp : Post E W g1 (foS E g1 st1) H1 σ (RV E Q) ((compL C vs mg mt me ds [] >>= fun ys => newD sh (.lst ys)) fr1 st1) := t.post
    obtain ⟨rU, eU⟩ := r1.newU hD (.lst [])
    have gD : g1.G a = none := r1.gnone hD
    have sD : ∀ n l, st1.get n = some l → g1.io n ≠ a := fun n l e z => by
      obtain ⟨u, q⟩ := (r1.obj n l e).there
      rw [z, hD] at q
      cases q
    refine ⟨fun i m H' => m = ds.length - i ∧ i ≤ ds.length ∧ CompSt E W g1 st1 H1 σ Q a fr1 (fun acc => compL C vs mg mt me (ds.drop i) acc >>= fun ys => newD sh (.lst ys)) H', ⟨_, rfl, Nat.zero_le _, g1, st1, [], [], eU, rU.toRelG, upd_same, Nat.zero_le _, .nil, gD, sD, by rw [List.drop_zero]; exact tp⟩, ?_⟩
    rintro i m H2 ⟨rfl, hi', g2, st2, accD, accV, e2, rg2, hD2, hz2, ra2, gD2, sD2, p2⟩
    have r2 : RelF E g2 fr1 st2 σ H2 := r1.after e2.le rg2
    rcases Nat.lt_or_ge i ds.length with hlt | hge
    · have hd : ds[i]? = some ds[i] := by simp [hlt]
      rw [List.drop_eq_getElem_cons hlt] at p2
      dsimp only at p2
      rw [bind_eq] at p2
      unfold compL at p2
      cases hC : C st2 with
      | false => rw [hC, if_neg Bool.false_ne_true] at p2; exact p2.elim
      | true =>
        rw [hC, if_pos rfl] at p2
        refine .inr ⟨hJ.go i _ hd g2 st2 H2 e2.le rg2 hC, CompSt E W g1 st1 H1 σ Q a fr1 (fun acc => compL C vs mg mt me (ds.drop (i + 1)) acc >>= fun ys => newD sh (.lst ys)), fun H' z => ⟨ds.length - (i + 1), by omega, rfl, hlt, z⟩, fun x H3 y => ?_⟩
        have turn : ∀ g3, Ext g2 (foS E g2 st2) H2 g3 (foS E g3 st2) H3 → RelF E g3 fr1 st2 σ H3 → Rep E g3 ds[i] x → tGw E W0 vs mg x (L2.wipe σ vs) H3 fun σ4 H4 => L2.wipe σ4 vs = L2.wipe σ vs ∧ tIT E W0 mt σ4 H4 fun b H5 =>
            if b = true then tI E W0 me σ4 H5 fun y H6 => ∃ acc, H6 a = some (.lst acc) ∧ acc.length < sizeLine ∧ CompSt E W g1 st1 H1 σ Q a fr1 (fun acc => compL C vs mg mt me (ds.drop (i + 1)) acc >>= fun ys => newD sh (.lst ys)) (upd H6 a (.lst (acc ++ [y])))
            else CompSt E W g1 st1 H1 σ Q a fr1 (fun acc => compL C vs mg mt me (ds.drop (i + 1)) acc >>= fun ys => newD sh (.lst ys)) H5 := fun g3 e3 r3 rx => by
          have nF2 : ¬ foS E g2 st2 a := fun h => h.elim (fun ⟨n, l, e, z⟩ => sD2 n l e z) fun ⟨q, hq, z⟩ => by
            obtain ⟨_, ps, z2, _⟩ := r2.tab q hq
            rw [z, hD2] at z2
            cases z2
          have hD3 : H3 a = some (.lst accV) := e3.keep a _ hD2 nF2
          have gD3 : g3.G a = none := e3.new a _ hD2 nF2 gD2
          have nF3 : ¬ foS E g3 st2 a := fun z => (e3.fo a z).elim nF2 fun z => by rw [hD2] at z; cases z
          have hT : PostX E W0 g3 (foS E g3 st2) H3 (fun g' o _ _ σ' H' => match o with
              | some y => ∀ v, Rep E g' y v → ∃ acc, H' a = some (.lst acc) ∧ acc.length < sizeLine ∧ CompSt E W g1 st1 H1 σ Q a fr1 (fun acc => compL C vs mg mt me (ds.drop (i + 1)) acc >>= fun ys => newD sh (.lst ys)) (upd H' a (.lst (acc ++ [v])))
              | none => CompSt E W g1 st1 H1 σ Q a fr1 (fun acc => compL C vs mg mt me (ds.drop (i + 1)) acc >>= fun ys => newD sh (.lst ys)) H') (compT mg mt me ds[i] (wipeF fr1 vs) st2) := by
            cases eT : compT mg mt me ds[i] (wipeF fr1 vs) st2 with
            | exc _ _ _ => rw [eT] at p2; exact p2.elim
            | stuck => rw [eT] at p2; exact p2.elim
            | ok o fr' st' =>
              rw [eT] at p2
              intro g' σ' H' e' r'
              have hD' : H' a = some (.lst accV) := e'.keep a _ hD3 nF3
              have gD' : g'.G a = none := e'.new a _ hD3 nF3 gD3
              have sD' : ∀ n l, st'.get n = some l → g'.io n ≠ a := fun n l e z => (e'.fo a (.inl ⟨n, l, e, z⟩)).elim nF3 fun z => by rw [hD3] at z; cases z
              have ee := (e2.trans e3).trans e'
              have ra' := ra2.mono (e3.le.trans e'.le)
              cases o with
              | none => exact ⟨g', st', accD, accV, ee, r'.toRelG, hD', hz2, ra', gD', sD', p2⟩
              | some y =>
                dsimp only at p2
                by_cases hl : accD.length < sizeLine
                · rw [if_pos hl] at p2
                  intro v rv
                  have hlv := ra2.length
                  refine ⟨accV, hD', by omega, g', st', accD ++ [y], accV ++ [v], ⟨ee.le, fun c u h n => ?_, ee.new, ee.fo⟩, r'.toRelG.updU gD' sD' (fun ps z => by rw [hD'] at z; cases z), upd_same, by rw [List.length_append]; simp; omega, ra'.append (.cons rv .nil), gD', sD', p2⟩
                  rw [upd_ne (ne_of_none h hD)]
                  exact ee.keep c u h n
                · rw [if_neg hl] at p2
                  exact p2.elim
          refine ⟨g3, wipeF fr1 vs, st2, ds[i], r3.wipe vs, rx, ?_⟩
          have h1 := PostX.bind (show PostX E W0 g3 (foS E g3 st2) H3 _ ((mg ds[i] >>= fun _ => mt >>= fun b => if b = true then me >>= fun y => M.pure (some y) else M.pure none) (wipeF fr1 vs) st2) from hT)
          cases eg : mg ds[i] (wipeF fr1 vs) st2 with
          | ok u fr4 st4 =>
            rw [eg] at h1
            intro g4 σ4 H4 e4 r4 hw
            have t4 := h1 g4 σ4 H4 e4 r4
            refine ⟨by rw [hw, wipe_idem], tIT_bindX t4.rel t4.post fun g5 fr5 st5 H5 b t5 => ?_⟩
            have tp5 := t5.post
            cases b with
            | true =>
              rw [if_pos rfl] at tp5 ⊢
              exact tI_bindX t5.rel tp5 fun g6 fr6 st6 H6 y v t6 rv => t6.ok v rv
            | false =>
              rw [if_neg Bool.false_ne_true] at tp5 ⊢
              exact tp5 g5 σ4 H5 (.refl ..) t5.rel
          | exc x fr4 st4 =>
            rw [eg] at h1
            exact h1
          | stuck =>
            rw [eg] at h1
            exact h1
        rcases hJ.yld i _ hd g2 st2 H2 x H3 e2.le rg2 hC y with ⟨rfl, rx⟩ | ⟨q, o, hq, rfl, rx⟩
        · exact turn g2 (.refl ..) r2 rx
        · obtain ⟨r', e'⟩ := r2.newF hq o
          exact turn _ e' r' (rx _ e'.le upd_same)
    · have e : i = ds.length := by omega
      subst e
      rw [List.drop_length] at p2
      dsimp only at p2
      rw [bind_eq] at p2
      unfold compL at p2
      cases hC : C st2 with
      | false => rw [hC, if_neg Bool.false_ne_true] at p2; exact p2.elim
      | true =>
        rw [hC, if_pos rfl] at p2
        exact .inl ⟨hJ.stop g2 st2 H2 e2.le rg2 hC, RelF.adopt (m := .lst accD) e2 r2 hD hD2 gD2 sD2 ⟨accV, hD2, hz2, ra2⟩ p2⟩
theorem s_comp (sh : Bool) (own : List (Str × Nat)) {elt tg iter : Expr} {ifs : List Expr} {scope : Scope} {pos : Pos} {mi : Src} {mg : D → M Unit} {mt : M Bool} {me : M D} (hc : X.calm = true) (hN : X.N.Nodup) (hi : PI X tg iter (tII E W mi)) (ok : BlkOk X.N X.env.scope scope own)
    (hg : ∀ (s : Shared) (H : Hp) (C : Addr) (cl : List (Str × Addr)) (fp : List Addr), PG (X.blk s H scope (compEnvC scope cl C X.env) fp) tg (tGw E W0 (own.map (·.2)) mg)) (ht : ∀ (s : Shared) (H : Hp) (C : Addr) (cl : List (Str × Addr)) (fp : List Addr), PTs (X.blk s H scope (compEnvC scope cl C X.env) fp) ifs (tIT E W0 mt))
    (he : ∀ (s : Shared) (H : Hp) (C : Addr) (cl : List (Str × Addr)) (fp : List Addr), PE (X.blk s H scope (compEnvC scope cl C X.env) fp) elt (tI E W0 me)) (hs : ∀ x, foldedSetIterable iter X.env x = pure x := by intro _; rfl) :
    PE X (.ListComp elt [⟨tg, iter, ifs, 0⟩] scope pos) (tI E W (mComp sh (own.map (·.2)) mi mg mt me)) := pe_imp (pe_lc hc hN hi ok hg ht he hs) fun σ H Q h => comp_imp sh h
/-- x = [..] -/
theorem s_setComp (sh : Bool) (i : Nat) (own : List (Str × Nat)) {y : Str} {py : Pos} {elt tg iter : Expr} {ifs : List Expr} {scope : Scope} {pos spos : Pos} {mi : Src} {mg : D → M Unit} {mt : M Bool} {me : M D} (hc : X.calm = true) (hN : X.N.Nodup) (hy : X.N[i]? = some y) (hyl : X.env.scope.names.lookup y = some .local) (hi : PI X tg iter (tII E W mi)) (ok : BlkOk X.N X.env.scope scope own)
    (hg : ∀ (s : Shared) (H : Hp) (C : Addr) (cl : List (Str × Addr)) (fp : List Addr), PG (X.blk s H scope (compEnvC scope cl C X.env) fp) tg (tGw E W0 (own.map (·.2)) mg)) (ht : ∀ (s : Shared) (H : Hp) (C : Addr) (cl : List (Str × Addr)) (fp : List Addr), PTs (X.blk s H scope (compEnvC scope cl C X.env) fp) ifs (tIT E W0 mt))
    (he : ∀ (s : Shared) (H : Hp) (C : Addr) (cl : List (Str × Addr)) (fp : List Addr), PE (X.blk s H scope (compEnvC scope cl C X.env) fp) elt (tI E W0 me)) (hsw : swapsWith (.ListComp elt [⟨tg, iter, ifs, 0⟩] scope pos) (some (.Name y py)) spos.line X.env = pure true := by rfl) (hs : ∀ x, foldedSetIterable iter X.env x = pure x := by intro _; rfl) :
    PS X (.Assign [.Name y py] (.ListComp elt [⟨tg, iter, ifs, 0⟩] scope pos) spos) (tS E W (mAsg (mComp sh (own.map (·.2)) mi mg mt me) (gSet i))) := ps_imp (ps_setLc hc hN hy hyl hsw hi ok hg ht he hs) fun D σ H h => by
  obtain ⟨g, fr, st, r, p⟩ := h
  refine comp_imp sh (tI_bindX r p fun g1 fr1 st1 H1 d v t rv => ?_)
  exact t.post g1 _ H1 (.refl ..) (t.rel.set_val rv)
end
end Mp
end
section
/-! Mp, part 23: raise C(..). -/
namespace Mp
open PySem PySem.Spec PyProof.Rows L2
/-- P is an own error class whose __init__ is ValueError's -/
structure PIn (K : PySem.W.Frag) (P : Addr) : Prop where
  ga : PySem.W.specialIn K (.ref P) "__getattribute__" = some (some (.builtin "type.__getattribute__"))
  ty : PySem.W.typeIn K (.ref P) = some (.type "type")
  rd : PySem.W.readsIn K P (.type "type") = true
  fi : PySem.W.findCls K (.ref P) (.type "type") "__init__" = some (.val (.builtin "ValueError.__init__"))
section
variable {X : Cx} {o e : Expr} {es : List Expr} {to te : TE} {ta : TA} {f x : Str} {p p' p1 p2 pos : Pos} {P : Addr}
theorem pe_pinit {pl : Sem Bool} (T0 : PIn X.K P) (hg : Gl X x) (hm : X.mg x = some (.ref P)) (ha : PA X (e :: es) ta) (hdb : (x == ("__debug__" : Str)) = false := by decide)
    (hc : eval (.Call (.Attribute (.Name x p1) "__init__" p2) (e :: es) [] pos) X.env = (do
      let ov ← eval (.Name x p1) X.env
      standAt p2.atName
      let (f, first) ← holding [ov] (getMethod ov "__init__" pl)
      callWith pos f first (backTo pos (starEach (e :: es) X.env)) (backToKw pos (keywordEach [] X.env))) := by rfl)
    (he : starEach (e :: es) X.env = (false, eval e X.env) :: starEach es X.env := by rfl) (hpl : (backTo pos (starEach es X.env)).any (·.1) = false := by rfl) :
    PE X (.Call (.Attribute (.Name x p1) "__init__" p2) (e :: es) [] pos) (tVeI X.K ta) := by
  refine ⟨fun pins s σ H Q I h => ?_⟩
  refine PySem.W.methodCall_KW (ld_glob I hg hm ?_ hdb) hc
  obtain ⟨m, fr⟩ := I.fr
  refine PySem.W.method_of_cls fr I.ok.mod.kin T0.ga (PySem.W.cls_val fr I.ok.mod.kin T0.ty T0.rd T0.fi (by decide +kernel) ?_)
  show wpAny _ _ (callWith pos (Value.builtin "ValueError.__init__") [] (backTo pos (starEach (e :: es) X.env)) []) _ _ _
  refine PyProof.Rows.callWith_method1 (thn (ha.run pos pins _ σ H _ (I.tok _) h) fun us s1 ⟨vs, H1, I1, r1, a, C, ws, ev, hl, T, ea, q⟩ => ?_) he hpl
  subst ev
  cases r1 with
  | @cons _ u0 _ ur ra rw' =>
    obtain rfl : u0 = Value.ref a := ra
    have hlen : ur.length ≤ sizeLine := by
      rw [← Paired.length rw', sizeLine_eq]
      omega
    exact oinit_ok T I1 ea hlen fun s' J => ⟨.non, H1, J, rfl, q⟩
end
/-- self.f1 = v1; .. -/
def tStores (K : PySem.W.Frag) : List (Str × Nat) → TS
  | [] => tNext
  | p :: r => tSeq (tOst K p.1 (tVar 0) (tVar p.2)) (tStores K r)
theorem stores_old {K : PySem.W.Frag} {D : Ends} {σ : L2.St} {a C dx : Addr} (T : OexC K C) : ∀ (l : List (Str × Nat)) (ys : List V) (fs : List (Str × V)) (H : Hp), (∀ p ∈ l, PySem.W.findIn K (.ref C) p.1 = some none) → l.map (fun p => σ[p.2]?) = ys.map (fun y => some (some y)) → σ[0]? = some (some (V.ref a)) → dx ≠ a → H a = some (exo a C (some dx)) → H dx = some (exd dx fs) → fs.length + l.length ≤ 900 →
    (∀ H', H' a = some (exo a C (some dx)) → H' dx = some (exd dx (((l.map (·.1)).zip ys).reverse ++ fs)) → (∀ b, b ≠ dx → H' b = H b) → D.nx σ H') → tStores K l D σ H
  | [], ys, fs, H, _, hy, _, _, h1, h2, _, hQ => by
    cases ys with
    | nil => exact hQ H h1 h2 fun _ _ => rfl
    | cons y ys => simp at hy
  | p :: l, [], fs, H, _, hy, _, _, _, _, _, _ => by simp at hy
  | p :: l, y :: ys, fs, H, hn, hy, h0, hne, h1, h2, hz, hQ => by
    simp only [List.map_cons, List.cons.injEq] at hy
    refine ⟨y, hy.1, V.ref a, h0, a, C, rfl, T, hn p List.mem_cons_self, .inr ⟨dx, fs, h1, h2, by simp at hz; omega, ?_⟩⟩
    refine stores_old (D := D) T l ys ((p.1, y) :: fs) (upd H dx (exd dx ((p.1, y) :: fs))) (fun q hq => hn q (List.mem_cons_of_mem _ hq)) hy.2 h0 hne (by rw [upd_ne (Ne.symm hne)]; exact h1) upd_same (by simp at hz ⊢; omega) fun H' z1 z2 z3 => ?_
    refine hQ H' z1 (by rw [z2]; simp) fun b hb => by rw [z3 b hb, upd_ne hb]
theorem stores_new {K : PySem.W.Frag} {D : Ends} {σ : L2.St} {a C : Addr} (T : OexC K C) (p : Str × Nat) (l : List (Str × Nat)) (ys : List V) (H : Hp) (hn : ∀ q ∈ p :: l, PySem.W.findIn K (.ref C) q.1 = some none) (hy : (p :: l).map (fun p => σ[p.2]?) = ys.map (fun y => some (some y))) (h0 : σ[0]? = some (some (V.ref a))) (h1 : H a = some (exo a C none)) (hz : l.length ≤ 800)
    (hQ : ∀ H' dx, H dx = none → dx ≠ a → H' a = some (exo a C (some dx)) → H' dx = some (exd dx ((((p :: l).map (·.1)).zip ys).reverse)) → (∀ b, b ≠ dx → b ≠ a → H' b = H b) → D.nx σ H') : tStores K (p :: l) D σ H := by
  cases ys with
  | nil => simp at hy
  | cons y ys =>
    simp only [List.map_cons, List.cons.injEq] at hy
    refine ⟨y, hy.1, V.ref a, h0, a, C, rfl, T, hn p List.mem_cons_self, .inl ⟨h1, fun dx hdx hne => ?_⟩⟩
    refine stores_old (D := D) T l ys [(p.1, y)] _ (fun q hq => hn q (List.mem_cons_of_mem _ hq)) hy.2 h0 hne upd_same (by rw [upd_ne hne, upd_same]) (by simp; omega) fun H' z1 z2 z3 => ?_
    refine hQ H' dx hdx hne z1 (by rw [z2]; simp) fun b hb hb2 => by rw [z3 b hb, upd_ne hb2, upd_ne hb]
/-- an own error class with an own __init__ that keeps its arguments by these names -/
structure ExD (P : Program) (w : World) (K : PySem.W.Frag) (mg : Str → Option Value) (base : Heap) (k : Nat) (C : Addr) (ns : List Str) : Prop where
  ex : ∃ (fI : Addr) (fd : FuncData) (ps : List Str), OexC K C ∧ PySem.W.findIn K (.ref C) "__init__" = some (some (.ref fI)) ∧ PySem.W.typeIn K (.ref fI) = some (.type "function") ∧ Binds K fd ps [] ∧ ps.length = ns.length + 1 ∧
    FnOk P w K mg base (L2.CX P w) k fI fd ps (fun vs H Q _ => ∃ a ws, vs = V.ref a :: ws ∧ ws.length = ns.length ∧ H a = some (exo a C none) ∧ vs.length = ps.length ∧
      ∀ H' dx, H dx = none → dx ≠ a → H' a = some (exo a C (some dx)) → H' dx = some (exd dx ((ns.zip ws).reverse)) → (∀ b, b ≠ dx → b ≠ a → H' b = H b) → Q .non H')
theorem range_get {α : Type} : ∀ (l : List (Str × Nat)) (ws : List α) (b : List (Option α)), l.map (·.2) = (List.range l.length).map (· + 1) → ws.length = l.length → ∀ x, l.map (fun p => (x :: (ws.map some ++ b))[p.2]?) = ws.map (fun y => some (some y)) := by
  intro l ws b h1 h2 x
  have e : l.map (fun p => (x :: (ws.map some ++ b))[p.2]?) = (l.map (·.2)).map (fun i => (x :: (ws.map some ++ b))[i]?) := by simp
  rw [e, h1]
  apply List.ext_getElem?
  intro i
  simp only [List.map_map, List.getElem?_map]
  by_cases hi : i < l.length
  · rw [List.getElem?_range hi]
    simp [List.getElem?_append, hi, h2]
  · rw [List.getElem?_eq_none (by simpa using hi), List.getElem?_eq_none (by omega)]
    rfl
theorem ex_init {P : Program} {w : World} {K : PySem.W.Frag} {mg : Str → Option Value} {base : Heap} {qual : Str} {params : Arguments} {body : List Stmt} {scope : Scope} {fI : Addr} {fd : FuncData} {N : List Str} {k : Nat} {C : Addr} {l : List (Str × Nat)} {p : Str × Nat} {x : Str}
    (F : FunD K "__init__" qual params body scope [] [] fI fd) (S : FnScope N N scope) (T : OexC K C) (iC : PySem.W.findIn K (.ref C) "__init__" = some (some (.ref fI))) (tI : PySem.W.typeIn K (.ref fI) = some (.type "function")) (hb : Binds K fd N [])
    (hn : ∀ q ∈ p :: l, PySem.W.findIn K (.ref C) q.1 = some none) (hi : (p :: l).map (·.2) = (List.range (p :: l).length).map (· + 1)) (hN : N.length = (p :: l).length + 1) (hl : l.length ≤ 800)
    (hbody : ∀ (cdv : Value) (A : Around) (outer : List Env) (s : Shared) (H : Hp) (XE : XK), Room k (A.deeper (envOfC qual scope s.heap.objs.size fI cdv)) →
      PSs (cxOf (L2.CX P w) P w K mg base N qual scope fI cdv A outer s H XE) body (tSeq (tDrop (tVeI K (tCons (tVar 0) (tCons (tC (.str x)) tNil)))) (tStores K (p :: l)))) : ExD P w K mg base (k + 1) C ((p :: l).map (·.1)) := by
  refine ⟨fI, fd, N, T, iC, tI, hb, by rw [hN, List.length_map], F.ok S (fun vs H Q XE h => h.choose_spec.choose_spec.2.2.2.1) fun cdv A outer s H vs Q XE hr h => ⟨_, hbody cdv A outer s H XE hr, ?_⟩⟩
  obtain ⟨a, ws, rfl, hw, ha, hz, hQ⟩ := h
  have st : L2.start N (V.ref a :: ws) = some (V.ref a) :: (ws.map some ++ []) := by
    show List.map some (V.ref a :: ws) ++ List.replicate _ none = _
    rw [hz, Nat.sub_self]
    simp
  rw [st]
  refine ⟨V.ref a, rfl, a, C, [V.str x], rfl, by simp, T, ha, ?_⟩
  refine stores_new (a := a) (C := C) T p l ws H hn (range_get (p :: l) ws [] hi (by simpa using hw) _) rfl ha hl fun H' dx z1 z2 z3 z4 z5 => hQ H' dx z1 z2 z3 z4 z5
end Mp
end
section
/-! Mp, part 24: raise. -/
namespace Mp
open PySem PySem.Spec PyProof.Rows L2
def mRaise0 (C : Str) : M Ctl := fun fr st => .exc ⟨C, [], []⟩ fr st
def raiseK (C : Str) (ns : List Str) (ds : List D) : M Ctl := fun fr st => if ds.length = ns.length ∧ ds.length ≤ 1000 then .exc ⟨C, ns.reverse, ds.reverse⟩ fr st else .stuck
def mRaiseX (C : Str) (ns : List Str) (ms : M (List D)) : M Ctl := do
  let ds ← ms
  raiseK C ns ds
/-- an own error class without an own __init__ -/
structure Er0 (K : PySem.W.Frag) (C : Addr) : Prop where
  q : ∃ bmB, ExcBaseFacts "ValueError" "ValueError.__new__" "ValueError.__init__" bmB ∧ PySem.W.excIn K C bmB "ValueError.__new__" = true
  kC : PySem.W.keepIn K (.ref C) = true
  sub : PySem.W.subIn K (.ref C) (.type "BaseException") = some true
  ty : PySem.W.typeIn K (.ref C) = some (.type "type")
theorem Reps.reverse {E : SE} {g : Gh} : ∀ {ds : List D} {vs : List V}, Reps E g ds vs → Reps E g ds.reverse vs.reverse
  | [], vs, h => by
    simp only [Reps] at h
    subst h
    exact .nil
  | d :: ds, vs, h => by
    simp only [Reps] at h
    obtain ⟨v, r, rfl, h1, h2⟩ := h
    rw [List.reverse_cons, List.reverse_cons]
    exact h2.reverse.append (.cons h1 .nil)
section
variable {E : SE} {W : WX} {X : Cx}
theorem s_raise0 {C : Str} {x m : Str} {j : Nat} {p p2 pos pos' : Pos} (hc : X.calm = true) (tk : Takes X W) (T : Er0 X.K (E.adr C)) (hm : X.mg x = some (.ref (E.adr C))) (hg : Gl X x := by rfl) (hdb : (x == ("__debug__" : Str)) = false := by decide) :
    PS X (.Raise (some (.Call (.Name x p) [.Constant (.str m) j p2] [] pos)) none pos') (tS E W (mRaise0 C)) := by
  obtain ⟨bmB, F, q⟩ := T.q
  refine ps_imp (ps_raise hc tk (pmk_own F q hm T.kC (raises_own T.sub T.ty) hg hdb)) fun D σ H h => ?_
  obtain ⟨g, fr, st, r, p⟩ := h
  exact p g σ H (.ref (E.adr C)) none (.refl ..) r ⟨rfl, .inl ⟨rfl, rfl, rfl⟩⟩
theorem zip_rev {α β : Type} : ∀ (l : List α) (m : List β), l.length = m.length → (l.zip m).reverse = l.reverse.zip m.reverse
  | [], [], _ => rfl
  | [], _ :: _, h => by simp at h
  | _ :: _, [], h => by simp at h
  | a :: l, b :: m, h => by
    have h : l.length = m.length := by simpa using h
    rw [List.zip_cons_cons, List.reverse_cons, List.reverse_cons, List.reverse_cons, zip_rev l m h, List.zip_append (by simpa using h)]
    rfl
theorem s_raiseX {k : Nat} {C : Str} {ns : List Str} {x : Str} {e : Expr} {es : List Expr} {ms : M (List D)} {p pos pos' : Pos} (hc : X.calm = true) (tk : Takes X W) (T : ExD X.prog X.w X.K X.mg X.base k (E.adr C) ns) (hr : Room (k + 1) X.A) (ha : PA X (e :: es) (tIA E W ms)) (hm : X.mg x = some (.ref (E.adr C)))
    (hg : Gl X x := by rfl) (hdb : (x == ("__debug__" : Str)) = false := by decide) (he : starEach (e :: es) X.env = (false, eval e X.env) :: starEach es X.env := by rfl) (hpl : (backTo pos (starEach es X.env)).any (·.1) = false := by rfl) :
    PS X (.Raise (some (.Call (.Name x p) (e :: es) [] pos)) none pos') (tS E W (mRaiseX C ns ms)) := by
  obtain ⟨fI, fd, ps, c1, c2, c3, c4, c0, c5⟩ := T.ex
  refine ps_imp (ps_raise hc tk (pmk_oex (dvs := []) c1 c2 c3 c5 hr c4 .nil passL hg hm ha hdb he hpl)) fun D σ H h => ?_
  obtain ⟨g, fr, st, r, p⟩ := h
  refine tIA_bindX r p fun g1 fr1 st1 H1 ds vs t rs => ?_
  have tp := t.post
  unfold raiseK at tp
  split at tp
  · rename_i hl
    refine ⟨by rw [rs.length]; exact hl.2, fun a hna => ⟨a, vs, by simp, by rw [rs.length]; exact hl.1, upd_same, ?_, fun H' dx z1 z2 z3 z4 z5 => ⟨rfl, dx, _, z3, z4, ?_, ?_⟩⟩⟩
    · rw [c0, List.append_nil, List.length_cons, rs.length, hl.1]
    · rw [upd_ne z2] at z1
      exact z1
    · have z1' : H1 dx = none := by rw [upd_ne z2] at z1; exact z1
      have e : upd (del H' a) dx (.xd (ns.zip vs).reverse) = upd H1 dx (.xd (ns.zip vs).reverse) := by
        funext b
        by_cases hb : b = dx
        · rw [hb, upd_same, upd_same]
        · rw [upd_ne hb, upd_ne hb]
          by_cases hb2 : b = a
          · rw [hb2, del_same, hna]
          · rw [del_ne hb2, z5 b hb hb2, upd_ne hb2]
      rw [e]
      obtain ⟨r2, e2⟩ := t.rel.newF z1' (.xd (ns.zip vs).reverse)
      refine tp _ σ _ _ _ e2 r2 ⟨rfl, .inr ⟨dx, vs.reverse, rfl, ?_, ?_, (rs.mono e2.le).reverse⟩⟩
      · show upd g1.G dx _ dx = _
        rw [upd_same, zip_rev _ _ (by rw [rs.length]; exact hl.1.symm)]
      · rw [List.length_reverse, List.length_reverse, rs.length]
        exact hl.1.symm
  · exact tp.elim
end
end Mp
end
section
set_option maxHeartbeats 2000000
/-! Mp, part 25: try .. except C: / except C as e:, what is caught is data. -/
namespace Mp
open PySem PySem.Spec PyProof.Rows L2
/-- which of these classes an except clause takes -/
def CatOk (E : SE) (c : Value) (cat : List (Str × Bool)) : Prop := ∀ C b, cat.lookup C = some b → PySem.W.exmOne E.K (.ref (E.adr C)) c = some b
def offK : Out Ctl → Out Ctl
  | .exc _ _ _ => .stuck
  | o => o
def mTry (cat : List (Str × Bool)) (mb ms : M Ctl) : M Ctl := fun fr st => match mb fr st with
  | .exc x fr1 st1 => match cat.lookup x.cls with
    | some true => offK (ms fr1 st1)
    | some false => .exc x fr1 st1
    | none => .stuck
  | o => o
def goneK (i : Nat) : Out Ctl → Out Ctl
  | .ok c fr st => .ok c (fr.set i none) st
  | .exc _ _ _ => .stuck
  | .stuck => .stuck
def mTryAs (i : Nat) (cat : List (Str × Bool)) (mb ms : M Ctl) : M Ctl := fun fr st => match mb fr st with
  | .exc x fr1 st1 => match cat.lookup x.cls with
    | some true => goneK i (ms (fr1.set i (some (.exc x.cls x.ns x.ds))) st1)
    | some false => .exc x fr1 st1
    | none => .stuck
  | o => o
theorem off_post {E : SE} {W : WX} {g : Gh} {F : Addr → Prop} {H : Hp} {R : Gh → Ctl → Fr → Store → L2.St → Hp → Prop} {o : Out Ctl} (p : PostX E W g F H R (offK o)) : PostX E (fun _ _ _ _ => False) g F H R o := by
  cases o with
  | ok c fr st => exact p
  | exc x fr st => exact p.elim
  | stuck => exact p
theorem gone_post {E : SE} {W : WX} {g : Gh} {F : Addr → Prop} {H : Hp} {D : Ends} {i : Nat} {o : Out Ctl} (p : PostX E W g F H (CtlE E D) (goneK i o)) :
    PostX E (fun _ _ _ _ => False) g F H (CtlE E { nx := fun σ' H' => D.nx (σ'.set i none) H', rt := D.rt, bk := fun σ' H' => D.bk (σ'.set i none) H', ct := fun σ' H' => D.ct (σ'.set i none) H' }) o := by
  cases o with
  | ok c fr st =>
    intro g' σ' H' e r
    have q := p g' _ H' e (r.set_un (i := i) (v := none))
    cases c with
    | nx => exact q
    | bk => exact q
    | ct => exact q
    | rt d => exact q
  | exc x fr st => exact p.elim
  | stuck => exact p
section
variable {E : SE} {Wout : WX} {X : Cx}
theorem s_try {x : Str} {c : Value} {cat : List (Str × Bool)} {body suite : List Stmt} {b₀ : Stmt} {np pos pos' : Pos} {mb ms : M Ctl} (hK : X.K = E.K) (hcat : CatOk E c cat) (hs : X.stack = X.env :: X.outer) (hf : X.env.frame = some X.env.locals) (hc : Names X x c) (tk : Takes X Wout)
    (hb : ∀ (W : WX) (pn : List (Addr × Obj)) (xe : Value → Shared → Prop), Takes (X.tr pn xe) W → PassesOwn (model X.prog X.w) X.A X.env xe → PSs (X.tr pn xe) body (tS E W mb))
    (hsu : ∀ (a : Addr) (pn : List (Addr × Obj)), PSs (X.suite a pn) (b₀ :: suite) (tS E (fun _ _ _ _ => False) ms)) :
    PS X (.Try body [.ExceptHandler (some (.Name x np)) none (b₀ :: suite) pos'] [] [] pos) (tS E Wout (mTry cat mb ms)) := ps_imp (ps_try_only (tb := fun W => tS E W mb) (ts := fun _ _ _ => tS E (fun _ _ _ _ => False) ms) hs hf hc tk hb fun a oe cls d pn _ _ => hsu a _) fun D σ H h => by
  obtain ⟨g, fr, st, r, p⟩ := h
  refine ⟨g, fr, st, r, ?_⟩
  unfold mTry at p
  cases e : mb fr st with
  | ok c fr1 st1 =>
    rw [e] at p
    exact p
  | stuck =>
    rw [e] at p
    exact p
  | exc y fr1 st1 =>
    rw [e] at p
    intro g' σ' H' cls dx e' r' q
    have p : PostX E Wout g (foS E g st) H (CtlE E D) (match cat.lookup y.cls with
      | some true => offK (ms fr1 st1)
      | some false => .exc y fr1 st1
      | none => .stuck) := p
    cases el : cat.lookup y.cls with
    | none => rw [el] at p; exact p.elim
    | some b =>
      rw [el] at p
      refine ⟨b, by rw [q.1, hK]; exact hcat _ _ el, fun z a na => ?_, fun z => ?_⟩
      · subst z
        exact ⟨g', fr1, st1, r', off_post (p.ext e')⟩
      · subst z
        exact p g' σ' H' cls dx e' r' q
end

/-! ### the caught error as a value -/
theorem Inv.trackX {X : Cx} {pins : List (Addr × Obj)} {σ : L2.St} {H : Hp} {s : Shared} {a : Addr} {o : HO} (I : Inv X pins σ H s) (hn : H a = none) (h0 : ∀ u, X.s_0.heap.get? a = some u → a ∈ X.ex) (hL : a ≠ X.env.locals) (hc : ∀ x c, X.env.cells.lookup x = some c → c ≠ a) (hp : ∀ p ∈ X.pn ++ pins, p.1 ≠ a)
    (new : ObjOk X.prog X.w (upd H a o) s.heap a o) : Inv X pins σ (upd H a o) s := by
  refine ⟨I.ok, I.os, I.bare, ⟨I.base.keep, I.base.slot, fun b u e n hx => ?_, I.base.there, fun b xs e => ?_, fun b u v e => ?_, fun b ps e => ?_⟩, I.loc, I.cell, ?_, fun x c e => ?_, fun p q => ?_, ?_, I.len⟩
  · have nb : b ≠ a := fun z => hx (z ▸ h0 u (z ▸ e))
    rw [upd_ne nb]
    exact I.base.free b u e n hx
  · have q := I.base.tups b xs e
    rw [upd_ne (ne_of_none q hn)]
    exact q
  · have q := I.base.frzs b u v e
    rw [upd_ne (ne_of_none q hn)]
    exact q
  · obtain ⟨m, q⟩ := I.base.tbls b ps e
    exact ⟨m, by rw [upd_ne (ne_of_none q hn)]; exact q⟩
  · rw [upd_ne (Ne.symm hL)]
    exact I.free
  · rw [upd_ne (hc x c e)]
    exact I.freeC x c e
  · obtain ⟨e, n, r⟩ := I.pin p q
    exact ⟨e, by rw [upd_ne (hp p q)]; exact n, r⟩
  · exact HOk.laidN I.hok (fun _ _ e => e) hn new
theorem exv_ok {P : Program} {w : World} {H : Hp} {h : Heap} {a : Addr} {cls : Value} {d : Option Addr} {oe : Obj} {vs : Array Value} (e : h.get? a = some oe) (hz : Zc cls d oe) (hd : oe.data = .fields vs) : ObjOk P w H h a (ExV cls d a) :=
  ⟨⟨oe, vs, e, hz, hd⟩, ⟨_, e⟩, fun h1 h2 ⟨oe, vs, y1, y2, y3⟩ k => ⟨oe, vs, k _ y1, y2, y3⟩⟩
/-- the context of a suite, nothing pinned -/
theorem Inv.suiteX {X : Cx} {pins : List (Addr × Obj)} {σ : L2.St} {H : Hp} {s : Shared} (I : Inv X pins σ H s) (a : Addr) : Inv (X.suite a (X.pn ++ pins)) [] σ H s :=
  ⟨I.ok.suite _ _, I.os, I.bare, I.base, I.loc, I.cell, I.free, I.freeC, fun p hp => I.pin p (by rw [List.append_nil] at hp; exact hp), I.hok, I.len⟩
theorem Inv.unsuiteX {X : Cx} {pins pn' : List (Addr × Obj)} {σ : L2.St} {H : Hp} {s : Shared} {a : Addr} (I : Inv (X.suite a (X.pn ++ pins)) pn' σ H s) (ok : X.Ok) : Inv X pins σ H s :=
  ⟨ok, I.os, I.bare, I.base, I.loc, I.cell, I.free, I.freeC, fun p hp => I.pin p (List.mem_append_left _ hp), I.hok, I.len⟩
/-- as wAs; the caught object is tracked -/
def wAsX (K : PySem.W.Frag) (c : Value) (i : Nat) (ts : TS) (Wout : WX) (D : Ends) : WX := fun cls d σ H =>
  ∃ b, PySem.W.exmOne K cls c = some b ∧ (b = true → ∀ a, H a = none → ts { nx := fun σ' H' => D.nx (σ'.set i none) H', rt := D.rt, bk := fun σ' H' => D.bk (σ'.set i none) H', ct := fun σ' H' => D.ct (σ'.set i none) H' } (σ.set i (some (.ref a))) (upd H a (ExV cls d a))) ∧
    (b = false → Wout cls d σ H)
section
variable {X : Cx} {x n : Str} {c : Value} {i : Nat} {body suite : List Stmt} {b₀ : Stmt} {np pos pos' : Pos} {tb : WX → TS} {ts : TS} {Wout : WX}
theorem ps_try_asX (hs : X.stack = X.env :: X.outer) (hf : X.env.frame = some X.env.locals) (hN : X.N.Nodup) (hi : X.N[i]? = some n) (hln : X.env.kindOf n = some .local) (hc : Names X x c) (tk : Takes X Wout)
    (hb : ∀ (W : WX) (pn : List (Addr × Obj)) (xe : Value → Shared → Prop), Takes (X.tr pn xe) W → PassesOwn (model X.prog X.w) X.A X.env xe → PSs (X.tr pn xe) body (tb W))
    (hsu : ∀ (a : Addr) (pn : List (Addr × Obj)), PSs (X.suite a pn) (b₀ :: suite) ts) :
    PS X (.Try body [.ExceptHandler (some (.Name x np)) (some n) (b₀ :: suite) pos'] [] [] pos) (fun D σ H => tb (wAsX X.K c i ts Wout D) D σ H) := by
  refine ⟨fun pins s σ H D I h => ?_⟩
  have ok := I.ok
  have hfr : X.A.frames = some (X.env :: X.outer) := by rw [ok.frames, hs]
  have hloc : Loc X.env.scope n := .inl hln
  refine wpAny_Try_except ?_
  refine wpAny_mono ((hb (wAsX X.K c i ts Wout D) (X.pn ++ pins) (fun e s₁ => wpAny (model X.prog X.w) X.A (noteFrame e X.env) (fun _ s₂ => wpAny (model X.prog X.w) X.A (setFlight e none) (fun _ s₃ =>
    wpAny (model X.prog X.w) X.A (handleBy e X.env [.ExceptHandler (some (.Name x np)) (some n) (b₀ :: suite) pos']) (SP X pins D) X.xe s₃) X.xe s₂) X.xe s₁) (fun u s' xx => ?_) PassesOwn.looking).run [] s σ H D (I.toTry _) h) (fun f s1 hsp => ?_) (fun e s1 he => he)
  · obtain ⟨a, B, sI, pins', σ', H', cls, d, rfl, J', nb, up, sky, na, os, ag, b, hb1, hyes, hno⟩ := xx
    have J : Inv X pins σ' H' sI := J'.ofTry ok
    have sky' : Sky B (X.env :: X.outer) a (Zc cls d) X.env.locals s'.heap := by rw [← hs]; exact sky
    show wpAny (model X.prog X.w) X.A (noteFrame (.ref a) X.env) _ _ _
    refine Sky.land Zc.steady hfr hf sky' fun h3 fl3 up3 => ?_
    have J3 : Inv X pins σ' H' { s' with heap := h3 } := J.landed nb fl3.1 (up.trans up3) os ag
    obtain ⟨oe3, vs3, he3, hz3, hd3⟩ := fl3.there
    have notFr : ∀ {h : Heap} {o : Obj} {vs : Array Value}, h.FunFrames B (X.env :: X.outer) → h.get? a = some o → o.data = .fields vs → a ∉ frs (X.env :: X.outer) := fun {h o vs} ff e dd hm => by
      obtain ⟨_, o', e', hnf⟩ := ff.mem hm
      rw [e] at e'; cases e'
      exact hnf _ dd
    have nfr := notFr fl3.2.2.1 he3 hd3
    have nL : a ≠ X.env.locals := fun z => nfr (List.mem_filterMap.mpr ⟨X.env, List.mem_cons_self, by rw [hf, z]⟩)
    have nB : B.get? a = none := fl3.2.1
    have h0 : ∀ u, X.s_0.heap.get? a = some u → a ∈ X.ex := fun u e => Classical.byContradiction fun hx => by
      obtain ⟨o', q⟩ := J.base.there a u e hx
      rw [nb a o' q (by rw [hs]; exact nfr)] at nB
      cases nB
    have hpn : ∀ p ∈ X.pn ++ pins, p.1 ≠ a := fun p hp z => by
      obtain ⟨e, n1, n2, n3, n4⟩ := J.pin p hp
      have q := nb p.1 _ e (by rw [z, hs]; exact nfr)
      rw [z, nB] at q
      cases q
    have S3 := Inv.suiteX J3 a
    refine wpAny_handleBy_cons (codeAny_handlers_test ?_) (by intro q; cases q)
    have LT : PySem.W.Looks (model X.prog X.w) h3 (typeOf (.ref a)) cls := fun A Q E s k q => wpAny_typeOf_ref (k _ _ he3) (by rw [hz3.1]; exact q)
    have LM := PySem.W.exm_one (M := model X.prog X.w) (J3.kIn) LT hb1
    have test : ∀ {Q : Value → Shared → Prop} {E : Value → Shared → Prop}, Q c { s' with heap := h3 } → wpAny (model X.prog X.w) (X.A.mark (some (.ref a))) (eval (.Name x np) X.env) Q E { s' with heap := h3 } := fun {Q E} q => by
      obtain ⟨hg, hdbg, hm | ⟨hm, hv, hnn⟩⟩ := hc
      · exact ld_glob (X := X.suite a (X.pn ++ pins)) S3 hg hm q hdbg
      · exact ld_blt (X := X.suite a (X.pn ++ pins)) S3 hg hm hv q hnn hdbg
    refine test (LM.here ?_)
    cases b with
    | true =>
      refine codeAny_handlers_suite_as ?_
      refine HandSPX.lands_againZ fl3 fun h4 fl4 up4 => ?_
      have J4 : Inv X pins σ' H' { s' with heap := h4 } := J.landed nb fl4.1 ((up.trans up3).trans up4) os ag
      obtain ⟨oe4, vs4, he4, hz4, hd4⟩ := fl4.there
      have nC : ∀ y c, X.env.cells.lookup y = some c → c ≠ a := fun y c e z => by
        obtain ⟨v, hv⟩ := J4.cell y c e
        obtain ⟨oc, hc1, hc2⟩ := hv
        subst z
        rw [he4] at hc1
        cases hc1
        rw [hd4] at hc2
        cases hc2
      have S4 := Inv.suiteX (Inv.trackX J4 na h0 nL nC hpn (exv_ok he4 hz4 hd4)) a
      refine store_ok (X := X.suite a (X.pn ++ pins)) (v := .ref a) S4 hN hi hloc rfl (fun s5 S5 => ?_) (.inr hln)
      refine wpAny_mono ((hsu a (X.pn ++ pins)).run [] s5 _ _ _ S5 (hyes rfl a na)) (fun f s6 hsp => ?_) (fun _ _ z => False.elim z)
      have end_ : ∀ {σ6 : L2.St} {H6 : Hp} {Q : Shared → Prop}, Inv (X.suite a (X.pn ++ pins)) [] σ6 H6 s6 → (∀ s7, Inv X pins (σ6.set i none) H6 s7 → Q s7) →
          wpAny (model X.prog X.w) X.A (do bindName X.env n .none; unbindBehindTheSuite X.env n pos') (fun _ s7 => Q s7) X.xe s6 := fun {σ6 H6 Q} S6 hq => gone_ok (Inv.unsuiteX S6 ok) hN hi hln hq
      cases f with
      | next =>
        obtain ⟨σ6, H6, S6, q6⟩ := hsp
        exact end_ S6 fun s7 J7 => ⟨_, _, J7, q6⟩
      | brk =>
        obtain ⟨σ6, H6, S6, q6⟩ := hsp
        exact end_ S6 fun s7 J7 => ⟨_, _, J7, q6⟩
      | cont =>
        obtain ⟨σ6, H6, S6, q6⟩ := hsp
        exact end_ S6 fun s7 J7 => ⟨_, _, J7, q6⟩
      | ret u =>
        obtain ⟨v6, σ6, H6, S6, r6, q6⟩ := hsp
        exact end_ S6 fun s7 J7 => ⟨_, _, _, J7, r6, q6⟩
    | false =>
      show wpAny _ X.A (handleBy (.ref a) X.env []) _ _ _
      refine wpAny_handleBy_nil ?_
      obtain ⟨k1, k2, k3, oe, vs, T, oT, ts', he, hz, hd, h1, hr⟩ := id fl3
      unfold PySem.passOn
      refine wpAny_bind (wpAny_field he hd h1 ?_)
      rw [if_neg (show ¬ ((Value.ref T == Value.none) = true) from by simp)]
      have fin : wpAny (model X.prog X.w) X.A (setFlight (.ref a) X.env.frame) (fun _ s4 => wpAny (model X.prog X.w) X.A (throw (.ref a) : Sem Flow) (SP X pins D) X.xe s4) X.xe { s' with heap := h3 } := by
        rw [hf]
        refine HandSPX.setFlight_upZ fl3 fun h4 hh4 up4 => wpAny_throw (tk _ _ ?_)
        exact ⟨a, B, sI, pins, σ', H', cls, d, rfl, J, nb, (up.trans up3).trans up4, .inr (.inr (by rw [hs]; exact hh4)), na, os, ag, hno rfl⟩
      first
        | exact wpAny_bind (wpAny_pure (wpAny_bind fin))
        | exact wpAny_bind fin
  · cases f with
    | next =>
      obtain ⟨σ', H', J', q⟩ := hsp
      exact wpAny_execs_nil ⟨σ', H', J'.ofTry ok, q⟩
    | brk =>
      obtain ⟨σ', H', J', q⟩ := hsp
      exact ⟨σ', H', J'.ofTry ok, q⟩
    | cont =>
      obtain ⟨σ', H', J', q⟩ := hsp
      exact ⟨σ', H', J'.ofTry ok, q⟩
    | ret u =>
      obtain ⟨v, σ', H', J', r, q⟩ := hsp
      exact ⟨v, σ', H', J'.ofTry ok, r, q⟩
end
section
variable {E : SE} {Wout : WX} {X : Cx}
theorem s_tryAs (i : Nat) {x n : Str} {c : Value} {cat : List (Str × Bool)} {body suite : List Stmt} {b₀ : Stmt} {np pos pos' : Pos} {mb ms : M Ctl} (hK : X.K = E.K) (hcat : CatOk E c cat) (hs : X.stack = X.env :: X.outer) (hf : X.env.frame = some X.env.locals) (hN : X.N.Nodup) (hi : X.N[i]? = some n) (hln : X.env.kindOf n = some .local) (hc : Names X x c) (tk : Takes X Wout)
    (hb : ∀ (W : WX) (pn : List (Addr × Obj)) (xe : Value → Shared → Prop), Takes (X.tr pn xe) W → PassesOwn (model X.prog X.w) X.A X.env xe → PSs (X.tr pn xe) body (tS E W mb))
    (hsu : ∀ (a : Addr) (pn : List (Addr × Obj)), PSs (X.suite a pn) (b₀ :: suite) (tS E (fun _ _ _ _ => False) ms)) :
    PS X (.Try body [.ExceptHandler (some (.Name x np)) (some n) (b₀ :: suite) pos'] [] [] pos) (tS E Wout (mTryAs i cat mb ms)) := ps_imp (ps_try_asX (tb := fun W => tS E W mb) (i := i) hs hf hN hi hln hc tk hb hsu) fun D σ H h => by
  obtain ⟨g, fr, st, r, p⟩ := h
  refine ⟨g, fr, st, r, ?_⟩
  unfold mTryAs at p
  cases e : mb fr st with
  | ok c fr1 st1 =>
    rw [e] at p
    exact p
  | stuck =>
    rw [e] at p
    exact p
  | exc y fr1 st1 =>
    rw [e] at p
    intro g' σ' H' cls dx e' r' q
    have p : PostX E Wout g (foS E g st) H (CtlE E D) (match cat.lookup y.cls with
      | some true => goneK i (ms (fr1.set i (some (.exc y.cls y.ns y.ds))) st1)
      | some false => .exc y fr1 st1
      | none => .stuck) := p
    cases el : cat.lookup y.cls with
    | none => rw [el] at p; exact p.elim
    | some b =>
      rw [el] at p
      refine ⟨b, by rw [q.1, hK]; exact hcat _ _ el, fun z a na => ?_, fun z => ?_⟩
      · subst z
        obtain ⟨r2, e2⟩ := r'.newF na (ExV cls dx a)
        have q2 := q.mono e2.le
        refine ⟨_, _, st1, r2.set_val (i := i) (d := .exc y.cls y.ns y.ds) (v := .ref a) ?_, gone_post (p.ext (e'.trans e2))⟩
        simp only [Rep]
        refine ⟨a, dx, rfl, ?_, q2.2⟩
        show upd g'.G a _ a = _
        rw [upd_same, q.1]
      · subst z
        exact p g' σ' H' cls dx e' r' q
end
end Mp
end
section
/-! Mp, part 26: err.f of a caught error. -/
namespace Mp
open PySem PySem.Spec PyProof.Rows L2
def AttrEOk (E : SE) (f : Str) (cs : List Str) : Prop := ∀ C ∈ cs, XfC E.K (E.adr C) ∧ PySem.W.findIn E.K (.ref (E.adr C)) f = some none
def attrE (f : Str) (cs : List Str) : D → Option D
  | .exc C ns ds => if C ∈ cs then lookD f ns ds else none
  | _ => none
def mAttrE (f : Str) (cs : List Str) (m : M D) : M D := do
  let d ← m
  liftS fun _ => attrE f cs d
section
variable {E : SE} {W : WX} {X : Cx}
theorem s_attrE (hK : X.K = E.K) {f : Str} {cs : List Str} (ok : AttrEOk E f cs) {e : Expr} {m : M D} {pos : Pos} (he : PE X e (tI E W m)) (hb : attributeBase e f X.env (eval e X.env) = eval e X.env := by rfl) : PE X (.Attribute e f pos) (tI E W (mAttrE f cs m)) := by
  refine ⟨fun pins s σ H Q I h => ?_⟩
  obtain ⟨g, fr, st, rl, p⟩ := h
  refine attr_of hb (thn (he.run pins s σ H _ I (tI_bind (Q := fun v H1 => ∃ (a dd C : Addr) (fs : List (Str × V)) (y : V), v = .ref a ∧ H1 a = some (ExV (.ref C) (some dd) a) ∧ H1 dd = some (.xd fs) ∧ fs.lookup f = some y ∧ XfC X.K C ∧ PySem.W.findIn X.K (.ref C) f = some none ∧ Q y H1) rl p fun g1 fr1 st1 H1 d v t rv => ?_)) fun u s1 ⟨v, H1, I1, rx, a, dd, C, fs, y, ev, h1, h2, h3, T, hno, q⟩ => ?_)
  · have hp := t.post
    unfold liftS at hp
    dsimp only at hp
    unfold attrE at hp
    split at hp
    · rename_i e2
      split at e2
      · split at e2
        · rename_i d2 C ns ds hC
          simp only [Rep] at rv
          obtain ⟨a, dx, rfl, h1, hd⟩ := rv
          rcases hd with ⟨_, rfl, rfl⟩ | ⟨dx, xs, rfl, h2, h3, h4⟩
          · cases e2
          · obtain ⟨y, h5, ry⟩ := look_s h3 h4 e2
            obtain ⟨T, hno⟩ := ok C hC
            rw [← hK] at T hno
            exact ⟨a, dx, _, _, y, rfl, t.rel.sub _ _ h1, t.rel.sub _ _ h2, h5, T, hno, hp g1 H1 (.refl ..) t.rel y ry⟩
        · cases e2
      · cases e2
    · exact hp.elim
  · subst ev
    obtain rfl : u = Value.ref a := rx
    obtain ⟨⟨oe, vs, ha, hz, hd⟩, _, _⟩ := I1.hok a _ h1
    have hx : ObjOk X.prog X.w H1 s1.heap dd (.xd fs) := I1.hok dd _ h2
    obtain ⟨mA, hns, hr⟩ := hx
    obtain ⟨od, ho, hl⟩ := lookIn_ns hns
    obtain ⟨u, hu, ru⟩ := RelO.some_of (v := y) (o := mA f) (by rw [← h3]; exact hr f)
    have J : PySem.W.InstAt s1.heap a oe C (some od) := ⟨ha, hz.1, by unfold PySem.W.notCls; rw [hd] <;> rfl, by rw [hz.2]; exact ho⟩
    exact HandSPX.exc_get I1.kIn J T.ga T.gg T.exC (PySem.W.findObj_own T.hdC hno rfl (by rw [hl, hu])) (handed_of ru) ⟨y, H1, I1.tok _, ru, q⟩
end
end Mp
end
section
/-! Mp, part 27: methods of lists and texts. -/
namespace Mp
open PySem PySem.Spec PyProof.Rows L2
/-- a method's mirror, of values -/
abbrev Mt := D → List D → M D
def mMet (T : String) (f : Mt) (mo : M D) (ms : M (List D)) : M D := do
  let x ← mo
  let _ ← liftS fun st => if tagD st x = some (.ty T) then some () else none
  let xs ← ms
  f x xs
def MetR (X : Cx) (E : SE) (W : WX) (id : String) (f : Mt) : Prop :=
  ∀ (pins : List (Addr × Obj)) (s : Shared) (σ : L2.St) (H : Hp) (g : Gh) (fr : Fr) (st : Store) (x : D) (xs : List D) (v : V) (vs : List V) (u : Value) (us : List Value) (Q : VK), Inv X pins σ H s → RelF E g fr st σ H → Rep E g x v → Reps E g xs vs → RelV v u → Vals vs us →
    Post E W g (foS E g st) H σ (RV E Q) (f x xs fr st) → wpAny (model X.prog X.w) X.A (call (.builtin id) (u :: us)) (EP X pins σ Q) X.xe s
/-- by a rule of the library's -/
theorem MetR.of {X : Cx} {E : SE} {W : WX} {id : String} {f : Mt} {r : V → List V → Hp → VK → Prop} (h : MtR X id r)
    (k : ∀ (g : Gh) (fr : Fr) (st : Store) (σ : L2.St) (H : Hp) (x : D) (xs : List D) (v : V) (vs : List V) (Q : VK), RelF E g fr st σ H → Rep E g x v → Reps E g xs vs → Post E W g (foS E g st) H σ (RV E Q) (f x xs fr st) → r v vs H Q) : MetR X E W id f :=
  fun pins s σ H g fr st x xs v vs u us Q I rl rx rs r1 r2 p => h pins s σ H v vs u us Q I r1 r2 (k g fr st σ H x xs v vs Q rl rx rs p)
/-- what the library asks of the receiver -/
def KindV (K : PySem.W.Frag) (T : String) (x : V) (H : Hp) : Prop := ∀ (X : Cx) (pins : List (Addr × Obj)) (σ : L2.St) (s : Shared) (u : Value), X.K = K → Inv X pins σ H s → RelV x u → s.TypeIs u T ∧ ∀ a, u = .ref a → ∃ ob, s.heap.get? a = some ob ∧ ob.dict = none
theorem KindV.of {K : PySem.W.Frag} {T : String} {x : V} {H : Hp} (h : tyV K T x H) : KindV K T x H := fun X pins σ s u hK I r => by
  subst hK
  exact tyV_is I r h
theorem KindV.dict {K : PySem.W.Frag} {a : Addr} {hs : List Int} {ks ys : List V} {H : Hp} (h : H a = some (DictO a hs ks ys)) : KindV K "dict" (.ref a) H := fun X pins σ s u hK I r => by
  cases (show u = Value.ref a from r)
  obtain ⟨⟨_, _, o, es, ep, h1, h2, _⟩, _, _⟩ := I.hok a _ h
  exact ⟨⟨o, h1, h2.1⟩, fun b e => by cases e; exact ⟨o, h1, h2.2.1⟩⟩
/-- the kinds of receivers that have methods here -/
def metT (T : String) : Bool := T = "list" || T = "str" || T = "dict"
section
variable {E : SE} {W : WX} {X : Cx}
theorem kind_s {T : String} (hT : metT T = true) {g : Gh} {fr : Fr} {st : Store} {σ : L2.St} {H : Hp} {d : D} {v : V} (r : RelF E g fr st σ H) (rv : Rep E g d v) (e : tagD st d = some (.ty T)) : KindV E.K T v H := by
  unfold tagD at e
  split at e
  case h_4 => cases e; simp only [Rep] at rv; subst rv; exact .of rfl
  case h_6 =>
    cases e
    simp only [Rep] at rv
    obtain ⟨a, xs, rfl, h1, _⟩ := rv
    exact .of (.inl ⟨rfl, xs, SqL.of (r.sub _ _ h1)⟩)
  case h_7 =>
    cases e
    simp only [Rep] at rv
    obtain ⟨a, hs, xs, ys, rfl, h1, _⟩ := rv
    exact .dict (r.sub _ _ h1)
  case h_10 =>
    simp only [Rep] at rv
    obtain ⟨hn, rfl⟩ := rv
    split at e
    · cases e
    · rename_i eo
      cases e
      obtain ⟨xs, h1, _⟩ := r.obj _ _ eo
      exact .of (.inl ⟨rfl, xs, SqL.of h1⟩)
    · rename_i eo
      cases e
      obtain ⟨hs, xs, ys, h1, _⟩ := r.obj _ _ eo
      exact .dict h1
    · cases e
  all_goals first | (cases e; exact absurd hT (by decide)) | cases e
theorem s_met {T : String} {name : Str} {id : String} {f : Mt} (hK : X.K = E.K) (hT : metT T = true) (pa : PlainAttrs T) (slot : Slot T name id) (hty : typeOf (.builtin id) = pure (.type "method_descriptor")) (hm : MetR X E W id f) {o e : Expr} {es : List Expr} {mo : M D} {ms : M (List D)} {apos cpos : Pos} (ho : PE X o (tI E W mo)) (ha : PA X (e :: es) (tIA E W ms))
    (hbase : attributeBase o name X.env (eval o X.env) = eval o X.env := by rfl)
    (hfew : ((backTo cpos (starEach (e :: es) X.env)).all (fun x => !x.1) && (backToKw cpos (keywordEach [] X.env)).all (fun x => x.1.isSome)
      && decide ((e :: es).length + ([] : List Keyword).length + (if ([] : List Keyword).isEmpty then 0 else 1) < 30)) = true := by rfl)
    (hline : (apos.endLine == cpos.line) = true := by rfl) (hs : starEach (e :: es) X.env = (false, eval e X.env) :: starEach es X.env := by rfl) (hplain : (backTo cpos (starEach es X.env)).any (·.1) = false := by rfl) :
    PE X (.Call (.Attribute o name apos) (e :: es) [] cpos) (tI E W (mMet T f mo ms)) := by
  refine ⟨fun pins s σ H Q I h => ?_⟩
  obtain ⟨g, fr, st, rl, p⟩ := h
  refine wpAny_Call_method_late hbase hfew hline rfl (thn (ho.run pins s σ H _ I (tI_bind (Q := fun v H1 => ∃ g1 fr1 st1 d, Rep E g1 d v ∧ KindV E.K T v H1 ∧ Then E W g σ (RV E Q) (do let xs ← ms; f d xs : M D) g1 fr1 st1 H1) rl p fun g1 fr1 st1 H1 d v t rv => ?_)) fun v s1 ⟨x, H1, I1, r1, g1, fr1, st1, d, rv, ty, t⟩ => ?_)
  · have hp := t.post.bind
    unfold liftS at hp
    dsimp only at hp
    split at hp
    · rename_i a e2
      split at e2
      · rename_i e3
        have t2 := hp g1 H1 (.refl ..) t.rel
        exact ⟨g1, fr1, st1, d, rv, kind_s hT t.rel rv e3, t2.rel, t.le, t2.post⟩
      · cases e2
    · exact hp.elim
  · obtain ⟨h1, h2⟩ := ty X pins σ s1 v hK I1 r1
    refine ⟨T, id, pa, slot, hty, h1, h2, ?_⟩
    have hA := ha.run cpos pins s1 σ H1 _ I1 (tIA_bind (Q := fun vs H2 => ∃ g2 fr2 st2 xs, Rep E g2 d x ∧ Reps E g2 xs vs ∧ Then E W g1 σ (RV E Q) (f d xs) g2 fr2 st2 H2) t.rel t.post fun g2 fr2 st2 H2 xs vs t2 rs => ⟨g2, fr2, st2, xs, rv.mono t2.le, rs, t2⟩)
    rw [hs] at hA ⊢
    refine Calls.callWith_builtin (by show (false || (backTo cpos (starEach es X.env)).any (·.1)) = false; rw [hplain] <;> rfl) (Calls.evalArgs_plain ?_)
    exact thn hA fun us s2 ⟨vs, H2, I2, r2, g2, fr2, st2, xs, rx2, rs2, t2⟩ => hm pins s2 σ H2 g2 fr2 st2 d xs x vs v us Q I2 t2.rel rx2 rs2 r1 r2 t2.post
theorem s_met0 {T : String} {name : Str} {id : String} {f : Mt} (hK : X.K = E.K) (hT : metT T = true) (pa : PlainAttrs T) (slot : Slot T name id) (hty : typeOf (.builtin id) = pure (.type "method_descriptor")) (hm : MetR X E W id f) {o : Expr} {mo : M D} {apos cpos : Pos} (ho : PE X o (tI E W mo))
    (hbase : attributeBase o name X.env (eval o X.env) = eval o X.env := by rfl) (hline : (apos.endLine == cpos.line) = true := by rfl) :
    PE X (.Call (.Attribute o name apos) [] [] cpos) (tI E W (mMet T f mo (mArgs []))) := by
  refine ⟨fun pins s σ H Q I h => ?_⟩
  obtain ⟨g, fr, st, rl, p⟩ := h
  refine wpAny_Call_method0_late hbase hline (thn (ho.run pins s σ H _ I (tI_bind (Q := fun v H1 => ∃ g1 fr1 st1 d, Rep E g1 d v ∧ KindV E.K T v H1 ∧ Then E W g σ (RV E Q) (f d []) g1 fr1 st1 H1) rl p fun g1 fr1 st1 H1 d v t rv => ?_)) fun v s1 ⟨x, H1, I1, r1, g1, fr1, st1, d, rv, ty, t⟩ => ?_)
  · have hp := t.post.bind
    unfold liftS at hp
    dsimp only at hp
    split at hp
    · rename_i a e2
      split at e2
      · rename_i e3
        have t2 := hp g1 H1 (.refl ..) t.rel
        have t3 := t2.post.bind g1 H1 (.refl ..) t2.rel
        exact ⟨g1, fr1, st1, d, rv, kind_s hT t.rel rv e3, t3.rel, t.le, t3.post⟩
      · cases e2
    · exact hp.elim
  · obtain ⟨h1, h2⟩ := ty X pins σ s1 v hK I1 r1
    exact ⟨T, id, pa, slot, hty, h1, h2, Calls.callWith_builtin rfl (PySem.evalArgs_none (hm pins s1 σ H1 g1 fr1 st1 d [] x [] v [] Q I1 t.rel rv .nil r1 .nil t.post))⟩

/-! ### lists -/
def mtAppend : Mt := fun x xs fr st => match x, xs with
  | .ref n, [y] => match st.get n with
    | some (.lst ds) => if ds.length < sizeLine then .ok .non fr (st.set n (some (.lst (ds ++ [y])))) else .stuck
    | _ => .stuck
  | _, _ => .stuck
theorem met_append : MetR X E W "list.append" mtAppend := .of mt_append fun g fr st σ H x xs v vs Q rl rx rs p => by
  unfold mtAppend at p
  split at p
  · rename_i n y
    split at p
    · rename_i ds eo
      split at p
      · rename_i hz
        simp only [Rep] at rx
        obtain ⟨w, rfl, rw'⟩ := rs.one
        obtain ⟨ys, h1, h2, h3⟩ := rl.obj _ _ eo
        have hz' : ys.length < sizeLine := by rw [h3.length]; exact hz
        obtain ⟨r', e'⟩ := rl.writeS (o := .lst (ys ++ [w])) (m' := .lst (ds ++ [y])) eo rfl ⟨_, upd_same, by rw [List.length_append, List.length_singleton]; omega, h3.append (.cons rw' .nil)⟩
        exact ⟨_, ys, w, rx.2, rfl, h1, hz', p g _ e' r' _ (by simp only [Rep])⟩
      · exact p.elim
    · exact p.elim
  · exact p.elim
/-- the items of a list -/
def lstD (st : Store) : D → Option (List D)
  | .lst ds => some ds
  | .ref n => match st.get n with
    | some (.lst ds) => some ds
    | _ => none
  | _ => none
theorem lst_s {g : Gh} {fr : Fr} {st : Store} {σ : L2.St} {H : Hp} {d : D} {v : V} {ds : List D} (r : RelF E g fr st σ H) (rv : Rep E g d v) (e : lstD st d = some ds) : ∃ a xs, v = .ref a ∧ H a = some (.lst xs) ∧ xs.length ≤ sizeLine ∧ Reps E g ds xs := by
  unfold lstD at e
  split at e
  · cases e
    simp only [Rep] at rv
    obtain ⟨a, xs, rfl, h1, h2, h3⟩ := rv
    exact ⟨a, xs, rfl, r.sub _ _ h1, h2, h3⟩
  · split at e
    · rename_i n ds' eo
      cases e
      simp only [Rep] at rv
      obtain ⟨xs, h1, h2, h3⟩ := r.obj _ _ eo
      exact ⟨_, xs, rv.2, h1, h2, h3⟩
    · cases e
  · cases e
def mtExtend : Mt := fun x xs fr st => match x, xs with
  | .ref n, [y] => match st.get n, lstD st y with
    | some (.lst ds), some es => if ds.length + es.length ≤ sizeLine then .ok .non fr (st.set n (some (.lst (ds ++ es)))) else .stuck
    | _, _ => .stuck
  | _, _ => .stuck
theorem met_extend : MetR X E W "list.extend" mtExtend := .of mt_extend fun g fr st σ H x xs v vs Q rl rx rs p => by
  unfold mtExtend at p
  split at p
  · rename_i n y
    split at p
    · rename_i ds es eo ey
      split at p
      · rename_i hz
        simp only [Rep] at rx
        obtain ⟨w, rfl, rw'⟩ := rs.one
        obtain ⟨b, zs, rfl, h4, h5, h6⟩ := lst_s rl rw' ey
        obtain ⟨ys, h1, h2, h3⟩ := rl.obj _ _ eo
        have hz' : ys.length + zs.length ≤ sizeLine := by rw [h3.length, h6.length]; exact hz
        obtain ⟨r', e'⟩ := rl.writeS (o := .lst (ys ++ zs)) (m' := .lst (ds ++ es)) eo rfl ⟨_, upd_same, by rw [List.length_append]; omega, h3.append h6⟩
        exact ⟨_, b, ys, zs, rx.2, rfl, h1, h4, hz', p g _ e' r' _ (by simp only [Rep])⟩
      · exact p.elim
    · exact p.elim
  · exact p.elim
theorem Reps.eraseIdx {g : Gh} : ∀ {ds : List D} {vs : List V} (i : Nat), Reps E g ds vs → Reps E g (ds.eraseIdx i) (vs.eraseIdx i)
  | [], vs, i, h => by
    simp only [Reps] at h
    subst h
    exact .nil
  | d :: ds, vs, 0, h => by
    simp only [Reps] at h
    obtain ⟨v, r, rfl, _, h2⟩ := h
    exact h2
  | d :: ds, vs, i + 1, h => by
    simp only [Reps] at h
    obtain ⟨v, r, rfl, h1, h2⟩ := h
    exact .cons h1 (h2.eraseIdx i)
def mtPopAt : Mt := fun x xs fr st => match x, xs with
  | .ref n, [.int i] => match st.get n with
    | some (.lst ds) => if -(2 ^ 63) ≤ i ∧ i < 2 ^ 63 then match seqIndex? i ds.length with
      | some k => match ds[k]? with
        | some y => .ok y fr (st.set n (some (.lst (ds.eraseIdx k))))
        | none => .stuck
      | none => .stuck
      else .stuck
    | _ => .stuck
  | _, _ => .stuck
theorem met_popAt : MetR X E W "list.pop" mtPopAt := .of mt_popAt fun g fr st σ H x xs v vs Q rl rx rs p => by
  unfold mtPopAt at p
  split at p
  · rename_i n i
    split at p
    · rename_i ds eo
      split at p
      · rename_i hi
        split at p
        · rename_i k ek
          split at p
          · rename_i y ey
            simp only [Rep] at rx
            obtain ⟨w, rfl, rw'⟩ := rs.one
            simp only [Rep] at rw'
            subst rw'
            obtain ⟨ys, h1, h2, h3⟩ := rl.obj _ _ eo
            obtain ⟨z, hz, rz⟩ := h3.get ey
            obtain ⟨r', e'⟩ := rl.writeS (o := .lst (ys.eraseIdx k)) (m' := .lst (ds.eraseIdx k)) eo rfl ⟨_, upd_same, by have := len_erase ys k; omega, h3.eraseIdx k⟩
            exact ⟨_, ys, i, k, z, rx.2, rfl, h1, hi.1, hi.2, by rw [h3.length]; exact ek, hz, p g _ e' r' _ rz⟩
          · exact p.elim
        · exact p.elim
      · exact p.elim
    · exact p.elim
  · exact p.elim
/-- xs.pop() -/
def mtPop : Mt := fun x xs fr st => match x, xs with
  | .ref n, [] => match st.get n with
    | some (.lst ds) => match ds[ds.length - 1]? with
      | some y => .ok y fr (st.set n (some (.lst ds.dropLast)))
      | none => .stuck
    | _ => .stuck
  | _, _ => .stuck
theorem Reps.dropLast {g : Gh} : ∀ {ds : List D} {vs : List V}, Reps E g ds vs → Reps E g ds.dropLast vs.dropLast
  | [], vs, h => by
    simp only [Reps] at h
    subst h
    exact .nil
  | [d], vs, h => by
    simp only [Reps] at h
    obtain ⟨v, r, rfl, _, rfl⟩ := h
    exact .nil
  | d :: d2 :: ds, vs, h => by
    rw [Reps] at h
    obtain ⟨v, r, rfl, h1, h2⟩ := h
    have h3 := h2.dropLast
    rw [Reps] at h2
    obtain ⟨v2, r2, rfl, _, _⟩ := h2
    exact .cons h1 h3
theorem met_pop : MetR X E W "list.pop" mtPop := .of mt_pop fun g fr st σ H x xs v vs Q rl rx rs p => by
  unfold mtPop at p
  split at p
  · rename_i n
    split at p
    · rename_i ds eo
      split at p
      · rename_i y ey
        simp only [Rep] at rx
        simp only [Reps] at rs
        subst rs
        obtain ⟨ys, h1, h2, h3⟩ := rl.obj _ _ eo
        obtain ⟨z, hz, rz⟩ := h3.get ey
        obtain ⟨r', e'⟩ := rl.writeS (o := .lst ys.dropLast) (m' := .lst ds.dropLast) eo rfl ⟨_, upd_same, by rw [List.length_dropLast]; omega, h3.dropLast⟩
        exact ⟨_, ys, z, rx.2, rfl, h1, by rw [h3.length]; exact hz, p g _ e' r' _ rz⟩
      · exact p.elim
    · exact p.elim
  · exact p.elim

/-! ### count, index -/
def rCntF (K : PySem.W.Frag) : V → List V → Hp → VK → Prop := fun x xs H Q => ∃ (p : Addr) (ys : List V) (y : V), x = .ref p ∧ xs = [y] ∧ SqL K H p ys ∧ flatV y = true ∧ ys.all flatV = true ∧ Q (.int (ys.countP (fun z => eqV z y) : Nat)) H
theorem countP_U {y : V} : ∀ {ys : List V} {us : List Value}, Vals ys us → ys.all flatV = true → us.countP (eqU y) = ys.countP fun z => eqV z y
  | _, _, .nil, _ => rfl
  | z :: ys, u :: us, .cons r t, f => by
    rw [List.all_cons, Bool.and_eq_true] at f
    rw [List.countP_cons, List.countP_cons, countP_U t f.2, eqU_of r f.1]
theorem mt_countF : MtR X "list.count" (rCntF X.K) := by
  intro pins s σ H x xs v us Q I rx rxs h
  obtain ⟨p, ys, y, rfl, rfl, hs, fy, fys, q⟩ := h
  cases rx
  obtain ⟨u, rfl, ru⟩ := rxs.one
  obtain ⟨its, rv, ⟨⟨cls, dd, data, sl⟩, n, ho, hc, hdn, hd⟩, hlen⟩ := I.list hs
  simp only at hc hd
  subst hc hd
  refine call_meets PySem.F.slot_list_count ⟨_, ho, rfl⟩ PySem.F.entry_list_count (PySem.F.args_list_count_2 _ _)
    (SeqAt.list_countAt p its.toArray n dd sl u (eqU y)) ⟨ho, fun z hz => mem_eqAt ru fy rv fys z (by simpa using hz), ?_⟩
  have ec : its.toArray.toList.countP (eqU y) = ys.countP fun z => eqV z y := by rw [List.toList_toArray]; exact countP_U rv fys
  refine ⟨.int (ys.countP (fun z => eqV z y) : Nat), H, I.tok _, ⟨s.toks, ?_⟩, q⟩
  rw [ec]
def mtCount : Mt := fun x xs fr st => match xs with
  | [y] => match lstD st x with
    | some ds => if y.flat = true ∧ ds.all D.flat = true then .ok (.int (ds.countP (fun z => eqF z y) : Nat)) fr st else .stuck
    | none => .stuck
  | _ => .stuck
theorem countF_s {g : Gh} {y : D} {w : V} (hy : Rep E g y w) (e1 : y.flat = true) : ∀ {ds : List D} {vs : List V}, Reps E g ds vs → ds.all D.flat = true → vs.countP (fun z => eqV z w) = ds.countP fun z => eqF z y
  | [], vs, h, _ => by simp only [Reps] at h; subst h; rfl
  | d :: ds, vs, h, e => by
    simp only [Reps] at h
    obtain ⟨v, r, rfl, h2, h3⟩ := h
    rw [List.all_cons, Bool.and_eq_true] at e
    rw [List.countP_cons, List.countP_cons, countF_s hy e1 h3 e.2, eqF_s hy h2 e1 e.1]
theorem met_count (hK : X.K = E.K) : MetR X E W "list.count" mtCount := .of mt_countF fun g fr st σ H x xs v vs Q rl rx rs p => by
  unfold mtCount at p
  split at p
  · rename_i y
    split at p
    · rename_i ds ex
      split at p
      · rename_i hf
        obtain ⟨w, rfl, rw'⟩ := rs.one
        obtain ⟨a, ys, rfl, h1, h2, h3⟩ := lst_s rl rx ex
        refine ⟨a, ys, w, rfl, rfl, SqL.of h1, flat_s rw' hf.1, flats_s h3 hf.2, ?_⟩
        rw [countF_s rw' hf.1 h3 hf.2]
        exact p g H (.refl ..) rl _ (by simp only [Rep])
      · exact p.elim
    · exact p.elim
  · exact p.elim
def mtIndex : Mt := fun x xs fr st => match xs with
  | [y] => match lstD st x with
    | some ds => if y.flat = true ∧ ds.all D.flat = true then match ds.findIdx? (fun z => eqF z y) with
      | some j => .ok (.int (j : Nat)) fr st
      | none => .stuck
      else .stuck
    | none => .stuck
  | _ => .stuck
theorem met_index (hK : X.K = E.K) : MetR X E W "list.index" mtIndex := .of mt_index fun g fr st σ H x xs v vs Q rl rx rs p => by
  unfold mtIndex at p
  split at p
  · rename_i y
    split at p
    · rename_i ds ex
      split at p
      · rename_i hf
        split at p
        · rename_i j ej
          obtain ⟨w, rfl, rw'⟩ := rs.one
          obtain ⟨a, ys, rfl, h1, h2, h3⟩ := lst_s rl rx ex
          obtain ⟨hj, e1, e2⟩ := List.findIdx?_eq_some_iff_getElem.mp ej
          have gd : ds[j]? = some ds[j] := List.getElem?_eq_getElem hj
          obtain ⟨z, hz, rz⟩ := h3.get gd
          have fl : ∀ d ∈ ds, d.flat = true := List.all_eq_true.mp hf.2
          refine ⟨a, ys, w, j, z, rfl, rfl, SqL.of h1, flat_s rw' hf.1, flats_s h3 hf.2, hz, ?_, fun m z' hm hz' => ?_, p g H (.refl ..) rl _ (by simp only [Rep])⟩
          · rw [eqF_s rw' rz hf.1 (fl _ (List.getElem_mem hj))]
            exact e1
          · have gm : ds[m]? = some ds[m] := List.getElem?_eq_getElem (by omega)
            obtain ⟨z2, hz2, rz2⟩ := h3.get gm
            rw [hz2] at hz'
            cases hz'
            rw [eqF_s rw' rz2 hf.1 (fl _ (List.getElem_mem _))]
            simpa using e2 m hm
        · exact p.elim
      · exact p.elim
    · exact p.elim
  · exact p.elim

/-! ### texts -/
def mtSplit (sh : Bool) : Mt := fun x xs fr st => match x, xs with
  | .str a, [.str b] => if (b.length == 0) = false ∧ a.length + 2 ≤ sizeLine then newD sh (.lst ((Txt.split a b).map D.str)) fr st else .stuck
  | _, _ => .stuck
theorem Reps.strs {g : Gh} : ∀ l : List Str, Reps E g (l.map D.str) (l.map V.str)
  | [] => .nil
  | x :: l => .cons (by simp only [Rep]) (Reps.strs l)
theorem met_split (sh : Bool) : MetR X E W "str.split" (mtSplit sh) := .of mt_split fun g fr st σ H x xs v vs Q rl rx rs p => by
  unfold mtSplit at p
  split at p
  · rename_i a b
    split at p
    · rename_i hc
      simp only [Rep] at rx
      obtain ⟨w, rfl, rw'⟩ := rs.one
      simp only [Rep] at rw'
      refine ⟨a, b, rx, by rw [rw'], hc.1, hc.2, fun q hq => newD_post rl p hq fun g' le => ⟨_, upd_same, ?_, Reps.strs _⟩⟩
      rw [List.length_map]
      exact Nat.le_trans (PyProof.Rows.split_le a b) hc.2
    · exact p.elim
  · exact p.elim
def strsD : List D → Option (List Str)
  | [] => some []
  | .str x :: ds => (strsD ds).map (x :: ·)
  | _ :: _ => none
theorem strs_s {g : Gh} : ∀ {ds : List D} {vs : List V} {l : List Str}, Reps E g ds vs → strsD ds = some l → vs = l.map V.str
  | [], vs, l, h, e => by
    simp only [Reps] at h
    cases e
    exact h
  | d :: ds, vs, l, h, e => by
    simp only [Reps] at h
    obtain ⟨v, r, rfl, h1, h2⟩ := h
    unfold strsD at e
    split at e
    · cases ‹_ :: _ = []›
    · rename_i x ds' e0
      cases e0
      obtain ⟨l', e1, rfl⟩ := Option.map_eq_some_iff.mp e
      simp only [Rep] at h1
      rw [h1, strs_s h2 e1]
      rfl
    · cases e
def mtJoin : Mt := fun x xs fr st => match x, xs with
  | .str a, [y] => match (itemsD st y).bind strsD with
    | some l => if (l.map (·.length)).sum + l.length * a.length ≤ 16777216 then .ok (.str (Txt.join a l)) fr st else .stuck
    | none => .stuck
  | _, _ => .stuck
theorem met_join (hK : X.K = E.K) : MetR X E W "str.join" mtJoin := .of mt_join fun g fr st σ H x xs v vs Q rl rx rs p => by
  unfold mtJoin at p
  split at p
  · rename_i a y
    split at p
    · rename_i l el
      split at p
      · rename_i hz
        obtain ⟨ds, e1, e2⟩ := Option.bind_eq_some_iff.mp el
        simp only [Rep] at rx
        obtain ⟨w, rfl, rw'⟩ := rs.one
        obtain ⟨b, ys, rfl, h1, h2, h3⟩ := items_s rl rw' e1
        have ey := strs_s h3 e2
        subst ey
        rw [← hK] at h1
        exact ⟨a, b, l, rx, rfl, h1, hz, p g H (.refl ..) rl _ (by simp only [Rep])⟩
      · exact p.elim
    · exact p.elim
  · exact p.elim
end
end Mp
end
section
/-! Mp, part 28: operators that look into shared lists. -/
namespace Mp
open PySem PySem.Spec PyProof.Rows L2
def dataS (st : Store) : D → Option PyData
  | .ref n => match st.get n with
    | some (.lst ds) => (D.datas ds).map .list
    | _ => none
  | d => d.data
section
variable {E : SE} {W : WX} {X : Cx}
theorem dataS_s {g : Gh} {fr : Fr} {st : Store} {σ : L2.St} {H : Hp} {d : D} {v : V} {p : PyData} (r : RelF E g fr st σ H) (rv : Rep E g d v) (e : dataS st d = some p) : Dp E.K H v p := by
  unfold dataS at e
  split at e
  · split at e
    · rename_i n ds eo
      obtain ⟨ps, e1, rfl⟩ := Option.map_eq_some_iff.mp e
      simp only [Rep] at rv
      obtain ⟨xs, h1, h2, h3⟩ := r.obj _ _ eo
      rw [rv.2]
      exact .lst (SqL.of h1) (Reps.dp r.sub h3 e1)
    · cases e
  · exact Rep.dp r.sub rv e
def eqS (st : Store) (x y : D) : Option Bool := match scalD x y with
  | some b => some b
  | none => match dataS st x, dataS st y with
    | some p, some q => if SeqAt.shaped p && SeqAt.shaped q then some (PyData.eqv p q) else none
    | _, _ => none
def eqSB (st : Store) (x y : D) : Option D := (eqS st x y).map .bl
def neSB (st : Store) (x y : D) : Option D := (eqS st x y).map fun b => .bl (!b)
theorem eqS_k {g : Gh} {fr : Fr} {st : Store} {σ : L2.St} {H : Hp} {x y : D} {v w : V} {b : Bool} (r : RelF E g fr st σ H) (rx : Rep E g x v) (ry : Rep E g y w) (e : eqS st x y = some b) :
    (scal v w = true ∧ decide (v = w) = b) ∨ ∃ p q, Dp E.K H v p ∧ Dp E.K H w q ∧ SeqAt.shaped p = true ∧ SeqAt.shaped q = true ∧ PyData.eqv p q = b := by
  unfold eqS at e
  cases h : scalD x y with
  | some b' =>
    rw [h] at e
    cases e
    exact .inl (scal_s rx ry h)
  | none =>
    rw [h] at e
    dsimp only at e
    split at e
    · rename_i p q e1 e2
      split at e
      · rename_i hs
        cases e
        rw [Bool.and_eq_true] at hs
        exact .inr ⟨p, q, dataS_s r rx e1, dataS_s r ry e2, hs.1, hs.2, rfl⟩
      · cases e
    · cases e
theorem eqS_s (hK : X.K = E.K) : OpSS E W eqSB (rEqU X.K) := by
  intro g fr st σ H x y v w z Q r rx ry e q
  obtain ⟨b, e1, rfl⟩ := Option.map_eq_some_iff.mp e
  rw [hK]
  rcases eqS_k r rx ry e1 with ⟨h1, h2⟩ | ⟨p, p', h1, h2, h3, h4, h5⟩
  · exact .inl ⟨h1, by rw [h2]; exact q g H (.refl ..) r _ (by simp only [Rep])⟩
  · exact .inr ⟨p, p', h1, h2, h3, h4, by rw [h5]; exact q g H (.refl ..) r _ (by simp only [Rep])⟩
theorem neS_s (hK : X.K = E.K) : OpSS E W neSB (rNeU X.K) := by
  intro g fr st σ H x y v w z Q r rx ry e q
  obtain ⟨b, e1, rfl⟩ := Option.map_eq_some_iff.mp e
  rw [hK]
  rcases eqS_k r rx ry e1 with ⟨h1, h2⟩ | ⟨p, p', h1, h2, h3, h4, h5⟩
  · exact .inl ⟨h1, by rw [h2]; exact q g H (.refl ..) r _ (by simp only [Rep])⟩
  · exact .inr ⟨p, p', h1, h2, h3, h4, by rw [h5]; exact q g H (.refl ..) r _ (by simp only [Rep])⟩

/-! ### in -/
def inSb (st : Store) (x y : D) : Option Bool := match x, y with
  | .str i, .str j => some (inStr j i)
  | x, y => match itemsD st y with
    | some ds => if x.flat && ds.all D.flat then some (ds.any fun y => eqF y x) else match dataS st x, dataS st y with
      | some p, some (.list ps) => if SeqAt.shaped p && SeqAt.shaped (.list ps) then some (ps.any fun z => PyData.eqv z p) else none
      | _, _ => none
    | none => none
def inSB (st : Store) (x y : D) : Option D := (inSb st x y).map .bl
def ninSB (st : Store) (x y : D) : Option D := (inSb st x y).map fun b => .bl (!b)
def rInV (K : PySem.W.Frag) : R2 := fun x y H Q => rInU K x y H Q ∨ rInD K x y H Q
def rNinV (K : PySem.W.Frag) : R2 := fun x y H Q => rNinU K x y H Q ∨ rNotInD K x y H Q
theorem op_inV (hu : X.A.units + 65 < cLine) : OpR X (compareOp .In) (rInV X.K) := op_inU.or (op_inD hu)
theorem op_ninV (hu : X.A.units + 65 < cLine) : OpR X (compareOp .NotIn) (rNinV X.K) := op_ninU.or (op_notInD hu)
theorem inS_k {g : Gh} {fr : Fr} {st : Store} {σ : L2.St} {H : Hp} {x y : D} {v w : V} {b : Bool} (r : RelF E g fr st σ H) (rx : Rep E g x v) (ry : Rep E g y w) (e : inSb st x y = some b) :
    (∃ i j, v = .str i ∧ w = .str j ∧ (!(Builtin.Str.occurrences j i 0 j.length 1).isEmpty) = b) ∨ (∃ p xs, w = .ref p ∧ (SqL E.K H p xs ∨ SqT E.K H p xs) ∧ flatV v = true ∧ xs.all flatV = true ∧ inV v xs = b) ∨
      ∃ d ds, Dp E.K H v d ∧ Dp E.K H w (.list ds) ∧ SeqAt.shaped d = true ∧ SeqAt.shaped (.list ds) = true ∧ (ds.any fun z => PyData.eqv z d) = b := by
  unfold inSb at e
  split at e
  · cases e
    simp only [Rep] at rx ry
    exact .inl ⟨_, _, rx, ry, rfl⟩
  · split at e
    · rename_i ds ey
      obtain ⟨a, xs, rfl, h1, h2, h3⟩ := items_s r ry ey
      split at e
      · rename_i hf
        cases e
        rw [Bool.and_eq_true] at hf
        exact .inr (.inl ⟨a, xs, rfl, h1, flat_s rx hf.1, flats_s h3 hf.2, anyF_s rx hf.1 h3 hf.2⟩)
      · split at e
        · rename_i p ps e1 e2
          split at e
          · rename_i hs
            cases e
            rw [Bool.and_eq_true] at hs
            exact .inr (.inr ⟨p, ps, dataS_s r rx e1, dataS_s r ry e2, hs.1, hs.2, rfl⟩)
          · cases e
        · cases e
    · cases e
theorem inS_s (hK : X.K = E.K) : OpSS E W inSB (rInV X.K) := by
  intro g fr st σ H x y v w z Q r rx ry e q
  obtain ⟨b, e1, rfl⟩ := Option.map_eq_some_iff.mp e
  rw [hK]
  have q := q g H (.refl ..) r (.bl b) (by simp only [Rep])
  rcases inS_k r rx ry e1 with ⟨i, j, h1, h2, h3⟩ | ⟨p, xs, h1, h2, h3, h4, h5⟩ | ⟨d, ds, h1, h2, h3, h4, h5⟩
  · exact .inl (.inl ⟨i, j, h1, h2, by rw [h3]; exact q⟩)
  · exact .inl (.inr ⟨p, xs, h1, h2, h3, h4, by rw [if_neg Bool.false_ne_true, h5]; exact q⟩)
  · exact .inr ⟨d, ds, h1, h2, h3, h4, by rw [h5]; exact q⟩
theorem ninS_s (hK : X.K = E.K) : OpSS E W ninSB (rNinV X.K) := by
  intro g fr st σ H x y v w z Q r rx ry e q
  obtain ⟨b, e1, rfl⟩ := Option.map_eq_some_iff.mp e
  rw [hK]
  have q := q g H (.refl ..) r (.bl (!b)) (by simp only [Rep])
  rcases inS_k r rx ry e1 with ⟨i, j, h1, h2, h3⟩ | ⟨p, xs, h1, h2, h3, h4, h5⟩ | ⟨d, ds, h1, h2, h3, h4, h5⟩
  · exact .inl (.inl ⟨i, j, h1, h2, by rw [h3]; exact q⟩)
  · exact .inl (.inr ⟨p, xs, h1, h2, h3, h4, by rw [if_pos rfl, h5]; exact q⟩)
  · exact .inr ⟨d, ds, h1, h2, h3, h4, by rw [h5]; exact q⟩

/-! ### + -/
def addS (st : Store) (x y : D) : Option D := match lstD st x, lstD st y with
  | some a, some b => if a.length + b.length ≤ sizeLine then some (.lst (a ++ b)) else none
  | none, none => addD x y
  | _, _ => none
theorem addS_s (hK : X.K = E.K) : OpSS E W addS (rAddU X.K) := by
  intro g fr st σ H x y v w z Q r rx ry e q
  unfold addS at e
  split at e
  · rename_i a b e1 e2
    split at e
    · rename_i hz
      cases e
      obtain ⟨p, xs, rfl, h1, h2, h3⟩ := lst_s r rx e1
      obtain ⟨p', ys, rfl, h4, h5, h6⟩ := lst_s r ry e2
      have l1 := h3.length
      have l2 := h6.length
      refine .inr (.inl ⟨_, _, xs, ys, rfl, rfl, h1, h4, by omega, fun p hp => ?_⟩)
      obtain ⟨r', e'⟩ := r.newF hp (.lst (xs ++ ys))
      refine q _ _ e' r' _ ?_
      simp only [Rep]
      exact ⟨p, xs ++ ys, rfl, upd_same, by rw [List.length_append]; omega, (h3.append h6).mono e'.le⟩
    · cases e
  · exact add_s (W := W) hK g fr st σ H x y v w z Q r rx ry e q
  · cases e
end
end Mp
end
section
set_option maxHeartbeats 2000000
/-! Mp, part 29: a, *b = a list. -/
namespace Mp
open PySem PySem.Spec PySem.Calls PyProof.Rows L2 PySem.W
section
variable {prog : Program} {w : World} {A : Around} {E : Value → Shared → Prop} {s : Shared}
theorem star_at {l : Addr} {items : Array Value} {n i : Nat} {Q : List Value → Shared → Prop} (hl : s.heap.IsList l items) (hh : A.handled = none) (hi : i < n) (hn : n ≤ items.size + 1) (hz : items.size ≤ sizeLine)
    (h : ∀ (h' : Heap) (tk : Nat), (∀ b o, s.heap.get? b = some o → h'.get? b = some o) → Q (items.toList.take i ++ [.ref h'.objs.size] ++ (items.toList.drop i).drop (items.size + 1 - n)) { s with heap := h'.push { cls := .type "list", data := .seq ((items.toList.drop i).take (items.size + 1 - n)).toArray }, toks := tk }) :
    wpAny (model prog w) A (unpackItems (.ref l) n (some i)) Q E s := by
  have hlt : l ≠ s.heap.objs.size := by obtain ⟨o, ho, _⟩ := hl; exact Nat.ne_of_lt (Heap.lt_size ho)
  unfold unpackItems
  refine wpAny_bind ?_
  unfold notIterableAtAll
  refine wpAny_bind (wpAny_specialOf hl.typeIs slot_list_iter.lookup ?_)
  refine wpAny_pure ?_
  simp only [Bool.false_eq_true, if_false]
  refine wpAny_bind (wpAny_holding (wpAny_pyIter_list hl ?_))
  refine wpAny_bind (wpAny_holding (kun_draw hlt i 0 _ _ ⟨_, Heap.get?_push_size _ rfl, rfl, rfl⟩ (hl.push _) (by omega) fun h₁ hit₁ hs₁ => ?_))
  have hl₁ : h₁.IsList l items := (hl.push _).extBut hs₁.extBut hlt
  rw [Nat.zero_add] at hit₁
  have hit₁' := hit₁
  obtain ⟨oi, hoi, _⟩ := hit₁'
  have hl₁' := hl₁
  obtain ⟨ol, hol, _⟩ := hl₁'
  rw [List.drop_zero]
  have hfl : (items.toList.take i).length = i := by rw [List.length_take, Array.length_toList]; omega
  rw [if_neg (show ¬ ((items.toList.take i).length < i) by rw [hfl]; omega)]
  refine wpAny_bind (wpAny_holding (kun_collect (s := { s with heap := h₁ }) (T := "list_iterator") (.inr (.inr (.inl rfl))) (Walks.list (A := A.in1) hh s.heap.objs.size l hlt items) (fun j u st => st.1.typeIs) (k := i) (by omega) ⟨hit₁, hl₁⟩ (Heap.lt_size hoi) (Heap.lt_size hol) (fun h₂ tk hk => ?_) hz))
  have hrl : (items.toList.drop i).length = items.size - i := by rw [List.length_drop, Array.length_toList]
  have hmid : (items.toList.drop i).length - (n - 1 - i) = items.size + 1 - n := by rw [hrl]; omega
  show wpAny _ _ (if (items.toList.drop i).length < n - 1 - i then _ else _) _ _ _
  rw [if_neg (by rw [hrl]; omega)]
  show wpAny _ _ (newList ((items.toList.drop i).take ((items.toList.drop i).length - (n - 1 - i))) >>= fun d => pure (items.toList.take i ++ [d] ++ (items.toList.drop i).drop ((items.toList.drop i).length - (n - 1 - i)))) _ _ _
  rw [hmid]
  refine wpAny_bind (wpAny_newList (wpAny_pure (h h₂ tk fun b o e => ?_)) (by rw [List.length_take, hrl]; omega))
  exact hk b o (Nat.ne_of_lt (Heap.lt_size e)) (hs₁.extBut b o (Nat.ne_of_lt (Heap.lt_size e)) (Heap.get?_push_of_some _ e))
end
/-- the items for the targets, the i-th takes the rest -/
def starD (i n : Nat) (ds : List D) : List D := ds.take i ++ [.lst ((ds.drop i).take (ds.length + 1 - n))] ++ (ds.drop i).drop (ds.length + 1 - n)
def gStar (i : Nat) (ms : List (D → M Unit)) : D → M Unit := fun d fr st => match lstD st d with
  | some ds => if i < ms.length ∧ ms.length ≤ ds.length + 1 then gAll ms (starD i ms.length ds) fr st else .stuck
  | none => .stuck
section
variable {E : SE} {W : WX} {X : Cx}
theorem s_gstar (i : Nat) (hK : X.K = E.K) {es : List Expr} {k : Nat} {ms : List (D → M Unit)} {pos : Pos} (hc : X.calm = true) (h : PGs X es (tGs E W (gAll ms)))
    (hn : (assignEach es X.env).length = ms.length := by rfl) (hst : (assignEach es X.env).findIdx? (·.1) = some i := by rfl) : PG X (.Tuple es k pos) (tG E W (gStar i ms)) := by
  refine ⟨fun pins s σ H v u Q I r hw => ?_⟩
  obtain ⟨g, fr, st, d, rl, rv, p⟩ := hw
  unfold gStar at p
  split at p
  · rename_i ds ed
    split at p
    · rename_i hh
      obtain ⟨a, xs, rfl, h1, h2, h3⟩ := lst_s rl rv ed
      obtain rfl : u = Value.ref a := r
      obtain ⟨its, rv2, pl, hz⟩ := I.list (SqL.of h1)
      have lx := h3.length
      have li := rv2.length
      rw [PyProof.Rows.assign_Tuple]
      refine wpAny_bind (wpAny_standAt ?_)
      unfold unpack
      rw [hn, hst]
      refine wpAny_bind (wpAny_holding (star_at pl.isList (I.ok.hd hc) hh.1 (by rw [List.size_toArray]; omega) (by rw [List.size_toArray]; omega) fun h' tk kp => ?_))
      have I1 : Inv X pins σ H { s with heap := h', toks := tk } := I.kept (t' := tk) kp
      have ez : its.toArray.size + 1 - ms.length = ds.length + 1 - ms.length := by rw [List.size_toArray, ← li, lx]
      rw [ez]
      have vm : Vals ((xs.drop i).take (ds.length + 1 - ms.length)) ((its.toArray.toList.drop i).take (ds.length + 1 - ms.length)) := (rv2.drop i).take _
      have hp : H h'.objs.size = none := I1.hok.fresh (Nat.le_refl _)
      have I2 := Inv.lnew (t' := tk) I1 vm (by rw [List.length_take, List.length_drop]; omega)
      obtain ⟨r', e'⟩ := rl.newF hp (.lst ((xs.drop i).take (ds.length + 1 - ms.length)))
      have h3' := h3.mono e'.le
      refine h.run pins _ σ _ (xs.take i ++ [V.ref h'.objs.size] ++ (xs.drop i).drop (ds.length + 1 - ms.length)) _ Q I2 (((rv2.take i).append (.cons (show RelV (V.ref h'.objs.size) (Value.ref h'.objs.size) from rfl) .nil)).append ((rv2.drop i).drop _)) ⟨_, fr, st, _, r', ?_, p.ext e'⟩
      refine ((h3'.take i).append (.cons ?_ .nil)).append ((h3'.drop i).drop _)
      simp only [Rep]
      exact ⟨_, _, rfl, upd_same, by rw [List.length_take, List.length_drop]; omega, (h3'.drop i).take _⟩
    · exact p.elim
  · exact p.elim
/-- a starred one among the targets -/
theorem pgs_consS {e : Expr} {es : List Expr} {t : TG} {u : TGs} {p : Pos} (h1 : PG X e t) (h2 : PGs X es u) : PGs X (.Starred e p :: es) (gCons t u) := by
  refine ⟨fun pins s σ H vs us Q I r h => ?_⟩
  obtain ⟨v, vr, e1, h⟩ := h
  subst e1
  cases r with
  | cons r rr =>
    show wpAny _ _ (assignInOrder (assign e X.env :: (assignEach es X.env).map (·.2)) _) _ _ _
    refine assignInOrder_cons (thn (h1.run pins s σ H _ _ _ I r h) fun _ s1 ⟨σ1, H1, I1, q1⟩ => ?_)
    exact h2.run pins s1 σ1 H1 _ _ Q I1 rr q1
theorem s_gconsS {e : Expr} {es : List Expr} {m : D → M Unit} {ms : List (D → M Unit)} {p : Pos} (h1 : PG X e (tG E W m)) (h2 : PGs X es (tGs E W (gAll ms))) : PGs X (.Starred e p :: es) (tGs E W (gAll (m :: ms))) := pgs_imp (pgs_consS h1 h2) fun vs σ H Q h => by
  obtain ⟨g, fr, st, ds, r, rv, p⟩ := h
  cases ds with
  | nil => exact p.elim
  | cons d ds =>
    simp only [Reps] at rv
    obtain ⟨v, rr, rfl, rd, rs⟩ := rv
    refine ⟨v, rr, rfl, g, fr, st, d, r, rd, ?_⟩
    have h1 := PostX.bind p
    cases e : m d fr st with
    | ok u fr1 st1 =>
      rw [e] at h1
      intro g1 σ1 H1 e1 r1
      have t := h1 g1 σ1 H1 e1 r1
      exact ⟨g1, fr1, st1, ds, r1, rs.mono e1.le, t.post⟩
    | exc x fr1 st1 =>
      rw [e] at h1
      exact h1
    | stuck =>
      rw [e] at h1
      exact h1
end
end Mp
end
section
set_option maxHeartbeats 2000000
/-! Mp, part 30: captured cells out of sight, and back. -/
namespace Mp
open PySem PySem.Spec PyProof.Rows L2
open Classical in
/-- these objects are not tracked -/
noncomputable def hid (Cs : Addr → Prop) (H : Hp) : Hp := fun b => if Cs b then none else H b
open Classical in
/-- these objects are tracked as in G -/
noncomputable def sho (Cs : Addr → Prop) (G H : Hp) : Hp := fun b => if Cs b then G b else H b
theorem hid_in {Cs : Addr → Prop} {H : Hp} {b : Addr} (h : Cs b) : hid Cs H b = none := if_pos h
theorem hid_out {Cs : Addr → Prop} {H : Hp} {b : Addr} (h : ¬ Cs b) : hid Cs H b = H b := if_neg h
theorem sho_in {Cs : Addr → Prop} {G H : Hp} {b : Addr} (h : Cs b) : sho Cs G H b = G b := if_pos h
theorem sho_out {Cs : Addr → Prop} {G H : Hp} {b : Addr} (h : ¬ Cs b) : sho Cs G H b = H b := if_neg h
theorem hid_some {Cs : Addr → Prop} {H : Hp} {b : Addr} {o : HO} (h : hid Cs H b = some o) : ¬ Cs b ∧ H b = some o := by
  by_cases hc : Cs b
  · rw [hid_in hc] at h; cases h
  · rw [hid_out hc] at h; exact ⟨hc, h⟩
/-- these are cells, as they stand in the heap -/
def CellSet (Cs : Addr → Prop) (G : Hp) (h : Heap) : Prop := ∀ a, Cs a → ∃ o v, G a = some (CellO a o) ∧ o.data = .cell v ∧ h.get? a = some o
theorem cellO_own {a x : Addr} {o : Obj} : CellO a o ≠ .own x := fun z => by
  unfold CellO at z
  cases z
theorem cellO_tup {a : Addr} {o : Obj} {xs : List V} : CellO a o ≠ .tup xs := fun z => by
  unfold CellO at z
  cases z
theorem cellO_frz {a : Addr} {o ob : Obj} {u : HO} : CellO a o ≠ .frz ob u := fun z => by
  unfold CellO at z
  cases z
theorem cellO_tbl {a : Addr} {o : Obj} {ps : Array Value} : CellO a o ≠ .tbl ps := fun z => by
  unfold CellO at z
  cases z
section
variable {P : Program} {w : World} {K : PySem.W.Frag} {mg : Str → Option Value} {base : Heap} {A : Around} {outer : List Env} {s : Shared} {H H' : Hp} {Cs : Addr → Prop} {h h' : Heap}
theorem hok_hid (hC : ∀ a, Cs a → ∀ o, H a = some o → ∃ ob, o = CellO a ob) (x : HOk P w H h) : HOk P w (hid Cs H) h := fun b o e => by
  obtain ⟨_, e⟩ := hid_some e
  refine (x b o e).stay (fun _ _ _ q => q) (fun c q => ?_) fun c xs q => ?_
  · rw [hid_out]
    · exact q
    · intro z
      obtain ⟨ob, z2⟩ := hC c z _ q
      exact cellO_own z2.symm
  · rw [hid_out]
    · exact q
    · intro z
      obtain ⟨ob, z2⟩ := hC c z _ q
      exact cellO_tup z2.symm
theorem hok_sho {G : Hp} (hC : ∀ a, Cs a → ∃ o, G a = some (CellO a o) ∧ h.get? a = some o) (n : ∀ a, Cs a → H a = none) (x : HOk P w H h) : HOk P w (sho Cs G H) h := fun b o e => by
  by_cases hb : Cs b
  · rw [sho_in hb] at e
    obtain ⟨ob, e1, e2⟩ := hC b hb
    rw [e1] at e
    cases e
    exact ⟨e2, ⟨_, e2⟩, fun h1 h2 z k => k _ z⟩
  · rw [sho_out hb] at e
    refine (x b o e).stay (fun _ _ _ q => q) (fun c q => ?_) fun c xs q => ?_
    · rw [sho_out fun z => by rw [n c z] at q; cases q]
      exact q
    · rw [sho_out fun z => by rw [n c z] at q; cases q]
      exact q
theorem env0_hid (hC : ∀ a, Cs a → ∀ o, H a = some o → ∃ ob, o = CellO a ob) (e : Env0 P w K mg base A outer s H) : Env0 P w K mg base A outer s (hid Cs H) where
  frames := e.frames
  mod := e.mod
  bs := fun b o z => ⟨(e.bs b o z).1, by
    by_cases hb : Cs b
    · exact hid_in hb
    · rw [hid_out hb]; exact (e.bs b o z).2⟩
  bsz := e.bsz
  funs := e.funs
  frf := fun b hm => by
    by_cases hb : Cs b
    · exact hid_in hb
    · rw [hid_out hb]; exact e.frf b hm
  hok := hok_hid hC e.hok
  bare := e.bare
theorem env0_sho {G : Hp} (hC : ∀ a, Cs a → ∃ o, G a = some (CellO a o) ∧ s.heap.get? a = some o) (n : ∀ a, Cs a → H a = none) (nb : ∀ a, Cs a → base.get? a = none) (nf : ∀ a, Cs a → a ∉ frs outer) (e : Env0 P w K mg base A outer s H) : Env0 P w K mg base A outer s (sho Cs G H) where
  frames := e.frames
  mod := e.mod
  bs := fun b o z => ⟨(e.bs b o z).1, by rw [sho_out fun y => by rw [nb b y] at z; cases z]; exact (e.bs b o z).2⟩
  bsz := e.bsz
  funs := e.funs
  frf := fun b hm => by rw [sho_out fun y => nf b y hm]; exact e.frf b hm
  hok := hok_sho hC n e.hok
  bare := e.bare
/-- run with the cells out of sight; back -/
theorem un_hid {fs : List Addr} (nf : ∀ a, Cs a → a ∉ fs) (hC : ∀ a, Cs a → ∃ o, H a = some (CellO a o)) (u : Un fs [] (hid Cs H) H' h h') : Un fs [] H (sho Cs H H') h h' where
  keep := fun b o e n hf hx => u.keep b o e (by rw [hid_out fun z => by obtain ⟨_, q⟩ := hC b z; rw [n] at q; cases q]; exact n) hf hx
  slot := fun b o e n hf hx => u.slot b o e (by rw [hid_out fun z => by obtain ⟨_, q⟩ := hC b z; rw [n] at q; cases q]; exact n) hf hx
  free := fun b o e n hx => by
    have nc : ¬ Cs b := fun z => by obtain ⟨_, q⟩ := hC b z; rw [n] at q; cases q
    rw [sho_out nc]
    exact u.free b o e (by rw [hid_out nc]; exact n) hx
  there := u.there
  tups := fun b xs e => by
    have nc : ¬ Cs b := fun z => by obtain ⟨_, q⟩ := hC b z; rw [e] at q; exact cellO_tup (Option.some.inj q).symm
    rw [sho_out nc]
    exact u.tups b xs (by rw [hid_out nc]; exact e)
  frzs := fun b o v e => by
    have nc : ¬ Cs b := fun z => by obtain ⟨_, q⟩ := hC b z; rw [e] at q; exact cellO_frz (Option.some.inj q).symm
    rw [sho_out nc]
    exact u.frzs b o v (by rw [hid_out nc]; exact e)
  tbls := fun b ps e => by
    have nc : ¬ Cs b := fun z => by obtain ⟨_, q⟩ := hC b z; rw [e] at q; exact cellO_tbl (Option.some.inj q).symm
    rw [sho_out nc]
    exact u.tbls b ps (by rw [hid_out nc]; exact e)
/-- run with the cells in sight; out of sight again -/
theorem un_sho {fs : List Addr} {G : Hp} (nf : ∀ a, Cs a → a ∉ fs) (hC : ∀ a, Cs a → ∃ o, G a = some (CellO a o) ∧ h.get? a = some o ∧ h'.get? a = some o) (n0 : ∀ a, Cs a → H a = none) (u : Un fs [] (sho Cs G H) H' h h') : Un fs [] H (hid Cs H') h h' where
  keep := fun b o e n hf hx => by
    by_cases hb : Cs b
    · obtain ⟨o', _, e1, e2⟩ := hC b hb
      rw [e1] at e
      cases e
      exact e2
    · exact u.keep b o e (by rw [sho_out hb]; exact n) hf hx
  slot := fun b o e n hf hx => u.slot b o e (by rw [sho_out fun z => nf b z hf]; exact n) hf hx
  free := fun b o e n hx => by
    by_cases hb : Cs b
    · exact hid_in hb
    · rw [hid_out hb]
      exact u.free b o e (by rw [sho_out hb]; exact n) hx
  there := u.there
  tups := fun b xs e => by
    have nc : ¬ Cs b := fun z => by rw [n0 b z] at e; cases e
    rw [hid_out nc]
    exact u.tups b xs (by rw [sho_out nc]; exact e)
  frzs := fun b o v e => by
    have nc : ¬ Cs b := fun z => by rw [n0 b z] at e; cases e
    rw [hid_out nc]
    exact u.frzs b o v (by rw [sho_out nc]; exact e)
  tbls := fun b ps e => by
    have nc : ¬ Cs b := fun z => by rw [n0 b z] at e; cases e
    rw [hid_out nc]
    exact u.tbls b ps (by rw [sho_out nc]; exact e)
end

/-! ### data without closures -/
mutual
def D.nc : D → Bool
  | .non => true | .bl _ => true | .int _ => true | .str _ => true | .scr _ => true | .ref _ => true | .fn _ => true | .ty _ => true
  | .tup ds => D.ncs ds
  | .lst ds => D.ncs ds
  | .dct ks vs => D.ncs ks && D.ncs vs
  | .ins _ _ ds => D.ncs ds
  | .exc _ _ ds => D.ncs ds
  | .clo _ _ => false
def D.ncs : List D → Bool
  | [] => true
  | d :: ds => D.nc d && D.ncs ds
end
def MO.nc : MO → Bool
  | .lst ds => D.ncs ds
  | .dct ks vs => D.ncs ks && D.ncs vs
  | .ins _ _ ds => D.ncs ds
def Store.nc (st : Store) : Prop := ∀ n m, st.get n = some m → m.nc = true
noncomputable abbrev Gh.hid (g : Gh) (Cs : Addr → Prop) : Gh := ⟨g.io, g.nx, Mp.hid Cs g.G⟩
noncomputable abbrev Gh.sho (g : Gh) (Cs : Addr → Prop) (G : Hp) : Gh := ⟨g.io, g.nx, Mp.sho Cs G g.G⟩
section
variable {E : SE} {g : Gh} {Cs : Addr → Prop} {P : Program} {w : World} {H : Hp} {h : Heap}
theorem hid_kp {G : Hp} {a : Addr} {o : HO} (hC : CellSet Cs G h) (e : G a = some o) (ne : ∀ ob, o ≠ CellO a ob) : hid Cs G a = some o := by
  rw [hid_out]
  · exact e
  · intro z
    obtain ⟨ob, _, e1, _⟩ := hC a z
    rw [e] at e1
    exact ne ob (Option.some.inj e1)
theorem hid_t {G : Hp} {a : Addr} {xs : List V} (hC : CellSet Cs G h) (e : SqT E.K G a xs) : SqT E.K (hid Cs G) a xs := by
  rcases e with (e | ⟨o, e⟩) | e
  · exact .inl (.inl (hid_kp hC e fun ob z => cellO_tup z.symm))
  · exact .inl (.inr ⟨o, hid_kp hC e fun ob z => cellO_frz z.symm⟩)
  · exact .inr e
theorem hid_l {G : Hp} {a : Addr} {xs : List V} (hC : CellSet Cs G h) (e : SqL E.K G a xs) : SqL E.K (hid Cs G) a xs := by
  rcases e with (e | ⟨o, e⟩) | e
  · exact .inl (.inl (hid_kp hC e fun ob z => by unfold CellO at z; cases z))
  · exact .inl (.inr ⟨o, hid_kp hC e fun ob z => cellO_frz z.symm⟩)
  · exact .inr e
/-- a tracked object with other data is no cell -/
theorem hid_x {G : Hp} {a : Addr} {φ : Heap → Prop} (hC : CellSet Cs G h) (hok : HOk P w H h) (sub : ∀ a o, G a = some o → H a = some o) (e : G a = some (.ext φ)) (ne : ∀ o, φ h → h.get? a = some o → ∀ v, o.data ≠ .cell v) : hid Cs G a = some (.ext φ) := by
  rw [hid_out]
  · exact e
  · intro z
    obtain ⟨ob, v, e1, e2, e3⟩ := hC a z
    obtain ⟨hp, _, _⟩ := hok a _ (sub _ _ e)
    exact ne ob hp e3 v e2
mutual
theorem Rep.hid (hC : CellSet Cs g.G h) (hok : HOk P w H h) (sub : ∀ a o, g.G a = some o → H a = some o) : ∀ {d : D} {v : V}, d.nc = true → Rep E g d v → Rep E (g.hid Cs) d v
  | .non, v, n, r => by simp only [Rep] at r ⊢; exact r
  | .bl b, v, n, r => by simp only [Rep] at r ⊢; exact r
  | .int i, v, n, r => by simp only [Rep] at r ⊢; exact r
  | .str x, v, n, r => by simp only [Rep] at r ⊢; exact r
  | .tup ds, v, n, r => by
    simp only [Rep] at r ⊢
    obtain ⟨a, xs, h1, h2, h3, h4⟩ := r
    exact ⟨a, xs, h1, hid_t hC h2, h3, Reps.hid hC hok sub (by simpa only [D.nc] using n) h4⟩
  | .lst ds, v, n, r => by
    simp only [Rep] at r ⊢
    obtain ⟨a, xs, h1, h2, h3, h4⟩ := r
    exact ⟨a, xs, h1, hid_kp hC h2 fun ob z => (by unfold CellO at z; cases z), h3, Reps.hid hC hok sub (by simpa only [D.nc] using n) h4⟩
  | .scr ns, v, n, r => by
    simp only [Rep] at r ⊢
    obtain ⟨a, h1, h2, h3⟩ := r
    exact ⟨a, h1, hid_l hC h2, h3⟩
  | .dct ks ds, v, n, r => by
    simp only [Rep] at r ⊢
    simp only [D.nc, Bool.and_eq_true] at n
    obtain ⟨a, hs, xs, ys, h1, h2, h3, h4, h5⟩ := r
    refine ⟨a, hs, xs, ys, h1, hid_x hC hok sub h2 (fun o z e v q => ?_), h3, Reps.hid hC hok sub n.1 h4, Reps.hid hC hok sub n.2 h5⟩
    obtain ⟨_, _, o', es, ep, e1, _, e2, _⟩ := z
    rw [e] at e1
    cases e1
    rw [q] at e2
    cases e2
  | .ins C ns ds, v, n, r => by
    simp only [Rep] at r ⊢
    obtain ⟨a, dx, xs, h1, h2, h3, h4⟩ := r
    exact ⟨a, dx, xs, h1, hid_kp hC h2 fun ob z => (by unfold CellO at z; cases z), h3, Reps.hid hC hok sub (by simpa only [D.nc] using n) h4⟩
  | .exc C ns ds, v, n, r => by
    simp only [Rep] at r ⊢
    obtain ⟨a, d, h1, h2, h3⟩ := r
    refine ⟨a, d, h1, hid_x hC hok sub h2 (fun o z e v q => ?_), h3.imp id fun ⟨dx, xs, q1, q2, q3, q4⟩ => ⟨dx, xs, q1, hid_kp hC q2 fun ob z => (by unfold CellO at z; cases z), q3, Reps.hid hC hok sub (by simpa only [D.nc] using n) q4⟩⟩
    obtain ⟨o', vs, e1, _, e2⟩ := z
    rw [e] at e1
    cases e1
    rw [q] at e2
    cases e2
  | .clo c ds, v, n, r => by simp [D.nc] at n
  | .ref k, v, n, r => by simp only [Rep] at r ⊢; exact r
  | .fn f, v, n, r => by simp only [Rep] at r ⊢; exact r
  | .ty t, v, n, r => by simp only [Rep] at r ⊢; exact r
theorem Reps.hid (hC : CellSet Cs g.G h) (hok : HOk P w H h) (sub : ∀ a o, g.G a = some o → H a = some o) : ∀ {ds : List D} {vs : List V}, D.ncs ds = true → Reps E g ds vs → Reps E (g.hid Cs) ds vs
  | [], vs, n, r => by simp only [Reps] at r ⊢; exact r
  | d :: ds, vs, n, r => by
    simp only [D.ncs, Bool.and_eq_true] at n
    simp only [Reps] at r ⊢
    obtain ⟨v, q, h1, h2, h3⟩ := r
    exact ⟨v, q, h1, Rep.hid hC hok sub n.1 h2, Reps.hid hC hok sub n.2 h3⟩
end
theorem ObjRel.hid (hC : CellSet Cs g.G h) (hok : HOk P w H h) (sub : ∀ a o, g.G a = some o → H a = some o) {a : Addr} {m : MO} (n : m.nc = true) (ga : g.G a = none) (r : ObjRel E g H a m) : ObjRel E (g.hid Cs) (hid Cs H) a m := by
  have k : ∀ o, H a = some o → Mp.hid Cs H a = some o := fun o e => by
    rw [hid_out]
    · exact e
    · intro z
      obtain ⟨_, _, e1, _⟩ := hC a z
      rw [ga] at e1
      cases e1
  cases m with
  | lst ds => obtain ⟨xs, h1, h2, h3⟩ := r; exact ⟨xs, k _ h1, h2, Reps.hid hC hok sub n h3⟩
  | dct ks ds =>
    obtain ⟨hs, xs, ys, h1, h2, h3, h4⟩ := r
    have n' : (D.ncs ks && D.ncs ds) = true := n
    rw [Bool.and_eq_true] at n'
    exact ⟨hs, xs, ys, k _ h1, h2, Reps.hid hC hok sub n'.1 h3, Reps.hid hC hok sub n'.2 h4⟩
  | ins C ns ds => obtain ⟨dx, xs, h1, h2, h3⟩ := r; exact ⟨dx, xs, k _ h1, h2, Reps.hid hC hok sub n h3⟩
theorem RelG.hid {st : Store} (hC : CellSet Cs g.G h) (hok : HOk P w H h) (r : RelG E g st H) (n : st.nc) : RelG E (g.hid Cs) st (hid Cs H) where
  sub := fun a o e => by
    obtain ⟨hc, e⟩ := hid_some e
    rw [hid_out hc]
    exact r.sub a o e
  nx := r.nx
  dom := r.dom
  obj := fun k m e => (r.obj k m e).hid hC hok r.sub (n k m e) (r.out k m e)
  out := fun k m e => by
    show Mp.hid Cs g.G (g.io k) = none
    by_cases hc : Cs (g.io k)
    · exact hid_in hc
    · rw [hid_out hc]; exact r.out k m e
  inj := r.inj
  tab := fun p hp => by
    obtain ⟨h1, ps, h2, h3, h4⟩ := r.tab p hp
    refine ⟨?_, ps, ?_, h3, fun pos cv z => ?_⟩
    · show Mp.hid Cs g.G p.1 = none
      by_cases hc : Cs p.1
      · exact hid_in hc
      · rw [hid_out hc]; exact h1
    · rw [hid_out]
      · exact h2
      · intro z
        obtain ⟨_, _, e1, _⟩ := hC _ z
        rw [h1] at e1
        cases e1
    · obtain ⟨c, z1, z2⟩ := h4 pos cv z
      refine ⟨c, z1, hid_x hC hok r.sub z2 fun o z e v q => ?_⟩
      obtain ⟨oc, vs, t, e1, e2, _⟩ := z
      rw [e] at e1
      cases e1
      rw [q] at e2
      cases e2
end
end Mp
end
section
set_option maxHeartbeats 2000000
/-! Mp, part 31: closures: what they promise, calls of them. -/
namespace Mp
open PySem PySem.Spec PyProof.Rows L2
section
variable {E : SE} {g g' : Gh} {Cs : Addr → Prop} {H H' : Hp} {st st' : Store}
theorem GLe.sho {G : Hp} (r : RelG E g' st' H') (n : ∀ a, Cs a → H' a = none) : GLe g' (g'.sho Cs G) := ⟨Nat.le_refl _, fun _ _ => rfl, fun a o e => by
  show Mp.sho Cs G g'.G a = some o
  rw [sho_out fun z => by
    have q := r.sub a o e
    rw [n a z] at q
    cases q]
  exact e⟩
theorem RelG.sho {Hc : Hp} {G : Hp} (r : RelG E g' st' H') (n : ∀ a, Cs a → H' a = none) (hs : ∀ a, Cs a → ∀ o, G a = some o → Hc a = some o) : RelG E (g'.sho Cs G) st' (sho Cs Hc H') := by
  have k : ∀ a o, H' a = some o → Mp.sho Cs Hc H' a = some o := fun a o e => by
    rw [sho_out fun z => by rw [n a z] at e; cases e]
    exact e
  have le : GLe g' (g'.sho Cs G) := .sho r n
  refine ⟨fun a o e => ?_, r.nx, r.dom, fun i m e => (r.obj i m e).mono le (k _), fun i m e => ?_, r.inj, fun p hp => (r.tab p hp).mono le (fun ps z => k _ _ z) ?_⟩
  · by_cases hc : Cs a
    · have e : Mp.sho Cs G g'.G a = some o := e
      rw [sho_in hc] at e ⊢
      exact hs a hc o e
    · have e : Mp.sho Cs G g'.G a = some o := e
      rw [sho_out hc] at e ⊢
      exact r.sub a o e
  · show Mp.sho Cs G g'.G (g'.io i) = none
    rw [sho_out]
    · exact r.out i m e
    · intro z
      obtain ⟨o, q⟩ := (r.obj i m e).there
      rw [n _ z] at q
      cases q
  · obtain ⟨z, ps, z2, _⟩ := r.tab p hp
    show Mp.sho Cs G g'.G p.1 = none
    rw [sho_out fun y => by rw [n _ y] at z2; cases z2]
    exact z
theorem Ext.sho (hC : ∀ a, Cs a → ∃ o, g.G a = some o) (r : RelG E g st H) (r' : RelG E g' st' H') (n : ∀ a, Cs a → H' a = none) (e : Ext (g.hid Cs) (foS E g st) (hid Cs H) g' (foS E g' st') H') : Ext g (foS E g st) H (g'.sho Cs g.G) (foS E g' st') (sho Cs H H') := by
  refine ⟨⟨e.le.nx, e.le.io, fun a o q => ?_⟩, fun a o q nf => ?_, fun a o q nf z => ?_, fun a q => ?_⟩
  · show Mp.sho Cs g.G g'.G a = some o
    by_cases hc : Cs a
    · rw [sho_in hc]; exact q
    · rw [sho_out hc]
      exact e.le.G a o (show Mp.hid Cs g.G a = some o by rw [hid_out hc]; exact q)
  · by_cases hc : Cs a
    · rw [sho_in hc]; exact q
    · rw [sho_out hc]
      exact e.keep a o (by rw [hid_out hc]; exact q) nf
  · show Mp.sho Cs g.G g'.G a = none
    have hc : ¬ Cs a := fun y => by obtain ⟨_, y2⟩ := hC a y; rw [z] at y2; cases y2
    rw [sho_out hc]
    exact e.new a o (by rw [hid_out hc]; exact q) nf (show Mp.hid Cs g.G a = none by rw [hid_out hc]; exact z)
  · have hc : ¬ Cs a := fun y => by
      rcases q with ⟨i, m, q1, q2⟩ | ⟨p, hp, q1⟩
      · obtain ⟨o, q3⟩ := (r'.obj i m q1).there
        rw [q2, n a y] at q3
        cases q3
      · obtain ⟨_, ps, z2, _⟩ := r'.tab p hp
        rw [q1, n a y] at z2
        cases z2
    have q := e.fo a q
    rw [hid_out hc] at q
    exact q
end

/-! ### the promise -/
/-- what the closure id keeps, told of its captured values -/
abbrev CFn := List D → Fn
def CloOk (P : Program) (w : World) (K : PySem.W.Frag) (mg : Str → Option Value) (base : Heap) (E : SE) (lev : Nat) (id : Nat) (fm : CFn) : Prop :=
  ∀ (L : LamI), E.lam id = some L → ∀ (f : Addr) (cl : List (Str × Addr)) (c : Addr) (A : Around) (outer : List Env) (s : Shared) (H : Hp) (us : List Value) (vs : List V) (Q : VK) (XE : XK) (xs : List V) (g : Gh) (st : Store) (ds cds : List D),
    Room lev A → Env0 P w K mg base A outer s H → H f = some (CloO L f cl c) → H c = some (LamX.CodeO c L.qual) → NdefX.CellsAt cl L.fr (xs.map some) s.heap H → Vals vs us → RelG E g st H → Reps E g ds vs → Reps E g cds xs →
    PostC E g (foS E g st) H Q XE (fm cds ds st) → codeAny (model P w) A (.call (.ref f) ⟨us, []⟩) (CR (L2.CX P w) outer P w H s Q XE) s
theorem CloOk.mono {P : Program} {w : World} {K : PySem.W.Frag} {mg : Str → Option Value} {base : Heap} {E : SE} {j k id : Nat} {fm : CFn} (h : j ≤ k) (c : CloOk P w K mg base E j id fm) : CloOk P w K mg base E k id fm :=
  fun L hL f cl c' A outer s H us vs Q XE xs g st ds cds hr => c L hL f cl c' A outer s H us vs Q XE xs g st ds cds (hr.mono h)
/-- the mirror of a lambda by that of its body -/
def lamFn (n np nf : Nat) (m : M D) : CFn := fun cds ds st => if ds.length = np ∧ cds.length = nf then
    match m (ds.map some ++ (cds.map some ++ List.replicate (n - np - nf) none)) st with
    | .ok d _ st' => .ok d [] st'
    | .exc x _ st' => .exc x [] st'
    | .stuck => .stuck
  else .stuck
/-- a lambda's object -/
def lamI (qual : Str) (params : Arguments) (body : Expr) (scope : Scope) (fr : List Str) : LamI :=
  ⟨qual ++ "<lambda>", fr, fun cl c fd => ∃ pm ctv, fd = PySem.W.kla_fn "<lambda>" (qual ++ "<lambda>") params body scope cl pm (.ref c) ctv⟩
theorem cloO_at {P : Program} {w : World} {H : Hp} {h : Heap} {L : LamI} {f c : Addr} {cl : List (Str × Addr)} (hok : HOk P w H h) (e : H f = some (CloO L f cl c)) : ∃ (od : Option Addr) (sl : Array (Option Value)) (fd : FuncData), h.get? f = some (⟨.type "function", od, .func fd, sl⟩ : Obj) ∧ L.isF cl c fd := by
  obtain ⟨z, _, _⟩ := hok f _ e
  exact z
section
variable {E : SE} {P : Program} {w : World} {K : PySem.W.Frag} {mg : Str → Option Value} {base : Heap}
/-- THE RULE: a lambda by its body -/
theorem lam_ok {id k : Nat} {qual : Str} {params : Arguments} {body : Expr} {scope : Scope} {N ps fr : List Str} {m : M D} (hid : E.lam id = some (lamI qual params body scope fr)) (S : NdefX.NScope N ps fr scope)
    (hb : ∀ (cl : List (Str × Addr)) (c : Addr) (pm ctv : Value) (us : List Value), us.length = ps.length → bindArgs (PySem.W.kla_fn "<lambda>" (qual ++ "<lambda>") params body scope cl pm (.ref c) ctv) ⟨us, []⟩ = pure (ps.zip us))
    (hbody : ∀ (F : NdefX.NF) (f : Addr) (A : Around) (outer : List Env) (s : Shared) (H : Hp) (XE : XK), F.scope = scope → Room k (A.deeper (NdefX.envF F f s.heap.objs.size)) →
      PE (NdefX.ncx (L2.CX P w) P w K mg base N F f A outer s H XE) body (tI E (fun cls d _ H => XE cls d H) m)) : CloOk P w K mg base E (k + 1) id (lamFn N.length ps.length fr.length m) := by
  intro L hL f cl c A outer s H us vs Q XE xs g st ds cds hr e0 hf hc C r rg rs rcs p
  rw [hid] at hL
  cases hL
  unfold lamFn at p
  split at p
  · rename_i hl
    have hvs : vs.length = ps.length := by rw [rs.length]; exact hl.1
    have lim : s.heap.NoLimit := e0.mod.nolimit.keeps fun b o e => (e0.bs b o e).1
    obtain ⟨od, sl, fd, ho, pm, ctv, rfl⟩ := cloO_at e0.hok hf
    refine PySem.W.kla_callFunE hr.depth ho rfl S.co S.gen rfl (NdefX.codeO_at e0.hok hc) ?_
    rw [hb cl c pm ctv us (by rw [← r.length]; exact hvs)]
    refine wpAny_pure (wpAny_newFunctionEnv S.nocell (fun ⟨n, _⟩ hy => S.par n (List.of_mem_zip hy).1) (fun h₁ hns hsb => ⟨lim.fresh _ hsb, ?_⟩) S.kind)
    have kp : ∀ b o, s.heap.get? b = some o → h₁.get? b = some o := fun b o e => hsb.extBut b o (Nat.ne_of_lt (Heap.lt_size e)) (Heap.get?_push_of_some _ e)
    generalize hF : (⟨"<lambda>", qual ++ "<lambda>", params, [], scope, cl, c⟩ : NdefX.NF) = F
    have eS : F.scope = scope := by rw [← hF]
    have eC : F.cl = cl := by rw [← hF]
    have eE : PySem.W.envX (qual ++ "<lambda>") scope s.heap.objs.size f (.ref c) cl = NdefX.envF F f s.heap.objs.size := by rw [← hF]
    show codeAny _ _ (.expr body (PySem.W.envX (qual ++ "<lambda>") scope s.heap.objs.size f (.ref c) cl)) _ _
    rw [eE]
    have I : Inv (NdefX.ncx (L2.CX P w) P w K mg base N F f A outer s H XE) [] (NdefX.startF N vs (xs.map some)) H { s with heap := h₁, toks := s.toks + (ps.zip us).length } :=
      NdefX.inv_startN (by rw [eS]; exact S) hr.hd e0 hvs r (by rw [eC]; exact C) hns kp
    refine PySem.W.kla_codeExpr (wpAny_mono ((hbody F f A outer s H XE eS (hr.deeper _)).run [] _ _ H Q I ⟨g, ds.map some ++ (cds.map some ++ List.replicate (N.length - ps.length - fr.length) none), st, ⟨rg, ?_, fun i d e => ?_⟩, ?_⟩) (fun v s' hq => ?_) fun e s' hq => hq)
    · unfold NdefX.startF
      simp only [List.length_append, List.length_map, List.length_replicate, rs.length, rcs.length, hl.1, hl.2]
    · unfold NdefX.startF
      rw [List.getElem?_append] at e ⊢
      rw [List.length_map] at e ⊢
      have lv := rs.length
      rw [lv]
      split at e
      · rename_i hi
        rw [if_pos (by omega)]
        rw [List.getElem?_map, Option.map_eq_some_iff] at e
        obtain ⟨d', e2, e3⟩ := e
        cases e3
        obtain ⟨v, e4, rv⟩ := rs.get e2
        exact ⟨v, by rw [List.getElem?_map, e4]; rfl, rv⟩
      · rename_i hi
        rw [if_neg (by omega)]
        have e1 := getQ_append_rep _ _ _ _ e
        rw [List.getElem?_map, Option.map_eq_some_iff] at e1
        obtain ⟨d', e2, e3⟩ := e1
        cases e3
        obtain ⟨v, e4, rv⟩ := rcs.get e2
        refine ⟨v, ?_, rv⟩
        rw [List.getElem?_append_left (by rw [List.length_map]; exact (List.getElem?_eq_some_iff.mp e4).1), List.getElem?_map, e4]
        rfl
    · cases e : m (ds.map some ++ (cds.map some ++ List.replicate (N.length - ps.length - fr.length) none)) st with
      | ok d fr' st' =>
        rw [e] at p
        exact fun g' H' e' r' v rv => p g' H' v e' r'.toRelG rv
      | exc x fr' st' =>
        rw [e] at p
        exact fun g' H' cls dx e' r' q => p g' H' cls dx e' r'.toRelG q
      | stuck =>
        rw [e] at p
        exact p.elim
    · obtain ⟨w', H', J', rv, q⟩ := hq
      exact ⟨w', H', J'.os, J'.bare, J'.base, J'.hok, rv, q⟩
  · exact p.elim
end
end Mp
end
section
set_option maxHeartbeats 2000000
/-! Mp, part 32: a closure called. -/
namespace Mp
open PySem PySem.Spec PyProof.Rows L2
def ClTab := Nat → Option CFn
def ClTabOk (P : Program) (w : World) (K : PySem.W.Frag) (mg : Str → Option Value) (base : Heap) (E : SE) (lev : Nat) (tab : ClTab) : Prop := ∀ id fm, tab id = some fm → CloOk P w K mg base E lev id fm
open Classical in
noncomputable def cloK (tab : ClTab) (fr : Fr) (d : D) (ds : List D) (st : Store) : Out D := match d with
  | .clo id cds => match tab id with
    | some fm => if D.ncs ds = true ∧ D.ncs cds = true ∧ st.nc then callK fr (fm cds ds st) else .stuck
    | none => .stuck
  | _ => .stuck
def D.isClo : D → Bool
  | .clo _ _ => true
  | _ => false
/-- f(..), f a local name that holds a closure -/
noncomputable def mCallC (tab : ClTab) (mo : M D) (ms : M (List D)) : M D := do
  let d ← mo
  let _ ← lift (if d.isClo then some () else none)
  let ds ← ms
  fun fr st => cloK tab fr d ds st
section
variable {E : SE} {W : WX} {X : Cx}
theorem fnAt_clo {pins : List (Addr × Obj)} {σ : L2.St} {H : Hp} {s : Shared} {f c : Addr} {L : LamI} {cl : List (Str × Addr)} (I : Inv X pins σ H s) (e : H f = some (CloO L f cl c)) : PySem.W.FnAt f s.heap := by
  obtain ⟨od, sl, fd, ho, _⟩ := cloO_at I.hok e
  exact ⟨_, od, _, sl, ho⟩
/-- behind a run with the cells out of sight -/
theorem CX_sho {P : Program} {w : World} {outer : List Env} {H : Hp} {s : Shared} {XE XE' : XK} {u : Value} {s' : Shared} {Cs : Addr → Prop} (nf : ∀ a, Cs a → a ∉ frs outer) (hC : ∀ a, Cs a → ∃ o, H a = some (CellO a o) ∧ s.heap.get? a = some o)
    (c : L2.CX P w outer (hid Cs H) s XE u s') (k : ∀ cls d H', (∀ a, Cs a → H' a = none) → XE cls d H' → XE' cls d (sho Cs H H')) : L2.CX P w outer H s XE' u s' := by
  obtain ⟨a, B, H', cls, d, rfl, fl, hok, ub, na, os, ag, e⟩ := c
  have hn : ∀ b, Cs b → H' b = none := fun b hb => by
    obtain ⟨o, _, q⟩ := hC b hb
    exact ub.free b o q (hid_in hb)
  have kB : ∀ b, Cs b → ∃ o, H b = some (CellO b o) ∧ B.get? b = some o := fun b hb => by
    obtain ⟨o, q1, q2⟩ := hC b hb
    exact ⟨o, q1, ub.keep b o q2 (hid_in hb) (nf b hb)⟩
  refine ⟨a, B, sho Cs H H', cls, d, rfl, fl, hok_sho (G := H) kB hn hok, ⟨fun b o e1 n hf => ?_, ub.slot, fun b o e1 n => ?_, ub.there, fun b xs e1 => ?_, fun b o xs e1 => ?_, fun b ps e1 => ?_⟩, ?_, os, ag, k cls d H' hn e⟩
  · exact ub.keep b o e1 (by rw [hid_out fun z => by obtain ⟨_, q, _⟩ := hC b z; rw [n] at q; cases q]; exact n) hf
  · have nc : ¬ Cs b := fun z => by obtain ⟨_, q, _⟩ := hC b z; rw [n] at q; cases q
    rw [sho_out nc]
    exact ub.free b o e1 (by rw [hid_out nc]; exact n)
  · have nc : ¬ Cs b := fun z => by obtain ⟨_, q, _⟩ := hC b z; rw [e1] at q; exact cellO_tup (Option.some.inj q).symm
    rw [sho_out nc]
    exact ub.tups b xs (by rw [hid_out nc]; exact e1)
  · have nc : ¬ Cs b := fun z => by obtain ⟨_, q, _⟩ := hC b z; rw [e1] at q; exact cellO_frz (Option.some.inj q).symm
    rw [sho_out nc]
    exact ub.frzs b o xs (by rw [hid_out nc]; exact e1)
  · have nc : ¬ Cs b := fun z => by obtain ⟨_, q, _⟩ := hC b z; rw [e1] at q; exact cellO_tbl (Option.some.inj q).symm
    rw [sho_out nc]
    exact ub.tbls b ps (by rw [hid_out nc]; exact e1)
  · rw [sho_out]
    · exact na
    · intro z
      obtain ⟨o, _, q⟩ := kB a z
      have q2 := fl.2.1
      rw [q] at q2
      cases q2
theorem run_clo {k id : Nat} {fm : CFn} {pins : List (Addr × Obj)} {σ : L2.St} {H : Hp} {s : Shared} {g : Gh} {fr : Fr} {st : Store} {cds ds : List D} {v : V} {vs : List V} {us : List Value} {Q : VK} (ok : CloOk X.prog X.w X.K X.mg X.base E k id fm) (hr : Room k X.A) (tk : Takes X W) (I : Inv X pins σ H s) (rl : RelF E g fr st σ H)
    (rd : Rep E g (.clo id cds) v) (rs : Reps E g ds vs) (r : Vals vs us) (n1 : D.ncs ds = true) (n2 : D.ncs cds = true) (n3 : st.nc) (p : Post E W g (foS E g st) H σ (RV E Q) (callK fr (fm cds ds st))) :
    ∃ f, v = .ref f ∧ PySem.W.FnAt f s.heap ∧ wpAny (model X.prog X.w) X.A (call (.ref f) us) (EP X pins σ Q) X.xe s := by
  simp only [Rep] at rd
  obtain ⟨f, cl, c, L, xs, rfl, hL, hf, hc, hcl, rcs⟩ := rd
  refine ⟨f, rfl, fnAt_clo I (rl.sub _ _ hf), ?_⟩
  generalize hCs : (fun a => ∃ y, cl.lookup y = some a) = Cs
  have cs : ∀ a, Cs a → ∃ o v, g.G a = some (CellO a o) ∧ o.data = .cell v ∧ s.heap.get? a = some o := fun a z => by
    rw [← hCs] at z
    obtain ⟨y, z⟩ := z
    obtain ⟨o, v, h1, h2⟩ := hcl.all y a z
    obtain ⟨h3, _, _⟩ := I.hok a _ (rl.sub _ _ h1)
    exact ⟨o, v, h1, h2, h3⟩
  have cH : ∀ a, Cs a → ∃ o, H a = some (CellO a o) ∧ s.heap.get? a = some o := fun a z => by
    obtain ⟨o, v, h1, _, h3⟩ := cs a z
    exact ⟨o, rl.sub _ _ h1, h3⟩
  have hk : ∀ a, Cs a → ∀ o, H a = some o → ∃ ob, o = CellO a ob := fun a z o e => by
    obtain ⟨ob, h1, _⟩ := cH a z
    rw [h1] at e
    exact ⟨ob, (Option.some.inj e).symm⟩
  have nf : ∀ a, Cs a → a ∉ frs X.stack := fun a z hm => by
    obtain ⟨ob, h1, _⟩ := cH a z
    rw [I.env0.frf a hm] at h1
    cases h1
  have ne : ∀ (a : Addr) (φ : HO), g.G a = some φ → (∀ o v, o.data = .cell v → s.heap.get? a = some o → φ = CellO a o → False) → ¬ Cs a := fun a φ e1 e2 z => by
    obtain ⟨o, v, h1, h2, h3⟩ := cs a z
    rw [e1] at h1
    exact e2 o v h2 h3 (Option.some.inj h1)
  have kf : ¬ Cs f := fun z => by
    obtain ⟨o, v, h1, h2, h3⟩ := cs f z
    obtain ⟨od, sl, fd, ho, _⟩ := cloO_at I.hok (rl.sub _ _ hf)
    rw [ho] at h3
    cases h3
    cases h2
  have kc : ¬ Cs c := fun z => by
    obtain ⟨o, v, h1, h2, h3⟩ := cs c z
    obtain ⟨⟨oc, ws, t, ho, hd, _⟩, _, _⟩ := I.hok c _ (rl.sub _ _ hc)
    rw [ho] at h3
    cases h3
    rw [hd] at h2
    cases h2
  have C : NdefX.CellsAt cl L.fr (xs.map some) s.heap (hid Cs H) := by
    refine ⟨by rw [List.length_map]; exact hcl.len, fun y a e => ?_, hcl.inj, fun i y e => ?_⟩
    · have z : Cs a := by rw [← hCs]; exact ⟨y, e⟩
      obtain ⟨o, v, h1, h2, h3⟩ := cs a z
      exact ⟨hid_in z, v, o, h3, h2⟩
    · obtain ⟨a, o, u, v, h1, h2, h3, h4, h5⟩ := hcl.has i y e
      refine ⟨a, h1, fun v' e' => ?_⟩
      rw [List.getElem?_map, h4] at e'
      cases e'
      obtain ⟨hg, _, _⟩ := I.hok a _ (rl.sub _ _ h2)
      exact ⟨u, h5, o, hg, h3⟩
  have rg0 := RelG.hid cs I.hok rl.toRelG n3
  have rs0 := Reps.hid cs I.hok rl.sub n1 rs
  have rc0 := Reps.hid cs I.hok rl.sub n2 rcs
  generalize ho : fm cds ds st = o at p
  -- what is kept of the end
  have fin : ∀ (g' : Gh) (st' : Store) (H' : Hp), (∀ a, Cs a → H' a = none) → Ext (g.hid Cs) (foS E g st) (hid Cs H) g' (foS E g' st') H' → RelG E g' st' H' →
      Ext g (foS E g st) H (g'.sho Cs g.G) (foS E (g'.sho Cs g.G) st') (sho Cs H H') ∧ RelF E (g'.sho Cs g.G) fr st' σ (sho Cs H H') ∧ GLe g' (g'.sho Cs g.G) := fun g' st' H' hn e rg => by
    have e2 := Ext.sho (fun a z => by obtain ⟨o, _, h1, _⟩ := cs a z; exact ⟨_, h1⟩) rl.toRelG rg hn e
    have r2 := RelG.sho (Hc := H) (G := g.G) rg hn (fun a z o q => rl.sub a o q)
    exact ⟨e2, rl.after e2.le r2, .sho rg hn⟩
  refine wpAny_call (codeAny_mono (ok L hL f cl c X.A X.stack s (hid Cs H) us vs (fun v H' => ∃ g' d st' f', o = .ok d f' st' ∧ Ext (g.hid Cs) (foS E g st) (hid Cs H) g' (foS E g' st') H' ∧ RelG E g' st' H' ∧ Rep E g' d v)
    (fun cls dx H' => ∃ g' x st' f', o = .exc x f' st' ∧ Ext (g.hid Cs) (foS E g st) (hid Cs H) g' (foS E g' st') H' ∧ RelG E g' st' H' ∧ ExR E g' x cls dx) xs (g.hid Cs) st ds cds hr (env0_hid hk I.env0) (by rw [hid_out kf]; exact rl.sub _ _ hf) (by rw [hid_out kc]; exact rl.sub _ _ hc) C r rg0 rs0 rc0 ?_) fun rr s' hq => ?_)
  · rw [ho]
    cases o with
    | ok d f' st' => exact fun g' H' v e rg rv => ⟨g', d, st', f', rfl, e, rg, rv⟩
    | exc x f' st' => exact fun g' H' cls dx e rg q => ⟨g', x, st', f', rfl, e, rg, q⟩
    | stuck => exact p.elim
  · cases rr with
    | error er =>
      refine passAt tk σ pins H s er s' I (CX_sho nf cH hq fun cls dx H' hn ⟨g', x, st', f', eo, e, rg, q⟩ => ?_)
      subst eo
      obtain ⟨e2, r2, le⟩ := fin g' st' H' hn e rg
      exact p _ _ cls dx e2 r2 (q.mono le)
    | ok fl =>
      cases fl with
      | ret u =>
        obtain ⟨v', H', os, bare, un, hok', rv, g', d, st', f', eo, e, rg, rd⟩ := hq
        subst eo
        have hn : ∀ b, Cs b → H' b = none := fun b hb => by
          obtain ⟨o, _, q⟩ := cH b hb
          exact un.free b o q (hid_in hb) (by simp)
        obtain ⟨e2, r2, le⟩ := fin g' st' H' hn e rg
        have U := un_hid nf (fun a z => by obtain ⟨o, h1, _⟩ := cH a z; exact ⟨o, h1⟩) un
        have hok2 := hok_sho (P := X.prog) (w := X.w) (G := H) (fun a z => by
          obtain ⟨o, h1, h2⟩ := cH a z
          exact ⟨o, h1, un.keep a o h2 (hid_in z) (nf a z) (by simp)⟩) hn hok'
        exact ⟨v', _, I.call' (ch := []) os U hok2 bare (fun b z => absurd z (by simp)), rv, p _ _ e2 r2 v' (rd.mono le)⟩
      | next => exact False.elim hq
      | brk => exact False.elim hq
      | cont => exact False.elim hq
theorem clo_bind {β : Type} {g : Gh} {fr : Fr} {st : Store} {σ : L2.St} {H : Hp} {R : Gh → β → Fr → Store → Hp → Prop} {d : D} {k : M β} (r : RelF E g fr st σ H) (p : Post E W g (foS E g st) H σ R ((do let _ ← lift (if d.isClo then some () else none); k : M β) fr st)) :
    (∃ id cds, d = .clo id cds) ∧ Post E W g (foS E g st) H σ R (k fr st) := by
  have hp := p.bind
  unfold lift at hp
  cases d with
  | clo id cds => exact ⟨⟨id, cds, rfl⟩, (hp g H (.refl ..) r).post⟩
  | _ => exact hp.elim
theorem s_callClo {k : Nat} {tab : ClTab} (ok : ClTabOk X.prog X.w X.K X.mg X.base E k tab) (hr : Room k X.A) (tk : Takes X W) {x : Str} {p pos : Pos} {e : Expr} {es : List Expr} {mo : M D} {ms : M (List D)} (ho : PE X (.Name x p) (tI E W mo)) (ha : PA X (e :: es) (tIA E W ms))
    (he : starEach (e :: es) X.env = (false, eval e X.env) :: starEach es X.env := by rfl) (hpl : (backTo pos (starEach es X.env)).any (·.1) = false := by rfl) : PE X (.Call (.Name x p) (e :: es) [] pos) (tI E W (mCallC tab mo ms)) := by
  refine ⟨fun pins s σ H Q I h => ?_⟩
  obtain ⟨g, fr, st, rl, pp⟩ := h
  refine wpAny_Call_Name_kw (thn (ho.run pins s σ H _ I (tI_bind (Q := fun v H1 => ∃ g1 fr1 st1 id cds, Rep E g1 (.clo id cds) v ∧ RelF E g1 fr1 st1 σ H1 ∧ Post E W g1 (foS E g1 st1) H1 σ (RV E Q) ((do let ds ← ms; fun fr st => cloK tab fr (.clo id cds) ds st : M D) fr1 st1)) rl pp fun g1 fr1 st1 H1 d v t rv => ?_)) fun u s1 ⟨v, H1, I1, r1, g1, fr1, st1, id, cds, rv, rl1, p1⟩ => ?_)
  · obtain ⟨⟨id, cds, rfl⟩, q⟩ := clo_bind t.rel t.post
    exact ⟨g1, fr1, st1, id, cds, rv, t.rel, q⟩
  · have rv0 := rv
    simp only [Rep] at rv
    obtain ⟨f, cl, c, L, xs, rfl, hL, hf, hc, _⟩ := rv
    obtain rfl : u = Value.ref f := r1
    refine PySem.W.callWith_F (first := []) (fnAt_clo I1 (rl1.sub _ _ hf)) (thn (ha.run pos pins s1 σ H1 _ I1 (tIA_bind (Q := fun vs H2 => ∃ g2 fr2 st2 ds, Rep E g2 (.clo id cds) (.ref f) ∧ RelF E g2 fr2 st2 σ H2 ∧ Reps E g2 ds vs ∧ Post E W g2 (foS E g2 st2) H2 σ (RV E Q) (cloK tab fr2 (.clo id cds) ds st2)) rl1 p1 fun g2 fr2 st2 H2 ds vs t rs => ⟨g2, fr2, st2, ds, rv0.mono t.le, t.rel, rs, t.post⟩)) fun us s2 ⟨vs, H2, I2, r, g2, fr2, st2, ds, rd, rl2, rs, p2⟩ => ?_) he hpl
    unfold cloK at p2
    dsimp only at p2
    split at p2
    · rename_i fm et
      split at p2
      · rename_i hn
        obtain ⟨f', e1, h1, h2⟩ := run_clo (ok id fm et) hr tk I2 rl2 rd rs r hn.1 hn.2.1 hn.2.2 p2
        cases e1
        exact ⟨h1, h2⟩
      · exact p2.elim
    · exact p2.elim
theorem s_callClo0 {k : Nat} {tab : ClTab} (ok : ClTabOk X.prog X.w X.K X.mg X.base E k tab) (hr : Room k X.A) (tk : Takes X W) {x : Str} {p pos : Pos} {mo : M D} (ho : PE X (.Name x p) (tI E W mo)) : PE X (.Call (.Name x p) [] [] pos) (tI E W (mCallC tab mo (mArgs []))) := by
  refine ⟨fun pins s σ H Q I h => ?_⟩
  obtain ⟨g, fr, st, rl, pp⟩ := h
  refine wpAny_Call_Name_kw (thn (ho.run pins s σ H _ I (tI_bind (Q := fun v H1 => ∃ g1 fr1 st1 id cds, Rep E g1 (.clo id cds) v ∧ RelF E g1 fr1 st1 σ H1 ∧ Post E W g1 (foS E g1 st1) H1 σ (RV E Q) ((do let ds ← mArgs []; fun fr st => cloK tab fr (.clo id cds) ds st : M D) fr1 st1)) rl pp fun g1 fr1 st1 H1 d v t rv => ?_)) fun u s1 ⟨v, H1, I1, r1, g1, fr1, st1, id, cds, rv, rl1, p1⟩ => ?_)
  · obtain ⟨⟨id, cds, rfl⟩, q⟩ := clo_bind t.rel t.post
    exact ⟨g1, fr1, st1, id, cds, rv, t.rel, q⟩
  · have rv0 := rv
    simp only [Rep] at rv
    obtain ⟨f, cl, c, L, xs, rfl, hL, hf, hc, _⟩ := rv
    obtain rfl : u = Value.ref f := r1
    have p2 : Post E W g1 (foS E g1 st1) H1 σ (RV E Q) (cloK tab fr1 (.clo id cds) [] st1) := p1
    unfold cloK at p2
    dsimp only at p2
    split at p2
    · rename_i fm et
      split at p2
      · rename_i hn
        obtain ⟨f', e1, h1, h2⟩ := run_clo (us := []) (vs := []) (ok id fm et) hr tk I1 rl1 rv0 .nil .nil hn.1 hn.2.1 hn.2.2 p2
        cases e1
        exact PySem.W.callWith_F0 (first := []) h1 h2
      · exact p2.elim
    · exact p2.elim
end
end Mp
end
section
set_option maxHeartbeats 2000000
/-! Mp, part 33: a lambda made. -/
namespace Mp
open PySem PySem.Spec PyProof.Rows L2
section
variable {E : SE} {X : Cx} {g : Gh} {fr : Fr} {st : Store} {σ : L2.St} {H : Hp}
/-- a table of code objects grows by a new one -/
theorem RelF.tblW {P c : Addr} {nm : Nat → Nat → Str} {ps : Array Value} {pos : Pos} (r : RelF E g fr st σ H) (hm : (P, nm) ∈ E.tb) (hu : ∀ p ∈ E.tb, p.1 = P → p.2 = nm) (hP : H P = some (.tbl ps)) (hc : H c = none) :
    RelF E (g.frz c (LamX.CodeO c (nm pos.line pos.col))) fr st σ (upd (upd H P (.tbl (ps ++ #[rawInt pos.line, rawInt pos.col, .ref c]))) c (LamX.CodeO c (nm pos.line pos.col))) ∧
      Ext g (foS E g st) H (g.frz c (LamX.CodeO c (nm pos.line pos.col))) (foS E (g.frz c (LamX.CodeO c (nm pos.line pos.col))) st) (upd (upd H P (.tbl (ps ++ #[rawInt pos.line, rawInt pos.col, .ref c]))) c (LamX.CodeO c (nm pos.line pos.col))) := by
  have hPc : P ≠ c := ne_of_none hP hc
  obtain ⟨gP, ps0, h0, ht, ha⟩ := r.tab _ hm
  rw [hP] at h0
  cases h0
  generalize hq : LamX.CodeO c (nm pos.line pos.col) = q
  obtain ⟨r1, e1⟩ := r.newF hc q
  have at_ : ∀ b, b ≠ P → upd (upd H P (.tbl (ps ++ #[rawInt pos.line, rawInt pos.col, .ref c]))) c q b = upd H c q b := fun b hb => by
    by_cases hbc : b = c
    · rw [hbc, upd_same, upd_same]
    · rw [upd_ne hbc, upd_ne hbc, upd_ne hb]
  have atP : upd (upd H P (.tbl (ps ++ #[rawInt pos.line, rawInt pos.col, .ref c]))) c q P = some (.tbl (ps ++ #[rawInt pos.line, rawInt pos.col, .ref c])) := by rw [upd_ne hPc, upd_same]
  have gP1 : (g.frz c q).G P = none := by
    show upd g.G c q P = none
    rw [upd_ne hPc]
    exact gP
  have nP : ∀ n m, st.get n = some m → g.io n ≠ P := fun n m e z => (r.obj n m e).nt ps (by rw [z]; exact hP)
  refine ⟨⟨⟨fun a o e => ?_, r1.nx, r1.dom, fun n m e => (r1.obj n m e).mono (.refl _) fun o z => by rw [at_ _ (nP n m e)]; exact z, r1.out, r1.inj, fun p hp => ?_⟩, r1.len, r1.val⟩, ⟨e1.le, fun a o e nf => ?_, e1.new, e1.fo⟩⟩
  · rw [at_ a fun z => by rw [z, gP1] at e; cases e]
    exact r1.sub a o e
  · by_cases hb : p.1 = P
    · refine ⟨by rw [hb]; exact gP1, _, by rw [hb]; exact atP, ?_, fun p' cv hcv => ?_⟩
      · rw [show (ps ++ #[rawInt pos.line, rawInt pos.col, .ref c]).toList = ps.toList ++ [rawInt pos.line, rawInt pos.col, .ref c] by simp]
        exact PySem.TriplesOk_snoc _ _ _ _ ht
      · rw [show (ps ++ #[rawInt pos.line, rawInt pos.col, .ref c]).toList = ps.toList ++ [rawInt pos.line, rawInt pos.col, .ref c] by simp] at hcv
        have e2 : p.2 = nm := hu p hp hb
        rcases NdefX.among_app2 _ ht hcv with z | ⟨z, z1, z2⟩
        · obtain ⟨c0, e3, e4⟩ := ha p' cv z
          rw [e2]
          exact ⟨c0, e3, e1.le.G _ _ e4⟩
        · refine ⟨c, z, ?_⟩
          rw [e2, ← z1, ← z2, hq]
          exact upd_same
    · obtain ⟨b1, ps', b2, b3, b4⟩ := r1.tab p hp
      exact ⟨b1, ps', by rw [at_ _ hb]; exact b2, b3, b4⟩
  · rw [at_ a fun z => nf (.inr ⟨_, hm, z.symm⟩)]
    exact e1.keep a o e nf
/-- an object that stands, young, is tracked and frozen -/
theorem track_frz {pins : List (Addr × Obj)} {s s0 : Shared} {f : Addr} {o : HO} {σ0 : L2.St} {H0 : Hp} (I0 : Inv X pins σ0 H0 s0) (hs : s0.heap.objs.size ≤ f) (I : Inv X pins σ H s) (rl : RelF E g fr st σ H) (hn : H f = none) (new : ObjOk X.prog X.w (upd H f o) s.heap f o) :
    Inv X pins σ (upd H f o) s ∧ RelF E (g.frz f o) fr st σ (upd H f o) ∧ Ext g (foS E g st) H (g.frz f o) (foS E (g.frz f o) st) (upd H f o) := by
  refine ⟨Inv.track I hn (Nat.le_trans I0.sz hs) (fun z => ?_) (fun x c e z => ?_) (fun p hp z => ?_) new, rl.newF hn o⟩
  · have q := I0.lt
    rw [← z] at q
    exact absurd hs (Nat.not_le_of_lt q)
  · obtain ⟨v, ob, ho, _⟩ := I0.cell x c e
    have q := Heap.lt_size ho
    rw [z] at q
    exact absurd hs (Nat.not_le_of_lt q)
  · obtain ⟨e, _⟩ := I0.pin p hp
    have q := Heap.lt_size e
    rw [z] at q
    exact absurd hs (Nat.not_le_of_lt q)
theorem lam_makeG {params : Arguments} {body : Expr} {scope : Scope} {pos : Pos} {E' : Value → Shared → Prop} {Q : Value → Shared → Prop} {pins : List (Addr × Obj)} {s : Shared} {c P : Addr} {nm : Nat → Nat → Str} {frn : List Str} (I : Inv X pins σ H s) (rl : RelF E g fr st σ H) (TB : LamX.TabB X.base X.mg c P) (hcode : X.env.code = .ref c)
    (hm : (P, nm) ∈ E.tb) (hn : nm pos.line pos.col = X.env.qual ++ "<lambda>") (hu : ∀ p ∈ E.tb, p.1 = P → p.2 = nm) (hdef : defaultsOf params X.env = ([], [])) (hfree : ∀ y ∈ scope.names, y.2 = .free → ∃ c, X.env.cells.lookup y.1 = some c)
    (h : ∀ (f c' : Addr) (g1 : Gh) (H1 : Hp) (s' : Shared), Inv X pins σ H1 s' → RelF E g1 fr st σ H1 → Ext g (foS E g st) H g1 (foS E g1 st) H1 → g1.G f = some (CloO (lamI X.env.qual params body scope frn) f (cloFrom X.env.cells scope.names []) c') → g1.G c' = some (LamX.CodeO c' (X.env.qual ++ "<lambda>")) → Q (.ref f) s') :
    wpAny (model X.prog X.w) X.A (eval (.Lambda params body scope pos) X.env) Q E' s := by
  obtain ⟨gP, ps, hP, ht, ha⟩ := rl.tab _ hm
  refine PySem.W.kla_eval hdef ?_
  have bP : s.heap.BuiltinsAt X.mg P := TB.bm.keeps I.bk
  have hP' : s.heap.get? P = some { cls := .none, data := .fields ps } := I.hok P _ hP
  have clo : ∀ (h' : Heap) (H1 : Hp) (c' : Addr) (pm ctv : Value) (f : Addr), h'.get? f = some (PySem.W.kla_obj "<lambda>" (X.env.qual ++ "<lambda>") params body scope (cloFrom X.env.cells scope.names []) pm c' ctv) →
      ObjOk X.prog X.w H1 h' f (CloO (lamI X.env.qual params body scope frn) f (cloFrom X.env.cells scope.names []) c') := fun h' H1 c' pm ctv f e => ⟨⟨_, _, _, e, pm, ctv, rfl⟩, ⟨_, e⟩, fun h1 h2 ⟨od, sl, fd, z, zz⟩ k => ⟨od, sl, fd, k _ z, zz⟩⟩
  cases hc : codeAmong pos ps.toList with
  | none =>
    refine PySem.W.kla_makeFunction (mg := X.mg) (c := c) (P := P) (ps := ps) (closure_ok hfree) I.ok.glob (I.mod.glob.keeps I.bk) hcode (TB.code.keeps I.bk) hP' ht hc TB.gP bP fun c' ctv h' tk hx hge hlt hrec htb => ?_
    obtain ⟨c2, oc, vs, t, e2, hoc, hd, hv⟩ := hrec
    cases e2
    have hsz : s.heap.objs.size ≤ h'.objs.size := Nat.le_trans hge (Nat.le_of_lt hlt)
    have nC : H c' = none := I.hok.fresh hge
    have I1 := LamX.inv_table (t' := tk) (more := #[rawInt pos.line, rawInt pos.col, .ref c']) (h' := h'.push (PySem.W.kla_obj "<lambda>" (X.env.qual ++ "<lambda>") params body scope (cloFrom X.env.cells scope.names []) ((X.mg "__name__").getD .none) c' ctv)) I hP
      (fun b o hb e => Heap.get?_push_of_some _ (hx b o hb e)) (Heap.get?_push_of_some _ htb) hge ⟨oc, vs, t, Heap.get?_push_of_some _ hoc, hd, hv⟩
    obtain ⟨r1, e1⟩ := rl.tblW (pos := pos) hm hu hP nC
    rw [hn] at r1 e1
    have n1 : h'.objs.size ≠ c' := Nat.ne_of_gt hlt
    have n2 : h'.objs.size ≠ P := Nat.ne_of_gt (Nat.lt_of_lt_of_le (Heap.lt_size hP') hsz)
    have nF : upd (upd H P (.tbl (ps ++ #[rawInt pos.line, rawInt pos.col, .ref c']))) c' (LamX.CodeO c' (X.env.qual ++ "<lambda>")) h'.objs.size = none := by
      rw [upd_ne n1, upd_ne n2]
      exact I.hok.fresh hsz
    obtain ⟨I2, r2, e2⟩ := track_frz I hsz I1 r1 nF (clo _ _ c' _ ctv _ (Heap.get?_push_size _ rfl))
    exact h h'.objs.size c' _ _ _ I2 r2 (e1.trans e2) upd_same (e2.le.G _ _ upd_same)
  | some cv =>
    obtain ⟨c', e, hco⟩ := ha pos cv hc
    subst e
    refine PySem.W.kla_makeFunctionHit (mg := X.mg) (c := c) (P := P) (ps := ps) (closure_ok hfree) I.ok.glob (I.mod.glob.keeps I.bk) hcode (TB.code.keeps I.bk) hP' ht hc bP fun ctv h' tk hx hsz => ?_
    have I1 : Inv X pins σ H { s with heap := h'.push (PySem.W.kla_obj "<lambda>" (X.env.qual ++ "<lambda>") params body scope (cloFrom X.env.cells scope.names []) ((X.mg "__name__").getD .none) c' ctv), toks := tk } := I.kept fun b o e => Heap.get?_push_of_some _ (hx b o e)
    obtain ⟨I2, r2, e2⟩ := track_frz I hsz I1 rl (I.hok.fresh hsz) (clo _ _ c' _ ctv _ (Heap.get?_push_size _ rfl))
    refine h h'.objs.size c' _ _ _ I2 r2 e2 upd_same (e2.le.G _ _ ?_)
    rw [← hn]
    exact hco
end
end Mp
end
section
set_option maxHeartbeats 2000000
/-! Mp, part 34: a def called with lambdas among its arguments. -/
namespace Mp
open PySem PySem.Spec PyProof.Rows L2
/-- an argument: a value; a lambda just made -/
inductive Arg where
  | v (d : D) | l (id : Nat)
def ARep (E : SE) (cls : Nat → List (Str × Addr)) (g : Gh) : Arg → V → Prop
  | .v d, v => Rep E g d v
  | .l id, v => ∃ f c L, v = .ref f ∧ E.lam id = some L ∧ g.G f = some (CloO L f (cls id) c) ∧ g.G c = some (LamX.CodeO c L.qual)
theorem ARep.mono {E : SE} {cls : Nat → List (Str × Addr)} {g g' : Gh} (e : GLe g g') : ∀ {a : Arg} {v : V}, ARep E cls g a v → ARep E cls g' a v
  | .v d, v, h => Rep.mono e h
  | .l id, v, ⟨f, c, L, h1, h2, h3, h4⟩ => ⟨f, c, L, h1, h2, e.G _ _ h3, e.G _ _ h4⟩
inductive AReps (E : SE) (cls : Nat → List (Str × Addr)) (g : Gh) : List Arg → List V → Prop where
  | nil : AReps E cls g [] []
  | cons {a : Arg} {v : V} {as : List Arg} {vs : List V} (h : ARep E cls g a v) (t : AReps E cls g as vs) : AReps E cls g (a :: as) (v :: vs)
def tIQ (E : SE) (W : WX) (cls : Nat → List (Str × Addr)) (m : M (List Arg)) : TA := fun σ H Q => ∃ g fr st, RelF E g fr st σ H ∧ Post E W g (foS E g st) H σ (fun g' as _ _ H' => ∀ vs, AReps E cls g' as vs → Q vs H') (m fr st)
def tIL (E : SE) (W : WX) (cls : Nat → List (Str × Addr)) (id : Nat) : TE := fun σ H Q => ∃ g fr st, RelF E g fr st σ H ∧ ∀ g' H', Ext g (foS E g st) H g' (foS E g' st) H' → RelF E g' fr st σ H' → ∀ v, ARep E cls g' (.l id) v → Q v H'
def qV (m : M D) (ms : M (List Arg)) : M (List Arg) := do
  let d ← m
  let as ← ms
  M.pure (.v d :: as)
def qL (id : Nat) (ms : M (List Arg)) : M (List Arg) := do
  let as ← ms
  M.pure (.l id :: as)
section
variable {E : SE} {W : WX} {X : Cx} {cls : Nat → List (Str × Addr)}
theorem s_qnil : PA X [] (tIQ E W cls (M.pure [])) := pa_imp pa_nil fun σ H Q h => by
  obtain ⟨g, fr, st, r, p⟩ := h
  exact p g H (.refl ..) r [] .nil
theorem s_qval {e : Expr} {es : List Expr} {m : M D} {ms : M (List Arg)} (he : PE X e (tI E W m)) (hr : PA X es (tIQ E W cls ms)) (hs : starEach (e :: es) X.env = (false, eval e X.env) :: starEach es X.env := by rfl) : PA X (e :: es) (tIQ E W cls (qV m ms)) := pa_imp (pa_cons he hr hs) fun σ H Q h => by
  obtain ⟨g, fr, st, r, p⟩ := h
  refine tI_bind r p fun g1 fr1 st1 H1 d v t rv => ?_
  refine ⟨g1, fr1, st1, t.rel, ?_⟩
  have hb := t.post.bind
  cases em : ms fr1 st1 with
  | ok as fr2 st2 =>
    rw [em] at hb
    exact fun g2 H2 e2 r2 vs rs => (hb g2 H2 e2 r2).ok (v :: vs) (.cons (ARep.mono (a := .v d) e2.le rv) rs)
  | exc x fr2 st2 => rw [em] at hb; exact hb
  | stuck => rw [em] at hb; exact hb
theorem s_qlam {e : Expr} {es : List Expr} {id : Nat} {ms : M (List Arg)} (he : PE X e (tIL E W cls id)) (hr : PA X es (tIQ E W cls ms)) (hs : starEach (e :: es) X.env = (false, eval e X.env) :: starEach es X.env := by rfl) : PA X (e :: es) (tIQ E W cls (qL id ms)) := pa_imp (pa_cons he hr hs) fun σ H Q h => by
  obtain ⟨g, fr, st, r, p⟩ := h
  refine ⟨g, fr, st, r, fun g1 H1 e1 r1 v rv => ⟨g1, fr, st, r1, ?_⟩⟩
  have hb := (p.ext e1).bind
  cases em : ms fr st with
  | ok as fr2 st2 =>
    rw [em] at hb
    exact fun g2 H2 e2 r2 vs rs => (hb g2 H2 e2 r2).ok (v :: vs) (.cons (ARep.mono (a := .l id) e2.le rv) rs)
  | exc x fr2 st2 => rw [em] at hb; exact hb
  | stuck => rw [em] at hb; exact hb
/-- a lambda as an argument -/
theorem s_lam (id : Nat) {params : Arguments} {body : Expr} {scope : Scope} {pos : Pos} {c P : Addr} {nm : Nat → Nat → Str} {frn : List Str} (hid : E.lam id = some (lamI X.env.qual params body scope frn)) (hcl : cls id = cloFrom X.env.cells scope.names []) (TB : LamX.TabB X.base X.mg c P) (hcode : X.env.code = .ref c)
    (hm : (P, nm) ∈ E.tb) (hn : nm pos.line pos.col = X.env.qual ++ "<lambda>") (hu : ∀ p ∈ E.tb, p.1 = P → p.2 = nm) (hfree : ∀ y ∈ scope.names, y.2 = .free → X.env.scope.names.lookup y.1 = some .cell ∨ X.env.scope.names.lookup y.1 = some .free) (hdef : defaultsOf params X.env = ([], []) := by rfl) :
    PE X (.Lambda params body scope pos) (tIL E W cls id) := by
  refine ⟨fun pins s σ H Q I h => ?_⟩
  obtain ⟨g, fr, st, rl, p⟩ := h
  refine lam_makeG (frn := frn) I rl TB hcode hm hn hu hdef (fun y hy e => (hfree y hy e).elim (fun z => I.ok.has _ (.inl z)) fun z => I.ok.has _ (.inr z)) fun f c' g1 H1 s' I1 r1 e1 h1 h2 => ?_
  exact ⟨.ref f, H1, I1, rfl, p g1 H1 e1 r1 _ ⟨f, c', _, rfl, hid, by rw [hcl]; exact h1, h2⟩⟩
end

/-! ### the call -/
/-- what a lambda captures: the slots -/
def slotsD (fr : Fr) : List Nat → Option (List D)
  | [] => some []
  | j :: js => match fr[j]?, slotsD fr js with
    | some (some d), some ds => some (d :: ds)
    | _, _ => none
def argD (caps : Nat → Option (List Nat)) (fr : Fr) : Arg → Option D
  | .v d => some d
  | .l id => match caps id with
    | some js => (slotsD fr js).map (.clo id)
    | none => none
def argsD (caps : Nat → Option (List Nat)) (fr : Fr) : List Arg → Option (List D)
  | [] => some []
  | a :: as => match argD caps fr a, argsD caps fr as with
    | some d, some ds => some (d :: ds)
    | _, _ => none
open Classical in
/-- the frame around a def's end; no closure comes back -/
noncomputable def callN (fr : Fr) : Out D → Out D
  | .ok d _ st => if d.nc = true ∧ st.nc then .ok d fr st else .stuck
  | .exc x _ st => if D.ncs x.ds = true ∧ st.nc then .exc x fr st else .stuck
  | .stuck => .stuck
noncomputable def mCallL (f : Fn) (dds : List D) (caps : Nat → Option (List Nat)) (ms : M (List Arg)) : M D := do
  let as ← ms
  fun fr st => match argsD caps fr as with
    | some ds => callN fr (f (ds ++ dds) st)
    | none => .stuck
/-- how the lambdas' captured names lie in the frame -/
structure CapsOk (E : SE) (X : Cx) (cls : Nat → List (Str × Addr)) (caps : Nat → Option (List Nat)) : Prop where
  ok : ∀ id js, caps id = some js → ∃ L, E.lam id = some L ∧ (X.Ok → NdefX.Caps X (cls id) L.fr js)
end Mp
end
section
set_option maxHeartbeats 2000000
/-! Mp, part 35: .. the call. -/
namespace Mp
open PySem PySem.Spec PyProof.Rows L2
section
variable {E : SE} {W : WX} {X : Cx} {cls : Nat → List (Str × Addr)}
/-- behind a run with the cells in sight -/
theorem CX_hid {P : Program} {w : World} {outer : List Env} {G H : Hp} {s : Shared} {XE XE' : XK} {u : Value} {s' : Shared} {Cs : Addr → Prop} (nf : ∀ a, Cs a → a ∉ frs outer) (hC : ∀ a, Cs a → ∃ o, G a = some (CellO a o) ∧ s.heap.get? a = some o) (n0 : ∀ a, Cs a → H a = none)
    (c : L2.CX P w outer (sho Cs G H) s XE u s') (k : ∀ cls d H' B, HOk P w H' B → XE cls d H' → (∀ a, Cs a → H' a = G a) ∧ XE' cls d (hid Cs H')) : L2.CX P w outer H s XE' u s' := by
  obtain ⟨a, B, H', cls, d, rfl, fl, hok, ub, na, os, ag, e⟩ := c
  obtain ⟨kp, e'⟩ := k cls d H' B hok e
  have hc : ∀ b, Cs b → ∀ o, H' b = some o → ∃ ob, o = CellO b ob := fun b z o q => by
    obtain ⟨ob, h1, _⟩ := hC b z
    rw [kp b z, h1] at q
    exact ⟨ob, (Option.some.inj q).symm⟩
  have kB : ∀ b, Cs b → ∀ o, s.heap.get? b = some o → B.get? b = some o := fun b z o q => by
    obtain ⟨ob, h1, h2⟩ := hC b z
    rw [h2] at q
    cases q
    obtain ⟨h3, _, _⟩ := hok b _ ((kp b z).trans h1)
    exact h3
  refine ⟨a, B, hid Cs H', cls, d, rfl, fl, hok_hid hc hok, ⟨fun b o e1 n hf => ?_, ub.slot, fun b o e1 n => ?_, ub.there, fun b xs e1 => ?_, fun b o xs e1 => ?_, fun b ps e1 => ?_⟩, ?_, os, ag, e'⟩
  · by_cases hb : Cs b
    · exact kB b hb o e1
    · exact ub.keep b o e1 (by rw [sho_out hb]; exact n) hf
  · by_cases hb : Cs b
    · exact hid_in hb
    · rw [hid_out hb]
      exact ub.free b o e1 (by rw [sho_out hb]; exact n)
  · have nc : ¬ Cs b := fun z => by rw [n0 b z] at e1; cases e1
    rw [hid_out nc]
    exact ub.tups b xs (by rw [sho_out nc]; exact e1)
  · have nc : ¬ Cs b := fun z => by rw [n0 b z] at e1; cases e1
    rw [hid_out nc]
    exact ub.frzs b o xs (by rw [sho_out nc]; exact e1)
  · have nc : ¬ Cs b := fun z => by rw [n0 b z] at e1; cases e1
    rw [hid_out nc]
    exact ub.tbls b ps (by rw [sho_out nc]; exact e1)
  · by_cases hb : Cs a
    · exact hid_in hb
    · rw [hid_out hb]; exact na
/-- what a lambda captured, as cells -/
theorem cellsG_of {pins : List (Addr × Obj)} {σ : L2.St} {H : Hp} {s : Shared} {G : Hp} {cl : List (Str × Addr)} {frn : List Str} {js : List Nat} {g : Gh} {fr : Fr} {st : Store} {cds : List D} (I : Inv X pins σ H s) (rl : RelF E g fr st σ H) (c : NdefX.Caps X cl frn js) (e : slotsD fr js = some cds)
    (hG : ∀ y a, X.env.cells.lookup y = some a → ∃ o v, G a = some (CellO a o) ∧ o.data = .cell v ∧ s.heap.get? a = some o) : ∃ xs, CellsG G cl frn xs ∧ Reps E g cds xs := by
  have C := NdefX.cells_of I c
  have key : ∀ (js : List Nat) (cds : List D), slotsD fr js = some cds → ∃ xs : List V, Reps E g cds xs ∧ js.map (NdefX.slotAt σ) = xs.map some := by
    intro js
    induction js with
    | nil =>
      intro cds e
      cases e
      exact ⟨[], .nil, rfl⟩
    | cons j js ih =>
      intro cds e
      unfold slotsD at e
      split at e
      · rename_i d ds e1 e2
        cases e
        obtain ⟨xs, h1, h2⟩ := ih ds e2
        obtain ⟨v, h3, h4⟩ := rl.val j d e1
        exact ⟨v :: xs, .cons h4 h1, by rw [List.map_cons, List.map_cons, h2, NdefX.slotAt_of h3]⟩
      · cases e
  obtain ⟨xs, hr, hx⟩ := key js cds e
  refine ⟨xs, ⟨?_, fun y a q => ?_, C.inj, fun i y q => ?_⟩, hr⟩
  · have q := C.len
    rw [hx, List.length_map] at q
    exact q
  · obtain ⟨o, v, h1, h2, _⟩ := hG y a (c.sub y a q)
    exact ⟨o, v, h1, h2⟩
  · obtain ⟨a, h1, h2⟩ := C.has i y q
    have hi : i < xs.length := by
      have q2 := C.len
      rw [hx, List.length_map] at q2
      rw [q2]
      exact (List.getElem?_eq_some_iff.mp q).1
    have hv : xs[i]? = some xs[i] := List.getElem?_eq_getElem hi
    obtain ⟨u, ru, o, ho, hd⟩ := h2 xs[i] (by rw [hx, List.getElem?_map, hv]; rfl)
    obtain ⟨o', v, h3, h4, h5⟩ := hG y a (c.sub y a h1)
    rw [ho] at h5
    cases h5
    exact ⟨a, o, u, xs[i], h1, h3, hd, hv, ru⟩
theorem args_of {pins : List (Addr × Obj)} {σ : L2.St} {H : Hp} {s : Shared} {caps : Nat → Option (List Nat)} {g gZ : Gh} {fr : Fr} {st : Store} (co : CapsOk E X cls caps) (I : Inv X pins σ H s) (rl : RelF E g fr st σ H) (le : GLe g gZ)
    (hG : ∀ y a, X.env.cells.lookup y = some a → ∃ o v, gZ.G a = some (CellO a o) ∧ o.data = .cell v ∧ s.heap.get? a = some o) : ∀ {as : List Arg} {vs : List V} {ds : List D}, AReps E cls g as vs → argsD caps fr as = some ds → Reps E gZ ds vs
  | [], _, ds, .nil, e => by
    cases e
    exact .nil
  | a :: as, _, ds, .cons h t, e => by
    unfold argsD at e
    split at e
    · rename_i d ds' e1 e2
      cases e
      refine .cons ?_ (args_of co I rl le hG t e2)
      cases a with
      | v d' =>
        cases e1
        exact Rep.mono le h
      | l id =>
        unfold argD at e1
        dsimp only at e1
        split at e1
        · rename_i js ej
          obtain ⟨cds, e3, rfl⟩ := Option.map_eq_some_iff.mp e1
          obtain ⟨f, c, L, h1, h2, h3, h4⟩ := h
          obtain ⟨L', h5, h6⟩ := co.ok id js ej
          rw [h2] at h5
          cases h5
          obtain ⟨xs, h7, h8⟩ := cellsG_of (G := gZ.G) I rl (h6 I.ok) e3 hG
          simp only [Rep]
          exact ⟨f, cls id, c, L, xs, h1, h2, le.G _ _ h3, le.G _ _ h4, h7, h8.mono le⟩
        · cases e1
    · cases e
theorem run_lcall {k : Nat} {fa : Addr} {fd : FuncData} {ps : List Str} {f : Fn} {dds : List D} {dvs : List V} {dsv : List Value} {caps : Nat → Option (List Nat)} {pins : List (Addr × Obj)} {σ : L2.St} {H : Hp} {s : Shared} {g : Gh} {fr : Fr} {st : Store} {as : List Arg} {ds : List D} {vs : List V} {us : List Value} {Q : VK} (F : FnOk X.prog X.w X.K X.mg X.base (L2.CX X.prog X.w) k fa fd ps (spI E f)) (hr : Room k X.A) (tk : Takes X W)
    (hb : Binds X.K fd ps dsv) (hdv : Vals dvs dsv) (hd : ∀ g, Reps E g dds dvs) (co : CapsOk E X cls caps) (hfn : ∀ y, X.fn y = true) (I : Inv X pins σ H s) (rl : RelF E g fr st σ H) (rs : AReps E cls g as vs) (ea : argsD caps fr as = some ds) (r : Vals vs us)
    (p : Post E W g (foS E g st) H σ (RV E Q) (callN fr (f (ds ++ dds) st))) : wpAny (model X.prog X.w) X.A (call (.ref fa) us) (EP X pins σ Q) X.xe s := by
  generalize hCs : (fun a => ∃ y, X.env.cells.lookup y = some a) = Cs
  obtain ⟨ob, hob⟩ : ∃ ob : Addr → Obj, ∀ a, Cs a → s.heap.get? a = some (ob a) ∧ ∃ v, (ob a).data = .cell v := by
    refine ⟨fun a => (s.heap.get? a).getD { cls := .none, data := .fields #[] }, fun a z => ?_⟩
    rw [← hCs] at z
    obtain ⟨y, z⟩ := z
    obtain ⟨v, o, h1, h2⟩ := I.cell y a z
    have e : (s.heap.get? a).getD { cls := .none, data := .fields #[] } = o := by rw [h1]; rfl
    show s.heap.get? a = some ((s.heap.get? a).getD { cls := .none, data := .fields #[] }) ∧ ∃ v, ((s.heap.get? a).getD { cls := .none, data := .fields #[] }).data = .cell v
    rw [e]
    exact ⟨h1, v, h2⟩
  generalize hG2 : (fun a => some (CellO a (ob a))) = G2
  have g2 : ∀ a, G2 a = some (CellO a (ob a)) := fun a => by rw [← hG2]
  have n0 : ∀ a, Cs a → H a = none := fun a z => by
    rw [← hCs] at z
    obtain ⟨y, z⟩ := z
    exact I.freeC y a z
  have ge : ∀ a, Cs a → X.s_0.heap.objs.size ≤ a := fun a z => by
    rw [← hCs] at z
    obtain ⟨y, z⟩ := z
    exact I.ok.cab y a (hfn y) z
  have nb : ∀ a, Cs a → X.base.get? a = none := fun a z => Heap.get?_none_of_le (Nat.le_trans I.ok.bsz (ge a z))
  have nf : ∀ a, Cs a → a ∉ frs X.stack := fun a z hm => by
    rcases List.mem_cons.mp (I.stkSub a hm) with e | e
    · rw [← hCs] at z
      obtain ⟨y, z⟩ := z
      exact I.cne y a z e
    · obtain ⟨_, o, ho, _⟩ := I.ok.funs.mem e
      exact absurd (ge a z) (Nat.not_le_of_lt (Heap.lt_size ho))
  have cz : ∀ a, Cs a → ∃ o, G2 a = some (CellO a o) ∧ s.heap.get? a = some o := fun a z => ⟨ob a, g2 a, (hob a z).1⟩
  have gn : ∀ a, Cs a → g.G a = none := fun a z => rl.gnone (n0 a z)
  have leZ : GLe g (g.sho Cs G2) := .sho rl.toRelG n0
  have rZ : RelG E (g.sho Cs G2) st (sho Cs G2 H) := RelG.sho rl.toRelG n0 fun a _ o q => q
  have rsZ : Reps E (g.sho Cs G2) ds vs := args_of co I rl leZ (fun y a e => by
    have z : Cs a := by rw [← hCs]; exact ⟨y, e⟩
    obtain ⟨h1, v, h2⟩ := hob a z
    exact ⟨ob a, v, by show sho Cs G2 g.G a = _; rw [sho_in z]; exact g2 a, h2, h1⟩) rs ea
  generalize ho : f (ds ++ dds) st = o at p
  -- the cells stand at the end as they stood
  have kc : ∀ (g' : Gh) (st' : Store) (H' : Hp), Ext (g.sho Cs G2) (foS E (g.sho Cs G2) st) (sho Cs G2 H) g' (foS E g' st') H' → ∀ a, Cs a → H' a = G2 a := fun g' st' H' e a z => by
    rw [g2 a]
    refine e.keep a _ (by rw [sho_in z]; exact g2 a) fun q => ?_
    rcases q with ⟨i, m, q1, q2⟩ | ⟨t, ht, q1⟩
    · obtain ⟨o, q3⟩ := (rl.obj i m q1).there
      have q2 : g.io i = a := q2
      rw [q2, n0 a z] at q3
      cases q3
    · obtain ⟨_, ps, z2, _⟩ := rl.tab t ht
      rw [q1, n0 a z] at z2
      cases z2
  have fin : ∀ (g' : Gh) (st' : Store) (H' : Hp) (h' : Heap), HOk X.prog X.w H' h' → st'.nc → Ext (g.sho Cs G2) (foS E (g.sho Cs G2) st) (sho Cs G2 H) g' (foS E g' st') H' → RelG E g' st' H' →
      CellSet Cs g'.G h' ∧ Ext g (foS E g st) H (g'.hid Cs) (foS E (g'.hid Cs) st') (hid Cs H') ∧ RelF E (g'.hid Cs) fr st' σ (hid Cs H') := fun g' st' H' h' hok nst e rg => by
    have cs : CellSet Cs g'.G h' := fun a z => by
      have h1 : g'.G a = some (CellO a (ob a)) := e.le.G a _ (by show sho Cs G2 g.G a = _; rw [sho_in z]; exact g2 a)
      obtain ⟨h2, _, _⟩ := hok a _ (rg.sub _ _ h1)
      obtain ⟨_, v, h3⟩ := hob a z
      exact ⟨ob a, v, h1, h3, h2⟩
    have r2 := RelG.hid cs hok rg nst
    have le2 : GLe g (g'.hid Cs) := ⟨e.le.nx, e.le.io, fun a o q => by
      have nc : ¬ Cs a := fun z => by rw [gn a z] at q; cases q
      show hid Cs g'.G a = some o
      rw [hid_out nc]
      exact e.le.G a o (by show sho Cs G2 g.G a = _; rw [sho_out nc]; exact q)⟩
    have e2 : Ext g (foS E g st) H (g'.hid Cs) (foS E (g'.hid Cs) st') (hid Cs H') := by
      refine ⟨le2, fun a o q nF => ?_, fun a o q nF z => ?_, fun a q => ?_⟩
      · have nc : ¬ Cs a := fun z => by rw [n0 a z] at q; cases q
        rw [hid_out nc]
        exact e.keep a o (by rw [sho_out nc]; exact q) nF
      · have nc : ¬ Cs a := fun z => by rw [n0 a z] at q; cases q
        show hid Cs g'.G a = none
        rw [hid_out nc]
        exact e.new a o (by rw [sho_out nc]; exact q) nF (by show sho Cs G2 g.G a = _; rw [sho_out nc]; exact z)
      · have q' : foS E g' st' a := q
        rcases e.fo a q' with y | y
        · exact .inl y
        · by_cases hc : Cs a
          · exact .inr (n0 a hc)
          · rw [sho_out hc] at y
            exact .inr y
    exact ⟨cs, e2, rl.after le2 r2⟩
  have r2v : Vals (vs ++ dvs) (us ++ dsv) := r.append hdv
  have hsp : spI E f (vs ++ dvs) (sho Cs G2 H) (fun v H' => ∃ g' d st' f', o = .ok d f' st' ∧ Ext (g.sho Cs G2) (foS E (g.sho Cs G2) st) (sho Cs G2 H) g' (foS E g' st') H' ∧ RelG E g' st' H' ∧ Rep E g' d v)
      (fun cls dx H' => ∃ g' x st' f', o = .exc x f' st' ∧ Ext (g.sho Cs G2) (foS E (g.sho Cs G2) st) (sho Cs G2 H) g' (foS E g' st') H' ∧ RelG E g' st' H' ∧ ExR E g' x cls dx) := by
    refine ⟨g.sho Cs G2, st, ds ++ dds, rZ, rsZ.dflt hd, ?_⟩
    rw [ho]
    cases o with
    | ok d f' st' => exact fun g' H' v e rg rv => ⟨g', d, st', f', rfl, e, rg, rv⟩
    | exc x f' st' => exact fun g' H' cls dx e rg q => ⟨g', x, st', f', rfl, e, rg, q⟩
    | stuck => exact p.elim
  have hl : (us ++ dsv).length = ps.length := by rw [← r2v.length]; exact F.len _ _ _ _ hsp
  refine wpAny_call (codeAny_mono (F.run X.A X.stack s (sho Cs G2 H) ⟨us, []⟩ (us ++ dsv) (vs ++ dvs) _ _ hr (env0_sho cz n0 nb nf I.env0) (hb s us I.kIn hl) r2v hsp) fun rr s' hq => ?_)
  cases rr with
  | error er =>
    refine passAt tk σ pins H s er s' I (CX_hid nf cz n0 hq fun cls dx H' B hok ⟨g', x, st', f', eo, e, rg, q⟩ => ⟨kc g' st' H' e, ?_⟩)
    subst eo
    unfold callN at p
    dsimp only at p
    split at p
    · rename_i hn
      obtain ⟨cs, e2, r2⟩ := fin g' st' H' B hok hn.2 e rg
      refine p _ _ cls dx e2 r2 ⟨q.1, q.2.imp id fun ⟨d2, xs, q1, q2, q3, q4⟩ => ⟨d2, xs, q1, hid_kp cs q2 fun ob z => (by unfold CellO at z; cases z), q3, Reps.hid cs hok rg.sub hn.1 q4⟩⟩
    · exact p.elim
  | ok fl =>
    cases fl with
    | ret u =>
      obtain ⟨v', H', os, bare, un, hok', rv, g', d, st', f', eo, e, rg, rd⟩ := hq
      subst eo
      unfold callN at p
      dsimp only at p
      split at p
      · rename_i hn
        obtain ⟨cs, e2, r2⟩ := fin g' st' H' _ hok' hn.2 e rg
        have kp := kc g' st' H' e
        have U := un_sho nf (fun a z => by
          obtain ⟨h1, _, _⟩ := hok' a _ ((kp a z).trans (g2 a))
          exact ⟨ob a, g2 a, (hob a z).1, h1⟩) n0 un
        have hok2 := hok_hid (P := X.prog) (w := X.w) (Cs := Cs) (fun a z o q => by
          rw [kp a z, g2 a] at q
          exact ⟨ob a, (Option.some.inj q).symm⟩) hok'
        exact ⟨v', _, I.call' (ch := []) os U hok2 bare (fun b z => absurd z (by simp)), rv, p _ _ e2 r2 v' (Rep.hid cs hok' rg.sub hn.1 rd)⟩
      · exact p.elim
    | next => exact False.elim hq
    | brk => exact False.elim hq
    | cont => exact False.elim hq
theorem s_callL {k : Nat} {fa : Addr} {fd : FuncData} {ps : List Str} {f : Fn} {dds : List D} {dvs : List V} {ds : List Value} {caps : Nat → Option (List Nat)} {x : Str} {p pos : Pos} {e : Expr} {es : List Expr} {ms : M (List Arg)} (F : FnOk X.prog X.w X.K X.mg X.base (L2.CX X.prog X.w) k fa fd ps (spI E f)) (hr : Room k X.A) (tk : Takes X W) (co : CapsOk E X cls caps) (hfn : ∀ y, X.fn y = true) (hm : X.mg x = some (.ref fa)) (hk : PySem.W.keepIn X.K (.ref fa) = true)
    (hb : Binds X.K fd ps ds) (hdv : Vals dvs ds) (hd : ∀ g, Reps E g dds dvs) (ha : PA X (e :: es) (tIQ E W cls ms)) (hg : Gl X x := by rfl) (hdb : (x == ("__debug__" : Str)) = false := by decide)
    (he : starEach (e :: es) X.env = (false, eval e X.env) :: starEach es X.env := by rfl) (hpl : (backTo pos (starEach es X.env)).any (·.1) = false := by rfl) : PE X (.Call (.Name x p) (e :: es) [] pos) (tI E W (mCallL f dds caps ms)) := by
  refine ⟨fun pins s σ H Q I h => ?_⟩
  obtain ⟨g, fr, st, rl, pp⟩ := h
  refine wpAny_Call_Name_kw (ld_glob I hg hm ?_ hdb)
  have hb0 := pp.bind
  refine PySem.W.callWith_K (h₀ := X.base) I.ok.mod.kin hk (thn (ha.run pos pins s σ H (fun vs H1 => ∃ g1 fr1 st1 as ds, RelF E g1 fr1 st1 σ H1 ∧ AReps E cls g1 as vs ∧ argsD caps fr1 as = some ds ∧ Post E W g1 (foS E g1 st1) H1 σ (RV E Q) (callN fr1 (f (ds ++ dds) st1))) I ⟨g, fr, st, rl, ?_⟩) fun us s1 ⟨vs, H1, I1, r, g1, fr1, st1, as, ds1, rl1, rs1, ea, p1⟩ => ⟨I1.kIn, run_lcall F hr tk hb hdv hd co hfn I1 rl1 rs1 ea r p1⟩) he hpl
  cases em : ms fr st with
  | ok as fr1 st1 =>
    rw [em] at hb0
    intro g1 H1 e1 r1 vs rs
    have t := hb0 g1 H1 e1 r1
    have tp : Post E W g1 (foS E g1 st1) H1 σ (RV E Q) (match argsD caps fr1 as with
      | some ds => callN fr1 (f (ds ++ dds) st1)
      | none => .stuck) := t.post
    cases ea : argsD caps fr1 as with
    | none => rw [ea] at tp; exact tp.elim
    | some ds => rw [ea] at tp; exact ⟨g1, fr1, st1, as, ds, r1, rs, ea, tp⟩
  | exc x fr1 st1 =>
    rw [em] at hb0
    exact hb0
  | stuck =>
    rw [em] at hb0
    exact hb0
end
end Mp
end
section
set_option maxHeartbeats 2000000
/-! Mp, part 36: repr; defs that are called where no guard stands. -/
namespace Mp
open PySem PySem.Spec PyProof.Rows L2
mutual
theorem Dp.noDict {K : PySem.W.Frag} {H : Hp} : ∀ {v : V} {d : PyData}, Dp K H v d → d.hasDict = false
  | _, _, .non => by simp only [PyData.hasDict]
  | _, _, .bl b => by simp only [PyData.hasDict]
  | _, _, .int i => by simp only [PyData.hasDict]
  | _, _, .str x => by simp only [PyData.hasDict]
  | _, _, .lst h t => by simp only [PyData.hasDict]; exact DpAll.noDict t
  | _, _, .tup h t => by simp only [PyData.hasDict]; exact DpAll.noDict t
theorem DpAll.noDict {K : PySem.W.Frag} {H : Hp} : ∀ {vs : List V} {ds : List PyData}, DpAll K H vs ds → PyData.hasDictAll ds = false
  | _, _, .nil => by simp only [PyData.hasDictAll]
  | _, _, .cons h t => by simp only [PyData.hasDictAll, Dp.noDict h, DpAll.noDict t, Bool.or_false]
end
def rRepr (K : PySem.W.Frag) : List V → Hp → VK → Prop := fun xs H Q => ∃ v p, xs = [v] ∧ (Dp K H v p ∨ ∃ a, v = .ref a ∧ H a = some (DictO a [] [] []) ∧ p = .dict []) ∧ p.showable = true ∧ p.shown.length ≤ sizeLine ∧ p.depth ≤ 60 ∧ Q (.str p.shown) H
theorem call_repr {X : Cx} (hg : X.A.guards = some []) (hu : X.A.units + 64 < cLine) : CallR X (.builtin "repr") (rRepr X.K) := by
  intro pins s σ H xs us Q I r h
  obtain ⟨v, p, rfl, hd, h1, h2, h3, q⟩ := h
  obtain ⟨u, rfl, ru⟩ := vals1 r
  have obj : ∀ (a : Addr) (as : List Addr), u = .ref a → Reads s.heap (.ref a) p as → (p.hasDict = true → sysModules ∉ as) → wpAny (model X.prog X.w) X.A (call (.builtin "repr") [u]) (EP X pins σ Q) X.xe s := fun a as e rd hsm => by
    subst e
    refine repr_of_reads' rd h1 hsm hg (by omega) (fun _ _ z => z) (fun h' t tk k => ?_) h2
    exact ⟨.str p.shown, H, I.kept (t' := tk) k, ⟨t, rfl⟩, q⟩
  rcases hd with hd | ⟨a, rfl, ha, rfl⟩
  · obtain ⟨as, rd⟩ := Dp.reads I p v u hd ru
    cases v with
    | ref a =>
      cases (show u = Value.ref a from ru)
      exact obj a as rfl rd fun z => by rw [Dp.noDict hd] at z; cases z
    | non =>
      cases hd
      cases (show u = Value.none from ru)
      exact PySem.P.repr_of_none ⟨.str _, H, I.tok _, ⟨_, rfl⟩, by simpa only [PyData.shown] using q⟩
    | bl b =>
      cases hd
      cases (show u = Value.bool b from ru)
      refine PySem.P.repr_of_bool ⟨.str _, H, I.tok _, ⟨_, rfl⟩, ?_⟩
      cases b <;> simpa only [PyData.shown] using q
    | int i =>
      cases hd
      obtain ⟨t, rfl⟩ := ru
      exact PySem.P.repr_of_int (by simpa [PyData.showable] using h1) ⟨.str _, H, I.tok _, ⟨_, rfl⟩, by simpa only [PyData.shown] using q⟩
    | str x =>
      cases hd
      obtain ⟨t, rfl⟩ := ru
      exact PySem.P.repr_of_str ⟨.str _, H, I.tok _, ⟨_, rfl⟩, by simpa only [PyData.shown] using q⟩ (by simpa only [PyData.shown] using h2)
    | _ => cases hd
  · cases (show u = Value.ref a from ru)
    obtain ⟨⟨hsys, _, o, es, ep, e1, e2, e3, e4⟩, _, _⟩ := I.hok a _ ha
    have e5 : es.toList = [] := by
      generalize es.toList = l at e4
      cases e4
      rfl
    refine obj a _ rfl (.dict e1 e2.1 e3 (as := []) (bs := []) (by rw [e5]; exact .nil) (by rw [e5]; exact .nil)) fun _ z => ?_
    have z2 : sysModules = a := by simpa using z
    rw [← z2] at hsys
    exact absurd hsys (by decide)
/-- repr(x) -/
def rprD (st : Store) : D → Option PyData
  | .dct [] [] => some (.dict [])
  | d => dataS st d
def reprB (st : Store) : List D → Option D
  | [d] => match rprD st d with
    | some p => if p.showable = true ∧ p.shown.length ≤ sizeLine ∧ p.depth ≤ 60 then some (.str p.shown) else none
    | none => none
  | _ => none
section
variable {E : SE} {W : WX} {X : Cx}
theorem repr_s (hK : X.K = E.K) : CallS E W reprB (rRepr X.K) := by
  intro g fr st σ H ds vs z Q r rs e q
  unfold reprB at e
  split at e
  · rename_i d
    split at e
    · rename_i p ep
      split at e
      · rename_i hc
        cases e
        obtain ⟨v, rfl, rv⟩ := rs.one
        refine ⟨v, p, rfl, ?_, hc.1, hc.2.1, hc.2.2, q g H (.refl ..) r _ (by simp only [Rep])⟩
        unfold rprD at ep
        split at ep
        · cases ep
          simp only [Rep] at rv
          obtain ⟨a, hs, xs, ys, rfl, h1, h2, h3, h4⟩ := rv
          simp only [Reps] at h3 h4
          subst h3 h4
          have h2 : hs = [] := h2
          subst h2
          exact .inr ⟨a, rfl, r.sub _ _ h1, rfl⟩
        · rw [hK]
          exact .inl (dataS_s r rv ep)
      · cases e
    · cases e
  · cases e
end

/-! ### where no guard stands -/
structure FnG (P : Program) (w : World) (K : PySem.W.Frag) (mg : Str → Option Value) (base : Heap) (CX : CXT) (k : Nat) (f : Addr) (fd : FuncData) (ps : List Str) (sp : Sp) : Prop where
  len : ∀ vs H Q E, sp vs H Q E → vs.length = ps.length
  run : ∀ (A : Around) (outer : List Env) (s : Shared) (H : Hp) (args : Args) (us : List Value) (vs : List V) (Q : VK) (XE : XK), A.guards = some [] → Room k A → Env0 P w K mg base A outer s H → BindsTo s fd args (ps.zip us) → Vals vs us → sp vs H Q XE → codeAny (model P w) A (.call (.ref f) args) (CR CX outer P w H s Q XE) s
theorem FnG.of {P : Program} {w : World} {K : PySem.W.Frag} {mg : Str → Option Value} {base : Heap} {CX : CXT} {k : Nat} {f : Addr} {fd : FuncData} {ps : List Str} {sp : Sp} (F : FnOk P w K mg base CX k f fd ps sp) : FnG P w K mg base CX k f fd ps sp :=
  ⟨F.len, fun A outer s H args us vs Q XE _ hr e0 hb r h => F.run A outer s H args us vs Q XE hr e0 hb r h⟩
section
variable {E : SE} {P : Program} {w : World} {K : PySem.W.Frag} {mg : Str → Option Value} {base : Heap} {qual name : Str} {params : Arguments} {body : List Stmt} {scope : Scope} {f : Addr}
/-- as fn_s, by the function's object; where no guard stands -/
theorem fn_sG {N ps : List Str} {k : Nat} {m : M Ctl} {dV kV doc pm cdv ct oc : Value} {an od : Option Addr} {osl : Array (Option Value)} (lk : K.lookup f = some ⟨oc, od, .func (PySem.W.fnOf name qual params body scope dV kV doc pm an cdv ct), osl⟩) (hcd : PySem.W.codeIn K cdv qual = true) (S : FnScope N ps scope)
    (hbody : ∀ (A : Around) (outer : List Env) (s : Shared) (H : Hp) (XE : XK), A.guards = some [] → Room k (A.deeper (envOfC qual scope s.heap.objs.size f cdv)) →
      PSs (cxOf (L2.CX P w) P w K mg base N qual scope f cdv A outer s H XE) body (tS E (fun cls d _ H => XE cls d H) m)) : FnG P w K mg base (L2.CX P w) (k + 1) f (PySem.W.fnOf name qual params body scope dV kV doc pm an cdv ct) ps (spI E (mkFn N.length ps.length m)) := by
  refine ⟨fun vs H Q XE h => ?_, fun A outer s H args us vs Q XE hg hr e0 hb r h => ?_⟩
  · obtain ⟨g, st, ds, r, rs, p⟩ := h
    rw [rs.length]
    unfold mkFn at p
    split at p
    · assumption
    · exact p.elim
  · have hl : vs.length = ps.length := by
      obtain ⟨g, st, ds, r, rs, p⟩ := h
      rw [rs.length]
      unfold mkFn at p
      split at p
      · assumption
      · exact p.elim
    refine LamX.run_ofS lk hcd S hr e0 hb r hl fun hr' => ⟨_, hbody A outer s H XE hg hr', ?_⟩
    obtain ⟨g, st, ds, r, rs, p⟩ := h
    unfold mkFn at p
    split at p
    · rename_i hl
      refine ⟨g, ds.map some ++ List.replicate (N.length - ps.length) none, st, ⟨r, ?_, fun i d e => ?_⟩, ?_⟩
      · unfold L2.start
        simp only [List.length_append, List.length_map, List.length_replicate, rs.length, hl]
      · have e1 := getQ_append_rep _ _ _ _ e
        rw [List.getElem?_map, Option.map_eq_some_iff] at e1
        obtain ⟨d', e2, e3⟩ := e1
        cases e3
        obtain ⟨v, e4, rv⟩ := rs.get e2
        refine ⟨v, ?_, rv⟩
        unfold L2.start
        rw [List.getElem?_append_left (by rw [List.length_map]; exact (List.getElem?_eq_some_iff.mp e4).1), List.getElem?_map, e4]
        rfl
      · cases e : m (ds.map some ++ List.replicate (N.length - ps.length) none) st with
        | ok c fr st' =>
          rw [e] at p
          intro g' σ' H' e' r'
          cases c with
          | nx => exact p g' H' .non e' r'.toRelG (by simp only [Rep])
          | rt d => exact fun v rv => p g' H' v e' r'.toRelG rv
          | bk => exact p.elim
          | ct => exact p.elim
        | exc x fr st' =>
          rw [e] at p
          exact fun g' σ' H' cls dx e' r' q => p g' H' cls dx e' r'.toRelG q
        | stuck =>
          rw [e] at p
          exact p.elim
    · exact p.elim
end
section
variable {E : SE} {W : WX} {X : Cx}
theorem run_fnG {CX : CXT} {k : Nat} {f : Addr} {fd : FuncData} {ps : List Str} {sp : Sp} {ds : List Value} {dvs : List V} {XE : L2.St → XK} {pins : List (Addr × Obj)} {σ : L2.St} {H : Hp} {s : Shared} {Q : VK} {us : List Value} {vs : List V} (F : FnG X.prog X.w X.K X.mg X.base CX k f fd ps sp) (hg : X.A.guards = some []) (hr : Room k X.A) (hb : Binds X.K fd ps ds) (hd : Vals dvs ds) (hx : PassesAt CX X σ (XE σ))
    (I : Inv X pins σ H s) (r : Vals vs us) (h : sp (vs ++ dvs) H Q (XE σ)) : wpAny (model X.prog X.w) X.A (call (.ref f) us) (EP X pins σ Q) X.xe s := by
  have r2 : Vals (vs ++ dvs) (us ++ ds) := r.append hd
  have hl : (us ++ ds).length = ps.length := by rw [← r2.length]; exact F.len _ _ _ _ h
  refine wpAny_call (codeAny_mono (F.run X.A X.stack s H ⟨us, []⟩ (us ++ ds) (vs ++ dvs) Q (XE σ) hg hr I.env0 (hb s us I.kIn hl) r2 h) fun r s' hq => ?_)
  cases r with
  | error e => exact hx pins H s e s' I hq
  | ok fl =>
    cases fl with
    | ret u => exact I.after hq
    | next => exact False.elim hq
    | brk => exact False.elim hq
    | cont => exact False.elim hq
theorem s_callG {k : Nat} {fa : Addr} {fd : FuncData} {ps : List Str} {f : Fn} {dds : List D} {dvs : List V} {ds : List Value} {x : Str} {p pos : Pos} {e : Expr} {es : List Expr} {ms : M (List D)} (F : FnG X.prog X.w X.K X.mg X.base (L2.CX X.prog X.w) k fa fd ps (spI E f)) (hgu : X.A.guards = some []) (hr : Room k X.A) (tk : Takes X W) (hm : X.mg x = some (.ref fa)) (hk : PySem.W.keepIn X.K (.ref fa) = true)
    (hb : Binds X.K fd ps ds) (hdv : Vals dvs ds) (hd : ∀ g, Reps E g dds dvs) (ha : PA X (e :: es) (tIA E W ms)) (hg : Gl X x := by rfl) (hdb : (x == ("__debug__" : Str)) = false := by decide)
    (he : starEach (e :: es) X.env = (false, eval e X.env) :: starEach es X.env := by rfl) (hpl : (backTo pos (starEach es X.env)).any (·.1) = false := by rfl) : PE X (.Call (.Name x p) (e :: es) [] pos) (tI E W (mCall f dds ms)) := by
  refine ⟨fun pins s σ H Q I h => ?_⟩
  refine wpAny_Call_Name_kw (ld_glob I hg hm ?_ hdb)
  refine PySem.W.callWith_K (h₀ := X.base) I.ok.mod.kin hk (thn (ha.run pos pins s σ H _ I (call_sp hd h)) fun us s1 ⟨vs, H1, I1, r, q⟩ => ⟨I1.kIn, ?_⟩) he hpl
  exact run_fnG (XE := fun σ => WE W σ) F hgu hr hb hdv (passAt tk σ) I1 r q
end
end Mp
end
section
set_option maxHeartbeats 2000000
/-! Mp, part 37: what the printed walks name. -/
namespace Mp
open PySem PySem.Spec PyProof.Rows L2
section
variable {E : SE} {W : WX} {X : Cx}
/-! ### list(range(n)), list(text) -/
def mListR (sh : Bool) (m : M D) : M D := do
  let d ← m
  match d with
  | .int n => if 0 ≤ n ∧ n ≤ 16777216 then newD sh (.lst ((List.range n.toNat).map fun (k : Nat) => D.int (0 + k))) else M.stuck
  | _ => M.stuck
theorem s_listR (sh : Bool) {a : Expr} {m : M D} {p p2 pos pos2 : Pos} (hc : X.calm = true) (hm : X.mg "list" = none) (hm2 : X.mg "range" = none) (ha : PE X a (tI E W m)) (hg : Gl X "list" := by rfl) (hg2 : Gl X "range" := by rfl)
    (na : starEach [a] X.env = (false, eval a X.env) :: starEach [] X.env := by rfl) (nb : starEach [.Call (.Name "range" p2) [a] [] pos2] X.env = (false, eval (.Call (.Name "range" p2) [a] [] pos2) X.env) :: starEach [] X.env := by rfl) :
    PE X (.Call (.Name "list" p) [.Call (.Name "range" p2) [a] [] pos2] [] pos) (tI E W (mListR sh m)) := pe_imp (pe_listRg hc hg hm (prg_1 hg2 hm2 ha na) nb) fun σ H Q h => by
  obtain ⟨g, fr, st, r, p⟩ := h
  refine tI_bind r p fun g1 fr1 st1 H1 d v t rv => ?_
  have hp := t.post
  cases d with
  | int n =>
    dsimp only at hp
    split at hp
    · rename_i hn
      simp only [Rep] at rv
      refine ⟨n, rv, RgOk.of_le (Int.le_refl _) hn.2 (by omega) hn.1, fun q hq => newD_post t.rel hp hq fun g' le => ⟨_, upd_same, ?_, ?_⟩⟩
      · rw [rgV_length, sizeLine_eq]
        omega
      · have e : (List.range n.toNat).map (fun (k : Nat) => D.int (0 + k)) = ((List.range n.toNat).map fun (k : Nat) => ((0 : Int) + k)).map D.int := by simp
        have e2 : rgV 0 n = ((List.range n.toNat).map fun (k : Nat) => ((0 : Int) + k)).map V.int := by
          unfold rgV
          rw [Int.sub_zero]
          simp
        rw [e, e2]
        exact Reps.ints _
    · exact hp.elim
  | _ => exact hp.elim
def signsD (x : Str) : List D := x.cps.toList.map fun c => D.str ⟨#[c]⟩
def mListStr (sh : Bool) (m : M D) : M D := do
  let d ← m
  match d with
  | .str x => if x.cps.size ≤ sizeLine then newD sh (.lst (signsD x)) else M.stuck
  | _ => M.stuck
def rListStr : List V → Hp → VK → Prop := fun xs H Q => ∃ x, xs = [.str x] ∧ x.cps.size ≤ sizeLine ∧ ∀ p, H p = none → Q (.ref p) (upd H p (.lst (x.cps.toList.map fun c => V.str ⟨#[c]⟩)))
theorem call_listStr (hc : X.calm = true) : CallR X (.type "list") rListStr := by
  intro pins s σ H xs us Q I r h
  obtain ⟨x, rfl, hz, q⟩ := h
  obtain ⟨u, rfl, t, rfl⟩ := vals1 r
  refine call_list_str (I.ok.hd hc) x t (fun h' tk acc' c' kp hS hA => ?_) hz
  have nS : H s.heap.objs.size = none := I.hok.fresh (Nat.le_refl _)
  refine ⟨.ref s.heap.objs.size, _, I.laid (t' := tk) (a := s.heap.objs.size) (o := .lst (x.cps.toList.map fun c => V.str ⟨#[c]⟩)) kp (Nat.le_refl _) ⟨?_, acc'.toList, c', ?_, by simpa using hS⟩, rfl, q _ nS⟩
  · simpa using hz
  · have hl : acc'.toList.length = x.cps.toList.length := by simpa using hA.1
    refine vals_of_at (by simpa using hl.symm) fun j y u e1 e2 => ?_
    rw [Array.getElem?_toList] at e2
    obtain ⟨c, t, h1, h2⟩ := hA.2 j u e2
    rw [List.getElem?_map, Array.getElem?_toList] at e1
    rw [h1] at e1
    cases e1
    subst h2
    exact ⟨t, rfl⟩
theorem Reps.signs {g : Gh} : ∀ l : List Nat, Reps E g (l.map fun c => D.str ⟨#[c]⟩) (l.map fun c => V.str ⟨#[c]⟩)
  | [] => .nil
  | c :: l => .cons (by simp only [Rep]) (Reps.signs l)
theorem s_listStr (sh : Bool) {a : Expr} {m : M D} {p pos : Pos} (hc : X.calm = true) (hm : X.mg "list" = none) (ha : PE X a (tI E W m)) (hg : Gl X "list" := by rfl) (na : starEach [a] X.env = (false, eval a X.env) :: starEach [] X.env := by rfl) :
    PE X (.Call (.Name "list" p) [a] [] pos) (tI E W (mListStr sh m)) := pe_imp (pe_callTy (call_listStr hc) hg hm boot_list (pa_cons ha pa_nil na) (by decide) (by decide) na rfl) fun σ H Q h => by
  obtain ⟨g, fr, st, r, p⟩ := h
  refine tI_bind r p fun g1 fr1 st1 H1 d v t rv => ?_
  have hp := t.post
  cases d with
  | str x =>
    dsimp only at hp
    split at hp
    · rename_i hz
      simp only [Rep] at rv
      subst rv
      exact ⟨x, rfl, hz, fun q hq => newD_post t.rel hp hq fun g' le => ⟨_, upd_same, by simpa using hz, Reps.signs _⟩⟩
    · exact hp.elim
  | _ => exact hp.elim

/-! ### names -/
/-- a global constant -/
def GloD (E : SE) (mg : Str → Option Value) (x : Str) (d : D) : Prop := ∃ (v : V) (u : Value), mg x = some u ∧ RelV v u ∧ ∀ g, Rep E g d v
theorem s_gloE {x : Str} {d : D} {pos : Pos} (h : GloD E X.mg x d) (hg : Gl X x := by rfl) (hd : (x == ("__debug__" : Str)) = false := by decide) : PE X (.Name x pos) (tI E W (M.pure d)) := by
  obtain ⟨v, u, h1, h2, h3⟩ := h
  exact s_glob hg h1 h2 h3 hd
/-- a built-in class as a value -/
theorem s_bty {x : Str} {n : String} {pos : Pos} (hm : X.mg x = none) (hv : bootBuiltins x = some (.type n)) (hg : Gl X x := by rfl) (hn : x ≠ "__name__" := by decide) (hd : (x == ("__debug__" : Str)) = false := by decide) : PE X (.Name x pos) (tI E W (M.pure (.ty n))) :=
  pe_imp (pe_bltn (v := .ty n) hg hm hv rfl hn hd) fun σ H Q h => by
    obtain ⟨g, fr, st, r, p⟩ := h
    exact p g H (.refl ..) r _ (by simp only [Rep])
def negD : D → Option D
  | .int i => some (.int (-i))
  | _ => none
def mNeg (m : M D) : M D := do
  let d ← m
  lift (negD d)
theorem s_neg {a : Expr} {m : M D} {pos : Pos} (ha : PE X a (tI E W m)) : PE X (.UnaryOp .USub a pos) (tI E W (mNeg m)) := pe_imp (pe_un un_neg ha) fun σ H Q h => by
  obtain ⟨g, fr, st, r, p⟩ := h
  refine tI_bind r p fun g1 fr1 st1 H1 d v t rv => ?_
  have hp := t.post
  unfold lift at hp
  cases d with
  | int i =>
    simp only [Rep] at rv
    exact ⟨i, rv, hp g1 H1 (.refl ..) t.rel _ (by simp only [Rep])⟩
  | _ => exact hp.elim

/-! ### defs by name -/
/-- the def x of the text keeps its mirror's promise -/
def FnE (P : Program) (w : World) (K : PySem.W.Frag) (mg : Str → Option Value) (base : Heap) (E : SE) (lev : Nat) (x : Str) (f : Fn) : Prop :=
  ∃ (fa : Addr) (fd : FuncData) (ps : List Str), FnOk P w K mg base (L2.CX P w) lev fa fd ps (spI E f) ∧ Binds K fd ps [] ∧ mg x = some (.ref fa) ∧ PySem.W.keepIn K (.ref fa) = true
theorem s_callE {k j : Nat} {f : Fn} {x : Str} {p pos : Pos} {e : Expr} {es : List Expr} {ms : M (List D)} (F : FnE X.prog X.w X.K X.mg X.base E k x f) (hr : Room j X.A) (hk : k ≤ j) (tk : Takes X W) (ha : PA X (e :: es) (tIA E W ms)) (hg : Gl X x := by rfl) (hdb : (x == ("__debug__" : Str)) = false := by decide)
    (he : starEach (e :: es) X.env = (false, eval e X.env) :: starEach es X.env := by rfl) (hpl : (backTo pos (starEach es X.env)).any (·.1) = false := by rfl) : PE X (.Call (.Name x p) (e :: es) [] pos) (tI E W (mCall f [] ms)) := by
  obtain ⟨fa, fd, ps, h1, h2, h3, h4⟩ := F
  exact s_call h1 (hr.mono hk) tk h3 h4 h2 .nil (fun _ => .nil) ha hg hdb he hpl
theorem s_callLE {k j : Nat} {f : Fn} {cls : Nat → List (Str × Addr)} {caps : Nat → Option (List Nat)} {x : Str} {p pos : Pos} {e : Expr} {es : List Expr} {ms : M (List Arg)} (F : FnE X.prog X.w X.K X.mg X.base E k x f) (hr : Room j X.A) (hk : k ≤ j) (tk : Takes X W) (co : CapsOk E X cls caps) (hfn : ∀ y, X.fn y = true) (ha : PA X (e :: es) (tIQ E W cls ms))
    (hg : Gl X x := by rfl) (hdb : (x == ("__debug__" : Str)) = false := by decide) (he : starEach (e :: es) X.env = (false, eval e X.env) :: starEach es X.env := by rfl) (hpl : (backTo pos (starEach es X.env)).any (·.1) = false := by rfl) : PE X (.Call (.Name x p) (e :: es) [] pos) (tI E W (mCallL f [] caps ms)) := by
  obtain ⟨fa, fd, ps, h1, h2, h3, h4⟩ := F
  exact s_callL h1 (hr.mono hk) tk co hfn h3 h4 h2 .nil (fun _ => .nil) ha hg hdb he hpl
/-- .. where no guard stands -/
def FnEG (P : Program) (w : World) (K : PySem.W.Frag) (mg : Str → Option Value) (base : Heap) (E : SE) (lev : Nat) (x : Str) (f : Fn) : Prop :=
  ∃ (fa : Addr) (fd : FuncData) (ps : List Str), FnG P w K mg base (L2.CX P w) lev fa fd ps (spI E f) ∧ Binds K fd ps [] ∧ mg x = some (.ref fa) ∧ PySem.W.keepIn K (.ref fa) = true
theorem FnG.mono {P : Program} {w : World} {K : PySem.W.Frag} {mg : Str → Option Value} {base : Heap} {CX : CXT} {k j : Nat} {f : Addr} {fd : FuncData} {ps : List Str} {sp : Sp} (F : FnG P w K mg base CX k f fd ps sp) (h : k ≤ j) : FnG P w K mg base CX j f fd ps sp :=
  ⟨F.len, fun A outer s H args us vs Q XE hg hr => F.run A outer s H args us vs Q XE hg (hr.mono h)⟩
theorem s_callEG {k j : Nat} {f : Fn} {x : Str} {p pos : Pos} {e : Expr} {es : List Expr} {ms : M (List D)} (F : FnEG X.prog X.w X.K X.mg X.base E k x f) (hgu : X.A.guards = some []) (hr : Room j X.A) (hk : k ≤ j) (tk : Takes X W) (ha : PA X (e :: es) (tIA E W ms)) (hg : Gl X x := by rfl) (hdb : (x == ("__debug__" : Str)) = false := by decide)
    (he : starEach (e :: es) X.env = (false, eval e X.env) :: starEach es X.env := by rfl) (hpl : (backTo pos (starEach es X.env)).any (·.1) = false := by rfl) : PE X (.Call (.Name x p) (e :: es) [] pos) (tI E W (mCall f [] ms)) := by
  obtain ⟨fa, fd, ps, h1, h2, h3, h4⟩ := F
  exact s_callG h1 hgu (hr.mono hk) tk h3 h4 h2 .nil (fun _ => .nil) ha hg hdb he hpl
end

/-! ### what a def's context gives -/
theorem cx_takes {P : Program} {w : World} {K : PySem.W.Frag} {mg : Str → Option Value} {base : Heap} {N : List Str} {qual : Str} {scope : Scope} {f : Addr} {cd : Value} {A : Around} {outer : List Env} {s : Shared} {H : Hp} {XE : XK} :
    Takes (cxOf (L2.CX P w) P w K mg base N qual scope f cd A outer s H XE) (fun cls d _ H => XE cls d H) := takes_of rfl rfl rfl rfl
theorem cx_owns {P : Program} {w : World} {K : PySem.W.Frag} {mg : Str → Option Value} {base : Heap} {N : List Str} {qual : Str} {scope : Scope} {f : Addr} {cd : Value} {A : Around} {outer : List Env} {s : Shared} {H : Hp} {XE : XK} :
    PassesOwn (model P w) (cxOf (L2.CX P w) P w K mg base N qual scope f cd A outer s H XE).A (cxOf (L2.CX P w) P w K mg base N qual scope f cd A outer s H XE).env (cxOf (L2.CX P w) P w K mg base N qual scope f cd A outer s H XE).xe := PassesOwn.leaving
end Mp
end
section
set_option maxHeartbeats 2000000
/-! Mp, part 38: the operators that the printed walks use. -/
namespace Mp
open PySem PySem.Spec PyProof.Rows L2
def eq0 (x y : D) : M D := liftS fun st => eqSB st x y
def ne0 (x y : D) : M D := liftS fun st => neSB st x y
def in0 (x y : D) : M D := liftS fun st => inSB st x y
def nin0 (x y : D) : M D := liftS fun st => ninSB st x y
def lt0 (x y : D) : M D := liftS fun _ => ltD x y
def le0 (x y : D) : M D := liftS fun _ => leD x y
def gt0 (x y : D) : M D := liftS fun _ => gtD x y
def ge0 (x y : D) : M D := liftS fun _ => geD x y
def is0 (x y : D) : M D := liftS fun _ => isD x y
def isn0 (x y : D) : M D := liftS fun _ => isnotD x y
def add0 (x y : D) : M D := liftS fun st => addS st x y
def sub0 (x y : D) : M D := liftS fun _ => subD x y
def mul0 (x y : D) : M D := liftS fun _ => mulD x y
def mod0 (x y : D) : M D := liftS fun _ => modD x y
def fdiv0 (x y : D) : M D := liftS fun _ => fdivD x y
def pow0 (x y : D) : M D := liftS fun _ => powD x y
def ix0 (x y : D) : M D := ixDct (fun x y => liftS fun st => ixS st x y) x y
def set0 (o i d : D) : M Unit := setDct setLst o i d
section
variable {E : SE} {W : WX} {X : Cx} {j : Nat}
theorem om_eq (hK : X.K = E.K) (hr : Room j X.A) : OpM X E W (compareOp .Eq) eq0 := .pure (op_eqU (by have := hr.un; omega)) (eqS_s hK)
theorem om_ne (hK : X.K = E.K) (hr : Room j X.A) : OpM X E W (compareOp .NotEq) ne0 := .pure (op_neU (by have := hr.un; omega)) (neS_s hK)
theorem om_in (hK : X.K = E.K) (hr : Room j X.A) : OpM X E W (compareOp .In) in0 := .pure (op_inV (by have := hr.un; omega)) (inS_s hK)
theorem om_nin (hK : X.K = E.K) (hr : Room j X.A) : OpM X E W (compareOp .NotIn) nin0 := .pure (op_ninV (by have := hr.un; omega)) (ninS_s hK)
theorem om_lt : OpM X E W (compareOp .Lt) lt0 := .pure op_lt (OpS.ss lt_s)
theorem om_le : OpM X E W (compareOp .LtE) le0 := .pure op_le (OpS.ss le_s)
theorem om_gt : OpM X E W (compareOp .Gt) gt0 := .pure op_gt (OpS.ss gt_s)
theorem om_ge : OpM X E W (compareOp .GtE) ge0 := .pure op_ge (OpS.ss ge_s)
theorem om_is : OpM X E W (compareOp .Is) is0 := .pure op_isN (OpS.ss is_s)
theorem om_isn : OpM X E W (compareOp .IsNot) isn0 := .pure op_notN (OpS.ss isnot_s)
theorem om_add (hK : X.K = E.K) : OpM X E W (binaryOp .Add) add0 := .pure op_addU (addS_s hK)
theorem om_sub : OpM X E W (binaryOp .Sub) sub0 := .pure op_sub (OpS.ss sub_s)
theorem om_mul : OpM X E W (binaryOp .Mult) mul0 := .pure op_mulU (OpS.ss mul_s)
theorem om_mod : OpM X E W (binaryOp .Mod) mod0 := .pure op_modN (OpS.ss mod_s)
theorem om_fdiv : OpM X E W (binaryOp .FloorDiv) fdiv0 := .pure op_fdivN (OpS.ss fdiv_s)
theorem om_pow : OpM X E W (binaryOp .Pow) pow0 := .pure op_pow (OpS.ss pow_s)
theorem im_ix (hK : X.K = E.K) (hw : X.w = E.w) (hr : Room j X.A) : IxM X E W ix0 := ix_dct hK hw (by have := hr.un; omega) (IxM.pure ix_seq (ixS_s hK))
theorem sm_set (hK : X.K = E.K) (hw : X.w = E.w) (hr : Room j X.A) : SetM X E W set0 := set_dct hK hw (by have := hr.un; omega) set_lst
theorem un16 {A : Around} (hr : Room j A) : A.units + 16 < cLine := by have := hr.un; omega
end
end Mp
end
section
set_option maxHeartbeats 2000000
/-! Mp, part 39: the law's end: from its mirror's run to the row's claim. -/
namespace Mp
open PySem PySem.Spec PyProof.Rows L2
/-- what is tracked at the law's start: the script (where the written part has it not), the empty tables -/
noncomputable def startH (K : PySem.W.Frag) (a : Addr) (so : Obj) (ns : List Int) (ts : List Addr) : Hp := fun b => if b = a then (if K.lookup a = none then some (.frz so (.lst (ns.map V.int))) else none) else if b ∈ ts then some (.tbl #[]) else none
section
variable {P : Program} {w : World} {K : PySem.W.Frag} {mg mb : Str → Option Value} {a : Addr} {ts : List (Addr × Addr)} {s₁ : Shared} {so : Obj} {vs : List Value} {ns : List Int}
theorem startH_tab {T : Addr} (hT : T ∈ ts.map (·.2)) (na : a ∉ ts.map (·.2)) : startH K a so ns (ts.map (·.2)) T = some (.tbl #[]) := by
  have n : ¬ T = a := fun z => na (z ▸ hT)
  unfold startH
  rw [if_neg n, if_pos hT]
theorem startH_inv {b : Addr} {o : HO} (e : startH K a so ns (ts.map (·.2)) b = some o) : (b = a ∧ K.lookup a = none ∧ o = .frz so (.lst (ns.map V.int))) ∨ (b ≠ a ∧ b ∈ ts.map (·.2) ∧ o = .tbl #[]) := by
  unfold startH at e
  by_cases h1 : b = a
  · rw [if_pos h1] at e
    by_cases h2 : K.lookup a = none
    · rw [if_pos h2] at e
      exact .inl ⟨h1, h2, (Option.some.inj e).symm⟩
    · rw [if_neg h2] at e
      cases e
  · rw [if_neg h1] at e
    by_cases h2 : b ∈ ts.map (·.2)
    · rw [if_pos h2] at e
      exact .inr ⟨h1, h2, (Option.some.inj e).symm⟩
    · rw [if_neg h2] at e
      cases e
/-- THE END: the law's def, run by its mirror from an empty store -/
theorem law_endG {k : Nat} {fa : Addr} {fd : FuncData} {x : Str} {f : Fn} {E : SE}
    (hK : K = E.K) (inK : K.In s₁.heap) (gNs : s₁.heap.Ns mainGlobals mg) (bNs : s₁.heap.Ns builtinsNs mb) (bB : ∀ y : Str, y ≠ "__name__" → mb y = bootBuiltins y) (noL : s₁.heap.NoLimit) (noG : s₁.gens = #[])
    (tE : ∀ p ∈ ts, s₁.heap.get? p.2 = some { cls := .none, data := .fields #[] }) (tN : ∀ p ∈ ts, K.lookup p.2 = none) (tC : ∀ p ∈ ts, PySem.W.CodeHd s₁.heap p.1 p.2)
    (bm : ∃ (m : Addr) (o : Obj), mg "__builtins__" = some (.ref m) ∧ m ≠ builtinsNs ∧ s₁.heap.get? m = some o ∧ o.cls = .type "module" ∧ o.dict = some builtinsNs ∧ o.data = .plain)
    (hs : s₁.heap.get? a = some { cls := .type "list", data := .seq vs.toArray }) (hi : IntsAre vs ns) (hl : ns.length ≤ sizeLine) (room : Room k callerA)
    (tb : ∀ p ∈ E.tb, p.1 ∈ ts.map (·.2))
    (F : ∀ base : Heap, K.In base → base.Ns mainGlobals mg → (∀ p ∈ ts, LamX.TabB base mg p.1 p.2) → FnG P w K mg base (L2.CX P w) k fa fd [x] (spI E f)) (bd : ∀ (s : Shared) (u : Value), BindsTo s fd ⟨[u], []⟩ [(x, u)])
    (run : ∃ st', f [.scr ns] ⟨fun _ => none, 0⟩ = .ok (.bl true) [] st') :
    codeAny (model P w) callerA (.call (.ref fa) ⟨[.ref a], []⟩) (fun r s' => r = .ok (.ret (.bool true)) ∧ OldK s₁.heap s'.heap ∧ s'.os = s₁.os ∧ AllBare s'.gens) s₁ := by
  have hvals := vals_ints hi
  have hlen := hi.length
  have aOut : a ∉ ts.map (·.2) := fun z => by
    obtain ⟨p, hp, ep⟩ := List.mem_map.mp z
    have q := tE p hp
    rw [ep, hs] at q
    cases q
  generalize hso : ({ cls := .type "list", data := .seq vs.toArray } : Obj) = so at hs
  generalize hH : startH K a so ns (ts.map (·.2)) = H
  have tabObjAt : ∀ {b}, b ∈ ts.map (·.2) → s₁.heap.get? b = some { cls := .none, data := .fields #[] } := fun {b} hb => by
    obtain ⟨p, hp, ep⟩ := List.mem_map.mp hb
    exact ep ▸ tE p hp
  -- an object of another kind is not tracked
  have other : ∀ {b o}, s₁.heap.get? b = some o → o ≠ so → o ≠ { cls := .none, data := .fields #[] } → H b = none := fun {b o} e n1 n2 => by
    cases q : H b with
    | none => rfl
    | some u =>
      rw [← hH] at q
      rcases startH_inv q with ⟨rfl, _, _⟩ | ⟨_, hb, _⟩
      · rw [hs] at e
        exact absurd (Option.some.inj e).symm n1
      · rw [tabObjAt hb] at e
        exact absurd (Option.some.inj e).symm n2
  have dictH : ∀ {b o es ep}, s₁.heap.get? b = some o → o.data = .dict es ep → H b = none := fun {b o es ep} e d => other e (fun z => by rw [z, ← hso] at d; cases d) fun z => by rw [z] at d; cases d
  have nsB : ∀ {b : Addr} {m : Str → Option Value}, s₁.heap.Ns b m → (hidT s₁.heap H).Ns b m := fun ⟨o, es, ep, e, d, rest⟩ => ⟨o, es, ep, hidT_get e (dictH e d), d, rest⟩
  have inB : K.In (hidT s₁.heap H) := fun b o e => hidT_get (inK b o e) <| by
    cases q : H b with
    | none => rfl
    | some u =>
      rw [← hH] at q
      rcases startH_inv q with ⟨rfl, n, _⟩ | ⟨_, hb, _⟩
      · rw [n] at e
        cases e
      · obtain ⟨p, hp, ep⟩ := List.mem_map.mp hb
        rw [← ep, tN p hp] at e
        cases e
  have okH : HOk P w H s₁.heap := fun b u q => by
    rw [← hH] at q
    rcases startH_inv q with ⟨rfl, _, rfl⟩ | ⟨_, hb, rfl⟩
    · subst hso
      exact ⟨hs, by rw [List.length_map]; exact hl, vs, _, hvals, hs⟩
    · exact tabObjAt hb
  have tbB : ∀ p ∈ ts, LamX.TabB (hidT s₁.heap H) mg p.1 p.2 := fun p hp => by
    constructor
    · obtain ⟨o, us, fl, tf, gs, tg, inf, tx, tt, q1, q2, q3, q4, rest⟩ := tC p hp
      refine ⟨o, us, fl, tf, gs, tg, inf, tx, tt, hidT_get q1 (other q1 (fun z => ?_) fun z => ?_), q2, q3, q4, rest⟩
      · rw [z, ← hso] at q3
        cases q3
      · rw [z] at q3
        cases q3
        simp at q4
    · obtain ⟨m, o, q1, q2, q3, q4, q5, q6⟩ := bm
      refine ⟨m, o, q1, q2, fun z => ?_, fun z => ?_, hidT_get q3 (other q3 (fun z => ?_) fun z => ?_), q4, q5, q6⟩
      · obtain ⟨o2, es, ep, e, d, _⟩ := gNs
        rw [z, e] at q3
        cases q3
        rw [d] at q6
        cases q6
      · rw [z, tE p hp] at q3
        cases q3
        cases q6
      · rw [z, ← hso] at q6
        cases q6
      · rw [z] at q6
        cases q6
    · intro z
      obtain ⟨o, es, ep, e, d, _⟩ := gNs
      rw [z, tE p hp] at e
      cases e
      cases d
  have modB : L2.Mod K mg (hidT s₁.heap H) := ⟨inB, nsB gNs, ⟨mb, nsB bNs, bB⟩, noL.elim fun mc z => ⟨mc, nsB z.1, z.2⟩⟩
  have env : Env0 P w K mg (hidT s₁.heap H) callerA [] s₁ H := { frames := rfl, mod := modB, bs := fun b o e => of_hidT e, bsz := Nat.le_of_eq (hidT_size _ _), funs := trivial, frf := fun b hb => (nomatch hb), hok := okH, bare := .of_eq noG }
  -- the mirror's start
  obtain ⟨st', hrun⟩ := run
  have sp0 : spI E f [.ref a] H (fun v _ => v = .bl true) (fun _ _ _ => False) := by
    refine ⟨⟨fun _ => 0, 0, fun b => if b = a then H a else none⟩, ⟨fun _ => none, 0⟩, [.scr ns], ⟨fun b o e => ?_, rfl, fun n m e => (nomatch e), fun n m e => (nomatch e), fun n m e => (nomatch e), fun n m k l e => (nomatch e), fun p hp => ?_⟩, .cons ?_ .nil, ?_⟩
    · have e : (if b = a then H a else none) = some o := e
      by_cases hb : b = a
      · subst hb
        rw [if_pos rfl] at e
        exact e
      · rw [if_neg hb] at e
        cases e
    · have hb := tb p hp
      refine ⟨if_neg fun (z : p.1 = a) => aOut (by rw [← z]; exact hb), #[], by rw [← hH]; exact startH_tab hb aOut, ?_, fun pos cv z => ?_⟩
      · exact True.intro
      · cases z
    · simp only [Rep]
      refine ⟨a, rfl, ?_, hl⟩
      cases hk : K.lookup a with
      | some o =>
        have q := inK a o hk
        rw [hs] at q
        cases q
        subst hso
        exact .inr ⟨_, vs.toArray, _, by rw [← hK]; exact hk, rfl, rfl, rfl, by rw [List.size_toArray, hlen]; exact hl, by simpa using hvals⟩
      | none =>
        refine .inl (.inr ⟨so, ?_⟩)
        show (if a = a then H a else none) = _
        rw [if_pos rfl, ← hH]
        unfold startH
        rw [if_pos rfl, if_pos hk]
    · rw [hrun]
      intro g' H' v _ _ rv
      simpa only [Rep] using rv
  refine codeAny_mono ((F _ inB (nsB gNs) tbB).run callerA [] s₁ H ⟨[.ref a], []⟩ [.ref a] [.ref a] _ _ rfl room env (bd s₁ (.ref a)) (.cons rfl .nil) sp0) fun r s' h => ?_
  cases r with
  | error e =>
    obtain ⟨_, _, _, _, _, _, _, _, _, _, _, _, h⟩ := h
    exact h.elim
  | ok c =>
    cases c with
    | ret u =>
      obtain ⟨v, H', ho, hba, un, ok', rv, hv⟩ := h
      subst hv
      cases (show u = Value.bool true from rv)
      have same : ∀ {b o}, s₁.heap.get? b = some o → b ∉ ts.map (·.2) → s'.heap.get? b = some o := fun {b o} e nb => by
        cases q : H b with
        | none => exact un.keep b o e q (by intro z; cases z) (by intro z; cases z)
        | some x =>
          have q0 := q
          rw [← hH] at q
          rcases startH_inv q with ⟨rfl, _, rfl⟩ | ⟨_, hb, _⟩
          · have q2 := (ok' b _ (un.frzs b so _ q0)).1
            rw [hs] at e
            cases e
            exact q2
          · exact absurd hb nb
      have more : ∀ p ∈ ts, ∃ ws : Array Value, s'.heap.get? p.2 = some { cls := .none, data := .fields ws } := fun p hp => by
        obtain ⟨ws, q⟩ := un.tbls p.2 #[] (by rw [← hH]; exact startH_tab (List.mem_map.mpr ⟨p, hp, rfl⟩) aOut)
        exact ⟨_, ok' _ _ q⟩
      have split : ∀ {b o}, s₁.heap.get? b = some o → (s'.heap.get? b = some o) ∨ ∃ p ∈ ts, p.2 = b ∧ o = { cls := .none, data := .fields #[] } := fun {b o} e => by
        by_cases hb : b ∈ ts.map (·.2)
        · obtain ⟨p, hp, ep⟩ := List.mem_map.mp hb
          rw [tabObjAt hb] at e
          exact .inr ⟨p, hp, ep, (Option.some.inj e).symm⟩
        · exact .inl (same e hb)
      refine ⟨rfl, ⟨fun b o e => ?_, fun b o e => ?_⟩, ho, hba⟩
      · rcases split e with q | ⟨p, hp, rfl, rfl⟩
        · exact .inl q
        · obtain ⟨ws, q⟩ := more p hp
          exact .inr (.inl ⟨((tC p hp).tab (tE p hp)).isCodeTable, rfl, #[], ws, rfl, by simpa using q⟩)
      · rcases split e with q | ⟨p, hp, rfl, rfl⟩
        · exact ⟨_, q⟩
        · obtain ⟨ws, q⟩ := more p hp
          exact ⟨_, q⟩
    | next => exact False.elim h
    | brk => exact False.elim h
    | cont => exact False.elim h
end
end Mp
end
section
set_option maxHeartbeats 2000000
/-! Mp, part 40: what the head must tell, as computations on the written part. -/
namespace Mp
open PySem PySem.Spec PyProof.Rows L2
/-! ### addresses by names -/
abbrev NmT := List (Str × (Str × Option Str))
def adrF (T : NmT) (K : PySem.W.Frag) (x : Str) : Addr := match T.lookup x with
  | some p => He.fAd K p
  | none => 0
theorem adrF_eq {T : NmT} {K : PySem.W.Frag} {x : Str} {p : Str × Option Str} (h : T.lookup x = some p) : adrF T K x = He.fAd K p := by
  unfold adrF
  rw [h]
/-! ### facts -/
section
variable {K : PySem.W.Frag} {C f : Addr} {x m : Str} {v : Value}
theorem deq {p : Prop} [Decidable p] (h : decide p = true) : p := of_decide_eq_true h
def gloB (K : PySem.W.Frag) (x : Str) (u : Value) : Bool := decide (PySem.W.nsIn K mainGlobals x = some (some u))
theorem gloB_ok {h : Heap} {mg : Str → Option Value} (X : K.In h) (G : h.Ns mainGlobals mg) {u : Value} (e : gloB K x u = true) : mg x = some u := PySem.W.mg_of X G (deq e)
def clsB (K : PySem.W.Frag) (C : Addr) : Bool := PySem.W.plainGet K C Str.empty && PySem.W.hasDictIn K C && PySem.W.plainOver K C && decide (PySem.W.findIn K (.ref C) "__setattr__" = some (some (.builtin "object.__setattr__")))
theorem clsB_ok (h : clsB K C = true) : Cls K C := by
  unfold clsB at h
  simp only [Bool.and_eq_true, decide_eq_true_eq] at h
  exact ⟨h.1.1.1, h.1.1.2, h.1.2, h.2⟩
def noatB (K : PySem.W.Frag) (C : Addr) (f : Str) : Bool := decide (PySem.W.findIn K (.ref C) f = some none)
theorem noatB_ok {f : Str} (h : noatB K C f = true) : PySem.W.findIn K (.ref C) f = some none := deq h
def methB (K : PySem.W.Frag) (C : Addr) (m : Str) (f : Addr) : Bool := decide (PySem.W.findIn K (.ref C) m = some (some (.ref f))) && PySem.W.isFn K (.ref f) && PySem.W.keepIn K (.ref f)
theorem methB_ok (h : methB K C m f = true) : Meth K C m f := by
  unfold methB at h
  simp only [Bool.and_eq_true, decide_eq_true_eq] at h
  exact ⟨h.1.1, h.1.2, h.2⟩
def mkB (K : PySem.W.Frag) (C f : Addr) : Bool := PySem.W.makesIn K C && decide (PySem.W.findIn K (.ref C) "__init__" = some (some (.ref f))) && PySem.W.isFn K (.ref f) && PySem.W.keepIn K (.ref C)
theorem mkB_ok (h : mkB K C f = true) : Mk K C f := by
  unfold mkB at h
  simp only [Bool.and_eq_true, decide_eq_true_eq] at h
  exact ⟨h.1.1.1, h.1.1.2, h.1.2, h.2⟩
def clsIB (K : PySem.W.Frag) (C : Addr) : Bool := clsB K C && decide (PySem.W.findIn K (.ref C) "__class__" = some (some (.builtin "object.__class__"))) && decide (PySem.W.specialIn K (.builtin "object.__class__") "__get__" = some (some (.builtin "getset_descriptor.__get__"))) && decide (PySem.W.takesIn K (.builtin "object.__class__") = some true) && decide (PySem.W.mroIn K C (.type "object") = some true)
theorem clsIB_ok (h : clsIB K C = true) : ClsI K C := by
  unfold clsIB at h
  simp only [Bool.and_eq_true, decide_eq_true_eq] at h
  exact ⟨clsB_ok h.1.1.1.1, h.1.1.1.2, h.1.1.2, h.1.2, h.2⟩
def excCB (K : PySem.W.Frag) (C : Addr) : Bool := decide (PySem.W.findIn K (.ref C) "__getattribute__" = some (some (.builtin "BaseException.__getattribute__"))) && decide (PySem.W.findIn K (.ref C) "__getattr__" = some none) && decide (PySem.W.subIn K (.ref C) (.type "BaseException") = some true) && PySem.W.hasDictIn K C && decide (PySem.W.findIn K (.ref C) "__class__" = some (some (.builtin "object.__class__"))) && decide (PySem.W.specialIn K (.builtin "object.__class__") "__get__" = some (some (.builtin "getset_descriptor.__get__"))) && decide (PySem.W.takesIn K (.builtin "object.__class__") = some true) && decide (PySem.W.mroIn K C (.type "object") = some true)
theorem excCB_ok (h : excCB K C = true) : ExcC K C := by
  unfold excCB at h
  simp only [Bool.and_eq_true, decide_eq_true_eq] at h
  exact ⟨h.1.1.1.1.1.1.1, h.1.1.1.1.1.1.2, h.1.1.1.1.1.2, h.1.1.1.1.2, h.1.1.1.2, h.1.1.2, h.1.2, h.2⟩
def er0B (K : PySem.W.Frag) (C : Addr) : Bool := PySem.W.excIn K C He.veBase "ValueError.__new__" && PySem.W.keepIn K (.ref C) && decide (PySem.W.subIn K (.ref C) (.type "BaseException") = some true) && decide (PySem.W.typeIn K (.ref C) = some (.type "type"))
theorem er0B_ok (h : er0B K C = true) : Er0 K C := by
  unfold er0B at h
  simp only [Bool.and_eq_true, decide_eq_true_eq] at h
  exact ⟨⟨_, PySem.F.excBase_ValueError, h.1.1.1⟩, h.1.1.2, h.1.2, h.2⟩
def pinB (K : PySem.W.Frag) (P : Addr) : Bool := decide (PySem.W.specialIn K (.ref P) "__getattribute__" = some (some (.builtin "type.__getattribute__"))) && decide (PySem.W.typeIn K (.ref P) = some (.type "type")) && PySem.W.readsIn K P (.type "type") && (match PySem.W.findCls K (.ref P) (.type "type") "__init__" with
  | some (.val (.builtin n)) => decide (n = "ValueError.__init__")
  | _ => false)
theorem pinB_ok {P : Addr} (h : pinB K P = true) : PIn K P := by
  unfold pinB at h
  simp only [Bool.and_eq_true, decide_eq_true_eq] at h
  obtain ⟨⟨⟨h1, h2⟩, h3⟩, h4⟩ := h
  refine ⟨h1, h2, h3, ?_⟩
  split at h4
  · rename_i n e
    rw [e, of_decide_eq_true h4]
  · cases h4
def oexcB (K : PySem.W.Frag) (C : Addr) : Bool := (match K.lookup C with
  | some ⟨.type t, _, .cls cd, sl⟩ => decide (t = "type") && (match cd.mro with
    | .ref D :: bm => decide (D = C) && PySem.HandSPX.refsVE bm
    | _ => false) && cd.hasDict && !cd.hasDel && (match sl.toList with
    | [_, _, _, _, some (.builtin n), _] => decide (n = "ValueError.__new__")
    | _ => false)
  | _ => false) && decide (PySem.W.findIn K (.ref C) "__setattr__" = some (some (.builtin "object.__setattr__"))) && decide (PySem.W.subIn K (.ref C) (.type "BaseException") = some true) && decide (PySem.W.typeIn K (.ref C) = some (.type "type")) && PySem.W.keepIn K (.ref C)
theorem oexcB_ok (h : oexcB K C = true) : OexC K C := by
  unfold oexcB at h
  simp only [Bool.and_eq_true, decide_eq_true_eq] at h
  obtain ⟨⟨⟨⟨h1, h2⟩, h3⟩, h4⟩, h5⟩ := h
  refine ⟨?_, h2, h3, h4, h5⟩
  split at h1
  · rename_i t dd cd sl e
    simp only [Bool.and_eq_true, decide_eq_true_eq, Bool.not_eq_true'] at h1
    obtain ⟨⟨⟨⟨q1, q2⟩, q3⟩, q4⟩, q5⟩ := h1
    obtain ⟨nm, bs, mro, N, q, hd, sn, sub, ab, col, dl⟩ := cd
    dsimp only at q2 q3 q4
    subst q1 q3 q4
    split at q2
    · rename_i D bm
      simp only [Bool.and_eq_true, decide_eq_true_eq] at q2
      obtain ⟨rfl, q2⟩ := q2
      split at q5
      · rename_i k0 k1 k2 k3 n k5 es
        have q5 := of_decide_eq_true q5
        subst q5
        refine ⟨nm, q, N, bs, bm, sn, sub, ab, col, dd, k0, k1, k2, k3, k5, ?_, q2⟩
        rw [e]
        have : sl = #[k0, k1, k2, k3, some (.builtin "ValueError.__new__"), k5] := by
          rw [← Array.toList_inj, es]
        rw [this]
      · cases q5
    · cases q2
  · cases h1
end
section
variable {E : SE}
def attrB (K : PySem.W.Frag) (ad : Str → Addr) (f : Str) (cs : List Str) : Bool := cs.all fun C => clsB K (ad C) && noatB K (ad C) f
theorem attrB_ok {f : Str} {cs : List Str} (h : attrB E.K E.adr f cs = true) : AttrOk E f cs := fun C hC => by
  have z := List.all_eq_true.mp h C hC
  simp only [Bool.and_eq_true] at z
  exact ⟨clsB_ok z.1, noatB_ok z.2⟩
def attrEB (K : PySem.W.Frag) (ad : Str → Addr) (f : Str) (cs : List Str) : Bool := cs.all fun C => xfB K (ad C) && noatB K (ad C) f
theorem attrEB_ok {f : Str} {cs : List Str} (h : attrEB E.K E.adr f cs = true) : AttrEOk E f cs := fun C hC => by
  have z := List.all_eq_true.mp h C hC
  simp only [Bool.and_eq_true] at z
  exact ⟨xfB_ok z.1, noatB_ok z.2⟩
def catB (K : PySem.W.Frag) (ad : Str → Addr) (c : Value) (cat : List (Str × Bool)) : Bool := cat.all fun p => decide (PySem.W.exmOne K (.ref (ad p.1)) c = some p.2)
theorem lookup_memS {α β : Type} [BEq α] [LawfulBEq α] {a : α} {b : β} : ∀ {l : List (α × β)}, l.lookup a = some b → (a, b) ∈ l
  | [], h => by cases h
  | (c, d) :: l, h => by
    rw [List.lookup_cons] at h
    cases q : a == c with
    | true =>
      rw [q] at h
      rw [eq_of_beq q, ← Option.some.inj h]
      exact List.mem_cons_self
    | false =>
      rw [q] at h
      exact List.mem_cons_of_mem _ (lookup_memS h)
theorem catB_ok {c : Value} {cat : List (Str × Bool)} (h : catB E.K E.adr c cat = true) : CatOk E c cat := fun C b e => by
  exact deq (List.all_eq_true.mp h _ (lookup_memS e))
def tgV (ad : Str → Addr) : Tg → Value
  | .ty n => .type n
  | .own C => .ref (ad C)
  | .err C => .ref (ad C)
theorem tgV_eq (t : Tg) : tgV E.adr t = t.val E := by cases t <;> rfl
def tgB (K : PySem.W.Frag) (ad : Str → Addr) : Tg → Bool
  | .ty _ => true
  | .own C => clsIB K (ad C)
  | .err C => excCB K (ad C)
def isiBk (K : PySem.W.Frag) (ad : Str → Addr) (l : List ((Tg × Tg) × Bool)) : Bool := l.all fun p => decide (PySem.W.kitOne K (tgV ad p.1.1) (tgV ad p.1.2) = some p.2) && tgB K ad p.1.1
theorem isiBk_ok {l : List ((Tg × Tg) × Bool)} (h : isiBk E.K E.adr l = true) : IsiOk E fun t c => l.lookup (t, c) := by
  have key : ∀ t c b, l.lookup (t, c) = some b → PySem.W.kitOne E.K (t.val E) (c.val E) = some b ∧ tgB E.K E.adr t = true := fun t c b e => by
    have z := List.all_eq_true.mp h _ (lookup_memS e)
    simp only [Bool.and_eq_true, decide_eq_true_eq, tgV_eq] at z
    exact z
  exact ⟨fun t c b e => (key t c b e).1, fun C c b e => clsIB_ok (key _ c b e).2, fun C c b e => excCB_ok (key _ c b e).2⟩
def nfBk (K : PySem.W.Frag) (ad : Str → Addr) (l : List (Str × Tg)) : Bool := l.all fun p => PySem.W.notFirst K (ad p.1) (tgV ad p.2) && tgB K ad p.2
theorem nfBk_ok {l : List (Str × Tg)} (h : nfBk E.K E.adr l = true) : NfOk E fun C t => l.contains (C, t) := fun C t e => by
  have z := List.all_eq_true.mp h _ (List.contains_iff_mem.mp e)
  simp only [Bool.and_eq_true, tgV_eq] at z
  exact ⟨z.1, fun D e => by subst e; exact clsIB_ok z.2, fun D e => by subst e; exact excCB_ok z.2⟩
def neBk (K : PySem.W.Frag) (ad : Str → Addr) (cs : List Str) : Bool := cs.all fun C => decide (PySem.W.findIn K (.ref (ad C)) "__ne__" = some (some (.builtin "object.__ne__"))) && decide (PySem.W.mroIn K (ad C) (.type "object") = some true)
theorem neB_ok {cs : List Str} {tab : MTab} (e : tab.map (·.1) = cs) (h : neBk E.K E.adr cs = true) : NeOk E tab := fun C m hm => by
  have z := List.all_eq_true.mp h C (by rw [← e]; exact List.mem_map_of_mem (lookup_memS hm))
  simp only [Bool.and_eq_true, decide_eq_true_eq] at z
  exact z
/-! ### constants -/
theorem gloD_str {K : PySem.W.Frag} {mg : Str → Option Value} {h : Heap} (X : K.In h) (G : h.Ns mainGlobals mg) {x z : Str} (c : (He.Fa.str x z).ok K = true) : GloD E mg x (.str z) := by
  obtain ⟨t, e⟩ := He.str_ok X G c
  exact ⟨.str z, _, e, ⟨t, rfl⟩, fun g => by simp only [Rep]⟩
theorem gloD_int {K : PySem.W.Frag} {mg : Str → Option Value} {h : Heap} (X : K.In h) (G : h.Ns mainGlobals mg) {x : Str} {i : Int} (c : (He.Fa.int x i).ok K = true) : GloD E mg x (.int i) := by
  obtain ⟨t, e⟩ := He.int_ok X G c
  exact ⟨.int i, _, e, ⟨t, rfl⟩, fun g => by simp only [Rep]⟩
theorem gloD_fn {mg : Str → Option Value} {x : Str} (e : mg x = some (.ref (E.adr x))) : GloD E mg x (.fn x) := ⟨.ref (E.adr x), _, e, rfl, fun g => by simp only [Rep]⟩
/-- flat data -/
def dvD : D → He.Dv
  | .bl b => .bl b
  | .int i => .int i
  | .str x => .str x
  | _ => .non
theorem reps_flat {g : Gh} {K : PySem.W.Frag} : ∀ {ds : List D}, ds.all D.flat = true → Reps E g ds ((ds.map dvD).map (He.Dv.v K))
  | [], _ => .nil
  | d :: ds, h => by
    rw [List.all_cons, Bool.and_eq_true] at h
    refine .cons ?_ (reps_flat h.2)
    cases d <;> first | exact absurd h.1 Bool.false_ne_true | (simp only [dvD, He.Dv.v, Rep])
theorem gloD_tup {mg : Str → Option Value} {x : Str} {ds : List D} (fl : ds.all D.flat = true) (hz : ds.length ≤ sizeLine) (e : mg x = some (.ref (He.ga E.K x))) (c : He.tupB E.K x (ds.map dvD) = true) : GloD E mg x (.tup ds) :=
  ⟨.ref (He.ga E.K x), _, e, rfl, fun g => by
    simp only [Rep]
    exact ⟨_, _, rfl, He.tupB_ok c g.G, by rw [List.length_map, List.length_map]; exact hz, reps_flat fl⟩⟩
end
/-! ### the end -/
/-- what the walk needs of the law at the head's heap -/
structure LawG (l : PySem.W.OpenLaw) (w : World) (n k : Nat) (x : Str) (mg : Str → Option Value) (fa : Addr) (h : Heap) : Prop where
  ex : ∃ (K : PySem.W.Frag) (E : SE) (ts : List (Addr × Addr)) (fd : FuncData) (f : Fn), K.In h ∧ K = E.K ∧ (∀ p ∈ ts, h.get? p.2 = some { cls := .none, data := .fields #[] }) ∧ (∀ p ∈ ts, K.lookup p.2 = none) ∧ (∀ p ∈ ts, PySem.W.CodeHd h p.1 p.2) ∧ (∀ p ∈ E.tb, p.1 ∈ ts.map (·.2)) ∧
    (∀ base : Heap, K.In base → base.Ns mainGlobals mg → (∀ p ∈ ts, LamX.TabB base mg p.1 p.2) → FnG l.prog w K mg base (L2.CX l.prog w) k fa fd [x] (spI E f)) ∧ (∀ (s : Shared) (u : Value), BindsTo s fd ⟨[u], []⟩ [(x, u)]) ∧
    ∀ ns : List Int, ns.length ≤ n → (∀ z ∈ ns, Builtin.Int.intBits z ≤ 1048576) → ∃ st', f [.scr ns] ⟨fun _ => none, 0⟩ = .ok (.bl true) [] st'
theorem walk_G {l : PySem.W.OpenLaw} {n k : Nat} {q : Program} {loose : List Str} {XP : (Str → Option Value) → Heap → Prop} {YP : World → Heap → Prop} {d : DefRec} {x : Str}
    (hn : l.most = some n) (hn2 : n ≤ sizeLine) (hdf : d.params.defaults = []) (hr : Room k callerA)
    (F : ∀ (w : World) (mg : Str → Option Value) (fa : Addr) (h : Heap), YP w h → h.Ns mainGlobals mg → mg d.name = some (.ref fa) → LawG l w n k x mg fa h) :
    PySem.W.WalkO q loose XP YP l.row.toRowW d [] (fun f vs => PySem.call f vs) := by
  refine Att.attach_callB hn hdf fun w s₀ s₁ mg mb fa o pm cd doc a vs ns gr y ho hd hcd hmg hs hi hlen hbits hg => ?_
  obtain ⟨K, E, ts, fd, f, q1, q2, q3, q4, q5, q6, q7, q8, q9⟩ := (F w mg fa _ y gr.T.g hmg).ex
  exact law_endG q2 q1 gr.T.g gr.T.b gr.T.builtins gr.T.nolimit hg q3 q4 q5 gr.T.bmain hs hi (Nat.le_trans hlen hn2) hr q6 q7 q8 (q9 ns hlen hbits)
end Mp
end
section
set_option maxHeartbeats 2000000
/-! Mp, part 41: places in a text; lambdas made. -/
namespace Mp
open PySem PySem.Spec PyProof.Rows L2
/-! ### places -/
def noS : Stmt := .Pass ⟨0, 0, 0, 0⟩
def noE : Expr := .Constant .none 0 ⟨0, 0, 0, 0⟩
def sBody : Stmt → List Stmt
  | .FunctionDef _ _ b _ _ _ _ _ _ _ => b
  | .ClassDef _ _ _ b _ _ _ _ _ _ _ => b
  | .For _ _ b _ _ => b
  | .While _ b _ _ => b
  | .If _ b _ _ => b
  | .Try b _ _ _ _ => b
  | .With _ b _ => b
  | _ => []
def sElse : Stmt → List Stmt
  | .For _ _ _ b _ => b
  | .While _ _ b _ => b
  | .If _ _ b _ => b
  | .Try _ _ b _ _ => b
  | _ => []
def sKids : Stmt → List Expr
  | .Return (some v) _ => [v]
  | .Assign ts v _ => v :: ts
  | .Expr v _ => [v]
  | .If t _ _ _ => [t]
  | .While t _ _ _ => [t]
  | .For t i _ _ _ => [i, t]
  | .Raise (some e) _ _ => [e]
  | _ => []
def eKids : Expr → List Expr
  | .BoolOp _ vs _ => vs
  | .BinOp l _ r _ => [l, r]
  | .UnaryOp _ e _ => [e]
  | .IfExp t b o _ => [t, b, o]
  | .Compare l _ cs _ => l :: cs
  | .Call f as ks _ => f :: (as ++ ks.map (·.value))
  | .Attribute v _ _ => [v]
  | .Subscript v s _ => [v, s]
  | .List es _ => es
  | .Tuple es _ _ => es
  | .Lambda _ b _ _ => [b]
  | .Starred v _ => [v]
  | .ListComp e gs _ _ => e :: gs.flatMap fun g => g.iter :: g.ifs
  | _ => []
abbrev stB (s : Stmt) (i : Nat) : Stmt := (sBody s).getD i noS
abbrev stO (s : Stmt) (i : Nat) : Stmt := (sElse s).getD i noS
abbrev stE (s : Stmt) (i : Nat) : Expr := (sKids s).getD i noE
abbrev exE (e : Expr) (i : Nat) : Expr := (eKids e).getD i noE
def lamArgs : Expr → Arguments
  | .Lambda a _ _ _ => a
  | _ => ⟨[], [], none, [], [], none, []⟩
def lamBody : Expr → Expr
  | .Lambda _ b _ _ => b
  | e => e
def lamScope : Expr → Scope
  | .Lambda _ _ s _ => s
  | _ => ⟨.function, [], false, false, []⟩
def nmE (a b : Str) (c : Option Str) : Str × (Str × Option Str) := (a, (b, c))
theorem boot_ValueError : bootBuiltins "ValueError" = some (.type "ValueError") := by rfl
/-! ### the head's look, the C statics too -/
def asM (g : Addr → Option Obj) (n : Nat) : List Addr := cStatics :: He.asD g n
def KM (g : Addr → Option Obj) (n : Nat) : PySem.W.Frag := He.frT g (asM g n)
abbrev AlM : Type := He.AlD × Bool
def obsM (n : Nat) (fn : List He.DefD) (tf : List He.Defn) (ex : PySem.W.Frag → Bool) (g : Addr → Option Obj) : AlM := (He.obsD [] fn (KM g n), ex (KM g n) && He.tabsB g tf (KM g n))
/-- what is told of a part K of the heap: the defs, the computation ex, the tables: empty, not in K -/
structure SaysM (fn : List He.DefD) (tf : List He.Defn) (ex : PySem.W.Frag → Bool) (h : Heap) (K : PySem.W.Frag) : Prop where
  d : He.SaysD [] fn K
  more : ex K = true
  hd : ∀ p ∈ tf, PySem.W.codeHdIn K (He.cT K p).1 (He.cT K p).2 = true
  out : ∀ p ∈ tf, K.lookup (He.cT K p).2 = none
  empty : ∀ p ∈ tf, h.get? (He.cT K p).2 = some { cls := .none, data := .fields #[] }
theorem saysM_of {n : Nat} {fn : List He.DefD} {tf : List He.Defn} {ex : PySem.W.Frag → Bool} {h : Heap} (e : obsM n fn tf ex h.get? = (He.valD fn, true)) : SaysM fn tf ex h (KM h.get? n) := by
  have e1 : He.obsD [] fn (KM h.get? n) = He.valD fn := congrArg Prod.fst e
  have e2 : (ex (KM h.get? n) && He.tabsB h.get? tf (KM h.get? n)) = true := congrArg Prod.snd e
  rw [Bool.and_eq_true] at e2
  have one : ∀ p ∈ tf, PySem.W.codeHdIn (KM h.get? n) (He.cT (KM h.get? n) p).1 (He.cT (KM h.get? n) p).2 = true ∧ ∃ o, h.get? (He.cT (KM h.get? n) p).2 = some o ∧ He.emptyTab o = true := fun p hp => by
    have z := List.all_eq_true.mp e2.2 p hp
    rw [Bool.and_eq_true] at z
    refine ⟨z.1, ?_⟩
    have z2 := z.2
    split at z2
    · rename_i o eo
      exact ⟨o, eo, z2⟩
    · cases z2
  refine ⟨e1, e2.1, fun p hp => (one p hp).1, fun p hp => ?_, fun p hp => ?_⟩
  · obtain ⟨_, o, q1, q2⟩ := one p hp
    exact He.frT_none q1 q2
  · obtain ⟨_, o, q1, q2⟩ := one p hp
    rw [q1, He.emptyTab_eq q2]
def hookM (n : Nat) (fn : List He.DefD) (tf : List He.Defn) (ex : PySem.W.Frag → Bool) : PySem.W.Hook where
  α := AlM
  obs s := obsM n fn tf ex s.heap.get?
  val _ := (He.valD fn, true)
  says _ h := ∃ K : PySem.W.Frag, K.In h ∧ SaysM fn tf ex h K
  of _ _ e := ⟨_, He.frT_in, saysM_of e⟩
  keeps _ _ _ y k := by
    obtain ⟨K, hK, c⟩ := y
    exact ⟨K, PySem.W.Frag.In.keeps hK k, { c with empty := fun p hp => k _ _ (c.empty p hp) }⟩
theorem obsM_eq {n : Nat} {fn : List He.DefD} {tf : List He.Defn} {ex : PySem.W.Frag → Bool} {g : Addr → Option Obj} {s : Shared} (h : ∀ a, g a = s.heap.get? a) : obsM n fn tf ex g = (hookM n fn tf ex).obs s := by
  have e : g = s.heap.get? := funext h
  subst e
  rfl
end Mp
end
section
set_option maxHeartbeats 2000000
/-! Mp, part 42: a shared list, walked. -/
namespace Mp
open PySem PySem.Spec PyProof.Rows L2
open Classical in
/-- a value's items, a shared list's too, while they stand -/
noncomputable def seqR (st : Store) : D → Option (List D × (Store → Bool))
  | .ref n => match st.get n with
    | some (.lst ds) => some (ds, fun st' => decide (st'.get n = some (.lst ds)))
    | _ => none
  | d => seqI st d
noncomputable def mItX (m : M D) : Src := do
  let d ← m
  liftS fun st => seqR st d
section
variable {E : SE} {W : WX} {X : Cx}
theorem itd_ref (hK : X.K = E.K) {g : Gh} {n : Nat} {ds : List D} {C : Store → Bool} (hn : n < g.nx) (hC : ∀ st, C st = true → st.get n = some (.lst ds)) : ItD E g (itQ false X.K (g.io n)) ds C := by
  have key : ∀ {g' : Gh} {st : Store} {H : Hp}, GLe g g' → RelG E g' st H → C st = true → ∃ xs, SqL X.K H (g.io n) xs ∧ Reps E g' ds xs := fun {g' st H} le r hc => by
    obtain ⟨xs, h1, _, h2⟩ := r.obj n _ (hC st hc)
    rw [le.io n hn] at h1
    exact ⟨xs, SqL.of h1, h2⟩
  refine ⟨fun i d e g' st H le r hc => ?_, fun g' st H le r hc => ?_, fun i d e g' st H x H' le r hc y => ?_⟩
  · obtain ⟨xs, h1, h2⟩ := key le r hc
    obtain ⟨v, e1, _⟩ := h2.get e
    exact ⟨xs, v, h1, e1⟩
  · obtain ⟨xs, h1, h2⟩ := key le r hc
    exact ⟨xs, h1, by rw [h2.length]; exact Nat.le_refl _⟩
  · obtain ⟨xs, h1, h2⟩ := key le r hc
    obtain ⟨rfl, y⟩ := y
    obtain ⟨v, e1, rv⟩ := h2.get e
    have e2 := y xs h1
    rw [e1] at e2
    cases e2
    exact .inl ⟨rfl, rv⟩
open Classical in
theorem s_iseqX (hK : X.K = E.K) {tg e : Expr} {m : M D} (h : PE X e (tI E W m)) : PI X tg e (tII E W (mItX m)) := pi_imp (pi_seqG h) fun σ H R h => by
  obtain ⟨g, fr, st, r, p⟩ := h
  refine tI_bind r p fun g1 fr1 st1 H1 d v t rv => ?_
  have hp := t.post
  unfold liftS at hp
  dsimp only at hp
  cases d with
  | ref n =>
    unfold seqR at hp
    dsimp only at hp
    cases e1 : st1.get n with
    | none => rw [e1] at hp; exact hp.elim
    | some mo =>
      rw [e1] at hp
      cases mo with
      | lst ds =>
        simp only [Rep] at rv
        obtain ⟨xs, h1, _, h2⟩ := t.rel.obj n _ e1
        exact ⟨false, g1.io n, xs, rv.2, by rw [hK]; exact SqL.of h1, hp g1 H1 (.refl ..) t.rel _ (itd_ref hK rv.1 fun st hc => of_decide_eq_true hc)⟩
      | _ => exact hp.elim
  | _ =>
    unfold seqR at hp
    dsimp only at hp
    first
    | (cases e1 : seqI st1 _ with
      | none => rw [e1] at hp; exact hp.elim
      | some q =>
        rw [e1] at hp
        obtain ⟨tt, a, xs, e2, h1, h2⟩ := seqI_s t.rel rv (show seqI st1 _ = some (q.1, q.2) from e1)
        subst e2
        refine ⟨tt, a, xs, rfl, ?_, hp g1 H1 (.refl ..) t.rel _ (itd_seq hK h1 h2)⟩
        rw [hK]
        cases tt
        · exact sub_l t.rel.sub h1
        · exact sub_t t.rel.sub h1)
end
end Mp
end
section
set_option maxHeartbeats 4000000
namespace Q54
open PySem PySem.Spec PyProof.Rows L2 Mp
/-! ### the text -/
abbrev top (i : Nat) : Stmt := PySem.Challenge.pw_lateplaces_k54_facts_on_graphs.main.body.getD i (.Pass ⟨0, 0, 0, 0⟩)
def mem (st : Stmt) (j : Nat) : Stmt := match st with
  | .ClassDef _ _ _ b _ _ _ _ _ _ _ => b.getD j (.Pass ⟨0, 0, 0, 0⟩)
  | s => s
/-! ### tables -/
def isiL : List ((Tg × Tg) × Bool) := [((.ty "NoneType", .ty "str"), false), ((.ty "NoneType", .ty "int"), false), ((.ty "NoneType", .ty "bool"), false), ((.ty "NoneType", .ty "list"), false), ((.ty "NoneType", .ty "tuple"), false), ((.ty "NoneType", .ty "ValueError"), false), ((.ty "NoneType", .own "Fact"), false), ((.ty "bool", .ty "str"), false), ((.ty "bool", .ty "int"), true), ((.ty "bool", .ty "bool"), true), ((.ty "bool", .ty "list"), false), ((.ty "bool", .ty "tuple"), false), ((.ty "bool", .ty "ValueError"), false), ((.ty "bool", .own "Fact"), false), ((.ty "int", .ty "str"), false), ((.ty "int", .ty "int"), true), ((.ty "int", .ty "bool"), false), ((.ty "int", .ty "list"), false), ((.ty "int", .ty "tuple"), false), ((.ty "int", .ty "ValueError"), false), ((.ty "int", .own "Fact"), false), ((.ty "str", .ty "str"), true), ((.ty "str", .ty "int"), false), ((.ty "str", .ty "bool"), false), ((.ty "str", .ty "list"), false), ((.ty "str", .ty "tuple"), false), ((.ty "str", .ty "ValueError"), false), ((.ty "str", .own "Fact"), false), ((.ty "tuple", .ty "str"), false), ((.ty "tuple", .ty "int"), false), ((.ty "tuple", .ty "bool"), false), ((.ty "tuple", .ty "list"), false), ((.ty "tuple", .ty "tuple"), true), ((.ty "tuple", .ty "ValueError"), false), ((.ty "tuple", .own "Fact"), false), ((.ty "list", .ty "str"), false), ((.ty "list", .ty "int"), false), ((.ty "list", .ty "bool"), false), ((.ty "list", .ty "list"), true), ((.ty "list", .ty "tuple"), false), ((.ty "list", .ty "ValueError"), false), ((.ty "list", .own "Fact"), false), ((.ty "dict", .ty "str"), false), ((.ty "dict", .ty "int"), false), ((.ty "dict", .ty "bool"), false), ((.ty "dict", .ty "list"), false), ((.ty "dict", .ty "tuple"), false), ((.ty "dict", .ty "ValueError"), false), ((.ty "dict", .own "Fact"), false), ((.own "Fact", .own "Fact"), true), ((.own "Fact", .ty "str"), false), ((.own "Fact", .ty "int"), false), ((.own "Fact", .ty "bool"), false), ((.own "Fact", .ty "list"), false), ((.own "Fact", .ty "tuple"), false), ((.own "Fact", .ty "ValueError"), false), ((.err "BadPath", .ty "str"), false), ((.err "BadPath", .ty "int"), false), ((.err "BadPath", .ty "bool"), false), ((.err "BadPath", .ty "list"), false), ((.err "BadPath", .ty "tuple"), false), ((.err "BadPath", .ty "ValueError"), true), ((.err "BadPath", .own "PlaceError"), true), ((.err "BadPath", .own "BadName"), false), ((.err "BadPath", .own "BadLayout"), false), ((.err "BadPath", .own "BadPath"), true), ((.err "BadPath", .own "BadGraph"), false), ((.err "BadPath", .own "NoCell"), false), ((.err "BadPath", .own "BadValue"), false), ((.err "BadPath", .own "BadStatement"), false), ((.err "BadPath", .own "NoMatch"), false), ((.err "BadPath", .own "TooLarge"), false), ((.err "BadPath", .own "NoObject"), false), ((.err "BadPath", .own "Faulted"), false), ((.err "BadPath", .own "BadPlan"), false), ((.err "BadPath", .own "BadLine"), false)]
def isi (t c : Tg) : Option Bool := isiL.lookup (t, c)
def nfL : List (Str × Tg) := [("Fact", .own "Fact"), ("Fact", .ty "tuple"), ("Fact", .ty "NoneType"), ("Fact", .ty "str")]
def nf (C : Str) (t : Tg) : Bool := nfL.contains (C, t)
/-! ### mirrors -/
def g_LETTERS : D := .str "abcdefghijklmnopqrstuvwxyz"
def g_MOST_DEEP : D := .int 2
def g_MOST_FIELDS : D := .int 2
def g_MOST_LETTERS : D := .int 6
def g_MOST_NAMES : D := .int 3
def g_MOST_OBJECTS : D := .int 12
def g_TAKEN : D := .tup [.str "if", .str "else", .str "is", .str "not", .str "pass"]
def g_WORDS : D := .tup [.str "is", .str "is not"]
def a_fields : List Str := ["Layout"]
def a_held : List Str := ["Graph"]
def a_layout : List Str := ["Graph"]
def a_names : List Str := ["Layout"]
def a_numbers : List Str := ["Graph"]
def a_one : List Str := ["Fact"]
def a_other : List Str := ["Fact"]
def a_word : List Str := ["Fact"]
def ae_path : List Str := ["BadPath", "NoObject", "Faulted"]
def cat_NoObject : List (Str × Bool) := [("NoObject", true), ("BadPath", false)]
def cat_PlaceError : List (Str × Bool) := [("BadPath", true), ("NoObject", true)]
noncomputable def b_lam0 : M D := (mBinM ix0 (mVar 1) (mVar 0))
noncomputable def ctab : ClTab := fun id => match id with
  | 0 => some (lamFn 2 1 1 b_lam0)
  | _ => none
abbrev L0 : Expr := (exE (exE (exE (stE (stB (stB (stB (top 62) 1) 2) 5) 0) 1) 1) 1)
def nm_law : Nat → Nat → Str := fun _ _ => ("law" : Str) ++ ".<locals>." ++ "<lambda>"
def caps_law : Nat → Option (List Nat) := fun id => match id with
  | 0 => some [7]
  | _ => none
def n_law_begun : List Str := ["_law_script", "_law_cells", "_law_cell"]
noncomputable def b_law_begun : M Ctl := (mSeq (mAsg (mComp false [2] (mItS (mVar 0)) (gSet 2) (M.pure true) (mCallB absB (mArgs [(mVar 2)]))) (gSet 1)) (mRet (mDisp true (mPairs [((M.pure (.str "great")), (mComp true [2] (mItS (mVar 1)) (gSet 2) (mTt (mBinM ge0 (mVar 2) (mBinM pow0 (M.pure (.int 10)) (M.pure (.int 18))))) (mVar 2))), ((M.pure (.str "cells")), (mVar 1)), ((M.pure (.str "rest")), (M.pure (.int 0))), ((M.pure (.str "turn")), (M.pure (.int 0))), ((M.pure (.str "more")), (M.pure (.int 7)))]))))
noncomputable def f_law_begun : Fn := mkFn 3 1 b_law_begun
def n_law_take : List Str := ["_law_draw", "_law_many", "_law_found", "_law_cell", "_law_mixed"]
noncomputable def b_law_take : M Ctl := (mSeq (mWhile (mAndT (mTt (mBinM eq0 (mBinM ix0 (mVar 0) (M.pure (.str "rest"))) (M.pure (.int 0)))) (mTt (mBinM ne0 (mBinM ix0 (mVar 0) (M.pure (.str "great"))) (mLstN false (mArgs []))))) (mAsg (mMet "list" mtPopAt (mBinM ix0 (mVar 0) (M.pure (.str "great"))) (mArgs [(M.pure (.int 0))])) (gSub set0 (mVar 0) (M.pure (.str "rest"))))) (mSeq (mIf (mTt (mBinM gt0 (mBinM ix0 (mVar 0) (M.pure (.str "rest"))) (M.pure (.int 0)))) (mSeq (mAsg (mBinM mod0 (mCallB intB (mArgs [(mBinM ix0 (mVar 0) (M.pure (.str "rest")))])) (mVar 1)) (gSet 2)) (mSeq (mAsg (mBinM fdiv0 (mBinM ix0 (mVar 0) (M.pure (.str "rest"))) (mVar 1)) (gSub set0 (mVar 0) (M.pure (.str "rest")))) (mRet (mVar 2)))) (M.pure .nx)) (mSeq (mAsg (M.pure (.int 0)) (gSet 3)) (mSeq (mIf (mTt (mBinM ne0 (mBinM ix0 (mVar 0) (M.pure (.str "cells"))) (mLstN false (mArgs [])))) (mAsg (mBinM ix0 (mBinM ix0 (mVar 0) (M.pure (.str "cells"))) (mBinM mod0 (mBinM ix0 (mVar 0) (M.pure (.str "turn"))) (mCallB lenB (mArgs [(mBinM ix0 (mVar 0) (M.pure (.str "cells")))])))) (gSet 3)) (M.pure .nx)) (mSeq (mAsg (mBinM add0 (mBinM ix0 (mVar 0) (M.pure (.str "turn"))) (M.pure (.int 1))) (gSub set0 (mVar 0) (M.pure (.str "turn")))) (mSeq (mAsg (mBinM mod0 (mCallB intB (mArgs [(mBinM add0 (mBinM add0 (mBinM mul0 (mBinM ix0 (mVar 0) (M.pure (.str "more"))) (M.pure (.int 48271))) (mVar 3)) (mBinM mul0 (M.pure (.int 7919)) (mBinM ix0 (mVar 0) (M.pure (.str "turn")))))])) (M.pure (.int 2147483647))) (gSub set0 (mVar 0) (M.pure (.str "more")))) (mSeq (mAsg (mBinM mod0 (mCallB intB (mArgs [(mBinM add0 (mBinM add0 (mBinM mul0 (mBinM ix0 (mVar 0) (M.pure (.str "more"))) (mBinM ix0 (mVar 0) (M.pure (.str "more")))) (mBinM mul0 (M.pure (.int 16807)) (mBinM ix0 (mVar 0) (M.pure (.str "more"))))) (M.pure (.int 11)))])) (M.pure (.int 2147483629))) (gSet 4)) (mRet (mBinM mod0 (mCallB intB (mArgs [(mBinM fdiv0 (mBinM mod0 (mCallB intB (mArgs [(mBinM mul0 (mVar 4) (mVar 4))])) (M.pure (.int 2147483587))) (M.pure (.int 7)))])) (mVar 1))))))))))
noncomputable def f_law_take : Fn := mkFn 5 2 b_law_take
def n_law_pick : List Str := ["_law_draw", "_law_some"]
noncomputable def b_law_pick : M Ctl := (mRet (mBinM ix0 (mVar 1) (mCall f_law_take [] (mArgs [(mVar 0), (mCallB lenB (mArgs [(mVar 1)]))]))))
noncomputable def f_law_pick : Fn := mkFn 2 2 b_law_pick
def n_law_words : List Str := ["_law_draw", "_law_many", "_law_found", "_law_k", "_law_long", "_law_word_here", "_law_turn", "_law_near", "_law_letter", "_law_one"]
noncomputable def b_law_words : M Ctl := (mSeq (mAsg (mLstN true (mArgs [])) (gSet 2)) (mSeq (mFor (mItR1 (mArgs [(mVar 1)])) (gSet 3) (mSeq (mAsg (mBinM add0 (M.pure (.int 1)) (mCall f_law_take [] (mArgs [(mVar 0), (M.pure (.int 6))]))) (gSet 4)) (mSeq (mAsg (mMet "str" mtJoin (M.pure (.str "")) (mArgs [(mComp false [6] (mItR1 (mArgs [(mVar 4)])) (gSet 6) (M.pure true) (mCall f_law_pick [] (mArgs [(mVar 0), (mListStr false (M.pure (.str "abcdefghijklmnopqrstuvwxyz")))])))])) (gSet 5)) (mSeq (mAsg (mBinM add0 (mLstN false (mArgs [(mVar 5)])) (mComp false [8] (mItStr (M.pure (.str "abcdefgh"))) (gSet 8) (M.pure true) (mBinM add0 (mSl (mVar 5) (M.pure none) (mPart (M.pure (.int 5)))) (mVar 8)))) (gSet 7)) (mDrop (mMet "list" mtAppend (mVar 2) (mArgs [(mBinM ix0 (mComp false [9] (mItS (mVar 7)) (gSet 9) (mTt (mBinM nin0 (mVar 9) (mBinM add0 (mVar 2) (mLstN false (mArgs [(M.pure (.str "if")), (M.pure (.str "else")), (M.pure (.str "is")), (M.pure (.str "not")), (M.pure (.str "pass"))]))))) (mVar 9)) (M.pure (.int 0)))]))))))) (mRet (mVar 2))))
noncomputable def f_law_words : Fn := mkFn 10 2 b_law_words
def n_law_frame : List Str := ["_law_draw", "_law_names", "_law_fields", "_law_mine", "_law_fits"]
noncomputable def b_law_frame : M Ctl := (mSeq (mAsg (mCall f_law_words [] (mArgs [(mVar 0), (mBinM add0 (M.pure (.int 1)) (mCall f_law_take [] (mArgs [(mVar 0), (mVar 1)])))])) (gSet 3)) (mSeq (mAsg (mCall f_law_words [] (mArgs [(mVar 0), (mBinM add0 (M.pure (.int 1)) (mCall f_law_take [] (mArgs [(mVar 0), (mVar 2)])))])) (gSet 4)) (mSeq (mIf (mAndT (mTt (mBinM eq0 (mCall f_law_take [] (mArgs [(mVar 0), (M.pure (.int 3))])) (M.pure (.int 0)))) (mTt (mBinM nin0 (mBinM ix0 (mVar 3) (M.pure (.int 0))) (mVar 4)))) (mAsg (mBinM ix0 (mVar 3) (M.pure (.int 0))) (gSub set0 (mVar 4) (M.pure (.int 0)))) (M.pure .nx)) (mRet (mTup (mArgs [(mCallB tupleB (mArgs [(mVar 3)])), (mCallB tupleB (mArgs [(mVar 4)]))]))))))
noncomputable def f_law_frame : Fn := mkFn 5 3 b_law_frame
def n_is_list : List Str := ["thing"]
noncomputable def b_is_list : M Ctl := (mRet (mCallB (isiB isi) (mArgs [(mVar 0), (mTup (mArgs [(M.pure (.ty "list")), (M.pure (.ty "tuple"))]))])))
noncomputable def f_is_list : Fn := mkFn 1 1 b_is_list
def n_is_name : List Str := ["thing", "letter"]
noncomputable def b_is_name : M Ctl := (mSeq (mIf (mOrT (mNotT (mTru (mCallB (isiB isi) (mArgs [(mVar 0), (M.pure (.ty "str"))])))) (mOrT (mNotT (mTt (mChain leD leD (M.pure (.int 1)) (mCallB lenB (mArgs [(mVar 0)])) (M.pure g_MOST_LETTERS)))) (mTt (mBinM in0 (mVar 0) (M.pure g_TAKEN))))) (mRet (M.pure (.bl false))) (M.pure .nx)) (mRet (mCallB allB (mArgs [(mComp false [1] (mItStr (mVar 0)) (gSet 1) (M.pure true) (mBinM in0 (mVar 1) (M.pure g_LETTERS)))]))))
noncomputable def f_is_name : Fn := mkFn 2 1 b_is_name
def n_need_names : List Str := ["things", "place", "thing"]
noncomputable def b_need_names : M Ctl := (mFor (mItE (mArgs [(mVar 0)])) (gTupD [(gSet 1), (gSet 2)]) (mIf (mOrT (mNotT (mTru (mCall f_is_name [] (mArgs [(mVar 2)])))) (mTt (mBinM in0 (mVar 2) (mSl (mVar 0) (M.pure none) (mPart (mVar 1)))))) (mRaiseX "BadName" ["name"] (mArgs [(mVar 2)])) (M.pure .nx)))
noncomputable def f_need_names : Fn := mkFn 3 1 b_need_names
def n_Layout___init__ : List Str := ["self", "names", "fields"]
noncomputable def b_Layout___init__ : M Ctl := (mSeq (mIf (mOrT (mNotT (mTru (mCall f_is_list [] (mArgs [(mVar 1)])))) (mNotT (mTru (mCall f_is_list [] (mArgs [(mVar 2)]))))) (mRaise0 "BadLayout") (M.pure .nx)) (mSeq (mDrop (mCall f_need_names [] (mArgs [(mVar 1)]))) (mSeq (mDrop (mCall f_need_names [] (mArgs [(mVar 2)]))) (mSeq (mIf (mOrT (mNotT (mTt (mChain leD leD (M.pure (.int 1)) (mCallB lenB (mArgs [(mVar 1)])) (M.pure g_MOST_NAMES)))) (mNotT (mTt (mChain leD leD (M.pure (.int 1)) (mCallB lenB (mArgs [(mVar 2)])) (M.pure g_MOST_FIELDS))))) (mRaise0 "BadLayout") (M.pure .nx)) (mSeq (mSetA "names" a_names (mCallB tupleB (mArgs [(mVar 1)])) (mVar 0)) (mSetA "fields" a_fields (mCallB tupleB (mArgs [(mVar 2)])) (mVar 0)))))))
noncomputable def f_Layout___init__ : Fn := mkFn 3 3 b_Layout___init__
def n_law_shape : List Str := ["_law_draw", "_law_frame_here", "_law_most", "_law_many", "_law_some", "_law_names", "_law_name", "_law_field", "_law_k"]
noncomputable def b_law_shape : M Ctl := (mSeq (mAsg (mCall f_law_take [] (mArgs [(mVar 0), (mBinM add0 (mVar 2) (M.pure (.int 1)))])) (gSet 3)) (mSeq (mAsg (mBinM add0 (mLstN false (mArgs [(M.pure .non)])) (mListR false (mVar 3))) (gSet 4)) (mSeq (mAsg (mComp false [6] (mItS (mBinM ix0 (mVar 1) (M.pure (.int 0)))) (gSet 6) (M.pure true) (mCall f_law_pick [] (mArgs [(mVar 0), (mVar 4)]))) (gSet 5)) (mRet (mTup (mArgs [(mVar 5), (mComp false [8] (mItR1 (mArgs [(mVar 3)])) (gSet 8) (M.pure true) (mComp false [7] (mItS (mBinM ix0 (mVar 1) (M.pure (.int 1)))) (gSet 7) (M.pure true) (mCall f_law_pick [] (mArgs [(mVar 0), (mVar 4)]))))]))))))
noncomputable def f_law_shape : Fn := mkFn 9 3 b_law_shape
def n_law_world : List Str := ["_law_frame_here", "_law_shape_here", "_law_cells", "_law_k", "_law_one", "_law_field", "_law_value_here"]
noncomputable def b_law_world : M Ctl := (mSeq (mAsg (mDictZ true (mArgs [(mBinM ix0 (mVar 0) (M.pure (.int 0))), (mBinM ix0 (mVar 1) (M.pure (.int 0)))])) (gSet 2)) (mSeq (mFor (mItE (mArgs [(mBinM ix0 (mVar 1) (M.pure (.int 1)))])) (gTupD [(gSet 3), (gSet 4)]) (mFor (mItZ (mArgs [(mBinM ix0 (mVar 0) (M.pure (.int 1))), (mVar 4)])) (gTupD [(gSet 5), (gSet 6)]) (mAsg (mVar 6) (gSub set0 (mVar 2) (mTup (mArgs [(mVar 3), (mVar 5)])))))) (mRet (mVar 2))))
noncomputable def f_law_world : Fn := mkFn 7 2 b_law_world
def n_is_integer : List Str := ["thing"]
noncomputable def b_is_integer : M Ctl := (mRet (mAndV (mCallB (isiB isi) (mArgs [(mVar 0), (M.pure (.ty "int"))])) (mNotV (mCallB (isiB isi) (mArgs [(mVar 0), (M.pure (.ty "bool"))])))))
noncomputable def f_is_integer : Fn := mkFn 1 1 b_is_integer
def n_is_held : List Str := ["thing", "many"]
noncomputable def b_is_held : M Ctl := (mRet (mOrV (mBinM is0 (mVar 0) (M.pure .non)) (mAndV (mCall f_is_integer [] (mArgs [(mVar 0)])) (mChain leD ltD (M.pure (.int 0)) (mVar 0) (mVar 1)))))
noncomputable def f_is_held : Fn := mkFn 2 2 b_is_held
def n_are_values : List Str := ["things", "long", "many", "thing"]
noncomputable def b_are_values : M Ctl := (mRet (mAndV (mCall f_is_list [] (mArgs [(mVar 0)])) (mAndV (mBinM eq0 (mCallB lenB (mArgs [(mVar 0)])) (mVar 1)) (mCallB allB (mArgs [(mComp false [3] (mItS (mVar 0)) (gSet 3) (M.pure true) (mCall f_is_held [] (mArgs [(mVar 3), (mVar 2)])))])))))
noncomputable def f_are_values : Fn := mkFn 4 3 b_are_values
def n_Graph___init__ : List Str := ["self", "layout", "names", "objects", "many", "one", "number", "field", "value"]
noncomputable def b_Graph___init__ : M Ctl := (mSeq (mIf (mOrT (mNotT (mTru (mCall f_is_list [] (mArgs [(mVar 3)])))) (mTt (mBinM gt0 (mCallB lenB (mArgs [(mVar 3)])) (M.pure g_MOST_OBJECTS)))) (mRaise0 "BadGraph") (M.pure .nx)) (mSeq (mAsg (mCallB lenB (mArgs [(mVar 3)])) (gSet 4)) (mSeq (mIf (mNotT (mTru (mCall f_are_values [] (mArgs [(mVar 2), (mCallB lenB (mArgs [(mAttr "names" a_names (mVar 1))])), (mVar 4)])))) (mRaise0 "BadGraph") (M.pure .nx)) (mSeq (mIf (mNotT (mTru (mCallB allB (mArgs [(mComp false [5] (mItS (mVar 3)) (gSet 5) (M.pure true) (mCall f_are_values [] (mArgs [(mVar 5), (mCallB lenB (mArgs [(mAttr "fields" a_fields (mVar 1))])), (mVar 4)])))])))) (mRaise0 "BadGraph") (M.pure .nx)) (mSeq (mSetA "layout" a_layout (mVar 1) (mVar 0)) (mSeq (mSetA "numbers" a_numbers (mListR false (mVar 4)) (mVar 0)) (mSeq (mSetA "held" a_held (mDictZ true (mArgs [(mAttr "names" a_names (mVar 1)), (mVar 2)])) (mVar 0)) (mFor (mItE (mArgs [(mVar 3)])) (gTupD [(gSet 6), (gSet 5)]) (mFor (mItZ (mArgs [(mAttr "fields" a_fields (mVar 1)), (mVar 5)])) (gTupD [(gSet 7), (gSet 8)]) (mAsg (mVar 8) (gSub set0 (mAttr "held" a_held (mVar 0)) (mTup (mArgs [(mVar 6), (mVar 7)])))))))))))))
noncomputable def f_Graph___init__ : Fn := mkFn 9 4 b_Graph___init__
def n_Graph_cells : List Str := ["self", "found", "number", "field"]
noncomputable def b_Graph_cells : M Ctl := (mSeq (mAsg (mListN true (mArgs [(mAttr "names" a_names (mAttr "layout" a_layout (mVar 0)))])) (gSet 1)) (mSeq (mFor (mItS (mAttr "numbers" a_numbers (mVar 0))) (gSet 2) (mDrop (mMet "list" mtExtend (mVar 1) (mArgs [(mComp false [3] (mItS (mAttr "fields" a_fields (mAttr "layout" a_layout (mVar 0)))) (gSet 3) (M.pure true) (mTup (mArgs [(mVar 2), (mVar 3)])))])))) (mRet (mVar 1))))
noncomputable def f_Graph_cells : Fn := mkFn 4 1 b_Graph_cells
noncomputable def t_cells_Graph : MTab := [("Graph", f_Graph_cells, [])]
def n_Graph_contents : List Str := ["self", "cell"]
noncomputable def b_Graph_contents : M Ctl := (mRet (mComp false [1] (mItX (mMeth "cells" t_cells_Graph (mVar 0) (mArgs []))) (gSet 1) (M.pure true) (mBinM ix0 (mAttr "held" a_held (mVar 0)) (mVar 1))))
noncomputable def f_Graph_contents : Fn := mkFn 2 1 b_Graph_contents
noncomputable def t_contents_Graph : MTab := [("Graph", f_Graph_contents, [])]
def n_law_path : List Str := ["_law_draw", "_law_frame_here", "_law_most", "_law_path_here", "_law_turn"]
noncomputable def b_law_path : M Ctl := (mSeq (mAsg (mCall f_law_pick [] (mArgs [(mVar 0), (mBinM ix0 (mVar 1) (M.pure (.int 0)))])) (gSet 3)) (mSeq (mFor (mItR1 (mArgs [(mCall f_law_take [] (mArgs [(mVar 0), (mBinM add0 (mVar 2) (M.pure (.int 1)))]))])) (gSet 4) (mAsg (mBinM add0 (mBinM add0 (mVar 3) (M.pure (.str "."))) (mCall f_law_pick [] (mArgs [(mVar 0), (mBinM ix0 (mVar 1) (M.pure (.int 1)))]))) (gSet 3))) (mRet (mVar 3))))
noncomputable def f_law_path : Fn := mkFn 5 3 b_law_path
def n_law_value : List Str := ["_law_draw", "_law_frame_here", "_law_most"]
noncomputable def b_law_value : M Ctl := (mRet (mIf (mTt (mBinM eq0 (mCall f_law_take [] (mArgs [(mVar 0), (M.pure (.int 5))])) (M.pure (.int 0)))) (M.pure .non) (mCall f_law_path [] (mArgs [(mVar 0), (mVar 1), (mVar 2)]))))
noncomputable def f_law_value : Fn := mkFn 3 3 b_law_value
def n_law_fact : List Str := ["_law_draw", "_law_frame_here", "_law_most"]
noncomputable def b_law_fact : M Ctl := (mRet (mTup (mArgs [(mCall f_law_value [] (mArgs [(mVar 0), (mVar 1), (mVar 2)])), (mCall f_law_pick [] (mArgs [(mVar 0), (mLstN false (mArgs [(M.pure (.str "is")), (M.pure (.str "is not"))]))])), (mCall f_law_value [] (mArgs [(mVar 0), (mVar 1), (mVar 2)]))])))
noncomputable def f_law_fact : Fn := mkFn 3 3 b_law_fact
def n_Fact___init__ : List Str := ["self", "one", "word", "other"]
noncomputable def b_Fact___init__ : M Ctl := (mSeq (mSetA "one" a_one (mVar 1) (mVar 0)) (mSeq (mSetA "word" a_word (mVar 2) (mVar 0)) (mSetA "other" a_other (mVar 3) (mVar 0))))
noncomputable def f_Fact___init__ : Fn := mkFn 4 4 b_Fact___init__
def n_Layout___contains__ : List Str := ["self", "path", "name", "fields", "field"]
noncomputable def b_Layout___contains__ : M Ctl := (mSeq (mIf (mNotT (mTru (mCallB (isiB isi) (mArgs [(mVar 1), (M.pure (.ty "str"))])))) (mRet (M.pure (.bl false))) (M.pure .nx)) (mSeq (mAsg (mMet "str" (mtSplit false) (mVar 1) (mArgs [(M.pure (.str "."))])) (gStar 1 [(gSet 2), (gSet 3)])) (mSeq (mIf (mOrT (mTt (mBinM nin0 (mVar 2) (mAttr "names" a_names (mVar 0)))) (mTt (mBinM gt0 (mCallB lenB (mArgs [(mVar 3)])) (M.pure g_MOST_DEEP)))) (mRet (M.pure (.bl false))) (M.pure .nx)) (mRet (mCallB allB (mArgs [(mComp false [4] (mItS (mVar 3)) (gSet 4) (M.pure true) (mBinM in0 (mVar 4) (mAttr "fields" a_fields (mVar 0))))]))))))
noncomputable def f_Layout___contains__ : Fn := mkFn 5 2 b_Layout___contains__
noncomputable def t_contains_Layout : MTab := [("Layout", f_Layout___contains__, [])]
def n_is_value : List Str := ["layout", "thing"]
noncomputable def b_is_value : M Ctl := (mRet (mOrV (mBinM is0 (mVar 1) (M.pure .non)) (mBinM (inM false t_contains_Layout in0) (mVar 1) (mVar 0))))
noncomputable def f_is_value : Fn := mkFn 2 2 b_is_value
def n_need_values : List Str := ["layout", "facts", "fact", "value"]
noncomputable def b_need_values : M Ctl := (mFor (mItS (mVar 1)) (gSet 2) (mFor (mItS (mTup (mArgs [(mAttr "one" a_one (mVar 2)), (mAttr "other" a_other (mVar 2))]))) (gSet 3) (mIf (mNotT (mTru (mCall f_is_value [] (mArgs [(mVar 0), (mVar 3)])))) (mRaiseX "BadPath" ["path"] (mArgs [(mVar 3)])) (M.pure .nx))))
noncomputable def f_need_values : Fn := mkFn 4 2 b_need_values
def n_Graph_look : List Str := ["self", "cell"]
noncomputable def b_Graph_look : M Ctl := (mRet (mBinM ix0 (mAttr "held" a_held (mVar 0)) (mVar 1)))
noncomputable def f_Graph_look : Fn := mkFn 2 2 b_Graph_look
noncomputable def t_look_Graph : MTab := [("Graph", f_Graph_look, [])]
def n_value_at : List Str := ["graph", "path", "name", "fields", "found", "passed", "field"]
noncomputable def b_value_at : M Ctl := (mSeq (mAsg (mMet "str" (mtSplit false) (mVar 1) (mArgs [(M.pure (.str "."))])) (gStar 1 [(gSet 2), (gSet 3)])) (mSeq (mAsg (mMeth "look" t_look_Graph (mVar 0) (mArgs [(mVar 2)])) (gSet 4)) (mSeq (mAsg (mVar 2) (gSet 5)) (mSeq (mFor (mItS (mVar 3)) (gSet 6) (mSeq (mIf (mTt (mBinM is0 (mVar 4) (M.pure .non))) (mRaiseX "NoObject" ["path"] (mArgs [(mVar 5)])) (M.pure .nx)) (mSeq (mAsg (mMeth "look" t_look_Graph (mVar 0) (mArgs [(mTup (mArgs [(mVar 4), (mVar 6)]))])) (gSet 4)) (mAsg (mBinM add0 (mBinM add0 (mVar 5) (M.pure (.str "."))) (mVar 6)) (gSet 5))))) (mRet (mVar 4))))))
noncomputable def f_value_at : Fn := mkFn 7 2 b_value_at
def n_value_of : List Str := ["graph", "value"]
noncomputable def b_value_of : M Ctl := (mRet (mIf (mTt (mBinM is0 (mVar 1) (M.pure .non))) (M.pure .non) (mCall f_value_at [] (mArgs [(mVar 0), (mVar 1)]))))
noncomputable def f_value_of : Fn := mkFn 2 2 b_value_of
def n_holds : List Str := ["graph", "fact", "one", "other"]
noncomputable def b_holds : M Ctl := (mTry cat_NoObject (mSeq (mAsg (mCall f_value_of [] (mArgs [(mVar 0), (mAttr "one" a_one (mVar 1))])) (gSet 2)) (mSeq (mAsg (mCall f_value_of [] (mArgs [(mVar 0), (mAttr "other" a_other (mVar 1))])) (gSet 3)) (mRet (mBinM eq0 (mBinM eq0 (mVar 2) (mVar 3)) (mBinM eq0 (mAttr "word" a_word (mVar 1)) (mBinM ix0 (M.pure g_WORDS) (M.pure (.int 0)))))))) (mRet (M.pure (.bl false))))
noncomputable def f_holds : Fn := mkFn 4 2 b_holds
def n_Fact___call__ : List Str := ["self", "graph"]
noncomputable def b_Fact___call__ : M Ctl := (mSeq (mDrop (mCall f_need_values [] (mArgs [(mAttr "layout" a_layout (mVar 1)), (mLstN false (mArgs [(mVar 0)]))]))) (mRet (mCall f_holds [] (mArgs [(mVar 1), (mVar 0)]))))
noncomputable def f_Fact___call__ : Fn := mkFn 2 2 b_Fact___call__
noncomputable def t_call_Fact : MTab := [("Fact", f_Fact___call__, [])]
def n_law_word : List Str := ["_law_error", "_law_flags"]
noncomputable def b_law_word : M Ctl := (mSeq (mAsg (mLstN false (mArgs [(mCallB (isiB isi) (mArgs [(mVar 0), (M.pure (.fn "BadPath"))])), (mCallB (isiB isi) (mArgs [(mVar 0), (M.pure (.fn "TooLarge"))])), (mCallB (isiB isi) (mArgs [(mVar 0), (M.pure (.fn "NoMatch"))]))])) (gSet 1)) (mSeq (mAsg (mBinM add0 (mVar 1) (mLstN false (mArgs [(mCallB (isiB isi) (mArgs [(mVar 0), (mTup (mArgs [(M.pure (.fn "BadName")), (M.pure (.fn "BadLayout")), (M.pure (.fn "BadGraph")), (M.pure (.fn "NoCell")), (M.pure (.fn "BadValue"))]))]))]))) (gSet 1)) (mSeq (mAsg (mBinM add0 (mVar 1) (mLstN false (mArgs [(mCallB (isiB isi) (mArgs [(mVar 0), (mTup (mArgs [(M.pure (.fn "BadStatement")), (M.pure (.fn "NoObject")), (M.pure (.fn "Faulted")), (M.pure (.fn "BadPlan")), (M.pure (.fn "BadLine"))]))]))]))) (gSet 1)) (mSeq (mIf (mOrT (mTt (mBinM ne0 (mMet "list" mtCount (mVar 1) (mArgs [(M.pure (.bl true))])) (M.pure (.int 1)))) (mNotT (mTru (mCallB (isiB isi) (mArgs [(mVar 0), (M.pure (.ty "ValueError"))]))))) (mRet (M.pure (.str "other"))) (M.pure .nx)) (mRet (mBinM ix0 (mLstN false (mArgs [(M.pure (.str "path")), (M.pure (.str "large")), (M.pure (.str "match")), (M.pure (.str "other")), (M.pure (.str "other"))])) (mMet "list" mtIndex (mVar 1) (mArgs [(M.pure (.bl true))]))))))))
noncomputable def f_law_word : Fn := mkFn 2 1 b_law_word
def n_law_path_of : List Str := ["_law_fact_here", "_law_graph", "_law_found", "_law_error", "e"]
noncomputable def b_law_path_of : M Ctl := (mSeq (mAsg (M.pure .non) (gSet 2)) (mSeq (mAsg (M.pure .non) (gSet 3)) (mSeq (mTryAs 4 cat_PlaceError (mAsg (mCallI t_call_Fact (mVar 0) (mArgs [(mVar 1)])) (gSet 2)) (mAsg (mVar 4) (gSet 3))) (mSeq (mIf (mTt (mBinM is0 (mVar 3) (M.pure .non))) (mRet (mVar 2)) (M.pure .nx)) (mRet (mLstN false (mArgs [(mCall f_law_word [] (mArgs [(mVar 3)])), (mIf (mTru (mCallB (isiB isi) (mArgs [(mVar 3), (M.pure (.fn "BadPath"))]))) (mCallB reprB (mArgs [(mAttrE "path" ae_path (mVar 3))])) (M.pure (.str "")))])))))))
noncomputable def f_law_path_of : Fn := mkFn 5 2 b_law_path_of
def n_law_read : List Str := ["_law_get", "_law_path_here", "_law_words_here", "_law_found", "_law_field"]
noncomputable def b_law_read : M Ctl := (mSeq (mIf (mTt (mBinM is0 (mVar 1) (M.pure .non))) (mRet (M.pure .non)) (M.pure .nx)) (mSeq (mAsg (mMet "str" (mtSplit false) (mVar 1) (mArgs [(M.pure (.str "."))])) (gSet 2)) (mSeq (mAsg (mCallC ctab (mVar 0) (mArgs [(mBinM ix0 (mVar 2) (M.pure (.int 0)))])) (gSet 3)) (mSeq (mFor (mItS (mSl (mVar 2) (mPart (M.pure (.int 1))) (M.pure none))) (gSet 4) (mSeq (mIf (mTt (mBinM is0 (mVar 3) (M.pure .non))) (mRet (M.pure (.str "fault"))) (M.pure .nx)) (mAsg (mCallC ctab (mVar 0) (mArgs [(mTup (mArgs [(mVar 3), (mVar 4)]))])) (gSet 3)))) (mRet (mVar 3))))))
noncomputable def f_law_read : Fn := mkFn 5 2 b_law_read
def n_law_holds : List Str := ["_law_get", "_law_told", "_law_one", "_law_other"]
noncomputable def b_law_holds : M Ctl := (mSeq (mAsg (mCall f_law_read [] (mArgs [(mVar 0), (mBinM ix0 (mVar 1) (M.pure (.int 0)))])) (gSet 2)) (mSeq (mIf (mTt (mBinM eq0 (mVar 2) (M.pure (.str "fault")))) (mRet (M.pure (.bl false))) (M.pure .nx)) (mSeq (mAsg (mCall f_law_read [] (mArgs [(mVar 0), (mBinM ix0 (mVar 1) (M.pure (.int 2)))])) (gSet 3)) (mRet (mAndV (mBinM ne0 (mVar 3) (M.pure (.str "fault"))) (mBinM eq0 (mBinM eq0 (mVar 2) (mVar 3)) (mBinM eq0 (mBinM ix0 (mVar 1) (M.pure (.int 1))) (M.pure (.str "is")))))))))
noncomputable def f_law_holds : Fn := mkFn 4 2 b_law_holds
def n_law_elsewhere_right : List Str := ["_law_frame_here", "_law_fact_here", "_law_told", "_law_name", "_law_word_here", "_law_graph", "_law_values", "_law_value_here", "_law_found"]
noncomputable def b_law_elsewhere_right : M Ctl := (mSeq (mAsg (mBinM ix0 (mComp false [4] (mItS (mLstN false (mArgs [(M.pure (.str "q")), (M.pure (.str "w")), (M.pure (.str "u")), (M.pure (.str "v"))]))) (gSet 4) (mTt (mBinM nin0 (mVar 4) (mBinM ix0 (mVar 0) (M.pure (.int 0))))) (mVar 4)) (M.pure (.int 0))) (gSet 3)) (mSeq (mAsg (mMake "Graph" f_Graph___init__ [] true (mArgs [(mMake "Layout" f_Layout___init__ [] true (mArgs [(mLstN false (mArgs [(mVar 3)])), (mBinM ix0 (mVar 0) (M.pure (.int 1)))])), (mLstN false (mArgs [(M.pure (.int 0))])), (mLstN false (mArgs [(mBinM mul0 (mLstN false (mArgs [(M.pure .non)])) (mCallB lenB (mArgs [(mBinM ix0 (mVar 0) (M.pure (.int 1)))])))]))])) (gSet 5)) (mSeq (mAsg (mComp false [7] (mItS (mTup (mArgs [(mBinM ix0 (mVar 2) (M.pure (.int 0))), (mBinM ix0 (mVar 2) (M.pure (.int 2)))]))) (gSet 7) (mTt (mBinM isn0 (mVar 7) (M.pure .non))) (mVar 7)) (gSet 6)) (mSeq (mIf (mTt (mBinM eq0 (mVar 6) (mLstN false (mArgs [])))) (mSeq (mAsg (mCall f_law_path_of [] (mArgs [(mVar 1), (mVar 5)])) (gSet 8)) (mRet (mAndV (mCallB (isiB isi) (mArgs [(mVar 8), (M.pure (.ty "bool"))])) (mBinM eq0 (mVar 8) (mBinM eq0 (mBinM ix0 (mVar 2) (M.pure (.int 1))) (M.pure (.str "is"))))))) (M.pure .nx)) (mRet (mBinM eq0 (mCall f_law_path_of [] (mArgs [(mVar 1), (mVar 5)])) (mLstN false (mArgs [(M.pure (.str "path")), (mCallB reprB (mArgs [(mBinM ix0 (mVar 6) (M.pure (.int 0)))]))]))))))))
noncomputable def f_law_elsewhere_right : Fn := mkFn 9 3 b_law_elsewhere_right
def n_law_strange : List Str := ["_law_draw", "_law_frame_here", "_law_name", "_law_field", "_law_some"]
noncomputable def b_law_strange : M Ctl := (mSeq (mPar 2 3 (mArgs [(mBinM ix0 (mBinM ix0 (mVar 1) (M.pure (.int 0))) (M.pure (.int 0))), (mBinM ix0 (mBinM ix0 (mVar 1) (M.pure (.int 1))) (M.pure (.int 0)))])) (mSeq (mAsg (mLstN false (mArgs [(M.pure (.int 5)), (M.pure (.bl true)), (M.pure (.str "")), (mBinM add0 (mVar 2) (M.pure (.str "."))), (mBinM add0 (M.pure (.str ".")) (mVar 2)), (mBinM add0 (mBinM add0 (mBinM add0 (mBinM add0 (mBinM add0 (mBinM add0 (mVar 2) (M.pure (.str "."))) (mVar 3)) (M.pure (.str "."))) (mVar 3)) (M.pure (.str "."))) (mVar 3)), (mTup (mArgs [(mVar 2)])), (mLstN false (mArgs [(mVar 2)]))])) (gSet 4)) (mRet (mCall f_law_pick [] (mArgs [(mVar 0), (mBinM add0 (mVar 4) (mLstN false (mArgs [(mBinM add0 (mVar 2) (M.pure (.str "9"))), (M.pure (.str "None")), (mBinM add0 (mVar 2) (M.pure (.str " "))), (newD false (.dct [] [])), (mBinM add0 (mVar 2) (M.pure (.str ".."))), (mTup (mArgs []))])))])))))
noncomputable def f_law_strange : Fn := mkFn 5 2 b_law_strange
def n_Fact___eq__ : List Str := ["self", "other"]
noncomputable def b_Fact___eq__ : M Ctl := (mSeq (mIf (mNotT (mTru (mCallB (isiB isi) (mArgs [(mVar 1), (M.pure (.fn "Fact"))])))) (mRet (M.pure (.bl false))) (M.pure .nx)) (mRet (mAndV (mBinM eq0 (mAttr "one" a_one (mVar 0)) (mAttr "one" a_one (mVar 1))) (mAndV (mBinM eq0 (mAttr "word" a_word (mVar 0)) (mAttr "word" a_word (mVar 1))) (mBinM eq0 (mAttr "other" a_other (mVar 0)) (mAttr "other" a_other (mVar 1)))))))
noncomputable def f_Fact___eq__ : Fn := mkFn 2 2 b_Fact___eq__
noncomputable def t_eq_Fact : MTab := [("Fact", f_Fact___eq__, [])]
def n_law_alike_right : List Str := ["_law_one", "_law_other", "_law_first", "_law_second"]
noncomputable def b_law_alike_right : M Ctl := (mSeq (mPar 2 3 (mArgs [(mMake "Fact" f_Fact___init__ [] true (mArgs [(mBinM ix0 (mVar 0) (M.pure (.int 0))), (mBinM ix0 (mVar 0) (M.pure (.int 1))), (mBinM ix0 (mVar 0) (M.pure (.int 2)))])), (mMake "Fact" f_Fact___init__ [] true (mArgs [(mBinM ix0 (mVar 1) (M.pure (.int 0))), (mBinM ix0 (mVar 1) (M.pure (.int 1))), (mBinM ix0 (mVar 1) (M.pure (.int 2)))]))])) (mSeq (mIf (mOrT (mTt (mBinM (eqM true nf t_eq_Fact ne0) (mBinM (eqM false nf t_eq_Fact eq0) (mVar 2) (mVar 3)) (mBinM (eqM false nf t_eq_Fact eq0) (mVar 0) (mVar 1)))) (mNotT (mTt (mBinM (eqM false nf t_eq_Fact eq0) (mVar 2) (mMake "Fact" f_Fact___init__ [] true (mArgs [(mBinM ix0 (mVar 0) (M.pure (.int 0))), (mBinM ix0 (mVar 0) (M.pure (.int 1))), (mBinM ix0 (mVar 0) (M.pure (.int 2)))])))))) (mRet (M.pure (.bl false))) (M.pure .nx)) (mRet (mAndV (mBinM (eqM false nf t_eq_Fact eq0) (mBinM (eqM true nf t_eq_Fact ne0) (mVar 2) (mVar 3)) (mBinM (eqM true nf t_eq_Fact ne0) (mVar 0) (mVar 1))) (mAndV (mBinM (eqM true nf t_eq_Fact ne0) (mVar 2) (mVar 0)) (mBinM (eqM true nf t_eq_Fact ne0) (mVar 2) (mBinM ix0 (mVar 0) (M.pure (.int 0)))))))))
noncomputable def f_law_alike_right : Fn := mkFn 4 2 b_law_alike_right
def n_law : List Str := ["_law_script", "_law_draw", "_law_turn", "_law_frame_here", "_law_layout", "_law_again", "_law_shape_here", "_law_cells", "_law_graph", "_law_kept", "_law_told", "_law_fact_here", "_law_found", "_law_bad", "_law_worse", "_law_some", "_law_wrong"]
noncomputable def b_law : M Ctl := (mSeq (mAsg (mCall f_law_begun [] (mArgs [(mVar 0)])) (gSet 1)) (mSeq (mFor (mItR1 (mArgs [(M.pure (.int 4))])) (gSet 2) (mSeq (mAsg (mCall f_law_frame [] (mArgs [(mVar 1), (M.pure (.int 3)), (M.pure (.int 2))])) (gSet 3)) (mSeq (mAsg (mMake "Layout" f_Layout___init__ [] true (mArgs [(mListN false (mArgs [(mBinM ix0 (mVar 3) (M.pure (.int 0)))])), (mBinM ix0 (mVar 3) (M.pure (.int 1)))])) (gSet 4)) (mFor (mItR1 (mArgs [(M.pure (.int 4))])) (gSet 5) (mSeq (mAsg (mCall f_law_shape [] (mArgs [(mVar 1), (mVar 3), (M.pure (.int 3))])) (gSet 6)) (mSeq (mAsg (mTup (mArgs [(mCall f_law_world [] (mArgs [(mVar 3), (mVar 6)])), (mMake "Graph" f_Graph___init__ [] true (mArgs [(mVar 4), (mBinM ix0 (mVar 6) (M.pure (.int 0))), (mBinM ix0 (mVar 6) (M.pure (.int 1)))]))])) (gTupD [(gSet 7), (gSet 8)])) (mSeq (mPar 9 10 (mArgs [(mMeth "contents" t_contents_Graph (mVar 8) (mArgs [])), (mCall f_law_fact [] (mArgs [(mVar 1), (mVar 3), (M.pure (.int 2))]))])) (mSeq (mAsg (mMake "Fact" f_Fact___init__ [] true (mArgs [(mBinM ix0 (mVar 10) (M.pure (.int 0))), (mBinM ix0 (mVar 10) (M.pure (.int 1))), (mBinM ix0 (mVar 10) (M.pure (.int 2)))])) (gSet 11)) (mSeq (mAsg (mCall f_law_path_of [] (mArgs [(mVar 11), (mVar 8)])) (gSet 12)) (mSeq (mIf (mOrT (mNotT (mTru (mCallB (isiB isi) (mArgs [(mVar 12), (M.pure (.ty "bool"))])))) (mTt (mBinM ne0 (mVar 12) (mCallL f_law_holds [] caps_law (qL 0 (qV (mVar 10) (M.pure []))))))) (mRet (M.pure (.bl false))) (M.pure .nx)) (mSeq (mIf (mOrT (mTt (mBinM ne0 (mTup (mArgs [(mAttr "one" a_one (mVar 11)), (mAttr "word" a_word (mVar 11)), (mAttr "other" a_other (mVar 11))])) (mVar 10))) (mTt (mBinM ne0 (mMeth "contents" t_contents_Graph (mVar 8) (mArgs [])) (mVar 9)))) (mRet (M.pure (.bl false))) (M.pure .nx)) (mSeq (mIf (mOrT (mNotT (mTru (mCall f_law_elsewhere_right [] (mArgs [(mVar 3), (mVar 11), (mVar 10)])))) (mTt (mBinM ne0 (mCall f_law_path_of [] (mArgs [(mVar 11), (mVar 8)])) (mVar 12)))) (mRet (M.pure (.bl false))) (M.pure .nx)) (mSeq (mPar 13 14 (mArgs [(mCall f_law_strange [] (mArgs [(mVar 1), (mVar 3)])), (mCall f_law_strange [] (mArgs [(mVar 1), (mVar 3)]))])) (mSeq (mAsg (mLstN false (mArgs [(mTup (mArgs [(mVar 13), (mBinM ix0 (mVar 10) (M.pure (.int 1))), (mBinM ix0 (mVar 10) (M.pure (.int 2)))])), (mTup (mArgs [(mBinM ix0 (mVar 10) (M.pure (.int 0))), (mBinM ix0 (mVar 10) (M.pure (.int 1))), (mVar 13)])), (mTup (mArgs [(mVar 13), (mBinM ix0 (mVar 10) (M.pure (.int 1))), (mVar 14)]))])) (gSet 15)) (mSeq (mAsg (mCall f_law_pick [] (mArgs [(mVar 1), (mVar 15)])) (gSet 16)) (mSeq (mIf (mTt (mBinM ne0 (mCall f_law_path_of [] (mArgs [(mMake "Fact" f_Fact___init__ [] true (mArgs [(mBinM ix0 (mVar 16) (M.pure (.int 0))), (mBinM ix0 (mVar 16) (M.pure (.int 1))), (mBinM ix0 (mVar 16) (M.pure (.int 2)))])), (mVar 8)])) (mLstN false (mArgs [(M.pure (.str "path")), (mCallB reprB (mArgs [(mVar 13)]))])))) (mRet (M.pure (.bl false))) (M.pure .nx)) (mSeq (mAsg (mLstN false (mArgs [(mVar 10), (mCall f_law_fact [] (mArgs [(mVar 1), (mVar 3), (M.pure (.int 1))])), (mCall f_law_fact [] (mArgs [(mVar 1), (mVar 3), (M.pure (.int 0))]))])) (gSet 15)) (mIf (mNotT (mTru (mCall f_law_alike_right [] (mArgs [(mVar 10), (mCall f_law_pick [] (mArgs [(mVar 1), (mVar 15)]))])))) (mRet (M.pure (.bl false))) (M.pure .nx))))))))))))))))))) (mRet (M.pure (.bl true)))))
noncomputable def f_law : Fn := mkFn 17 1 b_law
end Q54
end
section
set_option maxHeartbeats 4000000
namespace Q54
open PySem PySem.Spec PyProof.Rows L2 Mp
/-! ### what the head must tell -/
def nmT : NmT := [nmE "BadGraph" "BadGraph" none,
  nmE "BadLayout" "BadLayout" none,
  nmE "BadLine" "BadLine" none,
  nmE "BadName" "BadName" none,
  nmE "BadName.__init__" "BadName" (some "__init__"),
  nmE "BadPath" "BadPath" none,
  nmE "BadPath.__init__" "BadPath" (some "__init__"),
  nmE "BadPlan" "BadPlan" none,
  nmE "BadStatement" "BadStatement" none,
  nmE "BadValue" "BadValue" none,
  nmE "Fact" "Fact" none,
  nmE "Fact.__call__" "Fact" (some "__call__"),
  nmE "Fact.__eq__" "Fact" (some "__eq__"),
  nmE "Fact.__init__" "Fact" (some "__init__"),
  nmE "Faulted" "Faulted" none,
  nmE "Graph" "Graph" none,
  nmE "Graph.__init__" "Graph" (some "__init__"),
  nmE "Graph.cells" "Graph" (some "cells"),
  nmE "Graph.contents" "Graph" (some "contents"),
  nmE "Graph.look" "Graph" (some "look"),
  nmE "Layout" "Layout" none,
  nmE "Layout.__contains__" "Layout" (some "__contains__"),
  nmE "Layout.__init__" "Layout" (some "__init__"),
  nmE "NoCell" "NoCell" none,
  nmE "NoMatch" "NoMatch" none,
  nmE "NoObject" "NoObject" none,
  nmE "NoObject.__init__" "NoObject" (some "__init__"),
  nmE "PlaceError" "PlaceError" none,
  nmE "TooLarge" "TooLarge" none,
  nmE "_law_alike_right" "_law_alike_right" none,
  nmE "_law_begun" "_law_begun" none,
  nmE "_law_elsewhere_right" "_law_elsewhere_right" none,
  nmE "_law_fact" "_law_fact" none,
  nmE "_law_frame" "_law_frame" none,
  nmE "_law_holds" "_law_holds" none,
  nmE "_law_path" "_law_path" none,
  nmE "_law_path_of" "_law_path_of" none,
  nmE "_law_pick" "_law_pick" none,
  nmE "_law_read" "_law_read" none,
  nmE "_law_shape" "_law_shape" none,
  nmE "_law_strange" "_law_strange" none,
  nmE "_law_take" "_law_take" none,
  nmE "_law_value" "_law_value" none,
  nmE "_law_word" "_law_word" none,
  nmE "_law_words" "_law_words" none,
  nmE "_law_world" "_law_world" none,
  nmE "are_values" "are_values" none,
  nmE "holds" "holds" none,
  nmE "is_held" "is_held" none,
  nmE "is_integer" "is_integer" none,
  nmE "is_list" "is_list" none,
  nmE "is_name" "is_name" none,
  nmE "is_value" "is_value" none,
  nmE "law" "law" none,
  nmE "need_names" "need_names" none,
  nmE "need_values" "need_values" none,
  nmE "value_at" "value_at" none,
  nmE "value_of" "value_of" none]
end Q54
end
section
set_option maxHeartbeats 4000000
namespace Q54
open PySem PySem.Spec PyProof.Rows L2 Mp
/-! ### the head -/
def lamT : Nat → Option LamI := fun id => match id with
  | 0 => some (lamI (("law" : Str) ++ ".<locals>.") (lamArgs L0) (lamBody L0) (lamScope L0) ["_law_cells"])
  | _ => none
def fnL : List He.DefD := [⟨(("_law_begun" : Str), (none : Option Str)), "_law_begun", "_law_begun", defArgs (top 45), defBody (top 45), defScope (top 45), [], []⟩,
  ⟨(("_law_take" : Str), (none : Option Str)), "_law_take", "_law_take", defArgs (top 46), defBody (top 46), defScope (top 46), [], []⟩,
  ⟨(("_law_pick" : Str), (none : Option Str)), "_law_pick", "_law_pick", defArgs (top 47), defBody (top 47), defScope (top 47), [], []⟩,
  ⟨(("_law_words" : Str), (none : Option Str)), "_law_words", "_law_words", defArgs (top 48), defBody (top 48), defScope (top 48), [], []⟩,
  ⟨(("_law_frame" : Str), (none : Option Str)), "_law_frame", "_law_frame", defArgs (top 49), defBody (top 49), defScope (top 49), [], []⟩,
  ⟨(("is_list" : Str), (none : Option Str)), "is_list", "is_list", defArgs (top 26), defBody (top 26), defScope (top 26), [], []⟩,
  ⟨(("is_name" : Str), (none : Option Str)), "is_name", "is_name", defArgs (top 24), defBody (top 24), defScope (top 24), [], []⟩,
  ⟨(("need_names" : Str), (none : Option Str)), "need_names", "need_names", defArgs (top 42), defBody (top 42), defScope (top 42), [], []⟩,
  ⟨(("Layout" : Str), (some "__init__" : Option Str)), "__init__", "Layout.__init__", defArgs (mem (top 43) 0), defBody (mem (top 43) 0), defScope (mem (top 43) 0), [], []⟩,
  ⟨(("_law_shape" : Str), (none : Option Str)), "_law_shape", "_law_shape", defArgs (top 51), defBody (top 51), defScope (top 51), [], []⟩,
  ⟨(("_law_world" : Str), (none : Option Str)), "_law_world", "_law_world", defArgs (top 52), defBody (top 52), defScope (top 52), [], []⟩,
  ⟨(("is_integer" : Str), (none : Option Str)), "is_integer", "is_integer", defArgs (top 25), defBody (top 25), defScope (top 25), [], []⟩,
  ⟨(("is_held" : Str), (none : Option Str)), "is_held", "is_held", defArgs (top 29), defBody (top 29), defScope (top 29), [], []⟩,
  ⟨(("are_values" : Str), (none : Option Str)), "are_values", "are_values", defArgs (top 30), defBody (top 30), defScope (top 30), [], []⟩,
  ⟨(("Graph" : Str), (some "__init__" : Option Str)), "__init__", "Graph.__init__", defArgs (mem (top 32) 0), defBody (mem (top 32) 0), defScope (mem (top 32) 0), [], []⟩,
  ⟨(("Graph" : Str), (some "cells" : Option Str)), "cells", "Graph.cells", defArgs (mem (top 32) 8), defBody (mem (top 32) 8), defScope (mem (top 32) 8), [], []⟩,
  ⟨(("Graph" : Str), (some "contents" : Option Str)), "contents", "Graph.contents", defArgs (mem (top 32) 9), defBody (mem (top 32) 9), defScope (mem (top 32) 9), [], []⟩,
  ⟨(("_law_path" : Str), (none : Option Str)), "_law_path", "_law_path", defArgs (top 50), defBody (top 50), defScope (top 50), [], []⟩,
  ⟨(("_law_value" : Str), (none : Option Str)), "_law_value", "_law_value", defArgs (top 54), defBody (top 54), defScope (top 54), [], []⟩,
  ⟨(("_law_fact" : Str), (none : Option Str)), "_law_fact", "_law_fact", defArgs (top 55), defBody (top 55), defScope (top 55), [], []⟩,
  ⟨(("Fact" : Str), (some "__init__" : Option Str)), "__init__", "Fact.__init__", defArgs (mem (top 37) 0), defBody (mem (top 37) 0), defScope (mem (top 37) 0), [], []⟩,
  ⟨(("Layout" : Str), (some "__contains__" : Option Str)), "__contains__", "Layout.__contains__", defArgs (mem (top 43) 2), defBody (mem (top 43) 2), defScope (mem (top 43) 2), [], []⟩,
  ⟨(("is_value" : Str), (none : Option Str)), "is_value", "is_value", defArgs (top 17), defBody (top 17), defScope (top 17), [], []⟩,
  ⟨(("need_values" : Str), (none : Option Str)), "need_values", "need_values", defArgs (top 35), defBody (top 35), defScope (top 35), [], []⟩,
  ⟨(("Graph" : Str), (some "look" : Option Str)), "look", "Graph.look", defArgs (mem (top 32) 6), defBody (mem (top 32) 6), defScope (mem (top 32) 6), [], []⟩,
  ⟨(("value_at" : Str), (none : Option Str)), "value_at", "value_at", defArgs (top 18), defBody (top 18), defScope (top 18), [], []⟩,
  ⟨(("value_of" : Str), (none : Option Str)), "value_of", "value_of", defArgs (top 19), defBody (top 19), defScope (top 19), [], []⟩,
  ⟨(("holds" : Str), (none : Option Str)), "holds", "holds", defArgs (top 36), defBody (top 36), defScope (top 36), [], []⟩,
  ⟨(("Fact" : Str), (some "__call__" : Option Str)), "__call__", "Fact.__call__", defArgs (mem (top 37) 2), defBody (mem (top 37) 2), defScope (mem (top 37) 2), [], []⟩,
  ⟨(("_law_word" : Str), (none : Option Str)), "_law_word", "_law_word", defArgs (top 57), defBody (top 57), defScope (top 57), [], []⟩,
  ⟨(("_law_path_of" : Str), (none : Option Str)), "_law_path_of", "_law_path_of", defArgs (top 59), defBody (top 59), defScope (top 59), [], []⟩,
  ⟨(("_law_read" : Str), (none : Option Str)), "_law_read", "_law_read", defArgs (top 53), defBody (top 53), defScope (top 53), [], []⟩,
  ⟨(("_law_holds" : Str), (none : Option Str)), "_law_holds", "_law_holds", defArgs (top 56), defBody (top 56), defScope (top 56), [], []⟩,
  ⟨(("_law_elsewhere_right" : Str), (none : Option Str)), "_law_elsewhere_right", "_law_elsewhere_right", defArgs (top 61), defBody (top 61), defScope (top 61), [], []⟩,
  ⟨(("_law_strange" : Str), (none : Option Str)), "_law_strange", "_law_strange", defArgs (top 58), defBody (top 58), defScope (top 58), [], []⟩,
  ⟨(("Fact" : Str), (some "__eq__" : Option Str)), "__eq__", "Fact.__eq__", defArgs (mem (top 37) 1), defBody (mem (top 37) 1), defScope (mem (top 37) 1), [], []⟩,
  ⟨(("_law_alike_right" : Str), (none : Option Str)), "_law_alike_right", "_law_alike_right", defArgs (top 60), defBody (top 60), defScope (top 60), [], []⟩,
  ⟨(("law" : Str), (none : Option Str)), "law", "law", defArgs (top 62), defBody (top 62), defScope (top 62), [], []⟩,
  ⟨(("BadName" : Str), (some "__init__" : Option Str)), "__init__", "BadName.__init__", defArgs (mem (top 3) 0), defBody (mem (top 3) 0), defScope (mem (top 3) 0), [], []⟩,
  ⟨(("BadPath" : Str), (some "__init__" : Option Str)), "__init__", "BadPath.__init__", defArgs (mem (top 5) 0), defBody (mem (top 5) 0), defScope (mem (top 5) 0), [], []⟩,
  ⟨(("NoObject" : Str), (some "__init__" : Option Str)), "__init__", "NoObject.__init__", defArgs (mem (top 12) 0), defBody (mem (top 12) 0), defScope (mem (top 12) 0), [], []⟩]
def tfL : List He.Defn := [(("law" : Str), (none : Option Str))]
def ckL (K : PySem.W.Frag) (ad : Str → Addr) : List Bool := [gloB K "_law_begun" (.ref (ad "_law_begun")),
  gloB K "_law_take" (.ref (ad "_law_take")),
  gloB K "_law_pick" (.ref (ad "_law_pick")),
  gloB K "_law_words" (.ref (ad "_law_words")),
  gloB K "_law_frame" (.ref (ad "_law_frame")),
  gloB K "is_list" (.ref (ad "is_list")),
  gloB K "is_name" (.ref (ad "is_name")),
  gloB K "need_names" (.ref (ad "need_names")),
  gloB K "_law_shape" (.ref (ad "_law_shape")),
  gloB K "_law_world" (.ref (ad "_law_world")),
  gloB K "is_integer" (.ref (ad "is_integer")),
  gloB K "is_held" (.ref (ad "is_held")),
  gloB K "are_values" (.ref (ad "are_values")),
  gloB K "_law_path" (.ref (ad "_law_path")),
  gloB K "_law_value" (.ref (ad "_law_value")),
  gloB K "_law_fact" (.ref (ad "_law_fact")),
  gloB K "is_value" (.ref (ad "is_value")),
  gloB K "need_values" (.ref (ad "need_values")),
  gloB K "value_at" (.ref (ad "value_at")),
  gloB K "value_of" (.ref (ad "value_of")),
  gloB K "holds" (.ref (ad "holds")),
  gloB K "_law_word" (.ref (ad "_law_word")),
  gloB K "_law_path_of" (.ref (ad "_law_path_of")),
  gloB K "_law_read" (.ref (ad "_law_read")),
  gloB K "_law_holds" (.ref (ad "_law_holds")),
  gloB K "_law_elsewhere_right" (.ref (ad "_law_elsewhere_right")),
  gloB K "_law_strange" (.ref (ad "_law_strange")),
  gloB K "_law_alike_right" (.ref (ad "_law_alike_right")),
  gloB K "law" (.ref (ad "law")),
  gloB K "BadGraph" (.ref (ad "BadGraph")),
  gloB K "BadLayout" (.ref (ad "BadLayout")),
  gloB K "BadName" (.ref (ad "BadName")),
  gloB K "BadPath" (.ref (ad "BadPath")),
  gloB K "Fact" (.ref (ad "Fact")),
  gloB K "Graph" (.ref (ad "Graph")),
  gloB K "Layout" (.ref (ad "Layout")),
  gloB K "NoObject" (.ref (ad "NoObject")),
  gloB K "PlaceError" (.ref (ad "PlaceError")),
  gloB K "BadLine" (.ref (ad "BadLine")),
  gloB K "BadPlan" (.ref (ad "BadPlan")),
  gloB K "BadStatement" (.ref (ad "BadStatement")),
  gloB K "BadValue" (.ref (ad "BadValue")),
  gloB K "Faulted" (.ref (ad "Faulted")),
  gloB K "NoCell" (.ref (ad "NoCell")),
  gloB K "NoMatch" (.ref (ad "NoMatch")),
  gloB K "TooLarge" (.ref (ad "TooLarge")),
  gloB K "BadGraph" (.ref (ad "BadGraph")),
  gloB K "BadLayout" (.ref (ad "BadLayout")),
  gloB K "BadLine" (.ref (ad "BadLine")),
  gloB K "BadName" (.ref (ad "BadName")),
  gloB K "BadPath" (.ref (ad "BadPath")),
  gloB K "BadPlan" (.ref (ad "BadPlan")),
  gloB K "BadStatement" (.ref (ad "BadStatement")),
  gloB K "BadValue" (.ref (ad "BadValue")),
  gloB K "Fact" (.ref (ad "Fact")),
  gloB K "Faulted" (.ref (ad "Faulted")),
  (He.Fa.str "LETTERS" "abcdefghijklmnopqrstuvwxyz").ok K,
  (He.Fa.int "MOST_DEEP" 2).ok K,
  (He.Fa.int "MOST_FIELDS" 2).ok K,
  (He.Fa.int "MOST_LETTERS" 6).ok K,
  (He.Fa.int "MOST_NAMES" 3).ok K,
  (He.Fa.int "MOST_OBJECTS" 12).ok K,
  gloB K "NoCell" (.ref (ad "NoCell")),
  gloB K "NoMatch" (.ref (ad "NoMatch")),
  gloB K "NoObject" (.ref (ad "NoObject")),
  gloB K "TAKEN" (.ref (He.ga K "TAKEN")) && He.tupB K "TAKEN" (([.str "if", .str "else", .str "is", .str "not", .str "pass"] : List D).map dvD),
  gloB K "TooLarge" (.ref (ad "TooLarge")),
  gloB K "WORDS" (.ref (He.ga K "WORDS")) && He.tupB K "WORDS" (([.str "is", .str "is not"] : List D).map dvD),
  (He.Fa.free "ValueError").ok K,
  (He.Fa.free "abs").ok K,
  (He.Fa.free "all").ok K,
  (He.Fa.free "bool").ok K,
  (He.Fa.free "dict").ok K,
  (He.Fa.free "enumerate").ok K,
  (He.Fa.free "int").ok K,
  (He.Fa.free "isinstance").ok K,
  (He.Fa.free "len").ok K,
  (He.Fa.free "list").ok K,
  (He.Fa.free "range").ok K,
  (He.Fa.free "repr").ok K,
  (He.Fa.free "str").ok K,
  (He.Fa.free "tuple").ok K,
  (He.Fa.free "zip").ok K,
  attrB K ad "fields" a_fields,
  attrB K ad "held" a_held,
  attrB K ad "layout" a_layout,
  attrB K ad "names" a_names,
  attrB K ad "numbers" a_numbers,
  attrB K ad "one" a_one,
  attrB K ad "other" a_other,
  attrB K ad "word" a_word,
  attrEB K ad "path" ae_path,
  clsB K (ad "Graph") && (methB K (ad "Graph") "cells" (ad "Graph.cells") && PySem.W.fnIn K (ad "Graph.cells")),
  clsB K (ad "Graph") && (methB K (ad "Graph") "contents" (ad "Graph.contents") && PySem.W.fnIn K (ad "Graph.contents")),
  clsB K (ad "Layout") && (methB K (ad "Layout") "__contains__" (ad "Layout.__contains__") && PySem.W.fnIn K (ad "Layout.__contains__")),
  clsB K (ad "Graph") && (methB K (ad "Graph") "look" (ad "Graph.look") && PySem.W.fnIn K (ad "Graph.look")),
  clsB K (ad "Fact") && (methB K (ad "Fact") "__call__" (ad "Fact.__call__") && PySem.W.fnIn K (ad "Fact.__call__")),
  clsB K (ad "Fact") && (methB K (ad "Fact") "__eq__" (ad "Fact.__eq__") && PySem.W.fnIn K (ad "Fact.__eq__")),
  mkB K (ad "Fact") (ad "Fact.__init__"),
  mkB K (ad "Graph") (ad "Graph.__init__"),
  mkB K (ad "Layout") (ad "Layout.__init__"),
  catB K ad (.ref (ad "NoObject")) cat_NoObject,
  catB K ad (.ref (ad "PlaceError")) cat_PlaceError,
  er0B K (ad "BadGraph"),
  er0B K (ad "BadLayout"),
  oexcB K (ad "BadName") && (decide (PySem.W.findIn K (.ref (ad "BadName")) "__init__" = some (some (.ref (ad "BadName.__init__")))) && (decide (PySem.W.typeIn K (.ref (ad "BadName.__init__")) = some (.type "function")) && (["name"] : List Str).all fun f => noatB K (ad "BadName") f)),
  oexcB K (ad "BadPath") && (decide (PySem.W.findIn K (.ref (ad "BadPath")) "__init__" = some (some (.ref (ad "BadPath.__init__")))) && (decide (PySem.W.typeIn K (.ref (ad "BadPath.__init__")) = some (.type "function")) && (["path"] : List Str).all fun f => noatB K (ad "BadPath") f)),
  oexcB K (ad "NoObject") && (decide (PySem.W.findIn K (.ref (ad "NoObject")) "__init__" = some (some (.ref (ad "NoObject.__init__")))) && (decide (PySem.W.typeIn K (.ref (ad "NoObject.__init__")) = some (.type "function")) && (["path"] : List Str).all fun f => noatB K (ad "NoObject") f)),
  pinB K (ad "PlaceError"),
  isiBk K ad isiL,
  nfBk K ad nfL,
  neBk K ad (["Fact"] : List Str)]
def ck (K : PySem.W.Frag) : Bool := (ckL K (adrF nmT K)).all id
def eF (K : PySem.W.Frag) (w : World) : SE := ⟨K, adrF nmT K, w, [((He.cT K (("law" : Str), (none : Option Str))).2, nm_law)], lamT⟩
def loose0 : List PySem.Str := [("_wall" : PySem.Str), ("PlaceError" : PySem.Str), ("BadName" : PySem.Str), ("BadLayout" : PySem.Str), ("BadPath" : PySem.Str), ("BadGraph" : PySem.Str), ("NoCell" : PySem.Str), ("BadValue" : PySem.Str), ("BadStatement" : PySem.Str), ("NoMatch" : PySem.Str), ("TooLarge" : PySem.Str), ("NoObject" : PySem.Str), ("Faulted" : PySem.Str), ("BadPlan" : PySem.Str), ("BadLine" : PySem.Str), ("is_value" : PySem.Str), ("value_at" : PySem.Str), ("value_of" : PySem.Str), ("LETTERS" : PySem.Str), ("MOST_LETTERS" : PySem.Str), ("TAKEN" : PySem.Str), ("is_name" : PySem.Str), ("is_integer" : PySem.Str), ("is_list" : PySem.Str), ("MOST_OBJECTS" : PySem.Str), ("is_held" : PySem.Str), ("are_values" : PySem.Str), ("low" : PySem.Str), ("Graph" : PySem.Str), ("WORDS" : PySem.Str)]
def loose1 : List PySem.Str := [("need_values" : PySem.Str), ("holds" : PySem.Str), ("Fact" : PySem.Str), ("MOST_NAMES" : PySem.Str), ("MOST_FIELDS" : PySem.Str), ("MOST_DEEP" : PySem.Str), ("need_names" : PySem.Str), ("Layout" : PySem.Str), ("_law_begun" : PySem.Str), ("_law_take" : PySem.Str), ("_law_pick" : PySem.Str), ("_law_words" : PySem.Str), ("_law_frame" : PySem.Str), ("_law_path" : PySem.Str), ("_law_shape" : PySem.Str), ("_law_world" : PySem.Str), ("_law_read" : PySem.Str), ("_law_value" : PySem.Str), ("_law_fact" : PySem.Str), ("_law_holds" : PySem.Str), ("_law_word" : PySem.Str), ("_law_strange" : PySem.Str), ("_law_path_of" : PySem.Str), ("_law_alike_right" : PySem.Str), ("_law_elsewhere_right" : PySem.Str)]
def loose : List PySem.Str := loose0 ++ loose1
abbrev R : PySem.W.OpenRow := PySem.W.OpenLaw.row PySem.Challenge.rw_lateplaces_k54_facts_on_graphs
abbrev qv : Program := PySem.W.view R.prog [62]
abbrev hk : PySem.W.Hook := hookM 5 fnL tfL ck
def ob (s : PySem.W.SharedT) : AlM := obsM 5 fnL tfL ck (HandSHeadRun.getT s)
theorem ob_eq (s : PySem.W.SharedT) : ob s = hk.obs s.abs := obsM_eq (HandSHeadRun.getT_eq s)
theorem run (w : World) : HandSHeadRun.RunEq R qv hk ob 6000 loose w := by
  intro os
  kernel_rfl
end Q54
end
section
set_option maxHeartbeats 4000000
namespace Q54
open PySem PySem.Spec PyProof.Rows L2 Mp
structure Glob (P : Program) (w : World) (K : PySem.W.Frag) (mg : Str → Option Value) (base : Heap) (E : SE) : Prop where
  hK : K = E.K
  hw : w = E.w
  d_law_begun : ∃ fd, FunD K "_law_begun" "_law_begun" (defArgs (top 45)) (defBody (top 45)) (defScope (top 45)) [] [] (E.adr "_law_begun") fd
  d_law_take : ∃ fd, FunD K "_law_take" "_law_take" (defArgs (top 46)) (defBody (top 46)) (defScope (top 46)) [] [] (E.adr "_law_take") fd
  d_law_pick : ∃ fd, FunD K "_law_pick" "_law_pick" (defArgs (top 47)) (defBody (top 47)) (defScope (top 47)) [] [] (E.adr "_law_pick") fd
  d_law_words : ∃ fd, FunD K "_law_words" "_law_words" (defArgs (top 48)) (defBody (top 48)) (defScope (top 48)) [] [] (E.adr "_law_words") fd
  d_law_frame : ∃ fd, FunD K "_law_frame" "_law_frame" (defArgs (top 49)) (defBody (top 49)) (defScope (top 49)) [] [] (E.adr "_law_frame") fd
  d_is_list : ∃ fd, FunD K "is_list" "is_list" (defArgs (top 26)) (defBody (top 26)) (defScope (top 26)) [] [] (E.adr "is_list") fd
  d_is_name : ∃ fd, FunD K "is_name" "is_name" (defArgs (top 24)) (defBody (top 24)) (defScope (top 24)) [] [] (E.adr "is_name") fd
  d_need_names : ∃ fd, FunD K "need_names" "need_names" (defArgs (top 42)) (defBody (top 42)) (defScope (top 42)) [] [] (E.adr "need_names") fd
  d_Layout___init__ : ∃ fd, FunD K "__init__" "Layout.__init__" (defArgs (mem (top 43) 0)) (defBody (mem (top 43) 0)) (defScope (mem (top 43) 0)) [] [] (E.adr "Layout.__init__") fd
  d_law_shape : ∃ fd, FunD K "_law_shape" "_law_shape" (defArgs (top 51)) (defBody (top 51)) (defScope (top 51)) [] [] (E.adr "_law_shape") fd
  d_law_world : ∃ fd, FunD K "_law_world" "_law_world" (defArgs (top 52)) (defBody (top 52)) (defScope (top 52)) [] [] (E.adr "_law_world") fd
  d_is_integer : ∃ fd, FunD K "is_integer" "is_integer" (defArgs (top 25)) (defBody (top 25)) (defScope (top 25)) [] [] (E.adr "is_integer") fd
  d_is_held : ∃ fd, FunD K "is_held" "is_held" (defArgs (top 29)) (defBody (top 29)) (defScope (top 29)) [] [] (E.adr "is_held") fd
  d_are_values : ∃ fd, FunD K "are_values" "are_values" (defArgs (top 30)) (defBody (top 30)) (defScope (top 30)) [] [] (E.adr "are_values") fd
  d_Graph___init__ : ∃ fd, FunD K "__init__" "Graph.__init__" (defArgs (mem (top 32) 0)) (defBody (mem (top 32) 0)) (defScope (mem (top 32) 0)) [] [] (E.adr "Graph.__init__") fd
  d_Graph_cells : ∃ fd, FunD K "cells" "Graph.cells" (defArgs (mem (top 32) 8)) (defBody (mem (top 32) 8)) (defScope (mem (top 32) 8)) [] [] (E.adr "Graph.cells") fd
  d_Graph_contents : ∃ fd, FunD K "contents" "Graph.contents" (defArgs (mem (top 32) 9)) (defBody (mem (top 32) 9)) (defScope (mem (top 32) 9)) [] [] (E.adr "Graph.contents") fd
  d_law_path : ∃ fd, FunD K "_law_path" "_law_path" (defArgs (top 50)) (defBody (top 50)) (defScope (top 50)) [] [] (E.adr "_law_path") fd
  d_law_value : ∃ fd, FunD K "_law_value" "_law_value" (defArgs (top 54)) (defBody (top 54)) (defScope (top 54)) [] [] (E.adr "_law_value") fd
  d_law_fact : ∃ fd, FunD K "_law_fact" "_law_fact" (defArgs (top 55)) (defBody (top 55)) (defScope (top 55)) [] [] (E.adr "_law_fact") fd
  d_Fact___init__ : ∃ fd, FunD K "__init__" "Fact.__init__" (defArgs (mem (top 37) 0)) (defBody (mem (top 37) 0)) (defScope (mem (top 37) 0)) [] [] (E.adr "Fact.__init__") fd
  d_Layout___contains__ : ∃ fd, FunD K "__contains__" "Layout.__contains__" (defArgs (mem (top 43) 2)) (defBody (mem (top 43) 2)) (defScope (mem (top 43) 2)) [] [] (E.adr "Layout.__contains__") fd
  d_is_value : ∃ fd, FunD K "is_value" "is_value" (defArgs (top 17)) (defBody (top 17)) (defScope (top 17)) [] [] (E.adr "is_value") fd
  d_need_values : ∃ fd, FunD K "need_values" "need_values" (defArgs (top 35)) (defBody (top 35)) (defScope (top 35)) [] [] (E.adr "need_values") fd
  d_Graph_look : ∃ fd, FunD K "look" "Graph.look" (defArgs (mem (top 32) 6)) (defBody (mem (top 32) 6)) (defScope (mem (top 32) 6)) [] [] (E.adr "Graph.look") fd
  d_value_at : ∃ fd, FunD K "value_at" "value_at" (defArgs (top 18)) (defBody (top 18)) (defScope (top 18)) [] [] (E.adr "value_at") fd
  d_value_of : ∃ fd, FunD K "value_of" "value_of" (defArgs (top 19)) (defBody (top 19)) (defScope (top 19)) [] [] (E.adr "value_of") fd
  d_holds : ∃ fd, FunD K "holds" "holds" (defArgs (top 36)) (defBody (top 36)) (defScope (top 36)) [] [] (E.adr "holds") fd
  d_Fact___call__ : ∃ fd, FunD K "__call__" "Fact.__call__" (defArgs (mem (top 37) 2)) (defBody (mem (top 37) 2)) (defScope (mem (top 37) 2)) [] [] (E.adr "Fact.__call__") fd
  d_law_word : ∃ fd, FunD K "_law_word" "_law_word" (defArgs (top 57)) (defBody (top 57)) (defScope (top 57)) [] [] (E.adr "_law_word") fd
  d_law_path_of : ∃ fd, FunD K "_law_path_of" "_law_path_of" (defArgs (top 59)) (defBody (top 59)) (defScope (top 59)) [] [] (E.adr "_law_path_of") fd
  d_law_read : ∃ fd, FunD K "_law_read" "_law_read" (defArgs (top 53)) (defBody (top 53)) (defScope (top 53)) [] [] (E.adr "_law_read") fd
  d_law_holds : ∃ fd, FunD K "_law_holds" "_law_holds" (defArgs (top 56)) (defBody (top 56)) (defScope (top 56)) [] [] (E.adr "_law_holds") fd
  d_law_elsewhere_right : ∃ fd, FunD K "_law_elsewhere_right" "_law_elsewhere_right" (defArgs (top 61)) (defBody (top 61)) (defScope (top 61)) [] [] (E.adr "_law_elsewhere_right") fd
  d_law_strange : ∃ fd, FunD K "_law_strange" "_law_strange" (defArgs (top 58)) (defBody (top 58)) (defScope (top 58)) [] [] (E.adr "_law_strange") fd
  d_Fact___eq__ : ∃ fd, FunD K "__eq__" "Fact.__eq__" (defArgs (mem (top 37) 1)) (defBody (mem (top 37) 1)) (defScope (mem (top 37) 1)) [] [] (E.adr "Fact.__eq__") fd
  d_law_alike_right : ∃ fd, FunD K "_law_alike_right" "_law_alike_right" (defArgs (top 60)) (defBody (top 60)) (defScope (top 60)) [] [] (E.adr "_law_alike_right") fd
  d_law : ∃ fd, FunD K "law" "law" (defArgs (top 62)) (defBody (top 62)) (defScope (top 62)) [] [] (E.adr "law") fd
  d_BadName___init__ : ∃ fd, FunD K "__init__" "BadName.__init__" (defArgs (mem (top 3) 0)) (defBody (mem (top 3) 0)) (defScope (mem (top 3) 0)) [] [] (E.adr "BadName.__init__") fd
  d_BadPath___init__ : ∃ fd, FunD K "__init__" "BadPath.__init__" (defArgs (mem (top 5) 0)) (defBody (mem (top 5) 0)) (defScope (mem (top 5) 0)) [] [] (E.adr "BadPath.__init__") fd
  d_NoObject___init__ : ∃ fd, FunD K "__init__" "NoObject.__init__" (defArgs (mem (top 12) 0)) (defBody (mem (top 12) 0)) (defScope (mem (top 12) 0)) [] [] (E.adr "NoObject.__init__") fd
  g_law_begun : mg "_law_begun" = some (.ref (E.adr "_law_begun"))
  g_law_take : mg "_law_take" = some (.ref (E.adr "_law_take"))
  g_law_pick : mg "_law_pick" = some (.ref (E.adr "_law_pick"))
  g_law_words : mg "_law_words" = some (.ref (E.adr "_law_words"))
  g_law_frame : mg "_law_frame" = some (.ref (E.adr "_law_frame"))
  g_is_list : mg "is_list" = some (.ref (E.adr "is_list"))
  g_is_name : mg "is_name" = some (.ref (E.adr "is_name"))
  g_need_names : mg "need_names" = some (.ref (E.adr "need_names"))
  g_law_shape : mg "_law_shape" = some (.ref (E.adr "_law_shape"))
  g_law_world : mg "_law_world" = some (.ref (E.adr "_law_world"))
  g_is_integer : mg "is_integer" = some (.ref (E.adr "is_integer"))
  g_is_held : mg "is_held" = some (.ref (E.adr "is_held"))
  g_are_values : mg "are_values" = some (.ref (E.adr "are_values"))
  g_law_path : mg "_law_path" = some (.ref (E.adr "_law_path"))
  g_law_value : mg "_law_value" = some (.ref (E.adr "_law_value"))
  g_law_fact : mg "_law_fact" = some (.ref (E.adr "_law_fact"))
  g_is_value : mg "is_value" = some (.ref (E.adr "is_value"))
  g_need_values : mg "need_values" = some (.ref (E.adr "need_values"))
  g_value_at : mg "value_at" = some (.ref (E.adr "value_at"))
  g_value_of : mg "value_of" = some (.ref (E.adr "value_of"))
  g_holds : mg "holds" = some (.ref (E.adr "holds"))
  g_law_word : mg "_law_word" = some (.ref (E.adr "_law_word"))
  g_law_path_of : mg "_law_path_of" = some (.ref (E.adr "_law_path_of"))
  g_law_read : mg "_law_read" = some (.ref (E.adr "_law_read"))
  g_law_holds : mg "_law_holds" = some (.ref (E.adr "_law_holds"))
  g_law_elsewhere_right : mg "_law_elsewhere_right" = some (.ref (E.adr "_law_elsewhere_right"))
  g_law_strange : mg "_law_strange" = some (.ref (E.adr "_law_strange"))
  g_law_alike_right : mg "_law_alike_right" = some (.ref (E.adr "_law_alike_right"))
  g_law : mg "law" = some (.ref (E.adr "law"))
  g_BadGraph : mg "BadGraph" = some (.ref (E.adr "BadGraph"))
  g_BadLayout : mg "BadLayout" = some (.ref (E.adr "BadLayout"))
  g_BadName : mg "BadName" = some (.ref (E.adr "BadName"))
  g_BadPath : mg "BadPath" = some (.ref (E.adr "BadPath"))
  g_Fact : mg "Fact" = some (.ref (E.adr "Fact"))
  g_Graph : mg "Graph" = some (.ref (E.adr "Graph"))
  g_Layout : mg "Layout" = some (.ref (E.adr "Layout"))
  g_NoObject : mg "NoObject" = some (.ref (E.adr "NoObject"))
  g_PlaceError : mg "PlaceError" = some (.ref (E.adr "PlaceError"))
  g_BadLine : mg "BadLine" = some (.ref (E.adr "BadLine"))
  g_BadPlan : mg "BadPlan" = some (.ref (E.adr "BadPlan"))
  g_BadStatement : mg "BadStatement" = some (.ref (E.adr "BadStatement"))
  g_BadValue : mg "BadValue" = some (.ref (E.adr "BadValue"))
  g_Faulted : mg "Faulted" = some (.ref (E.adr "Faulted"))
  g_NoCell : mg "NoCell" = some (.ref (E.adr "NoCell"))
  g_NoMatch : mg "NoMatch" = some (.ref (E.adr "NoMatch"))
  g_TooLarge : mg "TooLarge" = some (.ref (E.adr "TooLarge"))
  k_BadGraph : GloD E mg "BadGraph" (.fn "BadGraph")
  k_BadLayout : GloD E mg "BadLayout" (.fn "BadLayout")
  k_BadLine : GloD E mg "BadLine" (.fn "BadLine")
  k_BadName : GloD E mg "BadName" (.fn "BadName")
  k_BadPath : GloD E mg "BadPath" (.fn "BadPath")
  k_BadPlan : GloD E mg "BadPlan" (.fn "BadPlan")
  k_BadStatement : GloD E mg "BadStatement" (.fn "BadStatement")
  k_BadValue : GloD E mg "BadValue" (.fn "BadValue")
  k_Fact : GloD E mg "Fact" (.fn "Fact")
  k_Faulted : GloD E mg "Faulted" (.fn "Faulted")
  k_LETTERS : GloD E mg "LETTERS" g_LETTERS
  k_MOST_DEEP : GloD E mg "MOST_DEEP" g_MOST_DEEP
  k_MOST_FIELDS : GloD E mg "MOST_FIELDS" g_MOST_FIELDS
  k_MOST_LETTERS : GloD E mg "MOST_LETTERS" g_MOST_LETTERS
  k_MOST_NAMES : GloD E mg "MOST_NAMES" g_MOST_NAMES
  k_MOST_OBJECTS : GloD E mg "MOST_OBJECTS" g_MOST_OBJECTS
  k_NoCell : GloD E mg "NoCell" (.fn "NoCell")
  k_NoMatch : GloD E mg "NoMatch" (.fn "NoMatch")
  k_NoObject : GloD E mg "NoObject" (.fn "NoObject")
  k_TAKEN : GloD E mg "TAKEN" g_TAKEN
  k_TooLarge : GloD E mg "TooLarge" (.fn "TooLarge")
  k_WORDS : GloD E mg "WORDS" g_WORDS
  free_ValueError : mg "ValueError" = none
  free_abs : mg "abs" = none
  free_all : mg "all" = none
  free_bool : mg "bool" = none
  free_dict : mg "dict" = none
  free_enumerate : mg "enumerate" = none
  free_int : mg "int" = none
  free_isinstance : mg "isinstance" = none
  free_len : mg "len" = none
  free_list : mg "list" = none
  free_range : mg "range" = none
  free_repr : mg "repr" = none
  free_str : mg "str" = none
  free_tuple : mg "tuple" = none
  free_zip : mg "zip" = none
  a_fields : AttrOk E "fields" a_fields
  a_held : AttrOk E "held" a_held
  a_layout : AttrOk E "layout" a_layout
  a_names : AttrOk E "names" a_names
  a_numbers : AttrOk E "numbers" a_numbers
  a_one : AttrOk E "one" a_one
  a_other : AttrOk E "other" a_other
  a_word : AttrOk E "word" a_word
  ae_path : AttrEOk E "path" ae_path
  mt_Graph_cells : Cls K (E.adr "Graph") ∧ Meth K (E.adr "Graph") "cells" (E.adr "Graph.cells") ∧ PySem.W.fnIn K (E.adr "Graph.cells") = true
  mt_Graph_contents : Cls K (E.adr "Graph") ∧ Meth K (E.adr "Graph") "contents" (E.adr "Graph.contents") ∧ PySem.W.fnIn K (E.adr "Graph.contents") = true
  mt_Layout___contains__ : Cls K (E.adr "Layout") ∧ Meth K (E.adr "Layout") "__contains__" (E.adr "Layout.__contains__") ∧ PySem.W.fnIn K (E.adr "Layout.__contains__") = true
  mt_Graph_look : Cls K (E.adr "Graph") ∧ Meth K (E.adr "Graph") "look" (E.adr "Graph.look") ∧ PySem.W.fnIn K (E.adr "Graph.look") = true
  mt_Fact___call__ : Cls K (E.adr "Fact") ∧ Meth K (E.adr "Fact") "__call__" (E.adr "Fact.__call__") ∧ PySem.W.fnIn K (E.adr "Fact.__call__") = true
  mt_Fact___eq__ : Cls K (E.adr "Fact") ∧ Meth K (E.adr "Fact") "__eq__" (E.adr "Fact.__eq__") ∧ PySem.W.fnIn K (E.adr "Fact.__eq__") = true
  mk_Fact : Mk K (E.adr "Fact") (E.adr "Fact.__init__")
  mk_Graph : Mk K (E.adr "Graph") (E.adr "Graph.__init__")
  mk_Layout : Mk K (E.adr "Layout") (E.adr "Layout.__init__")
  cat_NoObject : CatOk E (.ref (E.adr "NoObject")) cat_NoObject
  cat_PlaceError : CatOk E (.ref (E.adr "PlaceError")) cat_PlaceError
  e_BadGraph : Er0 K (E.adr "BadGraph")
  e_BadLayout : Er0 K (E.adr "BadLayout")
  o_BadName : OexC K (E.adr "BadName") ∧ PySem.W.findIn K (.ref (E.adr "BadName")) "__init__" = some (some (.ref (E.adr "BadName.__init__"))) ∧ PySem.W.typeIn K (.ref (E.adr "BadName.__init__")) = some (.type "function") ∧ ∀ f ∈ (["name"] : List Str), PySem.W.findIn K (.ref (E.adr "BadName")) f = some none
  o_BadPath : OexC K (E.adr "BadPath") ∧ PySem.W.findIn K (.ref (E.adr "BadPath")) "__init__" = some (some (.ref (E.adr "BadPath.__init__"))) ∧ PySem.W.typeIn K (.ref (E.adr "BadPath.__init__")) = some (.type "function") ∧ ∀ f ∈ (["path"] : List Str), PySem.W.findIn K (.ref (E.adr "BadPath")) f = some none
  o_NoObject : OexC K (E.adr "NoObject") ∧ PySem.W.findIn K (.ref (E.adr "NoObject")) "__init__" = some (some (.ref (E.adr "NoObject.__init__"))) ∧ PySem.W.typeIn K (.ref (E.adr "NoObject.__init__")) = some (.type "function") ∧ ∀ f ∈ (["path"] : List Str), PySem.W.findIn K (.ref (E.adr "NoObject")) f = some none
  pe : PIn K (E.adr "PlaceError")
  isi : IsiOk E isi
  nf : NfOk E nf
  ne_t_eq_Fact : NeOk E t_eq_Fact
  ad_law : E.adr "law" = He.fAd K (("law" : Str), (none : Option Str))
  t_law : ∃ T, LamX.TabB base mg (He.codeOf K (("law" : Str), (none : Option Str))) T ∧ (T, nm_law) ∈ E.tb ∧ ∀ p ∈ E.tb, p.1 = T → p.2 = nm_law
  lam_0 : E.lam 0 = some (lamI (("law" : Str) ++ ".<locals>.") (lamArgs L0) (lamBody L0) (lamScope L0) ["_law_cells"])
end Q54
end
section
set_option maxHeartbeats 4000000
namespace Q54
open PySem PySem.Spec PyProof.Rows L2 Mp
/-! ### the walks -/
section
variable {P : Program} {w : World} {K : PySem.W.Frag} {mg : Str → Option Value} {base : Heap} {E : SE}
theorem hfree_0 : ∀ y ∈ (lamScope L0).names, y.2 = .free → (defScope (top 62)).names.lookup y.1 = some .cell ∨ (defScope (top 62)).names.lookup y.1 = some .free := by decide +kernel
theorem lamo_0 (G : Glob P w K mg base E) : CloOk P w K mg base E 1 0 (lamFn 2 1 1 b_lam0) := by
  have hK := G.hK; have hw := G.hw
  refine lam_ok (N := ["_law_cell", "_law_cells"]) (ps := ["_law_cell"]) (fr := ["_law_cells"]) (k := 0) (m := b_lam0) G.lam_0 (NdefX.nscope_by (by decide +kernel)) ?_ ?_
  · intro cl c pm ctv us hl; match us, hl with | [_], _ => rfl
  · intro F f A outer s H XE hsc hr
    obtain ⟨_, _, _, _, sc, _, _⟩ := F; have hsc : sc = lamScope L0 := hsc; subst hsc
    exact (s_ixM (im_ix hK hw hr) (s_var 1) (s_var 0))
def cls_law {s : Shared} {f : Addr} {cd : Value} : Nat → List (Str × Addr) := fun id => match id with
  | 0 => cloFrom (envOfC "law" (defScope (top 62)) s.heap.objs.size f cd).cells (lamScope L0).names []
  | _ => []
theorem capsOk_law (G : Glob P w K mg base E) {s : Shared} {f : Addr} {cd : Value} {X : Cx} (hN : X.N = n_law) (he : X.env = envOfC "law" (defScope (top 62)) s.heap.objs.size f cd) : ∀ id js, caps_law id = some js → ∃ L, E.lam id = some L ∧ (X.Ok → NdefX.Caps X (cls_law (s := s) (f := f) (cd := cd) id) L.fr js) := by
  intro id js h; unfold caps_law at h; split at h
  · cases h; refine ⟨_, G.lam_0, fun ok => ?_⟩; unfold cls_law; rw [← he]; exact .made ok (by rw [he]; exact hfree_0) (by decide +kernel) (by rw [hN]; rfl)
  · cases h
theorem ctabOk (G : Glob P w K mg base E) : ClTabOk P w K mg base E 1 ctab := by
  intro id fm h; unfold ctab at h; split at h
  · cases h; exact lamo_0 G
  · cases h
theorem sc_BadName___init__ : FnScope ["self", "name"] ["self", "name"] (defScope (mem (top 3) 0)) := ⟨rfl, rfl, rfl, by decide +kernel, rfl, by decide +kernel, by decide +kernel⟩
theorem e_BadName (G : Glob P w K mg base E) : ExD P w K mg base 1 (E.adr "BadName") ["name"] := by
  obtain ⟨fd, F⟩ := G.d_BadName___init__
  obtain ⟨h1, h2, h3, h4⟩ := G.o_BadName
  refine ex_init (l := []) (p := ("name", 1)) (x := "not a name, or not a new one") (k := 0) F sc_BadName___init__ h1 h2 h3 (F.bindsN fun _ _ _ _ _ _ us hl => match us, hl with | [_, _], _ => rfl) (fun q hq => h4 _ (List.mem_map_of_mem (f := Prod.fst) hq)) rfl rfl (by decide) fun cdv A outer s H XE hr => ?_
  exact pss_cons (ps_expr (pe_pinit G.pe rfl G.g_PlaceError (pa_cons (pv 0) (pa_cons pe_str pa_nil)))) (pss_cons (ps_ost (pv 0) (pv 1)) pss_nil)
theorem sc_BadPath___init__ : FnScope ["self", "path"] ["self", "path"] (defScope (mem (top 5) 0)) := ⟨rfl, rfl, rfl, by decide +kernel, rfl, by decide +kernel, by decide +kernel⟩
theorem e_BadPath (G : Glob P w K mg base E) : ExD P w K mg base 1 (E.adr "BadPath") ["path"] := by
  obtain ⟨fd, F⟩ := G.d_BadPath___init__
  obtain ⟨h1, h2, h3, h4⟩ := G.o_BadPath
  refine ex_init (l := []) (p := ("path", 1)) (x := "not a path") (k := 0) F sc_BadPath___init__ h1 h2 h3 (F.bindsN fun _ _ _ _ _ _ us hl => match us, hl with | [_, _], _ => rfl) (fun q hq => h4 _ (List.mem_map_of_mem (f := Prod.fst) hq)) rfl rfl (by decide) fun cdv A outer s H XE hr => ?_
  exact pss_cons (ps_expr (pe_pinit G.pe rfl G.g_PlaceError (pa_cons (pv 0) (pa_cons pe_str pa_nil)))) (pss_cons (ps_ost (pv 0) (pv 1)) pss_nil)
theorem sc_NoObject___init__ : FnScope ["self", "path"] ["self", "path"] (defScope (mem (top 12) 0)) := ⟨rfl, rfl, rfl, by decide +kernel, rfl, by decide +kernel, by decide +kernel⟩
theorem e_NoObject (G : Glob P w K mg base E) : ExD P w K mg base 1 (E.adr "NoObject") ["path"] := by
  obtain ⟨fd, F⟩ := G.d_NoObject___init__
  obtain ⟨h1, h2, h3, h4⟩ := G.o_NoObject
  refine ex_init (l := []) (p := ("path", 1)) (x := "no object there") (k := 0) F sc_NoObject___init__ h1 h2 h3 (F.bindsN fun _ _ _ _ _ _ us hl => match us, hl with | [_, _], _ => rfl) (fun q hq => h4 _ (List.mem_map_of_mem (f := Prod.fst) hq)) rfl rfl (by decide) fun cdv A outer s H XE hr => ?_
  exact pss_cons (ps_expr (pe_pinit G.pe rfl G.g_PlaceError (pa_cons (pv 0) (pa_cons pe_str pa_nil)))) (pss_cons (ps_ost (pv 0) (pv 1)) pss_nil)
theorem sc_law_begun : FnScope n_law_begun ["_law_script"] (defScope (top 45)) := ⟨rfl, rfl, rfl, by decide +kernel, rfl, by decide +kernel, by decide +kernel⟩
theorem c_law_begun (G : Glob P w K mg base E) : FnE P w K mg base E 1 "_law_begun" f_law_begun := by
  obtain ⟨fd, F⟩ := G.d_law_begun
  have hb : Binds K fd ["_law_script"] [] := F.bindsN fun _ _ _ _ _ _ us hl => match us, hl with | [_], _ => rfl
  have hkp := F.kp
  have hK := G.hK; have hw := G.hw; have nd := sc_law_begun.nd
  have hF : FnOk P w K mg base (L2.CX P w) (0 + 1) (E.adr "_law_begun") fd ["_law_script"] (spI E (mkFn n_law_begun.length (["_law_script"] : List Str).length b_law_begun)) := by
    have h1 := fn_s (E := E) (w := w) (P := P) (mg := mg) (base := base) (k := 0) (m := b_law_begun) F sc_law_begun
    refine h1 ?_; clear h1
    intro cdv A outer s H XE hr
    exact (s_scons (s_setComp false 1 [("_law_cell", 2)] rfl nd rfl rfl (s_iseq hK (s_var 0)) (blkOk_by rfl) (fun _ _ _ _ _ => (s_gnameW [2] 2 nd rfl (by first | exact .inl rfl | exact .inr rfl))) (fun _ _ _ _ _ => s_tsnil) (fun _ _ _ _ _ => (s_callB (call_abs) (abs_s) (by rfl) G.free_abs boot_abs (s_cons (s_var 2) s_nil))))
    (s_sone (s_ret (s_disp hK hw (un16 hr) true (s_ppcons s_str (s_comp true [("_law_cell", 2)] rfl nd (s_iseq hK (s_var 1)) (blkOk_by rfl) (fun _ _ _ _ _ => (s_gnameW [2] 2 nd rfl (by first | exact .inl rfl | exact .inr rfl))) (fun _ _ _ _ _ => (s_tsone (s_cmpMT (om_ge) (s_var 2) (s_binM (om_pow) s_int s_int) (nomark _)))) (fun _ _ _ _ _ => (s_var 2))) (s_ppcons s_str (s_var 1) (s_ppcons s_str s_int (s_ppcons s_str s_int (s_ppcons s_str s_int s_ppnil)))))))))
  exact ⟨_, _, _, hF, hb, G.g_law_begun, hkp⟩
theorem sc_law_take : FnScope n_law_take ["_law_draw", "_law_many"] (defScope (top 46)) := ⟨rfl, rfl, rfl, by decide +kernel, rfl, by decide +kernel, by decide +kernel⟩
theorem c_law_take (G : Glob P w K mg base E) : FnE P w K mg base E 1 "_law_take" f_law_take := by
  obtain ⟨fd, F⟩ := G.d_law_take
  have hb : Binds K fd ["_law_draw", "_law_many"] [] := F.bindsN fun _ _ _ _ _ _ us hl => match us, hl with | [_, _], _ => rfl
  have hkp := F.kp
  have hK := G.hK; have hw := G.hw; have nd := sc_law_take.nd
  have hF : FnOk P w K mg base (L2.CX P w) (0 + 1) (E.adr "_law_take") fd ["_law_draw", "_law_many"] (spI E (mkFn n_law_take.length (["_law_draw", "_law_many"] : List Str).length b_law_take)) := by
    have h1 := fn_s (E := E) (w := w) (P := P) (mg := mg) (base := base) (k := 0) (m := b_law_take) F sc_law_take
    refine h1 ?_; clear h1
    intro cdv A outer s H XE hr
    exact (s_scons (s_while cx_owns (s_and (s_cmpMT (om_eq hK hr) (s_ixM (im_ix hK hw hr) (s_var 0) s_str) s_int (nomark _)) (s_and1 (s_cmpMT (om_ne hK hr) (s_ixM (im_ix hK hw hr) (s_var 0) s_str) (s_lstN false s_nil) (nomark _)))).pt (s_sone (s_asg (s_met hK rfl PySem.F.plainAttrs_list PySem.F.slot_list_pop PySem.F.type_list_pop (met_popAt) (s_ixM (im_ix hK hw hr) (s_var 0) s_str) (s_cons s_int s_nil)) (s_gsub (sm_set hK hw hr) (s_var 0) s_str))))
    (s_scons (s_if (s_cmpMT (om_gt) (s_ixM (im_ix hK hw hr) (s_var 0) s_str) s_int (nomark _)) (s_scons (s_asg (s_binM (om_mod) (s_callTy (call_int1) (int1_s) (by rfl) G.free_int boot_int (s_cons (s_ixM (im_ix hK hw hr) (s_var 0) s_str) s_nil)) (s_var 1)) (s_gname 2 nd rfl (by first | exact .inl rfl | exact .inr rfl)))
    (s_scons (s_asg (s_binM (om_fdiv) (s_ixM (im_ix hK hw hr) (s_var 0) s_str) (s_var 1)) (s_gsub (sm_set hK hw hr) (s_var 0) s_str))
    (s_sone (s_ret (s_var 2))))) s_snil)
    (s_scons (s_asg s_int (s_gname 3 nd rfl (by first | exact .inl rfl | exact .inr rfl)))
    (s_scons (s_if (s_cmpMT (om_ne hK hr) (s_ixM (im_ix hK hw hr) (s_var 0) s_str) (s_lstN false s_nil) (nomark _)) (s_sone (s_asg (s_ixM (im_ix hK hw hr) (s_ixM (im_ix hK hw hr) (s_var 0) s_str) (s_binM (om_mod) (s_ixM (im_ix hK hw hr) (s_var 0) s_str) (s_callB (call_len) (len_s hK) (by rfl) G.free_len boot_len (s_cons (s_ixM (im_ix hK hw hr) (s_var 0) s_str) s_nil)))) (s_gname 3 nd rfl (by first | exact .inl rfl | exact .inr rfl)))) s_snil)
    (s_scons (s_asg (s_binM (om_add hK) (s_ixM (im_ix hK hw hr) (s_var 0) s_str) s_int) (s_gsub (sm_set hK hw hr) (s_var 0) s_str))
    (s_scons (s_asg (s_binM (om_mod) (s_callTy (call_int1) (int1_s) (by rfl) G.free_int boot_int (s_cons (s_binM (om_add hK) (s_binM (om_add hK) (s_binM (om_mul) (s_ixM (im_ix hK hw hr) (s_var 0) s_str) s_int) (s_var 3)) (s_binM (om_mul) s_int (s_ixM (im_ix hK hw hr) (s_var 0) s_str))) s_nil)) s_int) (s_gsub (sm_set hK hw hr) (s_var 0) s_str))
    (s_scons (s_asg (s_binM (om_mod) (s_callTy (call_int1) (int1_s) (by rfl) G.free_int boot_int (s_cons (s_binM (om_add hK) (s_binM (om_add hK) (s_binM (om_mul) (s_ixM (im_ix hK hw hr) (s_var 0) s_str) (s_ixM (im_ix hK hw hr) (s_var 0) s_str)) (s_binM (om_mul) s_int (s_ixM (im_ix hK hw hr) (s_var 0) s_str))) s_int) s_nil)) s_int) (s_gname 4 nd rfl (by first | exact .inl rfl | exact .inr rfl)))
    (s_sone (s_ret (s_binM (om_mod) (s_callTy (call_int1) (int1_s) (by rfl) G.free_int boot_int (s_cons (s_binM (om_fdiv) (s_binM (om_mod) (s_callTy (call_int1) (int1_s) (by rfl) G.free_int boot_int (s_cons (s_binM (om_mul) (s_var 4) (s_var 4)) s_nil)) s_int) s_int) s_nil)) (s_var 1)))))))))))
  exact ⟨_, _, _, hF, hb, G.g_law_take, hkp⟩
theorem sc_law_pick : FnScope n_law_pick ["_law_draw", "_law_some"] (defScope (top 47)) := ⟨rfl, rfl, rfl, by decide +kernel, rfl, by decide +kernel, by decide +kernel⟩
theorem c_law_pick (G : Glob P w K mg base E) : FnE P w K mg base E 2 "_law_pick" f_law_pick := by
  obtain ⟨fd, F⟩ := G.d_law_pick
  have hb : Binds K fd ["_law_draw", "_law_some"] [] := F.bindsN fun _ _ _ _ _ _ us hl => match us, hl with | [_, _], _ => rfl
  have hkp := F.kp
  have hK := G.hK; have hw := G.hw; have nd := sc_law_pick.nd
  have hF : FnOk P w K mg base (L2.CX P w) (1 + 1) (E.adr "_law_pick") fd ["_law_draw", "_law_some"] (spI E (mkFn n_law_pick.length (["_law_draw", "_law_some"] : List Str).length b_law_pick)) := by
    have h1 := fn_s (E := E) (w := w) (P := P) (mg := mg) (base := base) (k := 1) (m := b_law_pick) F sc_law_pick
    refine h1 ?_; clear h1
    intro cdv A outer s H XE hr
    exact (s_sone (s_ret (s_ixM (im_ix hK hw hr) (s_var 1) (s_callE (c_law_take G) hr (by decide) cx_takes (s_cons (s_var 0) (s_cons (s_callB (call_len) (len_s hK) (by rfl) G.free_len boot_len (s_cons (s_var 1) s_nil)) s_nil))))))
  exact ⟨_, _, _, hF, hb, G.g_law_pick, hkp⟩
theorem sc_law_words : FnScope n_law_words ["_law_draw", "_law_many"] (defScope (top 48)) := ⟨rfl, rfl, rfl, by decide +kernel, rfl, by decide +kernel, by decide +kernel⟩
theorem c_law_words (G : Glob P w K mg base E) : FnE P w K mg base E 3 "_law_words" f_law_words := by
  obtain ⟨fd, F⟩ := G.d_law_words
  have hb : Binds K fd ["_law_draw", "_law_many"] [] := F.bindsN fun _ _ _ _ _ _ us hl => match us, hl with | [_, _], _ => rfl
  have hkp := F.kp
  have hK := G.hK; have hw := G.hw; have nd := sc_law_words.nd
  have hF : FnOk P w K mg base (L2.CX P w) (2 + 1) (E.adr "_law_words") fd ["_law_draw", "_law_many"] (spI E (mkFn n_law_words.length (["_law_draw", "_law_many"] : List Str).length b_law_words)) := by
    have h1 := fn_s (E := E) (w := w) (P := P) (mg := mg) (base := base) (k := 2) (m := b_law_words) F sc_law_words
    refine h1 ?_; clear h1
    intro cdv A outer s H XE hr
    exact (s_scons (s_asg (s_lstN true s_nil) (s_gname 2 nd rfl (by first | exact .inl rfl | exact .inr rfl)))
    (s_scons (s_for cx_owns rfl (s_irng1 G.free_range (s_cons (s_var 1) s_nil)) (s_gname 3 nd rfl (by first | exact .inl rfl | exact .inr rfl)) (s_scons (s_asg (s_binM (om_add hK) s_int (s_callE (c_law_take G) hr (by decide) cx_takes (s_cons (s_var 0) (s_cons s_int s_nil)))) (s_gname 4 nd rfl (by first | exact .inl rfl | exact .inr rfl)))
    (s_scons (s_asg (s_met hK rfl PySem.F.plainAttrs_str PySem.F.slot_str_join PySem.F.type_str_join (met_join hK) s_str (s_cons (s_comp false [("_law_turn", 6)] rfl nd (s_irng1 G.free_range (s_cons (s_var 4) s_nil)) (blkOk_by rfl) (fun _ _ _ _ _ => (s_gnameW [6] 6 nd rfl (by first | exact .inl rfl | exact .inr rfl))) (fun _ _ _ _ _ => s_tsnil) (fun _ _ _ _ _ => (s_callE (c_law_pick G) hr (by decide) takes0 (s_cons (s_var 0) (s_cons (s_listStr false rfl G.free_list s_str) s_nil))))) s_nil)) (s_gname 5 nd rfl (by first | exact .inl rfl | exact .inr rfl)))
    (s_scons (s_asg (s_binM (om_add hK) (s_lstN false (s_cons (s_var 5) s_nil)) (s_comp false [("_law_letter", 8)] rfl nd (s_istr s_str) (blkOk_by rfl) (fun _ _ _ _ _ => (s_gnameW [8] 8 nd rfl (by first | exact .inl rfl | exact .inr rfl))) (fun _ _ _ _ _ => s_tsnil) (fun _ _ _ _ _ => (s_binM (om_add hK) (s_slice hK (s_var 5) so_none (so_some s_int)) (s_var 8))))) (s_gname 7 nd rfl (by first | exact .inl rfl | exact .inr rfl)))
    (s_sone (s_expr (s_met hK rfl PySem.F.plainAttrs_list PySem.F.slot_list_append PySem.F.type_list_append (met_append) (s_var 2) (s_cons (s_ixM (im_ix hK hw hr) (s_comp false [("_law_one", 9)] rfl nd (s_iseq hK (s_var 7)) (blkOk_by rfl) (fun _ _ _ _ _ => (s_gnameW [9] 9 nd rfl (by first | exact .inl rfl | exact .inr rfl))) (fun _ _ _ _ _ => (s_tsone (s_cmpMT (om_nin hK hr) (s_var 9) (s_binM (om_add hK) (s_var 2) (s_lstN false (s_cons s_str (s_cons s_str (s_cons s_str (s_cons s_str (s_cons s_str s_nil))))))) (by rfl)))) (fun _ _ _ _ _ => (s_var 9))) s_int) s_nil))))))))
    (s_sone (s_ret (s_var 2)))))
  exact ⟨_, _, _, hF, hb, G.g_law_words, hkp⟩
theorem sc_law_frame : FnScope n_law_frame ["_law_draw", "_law_names", "_law_fields"] (defScope (top 49)) := ⟨rfl, rfl, rfl, by decide +kernel, rfl, by decide +kernel, by decide +kernel⟩
theorem c_law_frame (G : Glob P w K mg base E) : FnE P w K mg base E 4 "_law_frame" f_law_frame := by
  obtain ⟨fd, F⟩ := G.d_law_frame
  have hb : Binds K fd ["_law_draw", "_law_names", "_law_fields"] [] := F.bindsN fun _ _ _ _ _ _ us hl => match us, hl with | [_, _, _], _ => rfl
  have hkp := F.kp
  have hK := G.hK; have hw := G.hw; have nd := sc_law_frame.nd
  have hF : FnOk P w K mg base (L2.CX P w) (3 + 1) (E.adr "_law_frame") fd ["_law_draw", "_law_names", "_law_fields"] (spI E (mkFn n_law_frame.length (["_law_draw", "_law_names", "_law_fields"] : List Str).length b_law_frame)) := by
    have h1 := fn_s (E := E) (w := w) (P := P) (mg := mg) (base := base) (k := 3) (m := b_law_frame) F sc_law_frame
    refine h1 ?_; clear h1
    intro cdv A outer s H XE hr
    exact (s_scons (s_asg (s_callE (c_law_words G) hr (by decide) cx_takes (s_cons (s_var 0) (s_cons (s_binM (om_add hK) s_int (s_callE (c_law_take G) hr (by decide) cx_takes (s_cons (s_var 0) (s_cons (s_var 1) s_nil)))) s_nil))) (s_gname 3 nd rfl (by first | exact .inl rfl | exact .inr rfl)))
    (s_scons (s_asg (s_callE (c_law_words G) hr (by decide) cx_takes (s_cons (s_var 0) (s_cons (s_binM (om_add hK) s_int (s_callE (c_law_take G) hr (by decide) cx_takes (s_cons (s_var 0) (s_cons (s_var 2) s_nil)))) s_nil))) (s_gname 4 nd rfl (by first | exact .inl rfl | exact .inr rfl)))
    (s_scons (s_if (s_and (s_cmpMT (om_eq hK hr) (s_callE (c_law_take G) hr (by decide) cx_takes (s_cons (s_var 0) (s_cons s_int s_nil))) s_int (nomark _)) (s_and1 (s_cmpMT (om_nin hK hr) (s_ixM (im_ix hK hw hr) (s_var 3) s_int) (s_var 4) (by rfl)))).pt (s_sone (s_asg (s_ixM (im_ix hK hw hr) (s_var 3) s_int) (s_gsub (sm_set hK hw hr) (s_var 4) s_int))) s_snil)
    (s_sone (s_ret (s_tup (s_cons (s_callTy (call_tuple_of) (tuple_s hK) (by rfl) G.free_tuple boot_tuple (s_cons (s_var 3) s_nil)) (s_cons (s_callTy (call_tuple_of) (tuple_s hK) (by rfl) G.free_tuple boot_tuple (s_cons (s_var 4) s_nil)) s_nil))))))))
  exact ⟨_, _, _, hF, hb, G.g_law_frame, hkp⟩
theorem sc_is_list : FnScope n_is_list ["thing"] (defScope (top 26)) := ⟨rfl, rfl, rfl, by decide +kernel, rfl, by decide +kernel, by decide +kernel⟩
theorem c_is_list (G : Glob P w K mg base E) : FnE P w K mg base E 1 "is_list" f_is_list := by
  obtain ⟨fd, F⟩ := G.d_is_list
  have hb : Binds K fd ["thing"] [] := F.bindsN fun _ _ _ _ _ _ us hl => match us, hl with | [_], _ => rfl
  have hkp := F.kp
  have hK := G.hK; have hw := G.hw; have nd := sc_is_list.nd
  have hF : FnOk P w K mg base (L2.CX P w) (0 + 1) (E.adr "is_list") fd ["thing"] (spI E (mkFn n_is_list.length (["thing"] : List Str).length b_is_list)) := by
    have h1 := fn_s (E := E) (w := w) (P := P) (mg := mg) (base := base) (k := 0) (m := b_is_list) F sc_is_list
    refine h1 ?_; clear h1
    intro cdv A outer s H XE hr
    exact (s_sone (s_ret (s_callB (call_isiU) (isi_s hK G.isi) (by rfl) G.free_isinstance boot_isinstance (s_cons (s_var 0) (s_cons (s_tup (s_cons (s_bty G.free_list boot_list) (s_cons (s_bty G.free_tuple boot_tuple) s_nil))) s_nil)))))
  exact ⟨_, _, _, hF, hb, G.g_is_list, hkp⟩
theorem sc_is_name : FnScope n_is_name ["thing"] (defScope (top 24)) := ⟨rfl, rfl, rfl, by decide +kernel, rfl, by decide +kernel, by decide +kernel⟩
theorem c_is_name (G : Glob P w K mg base E) : FnE P w K mg base E 1 "is_name" f_is_name := by
  obtain ⟨fd, F⟩ := G.d_is_name
  have hb : Binds K fd ["thing"] [] := F.bindsN fun _ _ _ _ _ _ us hl => match us, hl with | [_], _ => rfl
  have hkp := F.kp
  have hK := G.hK; have hw := G.hw; have nd := sc_is_name.nd
  have hF : FnOk P w K mg base (L2.CX P w) (0 + 1) (E.adr "is_name") fd ["thing"] (spI E (mkFn n_is_name.length (["thing"] : List Str).length b_is_name)) := by
    have h1 := fn_s (E := E) (w := w) (P := P) (mg := mg) (base := base) (k := 0) (m := b_is_name) F sc_is_name
    refine h1 ?_; clear h1
    intro cdv A outer s H XE hr
    exact (s_scons (s_if (s_or (s_not (s_truT hK (s_callB (call_isiU) (isi_s hK G.isi) (by rfl) G.free_isinstance boot_isinstance (s_cons (s_var 0) (s_cons (s_bty G.free_str boot_str) s_nil))))) (s_or (s_not (s_chainT op_le le_s op_le le_s s_int (s_callB (call_len) (len_s hK) (by rfl) G.free_len boot_len (s_cons (s_var 0) s_nil)) (s_gloE G.k_MOST_LETTERS))) (s_or1 (s_cmpMT (om_in hK hr) (s_var 0) (s_gloE G.k_TAKEN) (by rfl))))).pt (s_sone (s_ret s_bl)) s_snil)
    (s_sone (s_ret (s_callB (cr_all rfl) (all_s hK) (by rfl) G.free_all boot_all (s_cons (s_comp false [("letter", 1)] rfl nd (s_istr (s_var 0)) (blkOk_by rfl) (fun _ _ _ _ _ => (s_gnameW [1] 1 nd rfl (by first | exact .inl rfl | exact .inr rfl))) (fun _ _ _ _ _ => s_tsnil) (fun _ _ _ _ _ => (s_cmpM (om_in hK hr) (s_var 1) (s_gloE G.k_LETTERS) (by rfl)))) s_nil)))))
  exact ⟨_, _, _, hF, hb, G.g_is_name, hkp⟩
theorem sc_need_names : FnScope n_need_names ["things"] (defScope (top 42)) := ⟨rfl, rfl, rfl, by decide +kernel, rfl, by decide +kernel, by decide +kernel⟩
theorem c_need_names (G : Glob P w K mg base E) : FnE P w K mg base E 3 "need_names" f_need_names := by
  obtain ⟨fd, F⟩ := G.d_need_names
  have hb : Binds K fd ["things"] [] := F.bindsN fun _ _ _ _ _ _ us hl => match us, hl with | [_], _ => rfl
  have hkp := F.kp
  have hK := G.hK; have hw := G.hw; have nd := sc_need_names.nd
  have hF : FnOk P w K mg base (L2.CX P w) (2 + 1) (E.adr "need_names") fd ["things"] (spI E (mkFn n_need_names.length (["things"] : List Str).length b_need_names)) := by
    have h1 := fn_s (E := E) (w := w) (P := P) (mg := mg) (base := base) (k := 2) (m := b_need_names) F sc_need_names
    refine h1 ?_; clear h1
    intro cdv A outer s H XE hr
    exact (s_sone (s_for cx_owns rfl (s_ienum hK G.free_enumerate (s_cons (s_var 0) s_nil)) (s_gtup hK rfl (s_gcons (s_gname 1 nd rfl (by first | exact .inl rfl | exact .inr rfl)) (s_gcons (s_gname 2 nd rfl (by first | exact .inl rfl | exact .inr rfl)) s_gnil))) (s_sone (s_if (s_or (s_not (s_truT hK (s_callE (c_is_name G) hr (by decide) cx_takes (s_cons (s_var 2) s_nil)))) (s_or1 (s_cmpMT (om_in hK hr) (s_var 2) (s_slice hK (s_var 0) so_none (so_some (s_var 1))) (by rfl)))).pt (s_sone (s_raiseX rfl cx_takes (e_BadName G) (hr.mono (by decide)) (s_cons (s_var 2) s_nil) G.g_BadName)) s_snil))))
  exact ⟨_, _, _, hF, hb, G.g_need_names, hkp⟩
theorem sc_Layout___init__ : FnScope n_Layout___init__ ["self", "names", "fields"] (defScope (mem (top 43) 0)) := ⟨rfl, rfl, rfl, by decide +kernel, rfl, by decide +kernel, by decide +kernel⟩
theorem c_Layout___init__ (G : Glob P w K mg base E) : ∃ fd ps, FnOk P w K mg base (L2.CX P w) 4 (E.adr "Layout.__init__") fd ps (spI E f_Layout___init__) ∧ Binds K fd ps [] := by
  obtain ⟨fd, F⟩ := G.d_Layout___init__
  have hb : Binds K fd ["self", "names", "fields"] [] := F.bindsN fun _ _ _ _ _ _ us hl => match us, hl with | [_, _, _], _ => rfl
  have hkp := F.kp
  have hK := G.hK; have hw := G.hw; have nd := sc_Layout___init__.nd
  have hF : FnOk P w K mg base (L2.CX P w) (3 + 1) (E.adr "Layout.__init__") fd ["self", "names", "fields"] (spI E (mkFn n_Layout___init__.length (["self", "names", "fields"] : List Str).length b_Layout___init__)) := by
    have h1 := fn_s (E := E) (w := w) (P := P) (mg := mg) (base := base) (k := 3) (m := b_Layout___init__) F sc_Layout___init__
    refine h1 ?_; clear h1
    intro cdv A outer s H XE hr
    exact (s_scons (s_if (s_or (s_not (s_truT hK (s_callE (c_is_list G) hr (by decide) cx_takes (s_cons (s_var 1) s_nil)))) (s_or1 (s_not (s_truT hK (s_callE (c_is_list G) hr (by decide) cx_takes (s_cons (s_var 2) s_nil)))))).pt (s_sone (s_raise0 rfl cx_takes G.e_BadLayout G.g_BadLayout)) s_snil)
    (s_scons (s_expr (s_callE (c_need_names G) hr (by decide) cx_takes (s_cons (s_var 1) s_nil)))
    (s_scons (s_expr (s_callE (c_need_names G) hr (by decide) cx_takes (s_cons (s_var 2) s_nil)))
    (s_scons (s_if (s_or (s_not (s_chainT op_le le_s op_le le_s s_int (s_callB (call_len) (len_s hK) (by rfl) G.free_len boot_len (s_cons (s_var 1) s_nil)) (s_gloE G.k_MOST_NAMES))) (s_or1 (s_not (s_chainT op_le le_s op_le le_s s_int (s_callB (call_len) (len_s hK) (by rfl) G.free_len boot_len (s_cons (s_var 2) s_nil)) (s_gloE G.k_MOST_FIELDS))))).pt (s_sone (s_raise0 rfl cx_takes G.e_BadLayout G.g_BadLayout)) s_snil)
    (s_scons (s_setA hK G.a_names (s_var 0) (s_callTy (call_tuple_of) (tuple_s hK) (by rfl) G.free_tuple boot_tuple (s_cons (s_var 1) s_nil)))
    (s_sone (s_setA hK G.a_fields (s_var 0) (s_callTy (call_tuple_of) (tuple_s hK) (by rfl) G.free_tuple boot_tuple (s_cons (s_var 2) s_nil)))))))))
  exact ⟨_, _, hF, hb⟩
theorem mk_Layout (G : Glob P w K mg base E) : MkD P w K mg base E 4 "Layout" f_Layout___init__ [] := by
  obtain ⟨fd, ps, h, b⟩ := c_Layout___init__ G
  exact ⟨_, fd, ps, [], [], G.mk_Layout, h, b, .nil, fun _ => .nil⟩
theorem sc_law_shape : FnScope n_law_shape ["_law_draw", "_law_frame_here", "_law_most"] (defScope (top 51)) := ⟨rfl, rfl, rfl, by decide +kernel, rfl, by decide +kernel, by decide +kernel⟩
theorem c_law_shape (G : Glob P w K mg base E) : FnE P w K mg base E 3 "_law_shape" f_law_shape := by
  obtain ⟨fd, F⟩ := G.d_law_shape
  have hb : Binds K fd ["_law_draw", "_law_frame_here", "_law_most"] [] := F.bindsN fun _ _ _ _ _ _ us hl => match us, hl with | [_, _, _], _ => rfl
  have hkp := F.kp
  have hK := G.hK; have hw := G.hw; have nd := sc_law_shape.nd
  have hF : FnOk P w K mg base (L2.CX P w) (2 + 1) (E.adr "_law_shape") fd ["_law_draw", "_law_frame_here", "_law_most"] (spI E (mkFn n_law_shape.length (["_law_draw", "_law_frame_here", "_law_most"] : List Str).length b_law_shape)) := by
    have h1 := fn_s (E := E) (w := w) (P := P) (mg := mg) (base := base) (k := 2) (m := b_law_shape) F sc_law_shape
    refine h1 ?_; clear h1
    intro cdv A outer s H XE hr
    exact (s_scons (s_asg (s_callE (c_law_take G) hr (by decide) cx_takes (s_cons (s_var 0) (s_cons (s_binM (om_add hK) (s_var 2) s_int) s_nil))) (s_gname 3 nd rfl (by first | exact .inl rfl | exact .inr rfl)))
    (s_scons (s_asg (s_binM (om_add hK) (s_lstN false (s_cons s_non s_nil)) (s_listR false rfl G.free_list G.free_range (s_var 3))) (s_gname 4 nd rfl (by first | exact .inl rfl | exact .inr rfl)))
    (s_scons (s_setComp false 5 [("_law_name", 6)] rfl nd rfl rfl (s_iseq hK (s_ixM (im_ix hK hw hr) (s_var 1) s_int)) (blkOk_by rfl) (fun _ _ _ _ _ => (s_gnameW [6] 6 nd rfl (by first | exact .inl rfl | exact .inr rfl))) (fun _ _ _ _ _ => s_tsnil) (fun _ _ _ _ _ => (s_callE (c_law_pick G) hr (by decide) takes0 (s_cons (s_var 0) (s_cons (s_var 4) s_nil)))))
    (s_sone (s_ret (s_tup (s_cons (s_var 5) (s_cons (s_comp false [("_law_k", 8)] rfl nd (s_irng1 G.free_range (s_cons (s_var 3) s_nil)) (blkOk_by rfl) (fun _ _ _ _ _ => (s_gnameW [8] 8 nd rfl (by first | exact .inl rfl | exact .inr rfl))) (fun _ _ _ _ _ => s_tsnil) (fun _ _ _ _ _ => (s_comp false [("_law_field", 7)] rfl nd (s_iseq hK (s_ixM (im_ix hK hw hr) (s_var 1) s_int)) (blkOk_by rfl) (fun _ _ _ _ _ => (s_gnameW [7] 7 nd rfl (by first | exact .inl rfl | exact .inr rfl))) (fun _ _ _ _ _ => s_tsnil) (fun _ _ _ _ _ => (s_callE (c_law_pick G) hr (by decide) takes0 (s_cons (s_var 0) (s_cons (s_var 4) s_nil))))))) s_nil))))))))
  exact ⟨_, _, _, hF, hb, G.g_law_shape, hkp⟩
theorem sc_law_world : FnScope n_law_world ["_law_frame_here", "_law_shape_here"] (defScope (top 52)) := ⟨rfl, rfl, rfl, by decide +kernel, rfl, by decide +kernel, by decide +kernel⟩
theorem c_law_world (G : Glob P w K mg base E) : FnE P w K mg base E 1 "_law_world" f_law_world := by
  obtain ⟨fd, F⟩ := G.d_law_world
  have hb : Binds K fd ["_law_frame_here", "_law_shape_here"] [] := F.bindsN fun _ _ _ _ _ _ us hl => match us, hl with | [_, _], _ => rfl
  have hkp := F.kp
  have hK := G.hK; have hw := G.hw; have nd := sc_law_world.nd
  have hF : FnOk P w K mg base (L2.CX P w) (0 + 1) (E.adr "_law_world") fd ["_law_frame_here", "_law_shape_here"] (spI E (mkFn n_law_world.length (["_law_frame_here", "_law_shape_here"] : List Str).length b_law_world)) := by
    have h1 := fn_s (E := E) (w := w) (P := P) (mg := mg) (base := base) (k := 0) (m := b_law_world) F sc_law_world
    refine h1 ?_; clear h1
    intro cdv A outer s H XE hr
    exact (s_scons (s_asg (s_dictzip hK hw rfl (un16 hr) true G.free_dict G.free_zip (s_cons (s_ixM (im_ix hK hw hr) (s_var 0) s_int) (s_cons (s_ixM (im_ix hK hw hr) (s_var 1) s_int) s_nil))) (s_gname 2 nd rfl (by first | exact .inl rfl | exact .inr rfl)))
    (s_scons (s_for cx_owns rfl (s_ienum hK G.free_enumerate (s_cons (s_ixM (im_ix hK hw hr) (s_var 1) s_int) s_nil)) (s_gtup hK rfl (s_gcons (s_gname 3 nd rfl (by first | exact .inl rfl | exact .inr rfl)) (s_gcons (s_gname 4 nd rfl (by first | exact .inl rfl | exact .inr rfl)) s_gnil))) (s_sone (s_for cx_owns rfl (s_izip hK G.free_zip (s_cons (s_ixM (im_ix hK hw hr) (s_var 0) s_int) (s_cons (s_var 4) s_nil))) (s_gtup hK rfl (s_gcons (s_gname 5 nd rfl (by first | exact .inl rfl | exact .inr rfl)) (s_gcons (s_gname 6 nd rfl (by first | exact .inl rfl | exact .inr rfl)) s_gnil))) (s_sone (s_asg (s_var 6) (s_gsub (sm_set hK hw hr) (s_var 2) (s_tup (s_cons (s_var 3) (s_cons (s_var 5) s_nil)))))))))
    (s_sone (s_ret (s_var 2)))))
  exact ⟨_, _, _, hF, hb, G.g_law_world, hkp⟩
theorem sc_is_integer : FnScope n_is_integer ["thing"] (defScope (top 25)) := ⟨rfl, rfl, rfl, by decide +kernel, rfl, by decide +kernel, by decide +kernel⟩
theorem c_is_integer (G : Glob P w K mg base E) : FnE P w K mg base E 1 "is_integer" f_is_integer := by
  obtain ⟨fd, F⟩ := G.d_is_integer
  have hb : Binds K fd ["thing"] [] := F.bindsN fun _ _ _ _ _ _ us hl => match us, hl with | [_], _ => rfl
  have hkp := F.kp
  have hK := G.hK; have hw := G.hw; have nd := sc_is_integer.nd
  have hF : FnOk P w K mg base (L2.CX P w) (0 + 1) (E.adr "is_integer") fd ["thing"] (spI E (mkFn n_is_integer.length (["thing"] : List Str).length b_is_integer)) := by
    have h1 := fn_s (E := E) (w := w) (P := P) (mg := mg) (base := base) (k := 0) (m := b_is_integer) F sc_is_integer
    refine h1 ?_; clear h1
    intro cdv A outer s H XE hr
    exact (s_sone (s_ret (s_andV hK (s_callB (call_isiU) (isi_s hK G.isi) (by rfl) G.free_isinstance boot_isinstance (s_cons (s_var 0) (s_cons (s_bty G.free_int boot_int) s_nil))) (s_one (s_notV hK (s_callB (call_isiU) (isi_s hK G.isi) (by rfl) G.free_isinstance boot_isinstance (s_cons (s_var 0) (s_cons (s_bty G.free_bool boot_bool) s_nil))))))))
  exact ⟨_, _, _, hF, hb, G.g_is_integer, hkp⟩
theorem sc_is_held : FnScope n_is_held ["thing", "many"] (defScope (top 29)) := ⟨rfl, rfl, rfl, by decide +kernel, rfl, by decide +kernel, by decide +kernel⟩
theorem c_is_held (G : Glob P w K mg base E) : FnE P w K mg base E 2 "is_held" f_is_held := by
  obtain ⟨fd, F⟩ := G.d_is_held
  have hb : Binds K fd ["thing", "many"] [] := F.bindsN fun _ _ _ _ _ _ us hl => match us, hl with | [_, _], _ => rfl
  have hkp := F.kp
  have hK := G.hK; have hw := G.hw; have nd := sc_is_held.nd
  have hF : FnOk P w K mg base (L2.CX P w) (1 + 1) (E.adr "is_held") fd ["thing", "many"] (spI E (mkFn n_is_held.length (["thing", "many"] : List Str).length b_is_held)) := by
    have h1 := fn_s (E := E) (w := w) (P := P) (mg := mg) (base := base) (k := 1) (m := b_is_held) F sc_is_held
    refine h1 ?_; clear h1
    intro cdv A outer s H XE hr
    exact (s_sone (s_ret (s_orV hK (s_cmpM (om_is) (s_var 0) s_non (nomark _)) (s_one (s_andV hK (s_callE (c_is_integer G) hr (by decide) cx_takes (s_cons (s_var 0) s_nil)) (s_one (s_chain op_le le_s op_lt lt_s s_int (s_var 0) (s_var 1))))))))
  exact ⟨_, _, _, hF, hb, G.g_is_held, hkp⟩
theorem sc_are_values : FnScope n_are_values ["things", "long", "many"] (defScope (top 30)) := ⟨rfl, rfl, rfl, by decide +kernel, rfl, by decide +kernel, by decide +kernel⟩
theorem c_are_values (G : Glob P w K mg base E) : FnE P w K mg base E 3 "are_values" f_are_values := by
  obtain ⟨fd, F⟩ := G.d_are_values
  have hb : Binds K fd ["things", "long", "many"] [] := F.bindsN fun _ _ _ _ _ _ us hl => match us, hl with | [_, _, _], _ => rfl
  have hkp := F.kp
  have hK := G.hK; have hw := G.hw; have nd := sc_are_values.nd
  have hF : FnOk P w K mg base (L2.CX P w) (2 + 1) (E.adr "are_values") fd ["things", "long", "many"] (spI E (mkFn n_are_values.length (["things", "long", "many"] : List Str).length b_are_values)) := by
    have h1 := fn_s (E := E) (w := w) (P := P) (mg := mg) (base := base) (k := 2) (m := b_are_values) F sc_are_values
    refine h1 ?_; clear h1
    intro cdv A outer s H XE hr
    exact (s_sone (s_ret (s_andV hK (s_callE (c_is_list G) hr (by decide) cx_takes (s_cons (s_var 0) s_nil)) (s_andV hK (s_cmpM (om_eq hK hr) (s_callB (call_len) (len_s hK) (by rfl) G.free_len boot_len (s_cons (s_var 0) s_nil)) (s_var 1) (nomark _)) (s_one (s_callB (cr_all rfl) (all_s hK) (by rfl) G.free_all boot_all (s_cons (s_comp false [("thing", 3)] rfl nd (s_iseq hK (s_var 0)) (blkOk_by rfl) (fun _ _ _ _ _ => (s_gnameW [3] 3 nd rfl (by first | exact .inl rfl | exact .inr rfl))) (fun _ _ _ _ _ => s_tsnil) (fun _ _ _ _ _ => (s_callE (c_is_held G) hr (by decide) takes0 (s_cons (s_var 3) (s_cons (s_var 2) s_nil))))) s_nil)))))))
  exact ⟨_, _, _, hF, hb, G.g_are_values, hkp⟩
theorem sc_Graph___init__ : FnScope n_Graph___init__ ["self", "layout", "names", "objects"] (defScope (mem (top 32) 0)) := ⟨rfl, rfl, rfl, by decide +kernel, rfl, by decide +kernel, by decide +kernel⟩
theorem c_Graph___init__ (G : Glob P w K mg base E) : ∃ fd ps, FnOk P w K mg base (L2.CX P w) 4 (E.adr "Graph.__init__") fd ps (spI E f_Graph___init__) ∧ Binds K fd ps [] := by
  obtain ⟨fd, F⟩ := G.d_Graph___init__
  have hb : Binds K fd ["self", "layout", "names", "objects"] [] := F.bindsN fun _ _ _ _ _ _ us hl => match us, hl with | [_, _, _, _], _ => rfl
  have hkp := F.kp
  have hK := G.hK; have hw := G.hw; have nd := sc_Graph___init__.nd
  have hF : FnOk P w K mg base (L2.CX P w) (3 + 1) (E.adr "Graph.__init__") fd ["self", "layout", "names", "objects"] (spI E (mkFn n_Graph___init__.length (["self", "layout", "names", "objects"] : List Str).length b_Graph___init__)) := by
    have h1 := fn_s (E := E) (w := w) (P := P) (mg := mg) (base := base) (k := 3) (m := b_Graph___init__) F sc_Graph___init__
    refine h1 ?_; clear h1
    intro cdv A outer s H XE hr
    exact (s_scons (s_if (s_or (s_not (s_truT hK (s_callE (c_is_list G) hr (by decide) cx_takes (s_cons (s_var 3) s_nil)))) (s_or1 (s_cmpMT (om_gt) (s_callB (call_len) (len_s hK) (by rfl) G.free_len boot_len (s_cons (s_var 3) s_nil)) (s_gloE G.k_MOST_OBJECTS) (nomark _)))).pt (s_sone (s_raise0 rfl cx_takes G.e_BadGraph G.g_BadGraph)) s_snil)
    (s_scons (s_asg (s_callB (call_len) (len_s hK) (by rfl) G.free_len boot_len (s_cons (s_var 3) s_nil)) (s_gname 4 nd rfl (by first | exact .inl rfl | exact .inr rfl)))
    (s_scons (s_if (s_not (s_truT hK (s_callE (c_are_values G) hr (by decide) cx_takes (s_cons (s_var 2) (s_cons (s_callB (call_len) (len_s hK) (by rfl) G.free_len boot_len (s_cons (s_attr hK G.a_names (s_var 1)) s_nil)) (s_cons (s_var 4) s_nil)))))) (s_sone (s_raise0 rfl cx_takes G.e_BadGraph G.g_BadGraph)) s_snil)
    (s_scons (s_if (s_not (s_truT hK (s_callB (cr_all rfl) (all_s hK) (by rfl) G.free_all boot_all (s_cons (s_comp false [("one", 5)] rfl nd (s_iseq hK (s_var 3)) (blkOk_by rfl) (fun _ _ _ _ _ => (s_gnameW [5] 5 nd rfl (by first | exact .inl rfl | exact .inr rfl))) (fun _ _ _ _ _ => s_tsnil) (fun _ _ _ _ _ => (s_callE (c_are_values G) hr (by decide) takes0 (s_cons (s_var 5) (s_cons (s_callB (call_len) (len_s hK) (by rfl) G.free_len boot_len (s_cons (s_attr hK G.a_fields (s_var 1)) s_nil)) (s_cons (s_var 4) s_nil)))))) s_nil)))) (s_sone (s_raise0 rfl cx_takes G.e_BadGraph G.g_BadGraph)) s_snil)
    (s_scons (s_setA hK G.a_layout (s_var 0) (s_var 1))
    (s_scons (s_setA hK G.a_numbers (s_var 0) (s_listR false rfl G.free_list G.free_range (s_var 4)))
    (s_scons (s_setA hK G.a_held (s_var 0) (s_dictzip hK hw rfl (un16 hr) true G.free_dict G.free_zip (s_cons (s_attr hK G.a_names (s_var 1)) (s_cons (s_var 2) s_nil))))
    (s_sone (s_for cx_owns rfl (s_ienum hK G.free_enumerate (s_cons (s_var 3) s_nil)) (s_gtup hK rfl (s_gcons (s_gname 6 nd rfl (by first | exact .inl rfl | exact .inr rfl)) (s_gcons (s_gname 5 nd rfl (by first | exact .inl rfl | exact .inr rfl)) s_gnil))) (s_sone (s_for cx_owns rfl (s_izip hK G.free_zip (s_cons (s_attr hK G.a_fields (s_var 1)) (s_cons (s_var 5) s_nil))) (s_gtup hK rfl (s_gcons (s_gname 7 nd rfl (by first | exact .inl rfl | exact .inr rfl)) (s_gcons (s_gname 8 nd rfl (by first | exact .inl rfl | exact .inr rfl)) s_gnil))) (s_sone (s_asg (s_var 8) (s_gsub (sm_set hK hw hr) (s_attr hK G.a_held (s_var 0)) (s_tup (s_cons (s_var 6) (s_cons (s_var 7) s_nil)))))))))))))))))
  exact ⟨_, _, hF, hb⟩
theorem mk_Graph (G : Glob P w K mg base E) : MkD P w K mg base E 4 "Graph" f_Graph___init__ [] := by
  obtain ⟨fd, ps, h, b⟩ := c_Graph___init__ G
  exact ⟨_, fd, ps, [], [], G.mk_Graph, h, b, .nil, fun _ => .nil⟩
theorem sc_Graph_cells : FnScope n_Graph_cells ["self"] (defScope (mem (top 32) 8)) := ⟨rfl, rfl, rfl, by decide +kernel, rfl, by decide +kernel, by decide +kernel⟩
theorem c_Graph_cells (G : Glob P w K mg base E) : ∃ fd ps, FnOk P w K mg base (L2.CX P w) 1 (E.adr "Graph.cells") fd ps (spI E f_Graph_cells) ∧ Binds K fd ps [] := by
  obtain ⟨fd, F⟩ := G.d_Graph_cells
  have hb : Binds K fd ["self"] [] := F.bindsN fun _ _ _ _ _ _ us hl => match us, hl with | [_], _ => rfl
  have hkp := F.kp
  have hK := G.hK; have hw := G.hw; have nd := sc_Graph_cells.nd
  have hF : FnOk P w K mg base (L2.CX P w) (0 + 1) (E.adr "Graph.cells") fd ["self"] (spI E (mkFn n_Graph_cells.length (["self"] : List Str).length b_Graph_cells)) := by
    have h1 := fn_s (E := E) (w := w) (P := P) (mg := mg) (base := base) (k := 0) (m := b_Graph_cells) F sc_Graph_cells
    refine h1 ?_; clear h1
    intro cdv A outer s H XE hr
    exact (s_scons (s_asg (s_listN hK true G.free_list (s_cons (s_attr hK G.a_names (s_attr hK G.a_layout (s_var 0))) s_nil)) (s_gname 1 nd rfl (by first | exact .inl rfl | exact .inr rfl)))
    (s_scons (s_for cx_owns rfl (s_iseq hK (s_attr hK G.a_numbers (s_var 0))) (s_gname 2 nd rfl (by first | exact .inl rfl | exact .inr rfl)) (s_sone (s_expr (s_met hK rfl PySem.F.plainAttrs_list PySem.F.slot_list_extend PySem.F.type_list_extend (met_extend) (s_var 1) (s_cons (s_comp false [("field", 3)] rfl nd (s_iseq hK (s_attr hK G.a_fields (s_attr hK G.a_layout (s_var 0)))) (blkOk_by rfl) (fun _ _ _ _ _ => (s_gnameW [3] 3 nd rfl (by first | exact .inl rfl | exact .inr rfl))) (fun _ _ _ _ _ => s_tsnil) (fun _ _ _ _ _ => (s_tup (s_cons (s_var 2) (s_cons (s_var 3) s_nil))))) s_nil)))))
    (s_sone (s_ret (s_var 1)))))
  exact ⟨_, _, hF, hb⟩
theorem m_t_cells_Graph (G : Glob P w K mg base E) : MthOk P w K mg base E 1 "cells" t_cells_Graph := by
  obtain ⟨fd0, ps0, h0, b0⟩ := c_Graph_cells G; obtain ⟨x0, y0, z0⟩ := G.mt_Graph_cells
  exact .cons ⟨_, fd0, ps0, [], [], x0, y0, z0, h0.mono (by decide), b0, .nil, fun _ => .nil⟩ (.nil)
theorem sc_Graph_contents : FnScope n_Graph_contents ["self"] (defScope (mem (top 32) 9)) := ⟨rfl, rfl, rfl, by decide +kernel, rfl, by decide +kernel, by decide +kernel⟩
theorem c_Graph_contents (G : Glob P w K mg base E) : ∃ fd ps, FnOk P w K mg base (L2.CX P w) 2 (E.adr "Graph.contents") fd ps (spI E f_Graph_contents) ∧ Binds K fd ps [] := by
  obtain ⟨fd, F⟩ := G.d_Graph_contents
  have hb : Binds K fd ["self"] [] := F.bindsN fun _ _ _ _ _ _ us hl => match us, hl with | [_], _ => rfl
  have hkp := F.kp
  have hK := G.hK; have hw := G.hw; have nd := sc_Graph_contents.nd
  have hF : FnOk P w K mg base (L2.CX P w) (1 + 1) (E.adr "Graph.contents") fd ["self"] (spI E (mkFn n_Graph_contents.length (["self"] : List Str).length b_Graph_contents)) := by
    have h1 := fn_s (E := E) (w := w) (P := P) (mg := mg) (base := base) (k := 1) (m := b_Graph_contents) F sc_Graph_contents
    refine h1 ?_; clear h1
    intro cdv A outer s H XE hr
    exact (s_sone (s_ret (s_comp false [("cell", 1)] rfl nd (s_iseqX hK (s_meth0 hK (m_t_cells_Graph G) (hr.mono (by decide)) cx_takes (s_var 0))) (blkOk_by rfl) (fun _ _ _ _ _ => (s_gnameW [1] 1 nd rfl (by first | exact .inl rfl | exact .inr rfl))) (fun _ _ _ _ _ => s_tsnil) (fun _ _ _ _ _ => (s_ixM (im_ix hK hw hr) (s_attr hK G.a_held (s_var 0)) (s_var 1))))))
  exact ⟨_, _, hF, hb⟩
theorem m_t_contents_Graph (G : Glob P w K mg base E) : MthOk P w K mg base E 2 "contents" t_contents_Graph := by
  obtain ⟨fd0, ps0, h0, b0⟩ := c_Graph_contents G; obtain ⟨x0, y0, z0⟩ := G.mt_Graph_contents
  exact .cons ⟨_, fd0, ps0, [], [], x0, y0, z0, h0.mono (by decide), b0, .nil, fun _ => .nil⟩ (.nil)
theorem sc_law_path : FnScope n_law_path ["_law_draw", "_law_frame_here", "_law_most"] (defScope (top 50)) := ⟨rfl, rfl, rfl, by decide +kernel, rfl, by decide +kernel, by decide +kernel⟩
theorem c_law_path (G : Glob P w K mg base E) : FnE P w K mg base E 3 "_law_path" f_law_path := by
  obtain ⟨fd, F⟩ := G.d_law_path
  have hb : Binds K fd ["_law_draw", "_law_frame_here", "_law_most"] [] := F.bindsN fun _ _ _ _ _ _ us hl => match us, hl with | [_, _, _], _ => rfl
  have hkp := F.kp
  have hK := G.hK; have hw := G.hw; have nd := sc_law_path.nd
  have hF : FnOk P w K mg base (L2.CX P w) (2 + 1) (E.adr "_law_path") fd ["_law_draw", "_law_frame_here", "_law_most"] (spI E (mkFn n_law_path.length (["_law_draw", "_law_frame_here", "_law_most"] : List Str).length b_law_path)) := by
    have h1 := fn_s (E := E) (w := w) (P := P) (mg := mg) (base := base) (k := 2) (m := b_law_path) F sc_law_path
    refine h1 ?_; clear h1
    intro cdv A outer s H XE hr
    exact (s_scons (s_asg (s_callE (c_law_pick G) hr (by decide) cx_takes (s_cons (s_var 0) (s_cons (s_ixM (im_ix hK hw hr) (s_var 1) s_int) s_nil))) (s_gname 3 nd rfl (by first | exact .inl rfl | exact .inr rfl)))
    (s_scons (s_for cx_owns rfl (s_irng1 G.free_range (s_cons (s_callE (c_law_take G) hr (by decide) cx_takes (s_cons (s_var 0) (s_cons (s_binM (om_add hK) (s_var 2) s_int) s_nil))) s_nil)) (s_gname 4 nd rfl (by first | exact .inl rfl | exact .inr rfl)) (s_sone (s_asg (s_binM (om_add hK) (s_binM (om_add hK) (s_var 3) s_str) (s_callE (c_law_pick G) hr (by decide) cx_takes (s_cons (s_var 0) (s_cons (s_ixM (im_ix hK hw hr) (s_var 1) s_int) s_nil)))) (s_gname 3 nd rfl (by first | exact .inl rfl | exact .inr rfl)))))
    (s_sone (s_ret (s_var 3)))))
  exact ⟨_, _, _, hF, hb, G.g_law_path, hkp⟩
theorem sc_law_value : FnScope n_law_value ["_law_draw", "_law_frame_here", "_law_most"] (defScope (top 54)) := ⟨rfl, rfl, rfl, by decide +kernel, rfl, by decide +kernel, by decide +kernel⟩
theorem c_law_value (G : Glob P w K mg base E) : FnE P w K mg base E 4 "_law_value" f_law_value := by
  obtain ⟨fd, F⟩ := G.d_law_value
  have hb : Binds K fd ["_law_draw", "_law_frame_here", "_law_most"] [] := F.bindsN fun _ _ _ _ _ _ us hl => match us, hl with | [_, _, _], _ => rfl
  have hkp := F.kp
  have hK := G.hK; have hw := G.hw; have nd := sc_law_value.nd
  have hF : FnOk P w K mg base (L2.CX P w) (3 + 1) (E.adr "_law_value") fd ["_law_draw", "_law_frame_here", "_law_most"] (spI E (mkFn n_law_value.length (["_law_draw", "_law_frame_here", "_law_most"] : List Str).length b_law_value)) := by
    have h1 := fn_s (E := E) (w := w) (P := P) (mg := mg) (base := base) (k := 3) (m := b_law_value) F sc_law_value
    refine h1 ?_; clear h1
    intro cdv A outer s H XE hr
    exact (s_sone (s_ret (s_ifE (s_cmpMT (om_eq hK hr) (s_callE (c_law_take G) hr (by decide) cx_takes (s_cons (s_var 0) (s_cons s_int s_nil))) s_int (nomark _)) s_non (s_callE (c_law_path G) hr (by decide) cx_takes (s_cons (s_var 0) (s_cons (s_var 1) (s_cons (s_var 2) s_nil)))))))
  exact ⟨_, _, _, hF, hb, G.g_law_value, hkp⟩
theorem sc_law_fact : FnScope n_law_fact ["_law_draw", "_law_frame_here", "_law_most"] (defScope (top 55)) := ⟨rfl, rfl, rfl, by decide +kernel, rfl, by decide +kernel, by decide +kernel⟩
theorem c_law_fact (G : Glob P w K mg base E) : FnE P w K mg base E 5 "_law_fact" f_law_fact := by
  obtain ⟨fd, F⟩ := G.d_law_fact
  have hb : Binds K fd ["_law_draw", "_law_frame_here", "_law_most"] [] := F.bindsN fun _ _ _ _ _ _ us hl => match us, hl with | [_, _, _], _ => rfl
  have hkp := F.kp
  have hK := G.hK; have hw := G.hw; have nd := sc_law_fact.nd
  have hF : FnOk P w K mg base (L2.CX P w) (4 + 1) (E.adr "_law_fact") fd ["_law_draw", "_law_frame_here", "_law_most"] (spI E (mkFn n_law_fact.length (["_law_draw", "_law_frame_here", "_law_most"] : List Str).length b_law_fact)) := by
    have h1 := fn_s (E := E) (w := w) (P := P) (mg := mg) (base := base) (k := 4) (m := b_law_fact) F sc_law_fact
    refine h1 ?_; clear h1
    intro cdv A outer s H XE hr
    exact (s_sone (s_ret (s_tup (s_cons (s_callE (c_law_value G) hr (by decide) cx_takes (s_cons (s_var 0) (s_cons (s_var 1) (s_cons (s_var 2) s_nil)))) (s_cons (s_callE (c_law_pick G) hr (by decide) cx_takes (s_cons (s_var 0) (s_cons (s_lstN false (s_cons s_str (s_cons s_str s_nil))) s_nil))) (s_cons (s_callE (c_law_value G) hr (by decide) cx_takes (s_cons (s_var 0) (s_cons (s_var 1) (s_cons (s_var 2) s_nil)))) s_nil))))))
  exact ⟨_, _, _, hF, hb, G.g_law_fact, hkp⟩
theorem sc_Fact___init__ : FnScope n_Fact___init__ ["self", "one", "word", "other"] (defScope (mem (top 37) 0)) := ⟨rfl, rfl, rfl, by decide +kernel, rfl, by decide +kernel, by decide +kernel⟩
theorem c_Fact___init__ (G : Glob P w K mg base E) : ∃ fd ps, FnOk P w K mg base (L2.CX P w) 1 (E.adr "Fact.__init__") fd ps (spI E f_Fact___init__) ∧ Binds K fd ps [] := by
  obtain ⟨fd, F⟩ := G.d_Fact___init__
  have hb : Binds K fd ["self", "one", "word", "other"] [] := F.bindsN fun _ _ _ _ _ _ us hl => match us, hl with | [_, _, _, _], _ => rfl
  have hkp := F.kp
  have hK := G.hK; have hw := G.hw; have nd := sc_Fact___init__.nd
  have hF : FnOk P w K mg base (L2.CX P w) (0 + 1) (E.adr "Fact.__init__") fd ["self", "one", "word", "other"] (spI E (mkFn n_Fact___init__.length (["self", "one", "word", "other"] : List Str).length b_Fact___init__)) := by
    have h1 := fn_s (E := E) (w := w) (P := P) (mg := mg) (base := base) (k := 0) (m := b_Fact___init__) F sc_Fact___init__
    refine h1 ?_; clear h1
    intro cdv A outer s H XE hr
    exact (s_scons (s_setA hK G.a_one (s_var 0) (s_var 1))
    (s_scons (s_setA hK G.a_word (s_var 0) (s_var 2))
    (s_sone (s_setA hK G.a_other (s_var 0) (s_var 3)))))
  exact ⟨_, _, hF, hb⟩
theorem mk_Fact (G : Glob P w K mg base E) : MkD P w K mg base E 1 "Fact" f_Fact___init__ [] := by
  obtain ⟨fd, ps, h, b⟩ := c_Fact___init__ G
  exact ⟨_, fd, ps, [], [], G.mk_Fact, h, b, .nil, fun _ => .nil⟩
theorem sc_Layout___contains__ : FnScope n_Layout___contains__ ["self", "path"] (defScope (mem (top 43) 2)) := ⟨rfl, rfl, rfl, by decide +kernel, rfl, by decide +kernel, by decide +kernel⟩
theorem c_Layout___contains__ (G : Glob P w K mg base E) : ∃ fd ps, FnOk P w K mg base (L2.CX P w) 1 (E.adr "Layout.__contains__") fd ps (spI E f_Layout___contains__) ∧ Binds K fd ps [] := by
  obtain ⟨fd, F⟩ := G.d_Layout___contains__
  have hb : Binds K fd ["self", "path"] [] := F.bindsN fun _ _ _ _ _ _ us hl => match us, hl with | [_, _], _ => rfl
  have hkp := F.kp
  have hK := G.hK; have hw := G.hw; have nd := sc_Layout___contains__.nd
  have hF : FnOk P w K mg base (L2.CX P w) (0 + 1) (E.adr "Layout.__contains__") fd ["self", "path"] (spI E (mkFn n_Layout___contains__.length (["self", "path"] : List Str).length b_Layout___contains__)) := by
    have h1 := fn_s (E := E) (w := w) (P := P) (mg := mg) (base := base) (k := 0) (m := b_Layout___contains__) F sc_Layout___contains__
    refine h1 ?_; clear h1
    intro cdv A outer s H XE hr
    exact (s_scons (s_if (s_not (s_truT hK (s_callB (call_isiU) (isi_s hK G.isi) (by rfl) G.free_isinstance boot_isinstance (s_cons (s_var 1) (s_cons (s_bty G.free_str boot_str) s_nil))))) (s_sone (s_ret s_bl)) s_snil)
    (s_scons (s_asg (s_met hK rfl PySem.F.plainAttrs_str PySem.F.slot_str_split PySem.F.type_str_split (met_split false) (s_var 1) (s_cons s_str s_nil)) (s_gstar 1 hK rfl (s_gcons (s_gname 2 nd rfl (by first | exact .inl rfl | exact .inr rfl)) (s_gconsS (s_gname 3 nd rfl (by first | exact .inl rfl | exact .inr rfl)) s_gnil))))
    (s_scons (s_if (s_or (s_cmpMT (om_nin hK hr) (s_var 2) (s_attr hK G.a_names (s_var 0)) (by rfl)) (s_or1 (s_cmpMT (om_gt) (s_callB (call_len) (len_s hK) (by rfl) G.free_len boot_len (s_cons (s_var 3) s_nil)) (s_gloE G.k_MOST_DEEP) (nomark _)))).pt (s_sone (s_ret s_bl)) s_snil)
    (s_sone (s_ret (s_callB (cr_all rfl) (all_s hK) (by rfl) G.free_all boot_all (s_cons (s_comp false [("field", 4)] rfl nd (s_iseq hK (s_var 3)) (blkOk_by rfl) (fun _ _ _ _ _ => (s_gnameW [4] 4 nd rfl (by first | exact .inl rfl | exact .inr rfl))) (fun _ _ _ _ _ => s_tsnil) (fun _ _ _ _ _ => (s_cmpM (om_in hK hr) (s_var 4) (s_attr hK G.a_fields (s_var 0)) (by rfl)))) s_nil)))))))
  exact ⟨_, _, hF, hb⟩
theorem m_t_contains_Layout (G : Glob P w K mg base E) : MthOk P w K mg base E 1 "__contains__" t_contains_Layout := by
  obtain ⟨fd0, ps0, h0, b0⟩ := c_Layout___contains__ G; obtain ⟨x0, y0, z0⟩ := G.mt_Layout___contains__
  exact .cons ⟨_, fd0, ps0, [], [], x0, y0, z0, h0.mono (by decide), b0, .nil, fun _ => .nil⟩ (.nil)
theorem sc_is_value : FnScope n_is_value ["layout", "thing"] (defScope (top 17)) := ⟨rfl, rfl, rfl, by decide +kernel, rfl, by decide +kernel, by decide +kernel⟩
theorem c_is_value (G : Glob P w K mg base E) : FnE P w K mg base E 3 "is_value" f_is_value := by
  obtain ⟨fd, F⟩ := G.d_is_value
  have hb : Binds K fd ["layout", "thing"] [] := F.bindsN fun _ _ _ _ _ _ us hl => match us, hl with | [_, _], _ => rfl
  have hkp := F.kp
  have hK := G.hK; have hw := G.hw; have nd := sc_is_value.nd
  have hF : FnOk P w K mg base (L2.CX P w) (2 + 1) (E.adr "is_value") fd ["layout", "thing"] (spI E (mkFn n_is_value.length (["layout", "thing"] : List Str).length b_is_value)) := by
    have h1 := fn_s (E := E) (w := w) (P := P) (mg := mg) (base := base) (k := 2) (m := b_is_value) F sc_is_value
    refine h1 ?_; clear h1
    intro cdv A outer s H XE hr
    exact (s_sone (s_ret (s_orV hK (s_cmpM (om_is) (s_var 1) s_non (nomark _)) (s_one (s_cmpM (in_m hK (m_t_contains_Layout G) (hr.mono (by decide)) cx_takes (om_in hK hr)) (s_var 1) (s_var 0) (by rfl))))))
  exact ⟨_, _, _, hF, hb, G.g_is_value, hkp⟩
theorem sc_need_values : FnScope n_need_values ["layout", "facts"] (defScope (top 35)) := ⟨rfl, rfl, rfl, by decide +kernel, rfl, by decide +kernel, by decide +kernel⟩
theorem c_need_values (G : Glob P w K mg base E) : FnE P w K mg base E 4 "need_values" f_need_values := by
  obtain ⟨fd, F⟩ := G.d_need_values
  have hb : Binds K fd ["layout", "facts"] [] := F.bindsN fun _ _ _ _ _ _ us hl => match us, hl with | [_, _], _ => rfl
  have hkp := F.kp
  have hK := G.hK; have hw := G.hw; have nd := sc_need_values.nd
  have hF : FnOk P w K mg base (L2.CX P w) (3 + 1) (E.adr "need_values") fd ["layout", "facts"] (spI E (mkFn n_need_values.length (["layout", "facts"] : List Str).length b_need_values)) := by
    have h1 := fn_s (E := E) (w := w) (P := P) (mg := mg) (base := base) (k := 3) (m := b_need_values) F sc_need_values
    refine h1 ?_; clear h1
    intro cdv A outer s H XE hr
    exact (s_sone (s_for cx_owns rfl (s_iseq hK (s_var 1)) (s_gname 2 nd rfl (by first | exact .inl rfl | exact .inr rfl)) (s_sone (s_for cx_owns rfl (s_iseq hK (s_tup (s_cons (s_attr hK G.a_one (s_var 2)) (s_cons (s_attr hK G.a_other (s_var 2)) s_nil)))) (s_gname 3 nd rfl (by first | exact .inl rfl | exact .inr rfl)) (s_sone (s_if (s_not (s_truT hK (s_callE (c_is_value G) hr (by decide) cx_takes (s_cons (s_var 0) (s_cons (s_var 3) s_nil))))) (s_sone (s_raiseX rfl cx_takes (e_BadPath G) (hr.mono (by decide)) (s_cons (s_var 3) s_nil) G.g_BadPath)) s_snil))))))
  exact ⟨_, _, _, hF, hb, G.g_need_values, hkp⟩
theorem sc_Graph_look : FnScope n_Graph_look ["self", "cell"] (defScope (mem (top 32) 6)) := ⟨rfl, rfl, rfl, by decide +kernel, rfl, by decide +kernel, by decide +kernel⟩
theorem c_Graph_look (G : Glob P w K mg base E) : ∃ fd ps, FnOk P w K mg base (L2.CX P w) 1 (E.adr "Graph.look") fd ps (spI E f_Graph_look) ∧ Binds K fd ps [] := by
  obtain ⟨fd, F⟩ := G.d_Graph_look
  have hb : Binds K fd ["self", "cell"] [] := F.bindsN fun _ _ _ _ _ _ us hl => match us, hl with | [_, _], _ => rfl
  have hkp := F.kp
  have hK := G.hK; have hw := G.hw; have nd := sc_Graph_look.nd
  have hF : FnOk P w K mg base (L2.CX P w) (0 + 1) (E.adr "Graph.look") fd ["self", "cell"] (spI E (mkFn n_Graph_look.length (["self", "cell"] : List Str).length b_Graph_look)) := by
    have h1 := fn_s (E := E) (w := w) (P := P) (mg := mg) (base := base) (k := 0) (m := b_Graph_look) F sc_Graph_look
    refine h1 ?_; clear h1
    intro cdv A outer s H XE hr
    exact (s_sone (s_ret (s_ixM (im_ix hK hw hr) (s_attr hK G.a_held (s_var 0)) (s_var 1))))
  exact ⟨_, _, hF, hb⟩
theorem m_t_look_Graph (G : Glob P w K mg base E) : MthOk P w K mg base E 1 "look" t_look_Graph := by
  obtain ⟨fd0, ps0, h0, b0⟩ := c_Graph_look G; obtain ⟨x0, y0, z0⟩ := G.mt_Graph_look
  exact .cons ⟨_, fd0, ps0, [], [], x0, y0, z0, h0.mono (by decide), b0, .nil, fun _ => .nil⟩ (.nil)
theorem sc_value_at : FnScope n_value_at ["graph", "path"] (defScope (top 18)) := ⟨rfl, rfl, rfl, by decide +kernel, rfl, by decide +kernel, by decide +kernel⟩
theorem c_value_at (G : Glob P w K mg base E) : FnE P w K mg base E 3 "value_at" f_value_at := by
  obtain ⟨fd, F⟩ := G.d_value_at
  have hb : Binds K fd ["graph", "path"] [] := F.bindsN fun _ _ _ _ _ _ us hl => match us, hl with | [_, _], _ => rfl
  have hkp := F.kp
  have hK := G.hK; have hw := G.hw; have nd := sc_value_at.nd
  have hF : FnOk P w K mg base (L2.CX P w) (2 + 1) (E.adr "value_at") fd ["graph", "path"] (spI E (mkFn n_value_at.length (["graph", "path"] : List Str).length b_value_at)) := by
    have h1 := fn_s (E := E) (w := w) (P := P) (mg := mg) (base := base) (k := 2) (m := b_value_at) F sc_value_at
    refine h1 ?_; clear h1
    intro cdv A outer s H XE hr
    exact (s_scons (s_asg (s_met hK rfl PySem.F.plainAttrs_str PySem.F.slot_str_split PySem.F.type_str_split (met_split false) (s_var 1) (s_cons s_str s_nil)) (s_gstar 1 hK rfl (s_gcons (s_gname 2 nd rfl (by first | exact .inl rfl | exact .inr rfl)) (s_gconsS (s_gname 3 nd rfl (by first | exact .inl rfl | exact .inr rfl)) s_gnil))))
    (s_scons (s_asg (s_meth hK (m_t_look_Graph G) (hr.mono (by decide)) cx_takes (s_var 0) (s_cons (s_var 2) s_nil)) (s_gname 4 nd rfl (by first | exact .inl rfl | exact .inr rfl)))
    (s_scons (s_asg (s_var 2) (s_gname 5 nd rfl (by first | exact .inl rfl | exact .inr rfl)))
    (s_scons (s_for cx_owns rfl (s_iseq hK (s_var 3)) (s_gname 6 nd rfl (by first | exact .inl rfl | exact .inr rfl)) (s_scons (s_if (s_cmpMT (om_is) (s_var 4) s_non (nomark _)) (s_sone (s_raiseX rfl cx_takes (e_NoObject G) (hr.mono (by decide)) (s_cons (s_var 5) s_nil) G.g_NoObject)) s_snil)
    (s_scons (s_asg (s_meth hK (m_t_look_Graph G) (hr.mono (by decide)) cx_takes (s_var 0) (s_cons (s_tup (s_cons (s_var 4) (s_cons (s_var 6) s_nil))) s_nil)) (s_gname 4 nd rfl (by first | exact .inl rfl | exact .inr rfl)))
    (s_sone (s_asg (s_binM (om_add hK) (s_binM (om_add hK) (s_var 5) s_str) (s_var 6)) (s_gname 5 nd rfl (by first | exact .inl rfl | exact .inr rfl)))))))
    (s_sone (s_ret (s_var 4)))))))
  exact ⟨_, _, _, hF, hb, G.g_value_at, hkp⟩
theorem sc_value_of : FnScope n_value_of ["graph", "value"] (defScope (top 19)) := ⟨rfl, rfl, rfl, by decide +kernel, rfl, by decide +kernel, by decide +kernel⟩
theorem c_value_of (G : Glob P w K mg base E) : FnE P w K mg base E 4 "value_of" f_value_of := by
  obtain ⟨fd, F⟩ := G.d_value_of
  have hb : Binds K fd ["graph", "value"] [] := F.bindsN fun _ _ _ _ _ _ us hl => match us, hl with | [_, _], _ => rfl
  have hkp := F.kp
  have hK := G.hK; have hw := G.hw; have nd := sc_value_of.nd
  have hF : FnOk P w K mg base (L2.CX P w) (3 + 1) (E.adr "value_of") fd ["graph", "value"] (spI E (mkFn n_value_of.length (["graph", "value"] : List Str).length b_value_of)) := by
    have h1 := fn_s (E := E) (w := w) (P := P) (mg := mg) (base := base) (k := 3) (m := b_value_of) F sc_value_of
    refine h1 ?_; clear h1
    intro cdv A outer s H XE hr
    exact (s_sone (s_ret (s_ifE (s_cmpMT (om_is) (s_var 1) s_non (nomark _)) s_non (s_callE (c_value_at G) hr (by decide) cx_takes (s_cons (s_var 0) (s_cons (s_var 1) s_nil))))))
  exact ⟨_, _, _, hF, hb, G.g_value_of, hkp⟩
theorem sc_holds : FnScope n_holds ["graph", "fact"] (defScope (top 36)) := ⟨rfl, rfl, rfl, by decide +kernel, rfl, by decide +kernel, by decide +kernel⟩
theorem c_holds (G : Glob P w K mg base E) : FnE P w K mg base E 5 "holds" f_holds := by
  obtain ⟨fd, F⟩ := G.d_holds
  have hb : Binds K fd ["graph", "fact"] [] := F.bindsN fun _ _ _ _ _ _ us hl => match us, hl with | [_, _], _ => rfl
  have hkp := F.kp
  have hK := G.hK; have hw := G.hw; have nd := sc_holds.nd
  have hF : FnOk P w K mg base (L2.CX P w) (4 + 1) (E.adr "holds") fd ["graph", "fact"] (spI E (mkFn n_holds.length (["graph", "fact"] : List Str).length b_holds)) := by
    have h1 := fn_s (E := E) (w := w) (P := P) (mg := mg) (base := base) (k := 4) (m := b_holds) F sc_holds
    refine h1 ?_; clear h1
    intro cdv A outer s H XE hr
    exact (s_sone (s_try hK G.cat_NoObject rfl rfl ⟨rfl, by decide, .inl G.g_NoObject⟩ cx_takes (fun W pn xe tk hp => (s_scons (s_asg (s_callE (c_value_of G) hr (by decide) tk (s_cons (s_var 0) (s_cons (s_attr hK G.a_one (s_var 1)) s_nil))) (s_gname 2 nd rfl (by first | exact .inl rfl | exact .inr rfl)))
    (s_scons (s_asg (s_callE (c_value_of G) hr (by decide) tk (s_cons (s_var 0) (s_cons (s_attr hK G.a_other (s_var 1)) s_nil))) (s_gname 3 nd rfl (by first | exact .inl rfl | exact .inr rfl)))
    (s_sone (s_ret (s_cmpM (om_eq hK hr) (s_cmpM (om_eq hK hr) (s_var 2) (s_var 3) (nomark _)) (s_cmpM (om_eq hK hr) (s_attr hK G.a_word (s_var 1)) (s_ixM (im_ix hK hw hr) (s_gloE G.k_WORDS) s_int) (nomark _)) (nomark _))))))) (fun a pn => (s_sone (s_ret s_bl)))))
  exact ⟨_, _, _, hF, hb, G.g_holds, hkp⟩
theorem sc_Fact___call__ : FnScope n_Fact___call__ ["self", "graph"] (defScope (mem (top 37) 2)) := ⟨rfl, rfl, rfl, by decide +kernel, rfl, by decide +kernel, by decide +kernel⟩
theorem c_Fact___call__ (G : Glob P w K mg base E) : ∃ fd ps, FnOk P w K mg base (L2.CX P w) 6 (E.adr "Fact.__call__") fd ps (spI E f_Fact___call__) ∧ Binds K fd ps [] := by
  obtain ⟨fd, F⟩ := G.d_Fact___call__
  have hb : Binds K fd ["self", "graph"] [] := F.bindsN fun _ _ _ _ _ _ us hl => match us, hl with | [_, _], _ => rfl
  have hkp := F.kp
  have hK := G.hK; have hw := G.hw; have nd := sc_Fact___call__.nd
  have hF : FnOk P w K mg base (L2.CX P w) (5 + 1) (E.adr "Fact.__call__") fd ["self", "graph"] (spI E (mkFn n_Fact___call__.length (["self", "graph"] : List Str).length b_Fact___call__)) := by
    have h1 := fn_s (E := E) (w := w) (P := P) (mg := mg) (base := base) (k := 5) (m := b_Fact___call__) F sc_Fact___call__
    refine h1 ?_; clear h1
    intro cdv A outer s H XE hr
    exact (s_scons (s_expr (s_callE (c_need_values G) hr (by decide) cx_takes (s_cons (s_attr hK G.a_layout (s_var 1)) (s_cons (s_lstN false (s_cons (s_var 0) s_nil)) s_nil))))
    (s_sone (s_ret (s_callE (c_holds G) hr (by decide) cx_takes (s_cons (s_var 1) (s_cons (s_var 0) s_nil))))))
  exact ⟨_, _, hF, hb⟩
theorem m_t_call_Fact (G : Glob P w K mg base E) : MthOk P w K mg base E 6 "__call__" t_call_Fact := by
  obtain ⟨fd0, ps0, h0, b0⟩ := c_Fact___call__ G; obtain ⟨x0, y0, z0⟩ := G.mt_Fact___call__
  exact .cons ⟨_, fd0, ps0, [], [], x0, y0, z0, h0.mono (by decide), b0, .nil, fun _ => .nil⟩ (.nil)
theorem sc_law_word : FnScope n_law_word ["_law_error"] (defScope (top 57)) := ⟨rfl, rfl, rfl, by decide +kernel, rfl, by decide +kernel, by decide +kernel⟩
theorem c_law_word (G : Glob P w K mg base E) : FnE P w K mg base E 1 "_law_word" f_law_word := by
  obtain ⟨fd, F⟩ := G.d_law_word
  have hb : Binds K fd ["_law_error"] [] := F.bindsN fun _ _ _ _ _ _ us hl => match us, hl with | [_], _ => rfl
  have hkp := F.kp
  have hK := G.hK; have hw := G.hw; have nd := sc_law_word.nd
  have hF : FnOk P w K mg base (L2.CX P w) (0 + 1) (E.adr "_law_word") fd ["_law_error"] (spI E (mkFn n_law_word.length (["_law_error"] : List Str).length b_law_word)) := by
    have h1 := fn_s (E := E) (w := w) (P := P) (mg := mg) (base := base) (k := 0) (m := b_law_word) F sc_law_word
    refine h1 ?_; clear h1
    intro cdv A outer s H XE hr
    exact (s_scons (s_asg (s_lstN false (s_cons (s_callB (call_isiU) (isi_s hK G.isi) (by rfl) G.free_isinstance boot_isinstance (s_cons (s_var 0) (s_cons (s_gloE G.k_BadPath) s_nil))) (s_cons (s_callB (call_isiU) (isi_s hK G.isi) (by rfl) G.free_isinstance boot_isinstance (s_cons (s_var 0) (s_cons (s_gloE G.k_TooLarge) s_nil))) (s_cons (s_callB (call_isiU) (isi_s hK G.isi) (by rfl) G.free_isinstance boot_isinstance (s_cons (s_var 0) (s_cons (s_gloE G.k_NoMatch) s_nil))) s_nil)))) (s_gname 1 nd rfl (by first | exact .inl rfl | exact .inr rfl)))
    (s_scons (s_asg (s_binM (om_add hK) (s_var 1) (s_lstN false (s_cons (s_callB (call_isiU) (isi_s hK G.isi) (by rfl) G.free_isinstance boot_isinstance (s_cons (s_var 0) (s_cons (s_tup (s_cons (s_gloE G.k_BadName) (s_cons (s_gloE G.k_BadLayout) (s_cons (s_gloE G.k_BadGraph) (s_cons (s_gloE G.k_NoCell) (s_cons (s_gloE G.k_BadValue) s_nil)))))) s_nil))) s_nil))) (s_gname 1 nd rfl (by first | exact .inl rfl | exact .inr rfl)))
    (s_scons (s_asg (s_binM (om_add hK) (s_var 1) (s_lstN false (s_cons (s_callB (call_isiU) (isi_s hK G.isi) (by rfl) G.free_isinstance boot_isinstance (s_cons (s_var 0) (s_cons (s_tup (s_cons (s_gloE G.k_BadStatement) (s_cons (s_gloE G.k_NoObject) (s_cons (s_gloE G.k_Faulted) (s_cons (s_gloE G.k_BadPlan) (s_cons (s_gloE G.k_BadLine) s_nil)))))) s_nil))) s_nil))) (s_gname 1 nd rfl (by first | exact .inl rfl | exact .inr rfl)))
    (s_scons (s_if (s_or (s_cmpMT (om_ne hK hr) (s_met hK rfl PySem.F.plainAttrs_list PySem.F.slot_list_count PySem.F.type_list_count (met_count hK) (s_var 1) (s_cons s_bl s_nil)) s_int (nomark _)) (s_or1 (s_not (s_truT hK (s_callB (call_isiU) (isi_s hK G.isi) (by rfl) G.free_isinstance boot_isinstance (s_cons (s_var 0) (s_cons (s_bty G.free_ValueError boot_ValueError) s_nil))))))).pt (s_sone (s_ret s_str)) s_snil)
    (s_sone (s_ret (s_ixM (im_ix hK hw hr) (s_lstN false (s_cons s_str (s_cons s_str (s_cons s_str (s_cons s_str (s_cons s_str s_nil)))))) (s_met hK rfl PySem.F.plainAttrs_list PySem.F.slot_list_index PySem.F.type_list_index (met_index hK) (s_var 1) (s_cons s_bl s_nil)))))))))
  exact ⟨_, _, _, hF, hb, G.g_law_word, hkp⟩
theorem sc_law_path_of : FnScope n_law_path_of ["_law_fact_here", "_law_graph"] (defScope (top 59)) := ⟨rfl, rfl, rfl, by decide +kernel, rfl, by decide +kernel, by decide +kernel⟩
theorem c_law_path_of (G : Glob P w K mg base E) : FnEG P w K mg base E 7 "_law_path_of" f_law_path_of := by
  obtain ⟨fd, F⟩ := G.d_law_path_of
  have hb : Binds K fd ["_law_fact_here", "_law_graph"] [] := F.bindsN fun _ _ _ _ _ _ us hl => match us, hl with | [_, _], _ => rfl
  have hkp := F.kp
  obtain ⟨oc, od, dV, kV, doc, pm, an, cdv, ct, osl, rfl, lk, hcd, _, _⟩ := F.ex
  have hK := G.hK; have hw := G.hw; have nd := sc_law_path_of.nd
  have h1 := fn_sG (E := E) (w := w) (P := P) (mg := mg) (base := base) (k := 6) (m := b_law_path_of) lk hcd sc_law_path_of
  refine ⟨_, _, _, h1 ?_, hb, G.g_law_path_of, hkp⟩; clear h1
  intro A outer s H XE hgu hr
  exact (s_scons (s_asg s_non (s_gname 2 nd rfl (by first | exact .inl rfl | exact .inr rfl)))
    (s_scons (s_asg s_non (s_gname 3 nd rfl (by first | exact .inl rfl | exact .inr rfl)))
    (s_scons (s_tryAs 4 hK G.cat_PlaceError rfl rfl nd rfl rfl ⟨rfl, by decide, .inl G.g_PlaceError⟩ cx_takes (fun W pn xe tk hp => (s_sone (s_asg (s_callI hK (m_t_call_Fact G) (hr.mono (by decide)) tk (s_var 0) (s_cons (s_var 1) s_nil)) (s_gname 2 nd rfl (by first | exact .inl rfl | exact .inr rfl))))) (fun a pn => (s_sone (s_asg (s_var 4) (s_gname 3 nd rfl (by first | exact .inl rfl | exact .inr rfl))))))
    (s_scons (s_if (s_cmpMT (om_is) (s_var 3) s_non (nomark _)) (s_sone (s_ret (s_var 2))) s_snil)
    (s_sone (s_ret (s_lstN false (s_cons (s_callE (c_law_word G) hr (by decide) cx_takes (s_cons (s_var 3) s_nil)) (s_cons (s_ifE (s_truT hK (s_callB (call_isiU) (isi_s hK G.isi) (by rfl) G.free_isinstance boot_isinstance (s_cons (s_var 3) (s_cons (s_gloE G.k_BadPath) s_nil)))) (s_callB (call_repr hgu hr.units) (repr_s hK) (by rfl) G.free_repr boot_repr (s_cons (s_attrE hK G.ae_path (s_var 3)) s_nil)) s_str) s_nil)))))))))
theorem sc_law_read : FnScope n_law_read ["_law_get", "_law_path_here"] (defScope (top 53)) := ⟨rfl, rfl, rfl, by decide +kernel, rfl, by decide +kernel, by decide +kernel⟩
theorem c_law_read (G : Glob P w K mg base E) : FnE P w K mg base E 2 "_law_read" f_law_read := by
  obtain ⟨fd, F⟩ := G.d_law_read
  have hb : Binds K fd ["_law_get", "_law_path_here"] [] := F.bindsN fun _ _ _ _ _ _ us hl => match us, hl with | [_, _], _ => rfl
  have hkp := F.kp
  have hK := G.hK; have hw := G.hw; have nd := sc_law_read.nd
  have hF : FnOk P w K mg base (L2.CX P w) (1 + 1) (E.adr "_law_read") fd ["_law_get", "_law_path_here"] (spI E (mkFn n_law_read.length (["_law_get", "_law_path_here"] : List Str).length b_law_read)) := by
    have h1 := fn_s (E := E) (w := w) (P := P) (mg := mg) (base := base) (k := 1) (m := b_law_read) F sc_law_read
    refine h1 ?_; clear h1
    intro cdv A outer s H XE hr
    exact (s_scons (s_if (s_cmpMT (om_is) (s_var 1) s_non (nomark _)) (s_sone (s_ret s_non)) s_snil)
    (s_scons (s_asg (s_met hK rfl PySem.F.plainAttrs_str PySem.F.slot_str_split PySem.F.type_str_split (met_split false) (s_var 1) (s_cons s_str s_nil)) (s_gname 2 nd rfl (by first | exact .inl rfl | exact .inr rfl)))
    (s_scons (s_asg (s_callClo (ctabOk G) (hr.mono (by decide)) cx_takes (s_var 0) (s_cons (s_ixM (im_ix hK hw hr) (s_var 2) s_int) s_nil)) (s_gname 3 nd rfl (by first | exact .inl rfl | exact .inr rfl)))
    (s_scons (s_for cx_owns rfl (s_iseq hK (s_slice hK (s_var 2) (so_some s_int) so_none)) (s_gname 4 nd rfl (by first | exact .inl rfl | exact .inr rfl)) (s_scons (s_if (s_cmpMT (om_is) (s_var 3) s_non (nomark _)) (s_sone (s_ret s_str)) s_snil)
    (s_sone (s_asg (s_callClo (ctabOk G) (hr.mono (by decide)) cx_takes (s_var 0) (s_cons (s_tup (s_cons (s_var 3) (s_cons (s_var 4) s_nil))) s_nil)) (s_gname 3 nd rfl (by first | exact .inl rfl | exact .inr rfl))))))
    (s_sone (s_ret (s_var 3)))))))
  exact ⟨_, _, _, hF, hb, G.g_law_read, hkp⟩
theorem sc_law_holds : FnScope n_law_holds ["_law_get", "_law_told"] (defScope (top 56)) := ⟨rfl, rfl, rfl, by decide +kernel, rfl, by decide +kernel, by decide +kernel⟩
theorem c_law_holds (G : Glob P w K mg base E) : FnE P w K mg base E 3 "_law_holds" f_law_holds := by
  obtain ⟨fd, F⟩ := G.d_law_holds
  have hb : Binds K fd ["_law_get", "_law_told"] [] := F.bindsN fun _ _ _ _ _ _ us hl => match us, hl with | [_, _], _ => rfl
  have hkp := F.kp
  have hK := G.hK; have hw := G.hw; have nd := sc_law_holds.nd
  have hF : FnOk P w K mg base (L2.CX P w) (2 + 1) (E.adr "_law_holds") fd ["_law_get", "_law_told"] (spI E (mkFn n_law_holds.length (["_law_get", "_law_told"] : List Str).length b_law_holds)) := by
    have h1 := fn_s (E := E) (w := w) (P := P) (mg := mg) (base := base) (k := 2) (m := b_law_holds) F sc_law_holds
    refine h1 ?_; clear h1
    intro cdv A outer s H XE hr
    exact (s_scons (s_asg (s_callE (c_law_read G) hr (by decide) cx_takes (s_cons (s_var 0) (s_cons (s_ixM (im_ix hK hw hr) (s_var 1) s_int) s_nil))) (s_gname 2 nd rfl (by first | exact .inl rfl | exact .inr rfl)))
    (s_scons (s_if (s_cmpMT (om_eq hK hr) (s_var 2) s_str (nomark _)) (s_sone (s_ret s_bl)) s_snil)
    (s_scons (s_asg (s_callE (c_law_read G) hr (by decide) cx_takes (s_cons (s_var 0) (s_cons (s_ixM (im_ix hK hw hr) (s_var 1) s_int) s_nil))) (s_gname 3 nd rfl (by first | exact .inl rfl | exact .inr rfl)))
    (s_sone (s_ret (s_andV hK (s_cmpM (om_ne hK hr) (s_var 3) s_str (nomark _)) (s_one (s_cmpM (om_eq hK hr) (s_cmpM (om_eq hK hr) (s_var 2) (s_var 3) (nomark _)) (s_cmpM (om_eq hK hr) (s_ixM (im_ix hK hw hr) (s_var 1) s_int) s_str (nomark _)) (nomark _)))))))))
  exact ⟨_, _, _, hF, hb, G.g_law_holds, hkp⟩
theorem sc_law_elsewhere_right : FnScope n_law_elsewhere_right ["_law_frame_here", "_law_fact_here", "_law_told"] (defScope (top 61)) := ⟨rfl, rfl, rfl, by decide +kernel, rfl, by decide +kernel, by decide +kernel⟩
theorem c_law_elsewhere_right (G : Glob P w K mg base E) : FnEG P w K mg base E 8 "_law_elsewhere_right" f_law_elsewhere_right := by
  obtain ⟨fd, F⟩ := G.d_law_elsewhere_right
  have hb : Binds K fd ["_law_frame_here", "_law_fact_here", "_law_told"] [] := F.bindsN fun _ _ _ _ _ _ us hl => match us, hl with | [_, _, _], _ => rfl
  have hkp := F.kp
  obtain ⟨oc, od, dV, kV, doc, pm, an, cdv, ct, osl, rfl, lk, hcd, _, _⟩ := F.ex
  have hK := G.hK; have hw := G.hw; have nd := sc_law_elsewhere_right.nd
  have h1 := fn_sG (E := E) (w := w) (P := P) (mg := mg) (base := base) (k := 7) (m := b_law_elsewhere_right) lk hcd sc_law_elsewhere_right
  refine ⟨_, _, _, h1 ?_, hb, G.g_law_elsewhere_right, hkp⟩; clear h1
  intro A outer s H XE hgu hr
  exact (s_scons (s_asg (s_ixM (im_ix hK hw hr) (s_comp false [("_law_word_here", 4)] rfl nd (s_iseq hK (s_lstN false (s_cons s_str (s_cons s_str (s_cons s_str (s_cons s_str s_nil)))))) (blkOk_by rfl) (fun _ _ _ _ _ => (s_gnameW [4] 4 nd rfl (by first | exact .inl rfl | exact .inr rfl))) (fun _ _ _ _ _ => (s_tsone (s_cmpMT (om_nin hK hr) (s_var 4) (s_ixM (im_ix hK hw hr) (s_var 0) s_int) (by rfl)))) (fun _ _ _ _ _ => (s_var 4))) s_int) (s_gname 3 nd rfl (by first | exact .inl rfl | exact .inr rfl)))
    (s_scons (s_asg (s_make true (mk_Graph G) (hr.mono (by decide)) cx_takes G.g_Graph (s_cons (s_make true (mk_Layout G) (hr.mono (by decide)) cx_takes G.g_Layout (s_cons (s_lstN false (s_cons (s_var 3) s_nil)) (s_cons (s_ixM (im_ix hK hw hr) (s_var 0) s_int) s_nil))) (s_cons (s_lstN false (s_cons s_int s_nil)) (s_cons (s_lstN false (s_cons (s_binM (om_mul) (s_lstN false (s_cons s_non s_nil)) (s_callB (call_len) (len_s hK) (by rfl) G.free_len boot_len (s_cons (s_ixM (im_ix hK hw hr) (s_var 0) s_int) s_nil))) s_nil)) s_nil)))) (s_gname 5 nd rfl (by first | exact .inl rfl | exact .inr rfl)))
    (s_scons (s_setComp false 6 [("_law_value_here", 7)] rfl nd rfl rfl (s_iseq hK (s_tup (s_cons (s_ixM (im_ix hK hw hr) (s_var 2) s_int) (s_cons (s_ixM (im_ix hK hw hr) (s_var 2) s_int) s_nil)))) (blkOk_by rfl) (fun _ _ _ _ _ => (s_gnameW [7] 7 nd rfl (by first | exact .inl rfl | exact .inr rfl))) (fun _ _ _ _ _ => (s_tsone (s_cmpMT (om_isn) (s_var 7) s_non (nomark _)))) (fun _ _ _ _ _ => (s_var 7)))
    (s_scons (s_if (s_cmpMT (om_eq hK hr) (s_var 6) (s_lstN false s_nil) (nomark _)) (s_scons (s_asg (s_callEG (c_law_path_of G) hgu hr (by decide) cx_takes (s_cons (s_var 1) (s_cons (s_var 5) s_nil))) (s_gname 8 nd rfl (by first | exact .inl rfl | exact .inr rfl)))
    (s_sone (s_ret (s_andV hK (s_callB (call_isiU) (isi_s hK G.isi) (by rfl) G.free_isinstance boot_isinstance (s_cons (s_var 8) (s_cons (s_bty G.free_bool boot_bool) s_nil))) (s_one (s_cmpM (om_eq hK hr) (s_var 8) (s_cmpM (om_eq hK hr) (s_ixM (im_ix hK hw hr) (s_var 2) s_int) s_str (nomark _)) (nomark _))))))) s_snil)
    (s_sone (s_ret (s_cmpM (om_eq hK hr) (s_callEG (c_law_path_of G) hgu hr (by decide) cx_takes (s_cons (s_var 1) (s_cons (s_var 5) s_nil))) (s_lstN false (s_cons s_str (s_cons (s_callB (call_repr hgu hr.units) (repr_s hK) (by rfl) G.free_repr boot_repr (s_cons (s_ixM (im_ix hK hw hr) (s_var 6) s_int) s_nil)) s_nil))) (nomark _))))))))
theorem sc_law_strange : FnScope n_law_strange ["_law_draw", "_law_frame_here"] (defScope (top 58)) := ⟨rfl, rfl, rfl, by decide +kernel, rfl, by decide +kernel, by decide +kernel⟩
theorem c_law_strange (G : Glob P w K mg base E) : FnE P w K mg base E 3 "_law_strange" f_law_strange := by
  obtain ⟨fd, F⟩ := G.d_law_strange
  have hb : Binds K fd ["_law_draw", "_law_frame_here"] [] := F.bindsN fun _ _ _ _ _ _ us hl => match us, hl with | [_, _], _ => rfl
  have hkp := F.kp
  have hK := G.hK; have hw := G.hw; have nd := sc_law_strange.nd
  have hF : FnOk P w K mg base (L2.CX P w) (2 + 1) (E.adr "_law_strange") fd ["_law_draw", "_law_frame_here"] (spI E (mkFn n_law_strange.length (["_law_draw", "_law_frame_here"] : List Str).length b_law_strange)) := by
    have h1 := fn_s (E := E) (w := w) (P := P) (mg := mg) (base := base) (k := 2) (m := b_law_strange) F sc_law_strange
    refine h1 ?_; clear h1
    intro cdv A outer s H XE hr
    exact (s_scons (s_par 2 3 rfl nd rfl rfl (by decide) rfl rfl (s_cons (s_ixM (im_ix hK hw hr) (s_ixM (im_ix hK hw hr) (s_var 1) s_int) s_int) (s_cons (s_ixM (im_ix hK hw hr) (s_ixM (im_ix hK hw hr) (s_var 1) s_int) s_int) s_nil)) rfl)
    (s_scons (s_asg (s_lstN false (s_cons s_int (s_cons s_bl (s_cons s_str (s_cons (s_binM (om_add hK) (s_var 2) s_str) (s_cons (s_binM (om_add hK) s_str (s_var 2)) (s_cons (s_binM (om_add hK) (s_binM (om_add hK) (s_binM (om_add hK) (s_binM (om_add hK) (s_binM (om_add hK) (s_binM (om_add hK) (s_var 2) s_str) (s_var 3)) s_str) (s_var 3)) s_str) (s_var 3)) (s_cons (s_tup (s_cons (s_var 2) s_nil)) (s_cons (s_lstN false (s_cons (s_var 2) s_nil)) s_nil))))))))) (s_gname 4 nd rfl (by first | exact .inl rfl | exact .inr rfl)))
    (s_sone (s_ret (s_callE (c_law_pick G) hr (by decide) cx_takes (s_cons (s_var 0) (s_cons (s_binM (om_add hK) (s_var 4) (s_lstN false (s_cons (s_binM (om_add hK) (s_var 2) s_str) (s_cons s_str (s_cons (s_binM (om_add hK) (s_var 2) s_str) (s_cons (s_dispE false) (s_cons (s_binM (om_add hK) (s_var 2) s_str) (s_cons (s_tup s_nil) s_nil)))))))) s_nil)))))))
  exact ⟨_, _, _, hF, hb, G.g_law_strange, hkp⟩
theorem sc_Fact___eq__ : FnScope n_Fact___eq__ ["self", "other"] (defScope (mem (top 37) 1)) := ⟨rfl, rfl, rfl, by decide +kernel, rfl, by decide +kernel, by decide +kernel⟩
theorem c_Fact___eq__ (G : Glob P w K mg base E) : ∃ fd ps, FnOk P w K mg base (L2.CX P w) 1 (E.adr "Fact.__eq__") fd ps (spI E f_Fact___eq__) ∧ Binds K fd ps [] := by
  obtain ⟨fd, F⟩ := G.d_Fact___eq__
  have hb : Binds K fd ["self", "other"] [] := F.bindsN fun _ _ _ _ _ _ us hl => match us, hl with | [_, _], _ => rfl
  have hkp := F.kp
  have hK := G.hK; have hw := G.hw; have nd := sc_Fact___eq__.nd
  have hF : FnOk P w K mg base (L2.CX P w) (0 + 1) (E.adr "Fact.__eq__") fd ["self", "other"] (spI E (mkFn n_Fact___eq__.length (["self", "other"] : List Str).length b_Fact___eq__)) := by
    have h1 := fn_s (E := E) (w := w) (P := P) (mg := mg) (base := base) (k := 0) (m := b_Fact___eq__) F sc_Fact___eq__
    refine h1 ?_; clear h1
    intro cdv A outer s H XE hr
    exact (s_scons (s_if (s_not (s_truT hK (s_callB (call_isiU) (isi_s hK G.isi) (by rfl) G.free_isinstance boot_isinstance (s_cons (s_var 1) (s_cons (s_gloE G.k_Fact) s_nil))))) (s_sone (s_ret s_bl)) s_snil)
    (s_sone (s_ret (s_andV hK (s_cmpM (om_eq hK hr) (s_attr hK G.a_one (s_var 0)) (s_attr hK G.a_one (s_var 1)) (nomark _)) (s_andV hK (s_cmpM (om_eq hK hr) (s_attr hK G.a_word (s_var 0)) (s_attr hK G.a_word (s_var 1)) (nomark _)) (s_one (s_cmpM (om_eq hK hr) (s_attr hK G.a_other (s_var 0)) (s_attr hK G.a_other (s_var 1)) (nomark _))))))))
  exact ⟨_, _, hF, hb⟩
theorem m_t_eq_Fact (G : Glob P w K mg base E) : MthOk P w K mg base E 1 "__eq__" t_eq_Fact := by
  obtain ⟨fd0, ps0, h0, b0⟩ := c_Fact___eq__ G; obtain ⟨x0, y0, z0⟩ := G.mt_Fact___eq__
  exact .cons ⟨_, fd0, ps0, [], [], x0, y0, z0, h0.mono (by decide), b0, .nil, fun _ => .nil⟩ (.nil)
theorem sc_law_alike_right : FnScope n_law_alike_right ["_law_one", "_law_other"] (defScope (top 60)) := ⟨rfl, rfl, rfl, by decide +kernel, rfl, by decide +kernel, by decide +kernel⟩
theorem c_law_alike_right (G : Glob P w K mg base E) : FnE P w K mg base E 3 "_law_alike_right" f_law_alike_right := by
  obtain ⟨fd, F⟩ := G.d_law_alike_right
  have hb : Binds K fd ["_law_one", "_law_other"] [] := F.bindsN fun _ _ _ _ _ _ us hl => match us, hl with | [_, _], _ => rfl
  have hkp := F.kp
  have hK := G.hK; have hw := G.hw; have nd := sc_law_alike_right.nd
  have hF : FnOk P w K mg base (L2.CX P w) (2 + 1) (E.adr "_law_alike_right") fd ["_law_one", "_law_other"] (spI E (mkFn n_law_alike_right.length (["_law_one", "_law_other"] : List Str).length b_law_alike_right)) := by
    have h1 := fn_s (E := E) (w := w) (P := P) (mg := mg) (base := base) (k := 2) (m := b_law_alike_right) F sc_law_alike_right
    refine h1 ?_; clear h1
    intro cdv A outer s H XE hr
    exact (s_scons (s_par 2 3 rfl nd rfl rfl (by decide) rfl rfl (s_cons (s_make true (mk_Fact G) (hr.mono (by decide)) cx_takes G.g_Fact (s_cons (s_ixM (im_ix hK hw hr) (s_var 0) s_int) (s_cons (s_ixM (im_ix hK hw hr) (s_var 0) s_int) (s_cons (s_ixM (im_ix hK hw hr) (s_var 0) s_int) s_nil)))) (s_cons (s_make true (mk_Fact G) (hr.mono (by decide)) cx_takes G.g_Fact (s_cons (s_ixM (im_ix hK hw hr) (s_var 1) s_int) (s_cons (s_ixM (im_ix hK hw hr) (s_var 1) s_int) (s_cons (s_ixM (im_ix hK hw hr) (s_var 1) s_int) s_nil)))) s_nil)) rfl)
    (s_scons (s_if (s_or (s_cmpMT (ne_m hK G.nf G.ne_t_eq_Fact (m_t_eq_Fact G) (hr.mono (by decide)) cx_takes (om_ne hK hr)) (s_cmpM (eq_m ⟨fun _ _ => rfl, rfl⟩ hK G.nf (m_t_eq_Fact G) (hr.mono (by decide)) cx_takes (om_eq hK hr)) (s_var 2) (s_var 3) (nomark _)) (s_cmpM (eq_m ⟨fun _ _ => rfl, rfl⟩ hK G.nf (m_t_eq_Fact G) (hr.mono (by decide)) cx_takes (om_eq hK hr)) (s_var 0) (s_var 1) (nomark _)) (nomark _)) (s_or1 (s_not (s_cmpMT (eq_m ⟨fun _ _ => rfl, rfl⟩ hK G.nf (m_t_eq_Fact G) (hr.mono (by decide)) cx_takes (om_eq hK hr)) (s_var 2) (s_make true (mk_Fact G) (hr.mono (by decide)) cx_takes G.g_Fact (s_cons (s_ixM (im_ix hK hw hr) (s_var 0) s_int) (s_cons (s_ixM (im_ix hK hw hr) (s_var 0) s_int) (s_cons (s_ixM (im_ix hK hw hr) (s_var 0) s_int) s_nil)))) (nomark _))))).pt (s_sone (s_ret s_bl)) s_snil)
    (s_sone (s_ret (s_andV hK (s_cmpM (eq_m ⟨fun _ _ => rfl, rfl⟩ hK G.nf (m_t_eq_Fact G) (hr.mono (by decide)) cx_takes (om_eq hK hr)) (s_cmpM (ne_m hK G.nf G.ne_t_eq_Fact (m_t_eq_Fact G) (hr.mono (by decide)) cx_takes (om_ne hK hr)) (s_var 2) (s_var 3) (nomark _)) (s_cmpM (ne_m hK G.nf G.ne_t_eq_Fact (m_t_eq_Fact G) (hr.mono (by decide)) cx_takes (om_ne hK hr)) (s_var 0) (s_var 1) (nomark _)) (nomark _)) (s_andV hK (s_cmpM (ne_m hK G.nf G.ne_t_eq_Fact (m_t_eq_Fact G) (hr.mono (by decide)) cx_takes (om_ne hK hr)) (s_var 2) (s_var 0) (nomark _)) (s_one (s_cmpM (ne_m hK G.nf G.ne_t_eq_Fact (m_t_eq_Fact G) (hr.mono (by decide)) cx_takes (om_ne hK hr)) (s_var 2) (s_ixM (im_ix hK hw hr) (s_var 0) s_int) (nomark _)))))))))
  exact ⟨_, _, _, hF, hb, G.g_law_alike_right, hkp⟩
theorem sc_law : FnScope n_law ["_law_script"] (defScope (top 62)) := ⟨rfl, rfl, rfl, by decide +kernel, rfl, by decide +kernel, by decide +kernel⟩
theorem c_law (G : Glob P w K mg base E) {fd : FuncData} (F : FunD K "law" "law" (defArgs (top 62)) (defBody (top 62)) (defScope (top 62)) [] [] (E.adr "law") fd) : FnG P w K mg base (L2.CX P w) 9 (E.adr "law") fd ["_law_script"] (spI E f_law) := by
  have hb : Binds K fd ["_law_script"] [] := F.bindsN fun _ _ _ _ _ _ us hl => match us, hl with | [_], _ => rfl
  have hkp := F.kp
  obtain ⟨oc, od, dV, kV, doc, pm, an, cdv, ct, osl, rfl, lk, hcd, _, _⟩ := F.ex
  have hK := G.hK; have hw := G.hw; have nd := sc_law.nd
  obtain ⟨cA, rfl⟩ := He.codeIn_ref hcd
  have hcA := He.codeOf_eq (p := (("law" : Str), (none : Option Str))) (by rw [← G.ad_law]; exact lk) rfl
  obtain ⟨T, TB, hTm, hTu⟩ := G.t_law
  rw [hcA] at TB
  have h1 := fn_sG (E := E) (w := w) (P := P) (mg := mg) (base := base) (k := 8) (m := b_law) lk hcd sc_law
  refine h1 ?_; clear h1
  intro A outer s H XE hgu hr
  exact (s_scons (s_asg (s_callE (c_law_begun G) hr (by decide) cx_takes (s_cons (s_var 0) s_nil)) (s_gname 1 nd rfl (by first | exact .inl rfl | exact .inr rfl)))
    (s_scons (s_for cx_owns rfl (s_irng1 G.free_range (s_cons s_int s_nil)) (s_gname 2 nd rfl (by first | exact .inl rfl | exact .inr rfl)) (s_scons (s_asg (s_callE (c_law_frame G) hr (by decide) cx_takes (s_cons (s_var 1) (s_cons s_int (s_cons s_int s_nil)))) (s_gname 3 nd rfl (by first | exact .inl rfl | exact .inr rfl)))
    (s_scons (s_asg (s_make true (mk_Layout G) (hr.mono (by decide)) cx_takes G.g_Layout (s_cons (s_listN hK false G.free_list (s_cons (s_ixM (im_ix hK hw hr) (s_var 3) s_int) s_nil)) (s_cons (s_ixM (im_ix hK hw hr) (s_var 3) s_int) s_nil))) (s_gname 4 nd rfl (by first | exact .inl rfl | exact .inr rfl)))
    (s_sone (s_for cx_owns rfl (s_irng1 G.free_range (s_cons s_int s_nil)) (s_gname 5 nd rfl (by first | exact .inl rfl | exact .inr rfl)) (s_scons (s_asg (s_callE (c_law_shape G) hr (by decide) cx_takes (s_cons (s_var 1) (s_cons (s_var 3) (s_cons s_int s_nil)))) (s_gname 6 nd rfl (by first | exact .inl rfl | exact .inr rfl)))
    (s_scons (s_asg (s_tup (s_cons (s_callE (c_law_world G) hr (by decide) cx_takes (s_cons (s_var 3) (s_cons (s_var 6) s_nil))) (s_cons (s_make true (mk_Graph G) (hr.mono (by decide)) cx_takes G.g_Graph (s_cons (s_var 4) (s_cons (s_ixM (im_ix hK hw hr) (s_var 6) s_int) (s_cons (s_ixM (im_ix hK hw hr) (s_var 6) s_int) s_nil)))) s_nil))) (s_gtup hK rfl (s_gcons (s_gname 7 nd rfl (by first | exact .inl rfl | exact .inr rfl)) (s_gcons (s_gname 8 nd rfl (by first | exact .inl rfl | exact .inr rfl)) s_gnil))))
    (s_scons (s_par 9 10 rfl nd rfl rfl (by decide) rfl rfl (s_cons (s_meth0 hK (m_t_contents_Graph G) (hr.mono (by decide)) cx_takes (s_var 8)) (s_cons (s_callE (c_law_fact G) hr (by decide) cx_takes (s_cons (s_var 1) (s_cons (s_var 3) (s_cons s_int s_nil)))) s_nil)) rfl)
    (s_scons (s_asg (s_make true (mk_Fact G) (hr.mono (by decide)) cx_takes G.g_Fact (s_cons (s_ixM (im_ix hK hw hr) (s_var 10) s_int) (s_cons (s_ixM (im_ix hK hw hr) (s_var 10) s_int) (s_cons (s_ixM (im_ix hK hw hr) (s_var 10) s_int) s_nil)))) (s_gname 11 nd rfl (by first | exact .inl rfl | exact .inr rfl)))
    (s_scons (s_asg (s_callEG (c_law_path_of G) hgu hr (by decide) cx_takes (s_cons (s_var 11) (s_cons (s_var 8) s_nil))) (s_gname 12 nd rfl (by first | exact .inl rfl | exact .inr rfl)))
    (s_scons (s_if (s_or (s_not (s_truT hK (s_callB (call_isiU) (isi_s hK G.isi) (by rfl) G.free_isinstance boot_isinstance (s_cons (s_var 12) (s_cons (s_bty G.free_bool boot_bool) s_nil))))) (s_or1 (s_cmpMT (om_ne hK hr) (s_var 12) (s_callLE (cls := cls_law (s := s) (f := E.adr "law") (cd := .ref cA)) (c_law_holds G) hr (by decide) cx_takes ⟨capsOk_law G rfl rfl⟩ (fun _ => rfl) (s_qlam (s_lam 0 G.lam_0 rfl TB rfl hTm (by rfl) hTu hfree_0) (s_qval (s_var 10) s_qnil))) (nomark _)))).pt (s_sone (s_ret s_bl)) s_snil)
    (s_scons (s_if (s_or (s_cmpMT (om_ne hK hr) (s_tup (s_cons (s_attr hK G.a_one (s_var 11)) (s_cons (s_attr hK G.a_word (s_var 11)) (s_cons (s_attr hK G.a_other (s_var 11)) s_nil)))) (s_var 10) (nomark _)) (s_or1 (s_cmpMT (om_ne hK hr) (s_meth0 hK (m_t_contents_Graph G) (hr.mono (by decide)) cx_takes (s_var 8)) (s_var 9) (nomark _)))).pt (s_sone (s_ret s_bl)) s_snil)
    (s_scons (s_if (s_or (s_not (s_truT hK (s_callEG (c_law_elsewhere_right G) hgu hr (by decide) cx_takes (s_cons (s_var 3) (s_cons (s_var 11) (s_cons (s_var 10) s_nil)))))) (s_or1 (s_cmpMT (om_ne hK hr) (s_callEG (c_law_path_of G) hgu hr (by decide) cx_takes (s_cons (s_var 11) (s_cons (s_var 8) s_nil))) (s_var 12) (nomark _)))).pt (s_sone (s_ret s_bl)) s_snil)
    (s_scons (s_par 13 14 rfl nd rfl rfl (by decide) rfl rfl (s_cons (s_callE (c_law_strange G) hr (by decide) cx_takes (s_cons (s_var 1) (s_cons (s_var 3) s_nil))) (s_cons (s_callE (c_law_strange G) hr (by decide) cx_takes (s_cons (s_var 1) (s_cons (s_var 3) s_nil))) s_nil)) rfl)
    (s_scons (s_asg (s_lstN false (s_cons (s_tup (s_cons (s_var 13) (s_cons (s_ixM (im_ix hK hw hr) (s_var 10) s_int) (s_cons (s_ixM (im_ix hK hw hr) (s_var 10) s_int) s_nil)))) (s_cons (s_tup (s_cons (s_ixM (im_ix hK hw hr) (s_var 10) s_int) (s_cons (s_ixM (im_ix hK hw hr) (s_var 10) s_int) (s_cons (s_var 13) s_nil)))) (s_cons (s_tup (s_cons (s_var 13) (s_cons (s_ixM (im_ix hK hw hr) (s_var 10) s_int) (s_cons (s_var 14) s_nil)))) s_nil)))) (s_gname 15 nd rfl (by first | exact .inl rfl | exact .inr rfl)))
    (s_scons (s_asg (s_callE (c_law_pick G) hr (by decide) cx_takes (s_cons (s_var 1) (s_cons (s_var 15) s_nil))) (s_gname 16 nd rfl (by first | exact .inl rfl | exact .inr rfl)))
    (s_scons (s_if (s_cmpMT (om_ne hK hr) (s_callEG (c_law_path_of G) hgu hr (by decide) cx_takes (s_cons (s_make true (mk_Fact G) (hr.mono (by decide)) cx_takes G.g_Fact (s_cons (s_ixM (im_ix hK hw hr) (s_var 16) s_int) (s_cons (s_ixM (im_ix hK hw hr) (s_var 16) s_int) (s_cons (s_ixM (im_ix hK hw hr) (s_var 16) s_int) s_nil)))) (s_cons (s_var 8) s_nil))) (s_lstN false (s_cons s_str (s_cons (s_callB (call_repr hgu hr.units) (repr_s hK) (by rfl) G.free_repr boot_repr (s_cons (s_var 13) s_nil)) s_nil))) (nomark _)) (s_sone (s_ret s_bl)) s_snil)
    (s_scons (s_asg (s_lstN false (s_cons (s_var 10) (s_cons (s_callE (c_law_fact G) hr (by decide) cx_takes (s_cons (s_var 1) (s_cons (s_var 3) (s_cons s_int s_nil)))) (s_cons (s_callE (c_law_fact G) hr (by decide) cx_takes (s_cons (s_var 1) (s_cons (s_var 3) (s_cons s_int s_nil)))) s_nil)))) (s_gname 15 nd rfl (by first | exact .inl rfl | exact .inr rfl)))
    (s_sone (s_if (s_not (s_truT hK (s_callE (c_law_alike_right G) hr (by decide) cx_takes (s_cons (s_var 10) (s_cons (s_callE (c_law_pick G) hr (by decide) cx_takes (s_cons (s_var 1) (s_cons (s_var 15) s_nil))) s_nil))))) (s_sone (s_ret s_bl)) s_snil))))))))))))))))))))
    (s_sone (s_ret s_bl))))
end
end Q54
end
section
set_option maxHeartbeats 4000000
namespace Q54
open PySem PySem.Spec PyProof.Rows L2 Mp
theorem glob {P : Program} {w : World} {h base : Heap} {K : PySem.W.Frag} {mg : Str → Option Value} (X : K.In h) (N : h.Ns mainGlobals mg) (c : SaysM fnL tfL ck h K) (TB : ∀ p ∈ tfL.map (He.cT K), LamX.TabB base mg p.1 p.2) : Glob P w K mg base (eF K w) := by
  have ok : ∀ (i : Nat) (b : Bool), (ckL K (adrF nmT K))[i]? = some b → b = true := fun i b e => List.all_eq_true.mp c.more b (List.mem_of_getElem? e)
  have dd : ∀ (i : Nat) (d : He.DefD), fnL[i]? = some d → ∃ fd, FunD K d.name d.qual d.params d.body d.scope (d.dvs K) (d.kws K) (He.fAd K d.at_) fd := fun i d e => c.d.def_ i e
  have ad : ∀ (x : Str) (p : Str × Option Str), nmT.lookup x = some p → (eF K w).adr x = He.fAd K p := fun x p e => adrF_eq e
  exact {
    hK := rfl, hw := rfl,
    d_law_begun := by rw [ad "_law_begun" (("_law_begun" : Str), (none : Option Str)) (by decide +kernel)]; exact dd 0 _ rfl,
    d_law_take := by rw [ad "_law_take" (("_law_take" : Str), (none : Option Str)) (by decide +kernel)]; exact dd 1 _ rfl,
    d_law_pick := by rw [ad "_law_pick" (("_law_pick" : Str), (none : Option Str)) (by decide +kernel)]; exact dd 2 _ rfl,
    d_law_words := by rw [ad "_law_words" (("_law_words" : Str), (none : Option Str)) (by decide +kernel)]; exact dd 3 _ rfl,
    d_law_frame := by rw [ad "_law_frame" (("_law_frame" : Str), (none : Option Str)) (by decide +kernel)]; exact dd 4 _ rfl,
    d_is_list := by rw [ad "is_list" (("is_list" : Str), (none : Option Str)) (by decide +kernel)]; exact dd 5 _ rfl,
    d_is_name := by rw [ad "is_name" (("is_name" : Str), (none : Option Str)) (by decide +kernel)]; exact dd 6 _ rfl,
    d_need_names := by rw [ad "need_names" (("need_names" : Str), (none : Option Str)) (by decide +kernel)]; exact dd 7 _ rfl,
    d_Layout___init__ := by rw [ad "Layout.__init__" (("Layout" : Str), (some "__init__" : Option Str)) (by decide +kernel)]; exact dd 8 _ rfl,
    d_law_shape := by rw [ad "_law_shape" (("_law_shape" : Str), (none : Option Str)) (by decide +kernel)]; exact dd 9 _ rfl,
    d_law_world := by rw [ad "_law_world" (("_law_world" : Str), (none : Option Str)) (by decide +kernel)]; exact dd 10 _ rfl,
    d_is_integer := by rw [ad "is_integer" (("is_integer" : Str), (none : Option Str)) (by decide +kernel)]; exact dd 11 _ rfl,
    d_is_held := by rw [ad "is_held" (("is_held" : Str), (none : Option Str)) (by decide +kernel)]; exact dd 12 _ rfl,
    d_are_values := by rw [ad "are_values" (("are_values" : Str), (none : Option Str)) (by decide +kernel)]; exact dd 13 _ rfl,
    d_Graph___init__ := by rw [ad "Graph.__init__" (("Graph" : Str), (some "__init__" : Option Str)) (by decide +kernel)]; exact dd 14 _ rfl,
    d_Graph_cells := by rw [ad "Graph.cells" (("Graph" : Str), (some "cells" : Option Str)) (by decide +kernel)]; exact dd 15 _ rfl,
    d_Graph_contents := by rw [ad "Graph.contents" (("Graph" : Str), (some "contents" : Option Str)) (by decide +kernel)]; exact dd 16 _ rfl,
    d_law_path := by rw [ad "_law_path" (("_law_path" : Str), (none : Option Str)) (by decide +kernel)]; exact dd 17 _ rfl,
    d_law_value := by rw [ad "_law_value" (("_law_value" : Str), (none : Option Str)) (by decide +kernel)]; exact dd 18 _ rfl,
    d_law_fact := by rw [ad "_law_fact" (("_law_fact" : Str), (none : Option Str)) (by decide +kernel)]; exact dd 19 _ rfl,
    d_Fact___init__ := by rw [ad "Fact.__init__" (("Fact" : Str), (some "__init__" : Option Str)) (by decide +kernel)]; exact dd 20 _ rfl,
    d_Layout___contains__ := by rw [ad "Layout.__contains__" (("Layout" : Str), (some "__contains__" : Option Str)) (by decide +kernel)]; exact dd 21 _ rfl,
    d_is_value := by rw [ad "is_value" (("is_value" : Str), (none : Option Str)) (by decide +kernel)]; exact dd 22 _ rfl,
    d_need_values := by rw [ad "need_values" (("need_values" : Str), (none : Option Str)) (by decide +kernel)]; exact dd 23 _ rfl,
    d_Graph_look := by rw [ad "Graph.look" (("Graph" : Str), (some "look" : Option Str)) (by decide +kernel)]; exact dd 24 _ rfl,
    d_value_at := by rw [ad "value_at" (("value_at" : Str), (none : Option Str)) (by decide +kernel)]; exact dd 25 _ rfl,
    d_value_of := by rw [ad "value_of" (("value_of" : Str), (none : Option Str)) (by decide +kernel)]; exact dd 26 _ rfl,
    d_holds := by rw [ad "holds" (("holds" : Str), (none : Option Str)) (by decide +kernel)]; exact dd 27 _ rfl,
    d_Fact___call__ := by rw [ad "Fact.__call__" (("Fact" : Str), (some "__call__" : Option Str)) (by decide +kernel)]; exact dd 28 _ rfl,
    d_law_word := by rw [ad "_law_word" (("_law_word" : Str), (none : Option Str)) (by decide +kernel)]; exact dd 29 _ rfl,
    d_law_path_of := by rw [ad "_law_path_of" (("_law_path_of" : Str), (none : Option Str)) (by decide +kernel)]; exact dd 30 _ rfl,
    d_law_read := by rw [ad "_law_read" (("_law_read" : Str), (none : Option Str)) (by decide +kernel)]; exact dd 31 _ rfl,
    d_law_holds := by rw [ad "_law_holds" (("_law_holds" : Str), (none : Option Str)) (by decide +kernel)]; exact dd 32 _ rfl,
    d_law_elsewhere_right := by rw [ad "_law_elsewhere_right" (("_law_elsewhere_right" : Str), (none : Option Str)) (by decide +kernel)]; exact dd 33 _ rfl,
    d_law_strange := by rw [ad "_law_strange" (("_law_strange" : Str), (none : Option Str)) (by decide +kernel)]; exact dd 34 _ rfl,
    d_Fact___eq__ := by rw [ad "Fact.__eq__" (("Fact" : Str), (some "__eq__" : Option Str)) (by decide +kernel)]; exact dd 35 _ rfl,
    d_law_alike_right := by rw [ad "_law_alike_right" (("_law_alike_right" : Str), (none : Option Str)) (by decide +kernel)]; exact dd 36 _ rfl,
    d_law := by rw [ad "law" (("law" : Str), (none : Option Str)) (by decide +kernel)]; exact dd 37 _ rfl,
    d_BadName___init__ := by rw [ad "BadName.__init__" (("BadName" : Str), (some "__init__" : Option Str)) (by decide +kernel)]; exact dd 38 _ rfl,
    d_BadPath___init__ := by rw [ad "BadPath.__init__" (("BadPath" : Str), (some "__init__" : Option Str)) (by decide +kernel)]; exact dd 39 _ rfl,
    d_NoObject___init__ := by rw [ad "NoObject.__init__" (("NoObject" : Str), (some "__init__" : Option Str)) (by decide +kernel)]; exact dd 40 _ rfl,
    g_law_begun := have h := ok 0 _ rfl; gloB_ok X N h,
    g_law_take := have h := ok 1 _ rfl; gloB_ok X N h,
    g_law_pick := have h := ok 2 _ rfl; gloB_ok X N h,
    g_law_words := have h := ok 3 _ rfl; gloB_ok X N h,
    g_law_frame := have h := ok 4 _ rfl; gloB_ok X N h,
    g_is_list := have h := ok 5 _ rfl; gloB_ok X N h,
    g_is_name := have h := ok 6 _ rfl; gloB_ok X N h,
    g_need_names := have h := ok 7 _ rfl; gloB_ok X N h,
    g_law_shape := have h := ok 8 _ rfl; gloB_ok X N h,
    g_law_world := have h := ok 9 _ rfl; gloB_ok X N h,
    g_is_integer := have h := ok 10 _ rfl; gloB_ok X N h,
    g_is_held := have h := ok 11 _ rfl; gloB_ok X N h,
    g_are_values := have h := ok 12 _ rfl; gloB_ok X N h,
    g_law_path := have h := ok 13 _ rfl; gloB_ok X N h,
    g_law_value := have h := ok 14 _ rfl; gloB_ok X N h,
    g_law_fact := have h := ok 15 _ rfl; gloB_ok X N h,
    g_is_value := have h := ok 16 _ rfl; gloB_ok X N h,
    g_need_values := have h := ok 17 _ rfl; gloB_ok X N h,
    g_value_at := have h := ok 18 _ rfl; gloB_ok X N h,
    g_value_of := have h := ok 19 _ rfl; gloB_ok X N h,
    g_holds := have h := ok 20 _ rfl; gloB_ok X N h,
    g_law_word := have h := ok 21 _ rfl; gloB_ok X N h,
    g_law_path_of := have h := ok 22 _ rfl; gloB_ok X N h,
    g_law_read := have h := ok 23 _ rfl; gloB_ok X N h,
    g_law_holds := have h := ok 24 _ rfl; gloB_ok X N h,
    g_law_elsewhere_right := have h := ok 25 _ rfl; gloB_ok X N h,
    g_law_strange := have h := ok 26 _ rfl; gloB_ok X N h,
    g_law_alike_right := have h := ok 27 _ rfl; gloB_ok X N h,
    g_law := have h := ok 28 _ rfl; gloB_ok X N h,
    g_BadGraph := have h := ok 29 _ rfl; gloB_ok X N h,
    g_BadLayout := have h := ok 30 _ rfl; gloB_ok X N h,
    g_BadName := have h := ok 31 _ rfl; gloB_ok X N h,
    g_BadPath := have h := ok 32 _ rfl; gloB_ok X N h,
    g_Fact := have h := ok 33 _ rfl; gloB_ok X N h,
    g_Graph := have h := ok 34 _ rfl; gloB_ok X N h,
    g_Layout := have h := ok 35 _ rfl; gloB_ok X N h,
    g_NoObject := have h := ok 36 _ rfl; gloB_ok X N h,
    g_PlaceError := have h := ok 37 _ rfl; gloB_ok X N h,
    g_BadLine := have h := ok 38 _ rfl; gloB_ok X N h,
    g_BadPlan := have h := ok 39 _ rfl; gloB_ok X N h,
    g_BadStatement := have h := ok 40 _ rfl; gloB_ok X N h,
    g_BadValue := have h := ok 41 _ rfl; gloB_ok X N h,
    g_Faulted := have h := ok 42 _ rfl; gloB_ok X N h,
    g_NoCell := have h := ok 43 _ rfl; gloB_ok X N h,
    g_NoMatch := have h := ok 44 _ rfl; gloB_ok X N h,
    g_TooLarge := have h := ok 45 _ rfl; gloB_ok X N h,
    k_BadGraph := have h := ok 46 _ rfl; gloD_fn (gloB_ok X N h),
    k_BadLayout := have h := ok 47 _ rfl; gloD_fn (gloB_ok X N h),
    k_BadLine := have h := ok 48 _ rfl; gloD_fn (gloB_ok X N h),
    k_BadName := have h := ok 49 _ rfl; gloD_fn (gloB_ok X N h),
    k_BadPath := have h := ok 50 _ rfl; gloD_fn (gloB_ok X N h),
    k_BadPlan := have h := ok 51 _ rfl; gloD_fn (gloB_ok X N h),
    k_BadStatement := have h := ok 52 _ rfl; gloD_fn (gloB_ok X N h),
    k_BadValue := have h := ok 53 _ rfl; gloD_fn (gloB_ok X N h),
    k_Fact := have h := ok 54 _ rfl; gloD_fn (gloB_ok X N h),
    k_Faulted := have h := ok 55 _ rfl; gloD_fn (gloB_ok X N h),
    k_LETTERS := have h := ok 56 _ rfl; gloD_str X N h,
    k_MOST_DEEP := have h := ok 57 _ rfl; gloD_int X N h,
    k_MOST_FIELDS := have h := ok 58 _ rfl; gloD_int X N h,
    k_MOST_LETTERS := have h := ok 59 _ rfl; gloD_int X N h,
    k_MOST_NAMES := have h := ok 60 _ rfl; gloD_int X N h,
    k_MOST_OBJECTS := have h := ok 61 _ rfl; gloD_int X N h,
    k_NoCell := have h := ok 62 _ rfl; gloD_fn (gloB_ok X N h),
    k_NoMatch := have h := ok 63 _ rfl; gloD_fn (gloB_ok X N h),
    k_NoObject := have h := ok 64 _ rfl; gloD_fn (gloB_ok X N h),
    k_TAKEN := have h := ok 65 _ rfl; gloD_tup (by decide +kernel) (by decide +kernel) (gloB_ok X N (Bool.and_eq_true_iff.mp h).1) (Bool.and_eq_true_iff.mp h).2,
    k_TooLarge := have h := ok 66 _ rfl; gloD_fn (gloB_ok X N h),
    k_WORDS := have h := ok 67 _ rfl; gloD_tup (by decide +kernel) (by decide +kernel) (gloB_ok X N (Bool.and_eq_true_iff.mp h).1) (Bool.and_eq_true_iff.mp h).2,
    free_ValueError := have h := ok 68 _ rfl; He.free_ok X N h,
    free_abs := have h := ok 69 _ rfl; He.free_ok X N h,
    free_all := have h := ok 70 _ rfl; He.free_ok X N h,
    free_bool := have h := ok 71 _ rfl; He.free_ok X N h,
    free_dict := have h := ok 72 _ rfl; He.free_ok X N h,
    free_enumerate := have h := ok 73 _ rfl; He.free_ok X N h,
    free_int := have h := ok 74 _ rfl; He.free_ok X N h,
    free_isinstance := have h := ok 75 _ rfl; He.free_ok X N h,
    free_len := have h := ok 76 _ rfl; He.free_ok X N h,
    free_list := have h := ok 77 _ rfl; He.free_ok X N h,
    free_range := have h := ok 78 _ rfl; He.free_ok X N h,
    free_repr := have h := ok 79 _ rfl; He.free_ok X N h,
    free_str := have h := ok 80 _ rfl; He.free_ok X N h,
    free_tuple := have h := ok 81 _ rfl; He.free_ok X N h,
    free_zip := have h := ok 82 _ rfl; He.free_ok X N h,
    a_fields := have h := ok 83 _ rfl; attrB_ok h,
    a_held := have h := ok 84 _ rfl; attrB_ok h,
    a_layout := have h := ok 85 _ rfl; attrB_ok h,
    a_names := have h := ok 86 _ rfl; attrB_ok h,
    a_numbers := have h := ok 87 _ rfl; attrB_ok h,
    a_one := have h := ok 88 _ rfl; attrB_ok h,
    a_other := have h := ok 89 _ rfl; attrB_ok h,
    a_word := have h := ok 90 _ rfl; attrB_ok h,
    ae_path := have h := ok 91 _ rfl; attrEB_ok h,
    mt_Graph_cells := have h := ok 92 _ rfl; let z := Bool.and_eq_true_iff.mp h; let y := Bool.and_eq_true_iff.mp z.2; ⟨clsB_ok z.1, methB_ok y.1, y.2⟩,
    mt_Graph_contents := have h := ok 93 _ rfl; let z := Bool.and_eq_true_iff.mp h; let y := Bool.and_eq_true_iff.mp z.2; ⟨clsB_ok z.1, methB_ok y.1, y.2⟩,
    mt_Layout___contains__ := have h := ok 94 _ rfl; let z := Bool.and_eq_true_iff.mp h; let y := Bool.and_eq_true_iff.mp z.2; ⟨clsB_ok z.1, methB_ok y.1, y.2⟩,
    mt_Graph_look := have h := ok 95 _ rfl; let z := Bool.and_eq_true_iff.mp h; let y := Bool.and_eq_true_iff.mp z.2; ⟨clsB_ok z.1, methB_ok y.1, y.2⟩,
    mt_Fact___call__ := have h := ok 96 _ rfl; let z := Bool.and_eq_true_iff.mp h; let y := Bool.and_eq_true_iff.mp z.2; ⟨clsB_ok z.1, methB_ok y.1, y.2⟩,
    mt_Fact___eq__ := have h := ok 97 _ rfl; let z := Bool.and_eq_true_iff.mp h; let y := Bool.and_eq_true_iff.mp z.2; ⟨clsB_ok z.1, methB_ok y.1, y.2⟩,
    mk_Fact := have h := ok 98 _ rfl; mkB_ok h,
    mk_Graph := have h := ok 99 _ rfl; mkB_ok h,
    mk_Layout := have h := ok 100 _ rfl; mkB_ok h,
    cat_NoObject := have h := ok 101 _ rfl; catB_ok h,
    cat_PlaceError := have h := ok 102 _ rfl; catB_ok h,
    e_BadGraph := have h := ok 103 _ rfl; er0B_ok h,
    e_BadLayout := have h := ok 104 _ rfl; er0B_ok h,
    o_BadName := have h := ok 105 _ rfl; let z := Bool.and_eq_true_iff.mp h; let y := Bool.and_eq_true_iff.mp z.2; let v := Bool.and_eq_true_iff.mp y.2; ⟨oexcB_ok z.1, deq y.1, deq v.1, fun f hf => noatB_ok (List.all_eq_true.mp v.2 f hf)⟩,
    o_BadPath := have h := ok 106 _ rfl; let z := Bool.and_eq_true_iff.mp h; let y := Bool.and_eq_true_iff.mp z.2; let v := Bool.and_eq_true_iff.mp y.2; ⟨oexcB_ok z.1, deq y.1, deq v.1, fun f hf => noatB_ok (List.all_eq_true.mp v.2 f hf)⟩,
    o_NoObject := have h := ok 107 _ rfl; let z := Bool.and_eq_true_iff.mp h; let y := Bool.and_eq_true_iff.mp z.2; let v := Bool.and_eq_true_iff.mp y.2; ⟨oexcB_ok z.1, deq y.1, deq v.1, fun f hf => noatB_ok (List.all_eq_true.mp v.2 f hf)⟩,
    pe := have h := ok 108 _ rfl; pinB_ok h,
    isi := have h := ok 109 _ rfl; isiBk_ok h,
    nf := have h := ok 110 _ rfl; nfBk_ok h,
    ne_t_eq_Fact := have h := ok 111 _ rfl; neB_ok (cs := (["Fact"] : List Str)) rfl h,
    ad_law := ad "law" (("law" : Str), (none : Option Str)) (by decide +kernel),
    t_law := ⟨(He.cT K (("law" : Str), (none : Option Str))).2, TB (He.cT K (("law" : Str), (none : Option Str))) (List.mem_map_of_mem (by decide +kernel)), by simp [eF], fun p hp e => by simp [eF] at hp; rw [hp]⟩,
    lam_0 := rfl,
  }
theorem lawG {w : World} {h : Heap} {K : PySem.W.Frag} {mg : Str → Option Value} {fa : Addr} (X : K.In h) (N : h.Ns mainGlobals mg) (c : SaysM fnL tfL ck h K) (hfa : mg "law" = some (.ref fa))
    (run : ∀ ns : List Int, ns.length ≤ 63 → (∀ z ∈ ns, Builtin.Int.intBits z ≤ 1048576) → ∃ st', f_law [.scr ns] ⟨fun _ => none, 0⟩ = .ok (.bl true) [] st') : LawG PySem.Challenge.rw_lateplaces_k54_facts_on_graphs w 63 9 "_law_script" mg fa h := by
  obtain ⟨fd, F⟩ := c.d.def_ 37 (d := _) rfl
  have b := FunD.bindsA (ps := ["_law_script"]) F fun _ _ _ _ _ _ us hl => match us, hl with | [_], _ => rfl
  have ea : (eF K w).adr "law" = He.fAd K (("law" : Str), (none : Option Str)) := adrF_eq (T := nmT) (x := "law") (p := (("law" : Str), (none : Option Str))) (by decide +kernel)
  have e2 : fa = (eF K w).adr "law" := by have z := hfa.symm.trans (gloB_ok X N (show gloB K "law" (.ref ((eF K w).adr "law")) = true from List.all_eq_true.mp c.more _ (List.mem_of_getElem? (i := 28) rfl))); cases z; rfl
  subst e2
  refine ⟨K, eF K w, tfL.map (He.cT K), fd, f_law, X, rfl, ?_, ?_, ?_, ?_, fun base Xb Nb TB => ?_, fun s u => b s [u] rfl, run⟩
  · intro p hp; obtain ⟨q, hq, rfl⟩ := List.mem_map.mp hp; exact c.empty q hq
  · intro p hp; obtain ⟨q, hq, rfl⟩ := List.mem_map.mp hp; exact c.out q hq
  · intro p hp; obtain ⟨q, hq, rfl⟩ := List.mem_map.mp hp; exact PySem.W.codeHd_of_K X (c.hd q hq)
  · intro p hp; simp only [eF, List.mem_cons, List.not_mem_nil, or_false] at hp; subst hp; simp [tfL]
  · refine c_law (glob X N c TB) ?_; rw [ea]; exact F
end Q54
end
section
set_option maxHeartbeats 2000000
/-! Mp, plain 1: what a mirror does, by what is wanted behind it. -/
namespace Mp
open PySem L2

def wp {α : Type} (m : M α) (fr : Fr) (st : Store) (Q : α → Fr → Store → Prop) (X : Ex → Fr → Store → Prop) : Prop := match m fr st with
  | .ok a f s => Q a f s
  | .exc x f s => X x f s
  | .stuck => False
def wpF (o : Out D) (Q : D → Store → Prop) (X : Ex → Store → Prop) : Prop := match o with
  | .ok d _ s => Q d s
  | .exc x _ s => X x s
  | .stuck => False
abbrev X0 : Ex → Fr → Store → Prop := fun _ _ _ => False
abbrev Y0 : Ex → Store → Prop := fun _ _ => False
theorem wpF.mono {o : Out D} {Q Q' : D → Store → Prop} {X X' : Ex → Store → Prop} (h : wpF o Q X) (k : ∀ d s, Q d s → Q' d s) (kx : ∀ x s, X x s → X' x s) : wpF o Q' X' := by
  unfold wpF at *
  split <;> simp_all
theorem wpF.q {o : Out D} {Q Q' : D → Store → Prop} {X : Ex → Store → Prop} (h : wpF o Q Y0) (k : ∀ d s, Q d s → Q' d s) : wpF o Q' X := h.mono k fun _ _ z => z.elim
theorem wpF.x {o : Out D} {Q' : D → Store → Prop} {X X' : Ex → Store → Prop} (h : wpF o (fun _ _ => False) X) (k : ∀ x s, X x s → X' x s) : wpF o Q' X' := h.mono (fun _ _ z => z.elim) k
theorem wp.mono {α : Type} {m : M α} {fr : Fr} {st : Store} {Q Q' : α → Fr → Store → Prop} {X X' : Ex → Fr → Store → Prop} (h : wp m fr st Q X) (k : ∀ d f s, Q d f s → Q' d f s) (kx : ∀ x f s, X x f s → X' x f s) : wp m fr st Q' X' := by
  unfold wp at *
  split <;> simp_all
section
variable {α β : Type} {fr : Fr} {st : Store} {X : Ex → Fr → Store → Prop}
theorem wp_pure {a : α} {Q : α → Fr → Store → Prop} (h : Q a fr st) : wp (M.pure a) fr st Q X := h
theorem wp_bind' {m : M α} {k : α → M β} {Q : β → Fr → Store → Prop} : wp (m >>= k) fr st Q X = wp m fr st (fun a f s => wp (k a) f s Q X) X := by
  unfold wp
  rw [bind_eq]
  cases m fr st <;> rfl
theorem wp_bind {m : M α} {k : α → M β} {Q : β → Fr → Store → Prop} (h : wp m fr st (fun a f s => wp (k a) f s Q X) X) : wp (m >>= k) fr st Q X := by rw [wp_bind']; exact h
theorem wp_lift {o : Option α} {a : α} {Q : α → Fr → Store → Prop} (e : o = some a) (h : Q a fr st) : wp (lift o) fr st Q X := by subst e; exact h
theorem wp_liftS {f : Store → Option α} {a : α} {Q : α → Fr → Store → Prop} (e : f st = some a) (h : Q a fr st) : wp (liftS f) fr st Q X := by
  unfold wp liftS
  rw [e]
  exact h
theorem wp_var {i : Nat} {d : D} {Q : D → Fr → Store → Prop} (e : fr[i]? = some (some d)) (h : Q d fr st) : wp (mVar i) fr st Q X := by
  unfold wp mVar
  rw [e]
  exact h
theorem wp_nil {Q : List D → Fr → Store → Prop} (h : Q [] fr st) : wp (mArgs []) fr st Q X := h
theorem wp_cons {m : M D} {ms : List (M D)} {Q : List D → Fr → Store → Prop} (h : wp m fr st (fun d f s => wp (mArgs ms) f s (fun ds f s => Q (d :: ds) f s) X) X) : wp (mArgs (m :: ms)) fr st Q X := by
  unfold mArgs
  refine wp_bind (h.mono (fun d f s h => wp_bind (h.mono (fun ds f s h => wp_pure h) fun _ _ _ z => z)) fun _ _ _ z => z)
theorem wp_tup {ms : M (List D)} {Q : D → Fr → Store → Prop} (h : wp ms fr st (fun ds f s => ds.length ≤ sizeLine ∧ Q (.tup ds) f s) X) : wp (mTup ms) fr st Q X := by
  unfold mTup
  exact wp_bind (h.mono (fun ds f s ⟨h1, h2⟩ => by rw [if_pos h1]; exact h2) fun _ _ _ z => z)
theorem wp_newF {m : MO} {Q : D → Fr → Store → Prop} (h : Q m.val fr st) : wp (newD false m) fr st Q X := h
theorem wp_newFL {ds : List D} {Q : D → Fr → Store → Prop} (h : Q (.lst ds) fr st) : wp (newD false (.lst ds)) fr st Q X := h
theorem wp_newFD {ks vs : List D} {Q : D → Fr → Store → Prop} (h : Q (.dct ks vs) fr st) : wp (newD false (.dct ks vs)) fr st Q X := h
theorem wp_newS {m : MO} {Q : D → Fr → Store → Prop} (h : Q (.ref st.next) fr (st.new m)) : wp (newD true m) fr st Q X := h
theorem wp_lstN {sh : Bool} {ms : M (List D)} {Q : D → Fr → Store → Prop} (h : wp ms fr st (fun ds f s => ds.length ≤ sizeLine ∧ wp (newD sh (.lst ds)) f s Q X) X) : wp (mLstN sh ms) fr st Q X := by
  unfold mLstN
  exact wp_bind (h.mono (fun ds f s ⟨h1, h2⟩ => by rw [if_pos h1]; exact h2) fun _ _ _ z => z)
theorem wp_binM {f : D → D → M D} {a b : M D} {Q : D → Fr → Store → Prop} (h : wp a fr st (fun x f1 s1 => wp b f1 s1 (fun y f2 s2 => wp (f x y) f2 s2 Q X) X) X) : wp (mBinM f a b) fr st Q X := by
  unfold mBinM
  exact wp_bind (h.mono (fun x f s h => wp_bind h) fun _ _ _ z => z)
theorem wp_tt {m : M D} {Q : Bool → Fr → Store → Prop} (h : wp m fr st (fun d f s => ∃ b, d = .bl b ∧ Q b f s) X) : wp (mTt m) fr st Q X := by
  unfold mTt
  exact wp_bind (h.mono (fun d f s ⟨b, e, h⟩ => by subst e; exact h) fun _ _ _ z => z)
theorem wp_tru {m : M D} {Q : Bool → Fr → Store → Prop} (h : wp m fr st (fun d f s => ∃ b, d.truth = some b ∧ Q b f s) X) : wp (mTru m) fr st Q X := by
  unfold mTru
  exact wp_bind (h.mono (fun d f s ⟨b, e, h⟩ => wp_lift e h) fun _ _ _ z => z)
theorem wp_not {m : M Bool} {Q : Bool → Fr → Store → Prop} (h : wp m fr st (fun b f s => match b with | true => Q false f s | false => Q true f s) X) : wp (mNotT m) fr st Q X := by
  unfold mNotT
  exact wp_bind (h.mono (fun d f s h => by cases d <;> exact wp_pure h) fun _ _ _ z => z)
theorem wp_and {a b : M Bool} {Q : Bool → Fr → Store → Prop} (h : wp a fr st (fun x f s => match x with | true => wp b f s Q X | false => Q false f s) X) : wp (mAndT a b) fr st Q X := by
  unfold mAndT
  exact wp_bind (h.mono (fun x f s h => by cases x <;> exact h) fun _ _ _ z => z)
theorem wp_or {a b : M Bool} {Q : Bool → Fr → Store → Prop} (h : wp a fr st (fun x f s => match x with | true => Q true f s | false => wp b f s Q X) X) : wp (mOrT a b) fr st Q X := by
  unfold mOrT
  exact wp_bind (h.mono (fun x f s h => by cases x <;> exact h) fun _ _ _ z => z)
theorem wp_if {c : M Bool} {a b : M α} {Q : α → Fr → Store → Prop} (h : wp c fr st (fun x f s => match x with | true => wp a f s Q X | false => wp b f s Q X) X) : wp (mIf c a b) fr st Q X := by
  unfold mIf
  exact wp_bind (h.mono (fun x f s h => by cases x <;> exact h) fun _ _ _ z => z)
theorem wp_orV {a b : M D} {Q : D → Fr → Store → Prop} (h : wp a fr st (fun x f s => ∃ k, x.truth = some k ∧ match k with | true => Q x f s | false => wp b f s Q X) X) : wp (mOrV a b) fr st Q X := by
  unfold mOrV
  exact wp_bind (h.mono (fun x f s ⟨k, e, h⟩ => wp_bind (wp_lift e (by cases k <;> exact h))) fun _ _ _ z => z)
theorem wp_andV {a b : M D} {Q : D → Fr → Store → Prop} (h : wp a fr st (fun x f s => ∃ k, x.truth = some k ∧ match k with | true => wp b f s Q X | false => Q x f s) X) : wp (mAndV a b) fr st Q X := by
  unfold mAndV
  exact wp_bind (h.mono (fun x f s ⟨k, e, h⟩ => wp_bind (wp_lift e (by cases k <;> exact h))) fun _ _ _ z => z)
theorem wp_notV {a : M D} {Q : D → Fr → Store → Prop} (h : wp a fr st (fun x f s => ∃ k, x.truth = some k ∧ match k with | true => Q (.bl false) f s | false => Q (.bl true) f s) X) : wp (mNotV a) fr st Q X := by
  unfold mNotV
  exact wp_bind (h.mono (fun x f s ⟨k, e, h⟩ => wp_bind (wp_lift e (by cases k <;> exact h))) fun _ _ _ z => z)
theorem wp_chain {f f' : D → D → Option D} {a b c : M D} {Q : D → Fr → Store → Prop} (h : wp a fr st (fun x f1 s1 => wp b f1 s1 (fun y f2 s2 => ∃ k, f x y = some (.bl k) ∧ match k with | true => wp c f2 s2 (fun w f3 s3 => wp (lift (f' y w)) f3 s3 Q X) X | false => Q (.bl false) f2 s2) X) X) : wp (mChain f f' a b c) fr st Q X := by
  unfold mChain
  refine wp_bind (h.mono (fun x f s h => wp_bind (h.mono (fun y f s ⟨k, e, h⟩ => wp_bind (wp_lift e ?_)) fun _ _ _ z => z)) fun _ _ _ z => z)
  cases k
  · exact h
  · exact wp_bind h
theorem wp_part {m : M D} {Q : Option Int → Fr → Store → Prop} (h : wp m fr st (fun d f s => ∃ i, d = .int i ∧ Q (some i) f s) X) : wp (mPart m) fr st Q X := by
  unfold mPart
  exact wp_bind (h.mono (fun d f s ⟨b, e, h⟩ => by subst e; exact h) fun _ _ _ z => z)
theorem wp_sl {a : M D} {lo hi : M (Option Int)} {Q : D → Fr → Store → Prop} (h : wp a fr st (fun x f s => wp lo f s (fun l f s => wp hi f s (fun h f s => wp (lift (slD x l h)) f s Q X) X) X) X) : wp (mSl a lo hi) fr st Q X := by
  unfold mSl
  exact wp_bind (h.mono (fun x f s h => wp_bind (h.mono (fun l f s h => wp_bind h) fun _ _ _ z => z)) fun _ _ _ z => z)
theorem wp_neg {m : M D} {Q : D → Fr → Store → Prop} (h : wp m fr st (fun d f s => wp (lift (negD d)) f s Q X) X) : wp (mNeg m) fr st Q X := by
  unfold mNeg
  exact wp_bind h
theorem wp_callB {f : Store → List D → Option D} {ms : M (List D)} {Q : D → Fr → Store → Prop} (h : wp ms fr st (fun ds f1 s1 => ∃ z, f s1 ds = some z ∧ Q z f1 s1) X) : wp (mCallB f ms) fr st Q X := by
  unfold mCallB
  refine wp_bind (h.mono (fun ds f1 s1 ⟨z, e, h⟩ => ?_) fun _ _ _ z => z)
  unfold wp
  dsimp only
  rw [e]
  exact h
theorem wp_callK {o : Out D} {Q : D → Fr → Store → Prop} (h : wpF o (fun d s => Q d fr s) (fun x s => X x fr s)) : wp (fun fr _ => callK fr o) fr st Q X := by
  unfold wp
  cases o <;> exact h
theorem wp_call {f : Fn} {ms : M (List D)} {Q : D → Fr → Store → Prop} (h : wp ms fr st (fun ds f1 s1 => wpF (f ds s1) (fun d s => Q d f1 s) (fun x s => X x f1 s)) X) : wp (mCall f [] ms) fr st Q X := by
  unfold mCall
  refine wp_bind (h.mono (fun ds f1 s1 h => ?_) fun _ _ _ z => z)
  unfold wp
  dsimp only
  rw [List.append_nil]
  cases e : f ds s1 <;> rw [e] at h <;> exact h
theorem wp_meth {m : Str} {tab : MTab} {mo : M D} {ms : M (List D)} {Q : D → Fr → Store → Prop} (h : wp mo fr st (fun d f1 s1 => ∃ f, methD m tab s1 d = some (f, []) ∧ wp ms f1 s1 (fun ds f2 s2 => wpF (f (d :: ds) s2) (fun d s => Q d f2 s) (fun x s => X x f2 s)) X) X) : wp (mMeth m tab mo ms) fr st Q X := by
  unfold mMeth
  refine wp_bind (h.mono (fun d f1 s1 ⟨f, e, h⟩ => wp_bind (wp_liftS e (wp_bind (h.mono (fun ds f2 s2 h => ?_) fun _ _ _ z => z)))) fun _ _ _ z => z)
  unfold wp
  dsimp only
  rw [List.append_nil]
  cases e : f (d :: ds) s2 <;> rw [e] at h <;> exact h
theorem wp_callI {tab : MTab} {mo : M D} {ms : M (List D)} {Q : D → Fr → Store → Prop} (h : wp mo fr st (fun d f1 s1 => ∃ q, insD s1 d = some q ∧ wp ms f1 s1 (fun ds f2 s2 => ∃ C ns xs f, insD s2 d = some (C, ns, xs) ∧ tab.lookup C = some (f, []) ∧ wpF (f (d :: ds) s2) (fun d s => Q d f2 s) (fun x s => X x f2 s)) X) X) : wp (mCallI tab mo ms) fr st Q X := by
  unfold mCallI
  refine wp_bind (h.mono (fun d f1 s1 ⟨q, e, h⟩ => wp_bind (wp_liftS e (wp_bind (h.mono (fun ds f2 s2 ⟨C, ns, xs, f, e1, e2, h⟩ => ?_) fun _ _ _ z => z)))) fun _ _ _ z => z)
  unfold wp
  dsimp only
  rw [e1]
  dsimp only
  rw [e2]
  dsimp only
  rw [List.append_nil]
  cases e : f (d :: ds) s2 <;> rw [e] at h <;> exact h
/-- an instance made and frozen -/
def mkF (C : Str) (f : Fn) (ds : List D) (s1 : Store) (Q : D → Store → Prop) (Y : Ex → Store → Prop) : Prop := wpF (f (.ref s1.next :: ds) (s1.new (.ins C [] []))) (fun d s => d = .non ∧ ∃ K ns xs, s.get s1.next = some (.ins K ns xs) ∧ Q (.ins K ns xs) (s.set s1.next none)) Y
theorem wp_makeF {C : Str} {f : Fn} {ms : M (List D)} {Q : D → Fr → Store → Prop} (h : wp ms fr st (fun ds f1 s1 => mkF C f ds s1 (fun d s => Q d f1 s) (fun x s => X x f1 s)) X) : wp (mMake C f [] true ms) fr st Q X := by
  unfold mMake
  refine wp_bind (h.mono (fun ds f1 s1 h => ?_) fun _ _ _ z => z)
  unfold mkF at h
  unfold wp
  dsimp only
  rw [List.append_nil]
  cases e : f (.ref s1.next :: ds) (s1.new (.ins C [] [])) with
  | ok d f2 s2 =>
    rw [e] at h
    obtain ⟨rfl, K, ns, xs, e1, h⟩ := h
    unfold makeK
    dsimp only
    rw [if_pos rfl, e1]
    exact h
  | exc x f2 s2 => rw [e] at h; exact h
  | stuck => rw [e] at h; exact h
/-- .. and shared -/
theorem wp_makeS {C : Str} {f : Fn} {ms : M (List D)} {Q : D → Fr → Store → Prop} (h : wp ms fr st (fun ds f1 s1 => wpF (f (.ref s1.next :: ds) (s1.new (.ins C [] []))) (fun d s => d = .non ∧ Q (.ref s1.next) f1 s) (fun x s => X x f1 s)) X) : wp (mMake C f [] false ms) fr st Q X := by
  unfold mMake
  refine wp_bind (h.mono (fun ds f1 s1 h => ?_) fun _ _ _ z => z)
  unfold wp
  dsimp only
  rw [List.append_nil]
  cases e : f (.ref s1.next :: ds) (s1.new (.ins C [] [])) with
  | ok d f2 s2 =>
    rw [e] at h
    obtain ⟨rfl, h⟩ := h
    exact h
  | exc x f2 s2 => rw [e] at h; exact h
  | stuck => rw [e] at h; exact h
theorem wp_attr {f : Str} {cs : List Str} {m : M D} {Q : D → Fr → Store → Prop} (h : wp m fr st (fun d f1 s1 => ∃ z, attrD f cs s1 d = some z ∧ Q z f1 s1) X) : wp (mAttr f cs m) fr st Q X := by
  unfold mAttr
  exact wp_bind (h.mono (fun d f1 s1 ⟨z, e, h⟩ => wp_liftS e h) fun _ _ _ z => z)
theorem wp_attrE {f : Str} {cs : List Str} {m : M D} {Q : D → Fr → Store → Prop} (h : wp m fr st (fun d f1 s1 => ∃ z, attrE f cs d = some z ∧ Q z f1 s1) X) : wp (mAttrE f cs m) fr st Q X := by
  unfold mAttrE
  exact wp_bind (h.mono (fun d f1 s1 ⟨z, e, h⟩ => wp_liftS e h) fun _ _ _ z => z)
theorem wp_setA {f : Str} {cs : List Str} {mv mo : M D} {Q : Ctl → Fr → Store → Prop} (h : wp mv fr st (fun y f1 s1 => wp mo f1 s1 (fun d f2 s2 => ∃ n C ns ds, d = .ref n ∧ s2.get n = some (.ins C ns ds) ∧ C ∈ cs ∧ ns.length < 900 ∧ Q .nx f2 (s2.set n (some (.ins C (putD f y ns ds).1 (putD f y ns ds).2)))) X) X) : wp (mSetA f cs mv mo) fr st Q X := by
  unfold mSetA
  refine wp_bind (h.mono (fun y f1 s1 h => wp_bind (h.mono (fun d f2 s2 ⟨n, C, ns, ds, e1, e2, e3, e4, h⟩ => ?_) fun _ _ _ z => z)) fun _ _ _ z => z)
  subst e1
  unfold wp
  dsimp only
  rw [e2]
  dsimp only
  rw [if_pos ⟨e3, e4⟩]
  exact h
/-! ### statements -/
theorem wp_seq {a b : M Ctl} {Q : Ctl → Fr → Store → Prop} (h : wp a fr st (fun c f s => match c with | .nx => wp b f s Q X | .bk => Q .bk f s | .ct => Q .ct f s | .rt d => Q (.rt d) f s) X) : wp (mSeq a b) fr st Q X := by
  unfold mSeq
  exact wp_bind (h.mono (fun c f s h => by cases c <;> exact h) fun _ _ _ z => z)
theorem wp_ret {m : M D} {Q : Ctl → Fr → Store → Prop} (h : wp m fr st (fun d f s => Q (.rt d) f s) X) : wp (mRet m) fr st Q X := by
  unfold mRet
  exact wp_bind (h.mono (fun c f s h => wp_pure h) fun _ _ _ z => z)
theorem wp_drop {m : M D} {Q : Ctl → Fr → Store → Prop} (h : wp m fr st (fun _ f s => Q .nx f s) X) : wp (mDrop m) fr st Q X := by
  unfold mDrop
  exact wp_bind (h.mono (fun c f s h => wp_pure h) fun _ _ _ z => z)
theorem wp_asg {m : M D} {mg : D → M Unit} {Q : Ctl → Fr → Store → Prop} (h : wp m fr st (fun d f s => wp (mg d) f s (fun _ f s => Q .nx f s) X) X) : wp (mAsg m mg) fr st Q X := by
  unfold mAsg
  exact wp_bind (h.mono (fun c f s h => wp_bind (h.mono (fun _ _ _ h => wp_pure h) fun _ _ _ z => z)) fun _ _ _ z => z)
theorem wp_set {i : Nat} {d : D} {Q : Unit → Fr → Store → Prop} (h : Q () (fr.set i (some d)) st) : wp (gSet i d) fr st Q X := h
theorem wp_par {i j : Nat} {ms : M (List D)} {Q : Ctl → Fr → Store → Prop} (h : wp ms fr st (fun ds f s => ∃ x y, ds = [x, y] ∧ Q .nx ((f.set i (some x)).set j (some y)) s) X) : wp (mPar i j ms) fr st Q X := by
  unfold mPar
  refine wp_bind (h.mono (fun ds f s ⟨x, y, e, h⟩ => ?_) fun _ _ _ z => z)
  subst e
  exact h
theorem wp_gsub {f : D → D → D → M Unit} {mo mi : M D} {d : D} {Q : Unit → Fr → Store → Prop} (h : wp mo fr st (fun o f1 s1 => wp mi f1 s1 (fun i f2 s2 => wp (f o i d) f2 s2 Q X) X) X) : wp (gSub f mo mi d) fr st Q X := by
  unfold gSub
  exact wp_bind (h.mono (fun x f s h => wp_bind h) fun _ _ _ z => z)
theorem wp_gnil {Q : Unit → Fr → Store → Prop} (h : Q () fr st) : wp (gAll [] []) fr st Q X := h
theorem wp_gcons {m : D → M Unit} {ms : List (D → M Unit)} {d : D} {ds : List D} {Q : Unit → Fr → Store → Prop} (h : wp (m d) fr st (fun _ f s => wp (gAll ms ds) f s Q X) X) : wp (gAll (m :: ms) (d :: ds)) fr st Q X := by
  unfold gAll
  exact wp_bind h
theorem wp_gtup {ms : List (D → M Unit)} {ds : List D} {Q : Unit → Fr → Store → Prop} (e : ds.length = ms.length) (h : wp (gAll ms ds) fr st Q X) : wp (gTupD ms (.tup ds)) fr st Q X := by
  unfold gTupD
  dsimp only
  rw [if_pos e]
  exact h
theorem wp_gstar {i : Nat} {ms : List (D → M Unit)} {d : D} {ds : List D} {Q : Unit → Fr → Store → Prop} (e : lstD st d = some ds) (e1 : i < ms.length) (e2 : ms.length ≤ ds.length + 1) (h : wp (gAll ms (starD i ms.length ds)) fr st Q X) : wp (gStar i ms d) fr st Q X := by
  unfold wp gStar
  rw [e]
  dsimp only
  rw [if_pos ⟨e1, e2⟩]
  exact h
theorem wp_raise0 {C : Str} {Q : Ctl → Fr → Store → Prop} (h : X ⟨C, [], []⟩ fr st) : wp (mRaise0 C) fr st Q X := h
theorem wp_raiseX {C : Str} {ns : List Str} {ms : M (List D)} {Q : Ctl → Fr → Store → Prop} (h : wp ms fr st (fun ds f s => ds.length = ns.length ∧ ds.length ≤ 1000 ∧ X ⟨C, ns.reverse, ds.reverse⟩ f s) X) : wp (mRaiseX C ns ms) fr st Q X := by
  unfold mRaiseX
  refine wp_bind (h.mono (fun ds f s ⟨e1, e2, h⟩ => ?_) fun _ _ _ z => z)
  unfold wp raiseK
  rw [if_pos ⟨e1, e2⟩]
  exact h
theorem wp_try {cat : List (Str × Bool)} {mb ms : M Ctl} {Q : Ctl → Fr → Store → Prop} (h : wp mb fr st Q (fun x f s => ∃ b, cat.lookup x.cls = some b ∧ match b with | true => wp ms f s Q X0 | false => X x f s)) : wp (mTry cat mb ms) fr st Q X := by
  unfold wp at h ⊢
  unfold mTry
  cases e : mb fr st with
  | ok c f s => rw [e] at h; exact h
  | stuck => rw [e] at h; exact h
  | exc x f s =>
    rw [e] at h
    obtain ⟨b, e1, h⟩ := h
    dsimp only
    rw [e1]
    cases b with
    | false => exact h
    | true =>
      dsimp only at h ⊢
      cases e2 : ms f s with
      | ok c f s => rw [e2] at h; exact h
      | stuck => rw [e2] at h; exact h
      | exc x f s => rw [e2] at h; exact h.elim
theorem wp_tryAs {i : Nat} {cat : List (Str × Bool)} {mb ms : M Ctl} {Q : Ctl → Fr → Store → Prop} (h : wp mb fr st Q (fun x f s => ∃ b, cat.lookup x.cls = some b ∧ match b with | true => wp ms (f.set i (some (.exc x.cls x.ns x.ds))) s (fun c f s => Q c (f.set i none) s) X0 | false => X x f s)) : wp (mTryAs i cat mb ms) fr st Q X := by
  unfold wp at h ⊢
  unfold mTryAs
  cases e : mb fr st with
  | ok c f s => rw [e] at h; exact h
  | stuck => rw [e] at h; exact h
  | exc x f s =>
    rw [e] at h
    obtain ⟨b, e1, h⟩ := h
    dsimp only
    rw [e1]
    cases b with
    | false => exact h
    | true =>
      dsimp only at h ⊢
      cases e2 : ms (f.set i (some (.exc x.cls x.ns x.ds))) s with
      | ok c f s => rw [e2] at h; exact h
      | stuck => rw [e2] at h; exact h
      | exc x f s => rw [e2] at h; exact h.elim
/-! ### sources, loops, comprehensions -/
theorem wp_itS {m : M D} {Q : List D × (Store → Bool) → Fr → Store → Prop} (h : wp m fr st (fun d f s => ∃ p, seqI s d = some p ∧ Q p f s) X) : wp (mItS m) fr st Q X := by
  unfold mItS
  exact wp_bind (h.mono (fun d f s ⟨p, e, h⟩ => wp_liftS e h) fun _ _ _ z => z)
theorem wp_itStr {m : M D} {Q : List D × (Store → Bool) → Fr → Store → Prop} (h : wp m fr st (fun d f s => ∃ x, d = .str x ∧ Q (signsD x, fun _ => true) f s) X) : wp (mItStr m) fr st Q X := by
  unfold mItStr
  exact wp_bind (h.mono (fun d f s ⟨p, e, h⟩ => by subst e; exact h) fun _ _ _ z => z)
theorem wp_itR1 {ms : M (List D)} {Q : List D × (Store → Bool) → Fr → Store → Prop} (h : wp ms fr st (fun ds f s => ∃ j : Int, ds = [.int j] ∧ -(2 ^ 62) ≤ j ∧ j < 2 ^ 62 ∧ Q ((List.range j.toNat).map fun (k : Nat) => D.int k, fun _ => true) f s) X) : wp (mItR1 ms) fr st Q X := by
  unfold mItR1
  refine wp_bind (h.mono (fun ds f s ⟨j, e, e1, e2, h⟩ => ?_) fun _ _ _ z => z)
  subst e
  refine wp_lift (by unfold rngI; exact if_pos ⟨by decide, by decide, e1, e2⟩) ?_
  have e3 : (fun (k : Nat) => D.int (0 + k)) = fun (k : Nat) => D.int k := by funext k; rw [Int.zero_add]
  rw [Int.sub_zero, e3]
  exact h
theorem wp_itE {ms : M (List D)} {Q : List D × (Store → Bool) → Fr → Store → Prop} (h : wp ms fr st (fun ds f s => ∃ d p, ds = [d] ∧ seqI s d = some p ∧ Q ((List.range p.1.length).zipWith (fun (k : Nat) x => D.tup [.int k, x]) p.1, p.2) f s) X) : wp (mItE ms) fr st Q X := by
  unfold mItE
  refine wp_bind (h.mono (fun ds f s ⟨d, p, e, e1, h⟩ => ?_) fun _ _ _ z => z)
  subst e
  exact wp_liftS (by dsimp only; rw [e1]; rfl) h
theorem wp_itZ {ms : M (List D)} {Q : List D × (Store → Bool) → Fr → Store → Prop} (h : wp ms fr st (fun ds f s => ∃ x y p q, ds = [x, y] ∧ seqI s x = some p ∧ seqI s y = some q ∧ Q (p.1.zipWith (fun x y => D.tup [x, y]) q.1, fun st => p.2 st && q.2 st) f s) X) : wp (mItZ ms) fr st Q X := by
  unfold mItZ
  refine wp_bind (h.mono (fun ds f s ⟨x, y, p, q, e, e1, e2, h⟩ => ?_) fun _ _ _ z => z)
  subst e
  exact wp_liftS (by dsimp only; rw [e1, e2]) h
theorem wp_for {mi : Src} {mg : D → M Unit} {mb : M Ctl} {Q : Ctl → Fr → Store → Prop} (h : wp mi fr st (fun p f s => wp (mForL p.2 mg mb p.1) f s Q X) X) : wp (mFor mi mg mb) fr st Q X := by
  unfold mFor
  exact wp_bind h
theorem wp_forL {C : Store → Bool} {mg : D → M Unit} {mb : M Ctl} {Q : Ctl → Fr → Store → Prop} (I : List D → Fr → Store → Prop)
    (step : ∀ d ds fr st, I (d :: ds) fr st → C st = true ∧ wp (mg d) fr st (fun _ f s => wp mb f s (fun c f s => match c with | .nx => I ds f s | .ct => I ds f s | .bk => Q .nx f s | .rt d => Q (.rt d) f s) X) X)
    (last : ∀ fr st, I [] fr st → C st = true ∧ Q .nx fr st) : ∀ {ds : List D} {fr : Fr} {st : Store}, I ds fr st → wp (mForL C mg mb ds) fr st Q X
  | [], fr, st, h => by
    obtain ⟨h1, h2⟩ := last fr st h
    unfold mForL
    refine wp_bind ?_
    unfold wp chk
    rw [if_pos h1]
    exact h2
  | d :: ds, fr, st, h => by
    obtain ⟨h1, h2⟩ := step d ds fr st h
    unfold mForL
    refine wp_bind ?_
    unfold wp chk
    rw [if_pos h1]
    refine wp_bind (h2.mono (fun _ f s h => wp_bind (h.mono (fun c f s h => ?_) fun _ _ _ z => z)) fun _ _ _ z => z)
    cases c with
    | nx => exact wp_forL I step last h
    | ct => exact wp_forL I step last h
    | bk => exact h
    | rt d => exact h
/-- over given items, one by one -/
theorem wp_for0 {C : Store → Bool} {mg : D → M Unit} {mb : M Ctl} {Q : Ctl → Fr → Store → Prop} (h1 : C st = true) (h2 : Q .nx fr st) : wp (mForL C mg mb []) fr st Q X := by
  unfold mForL
  refine wp_bind ?_
  unfold wp chk
  rw [if_pos h1]
  exact h2
theorem wp_for1 {C : Store → Bool} {mg : D → M Unit} {mb : M Ctl} {d : D} {ds : List D} {Q : Ctl → Fr → Store → Prop} (h1 : C st = true)
    (h2 : wp (mg d) fr st (fun _ f s => wp mb f s (fun c f s => match c with | .nx => wp (mForL C mg mb ds) f s Q X | .ct => wp (mForL C mg mb ds) f s Q X | .bk => Q .nx f s | .rt d => Q (.rt d) f s) X) X) : wp (mForL C mg mb (d :: ds)) fr st Q X := by
  rw [mForL]
  refine wp_bind ?_
  unfold wp chk
  rw [if_pos h1]
  refine wp_bind (h2.mono (fun _ f s h => wp_bind (h.mono (fun c f s h => ?_) fun _ _ _ z => z)) fun _ _ _ z => z)
  cases c <;> exact h
theorem wp_compT {mg : D → M Unit} {mt : M Bool} {me : M D} {d : D} {Q : Option D → Fr → Store → Prop} (h : wp (mg d) fr st (fun _ f s => wp mt f s (fun b f s => match b with | true => wp me f s (fun y f s => Q (some y) f s) X | false => Q none f s) X) X) : wp (compT mg mt me d) fr st Q X := by
  unfold compT
  refine wp_bind (h.mono (fun _ f s h => wp_bind (h.mono (fun b f s h => ?_) fun _ _ _ z => z)) fun _ _ _ z => z)
  cases b with
  | false => exact h
  | true => exact wp_bind (h.mono (fun _ _ _ h => wp_pure h) fun _ _ _ z => z)
theorem wp_compL {C : Store → Bool} {vs : List Nat} {mg : D → M Unit} {mt : M Bool} {me : M D} {Q : List D → Fr → Store → Prop} (J : List D → List D → Store → Prop)
    (step : ∀ d ds acc st, J (d :: ds) acc st → C st = true ∧ wp (compT mg mt me d) (wipeF fr vs) st (fun o _ s => match o with | some y => acc.length < sizeLine ∧ J ds (acc ++ [y]) s | none => J ds acc s) X0)
    (last : ∀ acc st, J [] acc st → C st = true ∧ Q acc fr st) : ∀ {ds acc : List D} {st : Store}, J ds acc st → wp (compL C vs mg mt me ds acc) fr st Q X
  | [], acc, st, h => by
    obtain ⟨h1, h2⟩ := last acc st h
    unfold wp compL
    rw [if_pos h1]
    exact h2
  | d :: ds, acc, st, h => by
    obtain ⟨h1, h2⟩ := step d ds acc st h
    unfold wp compL
    rw [if_pos h1]
    unfold wp at h2
    cases e : compT mg mt me d (wipeF fr vs) st with
    | ok o f s =>
      rw [e] at h2
      cases o with
      | none => exact wp_compL J step last h2
      | some y =>
        dsimp only at h2 ⊢
        rw [if_pos h2.1]
        exact wp_compL J step last h2.2
    | exc x f s => rw [e] at h2; exact h2.elim
    | stuck => rw [e] at h2; exact h2.elim
theorem wp_comp {sh : Bool} {vs : List Nat} {mi : Src} {mg : D → M Unit} {mt : M Bool} {me : M D} {Q : D → Fr → Store → Prop} (h : wp mi fr st (fun p f s => wp (compL p.2 vs mg mt me p.1 []) f s (fun ys f s => wp (newD sh (.lst ys)) f s Q X) X) X) : wp (mComp sh vs mi mg mt me) fr st Q X := by
  unfold mComp
  exact wp_bind (h.mono (fun p f s h => wp_bind h) fun _ _ _ z => z)
/-- a comprehension whose parts change nothing -/
theorem wp_compP {vs : List Nat} {mg : D → M Unit} {mt : M Bool} {me : M D} {Q : List D → Fr → Store → Prop} (g : D → Option D) {ds : List D} (hl : ds.length ≤ sizeLine)
    (step : ∀ d ∈ ds, wp (compT mg mt me d) (wipeF fr vs) st (fun o _ s => o = g d ∧ s = st) X0) (last : Q (ds.filterMap g) fr st) {C : Store → Bool} (hC : C st = true := by rfl) : wp (compL C vs mg mt me ds []) fr st Q X := by
  refine wp_compL (fun r acc s => s = st ∧ ∃ l, l ++ r = ds ∧ acc = l.filterMap g) ?_ ?_ ⟨rfl, [], rfl, rfl⟩
  · intro d r acc s ⟨e, l, e1, e2⟩
    subst e
    refine ⟨hC, (step d (by rw [← e1]; simp)).mono (fun o f s' ⟨h1, h2⟩ => ?_) fun _ _ _ z => z⟩
    subst h2
    have hlen : acc.length ≤ l.length := by rw [e2]; exact List.length_filterMap_le _ _
    have hlen2 : l.length < ds.length := by rw [← e1]; simp
    cases o with
    | none => exact ⟨rfl, l ++ [d], by simp [e1], by simp [e2, ← h1]⟩
    | some y => exact ⟨by omega, rfl, l ++ [d], by simp [e1], by simp [e2, ← h1]⟩
  · intro acc s ⟨e, l, e1, e2⟩
    subst e
    rw [List.append_nil] at e1
    subst e1
    subst e2
    exact ⟨hC, last⟩
theorem wp_while {c : M Bool} {b : M Ctl} {Q : Ctl → Fr → Store → Prop} (I : Nat → Fr → Store → Prop)
    (step : ∀ n fr st, I n fr st → wp c fr st (fun k f s => match k with | true => wp b f s (fun e f s => match e with | .nx => ∃ m, m < n ∧ I m f s | .ct => ∃ m, m < n ∧ I m f s | .bk => Q .nx f s | .rt d => Q (.rt d) f s) X | false => Q .nx f s) X)
    (n : Nat) (h : I n fr st) : wp (mWhile c b) fr st Q X := by
  have H : ∀ n fr st, I n fr st → ∃ k, wp (mWhileN c b k) fr st Q X := by
    intro n
    induction n using Nat.strongRecOn with
    | ind n ih =>
      intro fr st h
      have h2 := step n fr st h
      -- what the test does, what the body does
      unfold wp at h2
      cases e : c fr st with
      | stuck => rw [e] at h2; exact h2.elim
      | exc x f s =>
        rw [e] at h2
        refine ⟨1, ?_⟩
        unfold wp mWhileN
        rw [bind_eq, e]
        exact h2
      | ok k f s =>
        rw [e] at h2
        cases k with
        | false =>
          refine ⟨1, ?_⟩
          unfold wp mWhileN
          rw [bind_eq, e]
          exact h2
        | true =>
          dsimp only at h2
          cases e2 : b f s with
          | stuck => rw [e2] at h2; exact h2.elim
          | exc x f2 s2 =>
            rw [e2] at h2
            refine ⟨1, ?_⟩
            unfold wp mWhileN
            rw [bind_eq, e]
            simp only [if_true]
            rw [bind_eq, e2]
            exact h2
          | ok ct f2 s2 =>
            rw [e2] at h2
            cases ct with
            | nx =>
              obtain ⟨m, hm, hI⟩ := h2
              obtain ⟨j, hj⟩ := ih m hm f2 s2 hI
              refine ⟨j + 1, ?_⟩
              unfold wp mWhileN
              rw [bind_eq, e]
              simp only [if_true]
              rw [bind_eq, e2]
              exact hj
            | ct =>
              obtain ⟨m, hm, hI⟩ := h2
              obtain ⟨j, hj⟩ := ih m hm f2 s2 hI
              refine ⟨j + 1, ?_⟩
              unfold wp mWhileN
              rw [bind_eq, e]
              simp only [if_true]
              rw [bind_eq, e2]
              exact hj
            | bk =>
              refine ⟨1, ?_⟩
              unfold wp mWhileN
              rw [bind_eq, e]
              simp only [if_true]
              rw [bind_eq, e2]
              exact h2
            | rt d =>
              refine ⟨1, ?_⟩
              unfold wp mWhileN
              rw [bind_eq, e]
              simp only [if_true]
              rw [bind_eq, e2]
              exact h2
  -- more turns allowed: the same end
  have up : ∀ k j fr st, mWhileN c b k fr st ≠ .stuck → k ≤ j → mWhileN c b j fr st = mWhileN c b k fr st := by
    intro k
    induction k with
    | zero => intro j fr st h _; exact absurd rfl h
    | succ k ih =>
      intro j fr st h hj
      cases j with
      | zero => omega
      | succ j =>
        unfold mWhileN at h ⊢
        rw [bind_eq] at h ⊢
        rw [bind_eq]
        cases e : c fr st with
        | stuck => rfl
        | exc x f s => rfl
        | ok q f s =>
          rw [e] at h
          cases q with
          | false => rfl
          | true =>
            simp only [if_true] at h ⊢
            rw [bind_eq] at h ⊢
            rw [bind_eq]
            cases e2 : b f s with
            | stuck => rfl
            | exc x f2 s2 => rfl
            | ok ct f2 s2 =>
              rw [e2] at h
              cases ct with
              | nx => exact ih j f2 s2 h (by omega)
              | ct => exact ih j f2 s2 h (by omega)
              | bk => rfl
              | rt d => rfl
  obtain ⟨k, hk⟩ := H n fr st h
  have ns : mWhileN c b k fr st ≠ .stuck := fun z => by unfold wp at hk; rw [z] at hk; exact hk
  unfold wp mWhile
  have hex : ∃ n, mWhileN c b n fr st ≠ .stuck := ⟨k, ns⟩
  rw [dif_pos hex]
  have e : mWhileN c b hex.choose fr st = mWhileN c b k fr st := by
    rcases Nat.le_total hex.choose k with q | q
    · exact (up _ _ fr st hex.choose_spec q).symm
    · exact up _ _ fr st ns q
  rw [e]
  exact hk
/-! ### methods of built-in kinds -/
theorem wp_met {T : String} {f : Mt} {mo : M D} {ms : M (List D)} {Q : D → Fr → Store → Prop} (h : wp mo fr st (fun x f1 s1 => tagD s1 x = some (.ty T) ∧ wp ms f1 s1 (fun xs f2 s2 => wp (f x xs) f2 s2 Q X) X) X) : wp (mMet T f mo ms) fr st Q X := by
  unfold mMet
  refine wp_bind (h.mono (fun x f1 s1 ⟨e, h⟩ => wp_bind (wp_liftS (a := ()) (if_pos e) (wp_bind h))) fun _ _ _ z => z)
theorem wp_listN {sh : Bool} {ms : M (List D)} {Q : D → Fr → Store → Prop} (h : wp ms fr st (fun ds f s => ∃ d xs, ds = [d] ∧ itemsD s d = some xs ∧ wp (newD sh (.lst xs)) f s Q X) X) : wp (mListN sh ms) fr st Q X := by
  unfold mListN
  refine wp_bind (h.mono (fun ds f s ⟨d, xs, e, e1, h⟩ => ?_) fun _ _ _ z => z)
  subst e
  exact wp_bind (wp_liftS e1 h)
theorem wp_listR {sh : Bool} {m : M D} {Q : D → Fr → Store → Prop} (h : wp m fr st (fun d f s => ∃ n : Int, d = .int n ∧ 0 ≤ n ∧ n ≤ 16777216 ∧ wp (newD sh (.lst ((List.range n.toNat).map fun (k : Nat) => D.int k))) f s Q X) X) : wp (mListR sh m) fr st Q X := by
  unfold mListR
  refine wp_bind (h.mono (fun d f s ⟨n, e, e1, e2, h⟩ => ?_) fun _ _ _ z => z)
  subst e
  dsimp only
  rw [if_pos ⟨e1, e2⟩]
  have e3 : (fun (k : Nat) => D.int (0 + k)) = fun (k : Nat) => D.int k := by funext k; rw [Int.zero_add]
  rw [e3]
  exact h
theorem wp_listStr {sh : Bool} {m : M D} {Q : D → Fr → Store → Prop} (h : wp m fr st (fun d f s => ∃ x, d = .str x ∧ x.cps.size ≤ sizeLine ∧ wp (newD sh (.lst (signsD x))) f s Q X) X) : wp (mListStr sh m) fr st Q X := by
  unfold mListStr
  refine wp_bind (h.mono (fun d f s ⟨n, e, e1, h⟩ => ?_) fun _ _ _ z => z)
  subst e
  dsimp only
  rw [if_pos e1]
  exact h
theorem wp_ppnil {Q : List (D × D) → Fr → Store → Prop} (h : Q [] fr st) : wp (mPairs []) fr st Q X := h
theorem wp_ppcons {p : M D × M D} {r : List (M D × M D)} {Q : List (D × D) → Fr → Store → Prop} (h : wp p.1 fr st (fun k f s => wp p.2 f s (fun v f s => wp (mPairs r) f s (fun t f s => Q ((k, v) :: t) f s) X) X) X) : wp (mPairs (p :: r)) fr st Q X := by
  unfold mPairs
  exact wp_bind (h.mono (fun k f s h => wp_bind (h.mono (fun v f s h => wp_bind (h.mono (fun t f s h => wp_pure h) fun _ _ _ z => z)) fun _ _ _ z => z)) fun _ _ _ z => z)
theorem wp_disp {sh : Bool} {ms : M (List (D × D))} {Q : D → Fr → Store → Prop} (h : wp ms fr st (fun ps f s => ∃ q, dmerge [] [] ps = some q ∧ q.1.length ≤ sizeLine ∧ wp (newD sh (.dct q.1 q.2)) f s Q X) X) : wp (mDisp sh ms) fr st Q X := by
  unfold mDisp
  refine wp_bind (h.mono (fun ps f s ⟨q, e, e1, h⟩ => wp_bind (wp_lift e ?_)) fun _ _ _ z => z)
  rw [if_pos e1]
  exact h
theorem wp_dictZ {sh : Bool} {ms : M (List D)} {Q : D → Fr → Store → Prop} (h : wp ms fr st (fun ds f s => ∃ x y p q r, ds = [x, y] ∧ seqI s x = some p ∧ seqI s y = some q ∧ dmerge [] [] (p.1.zip q.1) = some r ∧ r.1.length ≤ sizeLine ∧ wp (newD sh (.dct r.1 r.2)) f s Q X) X) : wp (mDictZ sh ms) fr st Q X := by
  unfold mDictZ
  refine wp_bind (h.mono (fun ds f s ⟨x, y, p, q, r, e, e1, e2, e3, e4, h⟩ => ?_) fun _ _ _ z => z)
  subst e
  refine wp_bind (wp_liftS (a := r) (by dsimp only; rw [e1, e2]; exact e3) ?_)
  rw [if_pos e4]
  exact h
/-! ### a def -/
theorem wpF_fn {n np : Nat} {b : M Ctl} {ds : List D} {Q : D → Store → Prop} {Y : Ex → Store → Prop} (e : ds.length = np) (h : wp b (ds.map some ++ List.replicate (n - np) none) st (fun c _ s => match c with | .nx => Q .non s | .rt d => Q d s | .bk => False | .ct => False) (fun x _ s => Y x s)) : wpF (mkFn n np b ds st) Q Y := by
  unfold mkFn
  rw [if_pos e]
  unfold wp at h
  unfold wpF
  cases e2 : b (ds.map some ++ List.replicate (n - np) none) st with
  | ok c f s => rw [e2] at h; cases c <;> exact h
  | exc x f s => rw [e2] at h; exact h
  | stuck => rw [e2] at h; exact h
end
end Mp
end
section
set_option maxHeartbeats 2000000
/-! Mp, plain 2: texts; what the operators give. -/
namespace Mp
open PySem L2
/-! ### texts -/
def cs (x : Str) : List Nat := x.cps.toList
theorem str_ext {x y : Str} (h : cs x = cs y) : x = y := by
  obtain ⟨⟨a⟩⟩ := x
  obtain ⟨⟨b⟩⟩ := y
  simp only [cs] at h
  rw [h]
theorem cs_app (x y : Str) : cs (x ++ y) = cs x ++ cs y := by
  show (x.cps ++ y.cps).toList = _
  rw [Array.toList_append]
  rfl
theorem cs_mk (l : List Nat) : cs ⟨l.toArray⟩ = l := rfl
theorem len_cs (x : Str) : x.length = (cs x).length := by
  show x.cps.size = _
  rw [cs, Array.length_toList]
theorem len_app (x y : Str) : (x ++ y).length = x.length + y.length := by rw [len_cs, cs_app, List.length_append, ← len_cs, ← len_cs]
theorem cs_join_cons (d x : Str) (r : List Str) (h : r ≠ []) : cs (Str.join d (x :: r)) = cs x ++ cs d ++ cs (Str.join d r) := by
  cases r with
  | nil => exact absurd rfl h
  | cons y r =>
    show cs (x ++ d ++ Str.join d (y :: r)) = _
    rw [cs_app, cs_app]
def dotS : Str := ⟨#[46]⟩
theorem dotS_eq : ("." : Str) = dotS := by decide +kernel
/-- free of the sign c -/
def freeOf (c : Nat) (x : Str) : Prop := c ∉ cs x
/-- parts without the sign are found again -/
theorem join_inj (c : Nat) : ∀ {l r : List Str}, l ≠ [] → r ≠ [] → (∀ x ∈ l, freeOf c x) → (∀ x ∈ r, freeOf c x) → Str.join ⟨#[c]⟩ l = Str.join ⟨#[c]⟩ r → l = r
  | [], _, h, _, _, _, _ => absurd rfl h
  | _, [], _, h, _, _, _ => absurd rfl h
  | x :: l, y :: r, _, _, hl, hr, e => by
    have e := congrArg cs e
    have sp : ∀ (a b : List Nat) (u v : List Nat), c ∉ a → c ∉ b → a ++ c :: u = b ++ c :: v → a = b ∧ u = v := by
      intro a
      induction a with
      | nil =>
        intro b u v _ hb e
        cases b with
        | nil => simp at e; exact ⟨rfl, e⟩
        | cons z b => simp at e; exact absurd (by simp [e.1]) hb
      | cons z a ih =>
        intro b u v ha hb e
        cases b with
        | nil => simp at e; exact absurd (by simp [e.1]) ha
        | cons w b =>
          simp at e ha hb
          obtain ⟨h1, h2⟩ := ih b u v ha.2 hb.2 e.2
          exact ⟨by rw [e.1, h1], h2⟩
    have hx := hl x List.mem_cons_self
    have hy := hr y List.mem_cons_self
    have cc : cs (⟨#[c]⟩ : Str) = [c] := rfl
    cases l with
    | nil =>
      cases r with
      | nil => rw [str_ext (x := x) (y := y) e]
      | cons z r =>
        rw [cs_join_cons _ y (z :: r) (by simp), cc] at e
        have : c ∈ cs x := by rw [show cs x = _ from e]; simp
        exact absurd this hx
    | cons w l =>
      cases r with
      | nil =>
        rw [cs_join_cons _ x (w :: l) (by simp), cc] at e
        have : c ∈ cs y := by rw [show cs y = _ from e.symm]; simp
        exact absurd this hy
      | cons z r =>
        rw [cs_join_cons _ x (w :: l) (by simp), cs_join_cons _ y (z :: r) (by simp), cc, List.append_assoc, List.append_assoc, List.singleton_append, List.singleton_append] at e
        obtain ⟨h1, h2⟩ := sp _ _ _ _ hx hy e
        rw [str_ext h1, join_inj c (l := w :: l) (r := z :: r) (by simp) (by simp) (fun a h => hl a (List.mem_cons_of_mem _ h)) (fun a h => hr a (List.mem_cons_of_mem _ h)) (str_ext h2)]
theorem split_join (c : Nat) {l : List Str} (h : l ≠ []) (hf : ∀ x ∈ l, freeOf c x) : Txt.split (Str.join ⟨#[c]⟩ l) ⟨#[c]⟩ = l := by
  refine join_inj c ?_ h (StrLaws.split_free _ c) hf (StrLaws.join_split _ _)
  intro z
  have e := StrLaws.join_split (Str.join ⟨#[c]⟩ l) ⟨#[c]⟩
  have := (PyProof.Rows.split_pos (Str.join ⟨#[c]⟩ l) ⟨#[c]⟩)
  rw [z] at this
  simp at this
theorem inStr_one (x : Str) (c : Nat) : inStr x ⟨#[c]⟩ = decide (c ∈ cs x) := by
  unfold inStr
  rw [PyProof.Rows.in_meets]
  exact decide_eq_decide.mpr (PyProof.Rows.countIn_signs c x.cps.toList)
theorem sz {n : Nat} (h : n ≤ 1000000) : n ≤ sizeLine := by rw [sizeLine_eq]; omega
/-! ### what the operators give -/
section
variable {fr : Fr} {st : Store} {X : Ex → Fr → Store → Prop} {Q : D → Fr → Store → Prop} {x y : D}
theorem wp_eq0 {b : Bool} (e : eqS st x y = some b) (h : Q (.bl b) fr st) : wp (eq0 x y) fr st Q X := wp_liftS (by unfold eqSB; rw [e]; rfl) h
theorem wp_ne0 {b : Bool} (e : eqS st x y = some b) (h : match (generalizing := false) b with | true => Q (.bl false) fr st | false => Q (.bl true) fr st) : wp (ne0 x y) fr st Q X := wp_liftS (a := .bl (!b)) (by unfold neSB; rw [e]; rfl) (by cases b <;> exact h)
theorem wp_in0 {b : Bool} (e : inSb st x y = some b) (h : Q (.bl b) fr st) : wp (in0 x y) fr st Q X := wp_liftS (by unfold inSB; rw [e]; rfl) h
theorem wp_nin0 {b : Bool} (e : inSb st x y = some b) (h : match (generalizing := false) b with | true => Q (.bl false) fr st | false => Q (.bl true) fr st) : wp (nin0 x y) fr st Q X := wp_liftS (a := .bl (!b)) (by unfold ninSB; rw [e]; rfl) (by cases b <;> exact h)
theorem wp_lt0 {i j : Int} (h : Q (.bl (decide (i < j))) fr st) : wp (lt0 (.int i) (.int j)) fr st Q X := h
theorem wp_le0 {i j : Int} (h : Q (.bl (decide (i ≤ j))) fr st) : wp (le0 (.int i) (.int j)) fr st Q X := h
theorem wp_gt0 {i j : Int} (h : Q (.bl (decide (j < i))) fr st) : wp (gt0 (.int i) (.int j)) fr st Q X := h
theorem wp_ge0 {i j : Int} (h : Q (.bl (decide (j ≤ i))) fr st) : wp (ge0 (.int i) (.int j)) fr st Q X := h
theorem wp_is0 (h : Q (.bl x.isNon) fr st) : wp (is0 x .non) fr st Q X := h
theorem wp_isn0 (h : match (generalizing := false) x.isNon with | true => Q (.bl false) fr st | false => Q (.bl true) fr st) : wp (isn0 x .non) fr st Q X := by
  have z : Q (.bl (!x.isNon)) fr st := by cases e : x.isNon <;> rw [e] at h <;> exact h
  exact z
theorem wp_add0 {z : D} (e : addS st x y = some z) (h : Q z fr st) : wp (add0 x y) fr st Q X := wp_liftS e h
theorem wp_addI {i j : Int} (h : Q (.int (i + j)) fr st) : wp (add0 (.int i) (.int j)) fr st Q X := h
theorem wp_addT {a b : Str} (e : a.length + b.length ≤ sizeLine) (h : Q (.str (a ++ b)) fr st) : wp (add0 (.str a) (.str b)) fr st Q X := wp_liftS (by unfold addS lstD addD; exact if_pos e) h
theorem wp_sub0 {i j : Int} (h : Q (.int (i - j)) fr st) : wp (sub0 (.int i) (.int j)) fr st Q X := h
theorem wp_mul0 {i j : Int} (e : (-(2 ^ 64) < i ∧ i < 2 ^ 64) ∨ (-(2 ^ 64) < j ∧ j < 2 ^ 64)) (h : Q (.int (i * j)) fr st) : wp (mul0 (.int i) (.int j)) fr st Q X := wp_liftS (by unfold mulD; exact if_pos e) h
theorem wp_mod0 {i j : Int} (e : j ≠ 0) (h : Q (.int (i.fmod j)) fr st) : wp (mod0 (.int i) (.int j)) fr st Q X := wp_liftS (by unfold modD intD; exact if_neg e) h
theorem wp_fdiv0 {i j : Int} (e : j ≠ 0) (e2 : j.natAbs < 1073741824) (h : Q (.int (i.fdiv j)) fr st) : wp (fdiv0 (.int i) (.int j)) fr st Q X := wp_liftS (by unfold fdivD intD; exact if_neg fun z => z.elim e fun z => by omega) h
theorem wp_ixL {ds : List D} {i : Int} {z : D} (e : atI ds i = some z) (h : Q z fr st) : wp (ix0 (.lst ds) (.int i)) fr st Q X := by
  refine wp_liftS ?_ h
  unfold ixS ixD
  exact e
theorem wp_ixT {ds : List D} {i : Int} {z : D} (e : atI ds i = some z) (h : Q z fr st) : wp (ix0 (.tup ds) (.int i)) fr st Q X := by
  refine wp_liftS ?_ h
  unfold ixS ixD
  exact e
theorem wp_ixR {n : Nat} {ds : List D} {i : Int} {z : D} (e0 : st.get n = some (.lst ds)) (e : atI ds i = some z) (h : Q z fr st) : wp (ix0 (.ref n) (.int i)) fr st Q X := by
  unfold wp ix0 ixDct dctD
  dsimp only
  rw [e0]
  dsimp only
  unfold liftS ixS
  dsimp only
  rw [e0]
  dsimp only
  rw [e]
  exact h
theorem wp_ixD {n : Nat} {ks vs : List D} {i z : D} (e0 : st.get n = some (.dct ks vs)) (e : dgetD ks vs i = some z) (h : Q z fr st) : wp (ix0 (.ref n) i) fr st Q X := by
  unfold wp ix0 ixDct dctD
  dsimp only
  rw [e0]
  dsimp only
  rw [e]
  exact h
theorem wp_setD {n : Nat} {ks vs : List D} {i d : D} {q : List D × List D} {Q : Unit → Fr → Store → Prop} (e0 : st.get n = some (.dct ks vs)) (e : dputD ks vs i d = some q) (h : Q () fr (st.set n (some (.dct q.1 q.2)))) : wp (set0 (.ref n) i d) fr st Q X := by
  unfold wp set0 setDct
  dsimp only
  rw [e0]
  dsimp only
  rw [e]
  exact h
theorem wp_setL {n : Nat} {ds : List D} {k : Int} {j : Nat} {d : D} {Q : Unit → Fr → Store → Prop} (e0 : st.get n = some (.lst ds)) (e : ixN ds.length k = some j) (h : Q () fr (st.set n (some (.lst (ds.set j d))))) : wp (set0 (.ref n) (.int k) d) fr st Q X := by
  unfold wp set0 setDct
  dsimp only
  rw [e0]
  unfold setLst
  dsimp only
  rw [e0]
  dsimp only
  rw [e]
  exact h
theorem leD_t {i j : Int} (h : i ≤ j) : leD (.int i) (.int j) = some (.bl true) := by
  show some (D.bl (decide (i ≤ j))) = _
  rw [decide_eq_true h]
theorem leD_f {i j : Int} (h : ¬ i ≤ j) : leD (.int i) (.int j) = some (.bl false) := by
  show some (D.bl (decide (i ≤ j))) = _
  rw [decide_eq_false h]
theorem ltD_t {i j : Int} (h : i < j) : ltD (.int i) (.int j) = some (.bl true) := by
  show some (D.bl (decide (i < j))) = _
  rw [decide_eq_true h]
theorem ltD_f {i j : Int} (h : ¬ i < j) : ltD (.int i) (.int j) = some (.bl false) := by
  show some (D.bl (decide (i < j))) = _
  rw [decide_eq_false h]
theorem wp_itX {m : M D} {Q : List D × (Store → Bool) → Fr → Store → Prop} (h : wp m fr st (fun d f s => ∃ p, seqR s d = some p ∧ Q p f s) X) : wp (mItX m) fr st Q X := by
  unfold mItX
  exact wp_bind (h.mono (fun d f s ⟨p, e, h⟩ => wp_liftS e h) fun _ _ _ z => z)
theorem seqR_ref {st : Store} {n : Nat} {ds : List D} (e : st.get n = some (.lst ds)) : ∃ C, seqR st (.ref n) = some (ds, C) ∧ ∀ st', st'.get n = some (.lst ds) → C st' = true := by
  unfold seqR
  dsimp only
  rw [e]
  exact ⟨_, rfl, fun st' h => by simp only [decide_eq_true_eq]; exact h⟩
/-! ### methods of lists, texts -/
theorem wp_append {n : Nat} {ds : List D} {y : D} (e : st.get n = some (.lst ds)) (hz : ds.length < sizeLine) (h : Q .non fr (st.set n (some (.lst (ds ++ [y]))))) : wp (mtAppend (.ref n) [y]) fr st Q X := by
  unfold wp mtAppend
  dsimp only
  rw [e]
  dsimp only
  rw [if_pos hz]
  exact h
theorem wp_extend {n : Nat} {ds es : List D} {y : D} (e : st.get n = some (.lst ds)) (e2 : lstD st y = some es) (hz : ds.length + es.length ≤ sizeLine) (h : Q .non fr (st.set n (some (.lst (ds ++ es))))) : wp (mtExtend (.ref n) [y]) fr st Q X := by
  unfold wp mtExtend
  dsimp only
  rw [e, e2]
  dsimp only
  rw [if_pos hz]
  exact h
theorem wp_pop0 {n : Nat} {y : D} {ds : List D} (e : st.get n = some (.lst (y :: ds))) (h : Q y fr (st.set n (some (.lst ds)))) : wp (mtPopAt (.ref n) [.int 0]) fr st Q X := by
  unfold wp mtPopAt
  dsimp only
  rw [e]
  dsimp only
  rw [if_pos ⟨by decide, by decide⟩]
  have : seqIndex? 0 (y :: ds).length = some 0 := by
    unfold seqIndex?
    simp
  rw [this]
  exact h
theorem wp_split {sh : Bool} {l : List Str} {c : Nat} (hl : l ≠ []) (hf : ∀ x ∈ l, freeOf c x) (hz : (Str.join ⟨#[c]⟩ l).length + 2 ≤ sizeLine) (h : wp (newD sh (.lst (l.map D.str))) fr st Q X) : wp (mtSplit sh (.str (Str.join ⟨#[c]⟩ l)) [.str ⟨#[c]⟩]) fr st Q X := by
  unfold wp mtSplit
  dsimp only
  rw [if_pos ⟨rfl, hz⟩, split_join c hl hf]
  exact h
theorem wp_join {a : Str} {y : D} {l : List Str} (e : (itemsD st y).bind strsD = some l) (hz : (l.map (·.length)).sum + l.length * a.length ≤ 16777216) (h : Q (.str (Txt.join a l)) fr st) : wp (mtJoin (.str a) [y]) fr st Q X := by
  unfold wp mtJoin
  dsimp only
  rw [e]
  dsimp only
  rw [if_pos hz]
  exact h
end
theorem tag_refL {st : Store} {n : Nat} {ds : List D} (e : st.get n = some (.lst ds)) : tagD st (.ref n) = some (.ty "list") := by
  unfold tagD
  dsimp only
  rw [e]
theorem seq_nx {a b : M Ctl} {fr : Fr} {st : Store} {X : Ex → Fr → Store → Prop} {Q : Ctl → Fr → Store → Prop} {J : Fr → Store → Prop} (h1 : wp a fr st (fun c f s => c = .nx ∧ J f s) X0) (h2 : ∀ f s, J f s → wp b f s Q X) : wp (mSeq a b) fr st Q X :=
  wp_seq (h1.mono (fun c f s ⟨e, h⟩ => by subst e; exact h2 f s h) fun _ _ _ z => z.elim)
/-! ### flat data -/
theorem strsD_map : ∀ l : List Str, strsD (l.map D.str) = some l
  | [] => rfl
  | x :: l => by
    show (strsD (l.map D.str)).map (x :: ·) = _
    rw [strsD_map l]
    rfl
theorem flat_map_str (l : List Str) : (l.map D.str).all D.flat = true := by
  rw [List.all_map]
  exact List.all_eq_true.mpr fun _ _ => rfl
theorem any_str (x : Str) (l : List Str) : ((l.map D.str).any fun y => eqF y (.str x)) = decide (x ∈ l) := by
  induction l with
  | nil => rfl
  | cons y l ih =>
    rw [List.map_cons, List.any_cons, ih]
    show (y == x || decide (x ∈ l)) = _
    by_cases h : y = x
    · subst h; simp
    · rw [beq_eq_false_iff_ne.mpr h]
      have h2 : x ≠ y := fun z => h z.symm
      simp [h2]
/-- x in a list, a tuple of texts -/
theorem in_strs {st : Store} {x : Str} {y : D} {l : List Str} (e : itemsD st y = some (l.map D.str)) (hy : ∀ s, y ≠ .str s) : inSb st (.str x) y = some (decide (x ∈ l)) := by
  have h : inSb st (.str x) y = (match itemsD st y with
    | some ds => if (D.str x).flat && ds.all D.flat then some (ds.any fun z => eqF z (.str x)) else match dataS st (.str x), dataS st y with
      | some p, some (.list ps) => if SeqAt.shaped p && SeqAt.shaped (.list ps) then some (ps.any fun z => PyData.eqv z p) else none
      | _, _ => none
    | none => none) := by
    unfold inSb
    split
    · rename_i i j z1
      exact absurd rfl (hy j)
    · rfl
  rw [h, e]
  dsimp only
  rw [flat_map_str, any_str]
  rfl
theorem datas_str : ∀ l : List Str, D.datas (l.map D.str) = some (l.map PyData.str)
  | [] => rfl
  | x :: l => by
    show (match D.data (.str x), D.datas (l.map D.str) with | some p, some ps => some (p :: ps) | _, _ => none) = _
    rw [datas_str l]
    rfl
theorem datas_int : ∀ l : List Int, D.datas (l.map D.int) = some (l.map PyData.int)
  | [] => rfl
  | x :: l => by
    show (match D.data (.int x), D.datas (l.map D.int) with | some p, some ps => some (p :: ps) | _, _ => none) = _
    rw [datas_int l]
    rfl
theorem atI_nat {α : Type} {xs : List α} {k : Nat} {z : α} (e : xs[k]? = some z) : atI xs (k : Int) = some z := by
  have hk := (List.getElem?_eq_some_iff.mp e).1
  unfold atI ixN
  rw [if_pos (by omega), if_pos (by omega)]
  simpa using e
theorem atI_pos {α : Type} {xs : List α} {i : Int} (h0 : 0 ≤ i) (h1 : i < xs.length) : ∃ z, atI xs i = some z ∧ z ∈ xs := by
  obtain ⟨k, rfl⟩ := Int.eq_ofNat_of_zero_le h0
  have hk : k < xs.length := by omega
  exact ⟨xs[k], atI_nat (List.getElem?_eq_getElem hk), List.getElem_mem hk⟩
/-! ### own operators, closures -/
section
variable {fr : Fr} {st : Store} {X : Ex → Fr → Store → Prop} {Q : D → Fr → Store → Prop} {x y : D}
theorem wp_inM {neg : Bool} {tab : MTab} {f : D → D → M D} {C : Str} {xs : List Str} {ds : List D} {m : Fn} (e : insD st y = some (C, xs, ds)) (e2 : tab.lookup C = some (m, [])) (h : wpF (m [y, x] st) (fun d s => ∃ b, d = .bl b ∧ Q (.bl (if neg then !b else b)) fr s) (fun x s => X x fr s)) : wp (inM neg tab f x y) fr st Q X := by
  unfold wp inM
  rw [e]
  dsimp only
  rw [e2]
  dsimp only
  cases e3 : m [y, x] st with
  | ok d f2 s2 =>
    rw [e3] at h
    obtain ⟨b, rfl, h⟩ := h
    exact h
  | exc z f2 s2 => rw [e3] at h; exact h
  | stuck => rw [e3] at h; exact h
theorem wp_inM0 {neg : Bool} {tab : MTab} {f : D → D → M D} (e : insD st y = none) (h : wp (f x y) fr st Q X) : wp (inM neg tab f x y) fr st Q X := by
  unfold wp inM
  rw [e]
  exact h
theorem wp_eqM {neg : Bool} {nf : Str → Tg → Bool} {tab : MTab} {f : D → D → M D} {C : Str} {xs : List Str} {ds : List D} {m : Fn} {t : Tg} (e : insD st x = some (C, xs, ds)) (e2 : tab.lookup C = some (m, [])) (e3 : tagD st y = some t) (e4 : nf C t = true) (h : wpF (m [x, y] st) (fun d s => ∃ b, d = .bl b ∧ Q (.bl (if neg then !b else b)) fr s) (fun x s => X x fr s)) : wp (eqM neg nf tab f x y) fr st Q X := by
  unfold wp eqM
  rw [e]
  dsimp only
  rw [e2, e3]
  dsimp only
  rw [if_pos e4]
  cases e5 : m [x, y] st with
  | ok d f2 s2 =>
    rw [e5] at h
    obtain ⟨b, rfl, h⟩ := h
    exact h
  | exc z f2 s2 => rw [e5] at h; exact h
  | stuck => rw [e5] at h; exact h
theorem wp_eqM0 {neg : Bool} {nf : Str → Tg → Bool} {tab : MTab} {f : D → D → M D} (e : insD st x = none) (h : wp (f x y) fr st Q X) : wp (eqM neg nf tab f x y) fr st Q X := by
  unfold wp eqM
  rw [e]
  exact h
theorem wp_callC {tab : ClTab} {mo : M D} {ms : M (List D)} (h : wp mo fr st (fun d f1 s1 => ∃ id cds fm, d = .clo id cds ∧ tab id = some fm ∧ wp ms f1 s1 (fun ds f2 s2 => D.ncs ds = true ∧ D.ncs cds = true ∧ s2.nc ∧ wpF (fm cds ds s2) (fun d s => Q d f2 s) (fun x s => X x f2 s)) X) X) : wp (mCallC tab mo ms) fr st Q X := by
  unfold mCallC
  refine wp_bind (h.mono (fun d f1 s1 ⟨id, cds, fm, e, e2, h⟩ => ?_) fun _ _ _ z => z)
  subst e
  refine wp_bind (wp_lift (a := ()) rfl (wp_bind (h.mono (fun ds f2 s2 ⟨q1, q2, q3, h⟩ => ?_) fun _ _ _ z => z)))
  unfold wp cloK
  dsimp only
  rw [e2]
  dsimp only
  rw [if_pos ⟨q1, q2, q3⟩]
  cases e5 : fm cds ds s2 with
  | ok d f2 s2 => rw [e5] at h; exact h
  | exc z f2 s2 => rw [e5] at h; exact h
  | stuck => rw [e5] at h; exact h
theorem wpF_lam {n np nf : Nat} {m : M D} {cds ds : List D} {Q : D → Store → Prop} {Y : Ex → Store → Prop} (e1 : ds.length = np) (e2 : cds.length = nf) (h : wp m (ds.map some ++ (cds.map some ++ List.replicate (n - np - nf) none)) st (fun d _ s => Q d s) (fun x _ s => Y x s)) : wpF (lamFn n np nf m cds ds st) Q Y := by
  unfold lamFn
  rw [if_pos ⟨e1, e2⟩]
  unfold wp at h
  unfold wpF
  cases e3 : m (ds.map some ++ (cds.map some ++ List.replicate (n - np - nf) none)) st with
  | ok d f s => rw [e3] at h; exact h
  | exc x f s => rw [e3] at h; exact h
  | stuck => rw [e3] at h; exact h
theorem wp_qnil {Q : List Arg → Fr → Store → Prop} (h : Q [] fr st) : wp (M.pure []) fr st Q X := h
theorem wp_qV {m : M D} {ms : M (List Arg)} {Q : List Arg → Fr → Store → Prop} (h : wp m fr st (fun d f s => wp ms f s (fun as f s => Q (.v d :: as) f s) X) X) : wp (qV m ms) fr st Q X := by
  unfold qV
  exact wp_bind (h.mono (fun d f s h => wp_bind (h.mono (fun as f s h => wp_pure h) fun _ _ _ z => z)) fun _ _ _ z => z)
theorem wp_qL {id : Nat} {ms : M (List Arg)} {Q : List Arg → Fr → Store → Prop} (h : wp ms fr st (fun as f s => Q (.l id :: as) f s) X) : wp (qL id ms) fr st Q X := by
  unfold qL
  exact wp_bind (h.mono (fun as f s h => wp_pure h) fun _ _ _ z => z)
theorem wp_callL {f : Fn} {caps : Nat → Option (List Nat)} {ms : M (List Arg)} (h : wp ms fr st (fun as f1 s1 => ∃ ds, argsD caps f1 as = some ds ∧ wpF (f ds s1) (fun d s => d.nc = true ∧ s.nc ∧ Q d f1 s) (fun x s => D.ncs x.ds = true ∧ s.nc ∧ X x f1 s)) X) : wp (mCallL f [] caps ms) fr st Q X := by
  unfold mCallL
  refine wp_bind (h.mono (fun as f1 s1 ⟨ds, e, h⟩ => ?_) fun _ _ _ z => z)
  unfold wp
  dsimp only
  rw [e]
  dsimp only
  rw [List.append_nil]
  cases e5 : f ds s1 with
  | ok d f2 s2 =>
    rw [e5] at h
    unfold callN
    dsimp only
    rw [if_pos ⟨h.1, h.2.1⟩]
    exact h.2.2
  | exc z f2 s2 =>
    rw [e5] at h
    unfold callN
    dsimp only
    rw [if_pos ⟨h.1, h.2.1⟩]
    exact h.2.2
  | stuck => rw [e5] at h; exact h
end
end Mp
end
section
set_option maxHeartbeats 2000000
/-! Mp, plain 3: dicts whose keys are data of one kind. -/
namespace Mp
open PySem L2
/-- a kind of keys -/
structure Emb {α : Type} (kD : α → D) (nk : α → NestedKey) : Prop where
  ok : ∀ a, (kD a).key = some (nk a)
  inj : ∀ a b, nk a = nk b → a = b
  dep : ∀ a, (nk a).depth ≤ 8
section
variable {α : Type} [DecidableEq α] {kD : α → D} {nk : α → NestedKey}
theorem Emb.go (E : Emb kD nk) : ∀ l : List α, D.key.go (l.map kD) = some (l.map nk)
  | [] => rfl
  | a :: l => by
    rw [List.map_cons]
    show (match D.key (kD a), D.key.go (l.map kD) with | some k, some ks => some (k :: ks) | _, _ => none) = _
    rw [E.ok, E.go l]
    rfl
theorem Emb.nodup (E : Emb kD nk) {l : List α} (h : l.Nodup) : (l.map nk).Nodup := by
  rw [List.nodup_iff_pairwise_ne, List.pairwise_map]
  exact List.Pairwise.imp (fun hab e => hab (E.inj _ _ e)) h
theorem Emb.okK (E : Emb kD nk) {l : List α} (h : l.Nodup) (hl : l.length ≤ sizeLine) : Mp.okK (l.map kD) = some (l.map nk) := by
  unfold Mp.okK
  rw [E.go]
  dsimp only
  rw [if_pos]
  refine ⟨E.nodup h, fun k hk => ?_, by rw [List.length_map]; exact hl⟩
  obtain ⟨a, _, rfl⟩ := List.mem_map.mp hk
  exact E.dep a
theorem Emb.okKey (E : Emb kD nk) (a : α) : Mp.okKey (kD a) = some (nk a) := by
  unfold Mp.okKey
  rw [E.ok]
  dsimp only
  rw [if_pos (E.dep a)]
theorem Emb.find (E : Emb kD nk) {l : List α} (h : l.Nodup) (hl : l.length ≤ sizeLine) (a : α) : dfind (l.map kD) (kD a) = some (l.findIdx? fun x => decide (x = a)) := by
  unfold dfind
  rw [E.okK h hl, E.okKey]
  dsimp only
  congr 1
  rw [List.findIdx?_map]
  congr 1
  funext x
  exact decide_eq_decide.mpr ⟨fun z => E.inj _ _ z, fun z => by rw [z]⟩
/-- a dict as its pairs -/
def dK (kD : α → D) (ps : List (α × D)) : List D := ps.map fun p => kD p.1
def dV (ps : List (α × D)) : List D := ps.map fun p => p.2
theorem dK_eq (ps : List (α × D)) : dK kD ps = (ps.map Prod.fst).map kD := by unfold dK; rw [List.map_map]; rfl
def aput : List (α × D) → α → D → List (α × D)
  | [], a, v => [(a, v)]
  | (b, w) :: r, a, v => if b = a then (b, v) :: r else (b, w) :: aput r a v
theorem findIdx_lookup : ∀ {ps : List (α × D)} {a : α}, (match (ps.map Prod.fst).findIdx? (fun x => decide (x = a)) with | some i => (dV ps)[i]? | none => none) = ps.lookup a
  | [], a => rfl
  | (b, w) :: r, a => by
    have ih := findIdx_lookup (ps := r) (a := a)
    rw [List.map_cons, List.findIdx?_cons, List.lookup_cons]
    dsimp only
    by_cases h : b = a
    · subst h
      rw [decide_eq_true rfl, beq_self_eq_true]
      rfl
    · have h2 : (a == b) = false := beq_eq_false_iff_ne.mpr fun z => h z.symm
      rw [decide_eq_false h, h2, ← ih]
      simp only [Bool.false_eq_true, if_false]
      cases (r.map Prod.fst).findIdx? (fun x => decide (x = a)) with
      | none => rfl
      | some i => rfl
theorem Emb.get (E : Emb kD nk) {ps : List (α × D)} (h : (ps.map Prod.fst).Nodup) (hl : ps.length ≤ sizeLine) (a : α) : dgetD (dK kD ps) (dV ps) (kD a) = ps.lookup a := by
  unfold dgetD
  rw [dK_eq, E.find h (by rw [List.length_map]; exact hl), ← findIdx_lookup]
  cases (ps.map Prod.fst).findIdx? (fun x => decide (x = a)) <;> rfl
theorem aput_fst : ∀ {ps : List (α × D)} {a : α} {v : D}, (aput ps a v).map Prod.fst = if a ∈ ps.map Prod.fst then ps.map Prod.fst else ps.map Prod.fst ++ [a]
  | [], a, v => rfl
  | (b, w) :: r, a, v => by
    have ih := aput_fst (ps := r) (a := a) (v := v)
    unfold aput
    by_cases h : b = a
    · subst h
      rw [if_pos rfl, if_pos (by simp)]
      rfl
    · have h2 : ¬ a = b := fun z => h z.symm
      rw [if_neg h, List.map_cons, ih, List.map_cons]
      by_cases h3 : a ∈ r.map Prod.fst
      · rw [if_pos h3, if_pos (List.mem_cons_of_mem _ h3)]
      · rw [if_neg h3, if_neg (by simp only [List.mem_cons, not_or]; exact ⟨h2, h3⟩)]
        rfl
theorem aput_nodup {ps : List (α × D)} {a : α} {v : D} (h : (ps.map Prod.fst).Nodup) : ((aput ps a v).map Prod.fst).Nodup := by
  rw [aput_fst]
  split
  · exact h
  · rename_i hn
    rw [List.nodup_append]
    refine ⟨h, by simp, fun x hx y hy e => hn ?_⟩
    rw [List.mem_singleton.mp hy] at e
    rw [← e]
    exact hx
theorem aput_len {ps : List (α × D)} {a : α} {v : D} : (aput ps a v).length ≤ ps.length + 1 := by
  have := congrArg List.length (aput_fst (ps := ps) (a := a) (v := v))
  rw [List.length_map] at this
  rw [this]
  split <;> simp
theorem aput_find (kD : α → D) : ∀ {ps : List (α × D)} {a : α} {v : D}, (match (ps.map Prod.fst).findIdx? (fun x => decide (x = a)) with | some i => (dK kD ps, (dV ps).set i v) | none => (dK kD ps ++ [kD a], dV ps ++ [v])) = (dK kD (aput ps a v), dV (aput ps a v))
  | [], a, v => rfl
  | (b, w) :: r, a, v => by
    have ih := aput_find kD (ps := r) (a := a) (v := v)
    rw [List.map_cons, List.findIdx?_cons]
    dsimp only
    unfold aput
    by_cases h : b = a
    · subst h
      rw [decide_eq_true rfl]
      simp only [if_true]
      rfl
    · rw [decide_eq_false h, if_neg h]
      simp only [Bool.false_eq_true, if_false]
      cases e : (r.map Prod.fst).findIdx? (fun x => decide (x = a)) with
      | none =>
        rw [e] at ih
        dsimp only [Option.map_none] at ih ⊢
        have h1 := congrArg Prod.fst ih
        have h2 := congrArg Prod.snd ih
        dsimp only at h1 h2
        show (kD b :: dK kD r ++ [kD a], w :: dV r ++ [v]) = (kD b :: dK kD (aput r a v), w :: dV (aput r a v))
        rw [← h1, ← h2]
        rfl
      | some i =>
        rw [e] at ih
        dsimp only [Option.map_some] at ih ⊢
        have h1 := congrArg Prod.fst ih
        have h2 := congrArg Prod.snd ih
        dsimp only at h1 h2
        show (kD b :: dK kD r, (w :: dV r).set (i + 1) v) = (kD b :: dK kD (aput r a v), w :: dV (aput r a v))
        rw [← h1, ← h2]
        rfl
theorem Emb.put (E : Emb kD nk) {ps : List (α × D)} (h : (ps.map Prod.fst).Nodup) (hl : ps.length < sizeLine) (a : α) (v : D) : dputD (dK kD ps) (dV ps) (kD a) v = some (dK kD (aput ps a v), dV (aput ps a v)) := by
  unfold dputD
  have e1 : dfind (dK kD ps) (kD a) = some ((ps.map Prod.fst).findIdx? fun x => decide (x = a)) := by
    rw [dK_eq]
    exact E.find h (by rw [List.length_map]; omega) a
  rw [e1]
  have e2 := aput_find kD (ps := ps) (a := a) (v := v)
  have hk : (dK kD ps).length < sizeLine := by unfold dK; rw [List.length_map]; exact hl
  cases e : (ps.map Prod.fst).findIdx? (fun x => decide (x = a)) with
  | none =>
    rw [e] at e2
    dsimp only at e2 ⊢
    rw [if_pos hk, e2]
  | some i =>
    rw [e] at e2
    dsimp only at e2 ⊢
    rw [e2]
theorem aput_lookup : ∀ {ps : List (α × D)} {a b : α} {v : D}, (aput ps a v).lookup b = if b = a then some v else ps.lookup b
  | [], a, b, v => by
    unfold aput
    rw [List.lookup_cons]
    by_cases h : b = a
    · rw [if_pos h, beq_iff_eq.mpr h]
    · rw [if_neg h, beq_eq_false_iff_ne.mpr h]
  | (c, w) :: r, a, b, v => by
    have ih := aput_lookup (ps := r) (a := a) (b := b) (v := v)
    unfold aput
    by_cases h : c = a
    · rw [if_pos h, List.lookup_cons, List.lookup_cons]
      by_cases h2 : b = c
      · rw [beq_iff_eq.mpr h2, if_pos (h2.trans h)]
      · rw [beq_eq_false_iff_ne.mpr h2, if_neg fun z => h2 (z.trans h.symm)]
    · rw [if_neg h, List.lookup_cons, List.lookup_cons, ih]
      by_cases h2 : b = c
      · have h3 : ¬ b = a := fun z => h (h2.symm.trans z)
        rw [beq_iff_eq.mpr h2]
        dsimp only
        rw [if_neg h3]
      · rw [beq_eq_false_iff_ne.mpr h2]
/-- many put in turn -/
def aputs (ps : List (α × D)) : List (α × D) → List (α × D)
  | [] => ps
  | q :: r => aputs (aput ps q.1 q.2) r
theorem Emb.merge (E : Emb kD nk) : ∀ {qs ps : List (α × D)}, (ps.map Prod.fst).Nodup → ps.length + qs.length ≤ sizeLine → dmerge (dK kD ps) (dV ps) (qs.map fun q => (kD q.1, q.2)) = some (dK kD (aputs ps qs), dV (aputs ps qs))
  | [], ps, _, _ => rfl
  | q :: qs, ps, h, hl => by
    rw [List.map_cons]
    unfold dmerge aputs
    rw [List.length_cons] at hl
    rw [E.put h (by omega)]
    dsimp only
    exact E.merge (aput_nodup h) (by have := aput_len (ps := ps) (a := q.1) (v := q.2); omega)
theorem aputs_nodup : ∀ {qs ps : List (α × D)}, (ps.map Prod.fst).Nodup → ((aputs ps qs).map Prod.fst).Nodup
  | [], ps, h => h
  | q :: qs, ps, h => aputs_nodup (qs := qs) (aput_nodup h)
theorem aputs_len : ∀ {qs ps : List (α × D)}, (aputs ps qs).length ≤ ps.length + qs.length
  | [], ps => Nat.le_refl _
  | q :: qs, ps => by
    have h1 := aputs_len (qs := qs) (ps := aput ps q.1 q.2)
    have h2 := aput_len (ps := ps) (a := q.1) (v := q.2)
    rw [List.length_cons]
    unfold aputs
    omega
/-- of new, different keys -/
theorem aput_new : ∀ {ps : List (α × D)} {a : α} {v : D}, a ∉ ps.map Prod.fst → aput ps a v = ps ++ [(a, v)]
  | [], a, v, _ => rfl
  | (b, w) :: r, a, v, h => by
    rw [List.map_cons, List.mem_cons, not_or] at h
    unfold aput
    rw [if_neg fun z => h.1 z.symm, aput_new h.2]
    rfl
theorem aputs_new : ∀ {qs ps : List (α × D)}, ((ps ++ qs).map Prod.fst).Nodup → aputs ps qs = ps ++ qs
  | [], ps, _ => by rw [List.append_nil]; rfl
  | q :: qs, ps, h => by
    have h1 : q.1 ∉ ps.map Prod.fst := by
      rw [List.map_append, List.nodup_append] at h
      exact fun z => h.2.2 _ z _ (by simp) rfl
    unfold aputs
    rw [aput_new h1, aputs_new (qs := qs) (by simpa using h)]
    simp
theorem lookup_mem_nodup {ps : List (α × D)} (h : (ps.map Prod.fst).Nodup) {a : α} {v : D} (hm : (a, v) ∈ ps) : ps.lookup a = some v := by
  induction ps with
  | nil => cases hm
  | cons q r ih =>
    obtain ⟨b, w⟩ := q
    rw [List.lookup_cons]
    rw [List.map_cons, List.nodup_cons] at h
    rcases List.mem_cons.mp hm with e | hm
    · cases e; rw [beq_self_eq_true]
    · have : a ≠ b := fun z => h.1 (by rw [← z]; exact List.mem_map.mpr ⟨(a, v), hm, rfl⟩)
      rw [beq_eq_false_iff_ne.mpr this]
      exact ih h.2 hm
end
/-! ### the cells of a graph: names, (object, field) -/
inductive Cell where
  | nam (x : Str) | fld (k : Nat) (f : Str)
  deriving DecidableEq
def cellD : Cell → D
  | .nam x => .str x
  | .fld k f => .tup [.int k, .str f]
def cellN : Cell → NestedKey
  | .nam x => .text x
  | .fld k f => .tup [.num k, .text f]
theorem embCell : Emb cellD cellN where
  ok a := by cases a <;> rfl
  inj a b e := by
    cases a <;> cases b <;> simp [cellN] at e ⊢
    · exact e
    · exact ⟨by omega, e.2⟩
  dep a := by cases a <;> simp [cellN, NestedKey.depth, NestedKey.depthAll]
end Mp
end
section
set_option maxHeartbeats 4000000
open PySem PySem.Spec PyProof.Rows L2 Mp
local macro_rules | `(tactic| walk_at "m") => `(tactic| first
  | with_reducible refine wp_seq ?_
  | with_reducible refine wp_ret ?_
  | with_reducible refine wp_asg ?_
  | ((with_reducible refine wp_var (d := ?_) ?_ ?_); rotate_left; exact rfl)
  | with_reducible refine wp_pure ?_
  | with_reducible refine wp_set ?_
  | with_reducible refine wp_binM ?_
  | with_reducible refine wp_nil ?_
  | with_reducible refine wp_cons ?_
  | with_reducible refine wp_call ?_
  | with_reducible refine wp_if ?_
  | with_reducible refine wp_tt ?_
  | with_reducible refine wp_and ?_
  | with_reducible refine wp_or ?_
  | with_reducible refine wp_not ?_
  | with_reducible refine wp_tru ?_
  | with_reducible refine wp_drop ?_
  | with_reducible refine wp_lstN ?_
  | with_reducible refine wp_newFL ?_
  | with_reducible refine wp_newFD ?_
  | with_reducible refine wp_newS ?_
  | with_reducible refine wp_tup ?_
  | with_reducible refine wp_callB ?_
  | with_reducible refine wp_attr ?_
  | with_reducible refine wp_attrE ?_
  | with_reducible refine wp_meth ?_
  | with_reducible refine wp_callI ?_
  | with_reducible refine wp_met ?_
  | with_reducible refine wp_orV ?_
  | with_reducible refine wp_andV ?_
  | with_reducible refine wp_notV ?_
  | with_reducible refine wp_chain ?_
  | with_reducible refine wp_part ?_
  | with_reducible refine wp_sl ?_
  | with_reducible refine wp_gsub ?_
  | with_reducible refine wp_gnil ?_
  | with_reducible refine wp_gcons ?_
  | with_reducible refine wp_gtup rfl ?_
  | with_reducible refine wp_par ?_
  | with_reducible refine wp_setA ?_
  | with_reducible refine wp_makeF ?_
  | with_reducible refine wp_raise0 ?_
  | with_reducible refine wp_raiseX ?_
  | with_reducible refine wp_try ?_
  | with_reducible refine wp_tryAs ?_
  | with_reducible refine wp_for ?_
  | with_reducible refine wp_comp ?_
  | with_reducible refine wp_itS ?_
  | with_reducible refine wp_itX ?_
  | with_reducible refine wp_itStr ?_
  | with_reducible refine wp_itR1 ?_
  | with_reducible refine wp_itE ?_
  | with_reducible refine wp_itZ ?_
  | with_reducible refine wp_listN ?_
  | with_reducible refine wp_listR ?_
  | with_reducible refine wp_listStr ?_
  | with_reducible refine wp_ppnil ?_
  | with_reducible refine wp_ppcons ?_
  | with_reducible refine wp_disp ?_
  | with_reducible refine wp_dictZ ?_
  | with_reducible refine wp_compT ?_
  | with_reducible refine wp_addI ?_
  | with_reducible refine wp_sub0 ?_
  | with_reducible refine wp_lt0 ?_
  | with_reducible refine wp_le0 ?_
  | with_reducible refine wp_gt0 ?_
  | with_reducible refine wp_ge0 ?_
  | with_reducible refine wp_is0 ?_
  | with_reducible refine wp_isn0 ?_
  | with_reducible refine wp_callC ?_
  | with_reducible refine wp_callL ?_
  | with_reducible refine wp_qV ?_
  | with_reducible refine wp_qL ?_)

namespace Q54
/-! ### the store's growth -/
structure Kp (S : List Nat) (st st' : Store) : Prop where
  nx : st.next ≤ st'.next
  old : ∀ n, n < st.next → n ∉ S → st'.get n = st.get n
  nc : st.nc → st'.nc
theorem Kp.refl {S : List Nat} {st : Store} : Kp S st st := ⟨Nat.le_refl _, fun _ _ _ => rfl, id⟩
theorem Kp.trans {S : List Nat} {a b c : Store} (h : Kp S a b) (k : Kp S b c) : Kp S a c :=
  ⟨Nat.le_trans h.nx k.nx, fun n hn hs => (k.old n (Nat.lt_of_lt_of_le hn h.nx) hs).trans (h.old n hn hs), fun z => k.nc (h.nc z)⟩
theorem nc_set {st : Store} {n : Nat} {m : MO} (h : st.nc) (hm : m.nc = true) : (st.set n (some m)).nc := fun k l e => by
  rcases Store.set_get e with ⟨_, z⟩ | ⟨_, z⟩
  · cases z; exact hm
  · exact h k l z
theorem nc_setN {st : Store} {n : Nat} (h : st.nc) : (st.set n none).nc := fun k l e => by
  rcases Store.set_get e with ⟨_, z⟩ | ⟨_, z⟩
  · cases z
  · exact h k l z
theorem nc_new {st : Store} {m : MO} (h : st.nc) (hm : m.nc = true) : (st.new m).nc := fun k l e => by
  have e : (if k = st.next then some m else st.get k) = some l := e
  split at e
  · cases e; exact hm
  · exact h k l e
theorem set_same {st : Store} {n : Nat} {m : Option MO} : (st.set n m).get n = m := if_pos rfl
theorem set_ne {st : Store} {n k : Nat} {m : Option MO} (h : k ≠ n) : (st.set n m).get k = st.get k := if_neg h
theorem new_same {st : Store} {m : MO} : (st.new m).get st.next = some m := if_pos rfl
theorem new_ne {st : Store} {k : Nat} {m : MO} (h : k ≠ st.next) : (st.new m).get k = st.get k := if_neg h
theorem Kp.set {S : List Nat} {a b : Store} {n : Nat} {m : MO} (h : Kp S a b) (hn : n ∈ S ∨ a.next ≤ n) (hm : m.nc = true) : Kp S a (b.set n (some m)) :=
  ⟨h.nx, fun k hk hs => by rw [set_ne (fun z => by subst z; rcases hn with q | q; exact hs q; omega)]; exact h.old k hk hs, fun z => nc_set (h.nc z) hm⟩
theorem Kp.setN {S : List Nat} {a b : Store} {n : Nat} (h : Kp S a b) (hn : n ∈ S ∨ a.next ≤ n) : Kp S a (b.set n none) :=
  ⟨h.nx, fun k hk hs => by rw [set_ne (fun z => by subst z; rcases hn with q | q; exact hs q; omega)]; exact h.old k hk hs, fun z => nc_setN (h.nc z)⟩
theorem Kp.new {S : List Nat} {a b : Store} {m : MO} (h : Kp S a b) (hm : m.nc = true) : Kp S a (b.new m) :=
  ⟨Nat.le_trans h.nx (Nat.le_succ _), fun k hk hs => by rw [new_ne (by have := h.nx; omega)]; exact h.old k hk hs, fun z => nc_new (h.nc z) hm⟩
theorem Kp.more {S T : List Nat} {a b : Store} (h : Kp S a b) (hs : ∀ n ∈ S, n ∈ T) : Kp T a b := ⟨h.nx, fun n hn hT => h.old n hn fun z => hT (hs n z), h.nc⟩
theorem ncs_map {α : Type} (f : α → D) (hf : ∀ a, (f a).nc = true) : ∀ l : List α, D.ncs (l.map f) = true
  | [] => by simp [D.ncs]
  | a :: l => by simp [D.ncs, hf a, ncs_map f hf l]
theorem ncs_int (l : List Int) : D.ncs (l.map D.int) = true := ncs_map _ (fun _ => by simp [D.nc]) l
theorem ncs_str (l : List Str) : D.ncs (l.map D.str) = true := ncs_map _ (fun _ => by simp [D.nc]) l
theorem ncs_app : ∀ (a b : List D), D.ncs (a ++ b) = (D.ncs a && D.ncs b)
  | [], b => by simp [D.ncs]
  | x :: a, b => by simp [D.ncs, ncs_app a b, Bool.and_assoc]
theorem ncs_mem : ∀ {l : List D}, (∀ d ∈ l, d.nc = true) → D.ncs l = true
  | [], _ => by simp [D.ncs]
  | d :: l, h => by simp [D.ncs, h d (by simp), ncs_mem (l := l) fun x hx => h x (by simp [hx])]
/-! ### what is drawn from -/
def K5 : List D := [.str "great", .str "cells", .str "rest", .str "turn", .str "more"]
structure Drw (k g : Nat) (st : Store) : Prop where
  ex : ∃ (gs cs : List Int) (r t m : Int), st.get k = some (.dct K5 [.ref g, .lst (cs.map D.int), .int r, .int t, .int m]) ∧ st.get g = some (.lst (gs.map D.int)) ∧ -(2 ^ 40) < m ∧ m < 2 ^ 40 ∧ cs.length ≤ 63 ∧ gs.length ≤ 63
  kg : k ≠ g
  kn : k < st.next
  gn : g < st.next
theorem Drw.keep {k g : Nat} {st st' : Store} {S : List Nat} (d : Drw k g st) (h : Kp S st st') (hk : k ∉ S) (hg : g ∉ S) : Drw k g st' := by
  obtain ⟨⟨gs, cs, r, t, m, h1, h2, h3⟩, kg, kn, gn⟩ := d
  exact ⟨⟨gs, cs, r, t, m, (h.old k kn hk).trans h1, (h.old g gn hg).trans h2, h3⟩, kg, Nat.lt_of_lt_of_le kn h.nx, Nat.lt_of_lt_of_le gn h.nx⟩
theorem d5_great {a b c d e : D} : dgetD K5 [a, b, c, d, e] (.str "great") = some a := by
  have : dfind K5 (.str "great") = some (some 0) := by decide +kernel
  unfold dgetD; rw [this]; rfl
theorem d5_cells {a b c d e : D} : dgetD K5 [a, b, c, d, e] (.str "cells") = some b := by
  have : dfind K5 (.str "cells") = some (some 1) := by decide +kernel
  unfold dgetD; rw [this]; rfl
theorem d5_rest {a b c d e : D} : dgetD K5 [a, b, c, d, e] (.str "rest") = some c := by
  have : dfind K5 (.str "rest") = some (some 2) := by decide +kernel
  unfold dgetD; rw [this]; rfl
theorem d5_turn {a b c d e : D} : dgetD K5 [a, b, c, d, e] (.str "turn") = some d := by
  have : dfind K5 (.str "turn") = some (some 3) := by decide +kernel
  unfold dgetD; rw [this]; rfl
theorem d5_more {a b c d e : D} : dgetD K5 [a, b, c, d, e] (.str "more") = some e := by
  have : dfind K5 (.str "more") = some (some 4) := by decide +kernel
  unfold dgetD; rw [this]; rfl
theorem p5_rest {a b c d e z : D} : dputD K5 [a, b, c, d, e] (.str "rest") z = some (K5, [a, b, z, d, e]) := by
  have : dfind K5 (.str "rest") = some (some 2) := by decide +kernel
  unfold dputD; rw [this]; rfl
theorem p5_turn {a b c d e z : D} : dputD K5 [a, b, c, d, e] (.str "turn") z = some (K5, [a, b, c, z, e]) := by
  have : dfind K5 (.str "turn") = some (some 3) := by decide +kernel
  unfold dputD; rw [this]; rfl
theorem p5_more {a b c d e z : D} : dputD K5 [a, b, c, d, e] (.str "more") z = some (K5, [a, b, c, d, z]) := by
  have : dfind K5 (.str "more") = some (some 4) := by decide +kernel
  unfold dputD; rw [this]; rfl
/-- a list of ints beside the empty one -/
theorem eq_nilR {st : Store} {n : Nat} {l : List Int} (e : st.get n = some (.lst (l.map D.int))) (hz : l.length ≤ 63) : eqS st (.ref n) (.lst []) = some l.isEmpty := by
  unfold eqS dataS
  simp only [scalD, e, datas_int, D.data, D.datas, Option.map_some]
  have h1 : SeqAt.shaped (.list (l.map PyData.int)) = true := by
    have a : ∀ l : List Int, PyData.canLayAll0 (l.map PyData.int) = true := fun l => by induction l with
      | nil => rfl
      | cons x l ih => simp [PyData.canLayAll0, PyData.canLay0, ih]
    have b : ∀ l : List Int, PyData.depthAll (l.map PyData.int) = 0 := fun l => by induction l with
      | nil => rfl
      | cons x l ih => simp [PyData.depthAll, PyData.depth, ih]
    simp [SeqAt.shaped, PyData.canLay0, a, PyData.depth, b]
  rw [h1]
  cases l <;> rfl
theorem eq_nilL {st : Store} {l : List Int} : eqS st (.lst (l.map D.int)) (.lst []) = some l.isEmpty := by
  unfold eqS dataS
  simp only [scalD, datas_int, D.data, D.datas, Option.map_some]
  have h1 : SeqAt.shaped (.list (l.map PyData.int)) = true := by
    have a : ∀ l : List Int, PyData.canLayAll0 (l.map PyData.int) = true := fun l => by induction l with
      | nil => rfl
      | cons x l ih => simp [PyData.canLayAll0, PyData.canLay0, ih]
    have b : ∀ l : List Int, PyData.depthAll (l.map PyData.int) = 0 := fun l => by induction l with
      | nil => rfl
      | cons x l ih => simp [PyData.depthAll, PyData.depth, ih]
    simp [SeqAt.shaped, PyData.canLay0, a, PyData.depth, b]
  rw [h1]
  cases l <;> rfl
theorem eq_int {st : Store} {i j : Int} : eqS st (.int i) (.int j) = some (decide (i = j)) := rfl
theorem fmod_rng {a n : Int} (h : 0 < n) : 0 ≤ a.fmod n ∧ a.fmod n < n := ⟨Int.fmod_nonneg_of_pos _ h, Int.fmod_lt_of_pos _ h⟩
theorem take_ok {k g : Nat} {st : Store} {n : Int} (d : Drw k g st) (hn : 0 < n) (hn2 : n < 1000000) {Q : D → Store → Prop} {Y : Ex → Store → Prop}
    (h : ∀ r st', 0 ≤ r → r < n → Drw k g st' → Kp [k, g] st st' → Q (.int r) st') : wpF (f_law_take [.ref k, .int n] st) Q Y := by
  unfold f_law_take
  refine wpF_fn rfl ?_
  show wp b_law_take [some (.ref k), some (.int n), none, none, none] st _ _
  unfold b_law_take
  obtain ⟨⟨gs, cs, r, t, m, e1, e2, m1, m2, c63, g63⟩, kg, kn, gn⟩ := d
  refine seq_nx (J := fun fr s => fr = [some (.ref k), some (.int n), none, none, none] ∧ Kp [k, g] st s ∧ ∃ (gs : List Int) (r : Int), gs.length ≤ 63 ∧ s.get k = some (.dct K5 [.ref g, .lst (cs.map D.int), .int r, .int t, .int m]) ∧ s.get g = some (.lst (gs.map D.int))) ?_ ?_
  · refine wp_while (fun i fr s => fr = [some (.ref k), some (.int n), none, none, none] ∧ Kp [k, g] st s ∧ ∃ (gs : List Int) (r : Int), gs.length = i ∧ gs.length ≤ 63 ∧ s.get k = some (.dct K5 [.ref g, .lst (cs.map D.int), .int r, .int t, .int m]) ∧ s.get g = some (.lst (gs.map D.int))) ?_ gs.length ⟨rfl, .refl, gs, r, rfl, g63, e1, e2⟩
    clear e1 e2 g63 gs r
    intro i fr s ⟨hf, kp, gs, r, hl, g63, e1, e2⟩
    subst hf
    repeat walk_at "m"
    refine wp_ixD e1 d5_rest ?_
    walk_at "m"
    refine wp_eq0 eq_int ⟨_, rfl, ?_⟩
    by_cases hr : r = 0
    · rw [decide_eq_true hr]
      repeat walk_at "m"
      refine wp_ixD e1 d5_great ?_
      repeat walk_at "m"
      refine ⟨by decide, ?_⟩
      walk_at "m"
      refine wp_ne0 (eq_nilR e2 g63) ?_
      cases gs with
      | nil => exact ⟨_, rfl, rfl, rfl, kp, [], r, g63, e1, e2⟩
      | cons z gs =>
        refine ⟨_, rfl, ?_⟩
        repeat walk_at "m"
        refine wp_ixD e1 d5_great ?_
        refine ⟨tag_refL e2, ?_⟩
        repeat walk_at "m"
        refine wp_pop0 e2 ?_
        repeat walk_at "m"
        have e1' : (s.set g (some (.lst (gs.map D.int)))).get k = _ := (set_ne kg).trans e1
        refine wp_setD e1' p5_rest ?_
        have hl' : gs.length + 1 = i := hl
        have g63' : gs.length + 1 ≤ 63 := g63
        refine ⟨gs.length, by omega, rfl, ?_, gs, z, rfl, by omega, set_same, ?_⟩
        · refine (kp.set (.inl (by simp)) ?_).set (.inl (by simp)) ?_
          · simp [MO.nc, ncs_int]
          · simp [MO.nc, K5, D.ncs, D.nc, ncs_int]
        · rw [set_ne (Ne.symm kg)]
          exact set_same
    · rw [decide_eq_false hr]
      exact ⟨rfl, rfl, kp, gs, r, g63, e1, e2⟩
  clear e1 e2 g63 gs r
  intro f s ⟨hf, kp, gs, r, g63, e1, e2⟩
  subst hf
  have nc5 : ∀ {r t m : Int}, (MO.dct K5 [.ref g, .lst (cs.map D.int), .int r, .int t, .int m]).nc = true := by intro r t m; simp [MO.nc, K5, D.ncs, D.nc, ncs_int]
  repeat walk_at "m"
  refine wp_ixD e1 d5_rest ?_
  repeat walk_at "m"
  refine ⟨_, rfl, ?_⟩
  by_cases hr : 0 < r
  · rw [decide_eq_true hr]
    repeat walk_at "m"
    refine wp_ixD e1 d5_rest ?_
    repeat walk_at "m"
    refine ⟨_, rfl, ?_⟩
    walk_at "m"
    refine wp_mod0 (by omega) ?_
    repeat walk_at "m"
    refine wp_ixD e1 d5_rest ?_
    walk_at "m"
    refine wp_fdiv0 (by omega) (by omega) ?_
    repeat walk_at "m"
    refine wp_setD e1 p5_rest ?_
    repeat walk_at "m"
    obtain ⟨q1, q2⟩ := fmod_rng (a := r) hn
    refine h _ _ q1 q2 ⟨⟨gs, cs, r.fdiv n, t, m, set_same, (set_ne (Ne.symm kg)).trans e2, m1, m2, c63, g63⟩, kg, Nat.lt_of_lt_of_le kn kp.nx, Nat.lt_of_lt_of_le gn kp.nx⟩ (kp.set (.inl (by simp)) nc5)
  · rw [decide_eq_false hr]
    iterate 5 walk_at "m"
    refine seq_nx (J := fun fr s' => s' = s ∧ ∃ z, fr = [some (.ref k), some (.int n), none, some (.int z), none]) ?_ ?_
    · repeat walk_at "m"
      refine wp_ixD e1 d5_cells ?_
      repeat walk_at "m"
      refine ⟨by decide, ?_⟩
      walk_at "m"
      refine wp_ne0 eq_nilL ?_
      cases cs with
      | nil => exact ⟨_, rfl, rfl, rfl, 0, rfl⟩
      | cons c cs =>
        refine ⟨_, rfl, ?_⟩
        repeat walk_at "m"
        refine wp_ixD e1 d5_cells ?_
        repeat walk_at "m"
        refine wp_ixD e1 d5_turn ?_
        repeat walk_at "m"
        refine wp_ixD e1 d5_cells ?_
        refine ⟨_, rfl, ?_⟩
        have lp : (0 : Int) < (((c :: cs).map D.int).length : Nat) := by rw [List.length_map, List.length_cons]; omega
        refine wp_mod0 (by omega) ?_
        obtain ⟨q1, q2⟩ := fmod_rng (a := t) lp
        obtain ⟨z, z1, z2⟩ := atI_pos (xs := (c :: cs).map D.int) q1 q2
        obtain ⟨y, _, rfl⟩ := List.mem_map.mp z2
        refine wp_ixL z1 ?_
        repeat walk_at "m"
        exact ⟨rfl, rfl, y, rfl⟩
    intro f s' ⟨hs, z, hf⟩
    subst hs hf
    repeat walk_at "m"
    refine wp_ixD e1 d5_turn ?_
    repeat walk_at "m"
    refine wp_setD e1 p5_turn ?_
    repeat walk_at "m"
    refine wp_ixD set_same d5_more ?_
    walk_at "m"
    refine wp_mul0 (.inr (by decide)) ?_
    repeat walk_at "m"
    refine wp_ixD set_same d5_turn ?_
    refine wp_mul0 (.inl (by decide)) ?_
    repeat walk_at "m"
    refine ⟨_, rfl, ?_⟩
    walk_at "m"
    refine wp_mod0 (by decide) ?_
    obtain ⟨q1, q2⟩ := fmod_rng (a := m * 48271 + z + 7919 * (t + 1)) (n := 2147483647) (by decide)
    generalize hm' : (m * 48271 + z + 7919 * (t + 1)).fmod 2147483647 = m' at q1 q2
    repeat walk_at "m"
    refine wp_setD set_same p5_more ?_
    repeat walk_at "m"
    refine wp_ixD set_same d5_more ?_
    refine wp_ixD set_same d5_more ?_
    refine wp_mul0 (.inl (by omega)) ?_
    repeat walk_at "m"
    refine wp_ixD set_same d5_more ?_
    refine wp_mul0 (.inl (by decide)) ?_
    repeat walk_at "m"
    refine ⟨_, rfl, ?_⟩
    walk_at "m"
    refine wp_mod0 (by decide) ?_
    obtain ⟨q3, q4⟩ := fmod_rng (a := m' * m' + 16807 * m' + 11) (n := 2147483629) (by decide)
    generalize (m' * m' + 16807 * m' + 11).fmod 2147483629 = x at q3 q4
    repeat walk_at "m"
    refine wp_mul0 (.inl (by omega)) ?_
    refine ⟨_, rfl, ?_⟩
    walk_at "m"
    refine wp_mod0 (by decide) ?_
    walk_at "m"
    refine wp_fdiv0 (by decide) (by decide) ?_
    refine ⟨_, rfl, ?_⟩
    walk_at "m"
    refine wp_mod0 (by omega) ?_
    obtain ⟨q5, q6⟩ := fmod_rng (a := ((x * x).fmod 2147483587).fdiv 7) hn
    refine h _ _ q5 q6 ⟨⟨gs, cs, r, t + 1, m', set_same, ?_, by omega, by omega, c63, g63⟩, kg, Nat.lt_of_lt_of_le kn kp.nx, Nat.lt_of_lt_of_le gn kp.nx⟩ ((kp.set (.inl (by simp)) nc5).set (.inl (by simp)) nc5)
    rw [set_ne (Ne.symm kg), set_ne (Ne.symm kg)]
    exact e2
theorem pick_ok {k g : Nat} {st : Store} {x : D} {ds : List D} (d : Drw k g st) (hx : x = .lst ds ∨ x = .tup ds) (h0 : ds ≠ []) (hl : ds.length < 1000000) {Q : D → Store → Prop} {Y : Ex → Store → Prop}
    (h : ∀ z st', z ∈ ds → Drw k g st' → Kp [k, g] st st' → Q z st') : wpF (f_law_pick [.ref k, x] st) Q Y := by
  unfold f_law_pick
  refine wpF_fn rfl ?_
  show wp b_law_pick [some (.ref k), some x] st _ _
  unfold b_law_pick
  repeat walk_at "m"
  have hp : 0 < ds.length := List.length_pos_iff.mpr h0
  refine ⟨.int ds.length, by rcases hx with rfl | rfl <;> rfl, ?_⟩
  repeat walk_at "m"
  refine take_ok d (by omega) (by omega) fun r st' q1 q2 d' kp => ?_
  obtain ⟨z, z1, z2⟩ := atI_pos q1 q2
  rcases hx with rfl | rfl
  · exact wp_ixL z1 (h z st' z2 d' kp)
  · exact wp_ixT z1 (h z st' z2 d' kp)
/-! ### names -/
def takenL : List Str := ["if", "else", "is", "not", "pass"]
structure Nm (x : Str) : Prop where
  lo : 1 ≤ (cs x).length
  hi : (cs x).length ≤ 6
  az : ∀ c ∈ cs x, 97 ≤ c ∧ c ≤ 122
  nt : x ∉ takenL
theorem cs_join0 : ∀ l : List Str, cs (Str.join ⟨#[]⟩ l) = l.flatMap cs
  | [] => rfl
  | [x] => by simp [Str.join]
  | x :: y :: r => by
    rw [cs_join_cons _ _ _ (by simp), cs_join0 (y :: r), List.flatMap_cons]
    simp [cs]
theorem nodup_sub {α : Type} [DecidableEq α] : ∀ {l m : List α}, l.Nodup → (∀ x ∈ l, x ∈ m) → l.length ≤ m.length
  | [], m, _, _ => Nat.zero_le _
  | x :: l, m, h, hs => by
    rw [List.nodup_cons] at h
    have hx := hs x List.mem_cons_self
    have ih := nodup_sub (m := m.erase x) h.2 fun y hy => (List.mem_erase_of_ne (fun (z : y = x) => h.1 (by rw [← z]; exact hy))).mpr (hs y (List.mem_cons_of_mem _ hy))
    rw [List.length_erase_of_mem hx] at ih
    have : 0 < m.length := List.length_pos_of_mem hx
    rw [List.length_cons]
    omega
/-- word[:5] + letter -/
def cut5 (w : Str) (c : Nat) : Str := ⟨((cs w).take 5 ++ [c]).toArray⟩
theorem cutS5 (w : Str) : cutS w none (some 5) = ⟨((cs w).take 5).toArray⟩ := by
  apply str_ext
  unfold cutS HT.sIx
  rw [cs_mk, cs_mk, len_cs]
  rcases Nat.lt_or_ge (cs w).length 5 with h | h
  · simp [HT.sIx, cs, h]
  · simp [HT.sIx, cs]
theorem cand_ok {w : Str} {c : Nat} (hw : ∀ a ∈ cs w, 97 ≤ a ∧ a ≤ 122) (hc : 97 ≤ c ∧ c ≤ 122) : 1 ≤ (cs (cut5 w c)).length ∧ (cs (cut5 w c)).length ≤ 6 ∧ ∀ a ∈ cs (cut5 w c), 97 ≤ a ∧ a ≤ 122 := by
  unfold cut5
  rw [cs_mk]
  refine ⟨by simp, by simp [List.length_take]; omega, fun a ha => ?_⟩
  rw [List.mem_append] at ha
  rcases ha with ha | ha
  · exact hw a (List.mem_of_mem_take ha)
  · rw [List.mem_singleton.mp ha]; exact hc
theorem cut5_inj {w : Str} {c d : Nat} (h : cut5 w c = cut5 w d) : c = d := by
  have := congrArg cs h
  unfold cut5 at this
  rw [cs_mk, cs_mk] at this
  exact List.singleton_inj.mp (List.append_cancel_left this)
/-- one of nine is new -/
theorem near_new {w : Str} {ns : List Str} (hn : ns.length ≤ 2) : ∃ c, (97 ≤ c ∧ c ≤ 104) ∧ cut5 w c ∉ ns ++ takenL := by
  apply Classical.byContradiction
  intro h
  have h2 : ∀ c, (97 ≤ c ∧ c ≤ 104) → cut5 w c ∈ ns ++ takenL := fun c hc => Classical.byContradiction fun z => h ⟨c, hc, z⟩
  have := nodup_sub (l := [97, 98, 99, 100, 101, 102, 103, 104].map (cut5 w)) (m := ns ++ takenL) (by
    rw [List.nodup_iff_pairwise_ne, List.pairwise_map]
    refine List.Pairwise.imp (R := (· ≠ ·)) (fun hab e => hab (cut5_inj e)) (by decide)) (fun x hx => by
    obtain ⟨c, hc, rfl⟩ := List.mem_map.mp hx
    refine h2 c ?_
    simp at hc
    omega)
  simp [takenL] at this
  omega
theorem lets_eq : cs ("abcdefghijklmnopqrstuvwxyz" : Str) = (List.range 26).map (97 + ·) := by decide +kernel
theorem lets8_eq : cs ("abcdefgh" : Str) = (List.range 8).map (97 + ·) := by decide +kernel
theorem signs_cs (x : Str) : signsD x = (cs x).map fun c => D.str ⟨#[c]⟩ := rfl
theorem glued0 : ∀ l : List Nat, cs (Txt.join ⟨#[]⟩ (l.map fun c => (⟨#[c]⟩ : Str))) = l := fun l => by
  show cs (Builtin.Str.glued _ _) = l
  rw [StrLaws.glued_eq_join, cs_join0]
  induction l with
  | nil => rfl
  | cons c l ih => rw [List.map_cons, List.flatMap_cons, ih]; rfl
theorem cut5_eq (w : Str) (c : Nat) : (⟨((cs w).take 5).toArray⟩ : Str) ++ ⟨#[c]⟩ = cut5 w c := str_ext (by rw [cs_app]; rfl)
theorem words_ok {k g : Nat} {st : Store} {n : Int} (d : Drw k g st) (hn : 0 ≤ n) (hn2 : n ≤ 3) {Q : D → Store → Prop} {Y : Ex → Store → Prop}
    (h : ∀ (p : Nat) (ns : List Str) (st' : Store), st.next ≤ p → p < st'.next → ns.length = n.toNat → ns.Nodup → (∀ x ∈ ns, Nm x) → st'.get p = some (.lst (ns.map D.str)) → Drw k g st' → Kp [k, g] st st' → Q (.ref p) st') : wpF (f_law_words [.ref k, .int n] st) Q Y := by
  unfold f_law_words
  refine wpF_fn rfl ?_
  show wp b_law_words [some (.ref k), some (.int n), none, none, none, none, none, none, none, none] st _ _
  unfold b_law_words
  have kk : k < st.next := d.kn
  have gg : g < st.next := d.gn
  refine seq_nx (J := fun f s => f = [some (.ref k), some (.int n), some (.ref st.next), none, none, none, none, none, none, none] ∧ s = st.new (.lst [])) ?_ ?_
  · repeat walk_at "m"
    refine ⟨by decide, ?_⟩
    repeat walk_at "m"
    exact ⟨rfl, rfl, rfl⟩
  intro f s ⟨hf, hs⟩
  subst hf
  have k0 : Kp [k, g] st s := by rw [hs]; exact Kp.refl.new (by simp [MO.nc, D.ncs])
  have d0 : Drw k g s := by
    rw [hs]
    exact d.keep (S := []) (Kp.refl.new (by simp [MO.nc, D.ncs])) (by simp) (by simp)
  have p0 : s.get st.next = some (.lst []) := by rw [hs]; exact new_same
  have q0 : st.next < s.next := by rw [hs]; exact Nat.lt_succ_self _
  clear hs
  refine seq_nx (J := fun f s => (∃ l, f = some (.ref k) :: some (.int n) :: some (.ref st.next) :: l) ∧ Kp [k, g] st s ∧ Drw k g s ∧ st.next < s.next ∧ ∃ ns : List Str, ns.length = n.toNat ∧ ns.Nodup ∧ (∀ x ∈ ns, Nm x) ∧ s.get st.next = some (.lst (ns.map D.str))) ?_ ?_
  · repeat walk_at "m"
    refine ⟨n, rfl, by omega, by omega, ?_⟩
    refine wp_forL (fun r f s => (∃ l, l.length = 7 ∧ f = some (.ref k) :: some (.int n) :: some (.ref st.next) :: l) ∧ Kp [k, g] st s ∧ Drw k g s ∧ st.next < s.next ∧ r.length ≤ n.toNat ∧ ∃ ns : List Str, ns.length = n.toNat - r.length ∧ ns.Nodup ∧ (∀ x ∈ ns, Nm x) ∧ s.get st.next = some (.lst (ns.map D.str))) ?_ ?_ ⟨⟨_, by rfl, rfl⟩, k0, d0, q0, by simp, [], by simp, .nil, by simp, p0⟩
    · clear k0 d0 p0 q0 s
      intro x r f s ⟨⟨l, hl7, hf⟩, kp, d, q, hl, ns, hns, nd, nm, e⟩
      subst hf
      refine ⟨rfl, ?_⟩
      obtain ⟨l0, l1, l2, l3, l4, l5, l6, rfl⟩ : ∃ a b c d e f g, l = [a, b, c, d, e, f, g] := by
        match l, hl7 with
        | [a, b, c, d, e, f, g], _ => exact ⟨_, _, _, _, _, _, _, rfl⟩
      have hr1 : r.length + 1 ≤ n.toNat := hl
      have n2 : ns.length ≤ 2 := by rw [List.length_cons] at hns; omega
      repeat walk_at "m"
      refine take_ok d (by decide) (by decide) fun r1 s1 b1 b2 d1 k1 => ?_
      repeat walk_at "m"
      refine ⟨rfl, ?_⟩
      repeat walk_at "m"
      refine ⟨_, rfl, by omega, by omega, ?_⟩
      -- the letters
      refine wp_compL (fun rem acc s' => Kp [k, g] s1 s' ∧ Drw k g s' ∧ rem.length ≤ 7 ∧ ∃ ls : List Nat, acc = (ls.map fun c => D.str ⟨#[c]⟩) ∧ ls.length + rem.length = (1 + r1).toNat ∧ ∀ c ∈ ls, 97 ≤ c ∧ c ≤ 122) ?_ ?_ ⟨.refl, d1, by simp; omega, [], rfl, by simp, by simp⟩
      · intro x rem acc s2 ⟨k2, d2, h7, ls, ha, hs, hc⟩
        refine ⟨rfl, ?_⟩
        repeat walk_at "m"
        refine ⟨_, rfl, by decide +kernel, ?_⟩
        repeat walk_at "m"
        refine pick_ok d2 (.inl rfl) (by rw [signs_cs, lets_eq]; simp) (by rw [signs_cs, lets_eq]; simp) fun z s3 z1 d3 k3 => ?_
        rw [signs_cs, lets_eq] at z1
        obtain ⟨c, c1, rfl⟩ := List.mem_map.mp z1
        refine ⟨by rw [ha, List.length_map, sizeLine_eq]; rw [List.length_cons] at h7 hs; omega, k2.trans k3, d3, by rw [List.length_cons] at h7; omega, ls ++ [c], by rw [ha]; simp, by simp at hs ⊢; omega, fun a h => ?_⟩
        rcases List.mem_append.mp h with h | h
        · exact hc a h
        · rw [List.mem_singleton.mp h]
          obtain ⟨j, hj, rfl⟩ := List.mem_map.mp c1
          rw [List.mem_range] at hj
          omega
      · intro acc s2 ⟨k2, d2, _, ls, ha, hs, hc⟩
        subst ha
        refine ⟨rfl, ?_⟩
        repeat walk_at "m"
        have hs' : ls.length = (1 + r1).toNat := by simpa using hs
        refine wp_join (l := ls.map fun c => ⟨#[c]⟩) ?_ ?_ ?_
        · show strsD _ = _
          have e1 : (ls.map fun c => D.str (⟨#[c]⟩ : Str)) = (ls.map fun c => (⟨#[c]⟩ : Str)).map D.str := by simp
          rw [e1, strsD_map]
        · have e2 : ((ls.map fun c => (⟨#[c]⟩ : Str)).map (·.length)).sum = ls.length := by
            rw [List.map_map]
            clear hs hs' hc
            induction ls with
            | nil => rfl
            | cons c ls ih => rw [List.map_cons, List.sum_cons, ih, List.length_cons]; show 1 + _ = _; omega
          have e3 : ("" : Str).length = 0 := by decide +kernel
          rw [e2, e3]
          omega
        · have hw : cs (Txt.join "" (ls.map fun c => (⟨#[c]⟩ : Str))) = ls := glued0 ls
          generalize Txt.join "" (ls.map fun c => (⟨#[c]⟩ : Str)) = w at hw
          have hw1 : ∀ c ∈ cs w, 97 ≤ c ∧ c ≤ 122 := by rw [hw]; exact hc
          repeat walk_at "m"
          refine ⟨sz (by simp), ?_⟩
          repeat walk_at "m"
          refine ⟨_, rfl, ?_⟩
          refine wp_compP (fun d => match d with | .str l => some (.str (cutS w none (some 5) ++ l)) | _ => none) (by decide +kernel) ?_ ?_
          · intro y hy
            rw [signs_cs] at hy
            obtain ⟨c, _, rfl⟩ := List.mem_map.mp hy
            repeat walk_at "m"
            refine ⟨_, rfl, ?_⟩
            refine wp_lift (a := .str (cutS w none (some 5))) ?_ ?_
            · unfold slD
              dsimp only
              rw [if_pos]
              rw [len_cs, hw, sizeLine_eq]
              omega
            repeat walk_at "m"
            refine wp_addT ?_ ⟨rfl, rfl⟩
            rw [cutS5, len_cs, cs_mk]
            show (List.take 5 (cs w)).length + 1 ≤ _
            rw [List.length_take, sizeLine_eq]
            omega
          · have hf : (signsD "abcdefgh").filterMap (fun d => match d with | .str l => some (D.str (cutS w none (some 5) ++ l)) | _ => none) = ((List.range 8).map fun i => cut5 w (97 + i)).map D.str := by
              rw [signs_cs, lets8_eq, cutS5, List.map_map, List.map_map, List.filterMap_map]
              rw [← List.filterMap_eq_map]
              congr 1
              funext c
              show some (D.str (_ ++ _)) = some (D.str _)
              rw [cut5_eq]
            rw [hf]
            generalize hcd : ((List.range 8).map fun i => cut5 w (97 + i)) = cd
            have hcl : cd.length = 8 := by rw [← hcd]; simp
            repeat walk_at "m"
            refine wp_add0 (z := .lst ((w :: cd).map D.str)) ?_ ?_
            · unfold addS lstD
              dsimp only
              rw [if_pos]
              · rfl
              · rw [List.length_map, hcl]; exact sz (by simp)
            repeat walk_at "m"
            have kp2 : Kp [k, g] st s2 := kp.trans (k1.trans k2)
            have e2 : s2.get st.next = some (.lst (ns.map D.str)) := by
              have z : st.next ∉ [k, g] := by simp; omega
              rw [(k1.trans k2).old _ q z]
              exact e
            refine ⟨tag_refL e2, ?_⟩
            repeat walk_at "m"
            refine ⟨_, rfl, ?_⟩
            refine wp_compP (fun d => match d with | .str x => if x ∈ ns ++ takenL then none else some (.str x) | _ => none) (by rw [List.length_map, List.length_cons, hcl]; exact sz (by decide)) ?_ ?_
            · intro y hy
              obtain ⟨x, _, rfl⟩ := List.mem_map.mp hy
              repeat walk_at "m"
              refine ⟨by decide, ?_⟩
              repeat walk_at "m"
              refine wp_add0 (z := .lst ((ns ++ takenL).map D.str)) ?_ ?_
              · unfold addS lstD
                dsimp only
                rw [e2]
                dsimp only
                rw [if_pos]
                · rw [List.map_append]; rfl
                · rw [List.length_map, sizeLine_eq]; show ns.length + 5 ≤ _; omega
              refine wp_nin0 (in_strs (l := ns ++ takenL) rfl (fun _ z => by cases z)) ?_
              by_cases hx : x ∈ ns ++ takenL
              · rw [decide_eq_true hx]
                refine ⟨_, rfl, ?_⟩
                dsimp only
                rw [if_pos hx]
                exact ⟨rfl, rfl⟩
              · rw [decide_eq_false hx]
                refine ⟨_, rfl, ?_⟩
                dsimp only
                repeat walk_at "m"
                rw [if_neg hx]
                exact ⟨rfl, rfl⟩
            · have hfil : ((w :: cd).map D.str).filterMap (fun d => match d with | .str x => if x ∈ ns ++ takenL then none else some (D.str x) | _ => none) = ((w :: cd).filter fun x => !decide (x ∈ ns ++ takenL)).map D.str := by
                generalize w :: cd = l
                induction l with
                | nil => rfl
                | cons y l ih =>
                  rw [List.map_cons, List.filterMap_cons, List.filter_cons]
                  by_cases hy : y ∈ ns ++ takenL
                  · simp only [if_pos hy, ih, decide_eq_true hy, Bool.not_true, Bool.false_eq_true, if_false]
                  · simp only [if_neg hy, ih, decide_eq_false hy, Bool.not_false, if_true, List.map_cons]
              rw [hfil]
              repeat walk_at "m"
              have ne : ∃ y t, (w :: cd).filter (fun x => !decide (x ∈ ns ++ takenL)) = y :: t := by
                obtain ⟨c, hc1, hc2⟩ := near_new (w := w) n2
                have m1 : cut5 w c ∈ (w :: cd).filter fun x => !decide (x ∈ ns ++ takenL) := by
                  rw [List.mem_filter]
                  refine ⟨List.mem_cons_of_mem _ ?_, by simp only [decide_eq_false hc2, Bool.not_false]⟩
                  rw [← hcd]
                  exact List.mem_map.mpr ⟨c - 97, by rw [List.mem_range]; omega, by congr 1; omega⟩
                cases hq : (w :: cd).filter (fun x => !decide (x ∈ ns ++ takenL)) with
                | nil => rw [hq] at m1; cases m1
                | cons y t => exact ⟨y, t, rfl⟩
              obtain ⟨y, t, hy⟩ := ne
              rw [hy]
              refine wp_ixL (z := .str y) (atI_nat (k := 0) rfl) ?_
              repeat walk_at "m"
              have hy2 : y ∈ (w :: cd).filter (fun x => !decide (x ∈ ns ++ takenL)) := by rw [hy]; exact List.mem_cons_self
              rw [List.mem_filter] at hy2
              obtain ⟨y1, y2⟩ := hy2
              have y3 : y ∉ ns ++ takenL := by simpa using y2
              have ny : Nm y := by
                have nt : y ∉ takenL := fun z => y3 (List.mem_append_right _ z)
                rcases List.mem_cons.mp y1 with rfl | y1
                · refine ⟨?_, ?_, hw1, nt⟩ <;> rw [hw] <;> omega
                · rw [← hcd] at y1
                  obtain ⟨i, hi, rfl⟩ := List.mem_map.mp y1
                  rw [List.mem_range] at hi
                  obtain ⟨a1, a2, a3⟩ := cand_ok (c := 97 + i) hw1 (by omega)
                  exact ⟨a1, a2, a3, nt⟩
              refine wp_append e2 (by rw [List.length_map, sizeLine_eq]; omega) ?_
              refine ⟨⟨_, by rfl, rfl⟩, kp2.set (.inr (Nat.le_refl _)) ?_, d2.keep (S := [st.next]) (Kp.refl.set (.inl (by simp)) ?_) (by simp; omega) (by simp; omega), Nat.lt_of_lt_of_le q (k1.trans k2).nx, by omega, ns ++ [y], by rw [List.length_append, hns, List.length_cons, List.length_singleton]; omega, ?_, ?_, ?_⟩
              · simp [MO.nc, ncs_app, ncs_str, D.ncs, D.nc]
              · simp [MO.nc, ncs_app, ncs_str, D.ncs, D.nc]
              · rw [List.nodup_append]
                refine ⟨nd, by simp, fun a ha b hb => ?_⟩
                rw [List.mem_singleton.mp hb]
                exact fun z => y3 (List.mem_append_left _ (z ▸ ha))
              · intro a ha
                rcases List.mem_append.mp ha with ha | ha
                · exact nm a ha
                · rw [List.mem_singleton.mp ha]; exact ny
              · rw [set_same, List.map_append]; rfl
    · intro f s ⟨⟨l, _, hf⟩, kp, d, q, _, ns, hns, r⟩
      exact ⟨rfl, rfl, ⟨l, hf⟩, kp, d, q, ns, by simpa using hns, r⟩
  intro f s ⟨⟨l, hf⟩, kp, d', q, ns, h1, h2, h3, h4⟩
  subst hf
  repeat walk_at "m"
  exact h _ ns s (Nat.le_refl _) q h1 h2 h3 h4 d' kp
structure Frm (ns fs : List Str) : Prop where
  n1 : 1 ≤ ns.length
  n3 : ns.length ≤ 3
  f1 : 1 ≤ fs.length
  f2 : fs.length ≤ 2
  nd : ns.Nodup
  fd : fs.Nodup
  nm : ∀ x ∈ ns, Nm x
  fm : ∀ x ∈ fs, Nm x
def frD (ns fs : List Str) : D := .tup [.tup (ns.map D.str), .tup (fs.map D.str)]
theorem frame_ok {k g : Nat} {st : Store} {a b : Int} (d : Drw k g st) (ha : 1 ≤ a) (ha3 : a ≤ 3) (hb : 1 ≤ b) (hb2 : b ≤ 2) {Q : D → Store → Prop} {Y : Ex → Store → Prop}
    (h : ∀ (ns fs : List Str) (st' : Store), Frm ns fs → (ns.length : Int) ≤ a → (fs.length : Int) ≤ b → Drw k g st' → Kp [k, g] st st' → Q (frD ns fs) st') : wpF (f_law_frame [.ref k, .int a, .int b] st) Q Y := by
  unfold f_law_frame
  refine wpF_fn rfl ?_
  show wp b_law_frame [some (.ref k), some (.int a), some (.int b), none, none] st _ _
  unfold b_law_frame
  repeat walk_at "m"
  refine take_ok d (by omega) (by omega) fun r1 s1 u1 v1 d1 k1 => ?_
  repeat walk_at "m"
  refine words_ok d1 (by omega) (by omega) fun p ns s2 p1 p2 nl nnd nnm np d2 k2 => ?_
  repeat walk_at "m"
  refine take_ok d2 (by omega) (by omega) fun r3 s3 u3 v3 d3 k3 => ?_
  repeat walk_at "m"
  refine words_ok d3 (by omega) (by omega) fun q fs s4 q1 q2 fl fnd fnm fq d4 k4 => ?_
  have k12 : Kp [k, g] st s2 := k1.trans k2
  have k14 : Kp [k, g] st s4 := (k12.trans k3).trans k4
  have kS : k < s1.next := d1.kn
  have gS : g < s1.next := d1.gn
  have pk : p ∉ [k, g] := by simp; omega
  have np4 : s4.get p = some (.lst (ns.map D.str)) := by
    rw [(k3.trans k4).old p p2 pk]
    exact np
  have pq : p ≠ q := by have := k3.nx; omega
  have qk : q ∉ [k, g] := by have := d3.kn; have := d3.gn; simp; omega
  have F0 : Frm ns fs := ⟨by omega, by omega, by omega, by omega, nnd, fnd, nnm, fnm⟩
  -- the names, at least one
  obtain ⟨n0, nr, hn0⟩ : ∃ x l, ns = x :: l := by
    cases ns with
    | nil => simp at nl; omega
    | cons x l => exact ⟨x, l, rfl⟩
  obtain ⟨f0, fr, hf0⟩ : ∃ x l, fs = x :: l := by
    cases fs with
    | nil => simp at fl; omega
    | cons x l => exact ⟨x, l, rfl⟩
  refine seq_nx (J := fun f s => f = [some (.ref k), some (.int a), some (.int b), some (.ref p), some (.ref q)] ∧ Drw k g s ∧ Kp [k, g] st s ∧ s.get p = some (.lst (ns.map D.str)) ∧ ∃ fs' : List Str, s.get q = some (.lst (fs'.map D.str)) ∧ Frm ns fs' ∧ fs'.length = fs.length) ?_ ?_
  · repeat walk_at "m"
    refine take_ok d4 (by omega) (by omega) fun r5 s5 u5 v5 d5 k5 => ?_
    have np5 : s5.get p = some (.lst (ns.map D.str)) := by
      rw [k5.old p (by have := (k3.trans k4).nx; omega) pk]
      exact np4
    have fq5 : s5.get q = some (.lst (fs.map D.str)) := by
      rw [k5.old q q2 qk]
      exact fq
    have k15 : Kp [k, g] st s5 := k14.trans k5
    repeat walk_at "m"
    refine wp_eq0 eq_int ⟨_, rfl, ?_⟩
    by_cases hr : r5 = 0
    · rw [decide_eq_true hr]
      repeat walk_at "m"
      refine wp_ixR (z := .str n0) np5 (by rw [hn0]; exact atI_nat (k := 0) rfl) ?_
      walk_at "m"
      refine wp_nin0 (in_strs (l := fs) (by unfold itemsD; dsimp only; rw [fq5]) (fun _ z => by cases z)) ?_
      by_cases hm : n0 ∈ fs
      · rw [decide_eq_true hm]
        exact ⟨_, rfl, rfl, rfl, d5, k15, np5, fs, fq5, F0, rfl⟩
      · rw [decide_eq_false hm]
        refine ⟨_, rfl, ?_⟩
        repeat walk_at "m"
        refine wp_ixR (z := .str n0) np5 (by rw [hn0]; exact atI_nat (k := 0) rfl) ?_
        repeat walk_at "m"
        refine wp_setL (j := 0) fq5 (by unfold ixN; rw [if_pos (by decide), if_pos (by rw [List.length_map]; omega)]; rfl) ?_
        have e : (fs.map D.str).set 0 (.str n0) = (n0 :: fr).map D.str := by rw [hf0]; rfl
        rw [e]
        have nc : (MO.lst ((n0 :: fr).map D.str)).nc = true := by rw [MO.nc]; exact ncs_str _
        refine ⟨rfl, rfl, d5.keep (S := [q]) (Kp.refl.set (.inl (by simp)) nc) (by simp; simp at qk; omega) (by simp; simp at qk; omega), k15.set (.inr (by have := k12.nx; have := k3.nx; omega)) nc, ?_, n0 :: fr, set_same, ?_, ?_⟩
        · rw [set_ne pq]; exact np5
        · rw [hf0] at hm fnd fnm
          rw [List.nodup_cons] at fnd
          refine ⟨F0.n1, F0.n3, by simp, ?_, nnd, ?_, nnm, ?_⟩
          · have := F0.f2; rw [hf0] at this; exact this
          · rw [List.nodup_cons]
            exact ⟨fun z => hm (List.mem_cons_of_mem _ z), fnd.2⟩
          · intro x hx
            rcases List.mem_cons.mp hx with rfl | hx
            · exact nnm _ (by rw [hn0]; exact List.mem_cons_self)
            · exact fnm _ (List.mem_cons_of_mem _ hx)
        · rw [hf0]; rfl
    · rw [decide_eq_false hr]
      exact ⟨rfl, rfl, d5, k15, np5, fs, fq5, F0, rfl⟩
  intro f s ⟨hf, d5, k5, np5, fs', fq5, F, fl'⟩
  subst hf
  repeat walk_at "m"
  refine ⟨.tup (ns.map D.str), by unfold tupleB itemsD; dsimp only; rw [np5]; rfl, ?_⟩
  repeat walk_at "m"
  refine ⟨.tup (fs'.map D.str), by unfold tupleB itemsD; dsimp only; rw [fq5]; rfl, ?_⟩
  repeat walk_at "m"
  refine ⟨sz (by simp), ?_⟩
  exact h ns fs' s F (by omega) (by omega) d5 k5
/-! ### paths -/
/-- a path of a layout, as its words -/
structure Pth (ns fs : List Str) (most : Nat) (l : List Str) : Prop where
  ex : ∃ n r, l = n :: r ∧ n ∈ ns ∧ (∀ x ∈ r, x ∈ fs) ∧ r.length ≤ most
def pathS (l : List Str) : Str := Str.join dotS l
theorem join_snoc (d : Str) : ∀ (l : List Str) (x : Str), l ≠ [] → Str.join d (l ++ [x]) = Str.join d l ++ d ++ x
  | [], _, h => absurd rfl h
  | [a], x, _ => rfl
  | a :: b :: l, x, _ => by
    apply str_ext
    rw [List.cons_append, cs_join_cons _ _ _ (by simp), join_snoc d (b :: l) x (by simp)]
    simp only [cs_app, cs_join_cons _ a (b :: l) (by simp), List.append_assoc]
theorem len_join {d : Str} {m : Nat} : ∀ {l : List Str}, (∀ x ∈ l, (cs x).length ≤ m) → (cs (Str.join d l)).length ≤ l.length * (m + (cs d).length)
  | [], _ => by simp [Str.join, cs, Str.empty]
  | [x], h => by
    have := h x (by simp)
    simp [Str.join]
    omega
  | x :: y :: l, h => by
    rw [cs_join_cons _ _ _ (by simp)]
    have h1 := h x (by simp)
    have ih := len_join (d := d) (l := y :: l) fun z hz => h z (by simp at hz ⊢; right; exact hz)
    simp only [List.length_append, List.length_cons, Nat.succ_mul] at ih ⊢
    omega
theorem Pth.len {ns fs : List Str} {m : Nat} {l : List Str} (F : Frm ns fs) (p : Pth ns fs m l) (hm : m ≤ 10) : (pathS l).length ≤ 100 := by
  obtain ⟨n, r, rfl, hn, hr, hl⟩ := p
  rw [len_cs]
  have h : ∀ x ∈ n :: r, (cs x).length ≤ 6 := fun x hx => by
    rcases List.mem_cons.mp hx with rfl | hx
    · exact (F.nm _ hn).hi
    · exact (F.fm _ (hr x hx)).hi
  have := len_join (d := dotS) h
  have e : (cs dotS).length = 1 := rfl
  rw [e, List.length_cons] at this
  unfold pathS
  omega
theorem range_int (n : Int) : (List.range n.toNat).length = n.toNat := List.length_range
theorem path_ok {k g : Nat} {st : Store} {ns fs : List Str} {m : Int} (d : Drw k g st) (F : Frm ns fs) (h0 : 0 ≤ m) (h2 : m ≤ 9) {Q : D → Store → Prop} {Y : Ex → Store → Prop}
    (h : ∀ (l : List Str) (st' : Store), Pth ns fs m.toNat l → Drw k g st' → Kp [k, g] st st' → Q (.str (pathS l)) st') : wpF (f_law_path [.ref k, frD ns fs, .int m] st) Q Y := by
  unfold f_law_path
  refine wpF_fn rfl ?_
  show wp b_law_path [some (.ref k), some (frD ns fs), some (.int m), none, none] st _ _
  unfold b_law_path
  have nN : ns.map D.str ≠ [] := by have := F.n1; intro z; rw [List.map_eq_nil_iff] at z; rw [z] at this; simp at this
  have fN : fs.map D.str ≠ [] := by have := F.f1; intro z; rw [List.map_eq_nil_iff] at z; rw [z] at this; simp at this
  repeat walk_at "m"
  refine wp_ixT (atI_nat (k := 0) rfl) ?_
  repeat walk_at "m"
  refine pick_ok d (.inr rfl) nN (by rw [List.length_map]; have := F.n3; omega) fun z s1 z1 d1 k1 => ?_
  obtain ⟨n, hn, rfl⟩ := List.mem_map.mp z1
  repeat walk_at "m"
  refine take_ok d1 (by omega) (by omega) fun r s2 u v d2 k2 => ?_
  repeat walk_at "m"
  refine ⟨r, rfl, by omega, by omega, ?_⟩
  have e1 : n = pathS [n] := rfl
  rw [e1]
  refine wp_forL (fun rem f s => ∃ l, l ≠ [] ∧ (∃ x, f = [some (.ref k), some (frD ns fs), some (.int m), some (.str (pathS l)), x]) ∧ Drw k g s ∧ Kp [k, g] st s ∧ Pth ns fs (r.toNat - rem.length) l ∧ rem.length ≤ r.toNat) ?_ ?_ ⟨[n], by simp, ⟨_, rfl⟩, d2, k1.trans k2, ⟨n, [], rfl, hn, by simp, by simp⟩, by simp⟩
  · intro x rem f s ⟨l, hl0, ⟨y, hf⟩, d3, k3, hp, hr⟩
    subst hf
    refine ⟨rfl, ?_⟩
    have plen := hp.len F (by omega)
    repeat walk_at "m"
    refine wp_addT (by have : ("." : Str).length = 1 := by decide +kernel
                       rw [this]; exact sz (by omega)) ?_
    repeat walk_at "m"
    refine wp_ixT (atI_nat (k := 1) rfl) ?_
    repeat walk_at "m"
    refine pick_ok d3 (.inr rfl) fN (by rw [List.length_map]; have := F.f2; omega) fun z s4 z1 d4 k4 => ?_
    obtain ⟨fl, hfl, rfl⟩ := List.mem_map.mp z1
    have l6 := (F.fm _ hfl).hi
    refine wp_addT (by have : ("." : Str).length = 1 := by decide +kernel
                       rw [len_app, this, len_cs fl]; exact sz (by omega)) ?_
    repeat walk_at "m"
    refine ⟨l ++ [fl], by simp, ⟨some x, ?_⟩, d4, k3.trans k4, ?_, ?_⟩
    · unfold pathS
      rw [join_snoc _ _ _ hl0, ← dotS_eq]
      rfl
    · obtain ⟨a, b, e, q1, q2, q3⟩ := hp
      refine ⟨a, b ++ [fl], by rw [e]; rfl, q1, fun x hx => ?_, ?_⟩
      · rcases List.mem_append.mp hx with hx | hx
        · exact q2 x hx
        · rw [List.mem_singleton.mp hx]; exact hfl
      · rw [List.length_append, List.length_singleton]
        rw [List.length_cons] at q3 hr
        omega
    · rw [List.length_cons] at hr; omega
  · intro f s ⟨l, hl0, ⟨y, hf⟩, d3, k3, hp, hr⟩
    subst hf
    refine ⟨rfl, ?_⟩
    repeat walk_at "m"
    refine h l s ?_ d3 k3
    obtain ⟨a, b, e, q1, q2, q3⟩ := hp
    exact ⟨a, b, e, q1, q2, by simp at q3; omega⟩
theorem exists_map {α : Type} {f : α → D} {P : α → Prop} : ∀ {ys : List D}, (∀ y ∈ ys, ∃ a, y = f a ∧ P a) → ∃ l : List α, ys = l.map f ∧ l.length = ys.length ∧ ∀ a ∈ l, P a
  | [], _ => ⟨[], rfl, rfl, by simp⟩
  | y :: ys, h => by
    obtain ⟨a, e, p⟩ := h y (by simp)
    obtain ⟨l, h1, h2, h3⟩ := exists_map (ys := ys) fun z hz => h z (by simp [hz])
    exact ⟨a :: l, by rw [e, h1]; rfl, by simp [h2], fun b hb => by
      rcases List.mem_cons.mp hb with rfl | hb
      · exact p
      · exact h3 b hb⟩
theorem comp_picks {k g : Nat} {s0 : Store} {fr : Fr} {vs : List Nat} {mg : D → M Unit} {mt : M Bool} {me : M D} {ds : List D} {Q : List D → Fr → Store → Prop} {X : Ex → Fr → Store → Prop} {C : Store → Bool} (P : D → Prop) (hC : ∀ s, C s = true) (d0 : Drw k g s0) (hl : ds.length ≤ 1000000)
    (step : ∀ d s, d ∈ ds → Drw k g s → Kp [k, g] s0 s → wp (compT mg mt me d) (wipeF fr vs) s (fun o _ s' => ∃ y, o = some y ∧ P y ∧ Drw k g s' ∧ Kp [k, g] s s') X0)
    (last : ∀ ys s, ys.length = ds.length → (∀ y ∈ ys, P y) → Drw k g s → Kp [k, g] s0 s → Q ys fr s) : wp (compL C vs mg mt me ds []) fr s0 Q X := by
  refine wp_compL (fun rem acc s => (∃ pre, pre ++ rem = ds) ∧ acc.length + rem.length = ds.length ∧ (∀ y ∈ acc, P y) ∧ Drw k g s ∧ Kp [k, g] s0 s) ?_ ?_ ⟨⟨[], rfl⟩, by simp, by simp, d0, .refl⟩
  · intro d rem acc s ⟨⟨pre, hp⟩, ha, hP, hd, hk⟩
    refine ⟨hC s, (step d s (by rw [← hp]; simp) hd hk).mono (fun o f s' h => ?_) fun _ _ _ z => z⟩
    obtain ⟨y, rfl, h1, h2, h3⟩ := h
    rw [List.length_cons] at ha
    refine ⟨by have := sz (n := acc.length + 1) (by omega); omega, ⟨pre ++ [d], by simp [hp]⟩, by rw [List.length_append, List.length_singleton]; omega, fun z hz => ?_, h2, hk.trans h3⟩
    rcases List.mem_append.mp hz with hz | hz
    · exact hP z hz
    · rw [List.mem_singleton.mp hz]; exact h1
  · intro acc s ⟨_, ha, hP, hd, hk⟩
    exact ⟨hC s, last acc s (by simpa using ha) hP hd hk⟩
theorem comp_draw {α : Type} (f : α → D) (P : α → Prop) {k g : Nat} {s0 : Store} {fr : Fr} {vs : List Nat} {mg : D → M Unit} {mt : M Bool} {me : M D} {ds : List D} {Q : List D → Fr → Store → Prop} {X : Ex → Fr → Store → Prop} {C : Store → Bool} (hC : ∀ s, C s = true) (d0 : Drw k g s0) (hl : ds.length ≤ 1000000)
    (step : ∀ d s, d ∈ ds → Drw k g s → Kp [k, g] s0 s → wp (compT mg mt me d) (wipeF fr vs) s (fun o _ s' => ∃ a, o = some (f a) ∧ P a ∧ Drw k g s' ∧ Kp [k, g] s s') X0)
    (last : ∀ (l : List α) s, l.length = ds.length → (∀ a ∈ l, P a) → Drw k g s → Kp [k, g] s0 s → Q (l.map f) fr s) : wp (compL C vs mg mt me ds []) fr s0 Q X := by
  refine comp_picks (fun y => ∃ a, y = f a ∧ P a) hC d0 hl (fun d s h1 h2 h3 => (step d s h1 h2 h3).mono (fun o _ s' h => ?_) fun _ _ _ z => z) fun ys s h1 h2 h3 h4 => ?_
  · obtain ⟨a, e, p, q⟩ := h
    exact ⟨f a, e, ⟨a, rfl, p⟩, q⟩
  · obtain ⟨l, e, q1, q2⟩ := exists_map h2
    subst e
    exact last l s (by rw [q1, h1]) q2 h3 h4
/-! ### shapes of graphs -/
def oD : Option Nat → D
  | none => .non
  | some i => .int i
def someD (many : Nat) : List D := .non :: (List.range many).map fun (i : Nat) => D.int i
theorem some_mem {many : Nat} {z : D} (h : z ∈ someD many) : ∃ o : Option Nat, z = oD o ∧ ∀ i, o = some i → i < many := by
  rcases List.mem_cons.mp h with rfl | h
  · exact ⟨none, rfl, fun i e => by cases e⟩
  · obtain ⟨i, hi, rfl⟩ := List.mem_map.mp h
    rw [List.mem_range] at hi
    exact ⟨some i, rfl, fun j e => by cases e; exact hi⟩
/-- the values of a graph with so many objects -/
structure Shp (ns fs : List Str) (many : Nat) (nv : List (Option Nat)) (ov : List (List (Option Nat))) : Prop where
  nl : nv.length = ns.length
  nb : ∀ o ∈ nv, ∀ i, o = some i → i < many
  ol : ov.length = many
  fl : ∀ r ∈ ov, r.length = fs.length
  ob : ∀ r ∈ ov, ∀ o ∈ r, ∀ i, o = some i → i < many
def nvD (nv : List (Option Nat)) : D := .lst (nv.map oD)
def ovD (ov : List (List (Option Nat))) : D := .lst (ov.map fun r => .lst (r.map oD))
theorem shape_ok {k g : Nat} {st : Store} {ns fs : List Str} {m : Int} (d : Drw k g st) (F : Frm ns fs) (h0 : 0 ≤ m) (h2 : m ≤ 9) {Q : D → Store → Prop} {Y : Ex → Store → Prop}
    (h : ∀ (many : Nat) (nv : List (Option Nat)) (ov : List (List (Option Nat))) (st' : Store), (many : Int) ≤ m → Shp ns fs many nv ov → Drw k g st' → Kp [k, g] st st' → Q (.tup [nvD nv, ovD ov]) st') : wpF (f_law_shape [.ref k, frD ns fs, .int m] st) Q Y := by
  unfold f_law_shape
  refine wpF_fn rfl ?_
  show wp b_law_shape [some (.ref k), some (frD ns fs), some (.int m), none, none, none, none, none, none] st _ _
  unfold b_law_shape
  repeat walk_at "m"
  refine take_ok d (by omega) (by omega) fun r s1 u v d1 k1 => ?_
  obtain ⟨many, rfl⟩ := Int.eq_ofNat_of_zero_le u
  repeat walk_at "m"
  refine ⟨sz (by simp), ?_⟩
  repeat walk_at "m"
  refine ⟨many, rfl, by omega, by omega, ?_⟩
  repeat walk_at "m"
  rw [Int.toNat_natCast]
  refine wp_add0 (z := .lst (someD many)) ?_ ?_
  · unfold addS lstD
    dsimp only
    rw [if_pos (sz (by simp; omega))]
    rfl
  repeat walk_at "m"
  refine wp_ixT (atI_nat (k := 0) rfl) ?_
  refine ⟨_, rfl, ?_⟩
  have pick1 : ∀ {s : Store}, Drw k g s → ∀ {Q : D → Store → Prop} {Y : Ex → Store → Prop}, (∀ z st', z ∈ someD many → Drw k g st' → Kp [k, g] s st' → Q z st') → wpF (f_law_pick [.ref k, .lst (someD many)] s) Q Y := fun {s} hs {Q Y} hh => pick_ok hs (.inl rfl) (by simp [someD]) (by simp [someD]; omega) hh
  refine comp_draw oD (fun o => ∀ i, o = some i → i < many) (fun _ => rfl) d1 (by rw [List.length_map]; have := F.n3; omega) ?_ ?_
  · intro x s hx hd hk
    repeat walk_at "m"
    refine pick1 hd fun z s2 z1 d2 k2 => ?_
    obtain ⟨o, e, ho⟩ := some_mem z1
    exact ⟨o, by rw [e], ho, d2, k2⟩
  · intro nv s2 nl nb d2 k2
    repeat walk_at "m"
    refine ⟨many, rfl, by omega, by omega, ?_⟩
    refine comp_draw (fun r : List (Option Nat) => .lst (r.map oD)) (fun r => r.length = fs.length ∧ ∀ o ∈ r, ∀ i, o = some i → i < many) (fun _ => rfl) d2 (by simp; omega) ?_ ?_
    · intro x s hx hd hk
      repeat walk_at "m"
      refine wp_ixT (atI_nat (k := 1) rfl) ?_
      refine ⟨_, rfl, ?_⟩
      refine comp_draw oD (fun o => ∀ i, o = some i → i < many) (fun _ => rfl) hd (by rw [List.length_map]; have := F.f2; omega) ?_ ?_
      · intro x s hx hd hk
        repeat walk_at "m"
        refine pick1 hd fun z s2 z1 d2 k2 => ?_
        obtain ⟨o, e, ho⟩ := some_mem z1
        exact ⟨o, by rw [e], ho, d2, k2⟩
      · intro r s3 rl rb d3 k3
        repeat walk_at "m"
        exact ⟨r, rfl, ⟨by rw [rl, List.length_map], rb⟩, d3, k3⟩
    · intro ov s3 ol ob d3 k3
      repeat walk_at "m"
      refine ⟨sz (by simp), ?_⟩
      refine h many nv ov s3 (by omega) ⟨?_, nb, ?_, fun r hr => (ob r hr).1, fun r hr => (ob r hr).2⟩ d3 (k1.trans (k2.trans k3))
      · rw [nl, List.length_map]
      · rw [ol]; simp
theorem begun_ok {st : Store} {ns : List Int} (hn : ns.length ≤ 63) {Q : D → Store → Prop} {Y : Ex → Store → Prop}
    (h : ∀ st', Drw (st.next + 1) st.next st' → Kp [] st st' → Q (.ref (st.next + 1)) st') : wpF (f_law_begun [.scr ns] st) Q Y := by
  unfold f_law_begun
  refine wpF_fn rfl ?_
  show wp b_law_begun [some (.scr ns), none, none] st _ _
  unfold b_law_begun
  repeat walk_at "m"
  refine ⟨_, rfl, ?_⟩
  refine wp_compP (fun d => match d with | .int i => some (.int (if i < 0 then -i else i)) | _ => none) (by rw [List.length_map]; exact sz (by omega)) ?_ ?_
  · intro d hd
    obtain ⟨i, _, rfl⟩ := List.mem_map.mp hd
    repeat walk_at "m"
    refine ⟨_, rfl, ?_⟩
    exact ⟨rfl, rfl⟩
  have e1 : (ns.map D.int).filterMap (fun d => match d with | .int i => some (D.int (if i < 0 then -i else i)) | _ => none) = (ns.map fun i => if i < 0 then -i else i).map D.int := by
    rw [List.filterMap_map, List.map_map, ← List.filterMap_eq_map]
    rfl
  rw [e1]
  have cl : (ns.map fun i => if i < 0 then -i else i).length ≤ 63 := by rw [List.length_map]; exact hn
  generalize (ns.map fun i => if i < 0 then -i else i) = cs at cl
  repeat walk_at "m"
  refine ⟨_, rfl, ?_⟩
  refine wp_compP (fun d => match d with | .int i => if 10 ^ 18 ≤ i then some (.int i) else none | _ => none) (by rw [List.length_map]; exact sz (by omega)) ?_ ?_
  · intro d hd
    obtain ⟨i, _, rfl⟩ := List.mem_map.mp hd
    repeat walk_at "m"
    refine wp_liftS (a := .int (10 ^ 18)) (by unfold powD Mp.intD; rfl) ?_
    repeat walk_at "m"
    refine ⟨_, rfl, ?_⟩
    by_cases hi : (10 : Int) ^ 18 ≤ i
    · rw [decide_eq_true hi]
      repeat walk_at "m"
      dsimp only
      rw [if_pos hi]
      exact ⟨rfl, rfl⟩
    · rw [decide_eq_false hi]
      dsimp only
      rw [if_neg hi]
      exact ⟨rfl, rfl⟩
  have e2 : (cs.map D.int).filterMap (fun d => match d with | .int i => if 10 ^ 18 ≤ i then some (D.int i) else none | _ => none) = (cs.filter fun i => decide (10 ^ 18 ≤ i)).map D.int := by
    clear e1 cl
    induction cs with
    | nil => rfl
    | cons i cs ih =>
      rw [List.map_cons, List.filterMap_cons, List.filter_cons, ih]
      by_cases hi : (10 : Int) ^ 18 ≤ i
      · simp only [hi, if_true, decide_true, List.map_cons]
      · simp only [hi, if_false, decide_false, Bool.false_eq_true]
  rw [e2]
  have gl : (cs.filter fun i => decide (10 ^ 18 ≤ i)).length ≤ 63 := Nat.le_trans (List.length_filter_le _ _) cl
  generalize (cs.filter fun i => decide (10 ^ 18 ≤ i)) = gs at gl
  repeat walk_at "m"
  refine ⟨(K5, [.ref st.next, .lst (cs.map D.int), .int 0, .int 0, .int 7]), ?_, sz (by simp [K5]), ?_⟩
  · have m1 : dmerge [] [] [(D.str "great", .ref st.next), (.str "cells", .lst (cs.map D.int)), (.str "rest", .int 0), (.str "turn", .int 0), (.str "more", .int 7)] = some (K5, [.ref st.next, .lst (cs.map D.int), .int 0, .int 0, .int 7]) := by
      have p1 : ∀ {z}, dputD [] [] (.str "great") z = some ([.str "great"], [z]) := by
        intro z
        have : dfind [] (.str "great") = some none := by decide +kernel
        unfold dputD; rw [this]; rfl
      have p2 : ∀ {a z}, dputD [.str "great"] [a] (.str "cells") z = some ([.str "great", .str "cells"], [a, z]) := by
        intro a z
        have : dfind [.str "great"] (.str "cells") = some none := by decide +kernel
        unfold dputD; rw [this]; rfl
      have p3 : ∀ {a b z}, dputD [.str "great", .str "cells"] [a, b] (.str "rest") z = some ([.str "great", .str "cells", .str "rest"], [a, b, z]) := by
        intro a b z
        have : dfind [.str "great", .str "cells"] (.str "rest") = some none := by decide +kernel
        unfold dputD; rw [this]; rfl
      have p4 : ∀ {a b c z}, dputD [.str "great", .str "cells", .str "rest"] [a, b, c] (.str "turn") z = some ([.str "great", .str "cells", .str "rest", .str "turn"], [a, b, c, z]) := by
        intro a b c z
        have : dfind [.str "great", .str "cells", .str "rest"] (.str "turn") = some none := by decide +kernel
        unfold dputD; rw [this]; rfl
      have p5 : ∀ {a b c d z}, dputD [.str "great", .str "cells", .str "rest", .str "turn"] [a, b, c, d] (.str "more") z = some (K5, [a, b, c, d, z]) := by
        intro a b c d z
        have : dfind [.str "great", .str "cells", .str "rest", .str "turn"] (.str "more") = some none := by decide +kernel
        unfold dputD; rw [this]; rfl
      simp only [dmerge, p1, p2, p3, p4, p5]
    exact m1
  repeat walk_at "m"
  have n1 : (MO.lst (gs.map D.int)).nc = true := by rw [MO.nc]; exact ncs_int _
  have n2 : (MO.dct K5 [.ref st.next, .lst (cs.map D.int), .int 0, .int 0, .int 7]).nc = true := by simp [MO.nc, K5, D.ncs, D.nc, ncs_int]
  refine h _ ⟨⟨gs, cs, 0, 0, 7, ?_, ?_, by decide, by decide, cl, gl⟩, by omega, ?_, ?_⟩ ((Kp.refl.new n1).new n2)
  · exact new_same
  · rw [new_ne (by show st.next ≠ st.next + 1; omega)]
    exact new_same
  · show st.next + 1 < st.next + 1 + 1; omega
  · show st.next < st.next + 1 + 1; omega
/-! ### values, facts -/
def vD : Option (List Str) → D
  | none => .non
  | some l => .str (pathS l)
def VOk (ns fs : List Str) (m : Nat) (o : Option (List Str)) : Prop := ∀ l, o = some l → Pth ns fs m l
theorem value_ok {k g : Nat} {st : Store} {ns fs : List Str} {m : Int} (d : Drw k g st) (F : Frm ns fs) (h0 : 0 ≤ m) (h2 : m ≤ 9) {Q : D → Store → Prop} {Y : Ex → Store → Prop}
    (h : ∀ (o : Option (List Str)) (st' : Store), VOk ns fs m.toNat o → Drw k g st' → Kp [k, g] st st' → Q (vD o) st') : wpF (f_law_value [.ref k, frD ns fs, .int m] st) Q Y := by
  unfold f_law_value
  refine wpF_fn rfl ?_
  show wp b_law_value [some (.ref k), some (frD ns fs), some (.int m)] st _ _
  unfold b_law_value
  repeat walk_at "m"
  refine take_ok d (by omega) (by omega) fun r s1 u v d1 k1 => ?_
  repeat walk_at "m"
  refine wp_eq0 eq_int ⟨_, rfl, ?_⟩
  by_cases hr : r = 0
  · rw [decide_eq_true hr]
    repeat walk_at "m"
    exact h none s1 (fun l e => by cases e) d1 k1
  · rw [decide_eq_false hr]
    repeat walk_at "m"
    refine path_ok d1 F h0 h2 fun l s2 hp d2 k2 => ?_
    exact h (some l) s2 (fun l' e => by cases e; exact hp) d2 (k1.trans k2)
def wordD (b : Bool) : D := .str (if b then "is" else "is not")
def factT (a : Option (List Str)) (w : Bool) (b : Option (List Str)) : D := .tup [vD a, wordD w, vD b]
theorem fact_ok {k g : Nat} {st : Store} {ns fs : List Str} {m : Int} (d : Drw k g st) (F : Frm ns fs) (h0 : 0 ≤ m) (h2 : m ≤ 9) {Q : D → Store → Prop} {Y : Ex → Store → Prop}
    (h : ∀ (a b : Option (List Str)) (w : Bool) (st' : Store), VOk ns fs m.toNat a → VOk ns fs m.toNat b → Drw k g st' → Kp [k, g] st st' → Q (factT a w b) st') : wpF (f_law_fact [.ref k, frD ns fs, .int m] st) Q Y := by
  unfold f_law_fact
  refine wpF_fn rfl ?_
  show wp b_law_fact [some (.ref k), some (frD ns fs), some (.int m)] st _ _
  unfold b_law_fact
  repeat walk_at "m"
  refine value_ok d F h0 h2 fun a s1 ha d1 k1 => ?_
  repeat walk_at "m"
  refine ⟨sz (by simp), ?_⟩
  repeat walk_at "m"
  refine pick_ok d1 (.inl rfl) (by simp) (by simp) fun z s2 z1 d2 k2 => ?_
  have hz : ∃ w : Bool, z = wordD w := by
    simp only [List.mem_cons, List.not_mem_nil, or_false] at z1
    rcases z1 with rfl | rfl
    · exact ⟨true, rfl⟩
    · exact ⟨false, rfl⟩
  refine Exists.elim hz fun w hw => ?_
  rw [hw]
  repeat walk_at "m"
  refine value_ok d2 F h0 h2 fun b s3 hb d3 k3 => ?_
  repeat walk_at "m"
  refine ⟨sz (by simp), ?_⟩
  exact h a b w s3 ha hb d3 (k1.trans (k2.trans k3))
/-! ### the cells of a graph, with their values -/
def rowC (fs : List Str) (k : Nat) (r : List (Option Nat)) : List (Cell × D) := (fs.zip r).map fun p => (.fld k p.1, oD p.2)
def objC (fs : List Str) : Nat → List (List (Option Nat)) → List (Cell × D)
  | _, [] => []
  | k, r :: rs => rowC fs k r ++ objC fs (k + 1) rs
def nmC (ns : List Str) (nv : List (Option Nat)) : List (Cell × D) := (ns.zip nv).map fun p => (.nam p.1, oD p.2)
def WW (ns fs : List Str) (nv : List (Option Nat)) (ov : List (List (Option Nat))) : List (Cell × D) := aputs (aputs [] (nmC ns nv)) (objC fs 0 ov)
theorem aputs_app {α : Type} [DecidableEq α] : ∀ {a b ps : List (α × D)}, aputs ps (a ++ b) = aputs (aputs ps a) b
  | [], b, ps => rfl
  | q :: a, b, ps => by
    show aputs (aput ps q.1 q.2) (a ++ b) = aputs (aputs (aput ps q.1 q.2) a) b
    exact aputs_app (a := a) (b := b) (ps := aput ps q.1 q.2)
def enD : Nat → List D → List D
  | _, [] => []
  | k, x :: xs => .tup [.int k, x] :: enD (k + 1) xs
theorem enD_eq' : ∀ (l : List D) (k : Nat), (List.range' k l.length).zipWith (fun (k : Nat) x => D.tup [.int k, x]) l = enD k l
  | [], k => rfl
  | x :: l, k => by
    rw [List.length_cons, List.range'_succ, List.zipWith_cons_cons, enD_eq' l (k + 1)]
    rfl
theorem enD_eq (l : List D) : (List.range l.length).zipWith (fun (k : Nat) x => D.tup [.int k, x]) l = enD 0 l := by
  rw [List.range_eq_range', enD_eq']
theorem zipT {α β : Type} (f : α → D) (h : β → D) : ∀ (a : List α) (b : List β), (a.map f).zipWith (fun x y => D.tup [x, y]) (b.map h) = (a.zip b).map fun q => D.tup [f q.1, h q.2]
  | [], b => by simp
  | x :: a, [] => by simp
  | x :: a, y :: b => by
    rw [List.map_cons, List.map_cons, List.zipWith_cons_cons, zipT f h a b]
    rfl
theorem objC_len (fs : List Str) : ∀ (ov : List (List (Option Nat))) (k : Nat), (objC fs k ov).length ≤ ov.length * fs.length
  | [], k => Nat.zero_le _
  | r :: rs, k => by
    have ih := objC_len fs rs (k + 1)
    unfold objC rowC
    rw [List.length_append, List.length_map, List.length_zip, List.length_cons, Nat.succ_mul]
    have := Nat.min_le_left fs.length r.length
    omega
theorem ncs_dK (ps : List (Cell × D)) : D.ncs (dK cellD ps) = true := ncs_map _ (fun p => by cases p.1 <;> simp [cellD, D.nc, D.ncs]) ps
theorem nc_oD (o : Option Nat) : (oD o).nc = true := by cases o <;> simp [oD, D.nc]
/-- all values are None or objects -/
def OV (ps : List (Cell × D)) : Prop := ∀ p ∈ ps, ∃ o : Option Nat, p.2 = oD o
theorem OV.nc {ps : List (Cell × D)} (h : OV ps) : (MO.dct (dK cellD ps) (dV ps)).nc = true := by
  have : D.ncs (dV ps) = true := ncs_mem fun d hd => by
    obtain ⟨p, hp, rfl⟩ := List.mem_map.mp hd
    obtain ⟨o, e⟩ := h p hp
    rw [e]; exact nc_oD o
  rw [MO.nc, ncs_dK, this]
  rfl
theorem aput_mem {α : Type} [DecidableEq α] : ∀ {ps : List (α × D)} {a : α} {v : D} {q : α × D}, q ∈ aput ps a v → q = (a, v) ∨ q ∈ ps
  | [], a, v, q, h => .inl (List.mem_singleton.mp h)
  | (b, w) :: r, a, v, q, h => by
    unfold aput at h
    split at h
    · rename_i e
      rcases List.mem_cons.mp h with rfl | h
      · rw [e]; exact .inl rfl
      · exact .inr (List.mem_cons_of_mem _ h)
    · rcases List.mem_cons.mp h with rfl | h
      · exact .inr List.mem_cons_self
      · exact (aput_mem h).imp id fun z => List.mem_cons_of_mem _ z
theorem OV.aput {ps : List (Cell × D)} (h : OV ps) (a : Cell) (o : Option Nat) : OV (Mp.aput ps a (oD o)) := fun q hq => by
  rcases aput_mem hq with rfl | hq
  · exact ⟨o, rfl⟩
  · exact h q hq
theorem OV.aputs : ∀ {qs ps : List (Cell × D)}, OV ps → OV qs → OV (Mp.aputs ps qs)
  | [], ps, h, _ => h
  | q :: qs, ps, h, k => by
    obtain ⟨o, e⟩ := k q List.mem_cons_self
    unfold Mp.aputs
    rw [e]
    exact OV.aputs (h.aput q.1 o) fun x hx => k x (List.mem_cons_of_mem _ hx)
theorem OV_nm (ns : List Str) (nv : List (Option Nat)) : OV (nmC ns nv) := fun p hp => by
  obtain ⟨q, _, rfl⟩ := List.mem_map.mp hp
  exact ⟨_, rfl⟩
/-- what a store holds of a dict of cells -/
structure DAt (p : Nat) (ps : List (Cell × D)) (s : Store) : Prop where
  at_ : s.get p = some (.dct (dK cellD ps) (dV ps))
  nd : (ps.map Prod.fst).Nodup
  ov : OV ps
theorem DAt.put {p : Nat} {ps : List (Cell × D)} {s : Store} (h : DAt p ps s) (hl : ps.length < 1000000) (a : Cell) (o : Option Nat) : dputD (dK cellD ps) (dV ps) (cellD a) (oD o) = some (dK cellD (aput ps a (oD o)), dV (aput ps a (oD o))) ∧ DAt p (aput ps a (oD o)) (s.set p (some (.dct (dK cellD (aput ps a (oD o))) (dV (aput ps a (oD o)))))) :=
  ⟨embCell.put h.nd (by have := sz (n := ps.length + 1) (by omega); omega) a _, set_same, aput_nodup h.nd, h.ov.aput a o⟩
theorem seq_frD1 (st : Store) (l : List Str) : seqI st (.tup (l.map D.str)) = some (l.map D.str, fun _ => true) := rfl
theorem zip_map_nm (ns : List Str) (nv : List (Option Nat)) : (ns.map D.str).zip (nv.map oD) = (nmC ns nv).map fun q => (cellD q.1, q.2) := by
  unfold nmC
  rw [List.map_map, List.zip_map]
  rfl
theorem world_ok {st : Store} {ns fs : List Str} {many : Nat} {nv : List (Option Nat)} {ov : List (List (Option Nat))} (F : Frm ns fs) (S : Shp ns fs many nv ov) (hm : many ≤ 100) {Q : D → Store → Prop} {Y : Ex → Store → Prop}
    (h : ∀ p st', st.next ≤ p → p < st'.next → DAt p (WW ns fs nv ov) st' → Kp [] st st' → Q (.ref p) st') : wpF (f_law_world [frD ns fs, .tup [nvD nv, ovD ov]] st) Q Y := by
  unfold f_law_world
  refine wpF_fn rfl ?_
  show wp b_law_world [some (frD ns fs), some (.tup [nvD nv, ovD ov]), none, none, none, none, none] st _ _
  unfold b_law_world
  have hF2 := F.f2
  have hN3 := F.n3
  have nl3 : (nmC ns nv).length ≤ 3 := by
    unfold nmC
    rw [List.length_map, List.length_zip]
    have := Nat.min_le_left ns.length nv.length
    omega
  have m0 : dmerge [] [] ((ns.map D.str).zip (nv.map oD)) = some (dK cellD (aputs [] (nmC ns nv)), dV (aputs [] (nmC ns nv))) := by
    rw [zip_map_nm]
    exact embCell.merge (ps := []) (by simp) (by rw [List.length_nil]; exact sz (by omega))
  have ol : (objC fs 0 ov).length ≤ 200 := by
    have := objC_len fs ov 0
    have h1 : ov.length * fs.length ≤ 100 * 2 := Nat.mul_le_mul (by rw [S.ol]; exact hm) hF2
    omega
  refine seq_nx (J := fun f s => f = [some (frD ns fs), some (.tup [nvD nv, ovD ov]), some (.ref st.next), none, none, none, none] ∧ Kp [] st s ∧ DAt st.next (aputs [] (nmC ns nv)) s ∧ st.next < s.next) ?_ ?_
  · repeat walk_at "m"
    refine wp_ixT (atI_nat (k := 0) rfl) ?_
    repeat walk_at "m"
    refine wp_ixT (atI_nat (k := 0) rfl) ?_
    repeat walk_at "m"
    refine ⟨_, _, _, _, _, rfl, rfl, rfl, m0, ?_, ?_⟩
    · have h1 := aputs_len (ps := []) (qs := nmC ns nv)
      unfold dK
      rw [List.length_map]
      rw [List.length_nil] at h1
      exact sz (by omega)
    repeat walk_at "m"
    have ovn : OV (aputs [] (nmC ns nv)) := OV.aputs (fun p hp => by cases hp) (OV_nm ns nv)
    exact ⟨rfl, rfl, Kp.refl.new ovn.nc, ⟨new_same, aputs_nodup (by simp), ovn⟩, Nat.lt_succ_self _⟩
  intro f s ⟨hf, k0, d0, q0⟩
  subst hf
  have l0 : (aputs [] (nmC ns nv)).length ≤ 3 := by
    have h1 := aputs_len (ps := []) (qs := nmC ns nv)
    rw [List.length_nil] at h1
    omega
  refine seq_nx (J := fun f s => (∃ l, f = some (frD ns fs) :: some (.tup [nvD nv, ovD ov]) :: some (.ref st.next) :: l) ∧ Kp [] st s ∧ DAt st.next (WW ns fs nv ov) s ∧ st.next < s.next) ?_ ?_
  · repeat walk_at "m"
    refine wp_ixT (atI_nat (k := 1) rfl) ?_
    refine ⟨_, _, rfl, rfl, ?_⟩
    dsimp only
    rw [enD_eq]
    refine wp_forL (fun rem f s => ∃ (k : Nat) (rs : List (List (Option Nat))) (ps : List (Cell × D)), rem = enD k (rs.map fun r => .lst (r.map oD)) ∧ (∃ a b c d, f = [some (frD ns fs), some (.tup [nvD nv, ovD ov]), some (.ref st.next), a, b, c, d]) ∧ Kp [] st s ∧ DAt st.next ps s ∧ st.next < s.next ∧ aputs ps (objC fs k rs) = WW ns fs nv ov ∧ ps.length + (objC fs k rs).length ≤ 1000) ?_ ?_ ⟨0, ov, _, rfl, ⟨_, _, _, _, rfl⟩, k0, d0, q0, rfl, by omega⟩
    · intro x rem f s ⟨k, rs, ps, hr, ⟨a, b, c, d, hf⟩, kp, da, hq, hW, hL⟩
      subst hf
      cases rs with
      | nil => cases hr
      | cons r rs =>
        rw [List.map_cons] at hr
        unfold enD at hr
        have hx := (List.cons.inj hr).1
        have hrem := (List.cons.inj hr).2
        subst hx hrem
        refine ⟨rfl, ?_⟩
        unfold objC at hW hL
        rw [aputs_app] at hW
        rw [List.length_append] at hL
        repeat walk_at "m"
        refine wp_ixT (atI_nat (k := 1) rfl) ?_
        repeat walk_at "m"
        refine ⟨_, _, _, _, rfl, rfl, rfl, ?_⟩
        dsimp only
        rw [zipT]
        refine (wp_forL (Q := fun c f s => c = .nx ∧ (∃ a b c d, f = [some (frD ns fs), some (.tup [nvD nv, ovD ov]), some (.ref st.next), a, b, c, d]) ∧ Kp [] st s ∧ DAt st.next (aputs ps (rowC fs k r)) s ∧ st.next < s.next) (X := X0) (fun rem f s => ∃ (qs : List (Str × Option Nat)) (p2 : List (Cell × D)), rem = qs.map (fun q => D.tup [.str q.1, oD q.2]) ∧ (∃ c d, f = [some (frD ns fs), some (.tup [nvD nv, ovD ov]), some (.ref st.next), some (.int k), some (.lst (r.map oD)), c, d]) ∧ Kp [] st s ∧ DAt st.next p2 s ∧ st.next < s.next ∧ aputs p2 (qs.map fun q => (.fld k q.1, oD q.2)) = aputs ps (rowC fs k r) ∧ p2.length + qs.length ≤ 1000) ?_ ?_ ⟨fs.zip r, ps, rfl, ⟨_, _, rfl⟩, kp, da, hq, rfl, by unfold rowC at hL; rw [List.length_map] at hL; omega⟩).mono ?_ fun _ _ _ z => z.elim
        · intro x rem f s ⟨qs, p2, hr, ⟨c, d, hf⟩, kp, da, hq, hW, hL⟩
          subst hf
          cases qs with
          | nil => cases hr
          | cons q qs =>
            rw [List.map_cons] at hr hW
            have hx := (List.cons.inj hr).1
            have hrem := (List.cons.inj hr).2
            subst hx hrem
            rw [List.length_cons] at hL
            refine ⟨rfl, ?_⟩
            repeat walk_at "m"
            refine ⟨sz (by simp), ?_⟩
            obtain ⟨e1, da2⟩ := da.put (by omega) (.fld k q.1) q.2
            refine wp_setD da.at_ e1 ?_
            refine ⟨qs, _, rfl, ⟨_, _, rfl⟩, kp.set (.inr (Nat.le_refl _)) da2.ov.nc, da2, hq, hW, by have := aput_len (ps := p2) (a := Cell.fld k q.1) (v := oD q.2); omega⟩
        · intro f s ⟨qs, p2, hr, ⟨c, d, hf⟩, kp, da, hq, hW, hL⟩
          have hqs : qs = [] := List.map_eq_nil_iff.mp hr.symm
          subst hqs
          refine ⟨rfl, rfl, ⟨_, _, _, _, hf⟩, kp, ?_, hq⟩
          have e : p2 = aputs ps (rowC fs k r) := hW
          rw [← e]
          exact da
        · intro c f s ⟨hc, hf, kp, da, hq⟩
          subst hc
          refine ⟨k + 1, rs, _, rfl, hf, kp, da, hq, hW, ?_⟩
          have := aputs_len (ps := ps) (qs := rowC fs k r)
          omega
    · intro f s ⟨k, rs, ps, hr, ⟨a, b, c, d, hf⟩, kp, da, hq, hW, hL⟩
      cases rs with
      | cons r rs => cases hr
      | nil =>
        refine ⟨rfl, rfl, ⟨_, hf⟩, kp, ?_, hq⟩
        have e : ps = WW ns fs nv ov := hW
        rw [← e]
        exact da
  intro f s ⟨⟨l, hf⟩, kp, da, hq⟩
  subst hf
  repeat walk_at "m"
  exact h st.next s (Nat.le_refl _) hq da kp
theorem isi_one {st : Store} {x c : D} {t u : Tg} {b : Bool} (e : tagD st x = some t) (hc : clsD c = some u) (h : isi t u = some b) : isiB isi st [x, c] = some (.bl b) := by
  cases c with
  | tup cs => cases hc
  | _ => unfold isiB; dsimp only; rw [e, hc]; dsimp only; rw [h]; rfl
theorem isi_tup {st : Store} {x : D} {cs : List D} {t : Tg} {ts : List Tg} {b : Bool} (e : tagD st x = some t) (hc : clssD cs = some ts) (h1 : (isi t (ts.headD (.ty ""))).isSome = true) (h : isiAny isi t ts = some b) : isiB isi st [x, .tup cs] = some (.bl b) := by
  unfold isiB
  dsimp only
  rw [e, hc]
  dsimp only
  obtain ⟨z, hz⟩ := Option.isSome_iff_exists.mp h1
  rw [hz, h]
  rfl
/-- a list or a tuple -/
def sqD (t : Bool) (ds : List D) : D := if t then .tup ds else .lst ds
theorem is_list_ok {st : Store} {t : Bool} {ds : List D} {Q : D → Store → Prop} {Y : Ex → Store → Prop} (h : Q (.bl true) st) : wpF (f_is_list [sqD t ds] st) Q Y := by
  unfold f_is_list
  refine wpF_fn rfl ?_
  show wp b_is_list [some (sqD t ds)] st _ _
  unfold b_is_list
  repeat walk_at "m"
  refine ⟨sz (by simp), ?_⟩
  refine ⟨.bl true, ?_, h⟩
  cases t
  · exact isi_tup (t := .ty "list") (ts := [.ty "list", .ty "tuple"]) rfl rfl (by decide +kernel) (by decide +kernel)
  · exact isi_tup (t := .ty "tuple") (ts := [.ty "list", .ty "tuple"]) rfl rfl (by decide +kernel) (by decide +kernel)
theorem is_name_ok {st : Store} {x : Str} (hx : Nm x) {Q : D → Store → Prop} {Y : Ex → Store → Prop} (h : Q (.bl true) st) : wpF (f_is_name [.str x] st) Q Y := by
  unfold f_is_name
  refine wpF_fn rfl ?_
  show wp b_is_name [some (.str x), none] st _ _
  unfold b_is_name
  have l1 := hx.lo
  have l6 := hx.hi
  have lx : x.length ≤ sizeLine := by rw [len_cs]; exact sz (by omega)
  repeat walk_at "m"
  refine ⟨.bl true, isi_one (t := .ty "str") (u := .ty "str") rfl rfl (by decide +kernel), ?_⟩
  refine ⟨_, rfl, ?_⟩
  repeat walk_at "m"
  refine ⟨_, if_pos lx, ?_⟩
  refine ⟨true, leD_t (by rw [len_cs]; omega), ?_⟩
  repeat walk_at "m"
  refine wp_lift (a := .bl true) (leD_t (by rw [len_cs]; omega)) ?_
  refine ⟨_, rfl, ?_⟩
  repeat walk_at "m"
  refine wp_in0 (in_strs (l := takenL) rfl (fun _ z => by cases z)) ?_
  rw [decide_eq_false hx.nt]
  refine ⟨_, rfl, ?_⟩
  repeat walk_at "m"
  refine ⟨x, rfl, ?_⟩
  refine wp_compP (fun _ => some (.bl true)) (by rw [signs_cs, List.length_map]; exact sz (by omega)) ?_ ?_
  · intro d hd
    rw [signs_cs] at hd
    obtain ⟨c, hc, rfl⟩ := List.mem_map.mp hd
    repeat walk_at "m"
    refine wp_in0 (b := true) ?_ ⟨rfl, rfl⟩
    show some (inStr "abcdefghijklmnopqrstuvwxyz" ⟨#[c]⟩) = _
    rw [inStr_one, lets_eq, decide_eq_true]
    have := hx.az c hc
    exact List.mem_map.mpr ⟨c - 97, by rw [List.mem_range]; omega, by omega⟩
  · repeat walk_at "m"
    refine ⟨.bl true, ?_, h⟩
    have e : ∀ l : List D, blsD (l.filterMap fun _ => some (D.bl true)) = some (l.map fun _ => true) := fun l => by
      induction l with
      | nil => rfl
      | cons a l ih =>
        rw [List.filterMap_cons]
        show (blsD (l.filterMap fun _ => some (D.bl true))).map (true :: ·) = _
        rw [ih]
        rfl
    show (blsD _).map _ = _
    rw [e]
    have e2 : ∀ l : List D, (l.map fun _ => true).all id = true := fun l => by induction l <;> simp_all
    show some (D.bl _) = _
    rw [e2]
theorem cut_to {α : Type} (xs : List α) {i : Nat} (h : i ≤ xs.length) : Mp.cutD xs none (some (i : Int)) = xs.take i := by
  unfold Mp.cutD
  have h1 : HT.sIx xs.length 0 none = 0 := rfl
  have h2 : HT.sIx xs.length xs.length (some (i : Int)) = i := by
    simp only [HT.sIx]
    rw [if_neg (by omega)]
    simp
    omega
  rw [h1, h2]
  simp
theorem need_names_ok {st : Store} {t : Bool} {ns : List Str} (nd : ns.Nodup) (nm : ∀ x ∈ ns, Nm x) (hl : ns.length ≤ 100) {Q : D → Store → Prop} {Y : Ex → Store → Prop} (h : Q .non st) : wpF (f_need_names [sqD t (ns.map D.str)] st) Q Y := by
  unfold f_need_names
  refine wpF_fn rfl ?_
  show wp b_need_names [some (sqD t (ns.map D.str)), none, none] st _ _
  unfold b_need_names
  repeat walk_at "m"
  refine ⟨_, (ns.map D.str, fun _ => true), rfl, by cases t <;> rfl, ?_⟩
  dsimp only
  rw [enD_eq]
  refine wp_forL (fun rem f s => ∃ pre post, pre ++ post = ns ∧ rem = enD pre.length (post.map D.str) ∧ (∃ a b, f = [some (sqD t (ns.map D.str)), a, b]) ∧ s = st) ?_ ?_ ⟨[], ns, rfl, rfl, ⟨_, _, rfl⟩, rfl⟩
  · intro x rem f s ⟨pre, post, hp, hr, ⟨a, b, hf⟩, hs⟩
    subst hf hs
    cases post with
    | nil => cases hr
    | cons y post =>
      rw [List.map_cons] at hr
      unfold enD at hr
      have hx := (List.cons.inj hr).1
      have hrem := (List.cons.inj hr).2
      subst hx hrem
      refine ⟨rfl, ?_⟩
      have ym : y ∈ ns := by rw [← hp]; simp
      repeat walk_at "m"
      refine is_name_ok (nm y ym) ?_
      refine ⟨_, rfl, ?_⟩
      repeat walk_at "m"
      refine ⟨_, rfl, ?_⟩
      have hcut : slD (sqD t (ns.map D.str)) none (some (pre.length : Int)) = some (sqD t (pre.map D.str)) := by
        have e : Mp.cutD (ns.map D.str) none (some (pre.length : Int)) = pre.map D.str := by
          rw [cut_to _ (by rw [List.length_map, ← hp, List.length_append]; omega), ← hp, List.map_append, List.take_append_of_le_length (by simp)]
          rw [List.take_of_length_le (by simp)]
        cases t
        · show some (D.lst (Mp.cutD _ _ _)) = _; rw [e]; rfl
        · show some (D.tup (Mp.cutD _ _ _)) = _; rw [e]; rfl
      refine wp_lift hcut ?_
      refine wp_in0 (in_strs (l := pre) (by cases t <;> rfl) (fun _ z => by cases t <;> cases z)) ?_
      have hn : y ∉ pre := by
        intro z
        rw [← hp, List.nodup_append] at nd
        exact nd.2.2 y z y (by simp) rfl
      rw [decide_eq_false hn]
      refine ⟨_, rfl, ?_⟩
      repeat walk_at "m"
      exact ⟨pre ++ [y], post, by simp [hp], by simp, ⟨_, _, rfl⟩, rfl⟩
  · intro f s ⟨pre, post, hp, hr, ⟨a, b, hf⟩, hs⟩
    subst hs
    exact ⟨rfl, h⟩
def layD (ns fs : List Str) : D := .ins "Layout" ["names", "fields"] [.tup (ns.map D.str), .tup (fs.map D.str)]
theorem tup_of {st : Store} {t : Bool} {ds : List D} : tupleB st [sqD t ds] = some (.tup ds) := by cases t <;> rfl
theorem len_of {st : Store} {t : Bool} {ds : List D} : lenB st [sqD t ds] = some (.int ds.length) := by cases t <;> rfl
theorem layout_init_ok {st : Store} {p : Nat} {t u : Bool} {ns fs : List Str} (F : Frm ns fs) (hp : st.get p = some (.ins "Layout" [] [])) {Q : D → Store → Prop} {Y : Ex → Store → Prop}
    (h : ∀ st', st'.get p = some (.ins "Layout" ["names", "fields"] [.tup (ns.map D.str), .tup (fs.map D.str)]) → Kp [p] st st' → Q .non st') : wpF (f_Layout___init__ [.ref p, sqD t (ns.map D.str), sqD u (fs.map D.str)] st) Q Y := by
  unfold f_Layout___init__
  refine wpF_fn rfl ?_
  show wp b_Layout___init__ [some (.ref p), some (sqD t (ns.map D.str)), some (sqD u (fs.map D.str))] st _ _
  unfold b_Layout___init__
  have h1 := F.n1
  have h2 := F.n3
  have h3 := F.f1
  have h4 := F.f2
  repeat walk_at "m"
  refine is_list_ok ⟨_, rfl, ?_⟩
  repeat walk_at "m"
  refine is_list_ok ⟨_, rfl, ?_⟩
  repeat walk_at "m"
  refine need_names_ok F.nd F.nm (by omega) ?_
  repeat walk_at "m"
  refine need_names_ok F.fd F.fm (by omega) ?_
  repeat walk_at "m"
  refine ⟨_, len_of, ?_⟩
  rw [List.length_map]
  refine ⟨true, leD_t (by omega), ?_⟩
  repeat walk_at "m"
  refine wp_lift (a := .bl true) (leD_t (by omega)) ?_
  refine ⟨_, rfl, ?_⟩
  repeat walk_at "m"
  refine ⟨_, len_of, ?_⟩
  rw [List.length_map]
  refine ⟨true, leD_t (by omega), ?_⟩
  repeat walk_at "m"
  refine wp_lift (a := .bl true) (leD_t (by omega)) ?_
  refine ⟨_, rfl, ?_⟩
  repeat walk_at "m"
  refine ⟨_, tup_of, ?_⟩
  repeat walk_at "m"
  refine ⟨p, "Layout", [], [], rfl, hp, by decide +kernel, by decide, ?_⟩
  repeat walk_at "m"
  refine ⟨_, tup_of, ?_⟩
  repeat walk_at "m"
  refine ⟨p, "Layout", ["names"], [.tup (ns.map D.str)], rfl, set_same, by decide +kernel, by decide, ?_⟩
  have e : putD "fields" (.tup (fs.map D.str)) ["names"] [.tup (ns.map D.str)] = ((["names", "fields"] : List Str), [D.tup (ns.map D.str), D.tup (fs.map D.str)]) := by
    unfold putD
    rw [if_neg (by decide +kernel)]
    rfl
  rw [e]
  refine h _ set_same ((Kp.refl.set (.inl (by simp)) ?_).set (.inl (by simp)) ?_)
  · simp [MO.nc, putD, D.ncs, D.nc, ncs_str]
  · simp [MO.nc, D.ncs, D.nc, ncs_str]
theorem look_hd {f : Str} {d : D} {ns : List Str} {ds : List D} : lookD f (f :: ns) (d :: ds) = some d := if_pos rfl
theorem look_tl {f n : Str} {d : D} {ns : List Str} {ds : List D} (h : f ≠ n) : lookD f (n :: ns) (d :: ds) = lookD f ns ds := if_neg h
theorem attr_ins {f C : Str} {cs xs : List Str} {ds : List D} {st : Store} {z : D} (hc : C ∈ cs) (h : lookD f xs ds = some z) : attrD f cs st (.ins C xs ds) = some z := by
  unfold attrD insD
  dsimp only
  rw [if_pos hc, h]
theorem attr_ref {f C : Str} {cs xs : List Str} {ds : List D} {st : Store} {n : Nat} {z : D} (e : st.get n = some (.ins C xs ds)) (hc : C ∈ cs) (h : lookD f xs ds = some z) : attrD f cs st (.ref n) = some z := by
  unfold attrD insD
  dsimp only
  rw [e]
  dsimp only
  rw [if_pos hc, h]
theorem lay_names {st : Store} {ns fs : List Str} : attrD "names" a_names st (layD ns fs) = some (.tup (ns.map D.str)) := attr_ins (by decide +kernel) look_hd
theorem lay_fields {st : Store} {ns fs : List Str} : attrD "fields" a_fields st (layD ns fs) = some (.tup (fs.map D.str)) := attr_ins (by decide +kernel) ((look_tl (by decide +kernel)).trans look_hd)
theorem is_integer_int {st : Store} {i : Int} {Q : D → Store → Prop} {Y : Ex → Store → Prop} (h : Q (.bl true) st) : wpF (f_is_integer [.int i] st) Q Y := by
  unfold f_is_integer
  refine wpF_fn rfl ?_
  show wp b_is_integer [some (.int i)] st _ _
  unfold b_is_integer
  repeat walk_at "m"
  refine ⟨.bl true, isi_one (t := .ty "int") (u := .ty "int") rfl rfl (by decide +kernel), ?_⟩
  refine ⟨_, rfl, ?_⟩
  repeat walk_at "m"
  refine ⟨.bl false, isi_one (t := .ty "int") (u := .ty "bool") rfl rfl (by decide +kernel), ?_⟩
  exact ⟨_, rfl, h⟩
theorem is_held_ok {st : Store} {o : Option Nat} {many : Nat} (ho : ∀ i, o = some i → i < many) {Q : D → Store → Prop} {Y : Ex → Store → Prop} (h : Q (.bl true) st) : wpF (f_is_held [oD o, .int many] st) Q Y := by
  unfold f_is_held
  refine wpF_fn rfl ?_
  show wp b_is_held [some (oD o), some (.int many)] st _ _
  unfold b_is_held
  repeat walk_at "m"
  cases o with
  | none => exact ⟨_, rfl, h⟩
  | some i =>
    refine ⟨_, rfl, ?_⟩
    dsimp only [oD, D.isNon]
    repeat walk_at "m"
    refine is_integer_int ?_
    refine ⟨_, rfl, ?_⟩
    repeat walk_at "m"
    refine ⟨true, leD_t (by omega), ?_⟩
    repeat walk_at "m"
    have := ho i rfl
    exact wp_lift (ltD_t (by omega)) h
theorem bls_true : ∀ l : List D, blsD (l.filterMap fun _ => some (D.bl true)) = some (l.map fun _ => true)
  | [] => rfl
  | a :: l => by
    rw [List.filterMap_cons]
    show (blsD (l.filterMap fun _ => some (D.bl true))).map (true :: ·) = _
    rw [bls_true l]
    rfl
theorem all_true {st : Store} {l : List D} : allB st [.lst (l.filterMap fun _ => some (D.bl true))] = some (.bl true) := by
  show (blsD _).map _ = _
  rw [bls_true]
  have e2 : ∀ l : List D, (l.map fun _ => true).all id = true := fun l => by induction l <;> simp_all
  show some (D.bl _) = _
  rw [e2]
theorem are_values_ok {st : Store} {l : List (Option Nat)} {n many : Nat} (hn : l.length = n) (hl : n ≤ 1000) (hb : ∀ o ∈ l, ∀ i, o = some i → i < many) {Q : D → Store → Prop} {Y : Ex → Store → Prop} (h : Q (.bl true) st) : wpF (f_are_values [.lst (l.map oD), .int n, .int many] st) Q Y := by
  unfold f_are_values
  refine wpF_fn rfl ?_
  show wp b_are_values [some (.lst (l.map oD)), some (.int n), some (.int many), none] st _ _
  unfold b_are_values
  repeat walk_at "m"
  refine is_list_ok (t := false) ?_
  refine ⟨_, rfl, ?_⟩
  repeat walk_at "m"
  refine ⟨_, rfl, ?_⟩
  repeat walk_at "m"
  refine wp_eq0 eq_int ?_
  refine ⟨_, rfl, ?_⟩
  rw [decide_eq_true (by rw [List.length_map, hn])]
  repeat walk_at "m"
  refine ⟨_, rfl, ?_⟩
  refine wp_compP (fun _ => some (.bl true)) (by rw [List.length_map]; exact sz (by omega)) ?_ ?_
  · intro d hd
    obtain ⟨o, ho, rfl⟩ := List.mem_map.mp hd
    repeat walk_at "m"
    exact is_held_ok (hb o ho) ⟨rfl, rfl⟩
  · repeat walk_at "m"
    exact ⟨_, all_true, h⟩
def numD (many : Nat) : D := .lst ((List.range many).map fun (k : Nat) => D.int k)
def grN : List Str := ["layout", "numbers", "held"]
def grV (ns fs : List Str) (many hh : Nat) : List D := [layD ns fs, numD many, .ref hh]
theorem nc_lay (ns fs : List Str) : (layD ns fs).nc = true := by simp [layD, D.nc, D.ncs, ncs_str]
theorem nc_num (many : Nat) : (numD many).nc = true := by
  unfold numD
  rw [D.nc]
  exact ncs_map _ (fun _ => by simp [D.nc]) _
theorem graph_init_ok {st : Store} {p : Nat} {ns fs : List Str} {many : Nat} {nv : List (Option Nat)} {ov : List (List (Option Nat))} (F : Frm ns fs) (S : Shp ns fs many nv ov) (hm : many ≤ 12) (hp : st.get p = some (.ins "Graph" [] [])) (pn : p < st.next) {Q : D → Store → Prop} {Y : Ex → Store → Prop}
    (h : ∀ hh st', st.next ≤ hh → hh < st'.next → st'.get p = some (.ins "Graph" grN (grV ns fs many hh)) → DAt hh (WW ns fs nv ov) st' → Kp [p] st st' → Q .non st') : wpF (f_Graph___init__ [.ref p, layD ns fs, nvD nv, ovD ov] st) Q Y := by
  unfold f_Graph___init__
  refine wpF_fn rfl ?_
  show wp b_Graph___init__ [some (.ref p), some (layD ns fs), some (nvD nv), some (ovD ov), none, none, none, none, none] st _ _
  unfold b_Graph___init__
  have h1 := F.n1
  have h2 := F.n3
  have h3 := F.f1
  have h4 := F.f2
  have hF2 := F.f2
  have nl3 : (nmC ns nv).length ≤ 3 := by
    unfold nmC
    rw [List.length_map, List.length_zip]
    have := Nat.min_le_left ns.length nv.length
    omega
  have m0 : dmerge [] [] ((ns.map D.str).zip (nv.map oD)) = some (dK cellD (aputs [] (nmC ns nv)), dV (aputs [] (nmC ns nv))) := by
    rw [zip_map_nm]
    exact embCell.merge (ps := []) (by simp) (by rw [List.length_nil]; exact sz (by omega))
  have olen : (objC fs 0 ov).length ≤ 200 := by
    have := objC_len fs ov 0
    have h1 : ov.length * fs.length ≤ 100 * 2 := Nat.mul_le_mul (by rw [S.ol]; omega) hF2
    omega
  have l0 : (aputs [] (nmC ns nv)).length ≤ 3 := by
    have h1 := aputs_len (ps := []) (qs := nmC ns nv)
    rw [List.length_nil] at h1
    omega
  have ovl : (ov.map fun r => D.lst (r.map oD)).length = many := by rw [List.length_map, S.ol]
  repeat walk_at "m"
  refine is_list_ok (t := false) (ds := ov.map fun r => .lst (r.map oD)) ⟨_, rfl, ?_⟩
  repeat walk_at "m"
  refine ⟨_, rfl, ?_⟩
  repeat walk_at "m"
  rw [show g_MOST_OBJECTS = .int 12 from rfl]
  refine wp_gt0 ⟨_, rfl, ?_⟩
  rw [ovl, decide_eq_false (by omega)]
  repeat walk_at "m"
  refine ⟨_, rfl, ?_⟩
  rw [ovl]
  repeat walk_at "m"
  refine ⟨_, lay_names, ?_⟩
  repeat walk_at "m"
  refine ⟨_, rfl, ?_⟩
  repeat walk_at "m"
  rw [List.length_map]
  refine are_values_ok S.nl (by omega) S.nb ⟨_, rfl, ?_⟩
  repeat walk_at "m"
  refine ⟨(ov.map fun r => .lst (r.map oD), fun _ => true), rfl, ?_⟩
  refine wp_compP (fun _ => some (.bl true)) (by rw [ovl]; exact sz (by omega)) ?_ ?_
  · intro d hd
    obtain ⟨r, hr, rfl⟩ := List.mem_map.mp hd
    repeat walk_at "m"
    refine ⟨_, lay_fields, ?_⟩
    repeat walk_at "m"
    refine ⟨_, rfl, ?_⟩
    repeat walk_at "m"
    rw [List.length_map]
    exact are_values_ok (S.fl r hr) (by omega) (S.ob r hr) ⟨rfl, rfl⟩
  repeat walk_at "m"
  refine ⟨_, all_true, ?_⟩
  refine ⟨_, rfl, ?_⟩
  repeat walk_at "m"
  refine ⟨p, "Graph", [], [], rfl, hp, by decide +kernel, by decide, ?_⟩
  repeat walk_at "m"
  refine ⟨many, rfl, by omega, by omega, ?_⟩
  rw [Int.toNat_natCast]
  repeat walk_at "m"
  refine ⟨p, "Graph", ["layout"], [layD ns fs], rfl, set_same, by decide +kernel, by decide, ?_⟩
  have e1 : putD "numbers" (numD many) ["layout"] [layD ns fs] = ((["layout", "numbers"] : List Str), [layD ns fs, numD many]) := by
    unfold putD
    rw [if_neg (by decide +kernel)]
    rfl
  show wp _ _ ((st.set p _).set p (some (.ins "Graph" (putD "numbers" (numD many) ["layout"] [layD ns fs]).1 (putD "numbers" (numD many) ["layout"] [layD ns fs]).2))) _ _
  rw [e1]
  generalize hs2 : (st.set p (some (MO.ins "Graph" (putD "layout" (layD ns fs) [] []).1 (putD "layout" (layD ns fs) [] []).2))).set p (some (MO.ins "Graph" ["layout", "numbers"] [layD ns fs, numD many])) = s2
  have g2 : s2.get p = some (MO.ins "Graph" ["layout", "numbers"] [layD ns fs, numD many]) := by rw [← hs2]; exact set_same
  have k2 : Kp [p] st s2 := by
    rw [← hs2]
    refine (Kp.refl.set (.inl (by simp)) ?_).set (.inl (by simp)) ?_
    · simp [MO.nc, putD, D.ncs, nc_lay]
    · simp [MO.nc, D.ncs, nc_lay, nc_num]
  clear hs2
  have pn2 : p < s2.next := Nat.lt_of_lt_of_le pn k2.nx
  repeat walk_at "m"
  refine ⟨_, lay_names, ?_⟩
  repeat walk_at "m"
  refine ⟨_, _, _, _, _, rfl, rfl, rfl, m0, ?_, ?_⟩
  · unfold dK
    rw [List.length_map]
    exact sz (by omega)
  repeat walk_at "m"
  have ovn : OV (aputs [] (nmC ns nv)) := OV.aputs (fun p hp => by cases hp) (OV_nm ns nv)
  generalize hs3 : s2.new (MO.dct (dK cellD (aputs [] (nmC ns nv)), dV (aputs [] (nmC ns nv))).1 (dK cellD (aputs [] (nmC ns nv)), dV (aputs [] (nmC ns nv))).2) = s3
  have g3 : s3.get p = some (MO.ins "Graph" ["layout", "numbers"] [layD ns fs, numD many]) := by rw [← hs3, new_ne (by omega)]; exact g2
  have d3 : DAt s2.next (aputs [] (nmC ns nv)) s3 := by rw [← hs3]; exact ⟨new_same, aputs_nodup (by simp), ovn⟩
  have k3 : Kp [p] st s3 := by rw [← hs3]; exact k2.new ovn.nc
  have n3 : s2.next < s3.next := by rw [← hs3]; exact Nat.lt_succ_self _
  clear hs3
  refine ⟨p, "Graph", ["layout", "numbers"], _, rfl, g3, by decide +kernel, by decide, ?_⟩
  have e2 : putD "held" (.ref s2.next) ["layout", "numbers"] [layD ns fs, numD many] = (grN, grV ns fs many s2.next) := by
    unfold putD
    rw [if_neg (by decide +kernel)]
    unfold putD
    rw [if_neg (by decide +kernel)]
    rfl
  rw [e2]
  have hne : s2.next ≠ p := by omega
  have g4 : (s3.set p (some (MO.ins "Graph" grN (grV ns fs many s2.next)))).get p = some (MO.ins "Graph" grN (grV ns fs many s2.next)) := set_same
  have d4 : DAt s2.next (aputs [] (nmC ns nv)) (s3.set p (some (MO.ins "Graph" grN (grV ns fs many s2.next)))) := ⟨by rw [set_ne hne]; exact d3.at_, d3.nd, d3.ov⟩
  have k4 : Kp [p] st (s3.set p (some (MO.ins "Graph" grN (grV ns fs many s2.next)))) := k3.set (.inl (by simp)) (by simp [MO.nc, grV, D.ncs, nc_lay, nc_num, D.nc])
  have n4 : s2.next < (s3.set p (some (MO.ins "Graph" grN (grV ns fs many s2.next)))).next := n3
  generalize s3.set p (some (MO.ins "Graph" grN (grV ns fs many s2.next))) = s4 at g4 d4 k4 n4
  have stn : st.next ≤ s2.next := k2.nx
  generalize s2.next = hh at g4 d4 n4 hne stn
  clear d3 g3 k3 n3 e2 g2 k2 pn2 s3 s2 e1
  repeat walk_at "m"
  refine ⟨_, (ov.map fun r => .lst (r.map oD), fun _ => true), rfl, rfl, ?_⟩
  dsimp only
  rw [enD_eq]
  refine wp_forL (fun rem f s => ∃ (k : Nat) (rs : List (List (Option Nat))) (ps : List (Cell × D)), rem = enD k (rs.map fun r => .lst (r.map oD)) ∧ (∃ a b c d, f = [some (.ref p), some (layD ns fs), some (nvD nv), some (ovD ov), some (.int many), a, b, c, d]) ∧ s.get p = some (MO.ins "Graph" grN (grV ns fs many hh)) ∧ Kp [p] st s ∧ DAt hh ps s ∧ hh < s.next ∧ aputs ps (objC fs k rs) = WW ns fs nv ov ∧ ps.length + (objC fs k rs).length ≤ 1000) ?_ ?_ ⟨0, ov, _, rfl, ⟨_, _, _, _, rfl⟩, g4, k4, d4, n4, rfl, by omega⟩
  · intro x rem f s ⟨k, rs, ps, hr, ⟨a, b, c, d, hf⟩, gp, kp, da, hq, hW, hL⟩
    subst hf
    cases rs with
    | nil => cases hr
    | cons r rs =>
      rw [List.map_cons] at hr
      unfold enD at hr
      have hx := (List.cons.inj hr).1
      have hrem := (List.cons.inj hr).2
      subst hx hrem
      refine ⟨rfl, ?_⟩
      unfold objC at hW hL
      rw [aputs_app] at hW
      rw [List.length_append] at hL
      repeat walk_at "m"
      refine ⟨_, lay_fields, ?_⟩
      repeat walk_at "m"
      refine ⟨_, _, _, _, rfl, rfl, rfl, ?_⟩
      dsimp only
      rw [zipT]
      refine (wp_forL (Q := fun c f s => c = .nx ∧ (∃ a b c d, f = [some (.ref p), some (layD ns fs), some (nvD nv), some (ovD ov), some (.int many), a, b, c, d]) ∧ s.get p = some (MO.ins "Graph" grN (grV ns fs many hh)) ∧ Kp [p] st s ∧ DAt hh (aputs ps (rowC fs k r)) s ∧ hh < s.next) (X := X0) (fun rem f s => ∃ (qs : List (Str × Option Nat)) (p2 : List (Cell × D)), rem = qs.map (fun q => D.tup [.str q.1, oD q.2]) ∧ (∃ c d, f = [some (.ref p), some (layD ns fs), some (nvD nv), some (ovD ov), some (.int many), some (.lst (r.map oD)), some (.int k), c, d]) ∧ s.get p = some (MO.ins "Graph" grN (grV ns fs many hh)) ∧ Kp [p] st s ∧ DAt hh p2 s ∧ hh < s.next ∧ aputs p2 (qs.map fun q => (.fld k q.1, oD q.2)) = aputs ps (rowC fs k r) ∧ p2.length + qs.length ≤ 1000) ?_ ?_ ⟨fs.zip r, ps, rfl, ⟨_, _, rfl⟩, gp, kp, da, hq, rfl, by unfold rowC at hL; rw [List.length_map] at hL; omega⟩).mono ?_ fun _ _ _ z => z.elim
      · intro x rem f s ⟨qs, p2, hr, ⟨c, d, hf⟩, gp, kp, da, hq, hW, hL⟩
        subst hf
        cases qs with
        | nil => cases hr
        | cons q qs =>
          rw [List.map_cons] at hr hW
          have hx := (List.cons.inj hr).1
          have hrem := (List.cons.inj hr).2
          subst hx hrem
          rw [List.length_cons] at hL
          refine ⟨rfl, ?_⟩
          repeat walk_at "m"
          refine ⟨.ref hh, attr_ref gp (by decide +kernel) ((look_tl (by decide +kernel)).trans ((look_tl (by decide +kernel)).trans look_hd)), ?_⟩
          repeat walk_at "m"
          refine ⟨sz (by simp), ?_⟩
          obtain ⟨e1, da2⟩ := da.put (by omega) (.fld k q.1) q.2
          refine wp_setD da.at_ e1 ?_
          refine ⟨qs, _, rfl, ⟨_, _, rfl⟩, (set_ne hne.symm).trans gp, kp.set (.inr stn) da2.ov.nc, da2, hq, hW, by have := aput_len (ps := p2) (a := Cell.fld k q.1) (v := oD q.2); omega⟩
      · intro f s ⟨qs, p2, hr, ⟨c, d, hf⟩, gp, kp, da, hq, hW, hL⟩
        have hqs : qs = [] := List.map_eq_nil_iff.mp hr.symm
        subst hqs
        refine ⟨rfl, rfl, ⟨_, _, _, _, hf⟩, gp, kp, ?_, hq⟩
        have e : p2 = aputs ps (rowC fs k r) := hW
        rw [← e]
        exact da
      · intro c f s ⟨hc, hf, gp, kp, da, hq⟩
        subst hc
        refine ⟨k + 1, rs, _, rfl, hf, gp, kp, da, hq, hW, ?_⟩
        have := aputs_len (ps := ps) (qs := rowC fs k r)
        omega
  · intro f s ⟨k, rs, ps, hr, ⟨a, b, c, d, hf⟩, gp, kp, da, hq, hW, hL⟩
    cases rs with
    | cons r rs => cases hr
    | nil =>
      refine ⟨rfl, ?_⟩
      have e : ps = WW ns fs nv ov := hW
      exact h hh s stn hq gp (by rw [← e]; exact da) kp
def gD (ns fs : List Str) (many hh : Nat) : D := .ins "Graph" grN (grV ns fs many hh)
theorem g_layout {st : Store} {ns fs : List Str} {many hh : Nat} : attrD "layout" a_layout st (gD ns fs many hh) = some (layD ns fs) := attr_ins (by decide +kernel) look_hd
theorem g_numbers {st : Store} {ns fs : List Str} {many hh : Nat} : attrD "numbers" a_numbers st (gD ns fs many hh) = some (numD many) := attr_ins (by decide +kernel) ((look_tl (by decide +kernel)).trans look_hd)
theorem g_held {st : Store} {ns fs : List Str} {many hh : Nat} : attrD "held" a_held st (gD ns fs many hh) = some (.ref hh) := attr_ins (by decide +kernel) ((look_tl (by decide +kernel)).trans ((look_tl (by decide +kernel)).trans look_hd))
def cellsL (ns fs : List Str) (many : Nat) : List Cell := ns.map Cell.nam ++ (List.range many).flatMap fun k => fs.map (Cell.fld k)
theorem ncs_cells (l : List Cell) : D.ncs (l.map cellD) = true := ncs_map _ (fun c => by cases c <;> simp [cellD, D.nc, D.ncs]) l
theorem cells_ok {st : Store} {ns fs : List Str} {many hh : Nat} (F : Frm ns fs) (hm : many ≤ 12) {Q : D → Store → Prop} {Y : Ex → Store → Prop}
    (h : ∀ p st', st.next ≤ p → p < st'.next → st'.get p = some (.lst ((cellsL ns fs many).map cellD)) → Kp [] st st' → Q (.ref p) st') : wpF (f_Graph_cells [gD ns fs many hh] st) Q Y := by
  unfold f_Graph_cells
  refine wpF_fn rfl ?_
  show wp b_Graph_cells [some (gD ns fs many hh), none, none, none] st _ _
  unfold b_Graph_cells
  have h2 := F.n3
  have h4 := F.f2
  repeat walk_at "m"
  refine ⟨_, g_layout, ?_⟩
  refine ⟨_, lay_names, ?_⟩
  repeat walk_at "m"
  refine ⟨_, ns.map D.str, rfl, rfl, ?_⟩
  iterate 2 walk_at "m"
  have e0 : ns.map D.str = (ns.map Cell.nam).map cellD := by rw [List.map_map]; rfl
  generalize hs : st.new (MO.lst (ns.map D.str)) = s1
  have k1 : Kp [] st s1 := by rw [← hs]; exact Kp.refl.new (by rw [MO.nc]; exact ncs_str _)
  have g1 : s1.get st.next = some (.lst ((ns.map Cell.nam).map cellD)) := by rw [← hs, new_same, e0]
  have q1 : st.next < s1.next := by rw [← hs]; exact Nat.lt_succ_self _
  clear hs
  refine seq_nx (J := fun f s => (∃ a b, f = [some (gD ns fs many hh), some (.ref st.next), a, b]) ∧ Kp [] st s ∧ st.next < s.next ∧ s.get st.next = some (.lst ((cellsL ns fs many).map cellD))) ?_ ?_
  · repeat walk_at "m"
    refine ⟨_, g_numbers, ?_⟩
    refine ⟨((List.range many).map fun (k : Nat) => D.int k, fun _ => true), rfl, ?_⟩
    dsimp only
    refine wp_forL (fun rem f s => ∃ pre post, pre ++ post = List.range many ∧ rem = post.map (fun (k : Nat) => D.int k) ∧ (∃ a b, f = [some (gD ns fs many hh), some (.ref st.next), a, b]) ∧ Kp [] st s ∧ st.next < s.next ∧ s.get st.next = some (.lst ((ns.map Cell.nam ++ pre.flatMap fun k => fs.map (Cell.fld k)).map cellD))) ?_ ?_ ⟨[], List.range many, rfl, rfl, ⟨_, _, rfl⟩, k1, q1, by simpa using g1⟩
    · intro x rem f s ⟨pre, post, hp, hr, ⟨a, b, hf⟩, kp, hq, hg⟩
      subst hf
      cases post with
      | nil => cases hr
      | cons k post =>
        rw [List.map_cons] at hr
        have hx := (List.cons.inj hr).1
        have hrem := (List.cons.inj hr).2
        subst hx hrem
        refine ⟨rfl, ?_⟩
        repeat walk_at "m"
        refine ⟨tag_refL hg, ?_⟩
        repeat walk_at "m"
        refine ⟨_, g_layout, ?_⟩
        refine ⟨_, lay_fields, ?_⟩
        refine ⟨(fs.map D.str, fun _ => true), rfl, ?_⟩
        refine wp_compP (fun d => some (.tup [.int k, d])) (by rw [List.length_map]; exact sz (by omega)) ?_ ?_
        · intro d hd
          repeat walk_at "m"
          exact ⟨sz (by simp), rfl, rfl⟩
        have e1 : (fs.map D.str).filterMap (fun d => some (D.tup [.int k, d])) = (fs.map (Cell.fld k)).map cellD := by
          rw [List.filterMap_map, List.map_map, ← List.filterMap_eq_map]
          rfl
        rw [e1]
        repeat walk_at "m"
        have lp : pre.length + (k :: post).length = many := by
          have := congrArg List.length hp
          rw [List.length_append, List.length_range] at this
          exact this
        have fl : ∀ l : List Nat, (l.flatMap fun k => fs.map (Cell.fld k)).length = l.length * fs.length := fun l => by
          induction l with
          | nil => simp
          | cons a l ih => rw [List.flatMap_cons, List.length_append, ih, List.length_map, List.length_cons, Nat.succ_mul]; omega
        have le : pre.length * fs.length ≤ 12 * 2 := Nat.mul_le_mul (by omega) h4
        refine wp_extend hg rfl ?_ ?_
        · rw [List.length_map, List.length_append, List.length_map, fl, List.length_map, List.length_map]
          exact sz (by omega)
        refine ⟨pre ++ [k], post, by simp [hp], rfl, ⟨_, _, rfl⟩, kp.set (.inr (Nat.le_refl _)) ?_, hq, ?_⟩
        · rw [← List.map_append, MO.nc]; exact ncs_cells _
        · rw [set_same, ← List.map_append, List.flatMap_append, List.append_assoc]
          simp
    · intro f s ⟨pre, post, hp, hr, hf, kp, hq, hg⟩
      have hqs : post = [] := List.map_eq_nil_iff.mp hr.symm
      subst hqs
      rw [List.append_nil] at hp
      subst hp
      exact ⟨rfl, rfl, hf, kp, hq, hg⟩
  intro f s ⟨⟨a, b, hf⟩, kp, hq, hg⟩
  subst hf
  repeat walk_at "m"
  exact h _ s (Nat.le_refl _) hq hg kp
/-! ### what a graph's cells hold -/
/-- the value of a cell -/
def GV (ps : List (Cell × D)) (c : Cell) : D := (ps.lookup c).getD .non
/-- the valid cells are there -/
def Has (ns fs : List Str) (many : Nat) (ps : List (Cell × D)) : Prop := ∀ c ∈ cellsL ns fs many, ∃ o : Option Nat, ps.lookup c = some (oD o) ∧ ∀ i, o = some i → i < many
theorem contents_ok {st : Store} {ns fs : List Str} {many hh : Nat} {ps : List (Cell × D)} (F : Frm ns fs) (hm : many ≤ 12) (da : DAt hh ps st) (hl : ps.length ≤ 1000000) (hq : hh < st.next) (hs : Has ns fs many ps) {Q : D → Store → Prop} {Y : Ex → Store → Prop}
    (h : ∀ st', Kp [] st st' → Q (.lst ((cellsL ns fs many).map (GV ps))) st') : wpF (f_Graph_contents [gD ns fs many hh] st) Q Y := by
  unfold f_Graph_contents
  refine wpF_fn rfl ?_
  show wp b_Graph_contents [some (gD ns fs many hh), none] st _ _
  unfold b_Graph_contents
  repeat walk_at "m"
  refine ⟨f_Graph_cells, rfl, ?_⟩
  repeat walk_at "m"
  refine cells_ok F hm fun p s1 p1 p2 g1 k1 => ?_
  obtain ⟨C, c1, c2⟩ := seqR_ref g1
  refine ⟨_, c1, ?_⟩
  have da1 : s1.get hh = _ := (k1.old hh hq (by simp)).trans da.at_
  refine wp_compL (fun rem acc s => s = s1 ∧ ∃ pre post, pre ++ post = cellsL ns fs many ∧ rem = post.map cellD ∧ acc = pre.map (GV ps)) ?_ ?_ ⟨rfl, [], _, rfl, rfl, rfl⟩
  · intro d rem acc s ⟨hs', pre, post, hp, hr, ha⟩
    subst hs'
    cases post with
    | nil => cases hr
    | cons c post =>
      rw [List.map_cons] at hr
      have hx := (List.cons.inj hr).1
      have hrem := (List.cons.inj hr).2
      subst hx hrem
      refine ⟨c2 s g1, ?_⟩
      repeat walk_at "m"
      refine ⟨_, g_held, ?_⟩
      repeat walk_at "m"
      have e : dgetD (dK cellD ps) (dV ps) (cellD c) = some (GV ps c) := by
        rw [embCell.get da.nd (sz (by omega))]
        obtain ⟨o, ho, _⟩ := hs c (by rw [← hp]; simp)
        unfold GV
        rw [ho]
        rfl
      refine wp_ixD da1 e ?_
      have lp : pre.length + (post.length + 1) = (cellsL ns fs many).length := by rw [← hp, List.length_append, List.length_cons]
      have cl : (cellsL ns fs many).length ≤ 100 := by
        unfold cellsL
        have fl : ∀ l : List Nat, (l.flatMap fun k => fs.map (Cell.fld k)).length = l.length * fs.length := fun l => by
          induction l with
          | nil => simp
          | cons a l ih => rw [List.flatMap_cons, List.length_append, ih, List.length_map, List.length_cons, Nat.succ_mul]; omega
        have h2 := F.n3
        have le : many * fs.length ≤ 12 * 2 := Nat.mul_le_mul hm F.f2
        rw [List.length_append, List.length_map, fl, List.length_range]
        omega
      refine ⟨?_, rfl, pre ++ [c], post, by simp [hp], rfl, by rw [ha]; simp⟩
      rw [ha, List.length_map]
      have := sz (n := pre.length + 1) (by omega)
      omega
  · intro acc s ⟨hs', pre, post, hp, hr, ha⟩
    subst hs'
    have hqs : post = [] := List.map_eq_nil_iff.mp hr.symm
    subst hqs
    rw [List.append_nil] at hp
    subst hp ha
    refine ⟨c2 s g1, ?_⟩
    repeat walk_at "m"
    exact h s k1
theorem free_nm {x : Str} (h : Nm x) : freeOf 46 x := fun z => by have := h.az 46 z; omega
theorem split_dot {sh : Bool} {l : List Str} {fr : Fr} {st : Store} {X : Ex → Fr → Store → Prop} {Q : D → Fr → Store → Prop} (hl : l ≠ []) (hf : ∀ x ∈ l, freeOf 46 x) (hz : (pathS l).length ≤ 1000) (h : wp (newD sh (.lst (l.map D.str))) fr st Q X) : wp (mtSplit sh (.str (pathS l)) [.str "."]) fr st Q X := by
  rw [dotS_eq]
  exact wp_split hl hf (by have : (pathS l).length + 2 ≤ sizeLine := sz (by omega); exact this) h
theorem star_two (n : Str) (r : List Str) : starD 1 2 ((n :: r).map D.str) = [.str n, .lst (r.map D.str)] := by
  unfold starD
  have e : (((n :: r).map D.str).drop 1) = r.map D.str := rfl
  rw [e]
  have e2 : ((n :: r).map D.str).length + 1 - 2 = (r.map D.str).length := by simp
  rw [e2, List.take_length, List.drop_length]
  rfl
/-- name, *fields = path.split(".") -/
theorem gstar2 {m1 m2 : D → M Unit} {n : Str} {r : List Str} {fr : Fr} {st : Store} {X : Ex → Fr → Store → Prop} {Q : Unit → Fr → Store → Prop} (h : wp (gAll [m1, m2] [.str n, .lst (r.map D.str)]) fr st Q X) : wp (gStar 1 [m1, m2] (.lst ((n :: r).map D.str))) fr st Q X := by
  refine wp_gstar rfl (by simp) (by simp) ?_
  show wp (gAll [m1, m2] (starD 1 2 ((n :: r).map D.str))) fr st Q X
  rw [star_two]
  exact h
/-- whether these words are a path -/
def inLay (ns fs : List Str) : List Str → Bool
  | [] => false
  | n :: r => decide (n ∈ ns) && (decide (r.length ≤ 2) && r.all fun f => decide (f ∈ fs))
theorem inLay_cons {ns fs : List Str} {n : Str} {r : List Str} : inLay ns fs (n :: r) = (decide (n ∈ ns) && (decide (r.length ≤ 2) && r.all fun f => decide (f ∈ fs))) := rfl
theorem bls_map (g : Str → Bool) : ∀ l : List Str, blsD ((l.map D.str).filterMap fun d => match d with | .str x => some (D.bl (g x)) | _ => none) = some (l.map g)
  | [] => rfl
  | a :: l => by
    rw [List.map_cons, List.filterMap_cons]
    show (blsD ((l.map D.str).filterMap fun d => match d with | .str x => some (D.bl (g x)) | _ => none)).map (g a :: ·) = _
    rw [bls_map g l]
    rfl
theorem contains_ok {st : Store} {ns fs : List Str} {n : Str} {r : List Str} (hf : ∀ x ∈ n :: r, freeOf 46 x) (hz : (pathS (n :: r)).length ≤ 1000) {Q : D → Store → Prop} {Y : Ex → Store → Prop} (h : Q (.bl (inLay ns fs (n :: r))) st) : wpF (f_Layout___contains__ [layD ns fs, .str (pathS (n :: r))] st) Q Y := by
  unfold f_Layout___contains__
  refine wpF_fn rfl ?_
  show wp b_Layout___contains__ [some (layD ns fs), some (.str (pathS (n :: r))), none, none, none] st _ _
  unfold b_Layout___contains__
  repeat walk_at "m"
  refine ⟨.bl true, isi_one (t := .ty "str") (u := .ty "str") rfl rfl (by decide +kernel), ?_⟩
  refine ⟨_, rfl, ?_⟩
  repeat walk_at "m"
  refine ⟨rfl, ?_⟩
  repeat walk_at "m"
  refine split_dot (by simp) hf hz ?_
  repeat walk_at "m"
  refine gstar2 ?_
  repeat walk_at "m"
  refine ⟨_, lay_names, ?_⟩
  refine wp_nin0 (in_strs (l := ns) rfl (fun _ z => by cases z)) ?_
  have hrl : r.length ≤ 1000000 := by
    have h1 : ∀ l : List Str, l.length ≤ (cs (pathS l)).length + 1 := fun l => by
      induction l with
      | nil => simp
      | cons a l ih =>
        cases l with
        | nil => simp
        | cons b l =>
          unfold pathS at ih ⊢
          rw [cs_join_cons _ a (b :: l) (by simp)]
          simp only [List.length_append, List.length_cons] at ih ⊢
          have : (cs dotS).length = 1 := rfl
          omega
    have := h1 (n :: r)
    rw [← len_cs, List.length_cons] at this
    omega
  by_cases hn : n ∈ ns
  · rw [decide_eq_true hn]
    refine ⟨_, rfl, ?_⟩
    repeat walk_at "m"
    refine ⟨_, rfl, ?_⟩
    rw [List.length_map, show g_MOST_DEEP = .int 2 from rfl]
    repeat walk_at "m"
    refine ⟨_, rfl, ?_⟩
    by_cases hl : r.length ≤ 2
    · rw [decide_eq_false (by omega)]
      repeat walk_at "m"
      refine ⟨(r.map D.str, fun _ => true), rfl, ?_⟩
      refine wp_compP (fun d => match d with | .str x => some (.bl (decide (x ∈ fs))) | _ => none) (by rw [List.length_map]; exact sz hrl) ?_ ?_
      · intro d hd
        obtain ⟨x, hx, rfl⟩ := List.mem_map.mp hd
        repeat walk_at "m"
        refine ⟨_, lay_fields, ?_⟩
        exact wp_in0 (in_strs (l := fs) rfl (fun _ z => by cases z)) ⟨rfl, rfl⟩
      · repeat walk_at "m"
        have e : (r.map fun x => decide (x ∈ fs)).all id = r.all fun f => decide (f ∈ fs) := by
          rw [List.all_map]
          rfl
        refine ⟨.bl (inLay ns fs (n :: r)), ?_, h⟩
        show (blsD _).map _ = _
        rw [bls_map]
        show some (D.bl _) = _
        rw [e, inLay_cons, decide_eq_true hn, decide_eq_true hl]
        rfl
    · rw [decide_eq_true (by omega)]
      repeat walk_at "m"
      have e : inLay ns fs (n :: r) = false := by
        rw [inLay_cons, decide_eq_false hl]
        simp
      rw [e] at h
      exact h
  · rw [decide_eq_false hn]
    refine ⟨_, rfl, ?_⟩
    repeat walk_at "m"
    have e : inLay ns fs (n :: r) = false := by
      rw [inLay_cons, decide_eq_false hn]
      rfl
    rw [e] at h
    exact h
theorem contains_not {st : Store} {ns fs : List Str} {v : D} {t : Tg} (e : tagD st v = some t) (hi : isi t (.ty "str") = some false) {Q : D → Store → Prop} {Y : Ex → Store → Prop} (h : Q (.bl false) st) : wpF (f_Layout___contains__ [layD ns fs, v] st) Q Y := by
  unfold f_Layout___contains__
  refine wpF_fn rfl ?_
  show wp b_Layout___contains__ [some (layD ns fs), some v, none, none, none] st _ _
  unfold b_Layout___contains__
  repeat walk_at "m"
  refine ⟨.bl false, isi_one (u := .ty "str") e rfl hi, ?_⟩
  refine ⟨_, rfl, ?_⟩
  repeat walk_at "m"
  exact h
/-- is_value(layout, v) -/
def IsV (ns fs : List Str) (v : D) (b : Bool) : Prop := ∀ (st : Store) (Q : D → Store → Prop) (Y : Ex → Store → Prop), Q (.bl b) st → wpF (f_is_value [layD ns fs, v] st) Q Y
theorem isV_non {ns fs : List Str} : IsV ns fs .non true := fun st Q Y h => by
  unfold f_is_value
  refine wpF_fn rfl ?_
  show wp b_is_value [some (layD ns fs), some .non] st _ _
  unfold b_is_value
  repeat walk_at "m"
  exact ⟨_, rfl, h⟩
theorem isV_of {ns fs : List Str} {v : D} {b : Bool} (hv : v.isNon = false) (hc : ∀ (st : Store) (Q : D → Store → Prop) (Y : Ex → Store → Prop), Q (.bl b) st → wpF (f_Layout___contains__ [layD ns fs, v] st) Q Y) : IsV ns fs v b := fun st Q Y h => by
  unfold f_is_value
  refine wpF_fn rfl ?_
  show wp b_is_value [some (layD ns fs), some v] st _ _
  unfold b_is_value
  repeat walk_at "m"
  rw [hv]
  refine ⟨_, rfl, ?_⟩
  repeat walk_at "m"
  refine wp_inM (C := "Layout") (m := f_Layout___contains__) rfl rfl ?_
  exact hc st _ _ ⟨b, rfl, by cases b <;> exact h⟩
theorem isV_path {ns fs : List Str} {n : Str} {r : List Str} (hf : ∀ x ∈ n :: r, freeOf 46 x) (hz : (pathS (n :: r)).length ≤ 1000) : IsV ns fs (.str (pathS (n :: r))) (inLay ns fs (n :: r)) := isV_of rfl fun st Q Y h => contains_ok hf hz h
theorem isV_not {ns fs : List Str} {v : D} {t : Tg} (hv : v.isNon = false) (e : ∀ st, tagD st v = some t) (hi : isi t (.ty "str") = some false) : IsV ns fs v false := isV_of hv fun st Q Y h => contains_not (e st) hi h
theorem inLay_pth {ns fs : List Str} {m : Nat} {l : List Str} (p : Pth ns fs m l) (hm : m ≤ 2) : inLay ns fs l = true := by
  obtain ⟨n, r, rfl, h1, h2, h3⟩ := p
  rw [inLay_cons, decide_eq_true h1, decide_eq_true (by omega : r.length ≤ 2)]
  simp only [Bool.true_and, List.all_eq_true, decide_eq_true_eq]
  exact h2
theorem free_pth {ns fs : List Str} {m : Nat} {l : List Str} (F : Frm ns fs) (p : Pth ns fs m l) : ∀ x ∈ l, freeOf 46 x := by
  obtain ⟨n, r, rfl, h1, h2, h3⟩ := p
  intro x hx
  rcases List.mem_cons.mp hx with rfl | hx
  · exact free_nm (F.nm _ h1)
  · exact free_nm (F.fm _ (h2 x hx))
theorem isV_vD {ns fs : List Str} {m : Nat} {o : Option (List Str)} (F : Frm ns fs) (h : VOk ns fs m o) (hm : m ≤ 2) : IsV ns fs (vD o) true := by
  cases o with
  | none => exact isV_non
  | some l =>
    have p := h l rfl
    have q := inLay_pth p hm
    have q2 := free_pth F p
    have q3 := p.len F (by omega)
    obtain ⟨n, r, rfl, _⟩ := p
    have := isV_path (ns := ns) (fs := fs) q2 (by omega)
    rw [q] at this
    exact this
/-! ### facts -/
def factN : List Str := ["one", "word", "other"]
def fcD (a w b : D) : D := .ins "Fact" factN [a, w, b]
theorem fc_one {st : Store} {a w b : D} : attrD "one" a_one st (fcD a w b) = some a := attr_ins (by decide +kernel) look_hd
theorem fc_word {st : Store} {a w b : D} : attrD "word" a_word st (fcD a w b) = some w := attr_ins (by decide +kernel) ((look_tl (by decide +kernel)).trans look_hd)
theorem fc_other {st : Store} {a w b : D} : attrD "other" a_other st (fcD a w b) = some b := attr_ins (by decide +kernel) ((look_tl (by decide +kernel)).trans ((look_tl (by decide +kernel)).trans look_hd))
theorem fact_init_ok {st : Store} {p : Nat} {a w b : D} (hp : st.get p = some (.ins "Fact" [] [])) {Q : D → Store → Prop} {Y : Ex → Store → Prop}
    (na : a.nc = true) (nw : w.nc = true) (nb : b.nc = true) (h : ∀ st', st'.get p = some (.ins "Fact" factN [a, w, b]) → Kp [p] st st' → Q .non st') : wpF (f_Fact___init__ [.ref p, a, w, b] st) Q Y := by
  unfold f_Fact___init__
  refine wpF_fn rfl ?_
  show wp b_Fact___init__ [some (.ref p), some a, some w, some b] st _ _
  unfold b_Fact___init__
  repeat walk_at "m"
  refine ⟨p, "Fact", [], [], rfl, hp, by decide +kernel, by decide, ?_⟩
  repeat walk_at "m"
  refine ⟨p, "Fact", ["one"], [a], rfl, set_same, by decide +kernel, by decide, ?_⟩
  have e1 : putD "word" w ["one"] [a] = ((["one", "word"] : List Str), [a, w]) := by
    unfold putD
    rw [if_neg (by decide +kernel)]
    rfl
  rw [e1]
  repeat walk_at "m"
  refine ⟨p, "Fact", ["one", "word"], [a, w], rfl, set_same, by decide +kernel, by decide, ?_⟩
  have e2 : putD "other" b ["one", "word"] [a, w] = (factN, [a, w, b]) := by
    unfold putD
    rw [if_neg (by decide +kernel)]
    unfold putD
    rw [if_neg (by decide +kernel)]
    rfl
  rw [e2]
  refine h _ set_same (((Kp.refl.set (.inl (by simp)) ?_).set (.inl (by simp)) ?_).set (.inl (by simp)) ?_)
  · simp [MO.nc, putD, D.ncs, na]
  · simp [MO.nc, D.ncs, na, nw]
  · simp [MO.nc, D.ncs, na, nw, nb]
/-- Fact(a, w, b) -/
theorem fact_make {st : Store} {a w b : D} (na : a.nc = true) (nw : w.nc = true) (nb : b.nc = true) {Q : D → Store → Prop} {Y : Ex → Store → Prop} (h : ∀ st', Kp [] st st' → Q (fcD a w b) st') :
    mkF "Fact" f_Fact___init__ [a, w, b] st Q Y := by
  unfold mkF
  refine fact_init_ok new_same na nw nb fun s g k => ?_
  refine ⟨rfl, "Fact", factN, [a, w, b], g, h _ ⟨?_, fun n hn _ => ?_, fun z => nc_setN (k.nc (nc_new z (by simp [MO.nc, D.ncs])))⟩⟩
  · have := k.nx
    show st.next ≤ s.next
    have e : (st.new (.ins "Fact" [] [])).next = st.next + 1 := rfl
    omega
  · rw [set_ne (by omega), k.old n (by show n < st.next + 1; omega) (by simp; omega), new_ne (by omega)]
theorem need_values_ok {st : Store} {ns fs : List Str} {a w b : D} (va : IsV ns fs a true) (vb : IsV ns fs b true) {Q : D → Store → Prop} {Y : Ex → Store → Prop} (h : Q .non st) : wpF (f_need_values [layD ns fs, .lst [fcD a w b]] st) Q Y := by
  unfold f_need_values
  refine wpF_fn rfl ?_
  show wp b_need_values [some (layD ns fs), some (.lst [fcD a w b]), none, none] st _ _
  unfold b_need_values
  repeat walk_at "m"
  refine ⟨([fcD a w b], fun _ => true), rfl, ?_⟩
  refine wp_for1 rfl ?_
  repeat walk_at "m"
  refine ⟨_, fc_one, ?_⟩
  repeat walk_at "m"
  refine ⟨_, fc_other, ?_⟩
  repeat walk_at "m"
  refine ⟨sz (by simp), ?_⟩
  refine ⟨([a, b], fun _ => true), rfl, ?_⟩
  refine wp_for1 rfl ?_
  repeat walk_at "m"
  refine va _ _ _ ⟨_, rfl, ?_⟩
  repeat walk_at "m"
  refine wp_for1 rfl ?_
  repeat walk_at "m"
  refine vb _ _ _ ⟨_, rfl, ?_⟩
  repeat walk_at "m"
  refine wp_for0 rfl ?_
  exact wp_for0 rfl h
def bpX (v : D) : Ex := ⟨"BadPath", ["path"], [v]⟩
theorem need_values_a {st : Store} {ns fs : List Str} {a w b : D} (va : IsV ns fs a false) {Q : D → Store → Prop} {Y : Ex → Store → Prop} (h : Y (bpX a) st) : wpF (f_need_values [layD ns fs, .lst [fcD a w b]] st) Q Y := by
  unfold f_need_values
  refine wpF_fn rfl ?_
  show wp b_need_values [some (layD ns fs), some (.lst [fcD a w b]), none, none] st _ _
  unfold b_need_values
  repeat walk_at "m"
  refine ⟨([fcD a w b], fun _ => true), rfl, ?_⟩
  refine wp_for1 rfl ?_
  repeat walk_at "m"
  refine ⟨_, fc_one, ?_⟩
  repeat walk_at "m"
  refine ⟨_, fc_other, ?_⟩
  repeat walk_at "m"
  refine ⟨sz (by simp), ?_⟩
  refine ⟨([a, b], fun _ => true), rfl, ?_⟩
  refine wp_for1 rfl ?_
  repeat walk_at "m"
  refine va _ _ _ ⟨_, rfl, ?_⟩
  repeat walk_at "m"
  exact ⟨rfl, by simp, h⟩
theorem need_values_b {st : Store} {ns fs : List Str} {a w b : D} (va : IsV ns fs a true) (vb : IsV ns fs b false) {Q : D → Store → Prop} {Y : Ex → Store → Prop} (h : Y (bpX b) st) : wpF (f_need_values [layD ns fs, .lst [fcD a w b]] st) Q Y := by
  unfold f_need_values
  refine wpF_fn rfl ?_
  show wp b_need_values [some (layD ns fs), some (.lst [fcD a w b]), none, none] st _ _
  unfold b_need_values
  repeat walk_at "m"
  refine ⟨([fcD a w b], fun _ => true), rfl, ?_⟩
  refine wp_for1 rfl ?_
  repeat walk_at "m"
  refine ⟨_, fc_one, ?_⟩
  repeat walk_at "m"
  refine ⟨_, fc_other, ?_⟩
  repeat walk_at "m"
  refine ⟨sz (by simp), ?_⟩
  refine ⟨([a, b], fun _ => true), rfl, ?_⟩
  refine wp_for1 rfl ?_
  repeat walk_at "m"
  refine va _ _ _ ⟨_, rfl, ?_⟩
  repeat walk_at "m"
  refine wp_for1 rfl ?_
  repeat walk_at "m"
  refine vb _ _ _ ⟨_, rfl, ?_⟩
  repeat walk_at "m"
  exact ⟨rfl, by simp, h⟩
/-- what a cell holds, as an object's number -/
def lo (ps : List (Cell × D)) (c : Cell) : Option Nat := match ps.lookup c with
  | some (.int i) => some i.toNat
  | _ => none
theorem Has.lo {ns fs : List Str} {many : Nat} {ps : List (Cell × D)} (h : Has ns fs many ps) {c : Cell} (hc : c ∈ cellsL ns fs many) : ps.lookup c = some (oD (Q54.lo ps c)) ∧ ∀ i, Q54.lo ps c = some i → i < many := by
  obtain ⟨o, e, b⟩ := h c hc
  have : Q54.lo ps c = o := by
    unfold Q54.lo
    rw [e]
    cases o with
    | none => rfl
    | some i => simp [oD]
  rw [this]
  exact ⟨e, b⟩
theorem mem_nam {ns fs : List Str} {many : Nat} {n : Str} (h : n ∈ ns) : Cell.nam n ∈ cellsL ns fs many := List.mem_append_left _ (List.mem_map_of_mem h)
theorem mem_fld {ns fs : List Str} {many k : Nat} {f : Str} (h : f ∈ fs) (hk : k < many) : Cell.fld k f ∈ cellsL ns fs many :=
  List.mem_append_right _ (List.mem_flatMap.mpr ⟨k, List.mem_range.mpr hk, List.mem_map_of_mem h⟩)
/-- a graph at a store -/
structure GAt (ns fs : List Str) (many hh : Nat) (ps : List (Cell × D)) (s : Store) : Prop extends DAt hh ps s where
  F : Frm ns fs
  m12 : many ≤ 12
  pl : ps.length ≤ 1000000
  hq : hh < s.next
  has : Has ns fs many ps
theorem GAt.keep {ns fs : List Str} {many hh : Nat} {ps : List (Cell × D)} {s s' : Store} {S : List Nat} (h : GAt ns fs many hh ps s) (k : Kp S s s') (hS : hh ∉ S) : GAt ns fs many hh ps s' :=
  ⟨⟨(k.old hh h.hq hS).trans h.at_, h.nd, h.ov⟩, h.F, h.m12, h.pl, Nat.lt_of_lt_of_le h.hq k.nx, h.has⟩
theorem GAt.get {ns fs : List Str} {many hh : Nat} {ps : List (Cell × D)} {s : Store} (h : GAt ns fs many hh ps s) {c : Cell} (hc : c ∈ cellsL ns fs many) : dgetD (dK cellD ps) (dV ps) (cellD c) = some (oD (lo ps c)) := by
  rw [embCell.get h.nd (sz h.pl)]
  exact (h.has.lo hc).1
theorem look_ok {ns fs : List Str} {many hh : Nat} {ps : List (Cell × D)} {s : Store} (h : GAt ns fs many hh ps s) {c : Cell} (hc : c ∈ cellsL ns fs many) {Q : D → Store → Prop} {Y : Ex → Store → Prop} (q : Q (oD (lo ps c)) s) : wpF (f_Graph_look [gD ns fs many hh, cellD c] s) Q Y := by
  unfold f_Graph_look
  refine wpF_fn rfl ?_
  show wp b_Graph_look [some (gD ns fs many hh), some (cellD c)] s _ _
  unfold b_Graph_look
  repeat walk_at "m"
  refine ⟨_, g_held, ?_⟩
  repeat walk_at "m"
  exact wp_ixD h.at_ (h.get hc) q
/-- reading on from a value; none: a fault -/
def rd (ps : List (Cell × D)) : Option Nat → List Str → Option (Option Nat)
  | cur, [] => some cur
  | none, _ :: _ => none
  | some k, f :: r => rd ps (lo ps (.fld k f)) r
def rdV (ps : List (Cell × D)) : Option (List Str) → Option (Option Nat)
  | none => some none
  | some [] => none
  | some (n :: r) => rd ps (lo ps (.nam n)) r
theorem oD_isNon (o : Option Nat) : (oD o).isNon = o.isNone := by cases o <;> rfl
/-- the end of a reading -/
def rdQ (Q : D → Store → Prop) (Y : Ex → Store → Prop) (s : Store) (o : Option (Option Nat)) : Prop := match o with
  | some x => Q (oD x) s
  | none => ∀ x, Y ⟨"NoObject", ["path"], [.str x]⟩ s
theorem dot_len : ("." : Str).length = 1 := by decide +kernel
theorem value_at_ok {ns fs : List Str} {many hh : Nat} {ps : List (Cell × D)} {s : Store} (g : GAt ns fs many hh ps s) {m : Nat} {l : List Str} (p : Pth ns fs m l) (hm : m ≤ 2) {Q : D → Store → Prop} {Y : Ex → Store → Prop} (h : rdQ Q Y s (rdV ps (some l))) : wpF (f_value_at [gD ns fs many hh, .str (pathS l)] s) Q Y := by
  unfold f_value_at
  refine wpF_fn rfl ?_
  show wp b_value_at [some (gD ns fs many hh), some (.str (pathS l)), none, none, none, none, none] s _ _
  unfold b_value_at
  have fp := free_pth g.F p
  have pl := p.len g.F (by omega)
  obtain ⟨n, r, rfl, h1, h2, h3⟩ := p
  repeat walk_at "m"
  refine ⟨rfl, ?_⟩
  repeat walk_at "m"
  refine split_dot (by simp) fp (by omega) ?_
  repeat walk_at "m"
  refine gstar2 ?_
  repeat walk_at "m"
  refine ⟨f_Graph_look, rfl, ?_⟩
  repeat walk_at "m"
  refine look_ok g (c := .nam n) (mem_nam h1) ?_
  repeat walk_at "m"
  refine ⟨(r.map D.str, fun _ => true), rfl, ?_⟩
  have hb0 := (g.has.lo (mem_nam (fs := fs) h1)).2
  have h : rdQ Q Y s (rd ps (lo ps (.nam n)) r) := h
  have n6 := (g.F.nm n h1).hi
  refine wp_forL (fun rem f s' => s' = s ∧ ∃ cur r' x, rem = r'.map D.str ∧ (∀ y ∈ r', y ∈ fs) ∧ (∀ i, cur = some i → i < many) ∧ rdQ Q Y s (rd ps cur r') ∧ x.length + 10 * r'.length ≤ 100 ∧ ∃ a b c, f = [some (gD ns fs many hh), a, b, c, some (oD cur), some (.str x), f.getD 6 none]) ?_ ?_ ⟨rfl, lo ps (.nam n), r, n, rfl, h2, hb0, h, by rw [len_cs]; omega, _, _, _, rfl⟩
  · intro y rem f s' ⟨hs, cur, r', x, hr, hf, hb, hQ, hx, a, b, c, hfr⟩
    subst hs
    generalize f.getD 6 none = z at hfr
    subst hfr
    cases r' with
    | nil => cases hr
    | cons fl r' =>
      rw [List.map_cons] at hr
      have hy := (List.cons.inj hr).1
      have hrem := (List.cons.inj hr).2
      subst hy hrem
      refine ⟨rfl, ?_⟩
      have hfl : fl ∈ fs := hf fl (by simp)
      repeat walk_at "m"
      refine ⟨_, rfl, ?_⟩
      rw [oD_isNon]
      cases cur with
      | none =>
        dsimp only [Option.isNone_none]
        repeat walk_at "m"
        exact ⟨rfl, by simp, hQ x⟩
      | some k =>
        dsimp only [Option.isNone_some]
        have hc : Cell.fld k fl ∈ cellsL ns fs many := mem_fld hfl (hb k rfl)
        repeat walk_at "m"
        refine ⟨f_Graph_look, rfl, ?_⟩
        repeat walk_at "m"
        refine ⟨sz (by simp), ?_⟩
        refine look_ok g (c := .fld k fl) hc ?_
        repeat walk_at "m"
        rw [List.length_cons] at hx
        have f6 := (g.F.fm fl hfl).hi
        refine wp_addT (by rw [dot_len]; exact sz (by omega)) ?_
        repeat walk_at "m"
        refine wp_addT (by rw [len_app, dot_len, len_cs fl]; exact sz (by omega)) ?_
        repeat walk_at "m"
        exact ⟨rfl, _, r', _, rfl, fun y hy => hf y (by simp [hy]), (g.has.lo hc).2, hQ, by rw [len_app, len_app, dot_len, len_cs fl]; omega, _, _, _, rfl⟩
  · intro f s' ⟨hs, cur, r', x, hr, hf, hb, hQ, hx, a, b, c, hfr⟩
    subst hs
    generalize f.getD 6 none = z at hfr
    subst hfr
    have hq : r' = [] := List.map_eq_nil_iff.mp hr.symm
    subst hq
    refine ⟨rfl, ?_⟩
    repeat walk_at "m"
    exact hQ
theorem value_of_ok {ns fs : List Str} {many hh : Nat} {ps : List (Cell × D)} {s : Store} (g : GAt ns fs many hh ps s) {m : Nat} {o : Option (List Str)} (p : VOk ns fs m o) (hm : m ≤ 2) {Q : D → Store → Prop} {Y : Ex → Store → Prop} (h : rdQ Q Y s (rdV ps o)) : wpF (f_value_of [gD ns fs many hh, vD o] s) Q Y := by
  unfold f_value_of
  refine wpF_fn rfl ?_
  show wp b_value_of [some (gD ns fs many hh), some (vD o)] s _ _
  unfold b_value_of
  repeat walk_at "m"
  refine ⟨_, rfl, ?_⟩
  cases o with
  | none =>
    dsimp only [vD, D.isNon]
    repeat walk_at "m"
    exact h
  | some l =>
    dsimp only [vD, D.isNon]
    repeat walk_at "m"
    exact value_at_ok g (p l rfl) hm h
theorem eq_oD {s : Store} (a b : Option Nat) : eqS s (oD a) (oD b) = some (decide (a = b)) := by
  cases a with
  | none => cases b <;> rfl
  | some i =>
    cases b with
    | none => rfl
    | some j =>
      show some (decide ((i : Int) = j)) = _
      congr 1
      exact decide_eq_decide.mpr ⟨fun h => by congr 1; omega, fun h => by cases h; rfl⟩
theorem eq_bl {s : Store} (a b : Bool) : eqS s (.bl a) (.bl b) = some (decide (a = b)) := rfl
theorem eq_str {s : Store} (a b : Str) : eqS s (.str a) (.str b) = some (decide (a = b)) := rfl
theorem word_is (w : Bool) : decide ((if w then ("is" : Str) else "is not") = "is") = w := by cases w <;> decide +kernel
/-- whether a fact holds -/
def hoB (ps : List (Cell × D)) (a : Option (List Str)) (w : Bool) (b : Option (List Str)) : Bool := match rdV ps a, rdV ps b with
  | some x, some y => decide (decide (x = y) = w)
  | _, _ => false
theorem holds_ok {ns fs : List Str} {many hh : Nat} {ps : List (Cell × D)} {s : Store} (g : GAt ns fs many hh ps s) {m : Nat} {a b : Option (List Str)} {w : Bool} (pa : VOk ns fs m a) (pb : VOk ns fs m b) (hm : m ≤ 2) {Q : D → Store → Prop} {Y : Ex → Store → Prop} (h : Q (.bl (hoB ps a w b)) s) : wpF (f_holds [gD ns fs many hh, fcD (vD a) (wordD w) (vD b)] s) Q Y := by
  unfold f_holds
  refine wpF_fn rfl ?_
  show wp b_holds [some (gD ns fs many hh), some (fcD (vD a) (wordD w) (vD b)), none, none] s _ _
  unfold b_holds
  repeat walk_at "m"
  refine ⟨_, fc_one, ?_⟩
  repeat walk_at "m"
  refine value_of_ok g pa hm ?_
  cases ha : rdV ps a with
  | none =>
    intro x
    refine ⟨true, rfl, ?_⟩
    repeat walk_at "m"
    have e : hoB ps a w b = false := by unfold hoB; rw [ha]
    rw [e] at h
    exact h
  | some x =>
    unfold rdQ
    dsimp only
    repeat walk_at "m"
    refine ⟨_, fc_other, ?_⟩
    repeat walk_at "m"
    refine value_of_ok g pb hm ?_
    cases hb : rdV ps b with
    | none =>
      intro x
      refine ⟨true, rfl, ?_⟩
      repeat walk_at "m"
      have e : hoB ps a w b = false := by unfold hoB; rw [ha, hb]
      rw [e] at h
      exact h
    | some y =>
      unfold rdQ
      dsimp only
      repeat walk_at "m"
      refine wp_eq0 (eq_oD x y) ?_
      repeat walk_at "m"
      refine ⟨_, fc_word, ?_⟩
      rw [show g_WORDS = .tup [.str "is", .str "is not"] from rfl]
      repeat walk_at "m"
      refine wp_ixT (z := .str "is") (atI_nat (k := 0) rfl) ?_
      refine wp_eq0 (eq_str _ _) ?_
      rw [word_is]
      refine wp_eq0 (eq_bl _ _) ?_
      have e : hoB ps a w b = decide (decide (x = y) = w) := by unfold hoB; rw [ha, hb]
      rw [e] at h
      exact h
/-- fact(graph) -/
theorem call_ok {ns fs : List Str} {many hh : Nat} {ps : List (Cell × D)} {s : Store} (g : GAt ns fs many hh ps s) {m : Nat} {a b : Option (List Str)} {w : Bool} (pa : VOk ns fs m a) (pb : VOk ns fs m b) (hm : m ≤ 2) {Q : D → Store → Prop} {Y : Ex → Store → Prop} (h : Q (.bl (hoB ps a w b)) s) : wpF (f_Fact___call__ [fcD (vD a) (wordD w) (vD b), gD ns fs many hh] s) Q Y := by
  unfold f_Fact___call__
  refine wpF_fn rfl ?_
  show wp b_Fact___call__ [some (fcD (vD a) (wordD w) (vD b)), some (gD ns fs many hh)] s _ _
  unfold b_Fact___call__
  repeat walk_at "m"
  refine ⟨_, g_layout, ?_⟩
  repeat walk_at "m"
  refine ⟨sz (by simp), ?_⟩
  repeat walk_at "m"
  refine need_values_ok (isV_vD g.F pa hm) (isV_vD g.F pb hm) ?_
  repeat walk_at "m"
  exact holds_ok g pa pb hm h
theorem call_bad {ns fs : List Str} {many hh : Nat} {s : Store} {a w b v : D} (hv : (IsV ns fs a false ∧ v = a) ∨ (IsV ns fs a true ∧ IsV ns fs b false ∧ v = b)) {Q : D → Store → Prop} {Y : Ex → Store → Prop} (h : Y (bpX v) s) : wpF (f_Fact___call__ [fcD a w b, gD ns fs many hh] s) Q Y := by
  unfold f_Fact___call__
  refine wpF_fn rfl ?_
  show wp b_Fact___call__ [some (fcD a w b), some (gD ns fs many hh)] s _ _
  unfold b_Fact___call__
  repeat walk_at "m"
  refine ⟨_, g_layout, ?_⟩
  repeat walk_at "m"
  refine ⟨sz (by simp), ?_⟩
  repeat walk_at "m"
  rcases hv with ⟨h1, rfl⟩ | ⟨h1, h2, rfl⟩
  · exact need_values_a h1 h
  · exact need_values_b h1 h2 h
/-- the law's own look -/
theorem lam0_ok {ns fs : List Str} {many ww : Nat} {ps : List (Cell × D)} {s : Store} (h : GAt ns fs many ww ps s) {c : Cell} (hc : c ∈ cellsL ns fs many) {Q : D → Store → Prop} {Y : Ex → Store → Prop} (q : Q (oD (lo ps c)) s) : wpF (lamFn 2 1 1 b_lam0 [.ref ww] [cellD c] s) Q Y := by
  refine wpF_lam rfl rfl ?_
  show wp b_lam0 [some (cellD c), some (.ref ww)] s _ _
  unfold b_lam0
  repeat walk_at "m"
  exact wp_ixD h.at_ (h.get hc) q
theorem nc_cellD (c : Cell) : D.ncs [cellD c] = true := by cases c <;> simp [cellD, D.nc, D.ncs]
def fltD : Option (Option Nat) → D
  | some o => oD o
  | none => .str "fault"
theorem cut_from1 (n : Str) (r : List Str) : slD (.lst ((n :: r).map D.str)) (some 1) none = some (.lst (r.map D.str)) := by
  show some (D.lst (Mp.cutD _ _ _)) = _
  congr 2
  unfold Mp.cutD
  have h1 : HT.sIx ((n :: r).map D.str).length 0 (some 1) = 1 := by
    show HT.sIx _ 0 (some ((1 : Nat) : Int)) = 1
    rw [HT.sIx_nat]
    simp
  have h2 : HT.sIx ((n :: r).map D.str).length ((n :: r).map D.str).length none = ((n :: r).map D.str).length := rfl
  rw [h1, h2, List.take_of_length_le (by simp)]
  rfl
theorem read_ok {ns fs : List Str} {many ww : Nat} {ps : List (Cell × D)} {s : Store} (g : GAt ns fs many ww ps s) (nc : s.nc) {m : Nat} {o : Option (List Str)} (p : VOk ns fs m o) (hm : m ≤ 2) {Q : D → Store → Prop} {Y : Ex → Store → Prop} (h : Q (fltD (rdV ps o)) s) : wpF (f_law_read [.clo 0 [.ref ww], vD o] s) Q Y := by
  unfold f_law_read
  refine wpF_fn rfl ?_
  show wp b_law_read [some (.clo 0 [.ref ww]), some (vD o), none, none, none] s _ _
  unfold b_law_read
  repeat walk_at "m"
  refine ⟨_, rfl, ?_⟩
  cases o with
  | none =>
    dsimp only [vD, D.isNon]
    repeat walk_at "m"
    exact h
  | some l =>
    dsimp only [vD, D.isNon]
    have p := p l rfl
    have fp := free_pth g.F p
    have pl := p.len g.F (by omega)
    obtain ⟨n, r, rfl, h1, h2, h3⟩ := p
    repeat walk_at "m"
    refine ⟨rfl, ?_⟩
    repeat walk_at "m"
    refine split_dot (by simp) fp (by omega) ?_
    repeat walk_at "m"
    refine ⟨0, [.ref ww], _, rfl, rfl, ?_⟩
    repeat walk_at "m"
    refine wp_ixL (z := .str n) (atI_nat (k := 0) rfl) ?_
    repeat walk_at "m"
    refine ⟨nc_cellD (.nam n), by simp [D.ncs, D.nc], nc, ?_⟩
    refine lam0_ok g (c := .nam n) (mem_nam h1) ?_
    repeat walk_at "m"
    refine ⟨1, rfl, ?_⟩
    repeat walk_at "m"
    refine wp_lift (cut_from1 n r) ?_
    refine ⟨(r.map D.str, fun _ => true), rfl, ?_⟩
    have hb0 := (g.has.lo (mem_nam (fs := fs) h1)).2
    have h : Q (fltD (rd ps (lo ps (.nam n)) r)) s := h
    refine wp_forL (fun rem f s' => s' = s ∧ ∃ cur r', rem = r'.map D.str ∧ (∀ y ∈ r', y ∈ fs) ∧ (∀ i, cur = some i → i < many) ∧ Q (fltD (rd ps cur r')) s ∧ ∃ b c d, f = [some (.clo 0 [.ref ww]), b, c, some (oD cur), d]) ?_ ?_ ⟨rfl, lo ps (.nam n), r, rfl, h2, hb0, h, _, _, _, rfl⟩
    · intro y rem f s' ⟨hs, cur, r', hr, hf, hb, hQ, b, c, d, hfr⟩
      subst hs hfr
      cases r' with
      | nil => cases hr
      | cons fl r' =>
        rw [List.map_cons] at hr
        have hy := (List.cons.inj hr).1
        have hrem := (List.cons.inj hr).2
        subst hy hrem
        refine ⟨rfl, ?_⟩
        have hfl : fl ∈ fs := hf fl (by simp)
        repeat walk_at "m"
        refine ⟨_, rfl, ?_⟩
        rw [oD_isNon]
        cases cur with
        | none =>
          dsimp only [Option.isNone_none]
          repeat walk_at "m"
          exact hQ
        | some k =>
          dsimp only [Option.isNone_some]
          have hc : Cell.fld k fl ∈ cellsL ns fs many := mem_fld hfl (hb k rfl)
          repeat walk_at "m"
          refine ⟨0, [.ref ww], _, rfl, rfl, ?_⟩
          repeat walk_at "m"
          refine ⟨sz (by simp), ?_⟩
          refine ⟨nc_cellD (.fld k fl), by simp [D.ncs, D.nc], nc, ?_⟩
          refine lam0_ok g (c := .fld k fl) hc ?_
          repeat walk_at "m"
          exact ⟨rfl, _, r', rfl, fun y hy => hf y (by simp [hy]), (g.has.lo hc).2, hQ, _, _, _, rfl⟩
    · intro f s' ⟨hs, cur, r', hr, hf, hb, hQ, b, c, d, hfr⟩
      subst hs hfr
      have hq : r' = [] := List.map_eq_nil_iff.mp hr.symm
      subst hq
      refine ⟨rfl, ?_⟩
      repeat walk_at "m"
      exact hQ
theorem eq_fault {s : Store} (o : Option (Option Nat)) : eqS s (fltD o) (.str "fault") = some o.isNone := by
  cases o with
  | none => rfl
  | some o => cases o <;> rfl
theorem lholds_ok {ns fs : List Str} {many ww : Nat} {ps : List (Cell × D)} {s : Store} (g : GAt ns fs many ww ps s) (nc : s.nc) {m : Nat} {a b : Option (List Str)} {w : Bool} (pa : VOk ns fs m a) (pb : VOk ns fs m b) (hm : m ≤ 2) {Q : D → Store → Prop} {Y : Ex → Store → Prop} (h : Q (.bl (hoB ps a w b)) s) : wpF (f_law_holds [.clo 0 [.ref ww], factT a w b] s) Q Y := by
  unfold f_law_holds
  refine wpF_fn rfl ?_
  show wp b_law_holds [some (.clo 0 [.ref ww]), some (factT a w b), none, none] s _ _
  unfold b_law_holds
  repeat walk_at "m"
  refine wp_ixT (z := vD a) (atI_nat (k := 0) rfl) ?_
  repeat walk_at "m"
  refine read_ok g nc pa hm ?_
  repeat walk_at "m"
  refine wp_eq0 (eq_fault _) ⟨_, rfl, ?_⟩
  cases ha : rdV ps a with
  | none =>
    dsimp only [Option.isNone_none]
    repeat walk_at "m"
    have e : hoB ps a w b = false := by unfold hoB; rw [ha]
    rw [e] at h
    exact h
  | some x =>
    dsimp only [Option.isNone_some]
    repeat walk_at "m"
    refine wp_ixT (z := vD b) (atI_nat (k := 2) rfl) ?_
    repeat walk_at "m"
    refine read_ok g nc pb hm ?_
    repeat walk_at "m"
    refine wp_ne0 (eq_fault _) ?_
    cases hb : rdV ps b with
    | none =>
      dsimp only [Option.isNone_none]
      refine ⟨_, rfl, ?_⟩
      have e : hoB ps a w b = false := by unfold hoB; rw [ha, hb]
      rw [e] at h
      exact h
    | some y =>
      dsimp only [Option.isNone_some]
      refine ⟨_, rfl, ?_⟩
      dsimp only [fltD]
      repeat walk_at "m"
      refine wp_eq0 (eq_oD x y) ?_
      repeat walk_at "m"
      refine wp_ixT (z := wordD w) (atI_nat (k := 1) rfl) ?_
      repeat walk_at "m"
      refine wp_eq0 (eq_str _ _) ?_
      rw [word_is]
      refine wp_eq0 (eq_bl _ _) ?_
      have e : hoB ps a w b = decide (decide (x = y) = w) := by unfold hoB; rw [ha, hb]
      rw [e] at h
      exact h
/-! ### refusals told -/
theorem isi_bp {st : Store} {v : D} {C : Str} {b : Bool} (h : isi (.err "BadPath") (.own C) = some b) : isiB isi st [.exc "BadPath" ["path"] [v], .fn C] = some (.bl b) := isi_one (t := .err "BadPath") (u := .own C) rfl rfl h
theorem word_ok {st : Store} {v : D} {Q : D → Store → Prop} {Y : Ex → Store → Prop} (h : Q (.str "path") st) : wpF (f_law_word [.exc "BadPath" ["path"] [v]] st) Q Y := by
  unfold f_law_word
  refine wpF_fn rfl ?_
  show wp b_law_word [some (.exc "BadPath" ["path"] [v]), none] st _ _
  unfold b_law_word
  repeat walk_at "m"
  refine ⟨.bl true, isi_bp (by decide +kernel), ?_⟩
  repeat walk_at "m"
  refine ⟨.bl false, isi_bp (by decide +kernel), ?_⟩
  repeat walk_at "m"
  refine ⟨.bl false, isi_bp (by decide +kernel), ?_⟩
  repeat walk_at "m"
  refine ⟨sz (by simp), ?_⟩
  repeat walk_at "m"
  refine ⟨sz (by simp), ?_⟩
  refine ⟨.bl false, isi_tup (t := .err "BadPath") (ts := [.own "BadName", .own "BadLayout", .own "BadGraph", .own "NoCell", .own "BadValue"]) rfl rfl (by decide +kernel) (by decide +kernel), ?_⟩
  repeat walk_at "m"
  refine ⟨sz (by simp), ?_⟩
  repeat walk_at "m"
  refine wp_add0 (z := .lst [.bl true, .bl false, .bl false, .bl false]) rfl ?_
  repeat walk_at "m"
  refine ⟨sz (by simp), ?_⟩
  refine ⟨.bl false, isi_tup (t := .err "BadPath") (ts := [.own "BadStatement", .own "NoObject", .own "Faulted", .own "BadPlan", .own "BadLine"]) rfl rfl (by decide +kernel) (by decide +kernel), ?_⟩
  repeat walk_at "m"
  refine ⟨sz (by simp), ?_⟩
  repeat walk_at "m"
  refine wp_add0 (z := .lst [.bl true, .bl false, .bl false, .bl false, .bl false]) rfl ?_
  repeat walk_at "m"
  refine ⟨rfl, ?_⟩
  repeat walk_at "m"
  have c1 : ∀ {Q : D → Fr → Store → Prop} {X : Ex → Fr → Store → Prop} {fr : Fr}, Q (.int 1) fr st → wp (mtCount (.lst [.bl true, .bl false, .bl false, .bl false, .bl false]) [.bl true]) fr st Q X := fun h => h
  refine c1 ?_
  repeat walk_at "m"
  refine wp_ne0 (b := true) rfl ⟨_, rfl, ?_⟩
  repeat walk_at "m"
  refine ⟨.bl true, isi_one (t := .err "BadPath") (u := .ty "ValueError") rfl rfl (by decide +kernel), ?_⟩
  refine ⟨_, rfl, ?_⟩
  repeat walk_at "m"
  refine ⟨sz (by simp), ?_⟩
  repeat walk_at "m"
  refine ⟨rfl, ?_⟩
  repeat walk_at "m"
  have c2 : ∀ {Q : D → Fr → Store → Prop} {X : Ex → Fr → Store → Prop} {fr : Fr}, Q (.int 0) fr st → wp (mtIndex (.lst [.bl true, .bl false, .bl false, .bl false, .bl false]) [.bl true]) fr st Q X := fun h => h
  refine c2 ?_
  exact wp_ixL (z := .str "path") (atI_nat (k := 0) rfl) h
/-- what can be shown, shortly -/
structure Shw (v : D) (x : Str) : Prop where
  rep : ∀ st, reprB st [v] = some (.str x)
/-- the answer to a refusal -/
def refD (x : Str) : D := .lst [.str "path", .str x]
theorem path_of_ok {ns fs : List Str} {many hh : Nat} {ps : List (Cell × D)} {s : Store} (g : GAt ns fs many hh ps s) {m : Nat} {a b : Option (List Str)} {w : Bool} (pa : VOk ns fs m a) (pb : VOk ns fs m b) (hm : m ≤ 2) {Q : D → Store → Prop} {Y : Ex → Store → Prop} (h : Q (.bl (hoB ps a w b)) s) : wpF (f_law_path_of [fcD (vD a) (wordD w) (vD b), gD ns fs many hh] s) Q Y := by
  unfold f_law_path_of
  refine wpF_fn rfl ?_
  show wp b_law_path_of [some (fcD (vD a) (wordD w) (vD b)), some (gD ns fs many hh), none, none, none] s _ _
  unfold b_law_path_of
  repeat walk_at "m"
  refine ⟨_, rfl, ?_⟩
  repeat walk_at "m"
  refine ⟨"Fact", factN, _, f_Fact___call__, rfl, rfl, ?_⟩
  refine call_ok g pa pb hm ?_
  repeat walk_at "m"
  refine ⟨_, rfl, ?_⟩
  dsimp only [D.isNon]
  repeat walk_at "m"
  exact h
theorem path_of_bad {ns fs : List Str} {many hh : Nat} {s : Store} {a w b v : D} (hv : (IsV ns fs a false ∧ v = a) ∨ (IsV ns fs a true ∧ IsV ns fs b false ∧ v = b)) {x : Str} (sh : Shw v x) {Q : D → Store → Prop} {Y : Ex → Store → Prop} (h : Q (refD x) s) : wpF (f_law_path_of [fcD a w b, gD ns fs many hh] s) Q Y := by
  unfold f_law_path_of
  refine wpF_fn rfl ?_
  show wp b_law_path_of [some (fcD a w b), some (gD ns fs many hh), none, none, none] s _ _
  unfold b_law_path_of
  repeat walk_at "m"
  refine ⟨_, rfl, ?_⟩
  repeat walk_at "m"
  refine ⟨"Fact", factN, _, f_Fact___call__, rfl, rfl, ?_⟩
  refine call_bad hv ?_
  refine ⟨true, rfl, ?_⟩
  dsimp only [bpX]
  repeat walk_at "m"
  refine ⟨_, rfl, ?_⟩
  dsimp only [D.isNon]
  repeat walk_at "m"
  refine word_ok ?_
  repeat walk_at "m"
  refine ⟨.bl true, isi_bp (by decide +kernel), ?_⟩
  refine ⟨_, rfl, ?_⟩
  repeat walk_at "m"
  refine ⟨v, ?_, ?_⟩
  · unfold attrE
    dsimp only
    rw [if_pos (by decide +kernel)]
    exact look_hd
  repeat walk_at "m"
  refine ⟨_, sh.rep s, ?_⟩
  repeat walk_at "m"
  refine ⟨sz (by simp), ?_⟩
  repeat walk_at "m"
  exact h
theorem zip_fst {α β : Type} : ∀ {l : List α} {m : List β} {a : α}, a ∈ l → m.length = l.length → ∃ b ∈ m, (a, b) ∈ l.zip m
  | x :: l, [], a, _, h => by cases h
  | x :: l, y :: m, a, ha, h => by
    rcases List.mem_cons.mp ha with rfl | ha
    · exact ⟨y, by simp, by simp⟩
    · obtain ⟨b, h1, h2⟩ := zip_fst ha (by simpa using h)
      exact ⟨b, by simp [h1], by simp [h2]⟩
theorem nmC_keys {ns : List Str} {nv : List (Option Nat)} (h : nv.length = ns.length) : (nmC ns nv).map Prod.fst = ns.map Cell.nam := by
  unfold nmC
  rw [List.map_map]
  have : (Prod.fst ∘ fun p : Str × Option Nat => ((Cell.nam p.1, oD p.2) : Cell × D)) = Cell.nam ∘ Prod.fst := rfl
  rw [this, ← List.map_map]
  congr 1
  exact List.map_fst_zip (by omega)
theorem rowC_keys {fs : List Str} {k : Nat} {r : List (Option Nat)} (h : r.length = fs.length) : (rowC fs k r).map Prod.fst = fs.map (Cell.fld k) := by
  unfold rowC
  rw [List.map_map]
  have : (Prod.fst ∘ fun p : Str × Option Nat => ((Cell.fld k p.1, oD p.2) : Cell × D)) = Cell.fld k ∘ Prod.fst := rfl
  rw [this, ← List.map_map]
  congr 1
  exact List.map_fst_zip (by omega)
theorem objC_keys {fs : List Str} : ∀ {rs : List (List (Option Nat))} {k : Nat}, (∀ r ∈ rs, r.length = fs.length) → fs.Nodup → ((objC fs k rs).map Prod.fst).Nodup ∧ ∀ c ∈ (objC fs k rs).map Prod.fst, ∃ j f, k ≤ j ∧ c = .fld j f
  | [], k, _, _ => ⟨.nil, by simp [objC]⟩
  | r :: rs, k, h, nd => by
    obtain ⟨h1, h2⟩ := objC_keys (rs := rs) (k := k + 1) (fun x hx => h x (by simp [hx])) nd
    unfold objC
    rw [List.map_append, rowC_keys (h r (by simp))]
    have inj : ∀ l : List Str, l.Nodup → (l.map (Cell.fld k)).Nodup := fun l hl => by
      rw [List.nodup_iff_pairwise_ne, List.pairwise_map]
      exact List.Pairwise.imp (fun hab e => hab (by cases e; rfl)) hl
    refine ⟨?_, fun c hc => ?_⟩
    · rw [List.nodup_append]
      refine ⟨inj fs nd, h1, fun a ha b hb e => ?_⟩
      obtain ⟨f, _, rfl⟩ := List.mem_map.mp ha
      obtain ⟨j, f2, hj, rfl⟩ := h2 b hb
      cases e
      omega
    · rcases List.mem_append.mp hc with hc | hc
      · obtain ⟨f, _, rfl⟩ := List.mem_map.mp hc
        exact ⟨k, f, Nat.le_refl _, rfl⟩
      · obtain ⟨j, f, hj, rfl⟩ := h2 c hc
        exact ⟨j, f, by omega, rfl⟩
theorem objC_mem {fs : List Str} {f : Str} (hf : f ∈ fs) : ∀ {rs : List (List (Option Nat))} {k j : Nat} (hj : j < rs.length), (∀ r ∈ rs, r.length = fs.length) → ∃ o ∈ rs[j], (Cell.fld (k + j) f, oD o) ∈ objC fs k rs
  | [], k, j, hj, _ => by cases hj
  | r :: rs, k, 0, hj, h => by
    obtain ⟨o, h1, h2⟩ := zip_fst hf (h r (by simp))
    refine ⟨o, h1, ?_⟩
    unfold objC rowC
    exact List.mem_append_left _ (List.mem_map.mpr ⟨(f, o), h2, rfl⟩)
  | r :: rs, k, j + 1, hj, h => by
    obtain ⟨o, h1, h2⟩ := objC_mem hf (rs := rs) (k := k + 1) (j := j) (by simpa using hj) fun x hx => h x (by simp [hx])
    refine ⟨o, by simpa using h1, ?_⟩
    unfold objC
    refine List.mem_append_right _ ?_
    have e : k + (j + 1) = k + 1 + j := by omega
    rw [e]
    exact h2
theorem WW_eq {ns fs : List Str} {many : Nat} {nv : List (Option Nat)} {ov : List (List (Option Nat))} (F : Frm ns fs) (S : Shp ns fs many nv ov) : WW ns fs nv ov = nmC ns nv ++ objC fs 0 ov ∧ ((nmC ns nv ++ objC fs 0 ov).map Prod.fst).Nodup := by
  have nd : ((nmC ns nv ++ objC fs 0 ov).map Prod.fst).Nodup := by
    obtain ⟨h1, h2⟩ := objC_keys (k := 0) S.fl F.fd
    rw [List.map_append, nmC_keys S.nl, List.nodup_append]
    refine ⟨?_, h1, fun a ha b hb e => ?_⟩
    · rw [List.nodup_iff_pairwise_ne, List.pairwise_map]
      exact List.Pairwise.imp (fun hab e => hab (by cases e; rfl)) F.nd
    · obtain ⟨n, _, rfl⟩ := List.mem_map.mp ha
      obtain ⟨j, f2, hj, rfl⟩ := h2 b hb
      cases e
  refine ⟨?_, nd⟩
  unfold WW
  rw [← aputs_app, aputs_new (ps := []) (by simpa using nd)]
  rfl
theorem WW_has {ns fs : List Str} {many : Nat} {nv : List (Option Nat)} {ov : List (List (Option Nat))} (F : Frm ns fs) (S : Shp ns fs many nv ov) : Has ns fs many (WW ns fs nv ov) := by
  obtain ⟨e, nd⟩ := WW_eq F S
  rw [e]
  intro c hc
  rcases List.mem_append.mp hc with hc | hc
  · obtain ⟨n, hn, rfl⟩ := List.mem_map.mp hc
    obtain ⟨o, h1, h2⟩ := zip_fst hn S.nl
    exact ⟨o, lookup_mem_nodup nd (List.mem_append_left _ (List.mem_map.mpr ⟨(n, o), h2, rfl⟩)), S.nb o h1⟩
  · obtain ⟨k, hk, hc⟩ := List.mem_flatMap.mp hc
    obtain ⟨f, hf, rfl⟩ := List.mem_map.mp hc
    rw [List.mem_range] at hk
    have hj : k < ov.length := by rw [S.ol]; exact hk
    obtain ⟨o, h1, h2⟩ := objC_mem hf (k := 0) hj S.fl
    rw [Nat.zero_add] at h2
    exact ⟨o, lookup_mem_nodup nd (List.mem_append_right _ h2), S.ob _ (List.getElem_mem hj) o h1⟩
theorem WW_len {ns fs : List Str} {many : Nat} {nv : List (Option Nat)} {ov : List (List (Option Nat))} (F : Frm ns fs) (S : Shp ns fs many nv ov) (hm : many ≤ 12) : (WW ns fs nv ov).length ≤ 1000 := by
  obtain ⟨e, _⟩ := WW_eq F S
  rw [e, List.length_append]
  have h1 := objC_len fs ov 0
  have h2 : ov.length * fs.length ≤ 12 * 2 := Nat.mul_le_mul (by rw [S.ol]; exact hm) F.f2
  have h3 : (nmC ns nv).length ≤ 3 := by
    unfold nmC
    rw [List.length_map, List.length_zip]
    have := Nat.min_le_left ns.length nv.length
    have := F.n3
    omega
  omega
theorem DAt.gat {ns fs : List Str} {many hh : Nat} {nv : List (Option Nat)} {ov : List (List (Option Nat))} {s : Store} (h : DAt hh (WW ns fs nv ov) s) (F : Frm ns fs) (S : Shp ns fs many nv ov) (hm : many ≤ 12) (hq : hh < s.next) : GAt ns fs many hh (WW ns fs nv ov) s :=
  ⟨h, F, hm, by have := WW_len F S hm; omega, hq, WW_has F S⟩
/-! ### texts shown -/
/-- signs that stand for themselves -/
def plc (c : Nat) : Bool := c == 46 || c == 32 || (decide (48 ≤ c) && decide (c ≤ 57)) || (decide (65 ≤ c) && decide (c ≤ 90)) || (decide (97 ≤ c) && decide (c ≤ 122))
def Pl (x : Str) : Prop := ∀ c ∈ cs x, plc c = true
theorem plc_lt {c : Nat} (h : plc c = true) : c < 128 ∧ c ≠ 39 := by
  unfold plc at h
  simp only [Bool.or_eq_true, Bool.and_eq_true, decide_eq_true_eq, beq_iff_eq] at h
  omega
theorem plc_repr : ∀ c, c < 128 → plc c = true → Builtin.Str.reprChar 39 c = [c] := by
  have h : (List.range 128).all (fun c => !plc c || decide (Builtin.Str.reprChar 39 c = [c])) = true := by decide +kernel
  intro c h1 h2
  have := List.all_eq_true.mp h c (List.mem_range.mpr h1)
  simpa [h2] using this
theorem repr_cs {x : Str} (h : Pl x) : cs (reprText x) = 39 :: (cs x ++ [39]) := by
  have q : reprQuote x = 39 := by
    unfold reprQuote
    have : x.cps.contains 39 = false := by
      rw [Bool.eq_false_iff]
      intro z
      have z := Array.contains_iff_mem.mp z
      have := h 39 (by unfold cs; exact Array.mem_toList_iff.mpr z)
      exact absurd this (by decide)
    rw [this]
    rfl
  have f : ∀ (l : List Nat) (acc : Array Nat), (∀ c ∈ l, plc c = true) → (l.foldl (fun out c => out ++ (Builtin.Str.reprChar 39 c).toArray) acc).toList = acc.toList ++ l := by
    intro l
    induction l with
    | nil => intro acc _; simp
    | cons c l ih =>
      intro acc hl
      rw [List.foldl_cons, ih _ fun a ha => hl a (by simp [ha]), plc_repr c (plc_lt (hl c (by simp))).1 (hl c (by simp))]
      simp
  unfold reprText
  rw [q]
  show (Array.push _ _).toList = _
  rw [Array.toList_push, ← Array.foldl_toList]
  have f2 := f (cs x) #[39] h
  unfold cs at f2
  rw [f2]
  simp [cs]
theorem PyData.strOk_cs {x : Str} (h : ∀ c ∈ cs x, c < 1114112) : PyData.strOk x = true := by
  unfold PyData.strOk
  rw [Array.all_eq_true']
  intro c hc
  exact decide_eq_true (h c (Array.mem_toList_iff.mpr hc))
theorem Pl.ok {x : Str} (h : Pl x) : PyData.strOk x = true := PyData.strOk_cs fun c hc => by have := plc_lt (h c hc); omega
theorem Pl.rok {x : Str} (h : Pl x) : PyData.strOk (reprText x) = true := PyData.strOk_cs fun c hc => by
  rw [repr_cs h] at hc
  simp only [List.mem_cons, List.mem_append, List.not_mem_nil, or_false] at hc
  rcases hc with rfl | hc | rfl
  · decide
  · have := plc_lt (h c hc); omega
  · decide
theorem Pl.rlen {x : Str} (h : Pl x) : (reprText x).length = x.length + 2 := by
  rw [len_cs, repr_cs h, len_cs]
  simp
theorem Nm.pl {x : Str} (h : Nm x) : Pl x := fun c hc => by
  have := h.az c hc
  unfold plc
  simp only [Bool.or_eq_true, Bool.and_eq_true, decide_eq_true_eq]
  right
  exact this
theorem Pl.app {x y : Str} (h : Pl x) (k : Pl y) : Pl (x ++ y) := fun c hc => by
  rw [cs_app] at hc
  rcases List.mem_append.mp hc with hc | hc
  · exact h c hc
  · exact k c hc
theorem Pl.join {d : Str} (hd : Pl d) : ∀ {l : List Str}, (∀ x ∈ l, Pl x) → Pl (Str.join d l)
  | [], _ => fun c hc => by cases hc
  | [x], h => h x (by simp)
  | x :: y :: l, h => by
    have ih := Pl.join hd (l := y :: l) fun z hz => h z (by simp at hz ⊢; right; exact hz)
    intro c hc
    rw [cs_join_cons _ _ _ (by simp)] at hc
    rcases List.mem_append.mp hc with hc | hc
    · rcases List.mem_append.mp hc with hc | hc
      · exact h x (by simp) c hc
      · exact hd c hc
    · exact ih c hc
theorem pl_dot : Pl dotS := fun c hc => by
  have : c = 46 := by simpa [cs, dotS] using hc
  subst this
  decide
theorem Pl.path {l : List Str} (h : ∀ x ∈ l, Pl x) : Pl (pathS l) := Pl.join pl_dot h
/-- shown, and its text can be compared -/
structure Sho (v : D) (x : Str) : Prop extends Shw v x where
  ok : PyData.strOk x = true
theorem sho_of {v : D} {p : PyData} {x : Str} (h1 : ∀ st, rprD st v = some p) (h2 : p.showable = true) (h3 : p.shown = x) (h4 : x.length ≤ 1000) (h5 : p.depth ≤ 60) (h6 : PyData.strOk x = true) : Sho v x := by
  refine ⟨⟨fun st => ?_⟩, h6⟩
  unfold reprB
  dsimp only
  rw [h1 st]
  dsimp only
  rw [if_pos ⟨h2, by rw [h3]; exact sz (by omega), h5⟩, h3]
theorem sho_str {x : Str} (h : Pl x) (hl : x.length ≤ 500) : Sho (.str x) (reprText x) :=
  sho_of (p := .str x) (fun st => rfl) (by simp only [PyData.showable]) (by simp only [PyData.shown]) (by rw [h.rlen]; omega) (by simp [PyData.depth]) h.rok
theorem eq_ref {s : Store} {x : Str} (h : PyData.strOk x = true) : eqS s (refD x) (refD x) = some true := by
  unfold eqS refD dataS
  have e : D.data (.lst [.str "path", .str x]) = some (.list [.str "path", .str x]) := by simp [D.data, D.datas]
  simp only [scalD, e]
  have h1 : SeqAt.shaped (.list [.str "path", .str x]) = true := by
    have hp : PyData.strOk "path" = true := by decide +kernel
    simp [SeqAt.shaped, PyData.canLay0, PyData.canLayAll0, h, hp, PyData.depth, PyData.depthAll]
  rw [h1]
  simp [PyData.eqv, PyData.eqvAll]
theorem datas_oD : ∀ l : List (Option Nat), D.datas (l.map oD) = some (l.map fun o => match o with | none => PyData.none | some i => .int i)
  | [] => rfl
  | o :: l => by
    rw [List.map_cons]
    show (match D.data (oD o), D.datas (l.map oD) with | some p, some ps => some (p :: ps) | _, _ => none) = _
    rw [datas_oD l]
    cases o <;> rfl
theorem eq_oDs {s : Store} (l : List (Option Nat)) : eqS s (.lst (l.map oD)) (.lst (l.map oD)) = some true := by
  unfold eqS dataS
  have e : D.data (.lst (l.map oD)) = some (.list (l.map fun o => match o with | none => PyData.none | some i => .int i)) := by
    simp only [D.data, datas_oD, Option.map_some]
  simp only [scalD, e]
  have a : ∀ l : List (Option Nat), PyData.canLayAll0 (l.map fun o => match o with | none => PyData.none | some i => .int i) = true ∧ PyData.depthAll (l.map fun o => match o with | none => PyData.none | some i => .int i) = 0 ∧ PyData.eqvAll (l.map fun o => match o with | none => PyData.none | some i => .int i) (l.map fun o => match o with | none => PyData.none | some i => .int i) = true := fun l => by
    induction l with
    | nil => exact ⟨rfl, rfl, rfl⟩
    | cons o l ih => cases o <;> simp [PyData.canLayAll0, PyData.canLay0, PyData.depthAll, PyData.depth, PyData.eqvAll, PyData.eqv, ih]
  obtain ⟨a1, a2, a3⟩ := a l
  have h1 : SeqAt.shaped (.list (l.map fun o => match o with | none => PyData.none | some i => .int i)) = true := by
    simp [SeqAt.shaped, PyData.canLay0, a1, PyData.depth, a2]
  rw [h1]
  simp [PyData.eqv, a3]
/-- a value that is no path -/
structure Bad (ns fs : List Str) (v : D) : Prop where
  is : IsV ns fs v false
  sh : ∃ x, Sho v x
  nc : v.nc = true
theorem bad_str {ns fs : List Str} {n : Str} {r : List Str} (hp : ∀ x ∈ n :: r, Pl x ∧ freeOf 46 x) (hl : (pathS (n :: r)).length ≤ 200) (hn : inLay ns fs (n :: r) = false) : Bad ns fs (.str (pathS (n :: r))) := by
  refine ⟨?_, ⟨_, sho_str (Pl.path fun x hx => (hp x hx).1) (by omega)⟩, by simp [D.nc]⟩
  have := isV_path (ns := ns) (fs := fs) (n := n) (r := r) (fun x hx => (hp x hx).2) (by omega)
  rw [hn] at this
  exact this
theorem pl_empty : Pl ("" : Str) ∧ freeOf 46 ("" : Str) := by
  have e : cs ("" : Str) = [] := by decide +kernel
  constructor
  · intro c hc; rw [e] at hc; cases hc
  · unfold Mp.freeOf; rw [e]; simp
theorem nm_pf {x : Str} (h : Nm x) : Pl x ∧ freeOf 46 x := ⟨h.pl, free_nm h⟩
theorem empty_nm {ns : List Str} (h : ∀ x ∈ ns, Nm x) : ("" : Str) ∉ ns := fun z => by
  have := (h _ z).lo
  have e : cs ("" : Str) = [] := by decide +kernel
  rw [e] at this
  simp at this
theorem path2 (a b : Str) : pathS [a, b] = a ++ dotS ++ b := rfl
theorem app_empty (a : Str) : a ++ "" = a := str_ext (by rw [cs_app]; have e : cs ("" : Str) = [] := by decide +kernel
                                                         rw [e, List.append_nil])
theorem empty_app (a : Str) : "" ++ a = a := str_ext (by rw [cs_app]; have e : cs ("" : Str) = [] := by decide +kernel
                                                         rw [e]; rfl)
/-- an own sign behind a name: no name -/
theorem not_name {ns : List Str} (h : ∀ x ∈ ns, Nm x) {x : Str} {c : Nat} (hc : c ∈ cs x) (hb : ¬ (97 ≤ c ∧ c ≤ 122)) : x ∉ ns := fun z => hb ((h x z).az c hc)
theorem strange_ok {k g : Nat} {st : Store} {ns fs : List Str} (d : Drw k g st) (F : Frm ns fs) {Q : D → Store → Prop} {Y : Ex → Store → Prop}
    (h : ∀ v st', Bad ns fs v → Drw k g st' → Kp [k, g] st st' → Q v st') : wpF (f_law_strange [.ref k, frD ns fs] st) Q Y := by
  unfold f_law_strange
  refine wpF_fn rfl ?_
  show wp b_law_strange [some (.ref k), some (frD ns fs), none, none, none] st _ _
  unfold b_law_strange
  obtain ⟨n, nr, hns⟩ : ∃ x l, ns = x :: l := by
    have := F.n1
    cases ns with
    | nil => simp at this
    | cons x l => exact ⟨x, l, rfl⟩
  obtain ⟨f, fr, hfs⟩ : ∃ x l, fs = x :: l := by
    have := F.f1
    cases fs with
    | nil => simp at this
    | cons x l => exact ⟨x, l, rfl⟩
  have hn : n ∈ ns := by rw [hns]; simp
  have hf : f ∈ fs := by rw [hfs]; simp
  have Nn := F.nm n hn
  have Nf := F.fm f hf
  have n6 := Nn.hi
  have f6 := Nf.hi
  have ln : n.length ≤ 6 := by rw [len_cs]; exact n6
  have lf : f.length ≤ 6 := by rw [len_cs]; exact f6
  have dl := dot_len
  repeat walk_at "m"
  refine wp_ixT (z := .tup (ns.map D.str)) (atI_nat (k := 0) rfl) ?_
  repeat walk_at "m"
  refine wp_ixT (z := .str n) (atI_nat (k := 0) (by rw [hns]; rfl)) ?_
  repeat walk_at "m"
  refine wp_ixT (z := .tup (fs.map D.str)) (atI_nat (k := 1) rfl) ?_
  repeat walk_at "m"
  refine wp_ixT (z := .str f) (atI_nat (k := 0) (by rw [hfs]; rfl)) ?_
  repeat walk_at "m"
  refine ⟨_, _, rfl, ?_⟩
  repeat walk_at "m"
  refine wp_addT (by rw [dl]; exact sz (by omega)) ?_
  repeat walk_at "m"
  refine wp_addT (by rw [dl]; exact sz (by omega)) ?_
  repeat walk_at "m"
  refine wp_addT (by rw [dl]; exact sz (by omega)) ?_
  repeat walk_at "m"
  refine wp_addT (by rw [len_app, dl]; exact sz (by omega)) ?_
  repeat walk_at "m"
  refine wp_addT (by rw [len_app, len_app, dl]; exact sz (by omega)) ?_
  repeat walk_at "m"
  refine wp_addT (by rw [len_app, len_app, len_app, dl]; exact sz (by omega)) ?_
  repeat walk_at "m"
  refine wp_addT (by rw [len_app, len_app, len_app, len_app, dl]; exact sz (by omega)) ?_
  repeat walk_at "m"
  refine wp_addT (by rw [len_app, len_app, len_app, len_app, len_app, dl]; exact sz (by omega)) ?_
  repeat walk_at "m"
  refine ⟨sz (by simp), ?_⟩
  repeat walk_at "m"
  refine ⟨sz (by simp), ?_⟩
  repeat walk_at "m"
  refine ⟨sz (by simp), ?_⟩
  repeat walk_at "m"
  have l9 : ("9" : Str).length = 1 := by decide +kernel
  have lb : (" " : Str).length = 1 := by decide +kernel
  have ld : (".." : Str).length = 2 := by decide +kernel
  refine wp_addT (by rw [l9]; exact sz (by omega)) ?_
  repeat walk_at "m"
  refine wp_addT (by rw [lb]; exact sz (by omega)) ?_
  repeat walk_at "m"
  refine wp_addT (by rw [ld]; exact sz (by omega)) ?_
  repeat walk_at "m"
  refine ⟨sz (by simp), ?_⟩
  repeat walk_at "m"
  refine ⟨sz (by simp), ?_⟩
  repeat walk_at "m"
  refine wp_add0 (z := .lst ([D.int 5, .bl true, .str "", .str (n ++ "."), .str ("." ++ n), .str (n ++ "." ++ f ++ "." ++ f ++ "." ++ f), .tup [.str n], .lst [.str n]] ++ [.str (n ++ "9"), .str "None", .str (n ++ " "), .dct [] [], .str (n ++ ".."), .tup []])) (by
    unfold addS lstD
    dsimp only
    rw [if_pos (sz (by simp))]) ?_
  refine pick_ok d (.inl rfl) (by simp) (by simp) fun z st' hz d' k' => h z st' ?_ d' k'
  have bI : ∀ {v : D} {t : Tg} {p : PyData} {x : Str}, v.isNon = false → (∀ st, tagD st v = some t) → isi t (.ty "str") = some false → (∀ st, rprD st v = some p) → p.showable = true → p.shown = x → x.length ≤ 1000 → p.depth ≤ 60 → PyData.strOk x = true → v.nc = true → Bad ns fs v := fun h1 h2 h3 h4 h5 h6 h7 h8 h9 h10 => ⟨isV_not h1 h2 h3, ⟨_, sho_of h4 h5 h6 h7 h8 h9⟩, h10⟩
  have ee := empty_nm F.nm
  have ef := empty_nm F.fm
  have rl := Nn.pl.rlen
  have okn : ∀ c ∈ cs (reprText n), c < 1114112 := fun c hc => by
    rw [repr_cs Nn.pl] at hc
    simp only [List.mem_cons, List.mem_append, List.not_mem_nil, or_false] at hc
    rcases hc with rfl | hc | rfl
    · decide
    · have := plc_lt (Nn.pl c hc); omega
    · decide
  simp only [List.cons_append, List.nil_append, List.mem_cons, List.not_mem_nil, or_false] at hz
  rcases hz with rfl | rfl | rfl | rfl | rfl | rfl | rfl | rfl | rfl | rfl | rfl | rfl | rfl | rfl
  · exact bI (t := .ty "int") (p := .int 5) (x := "5") rfl (fun _ => rfl) (by decide +kernel) (fun _ => rfl) (by decide +kernel) (by decide +kernel) (by decide +kernel) (by decide +kernel) (by decide +kernel) (by simp [D.nc])
  · exact bI (t := .ty "bool") (p := .bool true) (x := "True") rfl (fun _ => rfl) (by decide +kernel) (fun _ => rfl) (by decide +kernel) (by decide +kernel) (by decide +kernel) (by decide +kernel) (by decide +kernel) (by simp [D.nc])
  · refine bad_str (n := "") (r := []) (fun x hx => ?_) (by decide +kernel) ?_
    · rw [List.mem_singleton.mp hx]; exact pl_empty
    · rw [inLay_cons, decide_eq_false ee]; rfl
  · have e : n ++ "." = pathS [n, ""] := by rw [path2, app_empty, dotS_eq]
    rw [e]
    refine bad_str (fun x hx => ?_) ?_ ?_
    · simp only [List.mem_cons, List.not_mem_nil, or_false] at hx
      rcases hx with rfl | rfl
      · exact nm_pf Nn
      · exact pl_empty
    · rw [← e, len_app, dl]; omega
    · rw [inLay_cons]; simp [ef]
  · have e : "." ++ n = pathS ["", n] := by rw [path2, empty_app, dotS_eq]
    rw [e]
    refine bad_str (fun x hx => ?_) ?_ ?_
    · simp only [List.mem_cons, List.not_mem_nil, or_false] at hx
      rcases hx with rfl | rfl
      · exact pl_empty
      · exact nm_pf Nn
    · rw [← e, len_app, dl]; omega
    · rw [inLay_cons, decide_eq_false ee]; rfl
  · have e : n ++ "." ++ f ++ "." ++ f ++ "." ++ f = pathS [n, f, f, f] := by
      have e1 : pathS [n, f, f, f] = pathS ([n, f, f] ++ [f]) := rfl
      have e2 : pathS [n, f, f] = pathS ([n, f] ++ [f]) := rfl
      unfold pathS at e1 e2 ⊢
      rw [e1, join_snoc _ _ _ (by simp), e2, join_snoc _ _ _ (by simp), dotS_eq]
      rfl
    rw [e]
    refine bad_str (fun x hx => ?_) ?_ ?_
    · simp only [List.mem_cons, List.not_mem_nil, or_false] at hx
      rcases hx with rfl | rfl | rfl | rfl
      · exact nm_pf Nn
      · exact nm_pf Nf
      · exact nm_pf Nf
      · exact nm_pf Nf
    · rw [← e]; simp only [len_app, dl]; omega
    · rw [inLay_cons]; simp
  · have e1 : (PyData.tuple [.str n]).shown = "(" ++ reprText n ++ ",)" := by
      simp only [PyData.shown, PyData.shownAll]
      rfl
    have a1 : cs ("(" : Str) = [40] := by decide +kernel
    have a2 : cs (",)" : Str) = [44, 41] := by decide +kernel
    refine bI (t := .ty "tuple") (p := .tuple [.str n]) rfl (fun _ => rfl) (by decide +kernel) (fun _ => by simp [rprD, dataS, D.data, D.datas]) (by simp [PyData.showable, PyData.showableAll]) e1 ?_ (by simp [PyData.depth, PyData.depthAll]) ?_ (by simp [D.nc, D.ncs])
    · rw [len_app, len_app, rl, len_cs "(", len_cs ",)", a1, a2]; simp; omega
    · refine PyData.strOk_cs fun c hc => ?_
      rw [cs_app, cs_app, a1, a2] at hc
      simp only [List.mem_append, List.mem_cons, List.not_mem_nil, or_false] at hc
      rcases hc with (rfl | hc) | rfl | rfl
      · decide
      · exact okn c hc
      · decide
      · decide
  · have e1 : (PyData.list [.str n]).shown = "[" ++ "" ++ reprText n ++ "]" := by
      simp only [PyData.shown, PyData.shownAll]
      rfl
    have a1 : cs ("[" : Str) = [91] := by decide +kernel
    have a2 : cs ("]" : Str) = [93] := by decide +kernel
    rw [app_empty] at e1
    refine bI (t := .ty "list") (p := .list [.str n]) rfl (fun _ => rfl) (by decide +kernel) (fun _ => by simp [rprD, dataS, D.data, D.datas]) (by simp [PyData.showable, PyData.showableAll]) e1 ?_ (by simp [PyData.depth, PyData.depthAll]) ?_ (by simp [D.nc, D.ncs])
    · rw [len_app, len_app, rl, len_cs "[", len_cs "]", a1, a2]; simp; omega
    · refine PyData.strOk_cs fun c hc => ?_
      rw [cs_app, cs_app, a1, a2] at hc
      simp only [List.mem_append, List.mem_cons, List.not_mem_nil, or_false] at hc
      rcases hc with (rfl | hc) | rfl
      · decide
      · exact okn c hc
      · decide
  · have a1 : cs ("9" : Str) = [57] := by decide +kernel
    refine bad_str (n := n ++ "9") (r := []) (fun x hx => ?_) (by show (n ++ "9").length ≤ _; rw [len_app, l9]; omega) ?_
    · rw [List.mem_singleton.mp hx]
      refine ⟨Nn.pl.app fun c hc => ?_, ?_⟩
      · rw [a1, List.mem_singleton] at hc; rw [hc]; decide
      · unfold Mp.freeOf; rw [cs_app, a1, List.mem_append]
        rintro (z | z)
        · exact free_nm Nn z
        · simp at z
    · rw [inLay_cons, decide_eq_false (not_name F.nm (c := 57) (by rw [cs_app, a1]; simp) (by decide))]; rfl
  · have a1 : cs ("None" : Str) = [78, 111, 110, 101] := by decide +kernel
    refine bad_str (n := "None") (r := []) (fun x hx => ?_) (by decide +kernel) ?_
    · rw [List.mem_singleton.mp hx]
      refine ⟨fun c hc => ?_, ?_⟩
      · rw [a1] at hc
        simp only [List.mem_cons, List.not_mem_nil, or_false] at hc
        rcases hc with rfl | rfl | rfl | rfl <;> decide
      · unfold Mp.freeOf; rw [a1]; decide
    · rw [inLay_cons, decide_eq_false (not_name F.nm (c := 78) (by rw [a1]; simp) (by decide))]; rfl
  · have a1 : cs (" " : Str) = [32] := by decide +kernel
    refine bad_str (n := n ++ " ") (r := []) (fun x hx => ?_) (by show (n ++ " ").length ≤ _; rw [len_app, lb]; omega) ?_
    · rw [List.mem_singleton.mp hx]
      refine ⟨Nn.pl.app fun c hc => ?_, ?_⟩
      · rw [a1, List.mem_singleton] at hc; rw [hc]; decide
      · unfold Mp.freeOf; rw [cs_app, a1, List.mem_append]
        rintro (z | z)
        · exact free_nm Nn z
        · simp at z
    · rw [inLay_cons, decide_eq_false (not_name F.nm (c := 32) (by rw [cs_app, a1]; simp) (by decide))]; rfl
  · exact bI (t := .ty "dict") (p := .dict []) (x := "{}") rfl (fun _ => rfl) (by decide +kernel) (fun _ => rfl) (by decide +kernel) (by decide +kernel) (by decide +kernel) (by decide +kernel) (by decide +kernel) (by simp [D.nc, D.ncs])
  · have a1 : cs (".." : Str) = [46, 46] := by decide +kernel
    have e : n ++ ".." = pathS [n, "", ""] := by
      apply str_ext
      unfold pathS
      have a2 : cs ("" : Str) = [] := by decide +kernel
      rw [cs_join_cons _ _ _ (by simp), cs_join_cons _ _ _ (by simp), cs_app, a1]
      show _ = cs n ++ [46] ++ (cs ("" : Str) ++ [46] ++ cs ("" : Str))
      rw [a2]
      simp
    rw [e]
    refine bad_str (fun x hx => ?_) ?_ ?_
    · simp only [List.mem_cons, List.not_mem_nil, or_false] at hx
      rcases hx with rfl | rfl | rfl
      · exact nm_pf Nn
      · exact pl_empty
      · exact pl_empty
    · rw [← e, len_app, ld]; omega
    · rw [inLay_cons]; simp [ef]
  · exact bI (t := .ty "tuple") (p := .tuple []) (x := "()") rfl (fun _ => rfl) (by decide +kernel) (fun _ => rfl) (by decide +kernel) (by decide +kernel) (by decide +kernel) (by decide +kernel) (by decide +kernel) (by simp [D.nc, D.ncs])
/-! ### facts compared -/
def wS (w : Bool) : Str := if w then "is" else "is not"
def vEq : Option (List Str) → Option (List Str) → Bool
  | none, none => true
  | some l, some r => decide (pathS l = pathS r)
  | _, _ => false
theorem eq_vD {s : Store} (a b : Option (List Str)) : eqS s (vD a) (vD b) = some (vEq a b) := by cases a <;> cases b <;> rfl
theorem eq_wD {s : Store} (w v : Bool) : eqS s (wordD w) (wordD v) = some (decide (wS w = wS v)) := rfl
def EE (a : Option (List Str)) (w : Bool) (b : Option (List Str)) (a' : Option (List Str)) (w' : Bool) (b' : Option (List Str)) : Bool := vEq a a' && (decide (wS w = wS w') && vEq b b')
theorem vEq_refl (a : Option (List Str)) : vEq a a = true := by cases a <;> simp [vEq]
theorem EE_refl (a : Option (List Str)) (w : Bool) (b : Option (List Str)) : EE a w b a w b = true := by simp [EE, vEq_refl]
def pv : Option (List Str) → PyData
  | none => .none
  | some l => .str (pathS l)
/-- the path's text is plain -/
def VPl (o : Option (List Str)) : Prop := ∀ l, o = some l → Pl (pathS l)
theorem VOk.pl {ns fs : List Str} {m : Nat} {o : Option (List Str)} (F : Frm ns fs) (h : VOk ns fs m o) : VPl o := fun l e => by
  obtain ⟨n, r, rfl, h1, h2, _⟩ := h l e
  refine Pl.path fun x hx => ?_
  rcases List.mem_cons.mp hx with rfl | hx
  · exact (F.nm _ h1).pl
  · exact (F.fm _ (h2 x hx)).pl
theorem pv_lay {o : Option (List Str)} (h : VPl o) : PyData.canLay0 (pv o) = true ∧ PyData.depth (pv o) = 0 := by
  cases o with
  | none => exact ⟨rfl, rfl⟩
  | some l => exact ⟨by simp only [pv, PyData.canLay0]; exact (h l rfl).ok, by simp [pv, PyData.depth]⟩
theorem pv_eqv (a b : Option (List Str)) : PyData.eqv (pv a) (pv b) = vEq a b := by
  cases a <;> cases b <;> simp [pv, PyData.eqv, vEq]
  rw [Bool.eq_iff_iff]
  simp
theorem wS_ok (w : Bool) : PyData.strOk (wS w) = true := by cases w <;> decide +kernel
theorem eq_factT {s : Store} {a b a' b' : Option (List Str)} {w w' : Bool} (h1 : VPl a) (h2 : VPl b) (h3 : VPl a') (h4 : VPl b') : eqS s (factT a w b) (factT a' w' b') = some (EE a w b a' w' b') := by
  have e : ∀ (a : Option (List Str)) (w : Bool) (b : Option (List Str)), D.data (factT a w b) = some (.tuple [pv a, .str (wS w), pv b]) := fun a w b => by
    have e1 : ∀ a, D.data (vD a) = some (pv a) := fun a => by cases a <;> simp [vD, pv, D.data]
    simp [factT, D.data, D.datas, e1, wordD, wS]
  have sh : ∀ {a : Option (List Str)} {w : Bool} {b : Option (List Str)}, VPl a → VPl b → SeqAt.shaped (.tuple [pv a, .str (wS w), pv b]) = true := fun {a w b} ha hb => by
    obtain ⟨q1, q2⟩ := pv_lay ha
    obtain ⟨q3, q4⟩ := pv_lay hb
    simp [SeqAt.shaped, PyData.canLay0, PyData.canLayAll0, q1, q3, wS_ok, PyData.depth, PyData.depthAll, q2, q4]
  have u : ∀ (x y : PyData), dataS s (factT a w b) = some x → dataS s (factT a' w' b') = some y → SeqAt.shaped x = true → SeqAt.shaped y = true → eqS s (factT a w b) (factT a' w' b') = some (PyData.eqv x y) := fun x y d1 d2 s1 s2 => by
    unfold eqS
    have : scalD (factT a w b) (factT a' w' b') = none := rfl
    rw [this, d1, d2]
    dsimp only
    rw [s1, s2]
    rfl
  rw [u _ _ (e a w b) (e a' w' b') (sh h1 h2) (sh h3 h4)]
  simp only [PyData.eqv, PyData.eqvAll, pv_eqv, Bool.and_true]
  unfold EE
  congr 2
theorem fact_eq_ok {st : Store} {a b a' b' : Option (List Str)} {w w' : Bool} {Q : D → Store → Prop} {Y : Ex → Store → Prop} (h : Q (.bl (EE a w b a' w' b')) st) : wpF (f_Fact___eq__ [fcD (vD a) (wordD w) (vD b), fcD (vD a') (wordD w') (vD b')] st) Q Y := by
  unfold f_Fact___eq__
  refine wpF_fn rfl ?_
  show wp b_Fact___eq__ [some (fcD (vD a) (wordD w) (vD b)), some (fcD (vD a') (wordD w') (vD b'))] st _ _
  unfold b_Fact___eq__
  repeat walk_at "m"
  refine ⟨.bl true, isi_one (t := .own "Fact") (u := .own "Fact") rfl rfl (by decide +kernel), ?_⟩
  refine ⟨_, rfl, ?_⟩
  repeat walk_at "m"
  refine ⟨_, fc_one, ?_⟩
  repeat walk_at "m"
  refine ⟨_, fc_one, ?_⟩
  refine wp_eq0 (eq_vD _ _) ⟨_, rfl, ?_⟩
  unfold EE at h
  cases h1 : vEq a a' with
  | false => rw [h1] at h; exact h
  | true =>
    rw [h1] at h
    dsimp only
    repeat walk_at "m"
    refine ⟨_, fc_word, ?_⟩
    repeat walk_at "m"
    refine ⟨_, fc_word, ?_⟩
    refine wp_eq0 (eq_wD _ _) ⟨_, rfl, ?_⟩
    cases h2 : decide (wS w = wS w') with
    | false => rw [h2] at h; exact h
    | true =>
      rw [h2] at h
      dsimp only
      repeat walk_at "m"
      refine ⟨_, fc_other, ?_⟩
      repeat walk_at "m"
      refine ⟨_, fc_other, ?_⟩
      exact wp_eq0 (eq_vD _ _) h
theorem fact_eq_no {st : Store} {x y : D} {t : Tg} (e : tagD st y = some t) (hi : isi t (.own "Fact") = some false) {Q : D → Store → Prop} {Y : Ex → Store → Prop} (h : Q (.bl false) st) : wpF (f_Fact___eq__ [x, y] st) Q Y := by
  unfold f_Fact___eq__
  refine wpF_fn rfl ?_
  show wp b_Fact___eq__ [some x, some y] st _ _
  unfold b_Fact___eq__
  repeat walk_at "m"
  refine ⟨.bl false, isi_one (u := .own "Fact") e rfl hi, ?_⟩
  refine ⟨_, rfl, ?_⟩
  repeat walk_at "m"
  exact h
theorem nc_vD (o : Option (List Str)) : (vD o).nc = true := by cases o <;> simp [vD, D.nc]
theorem nc_wD (w : Bool) : (wordD w).nc = true := by simp [wordD, D.nc]
theorem tag_vD (st : Store) (o : Option (List Str)) : tagD st (vD o) = some (.ty (match o with | none => "NoneType" | some _ => "str")) := by cases o <;> rfl
theorem Kp.nil {S : List Nat} {a b : Store} (h : Kp [] a b) : Kp S a b := h.more fun n hn => by cases hn
theorem alike_ok {st : Store} {a b a' b' : Option (List Str)} {w w' : Bool} (h1 : VPl a) (h2 : VPl b) (h3 : VPl a') (h4 : VPl b') {Q : D → Store → Prop} {Y : Ex → Store → Prop} (h : ∀ st', Kp [] st st' → Q (.bl true) st') : wpF (f_law_alike_right [factT a w b, factT a' w' b'] st) Q Y := by
  unfold f_law_alike_right
  refine wpF_fn rfl ?_
  show wp b_law_alike_right [some (factT a w b), some (factT a' w' b'), none, none] st _ _
  unfold b_law_alike_right
  have t0 : ∀ {a w b}, atI [vD a, wordD w, vD b] 0 = some (vD a) := fun {a w b} => atI_nat (k := 0) rfl
  have t1 : ∀ {a w b}, atI [vD a, wordD w, vD b] 1 = some (wordD w) := fun {a w b} => atI_nat (k := 1) rfl
  have t2 : ∀ {a w b}, atI [vD a, wordD w, vD b] 2 = some (vD b) := fun {a w b} => atI_nat (k := 2) rfl
  repeat walk_at "m"
  refine wp_ixT t0 ?_
  repeat walk_at "m"
  refine wp_ixT t1 ?_
  repeat walk_at "m"
  refine wp_ixT t2 ?_
  repeat walk_at "m"
  refine fact_make (nc_vD a) (nc_wD w) (nc_vD b) fun s1 k1 => ?_
  repeat walk_at "m"
  refine wp_ixT t0 ?_
  repeat walk_at "m"
  refine wp_ixT t1 ?_
  repeat walk_at "m"
  refine wp_ixT t2 ?_
  repeat walk_at "m"
  refine fact_make (nc_vD a') (nc_wD w') (nc_vD b') fun s2 k2 => ?_
  refine ⟨_, _, rfl, ?_⟩
  repeat walk_at "m"
  have tg : ∀ {s : Store} {x y z : D}, tagD s (fcD x y z) = some (.own "Fact") := fun {s x y z} => rfl
  have nfF : nf "Fact" (.own "Fact") = true := by decide +kernel
  refine wp_eqM (C := "Fact") (m := f_Fact___eq__) rfl rfl tg nfF ?_
  refine fact_eq_ok ⟨_, rfl, ?_⟩
  repeat walk_at "m"
  refine wp_eqM0 rfl ?_
  refine wp_eq0 (eq_factT h1 h2 h3 h4) ?_
  refine wp_eqM0 rfl ?_
  show wp (ne0 (.bl (EE a w b a' w' b')) (.bl (EE a w b a' w' b'))) _ _ _ _
  refine wp_ne0 (b := true) (by rw [eq_bl]; simp) ⟨_, rfl, ?_⟩
  repeat walk_at "m"
  refine wp_ixT t0 ?_
  repeat walk_at "m"
  refine wp_ixT t1 ?_
  repeat walk_at "m"
  refine wp_ixT t2 ?_
  repeat walk_at "m"
  refine fact_make (nc_vD a) (nc_wD w) (nc_vD b) fun s3 k3 => ?_
  refine wp_eqM (C := "Fact") (m := f_Fact___eq__) rfl rfl tg nfF ?_
  refine fact_eq_ok ⟨_, rfl, ?_⟩
  rw [EE_refl]
  refine ⟨_, rfl, ?_⟩
  show wp (M.pure Ctl.nx) _ _ _ _
  repeat walk_at "m"
  refine wp_eqM (C := "Fact") (m := f_Fact___eq__) rfl rfl tg nfF ?_
  refine fact_eq_ok ⟨_, rfl, ?_⟩
  repeat walk_at "m"
  refine wp_eqM0 rfl ?_
  refine wp_ne0 (eq_factT h1 h2 h3 h4) ?_
  have fin : ∀ x : Bool, x = EE a w b a' w' b' → wp (eqM false nf t_eq_Fact eq0 (.bl (if true = true then !EE a w b a' w' b' else EE a w b a' w' b')) (.bl (!x))) [some (factT a w b), some (factT a' w' b'), some (fcD (vD a) (wordD w) (vD b)), some (fcD (vD a') (wordD w') (vD b'))] s3 (fun d f s => ∃ k, d.truth = some k ∧ match k with | true => wp (mAndV (mBinM (eqM true nf t_eq_Fact ne0) (mVar 2) (mVar 0)) (mBinM (eqM true nf t_eq_Fact ne0) (mVar 2) (mBinM ix0 (mVar 0) (M.pure (.int 0))))) f s (fun d f s => Q d s) (fun x _ s => Y x s) | false => Q d s) (fun x _ s => Y x s) := by
    intro x hx
    subst hx
    refine wp_eqM0 rfl ?_
    refine wp_eq0 (b := true) (by rw [eq_bl]; simp) ⟨_, rfl, ?_⟩
    repeat walk_at "m"
    refine wp_eqM (C := "Fact") (m := f_Fact___eq__) (t := .ty "tuple") rfl rfl rfl (by decide +kernel) ?_
    refine fact_eq_no (t := .ty "tuple") rfl (by decide +kernel) ⟨_, rfl, ?_⟩
    refine ⟨_, rfl, ?_⟩
    show wp (mBinM (eqM true nf t_eq_Fact ne0) (mVar 2) (mBinM ix0 (mVar 0) (M.pure (.int 0)))) _ _ _ _
    repeat walk_at "m"
    refine wp_ixT t0 ?_
    cases a with
    | none =>
      refine wp_eqM (C := "Fact") (m := f_Fact___eq__) (t := .ty "NoneType") rfl rfl rfl (by decide +kernel) ?_
      exact fact_eq_no (t := .ty "NoneType") rfl (by decide +kernel) ⟨_, rfl, h s3 (k1.trans (k2.trans k3))⟩
    | some l =>
      refine wp_eqM (C := "Fact") (m := f_Fact___eq__) (t := .ty "str") rfl rfl rfl (by decide +kernel) ?_
      exact fact_eq_no (t := .ty "str") rfl (by decide +kernel) ⟨_, rfl, h s3 (k1.trans (k2.trans k3))⟩
  cases hE : EE a w b a' w' b' with
  | true =>
    have z := fin true hE.symm
    rw [hE] at z
    exact z
  | false =>
    have z := fin false hE.symm
    rw [hE] at z
    exact z
theorem layout_make {st : Store} {t u : Bool} {ns fs : List Str} (F : Frm ns fs) {Q : D → Store → Prop} {Y : Ex → Store → Prop} (h : ∀ st', Kp [] st st' → Q (layD ns fs) st') : mkF "Layout" f_Layout___init__ [sqD t (ns.map D.str), sqD u (fs.map D.str)] st Q Y := by
  unfold mkF
  refine layout_init_ok F new_same fun s g k => ?_
  refine ⟨rfl, "Layout", _, _, g, h _ ⟨?_, fun n hn _ => ?_, fun z => nc_setN (k.nc (nc_new z (by simp [MO.nc, D.ncs])))⟩⟩
  · have := k.nx
    show st.next ≤ s.next
    have e : (st.new (.ins "Layout" [] [])).next = st.next + 1 := rfl
    omega
  · rw [set_ne (by omega), k.old n (by show n < st.next + 1; omega) (by simp; omega), new_ne (by omega)]
theorem graph_make {st : Store} {ns fs : List Str} {many : Nat} {nv : List (Option Nat)} {ov : List (List (Option Nat))} (F : Frm ns fs) (S : Shp ns fs many nv ov) (hm : many ≤ 12) {Q : D → Store → Prop} {Y : Ex → Store → Prop}
    (h : ∀ hh st', st.next ≤ hh → GAt ns fs many hh (WW ns fs nv ov) st' → Kp [] st st' → Q (gD ns fs many hh) st') : mkF "Graph" f_Graph___init__ [layD ns fs, nvD nv, ovD ov] st Q Y := by
  unfold mkF
  refine graph_init_ok F S hm new_same (Nat.lt_succ_self _) fun hh s q1 q2 g da k => ?_
  have e : (st.new (.ins "Graph" [] [])).next = st.next + 1 := rfl
  rw [e] at q1
  have da' : DAt hh (WW ns fs nv ov) (s.set st.next none) := ⟨by rw [set_ne (by omega)]; exact da.at_, da.nd, da.ov⟩
  refine ⟨rfl, "Graph", _, _, g, h hh _ (by omega) (da'.gat F S hm q2) ⟨?_, fun n hn _ => ?_, fun z => nc_setN (k.nc (nc_new z (by simp [MO.nc, D.ncs])))⟩⟩
  · have := k.nx
    show st.next ≤ s.next
    omega
  · rw [set_ne (by omega), k.old n (by omega) (by simp; omega), new_ne (by omega)]
def elseL : List Str := ["q", "w", "u", "v"]
theorem elseL_nm : ∀ x ∈ elseL, Nm x := by
  have one : ∀ (x : Str) (c : Nat), cs x = [c] → 97 ≤ c → c ≤ 122 → x ∉ takenL → Nm x := fun x c e h1 h2 h3 => ⟨by rw [e]; simp, by rw [e]; simp, fun a ha => by rw [e, List.mem_singleton] at ha; omega, h3⟩
  intro x hx
  simp only [elseL, List.mem_cons, List.not_mem_nil, or_false] at hx
  rcases hx with rfl | rfl | rfl | rfl
  · exact one _ 113 (by decide +kernel) (by decide) (by decide) (by decide +kernel)
  · exact one _ 119 (by decide +kernel) (by decide) (by decide) (by decide +kernel)
  · exact one _ 117 (by decide +kernel) (by decide) (by decide) (by decide +kernel)
  · exact one _ 118 (by decide +kernel) (by decide) (by decide) (by decide +kernel)
theorem isV_else {ns fs : List Str} {n' : Str} {m : Nat} {l : List Str} (F : Frm ns fs) (hn : n' ∉ ns) (p : Pth ns fs m l) (hm : m ≤ 2) : IsV [n'] fs (.str (pathS l)) false := by
  have q2 := free_pth F p
  have q3 := p.len F (by omega)
  obtain ⟨n, r, rfl, h1, _⟩ := p
  have := isV_path (ns := [n']) (fs := fs) q2 (by omega)
  have e : inLay [n'] fs (n :: r) = false := by
    rw [inLay_cons, decide_eq_false (fun z => hn (by rw [← List.mem_singleton.mp z]; exact h1))]
    rfl
  rw [e] at this
  exact this
theorem sho_vD {ns fs : List Str} {m : Nat} {l : List Str} (F : Frm ns fs) (p : Pth ns fs m l) (hm : m ≤ 2) : Sho (.str (pathS l)) (reprText (pathS l)) := by
  refine sho_str ?_ (by have := p.len F (by omega); omega)
  have : VPl (some l) := VOk.pl (m := m) F fun l' e => by cases e; exact p
  exact this l rfl
theorem else_ok {st : Store} {ns fs : List Str} {m : Nat} {a b : Option (List Str)} {w : Bool} (F : Frm ns fs) (pa : VOk ns fs m a) (pb : VOk ns fs m b) (hm : m ≤ 2) {Q : D → Store → Prop} {Y : Ex → Store → Prop} (h : ∀ st', Kp [] st st' → Q (.bl true) st') : wpF (f_law_elsewhere_right [frD ns fs, fcD (vD a) (wordD w) (vD b), factT a w b] st) Q Y := by
  unfold f_law_elsewhere_right
  refine wpF_fn rfl ?_
  show wp b_law_elsewhere_right [some (frD ns fs), some (fcD (vD a) (wordD w) (vD b)), some (factT a w b), none, none, none, none, none, none] st _ _
  unfold b_law_elsewhere_right
  repeat walk_at "m"
  refine ⟨sz (by simp), ?_⟩
  repeat walk_at "m"
  refine ⟨(elseL.map D.str, fun _ => true), rfl, ?_⟩
  refine wp_compP (fun d => match d with | .str x => if x ∈ ns then none else some (.str x) | _ => none) (by rw [List.length_map]; exact sz (by decide)) ?_ ?_
  · intro y hy
    obtain ⟨x, _, rfl⟩ := List.mem_map.mp hy
    repeat walk_at "m"
    refine wp_ixT (z := .tup (ns.map D.str)) (atI_nat (k := 0) rfl) ?_
    refine wp_nin0 (in_strs (l := ns) rfl (fun _ z => by cases z)) ?_
    by_cases hx : x ∈ ns
    · rw [decide_eq_true hx]
      refine ⟨_, rfl, ?_⟩
      dsimp only
      rw [if_pos hx]
      exact ⟨rfl, rfl⟩
    · rw [decide_eq_false hx]
      refine ⟨_, rfl, ?_⟩
      dsimp only
      repeat walk_at "m"
      rw [if_neg hx]
      exact ⟨rfl, rfl⟩
  have hfil : ∀ l : List Str, (l.map D.str).filterMap (fun d => match d with | .str x => if x ∈ ns then none else some (D.str x) | _ => none) = (l.filter fun x => !decide (x ∈ ns)).map D.str := fun l => by
    induction l with
    | nil => rfl
    | cons y l ih =>
      rw [List.map_cons, List.filterMap_cons, List.filter_cons]
      by_cases hy : y ∈ ns
      · simp only [if_pos hy, ih, decide_eq_true hy, Bool.not_true, Bool.false_eq_true, if_false]
      · simp only [if_neg hy, ih, decide_eq_false hy, Bool.not_false, if_true, List.map_cons]
  rw [hfil]
  have ne : ∃ y t, (elseL.filter fun x => !decide (x ∈ ns)) = y :: t := by
    cases hq : elseL.filter (fun x => !decide (x ∈ ns)) with
    | cons y t => exact ⟨y, t, rfl⟩
    | nil =>
      have hs : ∀ x ∈ elseL, x ∈ ns := fun x hx => Classical.byContradiction fun hn => by
        have : x ∈ elseL.filter fun x => !decide (x ∈ ns) := by
          rw [List.mem_filter]
          exact ⟨hx, by simp only [decide_eq_false hn, Bool.not_false]⟩
        rw [hq] at this
        cases this
      have := nodup_sub (l := elseL) (by decide +kernel) hs
      have := F.n3
      have e4 : elseL.length = 4 := rfl
      omega
  obtain ⟨n', t, hy⟩ := ne
  have hm' : n' ∈ elseL.filter fun x => !decide (x ∈ ns) := by rw [hy]; simp
  rw [List.mem_filter] at hm'
  have hn' : n' ∉ ns := by simpa using hm'.2
  have Nn := elseL_nm n' hm'.1
  rw [hy]
  have F' : Frm [n'] fs := ⟨by simp, by simp, F.f1, F.f2, by simp, F.fd, fun x hx => by rw [List.mem_singleton.mp hx]; exact Nn, F.fm⟩
  repeat walk_at "m"
  refine wp_ixL (z := .str n') (atI_nat (k := 0) rfl) ?_
  repeat walk_at "m"
  refine ⟨sz (by simp), ?_⟩
  repeat walk_at "m"
  refine wp_ixT (z := .tup (fs.map D.str)) (atI_nat (k := 1) rfl) ?_
  repeat walk_at "m"
  refine layout_make (t := false) (u := true) (ns := [n']) F' fun s1 k1 => ?_
  repeat walk_at "m"
  refine ⟨sz (by simp), ?_⟩
  repeat walk_at "m"
  refine ⟨sz (by simp), ?_⟩
  repeat walk_at "m"
  refine wp_ixT (z := .tup (fs.map D.str)) (atI_nat (k := 1) rfl) ?_
  repeat walk_at "m"
  refine ⟨.int fs.length, by show some (D.int (fs.map D.str).length) = _; rw [List.length_map], ?_⟩
  have hf2 := F.f2
  refine wp_liftS (a := .lst ((List.replicate fs.length (none : Option Nat)).map oD)) ?_ ?_
  · unfold mulD
    dsimp only
    rw [if_pos ⟨by omega, by omega, by rw [Int.toNat_natCast]; exact sz (by simp; omega)⟩, Int.toNat_natCast]
    congr 2
    generalize fs.length = j
    induction j with
    | zero => rfl
    | succ j ih => rw [List.replicate_succ, List.flatten_cons, ih, List.replicate_succ, List.map_cons]; rfl
  repeat walk_at "m"
  refine ⟨sz (by simp), ?_⟩
  repeat walk_at "m"
  have S : Shp [n'] fs 1 [some 0] [List.replicate fs.length none] := by
    refine ⟨rfl, ?_, rfl, ?_, ?_⟩
    · intro o ho i e
      rw [List.mem_singleton.mp ho] at e
      cases e
      decide
    · intro r hr
      rw [List.mem_singleton.mp hr, List.length_replicate]
    · intro r hr o ho i e
      rw [List.mem_singleton.mp hr] at ho
      rw [List.eq_of_mem_replicate ho] at e
      cases e
  refine graph_make (nv := [some 0]) (ov := [List.replicate fs.length none]) F' S (by decide) fun hh s2 q1 g k2 => ?_
  repeat walk_at "m"
  refine wp_ixT (z := vD a) (atI_nat (k := 0) rfl) ?_
  repeat walk_at "m"
  refine wp_ixT (z := vD b) (atI_nat (k := 2) rfl) ?_
  repeat walk_at "m"
  refine ⟨sz (by simp), ?_⟩
  refine ⟨([vD a, vD b], fun _ => true), rfl, ?_⟩
  refine wp_compP (fun d => if d.isNon then none else some d) (by simp; exact sz (by decide)) ?_ ?_
  · intro y hy
    repeat walk_at "m"
    cases hq : y.isNon with
    | true =>
      dsimp only
      refine ⟨_, rfl, ?_⟩
      dsimp only
      rw [if_pos rfl]
      exact ⟨rfl, rfl⟩
    | false =>
      dsimp only
      refine ⟨_, rfl, ?_⟩
      repeat walk_at "m"
      exact ⟨rfl, rfl⟩
  have vn : ∀ o, (vD o).isNon = o.isNone := fun o => by cases o <;> rfl
  have kk : Kp [] st s2 := k1.trans k2
  -- the first value that is there
  have tell : ∀ (v : D) (x : Str) (r : List D), ((IsV [n'] fs (vD a) false ∧ v = vD a) ∨ (IsV [n'] fs (vD a) true ∧ IsV [n'] fs (vD b) false ∧ v = vD b)) → Sho v x → v.isNon = false → ([vD a, vD b].filterMap fun d => if d.isNon then none else some d) = v :: r → (∃ l, v = .str l) → eqS s2 (.lst (v :: r)) (.lst []) = some false →
      wp (newD false (.lst ([vD a, vD b].filterMap fun d => if d.isNon then none else some d))) [some (frD ns fs), some (fcD (vD a) (wordD w) (vD b)), some (factT a w b), some (.str n'), none, some (gD [n'] fs 1 hh), none, none, none] s2 (fun d f s => wp (gSet 6 d) f s (fun _ f s => wp (mSeq (mIf (mTt (mBinM eq0 (mVar 6) (mLstN false (mArgs [])))) (mSeq (mAsg (mCall f_law_path_of [] (mArgs [(mVar 1), (mVar 5)])) (gSet 8)) (mRet (mAndV (mCallB (isiB isi) (mArgs [(mVar 8), (M.pure (.ty "bool"))])) (mBinM eq0 (mVar 8) (mBinM eq0 (mBinM ix0 (mVar 2) (M.pure (.int 1))) (M.pure (.str "is"))))))) (M.pure .nx)) (mRet (mBinM eq0 (mCall f_law_path_of [] (mArgs [(mVar 1), (mVar 5)])) (mLstN false (mArgs [(M.pure (.str "path")), (mCallB reprB (mArgs [(mBinM ix0 (mVar 6) (M.pure (.int 0)))]))]))))) f s (fun c _ s => match c with | .nx => Q .non s | .rt d => Q d s | .bk => False | .ct => False) fun x _ s => Y x s) fun x _ s => Y x s) fun x _ s => Y x s := by
    intro v x r hv sh hnn hl hstr he
    rw [hl]
    repeat walk_at "m"
    refine ⟨by decide, ?_⟩
    walk_at "m"
    refine wp_eq0 he ⟨_, rfl, ?_⟩
    repeat walk_at "m"
    refine path_of_bad hv sh.toShw ?_
    repeat walk_at "m"
    refine wp_ixL (z := v) (atI_nat (k := 0) rfl) ?_
    repeat walk_at "m"
    refine ⟨_, sh.rep s2, ?_⟩
    repeat walk_at "m"
    refine ⟨sz (by simp), ?_⟩
    walk_at "m"
    exact wp_eq0 (eq_ref sh.ok) (h s2 kk)
  have e1 : ∀ l : List Str, VPl (some l) → eqS s2 (.lst [.str (pathS l)]) (.lst []) = some false := fun l hl => by
    unfold eqS dataS
    simp only [scalD, D.data, D.datas, Option.map_some]
    have : SeqAt.shaped (.list [.str (pathS l)]) = true := by simp [SeqAt.shaped, PyData.canLay0, PyData.canLayAll0, (hl l rfl).ok, PyData.depth, PyData.depthAll]
    rw [this]
    rfl
  have e2 : ∀ l r : List Str, VPl (some l) → VPl (some r) → eqS s2 (.lst [.str (pathS l), .str (pathS r)]) (.lst []) = some false := fun l r hl hr => by
    unfold eqS dataS
    simp only [scalD, D.data, D.datas, Option.map_some]
    have : SeqAt.shaped (.list [.str (pathS l), .str (pathS r)]) = true := by simp [SeqAt.shaped, PyData.canLay0, PyData.canLayAll0, (hl l rfl).ok, (hr r rfl).ok, PyData.depth, PyData.depthAll]
    rw [this]
    rfl
  have fpl : ∀ {l}, Pth ns fs m l → VPl (some l) := fun {l} p => VOk.pl (m := m) F fun l' e => by cases e; exact p
  cases a with
  | some l =>
    have p := pa l rfl
    cases b with
    | none => exact tell (.str (pathS l)) _ [] (.inl ⟨isV_else F hn' p hm, rfl⟩) (sho_vD F p hm) rfl rfl ⟨_, rfl⟩ (e1 l (fpl p))
    | some r => exact tell (.str (pathS l)) _ [.str (pathS r)] (.inl ⟨isV_else F hn' p hm, rfl⟩) (sho_vD F p hm) rfl rfl ⟨_, rfl⟩ (e2 l r (fpl p) (fpl (pb r rfl)))
  | none =>
    cases b with
    | some r =>
      have p := pb r rfl
      exact tell (.str (pathS r)) _ [] (.inr ⟨isV_non, isV_else F hn' p hm, rfl⟩) (sho_vD F p hm) rfl rfl ⟨_, rfl⟩ (e1 r (fpl p))
    | none =>
      show wp (newD false (.lst [])) _ _ _ _
      repeat walk_at "m"
      refine ⟨by decide, ?_⟩
      walk_at "m"
      refine wp_eq0 (b := true) rfl ⟨_, rfl, ?_⟩
      repeat walk_at "m"
      refine path_of_ok (m := 2) (a := none) (b := none) g (fun l e => by cases e) (fun l e => by cases e) (by decide) ?_
      repeat walk_at "m"
      refine ⟨.bl true, isi_one (t := .ty "bool") (u := .ty "bool") rfl rfl (by decide +kernel), ?_⟩
      refine ⟨_, rfl, ?_⟩
      repeat walk_at "m"
      refine wp_ixT (z := wordD w) (atI_nat (k := 1) rfl) ?_
      repeat walk_at "m"
      refine wp_eq0 (eq_str _ _) ?_
      rw [word_is]
      refine wp_eq0 (b := true) ?_ (h s2 kk)
      rw [eq_bl]
      have : hoB (WW [n'] fs [some 0] [List.replicate fs.length none]) none w none = w := by
        show decide (decide (none = none) = w) = w
        cases w <;> rfl
      rw [this]
      simp
/-! ### the law -/
noncomputable def b_in : M Ctl := (mSeq (mAsg (mCall f_law_shape [] (mArgs [(mVar 1), (mVar 3), (M.pure (.int 3))])) (gSet 6)) (mSeq (mAsg (mTup (mArgs [(mCall f_law_world [] (mArgs [(mVar 3), (mVar 6)])), (mMake "Graph" f_Graph___init__ [] true (mArgs [(mVar 4), (mBinM ix0 (mVar 6) (M.pure (.int 0))), (mBinM ix0 (mVar 6) (M.pure (.int 1)))]))])) (gTupD [(gSet 7), (gSet 8)])) (mSeq (mPar 9 10 (mArgs [(mMeth "contents" t_contents_Graph (mVar 8) (mArgs [])), (mCall f_law_fact [] (mArgs [(mVar 1), (mVar 3), (M.pure (.int 2))]))])) (mSeq (mAsg (mMake "Fact" f_Fact___init__ [] true (mArgs [(mBinM ix0 (mVar 10) (M.pure (.int 0))), (mBinM ix0 (mVar 10) (M.pure (.int 1))), (mBinM ix0 (mVar 10) (M.pure (.int 2)))])) (gSet 11)) (mSeq (mAsg (mCall f_law_path_of [] (mArgs [(mVar 11), (mVar 8)])) (gSet 12)) (mSeq (mIf (mOrT (mNotT (mTru (mCallB (isiB isi) (mArgs [(mVar 12), (M.pure (.ty "bool"))])))) (mTt (mBinM ne0 (mVar 12) (mCallL f_law_holds [] caps_law (qL 0 (qV (mVar 10) (M.pure []))))))) (mRet (M.pure (.bl false))) (M.pure .nx)) (mSeq (mIf (mOrT (mTt (mBinM ne0 (mTup (mArgs [(mAttr "one" a_one (mVar 11)), (mAttr "word" a_word (mVar 11)), (mAttr "other" a_other (mVar 11))])) (mVar 10))) (mTt (mBinM ne0 (mMeth "contents" t_contents_Graph (mVar 8) (mArgs [])) (mVar 9)))) (mRet (M.pure (.bl false))) (M.pure .nx)) (mSeq (mIf (mOrT (mNotT (mTru (mCall f_law_elsewhere_right [] (mArgs [(mVar 3), (mVar 11), (mVar 10)])))) (mTt (mBinM ne0 (mCall f_law_path_of [] (mArgs [(mVar 11), (mVar 8)])) (mVar 12)))) (mRet (M.pure (.bl false))) (M.pure .nx)) (mSeq (mPar 13 14 (mArgs [(mCall f_law_strange [] (mArgs [(mVar 1), (mVar 3)])), (mCall f_law_strange [] (mArgs [(mVar 1), (mVar 3)]))])) (mSeq (mAsg (mLstN false (mArgs [(mTup (mArgs [(mVar 13), (mBinM ix0 (mVar 10) (M.pure (.int 1))), (mBinM ix0 (mVar 10) (M.pure (.int 2)))])), (mTup (mArgs [(mBinM ix0 (mVar 10) (M.pure (.int 0))), (mBinM ix0 (mVar 10) (M.pure (.int 1))), (mVar 13)])), (mTup (mArgs [(mVar 13), (mBinM ix0 (mVar 10) (M.pure (.int 1))), (mVar 14)]))])) (gSet 15)) (mSeq (mAsg (mCall f_law_pick [] (mArgs [(mVar 1), (mVar 15)])) (gSet 16)) (mSeq (mIf (mTt (mBinM ne0 (mCall f_law_path_of [] (mArgs [(mMake "Fact" f_Fact___init__ [] true (mArgs [(mBinM ix0 (mVar 16) (M.pure (.int 0))), (mBinM ix0 (mVar 16) (M.pure (.int 1))), (mBinM ix0 (mVar 16) (M.pure (.int 2)))])), (mVar 8)])) (mLstN false (mArgs [(M.pure (.str "path")), (mCallB reprB (mArgs [(mVar 13)]))])))) (mRet (M.pure (.bl false))) (M.pure .nx)) (mSeq (mAsg (mLstN false (mArgs [(mVar 10), (mCall f_law_fact [] (mArgs [(mVar 1), (mVar 3), (M.pure (.int 1))])), (mCall f_law_fact [] (mArgs [(mVar 1), (mVar 3), (M.pure (.int 0))]))])) (gSet 15)) (mIf (mNotT (mTru (mCall f_law_alike_right [] (mArgs [(mVar 10), (mCall f_law_pick [] (mArgs [(mVar 1), (mVar 15)]))])))) (mRet (M.pure (.bl false))) (M.pure .nx)))))))))))))))
noncomputable def b_out : M Ctl := (mSeq (mAsg (mCall f_law_frame [] (mArgs [(mVar 1), (M.pure (.int 3)), (M.pure (.int 2))])) (gSet 3)) (mSeq (mAsg (mMake "Layout" f_Layout___init__ [] true (mArgs [(mListN false (mArgs [(mBinM ix0 (mVar 3) (M.pure (.int 0)))])), (mBinM ix0 (mVar 3) (M.pure (.int 1)))])) (gSet 4)) (mFor (mItR1 (mArgs [(M.pure (.int 4))])) (gSet 5) b_in)))
theorem in_ok {k g : Nat} {st : Store} {ns fs : List Str} {v0 v2 : Option D} (d : Drw k g st) (nc : st.nc) (F : Frm ns fs) {Q : Ctl → Fr → Store → Prop} {X : Ex → Fr → Store → Prop}
    (h : ∀ l s, l.length = 12 → Drw k g s → s.nc → Q .nx (v0 :: some (.ref k) :: v2 :: some (frD ns fs) :: some (layD ns fs) :: l) s) {a5 a6 a7 a8 a9 a10 a11 a12 a13 a14 a15 a16 : Option D} : wp b_in [v0, some (.ref k), v2, some (frD ns fs), some (layD ns fs), a5, a6, a7, a8, a9, a10, a11, a12, a13, a14, a15, a16] st Q X := by
  unfold b_in
  repeat walk_at "m"
  refine shape_ok (m := 3) d F (by omega) (by omega) fun many nv ov s1 hm S d1 k1 => ?_
  have hm : many ≤ 12 := by omega
  repeat walk_at "m"
  refine world_ok F S (by omega) fun ww s2 p1 p2 da k2 => ?_
  repeat walk_at "m"
  refine wp_ixT (z := nvD nv) (atI_nat (k := 0) rfl) ?_
  repeat walk_at "m"
  refine wp_ixT (z := ovD ov) (atI_nat (k := 1) rfl) ?_
  repeat walk_at "m"
  refine graph_make F S hm fun hh s3 q1 gg k3 => ?_
  have gw : GAt ns fs many ww (WW ns fs nv ov) s3 := (da.gat F S hm p2).keep k3 (by simp)
  have kg1 : k < s1.next ∧ g < s1.next := ⟨d1.kn, d1.gn⟩
  have n12 : s1.next ≤ s2.next := k2.nx
  have d3 : Drw k g s3 := (d1.keep k2 (by simp) (by simp)).keep k3 (by simp) (by simp)
  have wk : ww ∉ [k, g] := by simp; omega
  have hk : hh ∉ [k, g] := by simp; omega
  have nc3 : s3.nc := k3.nc (k2.nc (k1.nc nc))
  repeat walk_at "m"
  refine ⟨sz (by simp), ?_⟩
  repeat walk_at "m"
  refine ⟨f_Graph_contents, rfl, ?_⟩
  repeat walk_at "m"
  refine contents_ok F hm gg.toDAt gg.pl gg.hq gg.has fun s4 k4 => ?_
  repeat walk_at "m"
  refine fact_ok (m := 2) (d3.keep k4 (by simp) (by simp)) F (by omega) (by omega) fun a b w s5 pa pb d5 k5 => ?_
  have pa : VOk ns fs 2 a := pa
  have pb : VOk ns fs 2 b := pb
  repeat walk_at "m"
  refine ⟨_, _, rfl, ?_⟩
  have t0 : atI [vD a, wordD w, vD b] 0 = some (vD a) := atI_nat (k := 0) rfl
  have t1 : atI [vD a, wordD w, vD b] 1 = some (wordD w) := atI_nat (k := 1) rfl
  have t2 : atI [vD a, wordD w, vD b] 2 = some (vD b) := atI_nat (k := 2) rfl
  repeat walk_at "m"
  refine wp_ixT t0 ?_
  repeat walk_at "m"
  refine wp_ixT t1 ?_
  repeat walk_at "m"
  refine wp_ixT t2 ?_
  repeat walk_at "m"
  refine fact_make (nc_vD a) (nc_wD w) (nc_vD b) fun s6 k6 => ?_
  have gw6 := ((gw.keep k4 (by simp)).keep k5 wk).keep k6 (by simp)
  have gh6 := ((gg.keep k4 (by simp)).keep k5 hk).keep k6 (by simp)
  have nc6 : s6.nc := k6.nc (k5.nc (k4.nc nc3))
  have d6 := d5.keep k6 (by simp) (by simp)
  repeat walk_at "m"
  refine path_of_ok gh6 pa pb (by omega) ?_
  generalize hB : hoB (WW ns fs nv ov) a w b = B
  repeat walk_at "m"
  refine ⟨.bl true, isi_one (t := .ty "bool") (u := .ty "bool") rfl rfl (by decide +kernel), ?_⟩
  refine ⟨_, rfl, ?_⟩
  repeat walk_at "m"
  refine ⟨_, rfl, ?_⟩
  refine lholds_ok gw6 nc6 pa pb (by omega) ⟨by simp [D.nc], nc6, ?_⟩
  rw [hB]
  refine wp_ne0 (b := true) (by rw [eq_bl]; simp) ⟨_, rfl, ?_⟩
  repeat walk_at "m"
  refine ⟨_, fc_one, ?_⟩
  repeat walk_at "m"
  refine ⟨_, fc_word, ?_⟩
  repeat walk_at "m"
  refine ⟨_, fc_other, ?_⟩
  repeat walk_at "m"
  refine ⟨sz (by simp), ?_⟩
  repeat walk_at "m"
  refine wp_ne0 (b := true) ?_ ⟨_, rfl, ?_⟩
  · show eqS s6 (factT a w b) (factT a w b) = some true
    rw [eq_factT (VOk.pl F pa) (VOk.pl F pb) (VOk.pl F pa) (VOk.pl F pb), EE_refl]
  repeat walk_at "m"
  refine ⟨f_Graph_contents, rfl, ?_⟩
  repeat walk_at "m"
  refine contents_ok F hm gh6.toDAt gh6.pl gh6.hq gh6.has fun s7 k7 => ?_
  repeat walk_at "m"
  have eqc : ∀ s, eqS s (.lst ((cellsL ns fs many).map (GV (WW ns fs nv ov)))) (.lst ((cellsL ns fs many).map (GV (WW ns fs nv ov)))) = some true := fun s => by
    have e : (cellsL ns fs many).map (GV (WW ns fs nv ov)) = ((cellsL ns fs many).map (lo (WW ns fs nv ov))).map oD := by
      rw [List.map_map]
      refine List.map_congr_left fun c hc => ?_
      show GV (WW ns fs nv ov) c = oD (lo (WW ns fs nv ov) c)
      unfold GV
      rw [(gg.has.lo hc).1]
      rfl
    rw [e]
    exact eq_oDs _
  refine wp_ne0 (b := true) (eqc s7) ⟨_, rfl, ?_⟩
  repeat walk_at "m"
  have gh7 := gh6.keep k7 (by simp)
  have d7 := d6.keep k7 (by simp) (by simp)
  refine else_ok (m := 2) F pa pb (by omega) fun s8 k8 => ?_
  have gh8 := gh7.keep k8 (by simp)
  have d8 := d7.keep k8 (by simp) (by simp)
  refine ⟨_, rfl, ?_⟩
  repeat walk_at "m"
  refine path_of_ok gh8 pa pb (by omega) ?_
  rw [hB]
  repeat walk_at "m"
  refine wp_ne0 (b := true) (by rw [eq_bl]; simp) ⟨_, rfl, ?_⟩
  repeat walk_at "m"
  refine strange_ok d8 F fun x s9 bx d9 k9 => ?_
  repeat walk_at "m"
  refine strange_ok d9 F fun y s10 by_ d10 k10 => ?_
  repeat walk_at "m"
  refine ⟨_, _, rfl, ?_⟩
  repeat walk_at "m"
  refine wp_ixT t1 ?_
  repeat walk_at "m"
  refine wp_ixT t2 ?_
  repeat walk_at "m"
  refine ⟨sz (by simp), ?_⟩
  repeat walk_at "m"
  refine wp_ixT t0 ?_
  repeat walk_at "m"
  refine wp_ixT t1 ?_
  repeat walk_at "m"
  refine ⟨sz (by simp), ?_⟩
  repeat walk_at "m"
  refine wp_ixT t1 ?_
  repeat walk_at "m"
  refine ⟨sz (by simp), ?_⟩
  repeat walk_at "m"
  refine ⟨sz (by simp), ?_⟩
  repeat walk_at "m"
  refine pick_ok d10 (.inl rfl) (by simp) (by simp) fun z s11 hz d11 k11 => ?_
  have gh11 := ((gh8.keep k9 hk).keep k10 hk).keep k11 hk
  have nc11 : s11.nc := k11.nc (k10.nc (k9.nc (k8.nc (k7.nc nc6))))
  obtain ⟨z0, z2, rfl, hv, n0, n2⟩ : ∃ z0 z2 : D, z = .tup [z0, wordD w, z2] ∧ ((IsV ns fs z0 false ∧ x = z0) ∨ (IsV ns fs z0 true ∧ IsV ns fs z2 false ∧ x = z2)) ∧ z0.nc = true ∧ z2.nc = true := by
    simp only [List.mem_cons, List.not_mem_nil, or_false] at hz
    rcases hz with rfl | rfl | rfl
    · exact ⟨_, _, rfl, .inl ⟨bx.is, rfl⟩, bx.nc, nc_vD b⟩
    · exact ⟨_, _, rfl, .inr ⟨isV_vD F pa (by omega), bx.is, rfl⟩, nc_vD a, bx.nc⟩
    · exact ⟨_, _, rfl, .inl ⟨bx.is, rfl⟩, bx.nc, by_.nc⟩
  repeat walk_at "m"
  refine wp_ixT (z := z0) (atI_nat (k := 0) rfl) ?_
  repeat walk_at "m"
  refine wp_ixT (z := wordD w) (atI_nat (k := 1) rfl) ?_
  repeat walk_at "m"
  refine wp_ixT (z := z2) (atI_nat (k := 2) rfl) ?_
  repeat walk_at "m"
  refine fact_make n0 (nc_wD w) n2 fun s12 k12 => ?_
  repeat walk_at "m"
  obtain ⟨tx, sx⟩ := bx.sh
  refine path_of_bad hv sx.toShw ?_
  repeat walk_at "m"
  refine ⟨_, sx.rep s12, ?_⟩
  repeat walk_at "m"
  refine ⟨sz (by simp), ?_⟩
  repeat walk_at "m"
  refine wp_ne0 (b := true) (eq_ref sx.ok) ⟨_, rfl, ?_⟩
  repeat walk_at "m"
  refine fact_ok (m := 1) (d11.keep k12 (by simp) (by simp)) F (by omega) (by omega) fun a1 b1 w1 s13 pa1 pb1 d13 k13 => ?_
  repeat walk_at "m"
  refine fact_ok (m := 0) d13 F (by omega) (by omega) fun a2 b2 w2 s14 pa2 pb2 d14 k14 => ?_
  repeat walk_at "m"
  refine ⟨sz (by simp), ?_⟩
  repeat walk_at "m"
  refine pick_ok d14 (.inl rfl) (by simp) (by simp) fun z s15 hz d15 k15 => ?_
  obtain ⟨a3, b3, w3, rfl, pa3, pb3⟩ : ∃ a3 b3 w3, z = factT a3 w3 b3 ∧ VPl a3 ∧ VPl b3 := by
    simp only [List.mem_cons, List.not_mem_nil, or_false] at hz
    rcases hz with rfl | rfl | rfl
    · exact ⟨_, _, _, rfl, VOk.pl F pa, VOk.pl F pb⟩
    · exact ⟨_, _, _, rfl, VOk.pl F pa1, VOk.pl F pb1⟩
    · exact ⟨_, _, _, rfl, VOk.pl F pa2, VOk.pl F pb2⟩
  refine alike_ok (VOk.pl F pa) (VOk.pl F pb) pa3 pb3 fun s16 k16 => ?_
  refine ⟨_, rfl, ?_⟩
  repeat walk_at "m"
  exact h _ s16 rfl (d15.keep k16 (by simp) (by simp)) (k16.nc (k15.nc (k14.nc (k13.nc (k12.nc nc11)))))
theorem out_ok {k g : Nat} {st : Store} {v0 : Option D} (d : Drw k g st) (nc : st.nc) {Q : Ctl → Fr → Store → Prop} {X : Ex → Fr → Store → Prop}
    (h : ∀ l s, l.length = 15 → Drw k g s → s.nc → Q .nx (v0 :: some (.ref k) :: l) s) {l : Fr} (hl : l.length = 15) : wp b_out (v0 :: some (.ref k) :: l) st Q X := by
  match l, hl with
  | [a2, a3, a4, a5, a6, a7, a8, a9, a10, a11, a12, a13, a14, a15, a16], _ =>
  unfold b_out
  repeat walk_at "m"
  refine frame_ok (a := 3) (b := 2) d (by omega) (by omega) (by omega) (by omega) fun ns fs s1 F _ _ d1 k1 => ?_
  repeat walk_at "m"
  refine wp_ixT (z := .tup (ns.map D.str)) (atI_nat (k := 0) rfl) ?_
  repeat walk_at "m"
  refine ⟨_, ns.map D.str, rfl, rfl, ?_⟩
  repeat walk_at "m"
  refine wp_ixT (z := .tup (fs.map D.str)) (atI_nat (k := 1) rfl) ?_
  repeat walk_at "m"
  refine layout_make (t := false) (u := true) (ns := ns) F fun s2 k2 => ?_
  repeat walk_at "m"
  refine ⟨4, rfl, by decide, by decide, ?_⟩
  refine wp_forL (fun rem f s => ∃ l, l.length = 12 ∧ Drw k g s ∧ s.nc ∧ f = v0 :: some (.ref k) :: a2 :: some (frD ns fs) :: some (layD ns fs) :: l) ?_ ?_ ⟨_, rfl, d1.keep k2 (by simp) (by simp), k2.nc (k1.nc nc), rfl⟩
  · intro y rem f s ⟨l, hl, dd, n, hf⟩
    subst hf
    refine ⟨rfl, ?_⟩
    match l, hl with
    | [c5, c6, c7, c8, c9, c10, c11, c12, c13, c14, c15, c16], _ =>
    repeat walk_at "m"
    exact in_ok dd n F fun l s hl dd n => ⟨l, hl, dd, n, rfl⟩
  · intro f s ⟨l, hl, dd, n, hf⟩
    subst hf
    refine ⟨rfl, ?_⟩
    exact h _ s (by simp [hl]) dd n
theorem law_ok {ns : List Int} (hn : ns.length ≤ 63) : wpF (f_law [.scr ns] ⟨fun _ => none, 0⟩) (fun d _ => d = .bl true) (fun _ _ => False) := by
  unfold f_law
  refine wpF_fn rfl ?_
  show wp b_law [some (.scr ns), none, none, none, none, none, none, none, none, none, none, none, none, none, none, none, none] _ _ _
  unfold b_law
  repeat walk_at "m"
  refine begun_ok hn fun s1 d1 k1 => ?_
  have n1 : s1.nc := k1.nc fun n m e => by cases e
  repeat walk_at "m"
  refine ⟨4, rfl, by decide, by decide, ?_⟩
  refine wp_forL (fun rem f s => ∃ l, l.length = 15 ∧ Drw 1 0 s ∧ s.nc ∧ f = some (.scr ns) :: some (.ref 1) :: l) ?_ ?_ ⟨_, rfl, d1, n1, rfl⟩
  · intro y rem f s ⟨l, hl, dd, n, hf⟩
    subst hf
    refine ⟨rfl, ?_⟩
    match l, hl with
    | b2 :: l, hl =>
    refine wp_set ?_
    show wp b_out (some (.scr ns) :: some (.ref 1) :: some y :: l) s _ _
    exact out_ok (l := some y :: l) dd n (fun l s hl dd n => ⟨l, hl, dd, n, rfl⟩) hl
  · intro f s ⟨l, hl, dd, n, hf⟩
    subst hf
    refine ⟨rfl, ?_⟩
    repeat walk_at "m"
    rfl
theorem fn_nil {n np : Nat} {b : M Ctl} {ds : List D} {st : Store} {d : D} {f : Fr} {s : Store} (h : mkFn n np b ds st = .ok d f s) : f = [] := by
  unfold mkFn at h
  split at h
  · split at h
    · split at h <;> cases h <;> rfl
    · cases h
    · cases h
  · cases h
theorem runs (ns : List Int) (hn : ns.length ≤ 63) (_ : ∀ z ∈ ns, Builtin.Int.intBits z ≤ 1048576) : ∃ st', f_law [.scr ns] ⟨fun _ => none, 0⟩ = .ok (.bl true) [] st' := by
  have h := law_ok hn
  unfold wpF at h
  cases e : f_law [.scr ns] ⟨fun _ => none, 0⟩ with
  | ok d f s =>
    rw [e] at h
    have h : d = .bl true := h
    have := fn_nil e
    subst h this
    exact ⟨s, rfl⟩
  | exc x f s => rw [e] at h; exact h.elim
  | stuck => rw [e] at h; exact h.elim
end Q54
end
set_option maxHeartbeats 4000000
open PySem PySem.W PySem.Calls PyProof.Rows
theorem PySem.Challenge.cw_lateplaces_k54_facts_on_graphs_holds : PySem.Challenge.rw_lateplaces_k54_facts_on_graphs.Holds := by
  w_on; o_law
  refine HandSHeadRun.head_any (r := OpenLaw.row PySem.Challenge.rw_lateplaces_k54_facts_on_graphs) (q := view (OpenLaw.row PySem.Challenge.rw_lateplaces_k54_facts_on_graphs).prog [62]) (H := Q54.hk) (ob := Q54.ob) (M := 6000) (loose := Q54.loose) (d := HandSHeadRun.topDef (OpenLaw.row PySem.Challenge.rw_lateplaces_k54_facts_on_graphs).prog 62) (kwd := []) Q54.ob_eq
    (by kernel_rfl) (fun s => by kernel_rfl) Q54.run (by kernel_rfl) (by kernel_rfl) (by kernel_rfl) (by rfl) (by first | assumption | decide +kernel) (by decide +kernel) ⟨rfl, rfl, rfl, rfl, rfl, by decide +kernel⟩ ?hw ?hc
  case hw => w_witness2
  case hc =>
    refine Mp.walk_G (l := PySem.Challenge.rw_lateplaces_k54_facts_on_graphs) (n := 63) (k := 9) (x := "_law_script") rfl (by decide) (by kernel_rfl) ⟨rfl, by decide, by decide⟩ ?F
    intro w mg fa h Y G hmg0
    obtain ⟨K, KX, c⟩ := Y
    have hmg : mg ("law" : PySem.Str) = some (.ref fa) := by
      have e : (HandSHeadRun.topDef (OpenLaw.row PySem.Challenge.rw_lateplaces_k54_facts_on_graphs).prog 62).name = ("law" : PySem.Str) := by kernel_rfl
      rw [← e]
      exact hmg0
    exact Q54.lawG KX G c hmg Q54.runs
