import PyProof.Rows.All
import Wide.All
import OpenK.AllK
import Wide.FinOn
import HandS.ForMost
import HandS.Exc
import HandS.TryOnly
import HandS.TryMany
import HandS.ExcOwn
import HandS.ExcInit
import HandS.WordsExc
import HandS.IsInst
import HandS.TupAny
import PyProof.StrBlock2
import HandS.TupMul
import HandS.Wide
import HandS.Style
import HandS.TupLe
import HandS.Iter
import PyProof.ListOps
import PyProof.Rows.SeqMore
import HandS.SortInts
import HandS.Conv
import KE.GoesEnum
import HandS.Zip
import HandS.RevRange
import HandS.Rev
import HandS.Small
import HandS.WordsDict
import PyProof.ReprRoads
import HandS.Ends
import HandS.EndBits
import HandS.RaiseMore
import PyProof.ReprLen
import KE.KExcIs
import HandS.ExcIs
import HandS.ExcValue
import HandS.ExcField
import HandS.More
import HandS.Dict
import PyProof.TupleOfSeq
import HandS.Deep
import PyProof.P3In
import KE.KRevSl
import HandS.SetFor
import HandS.Replace
import HandS.ReplaceLit
import HandS.Strs
import KE.DataMinMax
import KE.KEqDict
import PyProof.EqKinds
import PySem.Challenge.RW_waitduel_k35_whole_least_purses
set_option Elab.async false
set_option linter.all false
set_option maxRecDepth 100000
set_option maxHeartbeats 4000000
/-! Mir: a heap of one's own in plain data (immutable things are trees, what changes stands at a number), and how it lies in HandS's heap. -/
namespace Mir
open PySem L2

/-- a plain thing in an exception's field -/
inductive PV where
  | non
  | bl (b : Bool)
  | int (i : Int)
  | str (x : Str)
def PV.v : PV → V
  | .non => .non
  | .bl b => .bl b
  | .int i => .int i
  | .str x => .str x
/-- an exception: its class by name, its own fields -/
structure XV where
  c : Str
  fs : List (Str × PV)
/-- an exception's object at a -/
def exV (C : Addr) (d : Option Addr) (a : Addr) : HO := .ext fun h => ∃ (oe : Obj) (vs : Array Value), h.get? a = some oe ∧ Zc (.ref C) d oe ∧ oe.data = .fields vs
/-- an exception of the class that is named so, its dict at d -/
def XRep (K : PySem.W.Frag) (_ : List Addr) (H : Hp) (x : XV) (c : Value) (d : Option Addr) : Prop :=
  (∃ C : Addr, c = .ref C ∧ PySem.W.nsIn K mainGlobals x.c = some (some (.ref C))) ∧ ((d = none ∧ x.fs = []) ∨ ∃ dd : Addr, d = some dd ∧ H dd = some (.xd (x.fs.map fun p => (p.1, p.2.v))))
/-- an exception that is kept -/
def ExR (K : PySem.W.Frag) (H : Hp) (x : XV) (a : Addr) : Prop := ∃ (C : Addr) (d : Option Addr), XRep K [] H x (.ref C) d ∧ H a = some (exV C d a)
/-- a value: immutable things as trees, mutable ones by number; fix: a list that never changes -/
inductive W where
  | non
  | bl (b : Bool)
  | int (i : Int)
  | str (x : Str)
  | tup (xs : List W)
  | fix (xs : List W)
  | exc (x : XV)
  | ref (n : Nat)

/-- what stands at a number -/
inductive OB where
  | lst (xs : List W)
  | dK (kvs : List (Key × W))
  | ins (c : Str) (fs : List (Str × W))
  | lk (kvs : List (Key × W))

abbrev PH := List OB
abbrev LS := List (Option W)

/-- a list that never changes: locked, or of the written part -/
def FixL (K : PySem.W.Frag) (H : Hp) (a : Addr) (xs : List V) : Prop :=
  (∃ o, H a = some (.frz o (.lst xs))) ∨
    ∃ (o : Obj) (its : Array Value) (n : Nat), K.lookup a = some o ∧ o.cls = .type "list" ∧ o.dict = none ∧ o.data = .seq its n ∧ its.size ≤ sizeLine ∧ Vals xs its.toList
theorem FixL.seq {K : PySem.W.Frag} {H : Hp} {a : Addr} {xs : List V} (h : FixL K H a xs) : SqL K H a xs := by
  rcases h with ⟨o, h⟩ | h
  · exact .inl (.inr ⟨o, h⟩)
  · exact .inr h

mutual
def Rep (K : PySem.W.Frag) (f : List Addr) (H : Hp) : W → V → Prop
  | .non, v => v = .non
  | .bl b, v => v = .bl b
  | .int i, v => v = .int i
  | .str x, v => v = .str x
  | .tup xs, v => ∃ a vs, v = .ref a ∧ SqT K H a vs ∧ Reps K f H xs vs
  | .fix xs, v => ∃ a vs, v = .ref a ∧ FixL K H a vs ∧ Reps K f H xs vs
  | .exc x, v => ∃ a, v = .ref a ∧ ExR K H x a
  | .ref n, v => ∃ a, v = .ref a ∧ f[n]? = some a
def Reps (K : PySem.W.Frag) (f : List Addr) (H : Hp) : List W → List V → Prop
  | [], vs => vs = []
  | x :: xs, vs => ∃ v r, vs = v :: r ∧ Rep K f H x v ∧ Reps K f H xs r
end

/-- all that stood outside of f stands -/
def Grow (f : List Addr) (H H' : Hp) : Prop := ∀ a o, H a = some o → a ∉ f → H' a = some o
/-- f' goes on behind f -/
def Ext (f f' : List Addr) : Prop := ∃ g, f' = f ++ g
theorem Ext.refl (f : List Addr) : Ext f f := ⟨[], by simp⟩
theorem Ext.trans {f g k : List Addr} (a : Ext f g) (b : Ext g k) : Ext f k := by
  obtain ⟨x, rfl⟩ := a
  obtain ⟨y, rfl⟩ := b
  exact ⟨x ++ y, by simp⟩
theorem Ext.get {f g : List Addr} (a : Ext f g) {n : Nat} {x : Addr} (h : f[n]? = some x) : g[n]? = some x := by
  obtain ⟨y, rfl⟩ := a
  rw [List.getElem?_append_left (List.getElem?_eq_some_iff.mp h).1]
  exact h
theorem Ext.mem {f g : List Addr} (a : Ext f g) {x : Addr} (h : x ∈ f) : x ∈ g := by
  obtain ⟨y, rfl⟩ := a
  exact List.mem_append_left _ h
theorem Ext.snoc (f : List Addr) (p : Addr) : Ext f (f ++ [p]) := ⟨[p], rfl⟩
theorem Grow.refl (f : List Addr) (H : Hp) : Grow f H H := fun _ _ e _ => e

/-- the things that a tree leans on stay -/
structure Stay (K : PySem.W.Frag) (H H' : Hp) : Prop where
  t : ∀ a xs, SqT K H a xs → SqT K H' a xs
  l : ∀ a xs, FixL K H a xs → FixL K H' a xs
  e : ∀ a φ, H a = some (.ext φ) → H' a = some (.ext φ)
  d : ∀ a gs, H a = some (.xd gs) → H' a = some (.xd gs)
theorem Stay.refl (K : PySem.W.Frag) (H : Hp) : Stay K H H := ⟨fun _ _ h => h, fun _ _ h => h, fun _ _ h => h, fun _ _ h => h⟩
theorem Stay.trans {K : PySem.W.Frag} {H H1 H2 : Hp} (a : Stay K H H1) (b : Stay K H1 H2) : Stay K H H2 :=
  ⟨fun x xs h => b.t x xs (a.t x xs h), fun x xs h => b.l x xs (a.l x xs h), fun x xs h => b.e x xs (a.e x xs h), fun x xs h => b.d x xs (a.d x xs h)⟩
theorem XRep.mono {K : PySem.W.Frag} {f f' : List Addr} {H H' : Hp} (s : Stay K H H') {x : XV} {c : Value} {d : Option Addr} (r : XRep K f H x c d) : XRep K f' H' x c d := by
  obtain ⟨h1, h2 | ⟨dd, e1, e2⟩⟩ := r
  · exact ⟨h1, .inl h2⟩
  · exact ⟨h1, .inr ⟨dd, e1, s.d _ _ e2⟩⟩
theorem ExR.mono {K : PySem.W.Frag} {H H' : Hp} (s : Stay K H H') {x : XV} {a : Addr} (r : ExR K H x a) : ExR K H' x a := by
  obtain ⟨C, d, h1, h2⟩ := r
  exact ⟨C, d, h1.mono s, s.e _ _ h2⟩

mutual
theorem Rep.mono {K : PySem.W.Frag} {f f' : List Addr} {H H' : Hp} (e : Ext f f') (s : Stay K H H') : ∀ (w : W) (v : V), Rep K f H w v → Rep K f' H' w v
  | .non, v, h => by simpa only [Rep] using h
  | .bl b, v, h => by simpa only [Rep] using h
  | .int i, v, h => by simpa only [Rep] using h
  | .str x, v, h => by simpa only [Rep] using h
  | .tup xs, v, h => by
    simp only [Rep] at h ⊢
    obtain ⟨a, vs, h1, h2, h3⟩ := h
    exact ⟨a, vs, h1, s.t a vs h2, Reps.mono e s xs vs h3⟩
  | .fix xs, v, h => by
    simp only [Rep] at h ⊢
    obtain ⟨a, vs, h1, h2, h3⟩ := h
    exact ⟨a, vs, h1, s.l a vs h2, Reps.mono e s xs vs h3⟩
  | .exc x, v, h => by
    simp only [Rep] at h ⊢
    obtain ⟨a, h1, h2⟩ := h
    exact ⟨a, h1, h2.mono s⟩
  | .ref n, v, h => by
    simp only [Rep] at h ⊢
    obtain ⟨a, h1, h2⟩ := h
    exact ⟨a, h1, e.get h2⟩
theorem Reps.mono {K : PySem.W.Frag} {f f' : List Addr} {H H' : Hp} (e : Ext f f') (s : Stay K H H') : ∀ (ws : List W) (vs : List V), Reps K f H ws vs → Reps K f' H' ws vs
  | [], vs, h => by simpa only [Reps] using h
  | x :: xs, vs, h => by
    simp only [Reps] at h ⊢
    obtain ⟨v, r, h1, h2, h3⟩ := h
    exact ⟨v, r, h1, Rep.mono e s x v h2, Reps.mono e s xs r h3⟩
end

theorem Reps.length {K : PySem.W.Frag} {f : List Addr} {H : Hp} : ∀ {ws : List W} {vs : List V}, Reps K f H ws vs → ws.length = vs.length
  | [], vs, h => by
    simp only [Reps] at h
    subst h
    rfl
  | x :: xs, vs, h => by
    simp only [Reps] at h
    obtain ⟨v, r, rfl, _, h3⟩ := h
    simp only [List.length_cons, Reps.length h3]
theorem Reps.get {K : PySem.W.Frag} {f : List Addr} {H : Hp} : ∀ {ws : List W} {vs : List V} {i : Nat} {w : W}, Reps K f H ws vs → ws[i]? = some w → ∃ v, vs[i]? = some v ∧ Rep K f H w v
  | [], vs, i, w, h, e => by simp at e
  | x :: xs, vs, 0, w, h, e => by
    simp only [Reps] at h
    obtain ⟨v, r, rfl, h2, _⟩ := h
    simp at e
    subst e
    exact ⟨v, by simp, h2⟩
  | x :: xs, vs, i + 1, w, h, e => by
    simp only [Reps] at h
    obtain ⟨v, r, rfl, _, h3⟩ := h
    simp only [List.getElem?_cons_succ] at e ⊢
    exact Reps.get h3 e
theorem Reps.getv {K : PySem.W.Frag} {f : List Addr} {H : Hp} {ws : List W} {vs : List V} {i : Nat} {v : V} (h : Reps K f H ws vs) (e : vs[i]? = some v) : ∃ w, ws[i]? = some w ∧ Rep K f H w v := by
  have hl := h.length
  have hi : i < ws.length := by rw [hl]; exact (List.getElem?_eq_some_iff.mp e).1
  obtain ⟨v', e', r⟩ := h.get (List.getElem?_eq_getElem hi)
  rw [e] at e'
  cases e'
  exact ⟨_, List.getElem?_eq_getElem hi, r⟩
theorem Reps.append {K : PySem.W.Frag} {f : List Addr} {H : Hp} : ∀ {ws zs : List W} {vs us : List V}, Reps K f H ws vs → Reps K f H zs us → Reps K f H (ws ++ zs) (vs ++ us)
  | [], zs, vs, us, h, k => by
    simp only [Reps] at h
    subst h
    exact k
  | x :: xs, zs, vs, us, h, k => by
    simp only [Reps] at h
    obtain ⟨v, r, rfl, h2, h3⟩ := h
    simp only [List.cons_append, Reps]
    exact ⟨v, r ++ us, rfl, h2, Reps.append h3 k⟩
theorem Reps.one {K : PySem.W.Frag} {f : List Addr} {H : Hp} {w : W} {v : V} (h : Rep K f H w v) : Reps K f H [w] [v] := by
  simp only [Reps]
  exact ⟨v, [], rfl, h, rfl⟩
theorem Reps.nil {K : PySem.W.Frag} {f : List Addr} {H : Hp} : Reps K f H [] [] := by simp only [Reps]
theorem Reps.cons {K : PySem.W.Frag} {f : List Addr} {H : Hp} {w : W} {v : V} {ws : List W} {vs : List V} (h : Rep K f H w v) (k : Reps K f H ws vs) : Reps K f H (w :: ws) (v :: vs) := by
  simp only [Reps]
  exact ⟨v, vs, rfl, h, k⟩
theorem Reps.nil_inv {K : PySem.W.Frag} {f : List Addr} {H : Hp} {vs : List V} (h : Reps K f H [] vs) : vs = [] := by simpa only [Reps] using h
theorem Reps.cons_inv {K : PySem.W.Frag} {f : List Addr} {H : Hp} {w : W} {ws : List W} {vs : List V} (h : Reps K f H (w :: ws) vs) : ∃ v r, vs = v :: r ∧ Rep K f H w v ∧ Reps K f H ws r := by simpa only [Reps] using h
theorem Reps.set {K : PySem.W.Frag} {f : List Addr} {H : Hp} {w : W} {v : V} (r : Rep K f H w v) : ∀ {ws : List W} {vs : List V} (i : Nat), Reps K f H ws vs → Reps K f H (ws.set i w) (vs.set i v)
  | [], vs, i, h => by
    simp only [Reps] at h
    subst h
    simp only [List.set_nil, Reps]
  | x :: xs, vs, 0, h => by
    obtain ⟨u, t, rfl, h1, h2⟩ := h.cons_inv
    simp only [List.set_cons_zero]
    exact .cons r h2
  | x :: xs, vs, i + 1, h => by
    obtain ⟨u, t, rfl, h1, h2⟩ := h.cons_inv
    simp only [List.set_cons_succ]
    exact .cons h1 (Reps.set r i h2)
theorem Reps.drop {K : PySem.W.Frag} {f : List Addr} {H : Hp} : ∀ {ws : List W} {vs : List V} (n : Nat), Reps K f H ws vs → Reps K f H (ws.drop n) (vs.drop n)
  | ws, vs, 0, h => h
  | [], vs, n + 1, h => by
    simp only [Reps] at h
    subst h
    simp only [List.drop_nil, Reps]
  | x :: xs, vs, n + 1, h => by
    obtain ⟨u, t, rfl, h1, h2⟩ := h.cons_inv
    exact Reps.drop n h2
theorem Reps.take {K : PySem.W.Frag} {f : List Addr} {H : Hp} : ∀ {ws : List W} {vs : List V} (n : Nat), Reps K f H ws vs → Reps K f H (ws.take n) (vs.take n)
  | ws, vs, 0, h => by simp only [List.take_zero, Reps]
  | [], vs, n + 1, h => by
    simp only [Reps] at h
    subst h
    simp only [List.take_nil, Reps]
  | x :: xs, vs, n + 1, h => by
    obtain ⟨u, t, rfl, h1, h2⟩ := h.cons_inv
    exact .cons h1 (Reps.take n h2)
theorem Reps.reverse {K : PySem.W.Frag} {f : List Addr} {H : Hp} : ∀ {ws : List W} {vs : List V}, Reps K f H ws vs → Reps K f H ws.reverse vs.reverse
  | [], vs, h => by
    simp only [Reps] at h
    subst h
    simp only [List.reverse_nil, Reps]
  | x :: xs, vs, h => by
    obtain ⟨u, t, rfl, h1, h2⟩ := h.cons_inv
    rw [List.reverse_cons, List.reverse_cons]
    exact (Reps.reverse h2).append (.one h1)

/-- pairs by key -/
def KRep {κ : Type} (K : PySem.W.Frag) (f : List Addr) (H : Hp) : List (κ × W) → List (κ × V) → Prop
  | [], kvs => kvs = []
  | (k, w) :: r, kvs => ∃ v s, kvs = (k, v) :: s ∧ Rep K f H w v ∧ KRep K f H r s
theorem KRep.mono {κ : Type} {K : PySem.W.Frag} {f f' : List Addr} {H H' : Hp} (e : Ext f f') (s : Stay K H H') : ∀ (ws : List (κ × W)) (vs : List (κ × V)), KRep K f H ws vs → KRep K f' H' ws vs
  | [], vs, h => h
  | (k, w) :: r, vs, h => by
    obtain ⟨v, t, h1, h2, h3⟩ := h
    exact ⟨v, t, h1, Rep.mono e s w v h2, KRep.mono e s r t h3⟩
theorem KRep.length {κ : Type} {K : PySem.W.Frag} {f : List Addr} {H : Hp} : ∀ {ws : List (κ × W)} {vs : List (κ × V)}, KRep K f H ws vs → ws.length = vs.length
  | [], vs, h => by
    have h : vs = [] := h
    subst h
    rfl
  | (k, w) :: r, vs, h => by
    obtain ⟨v, t, rfl, h2, h3⟩ := h
    simp only [List.length_cons, KRep.length h3]

/-- how an object lies at a -/
def ObjR (K : PySem.W.Frag) (f : List Addr) (H : Hp) : OB → Addr → Prop
  | .lst xs, a => ∃ vs, H a = some (.lst vs) ∧ Reps K f H xs vs
  | .dK kvs, a => ∃ vs, H a = some (.dK vs) ∧ KRep K f H kvs vs
  | .ins c fs, a => ∃ C dx vs, PySem.W.nsIn K mainGlobals c = some (some (.ref C)) ∧ H a = some (.ins C dx vs) ∧ KRep K f H fs vs
  | .lk kvs, a => ∃ o vs, H a = some (.frz o (.dK vs)) ∧ KRep K f H kvs vs
/-- what may stand at a -/
def Mov : HO → Prop
  | .lst _ => True
  | .dK _ => True
  | .ins _ _ _ => True
  | .frz _ (.dK _) => True
  | _ => False
theorem ObjR.mov {K : PySem.W.Frag} {f : List Addr} {H : Hp} {o : OB} {a : Addr} (h : ObjR K f H o a) : ∃ u, H a = some u ∧ Mov u := by
  cases o with
  | lst xs => obtain ⟨vs, h, _⟩ := h; exact ⟨_, h, trivial⟩
  | dK kvs => obtain ⟨vs, h, _⟩ := h; exact ⟨_, h, trivial⟩
  | ins c fs => obtain ⟨C, dx, vs, _, h, _⟩ := h; exact ⟨_, h, trivial⟩
  | lk kvs => obtain ⟨o, vs, h, _⟩ := h; exact ⟨_, h, trivial⟩
theorem ObjR.mono {K : PySem.W.Frag} {f f' : List Addr} {H H' : Hp} {o : OB} {a : Addr} (e : Ext f f') (s : Stay K H H') (same : H' a = H a) (h : ObjR K f H o a) : ObjR K f' H' o a := by
  cases o with
  | lst xs => obtain ⟨vs, h1, h2⟩ := h; exact ⟨vs, same.trans h1, Reps.mono e s _ _ h2⟩
  | dK kvs => obtain ⟨vs, h1, h2⟩ := h; exact ⟨vs, same.trans h1, KRep.mono e s _ _ h2⟩
  | ins c fs => obtain ⟨C, dx, vs, h0, h1, h2⟩ := h; exact ⟨C, dx, vs, h0, same.trans h1, KRep.mono e s _ _ h2⟩
  | lk kvs => obtain ⟨o, vs, h1, h2⟩ := h; exact ⟨o, vs, same.trans h1, KRep.mono e s _ _ h2⟩

/-- the own heap lies in HandS's -/
structure Sim (K : PySem.W.Frag) (f : List Addr) (h : PH) (H : Hp) : Prop where
  len : f.length = h.length
  nd : f.Nodup
  obj : ∀ (n : Nat) (o : OB), h[n]? = some o → ∃ a, f[n]? = some a ∧ ObjR K f H o a

theorem Sim.mov {K : PySem.W.Frag} {f : List Addr} {h : PH} {H : Hp} (s : Sim K f h H) {a : Addr} (ha : a ∈ f) : ∃ u, H a = some u ∧ Mov u := by
  obtain ⟨n, hn, e⟩ := List.getElem_of_mem ha
  have hn2 : n < h.length := by rw [← s.len]; exact hn
  obtain ⟨b, hb, r⟩ := s.obj n h[n] (List.getElem?_eq_getElem hn2)
  rw [List.getElem?_eq_getElem hn] at hb
  cases hb
  rw [e] at r
  exact r.mov
theorem Sim.fresh {K : PySem.W.Frag} {f : List Addr} {h : PH} {H : Hp} (s : Sim K f h H) {p : Addr} (hp : H p = none) : p ∉ f := fun hm => by
  obtain ⟨u, e, _⟩ := s.mov hm
  rw [hp] at e
  cases e
/-- growth keeps the trees -/
theorem Sim.stay {K : PySem.W.Frag} {f : List Addr} {h : PH} {H H' : Hp} (s : Sim K f h H) (g : Grow f H H') : Stay K H H' := by
  have key : ∀ a u, H a = some u → ¬ Mov u → H' a = some u := fun a u e nm => g a u e fun hm => by
    obtain ⟨u', e', m⟩ := s.mov hm
    rw [e] at e'
    cases e'
    exact nm m
  refine ⟨fun a xs r => ?_, fun a xs r => ?_, fun a φ r => key _ _ r id, fun a gs r => key _ _ r id⟩
  · rcases r with (r | ⟨o, r⟩) | r
    · exact .inl (.inl (key _ _ r id))
    · exact .inl (.inr ⟨o, key _ _ r id⟩)
    · exact .inr r
  · rcases r with ⟨o, r⟩ | r
    · exact .inl ⟨o, key _ _ r id⟩
    · exact .inr r
/-- growth, step by step -/
theorem Grow.trans {K : PySem.W.Frag} {f f1 : List Addr} {h : PH} {H H1 H2 : Hp} (s : Sim K f h H) {h1 : PH} (s1 : Sim K f1 h1 H1) (e : Ext f f1) (a : Grow f H H1) (b : Grow f1 H1 H2) (new : ∀ x ∈ f1, x ∉ f → H x = none) : Grow f H H2 := fun x o hx hn =>
  b x o (a x o hx hn) fun hm => by
    have := new x hm hn
    rw [hx] at this
    cases this
end Mir

/-! Mir: readings by computations over the own heap. -/
namespace Mir
open PySem L2

inductive Res (α : Type) where
  | ok (a : α) (h : PH)
  | exc (x : XV) (h : PH)
  | stuck
inductive SRes where
  | nx (ps : LS) (h : PH)
  | rt (w : W) (h : PH)
  | bk (ps : LS) (h : PH)
  | ct (ps : LS) (h : PH)
  | exc (x : XV) (ps : LS) (h : PH)
  | stuck
def Res.bind {α β : Type} : Res α → (α → PH → Res β) → Res β
  | .ok a h, k => k a h
  | .exc x h, _ => .exc x h
  | .stuck, _ => .stuck
def Res.map {α β : Type} (g : α → β) : Res α → Res β
  | .ok a h => .ok (g a) h
  | .exc x h => .exc x h
  | .stuck => .stuck

/-- from one state to a later one -/
structure Step (K : PySem.W.Frag) (f : List Addr) (H : Hp) (f' : List Addr) (h' : PH) (H' : Hp) : Prop where
  ext : Ext f f'
  new : ∀ x ∈ f', x ∉ f → H x = none
  grow : Grow f H H'
  lk : ∀ (a : Addr) (o : Obj) (us : List (Key × V)), H a = some (.frz o (.dK us)) → H' a = some (.frz o (.dK us))
  sim : Sim K f' h' H'
theorem Step.refl {K : PySem.W.Frag} {f : List Addr} {h : PH} {H : Hp} (s : Sim K f h H) : Step K f H f h H := ⟨.refl f, fun x a b => absurd a b, .refl f H, fun _ _ _ e => e, s⟩
theorem Step.trans {K : PySem.W.Frag} {f f1 f2 : List Addr} {h1 h2 : PH} {H H1 H2 : Hp} (a : Step K f H f1 h1 H1) (b : Step K f1 H1 f2 h2 H2) : Step K f H f2 h2 H2 := by
  refine ⟨a.ext.trans b.ext, fun x hx hn => ?_, fun x o hx hn => ?_, fun x o us e => b.lk _ _ _ (a.lk _ _ _ e), b.sim⟩
  · by_cases m : x ∈ f1
    · exact a.new x m hn
    · have q := b.new x hx m
      cases e : H x with
      | none => rfl
      | some o =>
        rw [a.grow x o e hn] at q
        cases q
  · refine b.grow x o (a.grow x o hx hn) fun m => ?_
    rw [a.new x m hn] at hx
    cases hx
theorem Step.stay {K : PySem.W.Frag} {f f' : List Addr} {h h' : PH} {H H' : Hp} (s : Sim K f h H) (a : Step K f H f' h' H') : Stay K H H' := s.stay a.grow
theorem Step.rep {K : PySem.W.Frag} {f f' : List Addr} {h h' : PH} {H H' : Hp} (s : Sim K f h H) (a : Step K f H f' h' H') {w : W} {v : V} (r : Rep K f H w v) : Rep K f' H' w v := Rep.mono a.ext (a.stay s) w v r
theorem Step.reps {K : PySem.W.Frag} {f f' : List Addr} {h h' : PH} {H H' : Hp} (s : Sim K f h H) (a : Step K f H f' h' H') {w : List W} {v : List V} (r : Reps K f H w v) : Reps K f' H' w v := Reps.mono a.ext (a.stay s) w v r

/-- the slots -/
def SRep (K : PySem.W.Frag) (f : List Addr) (H : Hp) (ps : LS) (σ : L2.St) : Prop :=
  ps.length = σ.length ∧ ∀ (i : Nat) (w : W), ps[i]? = some (some w) → ∃ v, σ[i]? = some (some v) ∧ Rep K f H w v
theorem SRep.mono {K : PySem.W.Frag} {f f' : List Addr} {H H' : Hp} {ps : LS} {σ : L2.St} (e : Ext f f') (s : Stay K H H') (r : SRep K f H ps σ) : SRep K f' H' ps σ :=
  ⟨r.1, fun i w q => by
    obtain ⟨v, h1, h2⟩ := r.2 i w q
    exact ⟨v, h1, Rep.mono e s w v h2⟩⟩
theorem Step.srep {K : PySem.W.Frag} {f f' : List Addr} {h h' : PH} {H H' : Hp} (s : Sim K f h H) (a : Step K f H f' h' H') {ps : LS} {σ : L2.St} (r : SRep K f H ps σ) : SRep K f' H' ps σ := r.mono a.ext (a.stay s)
theorem SRep.set {K : PySem.W.Frag} {f : List Addr} {H : Hp} {ps : LS} {σ : L2.St} (r : SRep K f H ps σ) (i : Nat) {w : W} {v : V} (q : Rep K f H w v) : SRep K f H (ps.set i (some w)) (σ.set i (some v)) := by
  refine ⟨by simp only [List.length_set]; exact r.1, fun j u e => ?_⟩
  by_cases hj : i = j
  · subst hj
    by_cases hi : i < ps.length
    · rw [List.getElem?_set_self hi] at e
      cases e
      exact ⟨v, List.getElem?_set_self (by rw [← r.1]; exact hi), q⟩
    · rw [List.getElem?_eq_none (by simpa using hi)] at e
      cases e
  · rw [List.getElem?_set_ne hj] at e ⊢
    exact r.2 j u e
/-- slots forgotten -/
theorem SRep.unset {K : PySem.W.Frag} {f : List Addr} {H : Hp} {ps : LS} {σ : L2.St} (r : SRep K f H ps σ) (i : Nat) : SRep K f H (ps.set i none) (σ.set i none) := by
  refine ⟨by simp only [List.length_set]; exact r.1, fun j u e => ?_⟩
  by_cases hj : i = j
  · subst hj
    by_cases hi : i < ps.length
    · rw [List.getElem?_set_self hi] at e
      cases e
    · rw [List.getElem?_eq_none (by simpa using hi)] at e
      cases e
  · rw [List.getElem?_set_ne hj] at e ⊢
    exact r.2 j u e


abbrev RR (α β : Type) := Hp → List Addr → Hp → α → β → Prop
/-- what is wanted behind a computation -/
def Post {α β : Type} (K : PySem.W.Frag) (R : RR α β) (f : List Addr) (H : Hp) (r : Res α) (Q : β → Hp → Prop) (E : XK) : Prop :=
  match r with
  | .ok a h' => ∀ f' H' b, Step K f H f' h' H' → R H f' H' a b → Q b H'
  | .exc x h' => ∀ f' H' c d, Step K f H f' h' H' → XRep K f' H' x c d → E c d H'
  | .stuck => False
/-- a relation whose newness goes back along a step -/
def Back {α β : Type} (K : PySem.W.Frag) (R : RR α β) : Prop := ∀ (f f1 : List Addr) (h h1 : PH) (H H1 : Hp) (f' : List Addr) (H' : Hp) (a : α) (b : β), Sim K f h H → Step K f H f1 h1 H1 → R H1 f' H' a b → R H f' H' a b

theorem Post.mono {α β : Type} {K : PySem.W.Frag} {R : RR α β} {f : List Addr} {H : Hp} {r : Res α} {Q Q' : β → Hp → Prop} {E E' : XK} (h : Post K R f H r Q E) (hQ : ∀ b H', Q b H' → Q' b H') (hE : ∀ c d H', E c d H' → E' c d H') : Post K R f H r Q' E' := by
  cases r with
  | ok a h' => exact fun f' H' b s q => hQ _ _ (h f' H' b s q)
  | exc x h' => exact fun f' H' c d s q => hE _ _ _ (h f' H' c d s q)
  | stuck => exact h
theorem Post.bind {α β γ δ : Type} {K : PySem.W.Frag} {R : RR α β} {R1 : RR γ δ} {f : List Addr} {h : PH} {H : Hp} {r : Res γ} {k : γ → PH → Res α} {Q : β → Hp → Prop} {E : XK} (s : Sim K f h H) (hb : Back K R) (p : Post K R f H (r.bind k) Q E) :
    Post K R1 f H r (fun b H1 => ∃ f1 h1 a, Step K f H f1 h1 H1 ∧ R1 H f1 H1 a b ∧ Post K R f1 H1 (k a h1) Q E) E := by
  cases r with
  | stuck => exact p
  | exc x h' => exact p
  | ok a h1 =>
    intro f1 H1 b s1 q1
    refine ⟨f1, h1, a, s1, q1, ?_⟩
    have p : Post K R f H (k a h1) Q E := p
    cases e : k a h1 with
    | stuck => rw [e] at p; exact p
    | exc x h2 =>
      rw [e] at p
      exact fun f2 H2 c d s2 q2 => p f2 H2 c d (s1.trans s2) q2
    | ok a2 h2 =>
      rw [e] at p
      exact fun f2 H2 b2 s2 q2 => p f2 H2 b2 (s1.trans s2) (hb _ _ _ _ _ _ _ _ _ _ s s1 q2)

abbrev RW (K : PySem.W.Frag) : RR W V := fun _ f H w v => Rep K f H w v
abbrev RA (K : PySem.W.Frag) : RR (List W) (List V) := fun _ f H w v => Reps K f H w v
abbrev RB : RR Bool Bool := fun _ _ _ a b => a = b
/-- a list that none else knows -/
abbrev RL (K : PySem.W.Frag) : RR (List W) V := fun H0 f H ws v => ∃ p vs, v = .ref p ∧ H0 p = none ∧ p ∉ f ∧ H p = some (.lst vs) ∧ Reps K f H ws vs
theorem back_W {K : PySem.W.Frag} : Back K (RW K) := fun _ _ _ _ _ _ _ _ _ _ _ _ q => q
theorem back_A {K : PySem.W.Frag} : Back K (RA K) := fun _ _ _ _ _ _ _ _ _ _ _ _ q => q
theorem back_B {K : PySem.W.Frag} : Back K RB := fun _ _ _ _ _ _ _ _ _ _ _ _ q => q
theorem Step.none_back {K : PySem.W.Frag} {f f1 : List Addr} {h h1 : PH} {H H1 : Hp} (s : Sim K f h H) (s1 : Step K f H f1 h1 H1) {p : Addr} (e : H1 p = none) : H p = none := by
  cases q : H p with
  | none => rfl
  | some o =>
    by_cases m : p ∈ f
    · obtain ⟨u, e', _⟩ := s1.sim.mov (s1.ext.mem m)
      rw [e] at e'
      cases e'
    · rw [s1.grow p o q m] at e
      cases e
theorem back_L {K : PySem.W.Frag} : Back K (RL K) := fun _ _ _ _ _ _ _ _ _ _ s s1 ⟨p, vs, h1, h2, h3⟩ => ⟨p, vs, h1, s1.none_back s h2, h3⟩

/-! ### the readings -/
abbrev EM := LS → PH → Res W
abbrev LM := LS → PH → Res (List W)
abbrev BM := LS → PH → Res Bool
abbrev SM := LS → PH → SRes
/-- the reading by a computation -/
def tG {α β : Type} (K : PySem.W.Frag) (R : RR α β) (W0 : WX) (m : LS → PH → Res α) : L2.St → Hp → (β → Hp → Prop) → Prop :=
  fun σ H Q => ∃ f h ps, Sim K f h H ∧ SRep K f H ps σ ∧ Post K R f H (m ps h) Q fun c d H' => W0 c d σ H'
abbrev tE (K : PySem.W.Frag) (W0 : WX) (m : EM) : TE := tG K (RW K) W0 m
abbrev tL (K : PySem.W.Frag) (W0 : WX) (m : LM) : TE := tG K (RL K) W0 m
abbrev tA (K : PySem.W.Frag) (W0 : WX) (m : LM) : TA := tG K (RA K) W0 m
abbrev tT (K : PySem.W.Frag) (W0 : WX) (m : BM) : TT := tG K RB W0 m
abbrev SE (X : Cx) (W0 : WX) (e : Expr) (m : EM) : Prop := PE X e (tE X.K W0 m)
abbrev SL (X : Cx) (W0 : WX) (e : Expr) (m : LM) : Prop := PE X e (tL X.K W0 m)
abbrev SA (X : Cx) (W0 : WX) (es : List Expr) (m : LM) : Prop := PA X es (tA X.K W0 m)
abbrev ST (X : Cx) (W0 : WX) (e : Expr) (m : BM) : Prop := PT X e (tT X.K W0 m)
abbrev SW (X : Cx) (W0 : WX) (e : Expr) (m : BM) : Prop := PW X e (tT X.K W0 m)

theorem pe_imp {X : Cx} {e : Expr} {t t' : TE} (h : PE X e t) (i : ∀ σ H Q, t' σ H Q → t σ H Q) : PE X e t' := ⟨fun pins s σ H Q I q => h.run pins s σ H Q I (i σ H Q q)⟩
theorem pt_imp {X : Cx} {e : Expr} {t t' : TT} (h : PT X e t) (i : ∀ σ H Q, t' σ H Q → t σ H Q) : PT X e t' := ⟨fun pins s σ H Q I q => h.run pins s σ H Q I (i σ H Q q)⟩
theorem pw_imp {X : Cx} {e : Expr} {t t' : TT} (h : PW X e t) (i : ∀ σ H Q, t' σ H Q → t σ H Q) : PW X e t' := ⟨fun wh pins s σ H Q I q => h.run wh pins s σ H Q I (i σ H Q q)⟩
theorem pa_imp {X : Cx} {es : List Expr} {t t' : TA} (h : PA X es t) (i : ∀ σ H Q, t' σ H Q → t σ H Q) : PA X es t' := ⟨fun pos pins s σ H Q I q => h.run pos pins s σ H Q I (i σ H Q q)⟩
theorem ps_imp {X : Cx} {st : Stmt} {t t' : TS} (h : L2.PS X st t) (i : ∀ D σ H, t' D σ H → t D σ H) : L2.PS X st t' := ⟨fun pins s σ H D I q => h.run pins s σ H D I (i D σ H q)⟩
theorem pss_imp {X : Cx} {st : List Stmt} {t t' : TS} (h : PSs X st t) (i : ∀ D σ H, t' D σ H → t D σ H) : PSs X st t' := ⟨fun pins s σ H D I q => h.run pins s σ H D I (i D σ H q)⟩

/-- one computation, then another one, over the same slots -/
theorem tG_bind {α β γ δ : Type} {K : PySem.W.Frag} {R : RR α β} {R1 : RR γ δ} {W0 : WX} {m1 : LS → PH → Res γ} {k : γ → LS → PH → Res α} {σ : L2.St} {H : Hp} {Q : β → Hp → Prop} (hb : Back K R)
    (h : tG K R W0 (fun ps h => (m1 ps h).bind fun a h1 => k a ps h1) σ H Q) :
    tG K R1 W0 m1 σ H fun b H1 => ∃ f0 H0 h0, Sim K f0 h0 H0 ∧ ∃ f1 h1 ps a, Step K f0 H0 f1 h1 H1 ∧ SRep K f1 H1 ps σ ∧ R1 H0 f1 H1 a b ∧ Post K R f1 H1 (k a ps h1) Q fun c d H' => W0 c d σ H' := by
  obtain ⟨f, h, ps, s, r, p⟩ := h
  refine ⟨f, h, ps, s, r, (Post.bind (R1 := R1) s hb p).mono (fun b H1 hh => ?_) fun c d H' e => e⟩
  obtain ⟨f1, h1, a, s1, q1, p1⟩ := hh
  exact ⟨f, H, h, s, f1, h1, ps, a, s1, s1.srep s r, q1, p1⟩
end Mir

/-! Mir: expressions. -/
namespace Mir
open PySem L2

def Res.ofO {α : Type} : Option (α × PH) → Res α
  | some (a, h) => .ok a h
  | none => .stuck
def mVar (i : Nat) : EM := fun ps h => match ps[i]? with
  | some (some w) => .ok w h
  | _ => .stuck
def mC (w : W) : EM := fun _ h => .ok w h
def mOp (o : W → W → PH → Option (W × PH)) (m1 m2 : EM) : EM := fun ps h => (m1 ps h).bind fun x h1 => (m2 ps h1).bind fun y h2 => .ofO (o x y h2)
def mUn (o : W → PH → Option (W × PH)) (m : EM) : EM := fun ps h => (m ps h).bind fun x h1 => .ofO (o x h1)

/-- what an operation by values asks, from the computation -/
def Op2 (K : PySem.W.Frag) (r : R2) (o : W → W → PH → Option (W × PH)) : Prop :=
  ∀ (f : List Addr) (h : PH) (H : Hp) (x y : W) (v u : V) (Q : VK) (E : XK), Sim K f h H → Rep K f H x v → Rep K f H y u → Post K (RW K) f H (.ofO (o x y h)) Q E → r v u H Q
def Op1 (K : PySem.W.Frag) (r : V → Hp → VK → Prop) (o : W → PH → Option (W × PH)) : Prop :=
  ∀ (f : List Addr) (h : PH) (H : Hp) (x : W) (v : V) (Q : VK) (E : XK), Sim K f h H → Rep K f H x v → Post K (RW K) f H (.ofO (o x h)) Q E → r v H Q

section
variable {X : Cx} {W0 : WX} {a b c : Expr} {pos : Pos} {m1 m2 m3 : EM}

theorem post_pure {K : PySem.W.Frag} {f : List Addr} {h : PH} {H : Hp} {w : W} {v : V} {Q : VK} {E : XK} (s : Sim K f h H) (p : Post K (RW K) f H (.ok w h) Q E) (r : Rep K f H w v) : Q v H := p f H v (.refl s) r

theorem se_var (i : Nat) {x : Str} (hN : X.N[i]? = some x := by rfl) (hv : Vis X.env.scope x := by first | exact Or.inl rfl | exact Or.inr (Or.inl rfl) | exact Or.inr (Or.inr rfl)) (hd : (x == ("__debug__" : Str)) = false := by decide)
    (hcd : (x == ("__classdict__" : Str)) = false := by decide) : SE X W0 (.Name x pos) (mVar i) := pe_imp (pe_var hN hv hd hcd) fun σ H Q h => by
  obtain ⟨f, h, ps, s, r, p⟩ := h
  unfold mVar at p
  split at p
  · rename_i w e
    obtain ⟨v, h1, h2⟩ := r.2 i w e
    exact ⟨v, h1, post_pure s p h2⟩
  · exact p.elim
theorem se_const {e : Expr} {v : V} {w : W} (h : PE X e (tC v)) (r : ∀ f H, Rep X.K f H w v) : SE X W0 e (mC w) := pe_imp h fun σ H Q h => by
  obtain ⟨f, h, ps, s, _, p⟩ := h
  exact post_pure s p (r f H)
theorem se_int {i j} : SE X W0 (.Constant (.int i) j pos) (mC (.int i)) := se_const pe_int fun f H => by simp only [Rep]
theorem se_str {x j} : SE X W0 (.Constant (.str x) j pos) (mC (.str x)) := se_const pe_str fun f H => by simp only [Rep]
theorem se_bl {x j} : SE X W0 (.Constant (.bool x) j pos) (mC (.bl x)) := se_const pe_bl fun f H => by simp only [Rep]
theorem se_non {j} : SE X W0 (.Constant .none j pos) (mC .non) := se_const pe_non fun f H => by simp only [Rep]
/-- a constant of the module's top -/
theorem se_glob {x : Str} {v : V} {u : Value} {w : W} (r : ∀ f H, Rep X.K f H w v) (hm : X.mg x = some u) (rv : RelV v u) (hg : Gl X x := by rfl) (hd : (x == ("__debug__" : Str)) = false := by decide) : SE X W0 (.Name x pos) (mC w) :=
  se_const (pe_glob hg hm rv hd) r

theorem tE_bin {K : PySem.W.Frag} {r : R2} {o : W → W → PH → Option (W × PH)} (ho : Op2 K r o) {σ : L2.St} {H : Hp} {Q : VK} (h : tE K W0 (mOp o m1 m2) σ H Q) : tOp r (tE K W0 m1) (tE K W0 m2) σ H Q := by
  obtain ⟨f, h, ps, s, sr, p⟩ := h
  refine ⟨f, h, ps, s, sr, (Post.bind s back_W p).mono (fun v H1 hh => ?_) fun _ _ _ e => e⟩
  obtain ⟨f1, h1, x, s1, q1, p1⟩ := hh
  refine ⟨f1, h1, ps, s1.sim, s1.srep s sr, (Post.bind s1.sim back_W p1).mono (fun u H2 hh => ?_) fun _ _ _ e => e⟩
  obtain ⟨f2, h2, y, s2, q2, p2⟩ := hh
  exact ho f2 h2 H2 x y v u Q _ s2.sim (s2.rep s1.sim q1) q2 p2
theorem se_bin {op : Operator} {r : R2} {o : W → W → PH → Option (W × PH)} (hr : OpR X (binaryOp op) r) (ho : Op2 X.K r o) (ha : SE X W0 a m1) (hb : SE X W0 b m2) : SE X W0 (.BinOp a op b pos) (mOp o m1 m2) :=
  pe_imp (pe_op hr ha hb) fun _ _ _ h => tE_bin ho h
theorem se_un {op : UnaryOp} {r : V → Hp → VK → Prop} {o : W → PH → Option (W × PH)} (hr : UnR X (unaryOp op) r) (ho : Op1 X.K r o) (ha : SE X W0 a m1) : SE X W0 (.UnaryOp op a pos) (mUn o m1) :=
  pe_imp (pe_un hr ha) fun σ H Q h => by
    obtain ⟨f, h, ps, s, sr, p⟩ := h
    refine ⟨f, h, ps, s, sr, (Post.bind s back_W p).mono (fun v H1 hh => ?_) fun _ _ _ e => e⟩
    obtain ⟨f1, h1, x, s1, q1, p1⟩ := hh
    exact ho f1 h1 H1 x v Q _ s1.sim q1 p1
/-- a comparison as a value -/
theorem se_cmp {op : CmpOp} {r : R2} {o : W → W → PH → Option (W × PH)} (hr : OpR X (compareOp op) r) (ho : Op2 X.K r o) (ha : SE X W0 a m1) (hb : SE X W0 b m2) (hm : behindInMarks op b = false := by first | exact nomark _ | with_unfolding_all rfl) :
    SE X W0 (.Compare a [op] [b] pos) (mOp o m1 m2) := pe_imp (pe_cmpR hr ha hb hm) fun _ _ _ h => tE_bin ho h
/-- a[b] -/
theorem se_ix {r : R2} {o : W → W → PH → Option (W × PH)} (hr : IxR X r) (ho : Op2 X.K r o) (ha : SE X W0 a m1) (hb : SE X W0 b m2) (hs : PlainIx b := by exact fun _ _ => rfl) : SE X W0 (.Subscript a b pos) (mOp o m1 m2) :=
  pe_imp (pe_ix hr ha hb hs) fun _ _ _ h => tE_bin ho h

/-! ### tests -/
/-- a bool, as a test -/
def toB : W → PH → Res Bool
  | .bl b, h => .ok b h
  | _, _ => .stuck
def mB (m : EM) : BM := fun ps h => (m ps h).bind toB
theorem post_bl {K : PySem.W.Frag} {f : List Addr} {h : PH} {H : Hp} {x : W} {v : V} {Q : Bool → Hp → Prop} {E : XK} (s : Sim K f h H) (r : Rep K f H x v)
    (p : Post K RB f H (toB x h) Q E) : ∃ k, v = .bl k ∧ Q k H := by
  cases x with
  | bl b =>
    have e : v = .bl b := by simpa only [Rep] using r
    exact ⟨b, e, p f H b (.refl s) rfl⟩
  | _ => exact p.elim
theorem tT_test {K : PySem.W.Frag} {σ : L2.St} {H : Hp} {Q : Bool → Hp → Prop} (h : tT K W0 (mB m1) σ H Q) : tTest (tE K W0 m1) σ H Q := by
  obtain ⟨f, h, ps, s, sr, p⟩ := h
  refine ⟨f, h, ps, s, sr, (Post.bind s back_B p).mono (fun v H1 hh => ?_) fun _ _ _ e => e⟩
  obtain ⟨f1, h1, x, s1, q1, p1⟩ := hh
  exact post_bl s1.sim q1 p1
theorem st_cmp {op : CmpOp} {r : R2} {o : W → W → PH → Option (W × PH)} (hr : OpR X (compareOp op) r) (ho : Op2 X.K r o) (ha : SE X W0 a m1) (hb : SE X W0 b m2) (hm : behindInMarks op b = false := by first | exact nomark _ | with_unfolding_all rfl) :
    ST X W0 (.Compare a [op] [b] pos) (mB (mOp o m1 m2)) := pt_imp (pt_cmpR hr ha hb hm) fun σ H Q h => by
  obtain ⟨f, h, ps, s, sr, p⟩ := h
  have q : tE X.K W0 (mOp o m1 m2) σ H fun x H' => ∃ k, x = .bl k ∧ Q k H' := by
    refine ⟨f, h, ps, s, sr, (Post.bind s back_B p).mono (fun v H1 hh => ?_) fun _ _ _ e => e⟩
    obtain ⟨f1, h1, x, s1, q1, p1⟩ := hh
    exact post_bl s1.sim q1 p1
  exact tE_bin ho q
/-- any expression whose value is a bool, as a test -/
theorem st_val {e : Expr} (ha : SE X W0 e m1) (he : ∀ whole, isTrue e X.env whole = (do let v ← whole; standAt e.pos; holding [v] (truthy v)) := by intro _; rfl) : ST X W0 e (mB m1) :=
  pt_imp (pt_val ha he) fun σ H Q h => tT_test h

/-- a truth by the own heap -/
def tru : W → PH → Option Bool
  | .non, _ => some false
  | .bl b, _ => some b
  | .int i, _ => some (i != 0)
  | .str y, _ => if y.length ≤ sizeLine then some ((y.length : Int) != 0) else none
  | .tup xs, _ => some (!xs.isEmpty)
  | .fix xs, _ => some (!xs.isEmpty)
  | .exc _, _ => none
  | .ref n, h => match h[n]? with
    | some (.lst xs) => some (!xs.isEmpty)
    | some (.dK kvs) => some (!kvs.isEmpty)
    | _ => none
def mTru (m : EM) : BM := fun ps h => (m ps h).bind fun x h1 => match tru x h1 with
  | some b => .ok b h1
  | none => .stuck
theorem Reps.isEmpty {K : PySem.W.Frag} {f : List Addr} {H : Hp} {ws : List W} {vs : List V} (h : Reps K f H ws vs) : ws.isEmpty = vs.isEmpty := by
  cases ws with
  | nil =>
    rw [h.nil_inv]
    rfl
  | cons w r =>
    obtain ⟨v, t, rfl, _, _⟩ := h.cons_inv
    rfl
theorem KRep.isEmpty {κ : Type} {K : PySem.W.Frag} {f : List Addr} {H : Hp} {ws : List (κ × W)} {vs : List (κ × V)} (h : KRep K f H ws vs) : ws.isEmpty = vs.isEmpty := by
  cases ws with
  | nil =>
    have e : vs = [] := h
    rw [e]
    rfl
  | cons w r =>
    obtain ⟨v, t, rfl, _, _⟩ := h
    rfl
theorem Sim.at {K : PySem.W.Frag} {f : List Addr} {h : PH} {H : Hp} (s : Sim K f h H) {n : Nat} {o : OB} {v : V} (e : h[n]? = some o) (r : Rep K f H (.ref n) v) : ∃ a, v = .ref a ∧ f[n]? = some a ∧ ObjR K f H o a := by
  simp only [Rep] at r
  obtain ⟨a, h1, h2⟩ := r
  obtain ⟨b, h3, h4⟩ := s.obj n o e
  rw [h2] at h3
  cases h3
  exact ⟨a, h1, h2, h4⟩
theorem truV_of {K : PySem.W.Frag} {f : List Addr} {h : PH} {H : Hp} {x : W} {v : V} {k : Bool} (s : Sim K f h H) (r : Rep K f H x v) (e : tru x h = some k) : TruV K v H k := by
  cases x with
  | non => simp only [Rep] at r; subst r; simp only [tru, Option.some.injEq] at e; exact e.symm
  | bl b => simp only [Rep] at r; subst r; simp only [tru, Option.some.injEq] at e; exact e.symm
  | int i => simp only [Rep] at r; subst r; simp only [tru, Option.some.injEq] at e; exact e.symm
  | str y =>
    simp only [Rep] at r; subst r
    simp only [tru] at e
    split at e
    · rename_i hl
      simp only [Option.some.injEq] at e
      exact ⟨hl, e.symm⟩
    · cases e
  | tup xs =>
    simp only [Rep] at r
    obtain ⟨a, vs, rfl, h1, h2⟩ := r
    simp only [tru, Option.some.injEq] at e
    exact .inr (.inl ⟨vs, h1, by rw [← e, h2.isEmpty]⟩)
  | fix xs =>
    simp only [Rep] at r
    obtain ⟨a, vs, rfl, h1, h2⟩ := r
    simp only [tru, Option.some.injEq] at e
    exact .inl ⟨vs, h1.seq, by rw [← e, h2.isEmpty]⟩
  | exc _ => cases e
  | ref n =>
    simp only [tru] at e
    split at e
    · rename_i xs hn
      obtain ⟨a, rfl, _, vs, h1, h2⟩ := s.at hn r
      simp only [Option.some.injEq] at e
      exact .inl ⟨vs, SqL.of h1, by rw [← e, h2.isEmpty]⟩
    · rename_i xs hn
      obtain ⟨a, rfl, _, vs, h1, h2⟩ := s.at hn r
      simp only [Option.some.injEq] at e
      exact .inr (.inr ⟨vs, h1, by rw [← e, h2.isEmpty]⟩)
    · cases e
theorem st_tru {e : Expr} (ha : SE X W0 e m1) (he : ∀ whole, isTrue e X.env whole = (do let v ← whole; standAt e.pos; holding [v] (truthy v)) := by intro _; rfl) : ST X W0 e (mTru m1) :=
  pt_imp (pt_truth ha he) fun σ H Q h => by
    obtain ⟨f, h, ps, s, sr, p⟩ := h
    refine ⟨f, h, ps, s, sr, (Post.bind s back_B p).mono (fun v H1 hh => ?_) fun _ _ _ e => e⟩
    obtain ⟨f1, h1, x, s1, q1, p1⟩ := hh
    cases e : tru x h1 with
    | none => simp only [e] at p1; exact p1.elim
    | some k =>
      simp only [e] at p1
      exact ⟨k, truV_of s1.sim q1 e, p1 f1 H1 k (.refl s1.sim) rfl⟩

def mAnd (m n : BM) : BM := fun ps h => (m ps h).bind fun b h1 => if b = true then n ps h1 else .ok false h1
def mOr (m n : BM) : BM := fun ps h => (m ps h).bind fun b h1 => if b = true then .ok true h1 else n ps h1
def mNot (m : BM) : BM := fun ps h => (m ps h).bind fun b h1 => .ok (!b) h1
variable {n1 n2 : BM} {rest : List Expr}
theorem sw_and1 (ha : ST X W0 a n1) : SW X W0 (.BoolOp .And [a] pos) n1 := pw_and1 ha
theorem sw_or1 (ha : ST X W0 a n1) : SW X W0 (.BoolOp .Or [a] pos) n1 := pw_or1 ha
theorem sw_and (ha : ST X W0 a n1) (hb : SW X W0 (.BoolOp .And (b :: rest) pos) n2) : SW X W0 (.BoolOp .And (a :: b :: rest) pos) (mAnd n1 n2) := pw_imp (pw_and ha hb) fun σ H Q h => by
  obtain ⟨f, h, ps, s, sr, p⟩ := h
  refine ⟨f, h, ps, s, sr, (Post.bind s back_B p).mono (fun v H1 hh => ?_) fun _ _ _ e => e⟩
  obtain ⟨f1, h1, x, s1, q1, p1⟩ := hh
  cases q1
  by_cases hx : v = true
  · rw [if_pos hx] at p1 ⊢
    exact ⟨f1, h1, ps, s1.sim, s1.srep s sr, p1⟩
  · rw [if_neg hx] at p1 ⊢
    exact p1 f1 H1 _ (.refl s1.sim) rfl
theorem sw_or (ha : ST X W0 a n1) (hb : SW X W0 (.BoolOp .Or (b :: rest) pos) n2) : SW X W0 (.BoolOp .Or (a :: b :: rest) pos) (mOr n1 n2) := pw_imp (pw_or ha hb) fun σ H Q h => by
  obtain ⟨f, h, ps, s, sr, p⟩ := h
  refine ⟨f, h, ps, s, sr, (Post.bind s back_B p).mono (fun v H1 hh => ?_) fun _ _ _ e => e⟩
  obtain ⟨f1, h1, x, s1, q1, p1⟩ := hh
  cases q1
  by_cases hx : v = true
  · rw [if_pos hx] at p1 ⊢
    exact p1 f1 H1 _ (.refl s1.sim) rfl
  · rw [if_neg hx] at p1 ⊢
    exact ⟨f1, h1, ps, s1.sim, s1.srep s sr, p1⟩
theorem st_not (ha : ST X W0 a n1) : ST X W0 (.UnaryOp .Not a pos) (mNot n1) := pt_imp (pt_not ha) fun σ H Q h => by
  obtain ⟨f, h, ps, s, sr, p⟩ := h
  refine ⟨f, h, ps, s, sr, (Post.bind s back_B p).mono (fun v H1 hh => ?_) fun _ _ _ e => e⟩
  obtain ⟨f1, h1, x, s1, q1, p1⟩ := hh
  cases q1
  exact p1 f1 H1 _ (.refl s1.sim) rfl
/-- a if t else b -/
def mIf (t : BM) (m n : EM) : EM := fun ps h => (t ps h).bind fun b h1 => if b = true then m ps h1 else n ps h1
theorem se_if (hc : ST X W0 c n1) (ha : SE X W0 a m1) (hb : SE X W0 b m2) : SE X W0 (.IfExp c a b pos) (mIf n1 m1 m2) := pe_imp (pe_ifExp hc ha hb) fun σ H Q h => by
  obtain ⟨f, h, ps, s, sr, p⟩ := h
  refine ⟨f, h, ps, s, sr, (Post.bind s back_W p).mono (fun v H1 hh => ?_) fun _ _ _ e => e⟩
  obtain ⟨f1, h1, x, s1, q1, p1⟩ := hh
  cases q1
  by_cases hx : v = true
  · rw [if_pos hx] at p1 ⊢
    exact ⟨f1, h1, ps, s1.sim, s1.srep s sr, p1⟩
  · rw [if_neg hx] at p1 ⊢
    exact ⟨f1, h1, ps, s1.sim, s1.srep s sr, p1⟩
/-- and, or, not as values: of bools -/
def mAndV (m n : EM) : EM := fun ps h => (m ps h).bind fun x h1 => match x with
  | .bl b => if b = true then n ps h1 else .ok (.bl false) h1
  | _ => .stuck
def mOrV (m n : EM) : EM := fun ps h => (m ps h).bind fun x h1 => match x with
  | .bl b => if b = true then .ok (.bl true) h1 else n ps h1
  | _ => .stuck
def mNotV (m : EM) : EM := fun ps h => (m ps h).bind fun x h1 => match x with
  | .bl b => .ok (.bl (!b)) h1
  | _ => .stuck
theorem se_one {op} (h : SE X W0 a m1) : SE X W0 (.BoolOp op [a] pos) m1 := pe_one h
theorem se_and (ha : SE X W0 a m1) (hb : SE X W0 (.BoolOp .And (b :: rest) pos) m2) : SE X W0 (.BoolOp .And (a :: b :: rest) pos) (mAndV m1 m2) := pe_imp (pe_and ha hb) fun σ H Q h => by
  obtain ⟨f, h, ps, s, sr, p⟩ := h
  refine ⟨f, h, ps, s, sr, (Post.bind s back_W p).mono (fun v H1 hh => ?_) fun _ _ _ e => e⟩
  obtain ⟨f1, h1, x, s1, q1, p1⟩ := hh
  cases x with
  | bl k =>
    have e : v = .bl k := by simpa only [Rep] using q1
    refine ⟨k, e, ?_⟩
    dsimp only at p1
    by_cases hx : k = true
    · rw [if_pos hx] at p1 ⊢
      exact ⟨f1, h1, ps, s1.sim, s1.srep s sr, p1⟩
    · rw [if_neg hx] at p1 ⊢
      exact p1 f1 H1 _ (.refl s1.sim) (by simp only [Rep])
  | _ => exact p1.elim
theorem se_or (ha : SE X W0 a m1) (hb : SE X W0 (.BoolOp .Or (b :: rest) pos) m2) : SE X W0 (.BoolOp .Or (a :: b :: rest) pos) (mOrV m1 m2) := pe_imp (pe_or ha hb) fun σ H Q h => by
  obtain ⟨f, h, ps, s, sr, p⟩ := h
  refine ⟨f, h, ps, s, sr, (Post.bind s back_W p).mono (fun v H1 hh => ?_) fun _ _ _ e => e⟩
  obtain ⟨f1, h1, x, s1, q1, p1⟩ := hh
  cases x with
  | bl k =>
    have e : v = .bl k := by simpa only [Rep] using q1
    refine ⟨k, e, ?_⟩
    dsimp only at p1
    by_cases hx : k = true
    · rw [if_pos hx] at p1 ⊢
      exact p1 f1 H1 _ (.refl s1.sim) (by simp only [Rep])
    · rw [if_neg hx] at p1 ⊢
      exact ⟨f1, h1, ps, s1.sim, s1.srep s sr, p1⟩
  | _ => exact p1.elim
theorem se_not (ha : SE X W0 a m1) : SE X W0 (.UnaryOp .Not a pos) (mNotV m1) := pe_imp (pe_not ha) fun σ H Q h => by
  obtain ⟨f, h, ps, s, sr, p⟩ := h
  refine ⟨f, h, ps, s, sr, (Post.bind s back_W p).mono (fun v H1 hh => ?_) fun _ _ _ e => e⟩
  obtain ⟨f1, h1, x, s1, q1, p1⟩ := hh
  cases x with
  | bl k =>
    have e : v = .bl k := by simpa only [Rep] using q1
    exact ⟨k, e, p1 f1 H1 _ (.refl s1.sim) (by simp only [Rep])⟩
  | _ => exact p1.elim

/-! ### argument lists, displays -/
def mNil : LM := fun _ h => .ok [] h
def mCons (m : EM) (r : LM) : LM := fun ps h => (m ps h).bind fun x h1 => (r ps h1).bind fun xs h2 => .ok (x :: xs) h2
variable {es : List Expr} {l1 l2 : LM} {e : Expr}
theorem sa_nil : SA X W0 [] mNil := pa_imp pa_nil fun σ H Q h => by
  obtain ⟨f, h, ps, s, sr, p⟩ := h
  exact p f H [] (.refl s) .nil
theorem sa_cons (ha : SE X W0 e m1) (hr : SA X W0 es l1) (hs : starEach (e :: es) X.env = (false, eval e X.env) :: starEach es X.env := by rfl) : SA X W0 (e :: es) (mCons m1 l1) := pa_imp (pa_cons ha hr hs) fun σ H Q h => by
  obtain ⟨f, h, ps, s, sr, p⟩ := h
  refine ⟨f, h, ps, s, sr, (Post.bind s back_A p).mono (fun v H1 hh => ?_) fun _ _ _ e => e⟩
  obtain ⟨f1, h1, x, s1, q1, p1⟩ := hh
  refine ⟨f1, h1, ps, s1.sim, s1.srep s sr, (Post.bind s1.sim back_A p1).mono (fun vs H2 hh => ?_) fun _ _ _ e => e⟩
  obtain ⟨f2, h2, xs, s2, q2, p2⟩ := hh
  exact p2 f2 H2 _ (.refl s2.sim) (.cons (s2.rep s1.sim q1) q2)

/-- an object of no one's, new -/
theorem Sim.other {K : PySem.W.Frag} {f : List Addr} {h : PH} {H : Hp} (s : Sim K f h H) {p : Addr} {o : HO} (hp : H p = none) : Step K f H f h (upd H p o) := by
  have nf := s.fresh hp
  have g : Grow f H (upd H p o) := fun a u e hn => by rw [upd_ne (ne_of_none e hp)]; exact e
  refine ⟨.refl f, fun x a b => absurd a b, g, fun a o us e => by rw [upd_ne (ne_of_none e hp)]; exact e, s.len, s.nd, fun n ob e => ?_⟩
  obtain ⟨a, h1, h2⟩ := s.obj n ob e
  have ha : a ∈ f := List.mem_of_getElem? h1
  exact ⟨a, h1, h2.mono (.refl f) (s.stay g) (upd_ne fun z => nf (z ▸ ha))⟩
def mTup (l : LM) : EM := fun ps h => (l ps h).bind fun xs h1 => if xs.length ≤ 16777216 then .ok (.tup xs) h1 else .stuck
theorem se_tup {x1} (ha : SA X W0 es l1) : SE X W0 (.Tuple es x1 pos) (mTup l1) := pe_imp (pe_tup ha) fun σ H Q h => by
  obtain ⟨f, h, ps, s, sr, p⟩ := h
  refine ⟨f, h, ps, s, sr, (Post.bind s back_W p).mono (fun vs H1 hh => ?_) fun _ _ _ e => e⟩
  obtain ⟨f1, h1, xs, s1, q1, p1⟩ := hh
  by_cases hl : xs.length ≤ 16777216
  · rw [if_pos hl] at p1
    refine ⟨by rw [← q1.length, sizeLine_eq]; exact hl, fun q hq => p1 f1 _ _ (s1.sim.other hq) ?_⟩
    simp only [Rep]
    exact ⟨q, vs, rfl, SqT.of upd_same, Reps.mono (.refl f1) (s1.sim.stay (s1.sim.other hq).grow) _ _ q1⟩
  · rw [if_neg hl] at p1
    exact p1.elim
/-- a list display -/
def mLst (l : LM) : LM := fun ps h => (l ps h).bind fun xs h1 => if xs.length ≤ 16777216 then .ok xs h1 else .stuck
theorem sl_lst (ha : SA X W0 es l1) : SL X W0 (.List es pos) (mLst l1) := pe_imp (pe_lst ha) fun σ H Q h => by
  obtain ⟨f, h, ps, s, sr, p⟩ := h
  refine ⟨f, h, ps, s, sr, (Post.bind s back_L p).mono (fun vs H1 hh => ?_) fun _ _ _ e => e⟩
  obtain ⟨f1, h1, xs, s1, q1, p1⟩ := hh
  by_cases hl : xs.length ≤ 16777216
  · rw [if_pos hl] at p1
    refine ⟨by rw [← q1.length, sizeLine_eq]; exact hl, fun q hq => p1 f1 _ _ (s1.sim.other hq) ?_⟩
    exact ⟨q, vs, rfl, hq, s1.sim.fresh hq, upd_same, Reps.mono (.refl f1) (s1.sim.stay (s1.sim.other hq).grow) _ _ q1⟩
  · rw [if_neg hl] at p1
    exact p1.elim
/-- a new list, at a number of its own -/
def mNew (l : LM) : EM := fun ps h => (l ps h).bind fun xs h1 => .ok (.ref h1.length) (h1 ++ [.lst xs])
theorem Sim.take_in {K : PySem.W.Frag} {f : List Addr} {h : PH} {H : Hp} (s : Sim K f h H) {p : Addr} {o : OB} (np : p ∉ f) (ho : ObjR K f H o p) : Sim K (f ++ [p]) (h ++ [o]) H := by
  have st : Stay K H H := .refl K H
  refine ⟨by simp [s.len], List.nodup_append.mpr ⟨s.nd, by simp, ?_⟩, fun n ob e => ?_⟩
  · intro a ha b hb
    rw [List.mem_singleton] at hb
    subst hb
    exact fun z => np (z ▸ ha)
  · by_cases hn : n < h.length
    · rw [List.getElem?_append_left hn] at e
      obtain ⟨a, h1, h2⟩ := s.obj n ob e
      exact ⟨a, (Ext.snoc f p).get h1, h2.mono (.snoc f p) st rfl⟩
    · rw [List.getElem?_append_right (by omega)] at e
      have e2 : n - h.length = 0 := by
        cases k : n - h.length with
        | zero => rfl
        | succ j => rw [k] at e; simp at e
      rw [e2] at e
      simp only [List.getElem?_cons_zero, Option.some.injEq] at e
      subst e
      refine ⟨p, ?_, ho.mono (.snoc f p) st rfl⟩
      rw [List.getElem?_append_right (by rw [s.len]; omega)]
      have e3 : n - f.length = 0 := by rw [s.len]; exact e2
      rw [e3]
      rfl
theorem se_new (ha : SL X W0 e l1) : SE X W0 e (mNew l1) := pe_imp ha fun σ H Q h => by
  obtain ⟨f, h, ps, s, sr, p⟩ := h
  refine ⟨f, h, ps, s, sr, ?_⟩
  have p : Post X.K (RW X.K) f H ((l1 ps h).bind fun xs h1 => .ok (.ref h1.length) (h1 ++ [.lst xs])) Q _ := p
  cases e : l1 ps h with
  | stuck => rw [e] at p; exact p
  | exc x h' => rw [e] at p; exact p
  | ok xs h1 =>
    rw [e] at p
    intro f1 H1 v s1 q1
    obtain ⟨q, vs, rfl, hq, nq, eq, rq⟩ := q1
    refine p (f1 ++ [q]) H1 (.ref q) ⟨s1.ext.trans (.snoc f1 q), fun x hx hn => ?_, s1.grow, s1.lk, s1.sim.take_in nq ⟨vs, eq, rq⟩⟩ ?_
    · rcases List.mem_append.mp hx with m | m
      · exact s1.new x m hn
      · rw [List.mem_singleton] at m
        rw [m]
        exact hq
    · simp only [Rep]
      refine ⟨q, rfl, ?_⟩
      rw [List.getElem?_append_right (by rw [s1.sim.len]; omega), s1.sim.len]
      simp
end
end Mir

/-! Mir: operators. -/
namespace Mir
open PySem PySem.Spec PyProof.Rows L2

theorem Op2.or {K : PySem.W.Frag} {r r' : R2} {o : W → W → PH → Option (W × PH)} (h : ∀ (f : List Addr) (h : PH) (H : Hp) (x y : W) (v u : V) (Q : VK) (E : XK), Sim K f h H → Rep K f H x v → Rep K f H y u → Post K (RW K) f H (.ofO (o x y h)) Q E → r v u H Q ∨ r' v u H Q) :
    Op2 K (fun x y H Q => r x y H Q ∨ r' x y H Q) o := h
section
variable {K : PySem.W.Frag} {f : List Addr} {h : PH} {H : Hp} {x y : W} {v u : V} {Q : VK} {E : XK}
theorem rep_int {i : Int} : Rep K f H (.int i) v ↔ v = .int i := by simp only [Rep]
theorem rep_bl {i : Bool} : Rep K f H (.bl i) v ↔ v = .bl i := by simp only [Rep]
theorem rep_str {i : Str} : Rep K f H (.str i) v ↔ v = .str i := by simp only [Rep]
theorem rep_non : Rep K f H .non v ↔ v = .non := by simp only [Rep]
theorem rep_tup {xs : List W} : Rep K f H (.tup xs) v ↔ ∃ a vs, v = .ref a ∧ SqT K H a vs ∧ Reps K f H xs vs := by simp only [Rep]
theorem rep_exc {x : XV} : Rep K f H (.exc x) v ↔ ∃ a, v = .ref a ∧ ExR K H x a := by simp only [Rep]
theorem rep_fix {xs : List W} : Rep K f H (.fix xs) v ↔ ∃ a vs, v = .ref a ∧ FixL K H a vs ∧ Reps K f H xs vs := by simp only [Rep]
theorem post_ok {w : W} (s : Sim K f h H) (p : Post K (RW K) f H (.ofO (some (w, h))) Q E) {v : V} (r : Rep K f H w v) : Q v H := post_pure s p r
/-- a new tuple -/
theorem post_tup {xs : List W} {vs : List V} (s : Sim K f h H) (p : Post K (RW K) f H (.ofO (some (.tup xs, h))) Q E) (r : Reps K f H xs vs) {q : Addr} (hq : H q = none) : Q (.ref q) (upd H q (.tup vs)) :=
  p f _ _ (s.other hq) (rep_tup.mpr ⟨q, vs, rfl, SqT.of upd_same, Reps.mono (.refl f) (s.stay (s.other hq).grow) _ _ r⟩)
end

/-! ### a fresh list stays as it is from now on -/
abbrev QF (Q : VK) : VK := fun v H1 => Q v H1 ∨ ∃ a vs, v = .ref a ∧ H1 a = some (.lst vs) ∧ ∀ o, Q v (upd H1 a (.frz o (.lst vs)))
theorem pe_frz {X : Cx} {e : Expr} {t : TE} (h : PE X e t) : PE X e (fun σ H Q => t σ H (QF Q)) := by
  refine ⟨fun pins s σ H Q I q => thn (h.run pins s σ H _ I q) fun u s1 hh => ?_⟩
  obtain ⟨x, H1, I1, r, q1⟩ := hh
  rcases q1 with q1 | ⟨a, vs, rfl, e1, q1⟩
  · exact ⟨x, H1, I1, r, q1⟩
  · obtain ⟨o, I2⟩ := I1.lock e1 trivial
    exact ⟨_, _, I2, r, q1 o⟩
theorem stay_frz {K : PySem.W.Frag} {H : Hp} {D : Addr} {vs : List V} {o : Obj} (e : H D = some (.lst vs)) : Stay K H (upd H D (.frz o (.lst vs))) := by
  have key : ∀ a u, H a = some u → (∀ xs, u ≠ .lst xs) → upd H D (.frz o (.lst vs)) a = some u := fun a u e2 n => by
    rw [upd_ne (fun z => by subst z; rw [e] at e2; cases e2; exact n _ rfl)]
    exact e2
  refine ⟨fun a xs r => ?_, fun a xs r => ?_, fun a φ r => key _ _ r (fun _ z => by cases z), fun a gs r => key _ _ r (fun _ z => by cases z)⟩
  · rcases r with (r | ⟨o, r⟩) | r
    · exact .inl (.inl (key _ _ r (fun _ z => by cases z)))
    · exact .inl (.inr ⟨o, key _ _ r (fun _ z => by cases z)⟩)
    · exact .inr r
  · rcases r with ⟨o, r⟩ | r
    · exact .inl ⟨o, key _ _ r (fun _ z => by cases z)⟩
    · exact .inr r
theorem Step.freeze {K : PySem.W.Frag} {f f1 : List Addr} {h1 : PH} {H H1 : Hp} (st : Step K f H f1 h1 H1) {D : Addr} {vs : List V} {o : Obj} (hD : H D = none) (nd : D ∉ f1) (e : H1 D = some (.lst vs)) : Step K f H f1 h1 (upd H1 D (.frz o (.lst vs))) :=
  ⟨st.ext, st.new, fun a u ea na => by
    rw [upd_ne (fun z => by subst z; rw [hD] at ea; cases ea)]
    exact st.grow a u ea na, fun a o us ea => by
    have := st.lk a o us ea
    rw [upd_ne (fun z => by subst z; rw [e] at this; cases this)]
    exact this, st.sim.len, st.sim.nd, fun n ob q => by
    obtain ⟨a, h1, h2⟩ := st.sim.obj n ob q
    exact ⟨a, h1, h2.mono (.refl f1) (stay_frz e) (upd_ne fun z => nd (z ▸ List.mem_of_getElem? h1))⟩⟩
/-- a list that none will change -/
def mFix (l : LM) : EM := fun ps h => (l ps h).bind fun xs h1 => .ok (.fix xs) h1
theorem se_fix {X : Cx} {W0 : WX} {e : Expr} {l1 : LM} (ha : SL X W0 e l1) : SE X W0 e (mFix l1) := pe_imp (pe_frz ha) fun σ H Q h => by
  obtain ⟨f, h, ps, s, sr, p⟩ := h
  refine ⟨f, h, ps, s, sr, ?_⟩
  have p : Post X.K (RW X.K) f H ((l1 ps h).bind fun xs h1 => .ok (.fix xs) h1) Q _ := p
  cases e : l1 ps h with
  | stuck => rw [e] at p; exact p
  | exc x h' => rw [e] at p; exact p
  | ok xs h1 =>
    rw [e] at p
    intro f1 H1 v s1 q1
    obtain ⟨q, vs, rfl, hq, nq, eq, rq⟩ := q1
    exact .inr ⟨q, vs, rfl, eq, fun o => p f1 _ _ (s1.freeze hq nq eq) (rep_fix.mpr ⟨q, vs, rfl, .inl ⟨o, upd_same⟩, Reps.mono (.refl f1) (stay_frz eq) _ _ rq⟩)⟩
section
variable {K : PySem.W.Frag} {f : List Addr} {h : PH} {H : Hp} {Q : VK} {E : XK}
theorem post_fix {xs : List W} {vs : List V} (s : Sim K f h H) (p : Post K (RW K) f H (.ofO (some (.fix xs, h))) Q E) (r : Reps K f H xs vs) {q : Addr} (hq : H q = none) : QF Q (.ref q) (upd H q (.lst vs)) :=
  .inr ⟨q, vs, rfl, upd_same, fun o => by
    have st := s.other (o := .lst vs) hq
    exact p f _ _ (st.freeze hq (s.fresh hq) upd_same) (rep_fix.mpr ⟨q, vs, rfl, .inl ⟨o, upd_same⟩, Reps.mono (.refl f) ((s.stay st.grow).trans (stay_frz upd_same)) _ _ r⟩)⟩
end
/-- as Op2; a list told is one that none will change -/
def Op2F (K : PySem.W.Frag) (r : R2) (o : W → W → PH → Option (W × PH)) : Prop :=
  ∀ (f : List Addr) (h : PH) (H : Hp) (x y : W) (v u : V) (Q : VK) (E : XK), Sim K f h H → Rep K f H x v → Rep K f H y u → Post K (RW K) f H (.ofO (o x y h)) Q E → r v u H (QF Q)
theorem se_binF {X : Cx} {W0 : WX} {a b : Expr} {pos : Pos} {m1 m2 : EM} {op : Operator} {r : R2} {o : W → W → PH → Option (W × PH)} (hr : OpR X (binaryOp op) r) (ho : Op2F X.K r o) (ha : SE X W0 a m1) (hb : SE X W0 b m2) : SE X W0 (.BinOp a op b pos) (mOp o m1 m2) :=
  pe_imp (pe_frz (pe_op hr ha hb)) fun σ H Q h => by
    obtain ⟨f, h, ps, s, sr, p⟩ := h
    refine ⟨f, h, ps, s, sr, (Post.bind (R1 := RW X.K) s back_W p).mono (fun v H1 hh => ?_) fun _ _ _ e => e⟩
    obtain ⟨f1, h1, x, s1, q1, p1⟩ := hh
    refine ⟨f1, h1, ps, s1.sim, s1.srep s sr, (Post.bind (R1 := RW X.K) s1.sim back_W p1).mono (fun u H2 hh => ?_) fun _ _ _ e => e⟩
    obtain ⟨f2, h2, y, s2, q2, p2⟩ := hh
    exact ho f2 h2 H2 x y v u Q _ s2.sim (s2.rep s1.sim q1) q2 p2
def lstOf : W → PH → Option (List W)
  | .fix xs, _ => some xs
  | .ref n, h => match h[n]? with
    | some (.lst xs) => some xs
    | _ => none
  | _, _ => none
theorem lstOf_rep {K : PySem.W.Frag} {f : List Addr} {h : PH} {H : Hp} {x : W} {v : V} {ws : List W} (s : Sim K f h H) (r : Rep K f H x v) (e : lstOf x h = some ws) : ∃ a vs, v = .ref a ∧ SqL K H a vs ∧ Reps K f H ws vs := by
  cases x with
  | fix xs =>
    obtain ⟨a, vs, rfl, h1, h2⟩ := rep_fix.mp r
    cases e
    exact ⟨a, vs, rfl, h1.seq, h2⟩
  | ref n =>
    simp only [lstOf] at e
    split at e
    · rename_i xs hn
      obtain ⟨a, rfl, _, vs, h1, h2⟩ := s.at hn r
      cases e
      exact ⟨a, vs, rfl, SqL.of h1, h2⟩
    · cases e
  | _ => cases e

/-! ### whole numbers -/
def wI (g : Int → Int → Option W) : W → W → PH → Option (W × PH)
  | .int i, .int j, h => (g i j).map fun w => (w, h)
  | _, _, _ => none
theorem wI_of {g : Int → Int → Option W} {x y : W} {h : PH} {w : W × PH} (e : wI g x y h = some w) : ∃ i j z, x = .int i ∧ y = .int j ∧ g i j = some z ∧ w = (z, h) := by
  unfold wI at e
  split at e
  · rename_i i j
    cases e2 : g i j with
    | none => rw [e2] at e; cases e
    | some z =>
      rw [e2] at e
      exact ⟨i, j, z, rfl, rfl, e2, (Option.some.inj e).symm⟩
  · cases e
theorem op2_I {K : PySem.W.Frag} {C : Int → Int → Prop} {g : Int → Int → V} {k : Int → Int → Option W} (hk : ∀ i j w, k i j = some w → C i j ∧ ∀ f H, Rep K f H w (g i j)) : Op2 K (rI C g) (wI k) := by
  intro f h H x y v u Q E s rx ry p
  cases e : wI k x y h with
  | none => rw [e] at p; exact p.elim
  | some w =>
    rw [e] at p
    obtain ⟨i, j, z, rfl, rfl, e2, rfl⟩ := wI_of e
    obtain ⟨c, r⟩ := hk i j z e2
    exact ⟨i, j, rep_int.mp rx, rep_int.mp ry, c, post_ok s p (r f H)⟩
theorem op2_I0 {K : PySem.W.Frag} {g : Int → Int → V} {k : Int → Int → Option W} (hk : ∀ i j w, k i j = some w → ∀ f H, Rep K f H w (g i j)) : Op2 K (rI0 g) (wI k) := by
  intro f h H x y v u Q E s rx ry p
  cases e : wI k x y h with
  | none => rw [e] at p; exact p.elim
  | some w =>
    rw [e] at p
    obtain ⟨i, j, z, rfl, rfl, e2, rfl⟩ := wI_of e
    exact ⟨i, j, rep_int.mp rx, rep_int.mp ry, post_ok s p (hk i j z e2 f H)⟩
def wSub := wI fun i j => some (.int (i - j))
def wMod := wI fun i j => if 0 < j then some (.int (i % j)) else none
def wFdiv := wI fun i j => if 0 < j ∧ j.natAbs.log2 < 9000 then some (.int (i / j)) else none
def wPow := wI fun i j => if 0 ≤ j ∧ j ≤ 1000000 ∧ i.natAbs < 2 ^ 64 then some (.int (i ^ j.toNat)) else none
section
variable {K : PySem.W.Frag} {X : Cx} {W0 : WX} {a b : Expr} {pos : Pos} {m1 m2 : EM}
theorem se_sub (ha : SE X W0 a m1) (hb : SE X W0 b m2) : SE X W0 (.BinOp a .Sub b pos) (mOp wSub m1 m2) :=
  se_bin op_sub (op2_I0 fun i j w e f H => by cases e; simp only [Rep]) ha hb
theorem se_mod (ha : SE X W0 a m1) (hb : SE X W0 b m2) : SE X W0 (.BinOp a .Mod b pos) (mOp wMod m1 m2) :=
  se_bin op_mod (op2_I fun i j w e => by
    split at e
    · rename_i c
      cases e
      exact ⟨c, fun f H => by simp only [Rep]⟩
    · cases e) ha hb
theorem se_fdiv (ha : SE X W0 a m1) (hb : SE X W0 b m2) : SE X W0 (.BinOp a .FloorDiv b pos) (mOp wFdiv m1 m2) :=
  se_bin op_fdivW (op2_I fun i j w e => by
    split at e
    · rename_i c
      cases e
      exact ⟨c, fun f H => by simp only [Rep]⟩
    · cases e) ha hb
theorem se_pow (ha : SE X W0 a m1) (hb : SE X W0 b m2) : SE X W0 (.BinOp a .Pow b pos) (mOp wPow m1 m2) :=
  se_bin op_pow (op2_I fun i j w e => by
    split at e
    · rename_i c
      cases e
      exact ⟨c, fun f H => by simp only [Rep]⟩
    · cases e) ha hb
def wNeg : W → PH → Option (W × PH)
  | .int i, h => some (.int (-i), h)
  | _, _ => none
theorem se_neg (ha : SE X W0 a m1) : SE X W0 (.UnaryOp .USub a pos) (mUn wNeg m1) := se_un un_neg (fun f h H x v Q E s r p => by
  unfold wNeg at p
  split at p
  · exact ⟨_, rep_int.mp r, post_ok s p (rep_int.mpr rfl)⟩
  · exact p.elim) ha

/-! ### + -/
def wAdd : W → W → PH → Option (W × PH)
  | .int i, .int j, h => some (.int (i + j), h)
  | .str x, .str y, h => if x.length + y.length ≤ 16777216 then some (.str (x ++ y), h) else none
  | .tup xs, .tup ys, h => if xs.length + ys.length ≤ 16777216 then some (.tup (xs ++ ys), h) else none
  | x, y, h => match lstOf x h, lstOf y h with
    | some xs, some ys => if xs.length + ys.length ≤ 16777216 then some (.fix (xs ++ ys), h) else none
    | _, _ => none
/-- two lists, of any sort -/
abbrev rCatS (K : PySem.W.Frag) : R2 := fun x y H Q => ∃ l b xs zs, x = .ref l ∧ y = .ref b ∧ SqL K H l xs ∧ SqL K H b zs ∧ xs.length + zs.length ≤ 16777216 ∧ ∀ p, H p = none → Q (.ref p) (upd H p (.lst (xs ++ zs)))
theorem op_catS {X : Cx} : OpR X (binaryOp .Add) (rCatS X.K) := by
  intro pins s σ H x y v u Q I rx ry h
  obtain ⟨l, b, xs, zs, rfl, rfl, hx, hy, hz, q⟩ := h
  cases rx
  cases ry
  obtain ⟨i1, r1, ⟨⟨c1, d1, t1, sl1⟩, n1, e1, k1, w1, z1⟩, _⟩ := I.list hx
  obtain ⟨i2, r2, ⟨⟨c2, d2, t2, sl2⟩, n2, e2, k2, w2, z2⟩, _⟩ := I.list hy
  simp only at k1 w1 z1 k2 w2 z2
  subst k1 w1 z1 k2 w2 z2
  have hl : i1.toArray.size + i2.toArray.size ≤ sizeLine := by
    rw [List.size_toArray, List.size_toArray, ← r1.length, ← r2.length, sizeLine_eq]
    exact hz
  refine concat_meets ⟨_, e1, rfl⟩ ⟨_, e2, rfl⟩ noFill_list_add seq_list_add PySem.F.slot_list_add PySem.F.entry_list_add (PySem.F.args_list_add_2 _ _)
    (list_addW l b i1.toArray i2.toArray n1 n2 none none sl1 sl2 hl) ⟨e1, e2, ?_⟩
  have ea : i1.toArray ++ i2.toArray = (i1 ++ i2).toArray := by simp
  rw [ea]
  have hz2 : (xs ++ zs).length ≤ sizeLine := by
    rw [List.length_append, sizeLine_eq]
    exact hz
  exact ⟨.ref _, _, I.lnew (t' := s.toks) (r1.append r2) hz2, rfl, q _ I.fresh⟩
theorem op2_add : Op2F K (fun x y H Q => rI0 (fun i j => .int (i + j)) x y H Q ∨ (∃ i j, x = .str i ∧ y = .str j ∧ i.length + j.length ≤ sizeLine ∧ Q (.str (i ++ j)) H) ∨ rCatA K x y H Q ∨ rCatS K x y H Q) wAdd := by
  intro f h H x y v u Q E s rx ry p
  unfold wAdd at p
  split at p
  · exact .inl ⟨_, _, rep_int.mp rx, rep_int.mp ry, .inl (post_ok s p (rep_int.mpr rfl))⟩
  · split at p
    · rename_i c
      exact .inr (.inl ⟨_, _, rep_str.mp rx, rep_str.mp ry, by rw [sizeLine_eq]; exact c, .inl (post_ok s p (rep_str.mpr rfl))⟩)
    · exact p.elim
  · split at p
    · rename_i c
      obtain ⟨a, vs, rfl, ha, ra⟩ := rep_tup.mp rx
      obtain ⟨b, us, rfl, hb, rb⟩ := rep_tup.mp ry
      refine .inr (.inr (.inl ⟨a, b, vs, us, rfl, rfl, ha, hb, by rw [← ra.length, ← rb.length, sizeLine_eq]; exact c, fun e => .inl ?_, fun _ e => .inl ?_, fun _ _ q hq => .inl (post_tup s p (ra.append rb) hq)⟩))
      · subst e
        refine post_ok s p (rep_tup.mpr ⟨b, us, rfl, hb, ?_⟩)
        exact ra.append rb
      · subst e
        refine post_ok s p (rep_tup.mpr ⟨a, vs, rfl, ha, ?_⟩)
        have z := ra.append rb
        rw [List.append_nil] at z
        exact z
    · exact p.elim
  · split at p
    · rename_i xs ys e1 e2
      split at p
      · rename_i c
        obtain ⟨a, vs, rfl, ha, ra⟩ := lstOf_rep s rx e1
        obtain ⟨b, us, rfl, hb, rb⟩ := lstOf_rep s ry e2
        exact .inr (.inr (.inr ⟨a, b, vs, us, rfl, rfl, ha, hb, by rw [← ra.length, ← rb.length]; exact c, fun q hq => post_fix s p (ra.append rb) hq⟩))
      · exact p.elim
    · exact p.elim
theorem se_add (ha : SE X W0 a m1) (hb : SE X W0 b m2) : SE X W0 (.BinOp a .Add b pos) (mOp wAdd m1 m2) := se_binF (op_add.or (op_add_str.or (op_catA.or op_catS))) op2_add ha hb
/-- two lists: a fresh one -/
def mCat (m1 m2 : EM) : LM := fun ps h => (m1 ps h).bind fun x h1 => (m2 ps h1).bind fun y h2 => match lstOf x h2, lstOf y h2 with
  | some xs, some ys => if xs.length + ys.length ≤ 16777216 then .ok (xs ++ ys) h2 else .stuck
  | _, _ => .stuck
theorem sl_cat (ha : SE X W0 a m1) (hb : SE X W0 b m2) : SL X W0 (.BinOp a .Add b pos) (mCat m1 m2) := pe_imp (pe_op op_catS ha hb) fun σ H Q h => by
  obtain ⟨f, h, ps, s, sr, p⟩ := h
  refine ⟨f, h, ps, s, sr, (Post.bind (R1 := RW X.K) s back_L p).mono (fun v H1 hh => ?_) fun _ _ _ e => e⟩
  obtain ⟨f1, h1, x, s1, q1, p1⟩ := hh
  refine ⟨f1, h1, ps, s1.sim, s1.srep s sr, (Post.bind (R1 := RW X.K) s1.sim back_L p1).mono (fun u H2 hh => ?_) fun _ _ _ e => e⟩
  obtain ⟨f2, h2, y, s2, q2, p2⟩ := hh
  split at p2
  · rename_i xs ys e1 e2
    split at p2
    · rename_i c
      obtain ⟨a, vs, rfl, ha, ra⟩ := lstOf_rep s2.sim (s2.rep s1.sim q1) e1
      obtain ⟨b, us, rfl, hb, rb⟩ := lstOf_rep s2.sim q2 e2
      refine ⟨a, b, vs, us, rfl, rfl, ha, hb, by rw [← ra.length, ← rb.length]; exact c, fun q hq => ?_⟩
      have st := s2.sim.other (o := .lst (vs ++ us)) hq
      exact p2 f2 _ _ st ⟨q, _, rfl, hq, s2.sim.fresh hq, upd_same, Reps.mono (.refl f2) (s2.sim.stay st.grow) _ _ (ra.append rb)⟩
    · exact p2.elim
  · exact p2.elim

/-! ### * -/
def wMul : W → W → PH → Option (W × PH)
  | .int i, .int j, h => if (-(2 ^ 64) < i ∧ i < 2 ^ 64) ∨ (-(2 ^ 64) < j ∧ j < 2 ^ 64) then some (.int (i * j), h) else none
  | .tup xs, .int k, h => if xs ≠ [] ∧ 2 ≤ k ∧ k ≤ 1000 ∧ xs.length ≤ 1000 then some (.tup (List.replicate k.toNat xs).flatten, h) else none
  | .str z, .int k, h => if z.length ≤ 1000 ∧ -1000 ≤ k ∧ k ≤ 10000 then some (.str (Txt.mul z k), h) else none
  | _, _, _ => none
theorem mulS_ok {z : Str} {k : Int} (h1 : z.length ≤ 1000) (h2 : -1000 ≤ k) (h3 : k ≤ 10000) : MulOk z k := by
  refine ⟨by rw [decide_eq_false (by omega), decide_eq_false (by omega)]; rfl, fun a _ => ?_, fun a _ => ?_⟩
  · have : (1000 : Int) ≤ (2 ^ 63 - 1) / k := (Int.le_ediv_iff_mul_le (by omega)).mpr (by omega)
    omega
  · have : z.length * k.toNat ≤ 1000 * 10000 := Nat.mul_le_mul h1 (by omega)
    unfold Builtin.Str.tooLong
    rw [sizeLine_eq]
    exact decide_eq_false (by omega)
abbrev rMulS : R2 := fun x y H Q => ∃ z k, x = .str z ∧ y = .int k ∧ z.length ≤ 1000 ∧ -1000 ≤ k ∧ k ≤ 10000 ∧ Q (.str (Txt.mul z k)) H
theorem op_mulS {X : Cx} : OpR X (binaryOp .Mult) rMulS := by
  intro pins s σ H x y v u Q I rx ry h
  obtain ⟨z, k, rfl, rfl, h1, h2, h3, q⟩ := h
  obtain ⟨t, rfl⟩ := rx
  obtain ⟨t', rfl⟩ := ry
  exact PySem.SB.mul (mulS_ok h1 h2 h3) fun t' tk => ⟨.str _, H, I.tok _, ⟨_, rfl⟩, q⟩
theorem Reps.rep_flat {K : PySem.W.Frag} {f : List Addr} {H : Hp} {ws : List W} {vs : List V} (r : Reps K f H ws vs) : ∀ n : Nat, Reps K f H (List.replicate n ws).flatten (List.replicate n vs).flatten
  | 0 => by simp only [List.replicate_zero, List.flatten_nil, Reps]
  | n + 1 => by
    rw [List.replicate_succ, List.replicate_succ, List.flatten_cons, List.flatten_cons]
    exact r.append (Reps.rep_flat r n)
theorem op2_mul : Op2 K (fun x y H Q => rI CMul (fun i j => .int (i * j)) x y H Q ∨ rRepT K x y H Q ∨ rMulS x y H Q) wMul := by
  intro f h H x y v u Q E s rx ry p
  unfold wMul at p
  split at p
  · split at p
    · rename_i c
      exact .inl ⟨_, _, rep_int.mp rx, rep_int.mp ry, c, post_ok s p (rep_int.mpr rfl)⟩
    · exact p.elim
  · split at p
    · rename_i c
      obtain ⟨a, vs, rfl, ha, ra⟩ := rep_tup.mp rx
      refine .inr <| .inl ⟨a, _, vs, rfl, rep_int.mp ry, ha, fun e => ?_, c.2.1, c.2.2.1, by rw [← ra.length]; exact c.2.2.2, fun q hq => post_tup s p (ra.rep_flat _) hq⟩
      subst e
      have z := ra.length
      exact c.1 (List.length_eq_zero_iff.mp z)
    · exact p.elim
  · split at p
    · rename_i c
      exact .inr <| .inr ⟨_, _, rep_str.mp rx, rep_int.mp ry, c.1, c.2.1, c.2.2, post_ok s p (rep_str.mpr rfl)⟩
    · exact p.elim
  · exact p.elim
theorem se_mul (ha : SE X W0 a m1) (hb : SE X W0 b m2) : SE X W0 (.BinOp a .Mult b pos) (mOp wMul m1 m2) := se_bin (op_mul.or (op_repT.or op_mulS)) op2_mul ha hb
end
end Mir

/-! Mir: comparisons. -/
namespace Mir
open PySem L2

/-! ### order -/
def wCmp (p : Int → Int → Bool) (q : List Nat → List Nat → Bool) : W → W → PH → Option (W × PH)
  | .int i, .int j, h => some (.bl (p i j), h)
  | .str x, .str y, h => some (.bl (q x.cps.toList y.cps.toList), h)
  | _, _, _ => none
def wLt := wCmp (fun i j => decide (i < j)) fun x y => decide (x < y)
def wLe := wCmp (fun i j => decide (i ≤ j)) fun x y => !decide (y < x)
def wGt := wCmp (fun i j => decide (j < i)) fun x y => decide (y < x)
def wGe := wCmp (fun i j => decide (j ≤ i)) fun x y => !decide (x < y)
section
variable {K : PySem.W.Frag} {X : Cx} {W0 : WX} {a b c : Expr} {pos : Pos} {m1 m2 m3 : EM}
theorem op2_cmp {p : Int → Int → Bool} {q : List Nat → List Nat → Bool} {r : R2} (hr : ∀ (i j : Str) (H : Hp) (Q : VK), Q (.bl (q i.cps.toList j.cps.toList)) H → r (.str i) (.str j) H Q) : Op2 K (fun x y H Q => rI0 (fun i j => .bl (p i j)) x y H Q ∨ r x y H Q) (wCmp p q) := by
  intro f h H x y v u Q E s rx ry z
  unfold wCmp at z
  split at z
  · exact .inl ⟨_, _, rep_int.mp rx, rep_int.mp ry, post_ok s z (rep_bl.mpr rfl)⟩
  · have e1 := rep_str.mp rx
    have e2 := rep_str.mp ry
    subst e1 e2
    exact .inr (hr _ _ _ _ (post_ok s z (rep_bl.mpr rfl)))
  · exact z.elim
abbrev rSS (q : List Nat → List Nat → Bool) : R2 := fun x y H Q => ∃ i j, x = .str i ∧ y = .str j ∧ Q (.bl (q i.cps.toList j.cps.toList)) H
theorem o_lt : OpR X (compareOp .Lt) (fun x y H Q => rI0 (fun i j => .bl (decide (i < j))) x y H Q ∨ rSS (fun x y => decide (x < y)) x y H Q) := op_lt.or op_lt_str
theorem o_le : OpR X (compareOp .LtE) (fun x y H Q => rI0 (fun i j => .bl (decide (i ≤ j))) x y H Q ∨ rSS (fun x y => !decide (y < x)) x y H Q) := op_le.or op_le_str
theorem o_gt : OpR X (compareOp .Gt) (fun x y H Q => rI0 (fun i j => .bl (decide (j < i))) x y H Q ∨ rSS (fun x y => decide (y < x)) x y H Q) := op_gt.or op_gt_str
theorem o_ge : OpR X (compareOp .GtE) (fun x y H Q => rI0 (fun i j => .bl (decide (j ≤ i))) x y H Q ∨ rSS (fun x y => !decide (x < y)) x y H Q) := op_ge.or op_ge_str
theorem p_lt : Op2 K (fun x y H Q => rI0 (fun i j => .bl (decide (i < j))) x y H Q ∨ rSS (fun x y => decide (x < y)) x y H Q) wLt := op2_cmp fun i j H Q q => ⟨i, j, rfl, rfl, q⟩
theorem p_le : Op2 K (fun x y H Q => rI0 (fun i j => .bl (decide (i ≤ j))) x y H Q ∨ rSS (fun x y => !decide (y < x)) x y H Q) wLe := op2_cmp fun i j H Q q => ⟨i, j, rfl, rfl, q⟩
theorem p_gt : Op2 K (fun x y H Q => rI0 (fun i j => .bl (decide (j < i))) x y H Q ∨ rSS (fun x y => decide (y < x)) x y H Q) wGt := op2_cmp fun i j H Q q => ⟨i, j, rfl, rfl, q⟩
theorem p_ge : Op2 K (fun x y H Q => rI0 (fun i j => .bl (decide (j ≤ i))) x y H Q ∨ rSS (fun x y => !decide (x < y)) x y H Q) wGe := op2_cmp fun i j H Q q => ⟨i, j, rfl, rfl, q⟩

/-- a op1 b op2 c -/
def mChain (o o' : W → W → PH → Option (W × PH)) (m1 m2 m3 : EM) : EM := fun ps h => (m1 ps h).bind fun x h1 => (m2 ps h1).bind fun y h2 => (Res.ofO (o x y h2)).bind fun z h3 => match z with
  | .bl k => if k = true then (m3 ps h3).bind fun w h4 => .ofO (o' y w h4) else .ok (.bl false) h3
  | _ => .stuck
/-- an operation that keeps its operands' trees -/
theorem tE_chain {r r' : R2} {o o' : W → W → PH → Option (W × PH)} (ho : Op2 K r o) (ho' : Op2 K r' o') {σ : L2.St} {H : Hp} {Q : VK} (h : tE K W0 (mChain o o' m1 m2 m3) σ H Q) : tChain r r' (tE K W0 m1) (tE K W0 m2) (tE K W0 m3) σ H Q := by
  obtain ⟨f, h, ps, s, sr, p⟩ := h
  refine ⟨f, h, ps, s, sr, (Post.bind s back_W p).mono (fun v H1 hh => ?_) fun _ _ _ e => e⟩
  obtain ⟨f1, h1, x, s1, q1, p1⟩ := hh
  refine ⟨f1, h1, ps, s1.sim, s1.srep s sr, (Post.bind s1.sim back_W p1).mono (fun u H2 hh => ?_) fun _ _ _ e => e⟩
  obtain ⟨f2, h2, y, s2, q2, p2⟩ := hh
  refine ho f2 h2 H2 x y v u _ (fun c d H' => W0 c d σ H') s2.sim (s2.rep s1.sim q1) q2 ((Post.bind (R1 := RW K) s2.sim back_W p2).mono (fun t H3 hh => ?_) fun _ _ _ e => e)
  obtain ⟨f3, h3, z, s3, q3, p3⟩ := hh
  cases z with
  | bl k =>
    refine ⟨k, rep_bl.mp q3, ?_⟩
    dsimp only at p3
    by_cases hk : k = true
    · rw [if_pos hk] at p3 ⊢
      refine ⟨f3, h3, ps, s3.sim, s3.srep s2.sim (s2.srep s1.sim (s1.srep s sr)), (Post.bind s3.sim back_W p3).mono (fun w H4 hh => ?_) fun _ _ _ e => e⟩
      obtain ⟨f4, h4, w', s4, q4, p4⟩ := hh
      exact ho' f4 h4 H4 y w' u w Q _ s4.sim (s4.rep s3.sim (s3.rep s2.sim q2)) q4 p4
    · rw [if_neg hk] at p3 ⊢
      exact p3 f3 H3 _ (.refl s3.sim) (rep_bl.mpr rfl)
  | _ => exact p3.elim
theorem se_chain {op op' : CmpOp} {r r' : R2} {o o' : W → W → PH → Option (W × PH)} (hr : OpR X (compareOp op) r) (ho : Op2 X.K r o) (hr' : OpR X (compareOp op') r') (ho' : Op2 X.K r' o') (ha : SE X W0 a m1) (hb : SE X W0 b m2) (hc : SE X W0 c m3)
    (hm : lastMarks [op, op'] [b, c] = false := by with_unfolding_all rfl) : SE X W0 (.Compare a [op, op'] [b, c] pos) (mChain o o' m1 m2 m3) :=
  pe_imp (pe_chain hr hr' ha hb hc hm) fun _ _ _ h => tE_chain ho ho' h
theorem st_chain {op op' : CmpOp} {r r' : R2} {o o' : W → W → PH → Option (W × PH)} (hr : OpR X (compareOp op) r) (ho : Op2 X.K r o) (hr' : OpR X (compareOp op') r') (ho' : Op2 X.K r' o') (ha : SE X W0 a m1) (hb : SE X W0 b m2) (hc : SE X W0 c m3)
    (hm : lastMarks [op, op'] [b, c] = false := by with_unfolding_all rfl) : ST X W0 (.Compare a [op, op'] [b, c] pos) (mB (mChain o o' m1 m2 m3)) :=
  pt_imp (pt_chain hr hr' ha hb hc hm) fun σ H Q h => by
    obtain ⟨f, h, ps, s, sr, p⟩ := h
    have q : tE X.K W0 (mChain o o' m1 m2 m3) σ H fun x H' => ∃ k, x = .bl k ∧ Q k H' := by
      refine ⟨f, h, ps, s, sr, (Post.bind s back_B p).mono (fun v H1 hh => ?_) fun _ _ _ e => e⟩
      obtain ⟨f1, h1, x, s1, q1, p1⟩ := hh
      exact post_bl s1.sim q1 p1
    exact tE_chain ho ho' q

/-! ### ==: data -/
mutual
def datS (look : Nat → Option PyData) : W → Option PyData
  | .non => some .none
  | .bl b => some (.bool b)
  | .int i => some (.int i)
  | .str x => some (.str x)
  | .tup xs => (datSs look xs).map .tuple
  | .fix xs => (datSs look xs).map .list
  | .exc _ => none
  | .ref n => look n
def datSs (look : Nat → Option PyData) : List W → Option (List PyData)
  | [] => some []
  | x :: xs => match datS look x, datSs look xs with
    | some d, some ds => some (d :: ds)
    | _, _ => none
end
def datL : Nat → PH → Nat → Option PyData
  | 0, _, _ => none
  | n + 1, h, k => match h[k]? with
    | some (.lst xs) => (datSs (datL n h) xs).map .list
    | _ => none
abbrev dat (h : PH) (w : W) : Option PyData := datS (datL 4 h) w
mutual
theorem dp_of {f : List Addr} {H : Hp} {look : Nat → Option PyData} (hl : ∀ (n : Nat) (d : PyData) (v : V), look n = some d → Rep K f H (.ref n) v → Dp K H v d) : ∀ (w : W) (v : V) (d : PyData), datS look w = some d → Rep K f H w v → Dp K H v d
  | .non, v, d, e, r => by
    rw [rep_non.mp r]
    simp only [datS, Option.some.injEq] at e
    subst e
    exact .non
  | .bl b, v, d, e, r => by
    rw [rep_bl.mp r]
    simp only [datS, Option.some.injEq] at e
    subst e
    exact .bl b
  | .int b, v, d, e, r => by
    rw [rep_int.mp r]
    simp only [datS, Option.some.injEq] at e
    subst e
    exact .int b
  | .str b, v, d, e, r => by
    rw [rep_str.mp r]
    simp only [datS, Option.some.injEq] at e
    subst e
    exact .str b
  | .tup xs, v, d, e, r => by
    obtain ⟨a, vs, rfl, h1, h2⟩ := rep_tup.mp r
    simp only [datS] at e
    obtain ⟨ds, e1, rfl⟩ := Option.map_eq_some_iff.mp e
    exact .tup h1 (dp_all hl xs vs ds e1 h2)
  | .fix xs, v, d, e, r => by
    obtain ⟨a, vs, rfl, h1, h2⟩ := rep_fix.mp r
    simp only [datS] at e
    obtain ⟨ds, e1, rfl⟩ := Option.map_eq_some_iff.mp e
    exact .lst h1.seq (dp_all hl xs vs ds e1 h2)
  | .exc _, v, d, e, r => by simp [datS] at e
  | .ref n, v, d, e, r => by
    simp only [datS] at e
    exact hl n d v e r
theorem dp_all {f : List Addr} {H : Hp} {look : Nat → Option PyData} (hl : ∀ (n : Nat) (d : PyData) (v : V), look n = some d → Rep K f H (.ref n) v → Dp K H v d) : ∀ (ws : List W) (vs : List V) (ds : List PyData), datSs look ws = some ds → Reps K f H ws vs → DpAll K H vs ds
  | [], vs, ds, e, r => by
    rw [r.nil_inv]
    simp only [datSs, Option.some.injEq] at e
    subst e
    exact .nil
  | x :: xs, vs, ds, e, r => by
    obtain ⟨v, t, rfl, h1, h2⟩ := r.cons_inv
    simp only [datSs] at e
    split at e
    · rename_i d ds' e1 e2
      cases e
      exact .cons (dp_of hl x v d e1 h1) (dp_all hl xs t ds' e2 h2)
    · cases e
end
theorem dp_look {f : List Addr} {h : PH} {H : Hp} (s : Sim K f h H) : ∀ (m n : Nat) (d : PyData) (v : V), datL m h n = some d → Rep K f H (.ref n) v → Dp K H v d
  | 0, n, d, v, e, r => by simp [datL] at e
  | m + 1, n, d, v, e, r => by
    simp only [datL] at e
    split at e
    · rename_i xs hn
      obtain ⟨a, rfl, _, vs, h1, h2⟩ := s.at hn r
      obtain ⟨ds, e1, rfl⟩ := Option.map_eq_some_iff.mp e
      exact .lst (SqL.of h1) (dp_all (dp_look s m) xs vs ds e1 h2)
    · cases e
theorem dp {f : List Addr} {h : PH} {H : Hp} (s : Sim K f h H) {w : W} {v : V} {d : PyData} (e : dat h w = some d) (r : Rep K f H w v) : Dp K H v d := dp_of (dp_look s 4) w v d e r

/-- == by the own heap -/
def eqB : W → W → PH → Option Bool
  | .int i, .int j, _ => some (i == j)
  | .str i, .str j, _ => some (i == j)
  | .non, .non, _ => some true
  | .non, .int _, _ => some false
  | .int _, .non, _ => some false
  | .non, .str _, _ => some false
  | .str _, .non, _ => some false
  | .int _, .str _, _ => some false
  | .str _, .int _, _ => some false
  | .bl i, .bl j, _ => some (i == j)
  | x, y, h => match dat h x, dat h y with
    | some d, some e => if SeqAt.shaped d = true ∧ SeqAt.shaped e = true then some (PyData.eqv d e) else none
    | _, _ => none
def wEq (x y : W) (h : PH) : Option (W × PH) := (eqB x y h).map fun b => (.bl b, h)
def wNe (x y : W) (h : PH) : Option (W × PH) := (eqB x y h).map fun b => (.bl (!b), h)
theorem eqB_of {f : List Addr} {h : PH} {H : Hp} {x y : W} {v u : V} {b : Bool} (s : Sim K f h H) (rx : Rep K f H x v) (ry : Rep K f H y u) (e : eqB x y h = some b) :
    (scal v u = true ∧ decide (v = u) = b) ∨ ∃ d e, Dp K H v d ∧ Dp K H u e ∧ SeqAt.shaped d = true ∧ SeqAt.shaped e = true ∧ PyData.eqv d e = b := by
  unfold eqB at e
  split at e
  · rw [rep_int.mp rx, rep_int.mp ry]
    exact .inl ⟨rfl, by rw [dec_int]; exact Option.some.inj e⟩
  · rw [rep_str.mp rx, rep_str.mp ry]
    exact .inl ⟨rfl, by rw [dec_str]; exact Option.some.inj e⟩
  · rw [rep_non.mp rx, rep_non.mp ry]
    exact .inl ⟨rfl, by simpa using e⟩
  · rw [rep_non.mp rx, rep_int.mp ry]
    exact .inl ⟨rfl, by simpa using e⟩
  · rw [rep_int.mp rx, rep_non.mp ry]
    exact .inl ⟨rfl, by simpa using e⟩
  · rw [rep_non.mp rx, rep_str.mp ry]
    exact .inl ⟨rfl, by simpa using e⟩
  · rw [rep_str.mp rx, rep_non.mp ry]
    exact .inl ⟨rfl, by simpa using e⟩
  · rw [rep_int.mp rx, rep_str.mp ry]
    exact .inl ⟨rfl, by simpa using e⟩
  · rw [rep_str.mp rx, rep_int.mp ry]
    exact .inl ⟨rfl, by simpa using e⟩
  · rw [rep_bl.mp rx, rep_bl.mp ry]
    exact .inl ⟨rfl, by rw [dec_bl]; exact Option.some.inj e⟩
  · split at e
    · rename_i d d' e1 e2
      split at e
      · rename_i c
        exact .inr ⟨d, d', dp s e1 rx, dp s e2 ry, c.1, c.2, Option.some.inj e⟩
      · cases e
    · cases e
theorem p_eq : Op2 K (fun x y H Q => rEq x y H Q ∨ rEqD K x y H Q) wEq := by
  intro f h H x y v u Q E s rx ry p
  unfold wEq at p
  cases e : eqB x y h with
  | none => rw [e] at p; exact p.elim
  | some b =>
    rw [e] at p
    rcases eqB_of s rx ry e with ⟨h1, h2⟩ | ⟨d, d', h1, h2, h3, h4, h5⟩
    · exact .inl ⟨h1, by rw [h2]; exact post_ok s p (rep_bl.mpr rfl)⟩
    · exact .inr ⟨d, d', h1, h2, h3, h4, by rw [h5]; exact post_ok s p (rep_bl.mpr rfl)⟩
theorem p_ne : Op2 K (fun x y H Q => rNe x y H Q ∨ rNeD K x y H Q) wNe := by
  intro f h H x y v u Q E s rx ry p
  unfold wNe at p
  cases e : eqB x y h with
  | none => rw [e] at p; exact p.elim
  | some b =>
    rw [e] at p
    rcases eqB_of s rx ry e with ⟨h1, h2⟩ | ⟨d, d', h1, h2, h3, h4, h5⟩
    · exact .inl ⟨h1, by rw [h2]; exact post_ok s p (rep_bl.mpr rfl)⟩
    · exact .inr ⟨d, d', h1, h2, h3, h4, by rw [h5]; exact post_ok s p (rep_bl.mpr rfl)⟩
theorem o_eq {k : Nat} (hr : Room k X.A) : OpR X (compareOp .Eq) (fun x y H Q => rEq x y H Q ∨ rEqD X.K x y H Q) := op_eq.or (op_eqD hr.units)
theorem o_ne {k : Nat} (hr : Room k X.A) : OpR X (compareOp .NotEq) (fun x y H Q => rNe x y H Q ∨ rNeD X.K x y H Q) := op_ne.or (op_neD hr.units)

/-! ### is -/
def isNonW : W → Bool
  | .non => true
  | _ => false
def wIs : W → W → PH → Option (W × PH)
  | x, .non, h => some (.bl (isNonW x), h)
  | .bl a, .bl b, h => some (.bl (decide (a = b)), h)
  | _, _, _ => none
def wIsNot : W → W → PH → Option (W × PH)
  | x, .non, h => some (.bl (!isNonW x), h)
  | .bl a, .bl b, h => some (.bl (!decide (a = b)), h)
  | _, _, _ => none
theorem rep_is_non {f : List Addr} {H : Hp} {x : W} {v : V} (r : Rep K f H x v) : decide (v = V.non) = isNonW x := by
  cases x with
  | non => rw [rep_non.mp r]; rfl
  | bl _ => rw [rep_bl.mp r]; rfl
  | int _ => rw [rep_int.mp r]; rfl
  | str _ => rw [rep_str.mp r]; rfl
  | tup _ => obtain ⟨a, vs, rfl, _⟩ := rep_tup.mp r; rfl
  | fix _ => obtain ⟨a, vs, rfl, _⟩ := rep_fix.mp r; rfl
  | exc _ => obtain ⟨a, rfl, _⟩ := rep_exc.mp r; rfl
  | ref _ =>
    simp only [Rep] at r
    obtain ⟨a, rfl, _⟩ := r
    rfl
theorem p_is : Op2 K (fun x y H Q => (y = .non ∧ Q (.bl (decide (x = .non))) H) ∨ rIsB x y H Q) wIs := by
  intro f h H x y v u Q E s rx ry p
  unfold wIs at p
  split at p
  · exact .inl ⟨rep_non.mp ry, by rw [rep_is_non rx]; exact post_ok s p (rep_bl.mpr rfl)⟩
  · exact .inr ⟨_, _, rep_bl.mp rx, rep_bl.mp ry, post_ok s p (rep_bl.mpr rfl)⟩
  · exact p.elim
theorem p_isNot : Op2 K (fun x y H Q => (y = .non ∧ Q (.bl (!decide (x = .non))) H) ∨ rNotB x y H Q) wIsNot := by
  intro f h H x y v u Q E s rx ry p
  unfold wIsNot at p
  split at p
  · refine .inl ⟨rep_non.mp ry, ?_⟩
    rw [rep_is_non rx]
    exact post_ok s p (rep_bl.mpr rfl)
  · exact .inr ⟨_, _, rep_bl.mp rx, rep_bl.mp ry, post_ok s p (rep_bl.mpr rfl)⟩
  · exact p.elim
theorem o_is : OpR X (compareOp .Is) (fun x y H Q => (y = .non ∧ Q (.bl (decide (x = .non))) H) ∨ rIsB x y H Q) := op_isN.or op_isBl
theorem o_isNot : OpR X (compareOp .IsNot) (fun x y H Q => (y = .non ∧ Q (.bl (!decide (x = .non))) H) ∨ rNotB x y H Q) := op_notN.or op_notBl
end
end Mir

/-! Mir: in, subscripts, slices. -/
namespace Mir
open PySem L2

/-! ### flat things -/
def flatW : W → Bool
  | .non => true
  | .bl _ => true
  | .int _ => true
  | .str _ => true
  | _ => false
def eqF : W → W → Bool
  | .non, .non => true
  | .bl a, .bl b => a == b
  | .bl a, .int b => (if a then 1 else 0) == b
  | .int a, .bl b => a == (if b then 1 else 0)
  | .int a, .int b => a == b
  | .str a, .str b => a == b
  | _, _ => false
def keyW : W → Option Key
  | .int i => some (.inl i)
  | .str x => some (.inr x)
  | _ => none
def getK {κ : Type} [DecidableEq κ] (kvs : List (κ × W)) (k : κ) : Option W := (kvs.find? fun kv => decide (kv.1 = k)).map (·.2)
def putKW {κ : Type} [DecidableEq κ] (kvs : List (κ × W)) (k : κ) (w : W) : List (κ × W) :=
  if (kvs.any fun kv => decide (kv.1 = k)) then kvs.map fun kv => if kv.1 = k then (kv.1, w) else kv else kvs ++ [(k, w)]
section
variable {K : PySem.W.Frag} {f : List Addr} {h : PH} {H : Hp} {x y : W} {v u : V} {Q : VK} {E : XK}
theorem flat_of (r : Rep K f H x v) (e : flatW x = true) : flatV v = true := by
  cases x with
  | non => rw [rep_non.mp r]; rfl
  | bl b => rw [rep_bl.mp r]; rfl
  | int i => rw [rep_int.mp r]; rfl
  | str s => rw [rep_str.mp r]; rfl
  | _ => cases e
theorem eqF_of (r : Rep K f H x v) (q : Rep K f H y u) (e : flatW x = true) (e2 : flatW y = true) : eqV v u = eqF x y := by
  cases x with
  | non => rw [rep_non.mp r]; cases y with
    | non => rw [rep_non.mp q]; rfl
    | bl b => rw [rep_bl.mp q]; rfl
    | int i => rw [rep_int.mp q]; rfl
    | str s => rw [rep_str.mp q]; rfl
    | _ => cases e2
  | bl b => rw [rep_bl.mp r]; cases y with
    | non => rw [rep_non.mp q]; rfl
    | bl b => rw [rep_bl.mp q]; rfl
    | int i => rw [rep_int.mp q]; rfl
    | str s => rw [rep_str.mp q]; rfl
    | _ => cases e2
  | int i => rw [rep_int.mp r]; cases y with
    | non => rw [rep_non.mp q]; rfl
    | bl b => rw [rep_bl.mp q]; rfl
    | int i => rw [rep_int.mp q]; rfl
    | str s => rw [rep_str.mp q]; rfl
    | _ => cases e2
  | str s => rw [rep_str.mp r]; cases y with
    | non => rw [rep_non.mp q]; rfl
    | bl b => rw [rep_bl.mp q]; rfl
    | int i => rw [rep_int.mp q]; rfl
    | str s => rw [rep_str.mp q]; rfl
    | _ => cases e2
  | _ => cases e
theorem flats_of : ∀ {xs : List W} {vs : List V}, Reps K f H xs vs → xs.all flatW = true → vs.all flatV = true
  | [], vs, r, _ => by rw [r.nil_inv]; rfl
  | w :: ws, vs, r, e => by
    obtain ⟨v, t, rfl, h1, h2⟩ := r.cons_inv
    rw [List.all_cons, Bool.and_eq_true] at e ⊢
    exact ⟨flat_of h1 e.1, flats_of h2 e.2⟩
theorem inV_of {x : W} {v : V} (r : Rep K f H x v) (e : flatW x = true) : ∀ {xs : List W} {vs : List V}, Reps K f H xs vs → xs.all flatW = true → inV v vs = xs.any fun y => eqF y x
  | [], vs, q, _ => by rw [q.nil_inv]; rfl
  | w :: ws, vs, q, e2 => by
    obtain ⟨u, t, rfl, h1, h2⟩ := q.cons_inv
    rw [List.all_cons, Bool.and_eq_true] at e2
    have ih := inV_of r e h2 e2.2
    unfold inV at ih ⊢
    rw [List.any_cons, List.any_cons, ih, eqF_of h1 r e2.1 e]
theorem key_rep {k : Key} (e : keyW x = some k) (r : Rep K f H x v) : v = kV k := by
  cases x with
  | int i => cases e; exact rep_int.mp r
  | str s => cases e; exact rep_str.mp r
  | _ => cases e
theorem KRep.get {κ : Type} [DecidableEq κ] : ∀ {ws : List (κ × W)} {vs : List (κ × V)} (k : κ), KRep K f H ws vs → match getK ws k with
    | some w => ∃ v, valV vs k = some v ∧ Rep K f H w v
    | none => valV vs k = none
  | [], vs, k, r => by
    have e : vs = [] := r
    subst e
    rfl
  | (j, w) :: ws, vs, k, r => by
    obtain ⟨v, t, rfl, h1, h2⟩ := r
    have ih := KRep.get k h2
    by_cases e : j = k
    · have a : getK ((j, w) :: ws) k = some w := by simp [getK, List.find?_cons, e]
      rw [a]
      exact ⟨v, valV_pos e, h1⟩
    · have a : getK ((j, w) :: ws) k = getK ws k := by simp [getK, List.find?_cons, e]
      rw [a, valV_neg (p := (j, v)) e]
      exact ih
theorem KRep.any {κ : Type} [DecidableEq κ] : ∀ {ws : List (κ × W)} {vs : List (κ × V)} (k : κ), KRep K f H ws vs → (ws.any fun kv => decide (kv.1 = k)) = vs.any fun kv => decide (kv.1 = k)
  | [], vs, k, r => by
    have e : vs = [] := r
    subst e
    rfl
  | (j, w) :: ws, vs, k, r => by
    obtain ⟨v, t, rfl, h1, h2⟩ := r
    rw [List.any_cons, List.any_cons, KRep.any k h2]
theorem KRep.map {κ : Type} [DecidableEq κ] {w : W} {v : V} (q : Rep K f H w v) : ∀ {ws : List (κ × W)} {vs : List (κ × V)} (k : κ), KRep K f H ws vs → KRep K f H (ws.map fun kv => if kv.1 = k then (kv.1, w) else kv) (vs.map fun kv => if kv.1 = k then (kv.1, v) else kv)
  | [], vs, k, r => by
    have e : vs = [] := r
    subst e
    rfl
  | (j, z) :: ws, vs, k, r => by
    obtain ⟨u, t, rfl, h1, h2⟩ := r
    have ih := KRep.map q k h2
    rw [List.map_cons, List.map_cons]
    by_cases e : j = k
    · rw [if_pos e, if_pos e]
      exact ⟨v, _, rfl, q, ih⟩
    · rw [if_neg e, if_neg e]
      exact ⟨u, _, rfl, h1, ih⟩
theorem KRep.snoc {κ : Type} {w : W} {v : V} (q : Rep K f H w v) : ∀ {ws : List (κ × W)} {vs : List (κ × V)} (k : κ), KRep K f H ws vs → KRep K f H (ws ++ [(k, w)]) (vs ++ [(k, v)])
  | [], vs, k, r => by
    have e : vs = [] := r
    subst e
    exact ⟨v, [], rfl, q, rfl⟩
  | (j, z) :: ws, vs, k, r => by
    obtain ⟨u, t, rfl, h1, h2⟩ := r
    exact ⟨u, _, rfl, h1, KRep.snoc q k h2⟩
theorem KRep.put {κ : Type} [DecidableEq κ] {w : W} {v : V} (q : Rep K f H w v) {ws : List (κ × W)} {vs : List (κ × V)} (k : κ) (r : KRep K f H ws vs) : KRep K f H (putKW ws k w) (putK vs k v) := by
  unfold putKW putK
  rw [r.any k]
  by_cases c : (vs.any fun kv => decide (kv.1 = k)) = true
  · rw [if_pos c, if_pos c]
    exact r.map q k
  · rw [if_neg c, if_neg c]
    exact r.snoc q k
/-- a new list at a number -/
theorem post_new {xs : List W} {vs : List V} (s : Sim K f h H) (p : Post K (RW K) f H (.ofO (some (.ref h.length, h ++ [.lst xs]))) Q E) (r : Reps K f H xs vs) {q : Addr} (hq : H q = none) : Q (.ref q) (upd H q (.lst vs)) := by
  have st := s.other (o := .lst vs) hq
  have nq := s.fresh hq
  refine p (f ++ [q]) _ _ ⟨.snoc f q, fun x hx hn => ?_, st.grow, st.lk, st.sim.take_in nq ⟨vs, upd_same, Reps.mono (.refl f) (s.stay st.grow) _ _ r⟩⟩ ?_
  · rcases List.mem_append.mp hx with m | m
    · exact absurd m hn
    · rw [List.mem_singleton] at m
      rw [m]
      exact hq
  · simp only [Rep]
    refine ⟨q, rfl, ?_⟩
    rw [List.getElem?_append_right (by rw [s.len]; omega), s.len]
    simp
end

/-! ### in -/
def inW (x y : W) (h : PH) : Option Bool :=
  match y with
  | .tup ys => if flatW x = true ∧ ys.all flatW = true then some (ys.any fun z => eqF z x) else none
  | .fix ys => if flatW x = true ∧ ys.all flatW = true then some (ys.any fun z => eqF z x) else none
  | .str z => match x with
    | .str c => if c.cps.size = 1 then some (decide (c.cps.getD 0 0 ∈ z.cps.toList)) else some (!(Builtin.Str.occurrences z c 0 z.length 1).isEmpty)
    | _ => none
  | .ref n => match h[n]? with
    | some (.lst ys) => if flatW x = true ∧ ys.all flatW = true then some (ys.any fun z => eqF z x) else none
    | some (.dK kvs) => (keyW x).map fun k => (getK kvs k).isSome
    | some (.lk kvs) => (keyW x).map fun k => (getK kvs k).isSome
    | _ => none
  | _ => none
theorem DGet.fz {H : Hp} {a : Addr} {o : Obj} {kvs : List (Key × V)} {k : Key} (e : H a = some (.frz o (.dK kvs))) : DGet H a (kV k) (valV kvs k) := .inl ⟨kvs, k, .inr ⟨o, e⟩, rfl, rfl⟩
def wIn (x y : W) (h : PH) : Option (W × PH) := (inW x y h).map fun b => (.bl b, h)
def wNotIn (x y : W) (h : PH) : Option (W × PH) := (inW x y h).map fun b => (.bl (!b), h)
abbrev rDIn (neg : Bool) : R2 := fun x y H Q => ∃ a o, y = .ref a ∧ DGet H a x o ∧ Q (.bl (if neg then !o.isSome else o.isSome)) H
abbrev rInSg (neg : Bool) : R2 := fun x y H Q => ∃ (c : Nat) (z : Str), x = .str ⟨#[c]⟩ ∧ y = .str z ∧ Q (.bl (if neg then !decide (c ∈ z.cps.toList) else decide (c ∈ z.cps.toList))) H
abbrev rInStr (neg : Bool) : R2 := fun x y H Q => ∃ i j, x = .str i ∧ y = .str j ∧ Q (.bl (if neg then !(!(Builtin.Str.occurrences j i 0 j.length 1).isEmpty) else !(Builtin.Str.occurrences j i 0 j.length 1).isEmpty)) H
abbrev rInAll (K : PySem.W.Frag) (neg : Bool) : R2 := fun x y H Q => rIn K neg x y H Q ∨ rInSg neg x y H Q ∨ rInStr neg x y H Q ∨ rDIn neg x y H Q
section
variable {K : PySem.W.Frag} {X : Cx} {W0 : WX} {a b c : Expr} {pos : Pos} {m1 m2 m3 : EM}
theorem o_dIn {k : Nat} (hr : Room k X.A) : OpR X (compareOp .In) (rDIn false) := by
  intro pins s σ H x y v u Q I rx ry h
  obtain ⟨a, o, rfl, g, q⟩ := h
  cases ry
  have hu : X.A.units + 1 < cLine := by have := hr.units; omega
  exact d_in hu I g rx fun s' I' => ⟨.bl o.isSome, H, I', rfl, q⟩
theorem o_dNotIn {k : Nat} (hr : Room k X.A) : OpR X (compareOp .NotIn) (rDIn true) := by
  intro pins s σ H x y v u Q I rx ry h
  obtain ⟨a, o, rfl, g, q⟩ := h
  cases ry
  have hu : X.A.units + 1 < cLine := by have := hr.units; omega
  exact d_notIn hu I g rx fun s' I' => ⟨.bl (!o.isSome), H, I', rfl, q⟩
theorem o_in {k : Nat} (hr : Room k X.A) : OpR X (compareOp .In) (rInAll X.K false) := op_in_seq.or (op_in_sign.or (op_in_str.or (o_dIn hr)))
theorem o_notIn {k : Nat} (hr : Room k X.A) : OpR X (compareOp .NotIn) (rInAll X.K true) := op_notIn_seq.or (op_notIn_sign.or (op_notin_str.or (o_dNotIn hr)))
theorem str_one {c : Str} (h : c.cps.size = 1) : c = ⟨#[c.cps.getD 0 0]⟩ := by
  obtain ⟨cs⟩ := c
  have h : cs.size = 1 := h
  obtain ⟨z, rfl⟩ := Array.size_eq_one_iff.mp h
  rfl
theorem p_in_gen (neg : Bool) : Op2 K (rInAll K neg) (fun x y h => (inW x y h).map fun b => (.bl (if neg then !b else b), h)) := by
  intro f h H x y v u Q E s rx ry p
  dsimp only at p
  cases e : inW x y h with
  | none => rw [e] at p; exact p.elim
  | some b =>
    rw [e] at p
    have q : Q (.bl (if neg then !b else b)) H := post_ok s p (rep_bl.mpr rfl)
    clear p
    cases y with
    | tup ys =>
      obtain ⟨a, vs, rfl, h1, h2⟩ := rep_tup.mp ry
      simp only [inW] at e
      split at e
      · rename_i c
        refine .inl ⟨a, vs, rfl, .inr h1, flat_of rx c.1, flats_of h2 c.2, ?_⟩
        rw [inV_of rx c.1 h2 c.2, Option.some.inj e]
        exact q
      · cases e
    | fix ys =>
      obtain ⟨a, vs, rfl, h1, h2⟩ := rep_fix.mp ry
      simp only [inW] at e
      split at e
      · rename_i c
        refine .inl ⟨a, vs, rfl, .inl h1.seq, flat_of rx c.1, flats_of h2 c.2, ?_⟩
        rw [inV_of rx c.1 h2 c.2, Option.some.inj e]
        exact q
      · cases e
    | str z =>
      have ey := rep_str.mp ry
      subst ey
      simp only [inW] at e
      split at e
      · rename_i c
        have ex := rep_str.mp rx
        subst ex
        split at e
        · rename_i hc
          refine .inr (.inl ⟨c.cps.getD 0 0, z, by rw [← str_one hc], rfl, ?_⟩)
          rw [Option.some.inj e]
          exact q
        · refine .inr (.inr (.inl ⟨c, z, rfl, rfl, ?_⟩))
          rw [Option.some.inj e]
          exact q
      · cases e
    | ref n =>
      simp only [inW] at e
      split at e
      · rename_i ys hn
        obtain ⟨a, rfl, _, vs, h1, h2⟩ := s.at hn ry
        split at e
        · rename_i c
          refine .inl ⟨a, vs, rfl, .inl (SqL.of h1), flat_of rx c.1, flats_of h2 c.2, ?_⟩
          rw [inV_of rx c.1 h2 c.2, Option.some.inj e]
          exact q
        · cases e
      · rename_i kvs hn
        obtain ⟨a, rfl, _, vs, h1, h2⟩ := s.at hn ry
        obtain ⟨k, hk, rfl⟩ := Option.map_eq_some_iff.mp e
        have hv := key_rep hk rx
        subst hv
        refine .inr (.inr (.inr ⟨a, valV vs k, rfl, DGet.k h1, ?_⟩))
        have g := KRep.get k h2
        have g2 : (valV vs k).isSome = (getK kvs k).isSome := by
          cases e3 : getK kvs k with
          | none => rw [e3] at g; rw [g]; rfl
          | some w =>
            rw [e3] at g
            obtain ⟨z, g1, _⟩ := g
            rw [g1]
            rfl
        rw [g2]
        exact q
      · rename_i kvs hn
        obtain ⟨a, rfl, _, o, vs, h1, h2⟩ := s.at hn ry
        obtain ⟨k, hk, rfl⟩ := Option.map_eq_some_iff.mp e
        have hv := key_rep hk rx
        subst hv
        refine .inr (.inr (.inr ⟨a, valV vs k, rfl, DGet.fz h1, ?_⟩))
        have g := KRep.get k h2
        have g2 : (valV vs k).isSome = (getK kvs k).isSome := by
          cases e3 : getK kvs k with
          | none => rw [e3] at g; rw [g]; rfl
          | some w =>
            rw [e3] at g
            obtain ⟨z, g1, _⟩ := g
            rw [g1]
            rfl
        rw [g2]
        exact q
      · cases e
    | _ => cases e
theorem p_in : Op2 K (rInAll K false) wIn := p_in_gen false
theorem p_notIn : Op2 K (rInAll K true) wNotIn := p_in_gen true

/-! ### a[b] -/
abbrev rDGet : R2 := fun x y H Q => ∃ a v, x = .ref a ∧ DGet H a y (some v) ∧ Q v H
theorem ix_dict {k : Nat} (hr : Room k X.A) : IxR X rDGet := by
  intro value slice pins s σ H x y v u Q I rx ry h hs
  obtain ⟨a, z, rfl, g, q⟩ := h
  cases rx
  have hu : X.A.units + 1 < cLine := by have := hr.units; omega
  exact PyProof.Rows.tail_any (dict_typeIs I g) PySem.F.slot_dict_getitem.lookup (d_getItem hu I g ry fun w' s' I' r' => ⟨z, H, I', r', q⟩) hs
def wIx (x y : W) (h : PH) : Option (W × PH) :=
  match x with
  | .tup xs => match y with
    | .int i => (atI xs i).map fun w => (w, h)
    | _ => none
  | .fix xs => match y with
    | .int i => (atI xs i).map fun w => (w, h)
    | _ => none
  | .str z => match y with
    | .int i => if z.length ≤ 16777216 then (atI z.cps.toList i).map fun c => (.str ⟨#[c]⟩, h) else none
    | _ => none
  | .ref n => match h[n]? with
    | some (.lst xs) => match y with
      | .int i => (atI xs i).map fun w => (w, h)
      | _ => none
    | some (.dK kvs) => (keyW y).bind fun k => (getK kvs k).map fun w => (w, h)
    | some (.lk kvs) => (keyW y).bind fun k => (getK kvs k).map fun w => (w, h)
    | _ => none
  | _ => none
theorem Reps.atI {f : List Addr} {H : Hp} {ws : List W} {vs : List V} {i : Int} {w : W} (r : Reps K f H ws vs) (e : L2.atI ws i = some w) : ∃ v, L2.atI vs i = some v ∧ Rep K f H w v := by
  unfold L2.atI at e ⊢
  rw [← r.length]
  cases e1 : ixN ws.length i with
  | none => rw [e1] at e; cases e
  | some j =>
    rw [e1] at e
    obtain ⟨v, h1, h2⟩ := r.get e
    exact ⟨v, h1, h2⟩
abbrev rIxAll (K : PySem.W.Frag) : R2 := fun x y H Q => rIx K x y H Q ∨ rDGet x y H Q
theorem ix_all {k : Nat} (hr : Room k X.A) : IxR X (rIxAll X.K) := ix_seq.or (ix_dict hr)
theorem p_ix : Op2 K (rIxAll K) wIx := by
  intro f h H x y v u Q E s rx ry p
  cases x with
  | tup xs =>
    obtain ⟨a, vs, rfl, h1, h2⟩ := rep_tup.mp rx
    cases y with
    | int i =>
      have ey := rep_int.mp ry
      subst ey
      simp only [wIx] at p
      cases e : L2.atI xs i with
      | none => rw [e] at p; exact p.elim
      | some w =>
        rw [e] at p
        obtain ⟨z, h3, h4⟩ := h2.atI e
        exact .inl (.inr (.inl ⟨a, vs, i, z, rfl, rfl, h1, h3, post_ok s p h4⟩))
    | _ => exact p.elim
  | fix xs =>
    obtain ⟨a, vs, rfl, h1, h2⟩ := rep_fix.mp rx
    cases y with
    | int i =>
      have ey := rep_int.mp ry
      subst ey
      simp only [wIx] at p
      cases e : L2.atI xs i with
      | none => rw [e] at p; exact p.elim
      | some w =>
        rw [e] at p
        obtain ⟨z, h3, h4⟩ := h2.atI e
        exact .inl (.inl ⟨a, vs, i, z, rfl, rfl, h1.seq, h3, post_ok s p h4⟩)
    | _ => exact p.elim
  | str z =>
    have ex := rep_str.mp rx
    subst ex
    cases y with
    | int i =>
      have ey := rep_int.mp ry
      subst ey
      simp only [wIx] at p
      split at p
      · rename_i hz
        cases e : L2.atI z.cps.toList i with
        | none => rw [e] at p; exact p.elim
        | some c =>
          rw [e] at p
          exact .inl (.inr (.inr ⟨z, i, c, rfl, rfl, by rw [sizeLine_eq]; exact hz, e, post_ok s p (rep_str.mpr rfl)⟩))
      · exact p.elim
    | _ => exact p.elim
  | ref n =>
    simp only [wIx] at p
    split at p
    · rename_i xs hn
      obtain ⟨a, rfl, _, vs, h1, h2⟩ := s.at hn rx
      split at p
      · rename_i i
        have ey := rep_int.mp ry
        subst ey
        cases e : L2.atI xs i with
        | none => rw [e] at p; exact p.elim
        | some w =>
          rw [e] at p
          obtain ⟨z, h3, h4⟩ := h2.atI e
          exact .inl (.inl ⟨a, vs, i, z, rfl, rfl, SqL.of h1, h3, post_ok s p h4⟩)
      · exact p.elim
    · rename_i kvs hn
      obtain ⟨a, rfl, _, vs, h1, h2⟩ := s.at hn rx
      cases e : keyW y with
      | none => rw [e] at p; exact p.elim
      | some k =>
        rw [e] at p
        have hv := key_rep e ry
        subst hv
        have g := KRep.get k h2
        cases e2 : getK kvs k with
        | none => simp only [Option.bind_some, e2] at p; exact p.elim
        | some w =>
          simp only [Option.bind_some, e2] at p
          rw [e2] at g
          obtain ⟨z, g1, g2⟩ := g
          exact .inr ⟨a, z, rfl, g1 ▸ DGet.k h1, post_ok s p g2⟩
    · rename_i kvs hn
      obtain ⟨a, rfl, _, o, vs, h1, h2⟩ := s.at hn rx
      cases e : keyW y with
      | none => rw [e] at p; exact p.elim
      | some k =>
        rw [e] at p
        have hv := key_rep e ry
        subst hv
        have g := KRep.get k h2
        cases e2 : getK kvs k with
        | none => simp only [Option.bind_some, e2] at p; exact p.elim
        | some w =>
          simp only [Option.bind_some, e2] at p
          rw [e2] at g
          obtain ⟨z, g1, g2⟩ := g
          exact .inr ⟨a, z, rfl, g1 ▸ DGet.fz h1, post_ok s p g2⟩
    · exact p.elim
  | _ => exact p.elim
theorem se_sub' {k : Nat} (hr : Room k X.A) (ha : SE X W0 a m1) (hb : SE X W0 b m2) (hs : PlainIx b := by exact fun _ _ => rfl) : SE X W0 (.Subscript a b pos) (mOp wIx m1 m2) := se_ix (ix_all hr) p_ix ha hb hs
end
end Mir

/-! Mir: slices, calls of built-ins. -/
namespace Mir
open PySem L2

/-! ### sequences -/
abbrev RQ (K : PySem.W.Frag) : RR (List W) V := fun _ f H ws v => ∃ a vs, v = .ref a ∧ (SqL K H a vs ∨ SqT K H a vs) ∧ Reps K f H ws vs
abbrev SQ (X : Cx) (W0 : WX) (e : Expr) (m : LM) : Prop := PE X e (tG X.K (RQ X.K) W0 m)
theorem back_Q {K : PySem.W.Frag} : Back K (RQ K) := fun _ _ _ _ _ _ _ _ _ _ _ _ q => q
def seqOf : W → PH → Option (List W)
  | .tup xs, _ => some xs
  | .fix xs, _ => some xs
  | .ref n, h => match h[n]? with
    | some (.lst xs) => some xs
    | _ => none
  | _, _ => none
def mSeq (m : EM) : LM := fun ps h => (m ps h).bind fun x h1 => match seqOf x h1 with
  | some xs => .ok xs h1
  | none => .stuck
section
variable {K : PySem.W.Frag} {X : Cx} {W0 : WX} {a b c e : Expr} {pos : Pos} {m1 m2 m3 : EM} {l1 l2 : LM}
theorem seqOf_rep {f : List Addr} {h : PH} {H : Hp} {x : W} {v : V} {ws : List W} (s : Sim K f h H) (r : Rep K f H x v) (e : seqOf x h = some ws) : ∃ a vs, v = .ref a ∧ (SqL K H a vs ∨ SqT K H a vs) ∧ Reps K f H ws vs := by
  cases x with
  | tup xs =>
    obtain ⟨a, vs, rfl, h1, h2⟩ := rep_tup.mp r
    cases e
    exact ⟨a, vs, rfl, .inr h1, h2⟩
  | fix xs =>
    obtain ⟨a, vs, rfl, h1, h2⟩ := rep_fix.mp r
    cases e
    exact ⟨a, vs, rfl, .inl h1.seq, h2⟩
  | ref n =>
    simp only [seqOf] at e
    split at e
    · rename_i xs hn
      obtain ⟨a, rfl, _, vs, h1, h2⟩ := s.at hn r
      cases e
      exact ⟨a, vs, rfl, .inl (SqL.of h1), h2⟩
    · cases e
  | _ => cases e
theorem sq_list (h : SL X W0 e l1) : SQ X W0 e l1 := pe_imp h fun σ H Q h => by
  obtain ⟨f, h, ps, s, sr, p⟩ := h
  refine ⟨f, h, ps, s, sr, ?_⟩
  cases e : l1 ps h with
  | stuck => rw [e] at p; exact p
  | exc x h' => rw [e] at p; exact p
  | ok xs h1 =>
    rw [e] at p
    intro f1 H1 v s1 q1
    obtain ⟨q, vs, rfl, hq, nq, eq, rq⟩ := q1
    exact p f1 H1 _ s1 ⟨q, vs, rfl, .inl (SqL.of eq), rq⟩
theorem sq_val (h : SE X W0 e m1) : SQ X W0 e (mSeq m1) := pe_imp h fun σ H Q h => by
  obtain ⟨f, h, ps, s, sr, p⟩ := h
  refine ⟨f, h, ps, s, sr, (Post.bind s back_Q p).mono (fun v H1 hh => ?_) fun _ _ _ e => e⟩
  obtain ⟨f1, h1, x, s1, q1, p1⟩ := hh
  cases e : seqOf x h1 with
  | none => simp only [e] at p1; exact p1.elim
  | some ws =>
    simp only [e] at p1
    exact p1 f1 H1 v (.refl s1.sim) (seqOf_rep s1.sim q1 e)

/-! ### slices -/
def mPart : Option EM → LS → PH → Res (Option Int)
  | none, _, h => .ok none h
  | some m, ps, h => (m ps h).bind fun x h1 => match x with
    | .int i => .ok (some i) h1
    | _ => .stuck
def cutW (xs : List W) (lo hi : Option Int) : List W := (xs.drop (HT.sIx xs.length 0 lo)).take (HT.sIx xs.length xs.length hi - HT.sIx xs.length 0 lo)
def wSl (x : W) (lo hi : Option Int) (h : PH) : Option (W × PH) :=
  match x with
  | .tup xs => some (.tup (cutW xs lo hi), h)
  | .str z => if z.length ≤ 16777216 then some (.str (cutS z lo hi), h) else none
  | .fix xs => some (.fix (cutW xs lo hi), h)
  | .ref n => match h[n]? with
    | some (.lst xs) => some (.fix (cutW xs lo hi), h)
    | _ => none
  | _ => none
def mSl (m : EM) (lo hi : Option EM) : EM := fun ps h => (m ps h).bind fun x h1 => (mPart lo ps h1).bind fun l h2 => (mPart hi ps h2).bind fun u h3 => .ofO (wSl x l u h3)
/-- a part of a slice -/
inductive SPO (X : Cx) (W0 : WX) : Option Expr → Option EM → Prop where
  | none : SPO X W0 none none
  | some {e : Expr} {m : EM} (h : SE X W0 e m) : SPO X W0 (some e) (some m)
abbrev RI : RR (Option Int) (Option Int) := fun _ _ _ a b => a = b
theorem back_I : Back K RI := fun _ _ _ _ _ _ _ _ _ _ _ _ q => q
theorem SPO.po {e : Option Expr} {m : Option EM} (h : SPO X W0 e m) : ∃ t, PO X e t ∧ ∀ σ H Q, tG X.K RI W0 (mPart m) σ H Q → t σ H Q := by
  cases h with
  | none =>
    refine ⟨_, po_none, fun σ H Q h => ?_⟩
    obtain ⟨f, h, ps, s, sr, p⟩ := h
    exact p f H Option.none (.refl s) rfl
  | some h =>
    refine ⟨_, po_some h, fun σ H Q h => ?_⟩
    obtain ⟨f, h, ps, s, sr, p⟩ := h
    refine ⟨f, h, ps, s, sr, (Post.bind s back_I p).mono (fun v H1 hh => ?_) fun _ _ _ e => e⟩
    obtain ⟨f1, h1, x, s1, q1, p1⟩ := hh
    cases x with
    | int i => exact ⟨i, rep_int.mp q1, p1 f1 H1 _ (.refl s1.sim) rfl⟩
    | _ => exact p1.elim
theorem Reps.cut {f : List Addr} {H : Hp} {ws : List W} {vs : List V} (r : Reps K f H ws vs) (lo hi : Option Int) : Reps K f H (cutW ws lo hi) (cutV vs lo hi) := by
  unfold cutW cutV
  rw [r.length]
  exact (r.drop _).take _
theorem cut_all (xs : List V) (lo hi : Option Int) (h : HT.sIx xs.length 0 lo = 0 ∧ HT.sIx xs.length xs.length hi = xs.length) : cutV xs lo hi = xs := by
  unfold cutV
  rw [h.1, h.2]
  simp
abbrev rSlAll (K : PySem.W.Frag) : V → Option Int → Option Int → Hp → VK → Prop := fun x lo hi H Q => rSlL K x lo hi H Q ∨ rSlA K x lo hi H Q ∨ rSlS x lo hi H Q
theorem sl_all : SlR X (rSlAll X.K) := sl_list.or (sl_tupA.or sl_str)
theorem wSl_rule {f : List Addr} {h : PH} {H : Hp} {x : W} {v : V} {lo hi : Option Int} {Q : VK} {E : XK} (s : Sim K f h H) (rx : Rep K f H x v) (p : Post K (RW K) f H (.ofO (wSl x lo hi h)) Q E) : rSlAll K v lo hi H (QF Q) := by
  cases x with
  | tup xs =>
    obtain ⟨a, vs, rfl, h1, h2⟩ := rep_tup.mp rx
    refine .inr (.inl ⟨a, vs, rfl, h1, fun c => .inl ?_, fun _ q hq => .inl (post_tup s p (h2.cut lo hi) hq)⟩)
    refine post_ok s p (rep_tup.mpr ⟨a, vs, rfl, h1, ?_⟩)
    have z := h2.cut lo hi
    rw [cut_all vs lo hi c] at z
    exact z
  | str z =>
    have ex := rep_str.mp rx
    subst ex
    simp only [wSl] at p
    split at p
    · rename_i hz
      exact .inr (.inr ⟨z, rfl, by rw [sizeLine_eq]; exact hz, .inl (post_ok s p (rep_str.mpr rfl))⟩)
    · exact p.elim
  | fix xs =>
    obtain ⟨a, vs, rfl, h1, h2⟩ := rep_fix.mp rx
    exact .inl ⟨a, vs, rfl, h1.seq, fun q hq => post_fix s p (h2.cut lo hi) hq⟩
  | ref n =>
    simp only [wSl] at p
    split at p
    · rename_i xs hn
      obtain ⟨a, rfl, _, vs, h1, h2⟩ := s.at hn rx
      exact .inl ⟨a, vs, rfl, SqL.of h1, fun q hq => post_fix s p (h2.cut lo hi) hq⟩
    · exact p.elim
  | _ => exact p.elim
theorem se_slice {lo hi : Option Expr} {ml mh : Option EM} {p2 : Pos} (ha : SE X W0 a m1) (hl : SPO X W0 lo ml) (hh : SPO X W0 hi mh) : SE X W0 (.Subscript a (.Slice lo hi none p2) pos) (mSl m1 ml mh) := by
  obtain ⟨tl, pl, il⟩ := hl.po
  obtain ⟨th, ph, ih⟩ := hh.po
  refine pe_imp (pe_frz (pe_slice sl_all ha pl ph)) fun σ H Q h => ?_
  obtain ⟨f, h, ps, s, sr, p⟩ := h
  refine ⟨f, h, ps, s, sr, (Post.bind s back_W p).mono (fun v H1 hh => ?_) fun _ _ _ e => e⟩
  obtain ⟨f1, h1, x, s1, q1, p1⟩ := hh
  refine il σ H1 _ ⟨f1, h1, ps, s1.sim, s1.srep s sr, (Post.bind (R1 := RI) s1.sim back_W p1).mono (fun l H2 hh => ?_) fun _ _ _ e => e⟩
  obtain ⟨f2, h2, l', s2, q2, p2⟩ := hh
  cases q2
  refine ih σ H2 _ ⟨f2, h2, ps, s2.sim, s2.srep s1.sim (s1.srep s sr), (Post.bind (R1 := RI) s2.sim back_W p2).mono (fun u H3 hh => ?_) fun _ _ _ e => e⟩
  obtain ⟨f3, h3, u', s3, q3, p3⟩ := hh
  cases q3
  exact wSl_rule s3.sim (s3.rep s2.sim (s2.rep s1.sim q1)) p3

/-! ### calls of built-ins -/
def OpC (K : PySem.W.Frag) (r : List V → Hp → VK → Prop) (o : List W → PH → Option (W × PH)) : Prop :=
  ∀ (f : List Addr) (h : PH) (H : Hp) (xs : List W) (vs : List V) (Q : VK) (E : XK), Sim K f h H → Reps K f H xs vs → Post K (RW K) f H (.ofO (o xs h)) Q E → r vs H Q
def mCall (o : List W → PH → Option (W × PH)) (l : LM) : EM := fun ps h => (l ps h).bind fun xs h1 => .ofO (o xs h1)
variable {x : Str} {id T : String} {r : List V → Hp → VK → Prop} {o : List W → PH → Option (W × PH)} {es : List Expr} {p : Pos}
theorem tE_call (ho : OpC K r o) {σ : L2.St} {H : Hp} {Q : VK} (h : tE K W0 (mCall o l1) σ H Q) : tCB r (tA K W0 l1) σ H Q := by
  obtain ⟨f, h, ps, s, sr, p⟩ := h
  refine ⟨f, h, ps, s, sr, (Post.bind s back_W p).mono (fun v H1 hh => ?_) fun _ _ _ e => e⟩
  obtain ⟨f1, h1, x, s1, q1, p1⟩ := hh
  exact ho f1 h1 H1 x v Q _ s1.sim q1 p1
theorem se_callB (hc : CallR X (.builtin id) r) (ho : OpC X.K r o) (hm : X.mg x = none) (hv : bootBuiltins x = some (.builtin id)) (ha : SA X W0 (e :: es) l1) (hg : Gl X x := by rfl) (hn : x ≠ "__name__" := by decide) (hdb : (x == ("__debug__" : Str)) = false := by decide)
    (he : starEach (e :: es) X.env = (false, eval e X.env) :: starEach es X.env := by rfl) (hpl : (backTo pos (starEach es X.env)).any (·.1) = false := by rfl) : SE X W0 (.Call (.Name x p) (e :: es) [] pos) (mCall o l1) :=
  pe_imp (pe_callB hc hg hm hv ha hn hdb he hpl) fun _ _ _ h => tE_call ho h
theorem se_callT (hc : CallR X (.type T) r) (ho : OpC X.K r o) (hm : X.mg x = none) (hv : bootBuiltins x = some (.type T)) (ha : SA X W0 (e :: es) l1) (hg : Gl X x := by rfl) (hn : x ≠ "__name__" := by decide) (hdb : (x == ("__debug__" : Str)) = false := by decide)
    (he : starEach (e :: es) X.env = (false, eval e X.env) :: starEach es X.env := by rfl) (hpl : (backTo pos (starEach es X.env)).any (·.1) = false := by rfl) : SE X W0 (.Call (.Name x p) (e :: es) [] pos) (mCall o l1) :=
  pe_imp (pe_callTy hc hg hm hv ha hn hdb he hpl) fun _ _ _ h => tE_call ho h
/-- one argument, a sequence -/
def OpS {α : Type} (K : PySem.W.Frag) (R : RR α V) (r : List V → Hp → VK → Prop) (o : List W → PH → Option (α × PH)) : Prop :=
  ∀ (f : List Addr) (h : PH) (H : Hp) (a : Addr) (ws : List W) (vs : List V) (Q : VK) (E : XK), Sim K f h H → (SqL K H a vs ∨ SqT K H a vs) → Reps K f H ws vs → Post K R f H (.ofO (o ws h)) Q E → r [.ref a] H Q
def mOn {α : Type} (o : List W → PH → Option (α × PH)) (l : LM) : LS → PH → Res α := fun ps h => (l ps h).bind fun xs h1 => .ofO (o xs h1)
theorem tG_on {α : Type} {R : RR α V} {o : List W → PH → Option (α × PH)} (hb : Back K R) (ho : OpS K R r o) {σ : L2.St} {H : Hp} {Q : VK} (h : tG K R W0 (mOn o l1) σ H Q) : tCB r (tCons (tG K (RQ K) W0 l1) tNil) σ H Q := by
  obtain ⟨f, h, ps, s, sr, p⟩ := h
  refine ⟨f, h, ps, s, sr, (Post.bind s hb p).mono (fun v H1 hh => ?_) fun _ _ _ e => e⟩
  obtain ⟨f1, h1, ws, s1, q1, p1⟩ := hh
  obtain ⟨a, vs, rfl, hq, rr⟩ := q1
  exact ho f1 h1 H1 a ws vs Q _ s1.sim hq rr p1
theorem pg_callBS {α : Type} {R : RR α V} {o : List W → PH → Option (α × PH)} (hb : Back X.K R) (hc : CallR X (.builtin id) r) (ho : OpS X.K R r o) (hm : X.mg x = none) (hv : bootBuiltins x = some (.builtin id)) (ha : SQ X W0 e l1) (hg : Gl X x := by rfl) (hn : x ≠ "__name__" := by decide) (hdb : (x == ("__debug__" : Str)) = false := by decide)
    (he : starEach [e] X.env = (false, eval e X.env) :: starEach [] X.env := by rfl) (hpl : (backTo pos (starEach [] X.env)).any (·.1) = false := by rfl) : PE X (.Call (.Name x p) [e] [] pos) (tG X.K R W0 (mOn o l1)) :=
  pe_imp (pe_callB hc hg hm hv (pa_cons ha pa_nil he) hn hdb he hpl) fun _ _ _ h => tG_on hb ho h
theorem pg_callTS {α : Type} {R : RR α V} {o : List W → PH → Option (α × PH)} (hb : Back X.K R) (hc : CallR X (.type T) r) (ho : OpS X.K R r o) (hm : X.mg x = none) (hv : bootBuiltins x = some (.type T)) (ha : SQ X W0 e l1) (hg : Gl X x := by rfl) (hn : x ≠ "__name__" := by decide) (hdb : (x == ("__debug__" : Str)) = false := by decide)
    (he : starEach [e] X.env = (false, eval e X.env) :: starEach [] X.env := by rfl) (hpl : (backTo pos (starEach [] X.env)).any (·.1) = false := by rfl) : PE X (.Call (.Name x p) [e] [] pos) (tG X.K R W0 (mOn o l1)) :=
  pe_imp (pe_callTy hc hg hm hv (pa_cons ha pa_nil he) hn hdb he hpl) fun _ _ _ h => tG_on hb ho h
end
end Mir

/-! Mir: built-ins, one by one. -/
namespace Mir
open PySem L2

theorem CallR.or {X : Cx} {f : Value} {r r' : List V → Hp → VK → Prop} (h : CallR X f r) (h' : CallR X f r') : CallR X f (fun xs H Q => r xs H Q ∨ r' xs H Q) := by
  intro pins s σ H xs us Q I rr q
  rcases q with q | q
  · exact h pins s σ H xs us Q I rr q
  · exact h' pins s σ H xs us Q I rr q
/-! ### lists alone -/
abbrev RM (K : PySem.W.Frag) : RR (List W) V := fun _ f H ws v => ∃ a vs, v = .ref a ∧ SqL K H a vs ∧ Reps K f H ws vs
abbrev SMq (X : Cx) (W0 : WX) (e : Expr) (m : LM) : Prop := PE X e (tG X.K (RM X.K) W0 m)
theorem back_M {K : PySem.W.Frag} : Back K (RM K) := fun _ _ _ _ _ _ _ _ _ _ _ _ q => q
def mLstOf (m : EM) : LM := fun ps h => (m ps h).bind fun x h1 => match lstOf x h1 with
  | some xs => .ok xs h1
  | none => .stuck
section
variable {K : PySem.W.Frag} {X : Cx} {W0 : WX} {a b c e : Expr} {pos : Pos} {m1 m2 m3 : EM} {l1 l2 : LM}
theorem sm_list (h : SL X W0 e l1) : SMq X W0 e l1 := pe_imp h fun σ H Q h => by
  obtain ⟨f, h, ps, s, sr, p⟩ := h
  refine ⟨f, h, ps, s, sr, ?_⟩
  cases e : l1 ps h with
  | stuck => rw [e] at p; exact p
  | exc x h' => rw [e] at p; exact p
  | ok xs h1 =>
    rw [e] at p
    intro f1 H1 v s1 q1
    obtain ⟨q, vs, rfl, hq, nq, eq, rq⟩ := q1
    exact p f1 H1 _ s1 ⟨q, vs, rfl, SqL.of eq, rq⟩
theorem sm_val (h : SE X W0 e m1) : SMq X W0 e (mLstOf m1) := pe_imp h fun σ H Q h => by
  obtain ⟨f, h, ps, s, sr, p⟩ := h
  refine ⟨f, h, ps, s, sr, (Post.bind s back_M p).mono (fun v H1 hh => ?_) fun _ _ _ e => e⟩
  obtain ⟨f1, h1, x, s1, q1, p1⟩ := hh
  cases e : lstOf x h1 with
  | none => simp only [e] at p1; exact p1.elim
  | some ws =>
    simp only [e] at p1
    exact p1 f1 H1 v (.refl s1.sim) (lstOf_rep s1.sim q1 e)
def OpM {α : Type} (K : PySem.W.Frag) (R : RR α V) (r : List V → Hp → VK → Prop) (o : List W → PH → Option (α × PH)) : Prop :=
  ∀ (f : List Addr) (h : PH) (H : Hp) (a : Addr) (ws : List W) (vs : List V) (Q : VK) (E : XK), Sim K f h H → SqL K H a vs → Reps K f H ws vs → Post K R f H (.ofO (o ws h)) Q E → r [.ref a] H Q
variable {x : Str} {id T : String} {r : List V → Hp → VK → Prop} {es : List Expr} {p : Pos}
theorem tG_onM {α : Type} {R : RR α V} {o : List W → PH → Option (α × PH)} (hb : Back K R) (ho : OpM K R r o) {σ : L2.St} {H : Hp} {Q : VK} (h : tG K R W0 (mOn o l1) σ H Q) : tCB r (tCons (tG K (RM K) W0 l1) tNil) σ H Q := by
  obtain ⟨f, h, ps, s, sr, p⟩ := h
  refine ⟨f, h, ps, s, sr, (Post.bind s hb p).mono (fun v H1 hh => ?_) fun _ _ _ e => e⟩
  obtain ⟨f1, h1, ws, s1, q1, p1⟩ := hh
  obtain ⟨a, vs, rfl, hq, rr⟩ := q1
  exact ho f1 h1 H1 a ws vs Q _ s1.sim hq rr p1
theorem pg_callBM {α : Type} {R : RR α V} {o : List W → PH → Option (α × PH)} (hb : Back X.K R) (hc : CallR X (.builtin id) r) (ho : OpM X.K R r o) (hm : X.mg x = none) (hv : bootBuiltins x = some (.builtin id)) (ha : SMq X W0 e l1) (hg : Gl X x := by rfl) (hn : x ≠ "__name__" := by decide) (hdb : (x == ("__debug__" : Str)) = false := by decide)
    (he : starEach [e] X.env = (false, eval e X.env) :: starEach [] X.env := by rfl) (hpl : (backTo pos (starEach [] X.env)).any (·.1) = false := by rfl) : PE X (.Call (.Name x p) [e] [] pos) (tG X.K R W0 (mOn o l1)) :=
  pe_imp (pe_callB hc hg hm hv (pa_cons ha pa_nil he) hn hdb he hpl) fun _ _ _ h => tG_onM hb ho h

/-! ### len -/
def wLenQ (ws : List W) (h : PH) : Option (W × PH) := some (.int ws.length, h)
def wLen : List W → PH → Option (W × PH)
  | [.str x], h => if x.length ≤ 16777216 then some (.int x.length, h) else none
  | [.tup xs], h => some (.int xs.length, h)
  | [.fix xs], h => some (.int xs.length, h)
  | [.ref n], h => match h[n]? with
    | some (.lst xs) => some (.int xs.length, h)
    | some (.dK kvs) => some (.int kvs.length, h)
    | _ => none
  | _, _ => none
abbrev rLenV (K : PySem.W.Frag) : List V → Hp → VK → Prop := fun xs H Q => ∃ x n, xs = [x] ∧ LenV K x H n ∧ Q (.int n) H
abbrev rLenD : List V → Hp → VK → Prop := fun xs H Q => ∃ a kvs, xs = [.ref a] ∧ Rd H a (.dK kvs) ∧ Q (.int (kvs.length : Nat)) H
theorem c_lenD : CallR X (.builtin "len") rLenD := by
  intro pins s σ H xs us Q I r h
  obtain ⟨a, kvs, rfl, e, q⟩ := h
  obtain ⟨u, rfl, rx⟩ := vals1 r
  cases rx
  exact d_len I e fun t s' I' => ⟨.int kvs.length, H, I', ⟨t, rfl⟩, q⟩
theorem c_len : CallR X (.builtin "len") (fun xs H Q => rLenV X.K xs H Q ∨ rLenD xs H Q) := CallR.or call_len c_lenD
theorem q_len : OpS K (RW K) (fun xs H Q => rLenV K xs H Q ∨ rLenD xs H Q) wLenQ := by
  intro f h H a ws vs Q E s hq r p
  refine .inl ⟨.ref a, vs.length, rfl, ?_, by rw [← r.length]; exact post_ok s p (rep_int.mpr rfl)⟩
  rcases hq with hq | hq
  · exact .inl ⟨vs, hq, rfl⟩
  · exact .inr ⟨vs, hq, rfl⟩
theorem o_len : OpC K (fun xs H Q => rLenV K xs H Q ∨ rLenD xs H Q) wLen := by
  intro f h H xs vs Q E s r p
  unfold wLen at p
  split at p
  · obtain ⟨v, t, rfl, h1, h2⟩ := r.cons_inv
    have e1 := rep_str.mp h1
    have e2 := h2.nil_inv
    subst e1 e2
    split at p
    · rename_i hz
      exact .inl ⟨_, _, rfl, ⟨by rw [sizeLine_eq]; exact hz, rfl⟩, post_ok s p (rep_int.mpr rfl)⟩
    · exact p.elim
  · obtain ⟨v, t, rfl, h1, h2⟩ := r.cons_inv
    obtain ⟨a, vs, rfl, h3, h4⟩ := rep_tup.mp h1
    have e2 := h2.nil_inv
    subst e2
    exact .inl ⟨_, vs.length, rfl, .inr ⟨vs, h3, rfl⟩, by rw [← h4.length]; exact post_ok s p (rep_int.mpr rfl)⟩
  · obtain ⟨v, t, rfl, h1, h2⟩ := r.cons_inv
    obtain ⟨a, vs, rfl, h3, h4⟩ := rep_fix.mp h1
    have e2 := h2.nil_inv
    subst e2
    exact .inl ⟨_, vs.length, rfl, .inl ⟨vs, h3.seq, rfl⟩, by rw [← h4.length]; exact post_ok s p (rep_int.mpr rfl)⟩
  · obtain ⟨v, t, rfl, h1, h2⟩ := r.cons_inv
    have e2 := h2.nil_inv
    subst e2
    split at p
    · rename_i hn
      obtain ⟨a, rfl, _, vs, h3, h4⟩ := s.at hn h1
      exact .inl ⟨_, vs.length, rfl, .inl ⟨vs, SqL.of h3, rfl⟩, by rw [← h4.length]; exact post_ok s p (rep_int.mpr rfl)⟩
    · rename_i hn
      obtain ⟨a, rfl, _, vs, h3, h4⟩ := s.at hn h1
      exact .inr ⟨a, vs, rfl, .inl h3, by rw [← h4.length]; exact post_ok s p (rep_int.mpr rfl)⟩
    · exact p.elim
  · exact p.elim

/-! ### all, any, sum -/
def bools : List W → Option (List Bool)
  | [] => some []
  | .bl b :: r => (bools r).map (b :: ·)
  | _ :: _ => none
def intsW : List W → Option (List Int)
  | [] => some []
  | .int b :: r => (intsW r).map (b :: ·)
  | _ :: _ => none
def strsW : List W → Option (List Str)
  | [] => some []
  | .str b :: r => (strsW r).map (b :: ·)
  | _ :: _ => none
theorem bools_rep {f : List Addr} {H : Hp} : ∀ {ws : List W} {vs : List V} {bs : List Bool}, bools ws = some bs → Reps K f H ws vs → vs = bs.map V.bl
  | [], vs, bs, e, r => by
    cases e
    exact r.nil_inv
  | .bl b :: ws, vs, bs, e, r => by
    obtain ⟨v, t, rfl, h1, h2⟩ := r.cons_inv
    obtain ⟨cs, e1, rfl⟩ := Option.map_eq_some_iff.mp e
    rw [rep_bl.mp h1, bools_rep e1 h2]
    rfl
  | .non :: _, _, _, e, _ => by cases e
  | .int _ :: _, _, _, e, _ => by cases e
  | .str _ :: _, _, _, e, _ => by cases e
  | .tup _ :: _, _, _, e, _ => by cases e
  | .fix _ :: _, _, _, e, _ => by cases e
  | .exc _ :: _, _, _, e, _ => by cases e
  | .ref _ :: _, _, _, e, _ => by cases e
theorem intsW_rep {f : List Addr} {H : Hp} : ∀ {ws : List W} {vs : List V} {bs : List Int}, intsW ws = some bs → Reps K f H ws vs → vs = bs.map V.int
  | [], vs, bs, e, r => by
    cases e
    exact r.nil_inv
  | .int b :: ws, vs, bs, e, r => by
    obtain ⟨v, t, rfl, h1, h2⟩ := r.cons_inv
    obtain ⟨cs, e1, rfl⟩ := Option.map_eq_some_iff.mp e
    rw [rep_int.mp h1, intsW_rep e1 h2]
    rfl
  | .non :: _, _, _, e, _ => by cases e
  | .bl _ :: _, _, _, e, _ => by cases e
  | .str _ :: _, _, _, e, _ => by cases e
  | .tup _ :: _, _, _, e, _ => by cases e
  | .fix _ :: _, _, _, e, _ => by cases e
  | .exc _ :: _, _, _, e, _ => by cases e
  | .ref _ :: _, _, _, e, _ => by cases e
theorem strsW_rep {f : List Addr} {H : Hp} : ∀ {ws : List W} {vs : List V} {bs : List Str}, strsW ws = some bs → Reps K f H ws vs → vs = bs.map V.str
  | [], vs, bs, e, r => by
    cases e
    exact r.nil_inv
  | .str b :: ws, vs, bs, e, r => by
    obtain ⟨v, t, rfl, h1, h2⟩ := r.cons_inv
    obtain ⟨cs, e1, rfl⟩ := Option.map_eq_some_iff.mp e
    rw [rep_str.mp h1, strsW_rep e1 h2]
    rfl
  | .non :: _, _, _, e, _ => by cases e
  | .bl _ :: _, _, _, e, _ => by cases e
  | .int _ :: _, _, _, e, _ => by cases e
  | .tup _ :: _, _, _, e, _ => by cases e
  | .fix _ :: _, _, _, e, _ => by cases e
  | .exc _ :: _, _, _, e, _ => by cases e
  | .ref _ :: _, _, _, e, _ => by cases e
theorem reps_ints {f : List Addr} {H : Hp} : ∀ (bs : List Int), Reps K f H (bs.map W.int) (bs.map V.int)
  | [] => .nil
  | b :: bs => .cons (rep_int.mpr rfl) (reps_ints bs)
theorem reps_strs {f : List Addr} {H : Hp} : ∀ (bs : List Str), Reps K f H (bs.map W.str) (bs.map V.str)
  | [] => .nil
  | b :: bs => .cons (rep_str.mpr rfl) (reps_strs bs)
def wAll (ws : List W) (h : PH) : Option (W × PH) := (bools ws).map fun bs => (.bl (bs.all fun b => b), h)
def wAny (ws : List W) (h : PH) : Option (W × PH) := (bools ws).map fun bs => (.bl (bs.any fun b => b), h)
def wSum (ws : List W) (h : PH) : Option (W × PH) := (intsW ws).map fun bs => (.int bs.sum, h)
theorem q_all : OpM K (RW K) (rAll K) wAll := by
  intro f h H a ws vs Q E s hq r p
  unfold wAll at p
  cases e : bools ws with
  | none => rw [e] at p; exact p.elim
  | some bs =>
    rw [e] at p
    have ev := bools_rep e r
    subst ev
    exact ⟨a, bs, rfl, hq, post_ok s p (rep_bl.mpr rfl)⟩
theorem q_any : OpM K (RW K) (rAny K) wAny := by
  intro f h H a ws vs Q E s hq r p
  unfold wAny at p
  cases e : bools ws with
  | none => rw [e] at p; exact p.elim
  | some bs =>
    rw [e] at p
    have ev := bools_rep e r
    subst ev
    exact ⟨a, bs, rfl, hq, post_ok s p (rep_bl.mpr rfl)⟩
theorem q_sum : OpM K (RW K) (rSum K) wSum := by
  intro f h H a ws vs Q E s hq r p
  unfold wSum at p
  cases e : intsW ws with
  | none => rw [e] at p; exact p.elim
  | some bs =>
    rw [e] at p
    have ev := intsW_rep e r
    subst ev
    exact ⟨a, bs, rfl, hq, post_ok s p (rep_int.mpr rfl)⟩
/-- the greatest, the least of a list that isn't empty -/
def maxI : List Int → Option Int
  | [] => none
  | a :: r => some (r.foldl (fun m x => if x > m then x else m) a)
def minI : List Int → Option Int
  | [] => none
  | a :: r => some (r.foldl (fun m x => if x < m then x else m) a)
theorem foldmax (r : List Int) : ∀ (a : Int), a ≤ r.foldl (fun m x => if x > m then x else m) a ∧ (∀ y ∈ r, y ≤ r.foldl (fun m x => if x > m then x else m) a) ∧ (r.foldl (fun m x => if x > m then x else m) a = a ∨ r.foldl (fun m x => if x > m then x else m) a ∈ r) := by
  induction r with
  | nil => intro a; simp
  | cons b r ih =>
    intro a
    rw [List.foldl_cons]
    have hc : ∃ c, c = (if b > a then b else a) ∧ a ≤ c ∧ b ≤ c ∧ (c = a ∨ c = b) := by
      refine ⟨_, rfl, ?_, ?_, ?_⟩
      · split <;> omega
      · split <;> omega
      · split <;> simp
    obtain ⟨c, e, c1, c2, c3⟩ := hc
    rw [← e]
    obtain ⟨h1, h2, h3⟩ := ih c
    refine ⟨by omega, fun y hy => ?_, ?_⟩
    · rcases List.mem_cons.mp hy with e | e
      · omega
      · exact h2 y e
    · rcases h3 with h3 | h3
      · rw [h3]
        rcases c3 with c3 | c3
        · exact .inl c3
        · rw [c3]
          exact .inr List.mem_cons_self
      · exact .inr (List.mem_cons_of_mem _ h3)
theorem foldmin (r : List Int) : ∀ (a : Int), r.foldl (fun m x => if x < m then x else m) a ≤ a ∧ (∀ y ∈ r, r.foldl (fun m x => if x < m then x else m) a ≤ y) ∧ (r.foldl (fun m x => if x < m then x else m) a = a ∨ r.foldl (fun m x => if x < m then x else m) a ∈ r) := by
  induction r with
  | nil => intro a; simp
  | cons b r ih =>
    intro a
    rw [List.foldl_cons]
    have hc : ∃ c, c = (if b < a then b else a) ∧ c ≤ a ∧ c ≤ b ∧ (c = a ∨ c = b) := by
      refine ⟨_, rfl, ?_, ?_, ?_⟩
      · split <;> omega
      · split <;> omega
      · split <;> simp
    obtain ⟨c, e, c1, c2, c3⟩ := hc
    rw [← e]
    obtain ⟨h1, h2, h3⟩ := ih c
    refine ⟨by omega, fun y hy => ?_, ?_⟩
    · rcases List.mem_cons.mp hy with e | e
      · omega
      · exact h2 y e
    · rcases h3 with h3 | h3
      · rw [h3]
        rcases c3 with c3 | c3
        · exact .inl c3
        · rw [c3]
          exact .inr List.mem_cons_self
      · exact .inr (List.mem_cons_of_mem _ h3)
theorem maxI_is {l : List Int} {m : Int} (e : maxI l = some m) : m ∈ l ∧ ∀ y ∈ l, y ≤ m := by
  cases l with
  | nil => cases e
  | cons a r =>
    have e : r.foldl (fun m x => if x > m then x else m) a = m := Option.some.inj e
    obtain ⟨h1, h2, h3⟩ := foldmax r a
    rw [e] at h1 h2 h3
    refine ⟨?_, fun y hy => ?_⟩
    · rcases h3 with h3 | h3
      · rw [h3]; exact List.mem_cons_self
      · exact List.mem_cons_of_mem _ h3
    · rcases List.mem_cons.mp hy with q | q
      · rw [q]; exact h1
      · exact h2 y q
theorem minI_is {l : List Int} {m : Int} (e : minI l = some m) : m ∈ l ∧ ∀ y ∈ l, m ≤ y := by
  cases l with
  | nil => cases e
  | cons a r =>
    have e : r.foldl (fun m x => if x < m then x else m) a = m := Option.some.inj e
    obtain ⟨h1, h2, h3⟩ := foldmin r a
    rw [e] at h1 h2 h3
    refine ⟨?_, fun y hy => ?_⟩
    · rcases h3 with h3 | h3
      · rw [h3]; exact List.mem_cons_self
      · exact List.mem_cons_of_mem _ h3
    · rcases List.mem_cons.mp hy with q | q
      · rw [q]; exact h1
      · exact h2 y q
def wMax (ws : List W) (h : PH) : Option (W × PH) := ((intsW ws).bind maxI).map fun m => (.int m, h)
def wMin (ws : List W) (h : PH) : Option (W × PH) := ((intsW ws).bind minI).map fun m => (.int m, h)
theorem q_max : OpM K (RW K) (rMax K) wMax := by
  intro f h H a ws vs Q E s hq r p
  unfold wMax at p
  cases e : intsW ws with
  | none => rw [e] at p; exact p.elim
  | some bs =>
    rw [e] at p
    simp only [Option.bind_some] at p
    have ev := intsW_rep e r
    subst ev
    cases e2 : maxI bs with
    | none => rw [e2] at p; exact p.elim
    | some m =>
      rw [e2] at p
      obtain ⟨k1, k2⟩ := maxI_is e2
      refine ⟨a, bs, rfl, hq, List.length_pos_of_mem k1, fun z hz hle => ?_⟩
      have : z = m := Int.le_antisymm (k2 z hz) (hle m k1)
      rw [this]
      exact post_ok s p (rep_int.mpr rfl)
theorem q_min : OpM K (RW K) (rMin K) wMin := by
  intro f h H a ws vs Q E s hq r p
  unfold wMin at p
  cases e : intsW ws with
  | none => rw [e] at p; exact p.elim
  | some bs =>
    rw [e] at p
    simp only [Option.bind_some] at p
    have ev := intsW_rep e r
    subst ev
    cases e2 : minI bs with
    | none => rw [e2] at p; exact p.elim
    | some m =>
      rw [e2] at p
      obtain ⟨k1, k2⟩ := minI_is e2
      refine ⟨a, bs, rfl, hq, List.length_pos_of_mem k1, fun z hz hle => ?_⟩
      have : z = m := Int.le_antisymm (hle m k1) (k2 z hz)
      rw [this]
      exact post_ok s p (rep_int.mpr rfl)

/-! ### abs, max and min of two, int, str -/
def wAbs : List W → PH → Option (W × PH)
  | [.int i], h => some (.int (if i < 0 then -i else i), h)
  | _, _ => none
def wMax2 : List W → PH → Option (W × PH)
  | [.int i, .int j], h => some (.int (if j > i then j else i), h)
  | _, _ => none
def wMin2 : List W → PH → Option (W × PH)
  | [.int i, .int j], h => some (.int (if j < i then j else i), h)
  | _, _ => none
def wInt : List W → PH → Option (W × PH)
  | [.int i], h => some (.int i, h)
  | [.bl k], h => some (.int (if k then 1 else 0), h)
  | [.str x], h => if x.length ≤ 640 then (PySem.intText? x).map fun n => (.int n, h) else none
  | _, _ => none
def wStr : List W → PH → Option (W × PH)
  | [.int i], h => if i.natAbs.log2 < 1920 then some (.str (toString i), h) else none
  | _, _ => none
theorem Reps.one_inv {f : List Addr} {H : Hp} {w : W} {vs : List V} (r : Reps K f H [w] vs) : ∃ v, vs = [v] ∧ Rep K f H w v := by
  obtain ⟨v, t, rfl, h1, h2⟩ := r.cons_inv
  exact ⟨v, by rw [h2.nil_inv], h1⟩
theorem Reps.two_inv {f : List Addr} {H : Hp} {w z : W} {vs : List V} (r : Reps K f H [w, z] vs) : ∃ v u, vs = [v, u] ∧ Rep K f H w v ∧ Rep K f H z u := by
  obtain ⟨v, t, rfl, h1, h2⟩ := r.cons_inv
  obtain ⟨u, rfl, h3⟩ := h2.one_inv
  exact ⟨v, u, rfl, h1, h3⟩
theorem o_abs : OpC K (fun xs H Q => ∃ i, xs = [V.int i] ∧ Q (.int (if i < 0 then -i else i)) H) wAbs := by
  intro f h H xs vs Q E s r p
  unfold wAbs at p
  split at p
  · obtain ⟨v, rfl, h1⟩ := r.one_inv
    exact ⟨_, by rw [rep_int.mp h1], post_ok s p (rep_int.mpr rfl)⟩
  · exact p.elim
theorem o_max2 : OpC K (fun xs H Q => ∃ i j, xs = [V.int i, .int j] ∧ Q (.int (if j > i then j else i)) H) wMax2 := by
  intro f h H xs vs Q E s r p
  unfold wMax2 at p
  split at p
  · obtain ⟨v, u, rfl, h1, h2⟩ := r.two_inv
    exact ⟨_, _, by rw [rep_int.mp h1, rep_int.mp h2], post_ok s p (rep_int.mpr rfl)⟩
  · exact p.elim
theorem o_min2 : OpC K (fun xs H Q => ∃ i j, xs = [V.int i, .int j] ∧ Q (.int (if j < i then j else i)) H) wMin2 := by
  intro f h H xs vs Q E s r p
  unfold wMin2 at p
  split at p
  · obtain ⟨v, u, rfl, h1, h2⟩ := r.two_inv
    exact ⟨_, _, by rw [rep_int.mp h1, rep_int.mp h2], post_ok s p (rep_int.mpr rfl)⟩
  · exact p.elim
abbrev rInt : List V → Hp → VK → Prop := fun xs H Q => ((∃ i, xs = [V.int i] ∧ Q (.int i) H) ∨ ∃ k, xs = [.bl k] ∧ Q (.int (if k then 1 else 0)) H) ∨ ∃ a n, xs = [.str a] ∧ PySem.intText? a = some n ∧ a.length ≤ 640 ∧ Q (.int n) H
theorem c_int : CallR X (.type "int") rInt := CallR.or call_int1 call_int_str
theorem o_int : OpC K rInt wInt := by
  intro f h H xs vs Q E s r p
  unfold wInt at p
  split at p
  · obtain ⟨v, rfl, h1⟩ := r.one_inv
    exact .inl (.inl ⟨_, by rw [rep_int.mp h1], post_ok s p (rep_int.mpr rfl)⟩)
  · obtain ⟨v, rfl, h1⟩ := r.one_inv
    exact .inl (.inr ⟨_, by rw [rep_bl.mp h1], post_ok s p (rep_int.mpr rfl)⟩)
  · obtain ⟨v, rfl, h1⟩ := r.one_inv
    split at p
    · rename_i x hz
      cases e : PySem.intText? x with
      | none => rw [e] at p; exact p.elim
      | some n =>
        rw [e] at p
        exact .inr ⟨_, n, by rw [rep_str.mp h1], e, hz, post_ok s p (rep_int.mpr rfl)⟩
    · exact p.elim
  · exact p.elim
theorem o_str : OpC K (fun xs H Q => ∃ i, xs = [V.int i] ∧ i.natAbs.log2 < 1920 ∧ Q (.str (toString i)) H) wStr := by
  intro f h H xs vs Q E s r p
  unfold wStr at p
  split at p
  · split at p
    · rename_i c
      obtain ⟨v, rfl, h1⟩ := r.one_inv
      exact ⟨_, by rw [rep_int.mp h1], c, post_ok s p (rep_str.mpr rfl)⟩
    · exact p.elim
  · exact p.elim

/-! ### tuple(..), list(..), sorted(..) -/
def wTupQ (ws : List W) (h : PH) : Option (W × PH) := some (.tup ws, h)
abbrev rTupOf (K : PySem.W.Frag) : List V → Hp → VK → Prop := fun xs H Q => ∃ p ys, xs = [.ref p] ∧ ((SqL K H p ys ∧ ∀ l, H l = none → Q (.ref l) (upd H l (.tup ys))) ∨ (SqT K H p ys ∧ Q (.ref p) H))
theorem q_tup : OpS K (RW K) (rTupOf K) wTupQ := by
  intro f h H a ws vs Q E s hq r p
  refine ⟨a, vs, rfl, ?_⟩
  rcases hq with hq | hq
  · exact .inl ⟨hq, fun l hl => post_tup s p r hl⟩
  · exact .inr ⟨hq, post_ok s p (rep_tup.mpr ⟨a, vs, rfl, hq, r⟩)⟩
/-- behind a rule that lays a new list -/
theorem post_fresh {f : List Addr} {h : PH} {H : Hp} {ws : List W} {vs : List V} {Q : VK} {E : XK} (s : Sim K f h H) (p : Post K (RL K) f H (.ofO (some (ws, h))) Q E) (r : Reps K f H ws vs) {q : Addr} (hq : H q = none) : Q (.ref q) (upd H q (.lst vs)) :=
  p f _ _ (s.other hq) ⟨q, vs, rfl, hq, s.fresh hq, upd_same, Reps.mono (.refl f) (s.stay (s.other hq).grow) _ _ r⟩
def lId (ws : List W) (h : PH) : Option (List W × PH) := some (ws, h)
abbrev rLstOf (K : PySem.W.Frag) : List V → Hp → VK → Prop := fun xs H Q => ∃ p ys, xs = [.ref p] ∧ (SqL K H p ys ∨ SqT K H p ys) ∧ ∀ l, H l = none → Q (.ref l) (upd H l (.lst ys))
theorem q_list : OpS K (RL K) (rLstOf K) lId := by
  intro f h H a ws vs Q E s hq r p
  exact ⟨a, vs, rfl, hq, fun l hl => post_fresh s p r hl⟩
/-- the rising arrangement -/
def insI (x : Int) : List Int → List Int
  | [] => [x]
  | y :: r => if x ≤ y then x :: y :: r else y :: insI x r
def sortI (l : List Int) : List Int := l.foldr insI []
theorem insI_perm (x : Int) : ∀ l : List Int, (insI x l).Perm (x :: l)
  | [] => .refl _
  | y :: r => by
    unfold insI
    split
    · exact .refl _
    · exact ((insI_perm x r).cons y).trans (.swap x y r)
theorem sortI_perm (l : List Int) : (sortI l).Perm l := by
  induction l with
  | nil => exact .refl _
  | cons x l ih => exact (insI_perm x _).trans (ih.cons x)
theorem insI_up (x : Int) : ∀ l : List Int, l.Pairwise (· ≤ ·) → (insI x l).Pairwise (· ≤ ·)
  | [], _ => by simp [insI]
  | y :: r, h => by
    obtain ⟨h1, h2⟩ := List.pairwise_cons.mp h
    unfold insI
    split
    · rename_i c
      refine List.pairwise_cons.mpr ⟨fun z hz => ?_, h⟩
      rcases List.mem_cons.mp hz with e | e
      · rw [e]; exact c
      · exact Int.le_trans c (h1 z e)
    · rename_i c
      refine List.pairwise_cons.mpr ⟨fun z hz => ?_, insI_up x r h2⟩
      rcases List.mem_cons.mp ((insI_perm x r).mem_iff.mp hz) with e | e
      · rw [e]; omega
      · exact h1 z e
theorem sortI_up (l : List Int) : (sortI l).Pairwise (· ≤ ·) := by
  induction l with
  | nil => exact .nil
  | cons x l ih => exact insI_up x _ ih
theorem up_unique : ∀ {l m : List Int}, l.Perm m → l.Pairwise (· ≤ ·) → m.Pairwise (· ≤ ·) → l = m
  | [], m, p, _, _ => by rw [List.nil_perm.mp p]
  | a :: l, [], p, _, _ => absurd (p.symm) (by simp)
  | a :: l, b :: m, p, h1, h2 => by
    obtain ⟨a1, a2⟩ := List.pairwise_cons.mp h1
    obtain ⟨b1, b2⟩ := List.pairwise_cons.mp h2
    have e : a = b := by
      have m1 : b ∈ a :: l := p.mem_iff.mpr List.mem_cons_self
      have m2 : a ∈ b :: m := p.mem_iff.mp List.mem_cons_self
      rcases List.mem_cons.mp m1 with q | q
      · exact q.symm
      · rcases List.mem_cons.mp m2 with q2 | q2
        · exact q2
        · exact Int.le_antisymm (a1 b q) (b1 a q2)
    subst e
    rw [up_unique (List.Perm.cons_inv p) a2 b2]
def lSorted (ws : List W) (h : PH) : Option (List W × PH) := (intsW ws).map fun bs => ((sortI bs).map W.int, h)
theorem q_sorted : OpM K (RL K) (rSortedI K) lSorted := by
  intro f h H a ws vs Q E s hq r p
  unfold lSorted at p
  cases e : intsW ws with
  | none => rw [e] at p; exact p.elim
  | some bs =>
    rw [e] at p
    have ev := intsW_rep e r
    subst ev
    refine ⟨a, bs, rfl, hq, fun ns' q hp hu hq' => ?_⟩
    have e3 : ns' = sortI bs := up_unique (hp.trans (sortI_perm bs).symm) hu (sortI_up bs)
    subst e3
    exact post_fresh s p (reps_ints _) hq'
end
end Mir

/-! Mir: targets, statements. -/
namespace Mir
open PySem L2

/-! ### targets -/
abbrev GM := W → LS → Option LS
abbrev GMs := List W → LS → Option LS
/-- nothing but the slots ts may be otherwise -/
def But (ts : List Nat) (σ σ' : L2.St) : Prop := σ'.length = σ.length ∧ ∀ i, i ∉ ts → σ'[i]? = σ[i]?
theorem But.refl (σ : L2.St) : But [] σ σ := ⟨rfl, fun _ _ => rfl⟩
theorem But.trans {a b : List Nat} {σ σ1 σ2 : L2.St} (h : But a σ σ1) (k : But b σ1 σ2) : But (a ++ b) σ σ2 :=
  ⟨k.1.trans h.1, fun i hi => (k.2 i fun z => hi (List.mem_append_right _ z)).trans (h.2 i fun z => hi (List.mem_append_left _ z))⟩
def tTg (K : PySem.W.Frag) (ts : List Nat) (g : GM) : TG := fun v σ H Q => ∃ f h ps w ps', Sim K f h H ∧ SRep K f H ps σ ∧ Rep K f H w v ∧ g w ps = some ps' ∧ ∀ σ', SRep K f H ps' σ' → But ts σ σ' → Q σ' H
def tTgs (K : PySem.W.Frag) (ts : List Nat) (g : GMs) : TGs := fun vs σ H Q => ∃ f h ps ws ps', Sim K f h H ∧ SRep K f H ps σ ∧ Reps K f H ws vs ∧ g ws ps = some ps' ∧ ∀ σ', SRep K f H ps' σ' → But ts σ σ' → Q σ' H
abbrev SG (X : Cx) (tg : Expr) (ts : List Nat) (g : GM) : Prop := PG X tg (tTg X.K ts g)
abbrev SGs (X : Cx) (es : List Expr) (ts : List Nat) (g : GMs) : Prop := PGs X es (tTgs X.K ts g)
theorem pg_imp {X : Cx} {e : Expr} {t t' : TG} (h : PG X e t) (i : ∀ v σ H Q, t' v σ H Q → t v σ H Q) : PG X e t' := ⟨fun pins s σ H v u Q I r q => h.run pins s σ H v u Q I r (i v σ H Q q)⟩
theorem pgs_imp {X : Cx} {es : List Expr} {t t' : TGs} (h : PGs X es t) (i : ∀ v σ H Q, t' v σ H Q → t v σ H Q) : PGs X es t' := ⟨fun pins s σ H v u Q I r q => h.run pins s σ H v u Q I r (i v σ H Q q)⟩
def gN (i : Nat) : GM := fun w ps => some (ps.set i (some w))
def gNil' : GMs := fun ws ps => match ws with
  | [] => some ps
  | _ => none
def gCons' (g : GM) (r : GMs) : GMs := fun ws ps => match ws with
  | w :: ws => (g w ps).bind fun ps' => r ws ps'
  | [] => none
/-- a tuple is taken apart -/
def gT (r : GMs) : GM := fun w ps => match w with
  | .tup ws => r ws ps
  | _ => none
section
variable {X : Cx} {pos : Pos}
theorem sg_name (i : Nat) {x : Str} (hN : X.N.Nodup) (hi : X.N[i]? = some x := by rfl) (hx : Loc X.env.scope x := by first | exact .inl rfl | exact .inr rfl) (hf : X.fn x = true ∨ X.env.scope.names.lookup x = some .local := by first | exact .inl rfl | exact .inr rfl | assumption) : SG X (.Name x pos) [i] (gN i) :=
  pg_imp (pg_name (i := i) hN hi hx hf) fun v σ H Q h => by
    obtain ⟨f, h, ps, w, ps', s, sr, r, e, q⟩ := h
    cases e
    exact q _ (sr.set i r) ⟨by simp, fun j hj => List.getElem?_set_ne fun z => hj (by simp [z])⟩
theorem sgs_nil : SGs X [] [] gNil' := pgs_imp pgs_nil fun vs σ H Q h => by
  obtain ⟨f, h, ps, ws, ps', s, sr, r, e, q⟩ := h
  unfold gNil' at e
  split at e
  · cases e
    exact ⟨r.nil_inv, q _ sr (.refl σ)⟩
  · cases e
theorem sgs_cons {e : Expr} {es : List Expr} {g : GM} {r : GMs} {ts us : List Nat} (h1 : SG X e ts g) (h2 : SGs X es us r) (hs : (assignEach (e :: es) X.env).map (·.2) = assign e X.env :: (assignEach es X.env).map (·.2) := by rfl) : SGs X (e :: es) (ts ++ us) (gCons' g r) :=
  pgs_imp (pgs_cons h1 h2 hs) fun vs σ H Q h => by
    obtain ⟨f, h, ps, ws, ps', s, sr, rr, e, q⟩ := h
    unfold gCons' at e
    split at e
    · rename_i w ws
      obtain ⟨v, t, rfl, r1, r2⟩ := rr.cons_inv
      obtain ⟨ps1, e1, e2⟩ := Option.bind_eq_some_iff.mp e
      exact ⟨v, t, rfl, f, h, ps, w, ps1, s, sr, r1, e1, fun σ' sr' b' => ⟨f, h, ps1, ws, ps', s, sr', r2, e2, fun σ2 sr2 b2 => q σ2 sr2 (b'.trans b2)⟩⟩
    · cases e
/-- (a, b, ..) = a tuple -/
theorem sg_tup {es : List Expr} {k : Nat} {r : GMs} {ts : List Nat} {n : Nat} (hc : X.calm = true) (h : SGs X es ts r) (hl : ∀ ws ps ps', r ws ps = some ps' → ws.length = n)
    (hn : (assignEach es X.env).length = n := by rfl) (hst : (assignEach es X.env).findIdx? (·.1) = none := by rfl) : SG X (.Tuple es k pos) ts (gT r) := pg_imp (pg_tup hc h hn hst) fun v σ H Q h => by
  obtain ⟨f, h, ps, w, ps', s, sr, rr, e, q⟩ := h
  unfold gT at e
  split at e
  · rename_i ws
    obtain ⟨a, vs, rfl, h1, h2⟩ := rep_tup.mp rr
    exact ⟨a, vs, rfl, h1, by rw [← h2.length]; exact hl _ _ _ e, f, h, ps, ws, ps', s, sr, h2, e, q⟩
  · cases e
theorem gl_nil {ws : List W} {ps ps' : LS} (e : gNil' ws ps = some ps') : ws.length = 0 := by
  unfold gNil' at e
  split at e
  · rfl
  · cases e
theorem gl_cons {g : GM} {r : GMs} {n : Nat} (h : ∀ ws ps ps', r ws ps = some ps' → ws.length = n) {ws : List W} {ps ps' : LS} (e : gCons' g r ws ps = some ps') : ws.length = n + 1 := by
  unfold gCons' at e
  split at e
  · obtain ⟨ps1, _, e2⟩ := Option.bind_eq_some_iff.mp e
    rw [List.length_cons, h _ _ _ e2]
  · cases e
end

/-! ### statements -/
def PostS (K : PySem.W.Frag) (f : List Addr) (H : Hp) (r : SRes) (D : Ends) (W0 : WX) : Prop :=
  match r with
  | .nx ps h' => ∀ f' H' σ', Step K f H f' h' H' → SRep K f' H' ps σ' → D.nx σ' H'
  | .bk ps h' => ∀ f' H' σ', Step K f H f' h' H' → SRep K f' H' ps σ' → D.bk σ' H'
  | .ct ps h' => ∀ f' H' σ', Step K f H f' h' H' → SRep K f' H' ps σ' → D.ct σ' H'
  | .rt w h' => ∀ f' H' v, Step K f H f' h' H' → Rep K f' H' w v → D.rt v H'
  | .exc x ps h' => ∀ f' H' σ' c d, Step K f H f' h' H' → SRep K f' H' ps σ' → XRep K f' H' x c d → W0 c d σ' H'
  | .stuck => False
def tS (K : PySem.W.Frag) (W0 : WX) (m : SM) : TS := fun D σ H => ∃ f h ps, Sim K f h H ∧ SRep K f H ps σ ∧ PostS K f H (m ps h) D W0
abbrev SS (X : Cx) (W0 : WX) (st : Stmt) (m : SM) : Prop := PS X st (tS X.K W0 m)
abbrev SSs (X : Cx) (W0 : WX) (st : List Stmt) (m : SM) : Prop := PSs X st (tS X.K W0 m)
/-- from a later state -/
theorem PostS.later {K : PySem.W.Frag} {f f1 : List Addr} {h1 : PH} {H H1 : Hp} {r : SRes} {D : Ends} {W0 : WX} (s1 : Step K f H f1 h1 H1) (p : PostS K f H r D W0) : PostS K f1 H1 r D W0 := by
  cases r with
  | nx ps h' => exact fun f' H' σ' s q => p f' H' σ' (s1.trans s) q
  | bk ps h' => exact fun f' H' σ' s q => p f' H' σ' (s1.trans s) q
  | ct ps h' => exact fun f' H' σ' s q => p f' H' σ' (s1.trans s) q
  | rt ps h' => exact fun f' H' σ' s q => p f' H' σ' (s1.trans s) q
  | exc x ps h' => exact fun f' H' σ' c d s q => p f' H' σ' c d (s1.trans s) q
  | stuck => exact p
/-- a computation of a value, then a statement's -/
def Res.thenS {α : Type} (r : Res α) (ps : LS) (k : α → PH → SRes) : SRes :=
  match r with
  | .ok a h => k a h
  | .exc x h => .exc x ps h
  | .stuck => .stuck
theorem PostS.bind {γ δ : Type} {K : PySem.W.Frag} {R1 : RR γ δ} {f : List Addr} {h : PH} {H : Hp} {r : Res γ} {ps : LS} {σ : L2.St} {k : γ → PH → SRes} {D : Ends} {W0 : WX} (s : Sim K f h H) (sr : SRep K f H ps σ) (p : PostS K f H (r.thenS ps k) D W0) :
    Post K R1 f H r (fun b H1 => ∃ f1 h1 a, Step K f H f1 h1 H1 ∧ SRep K f1 H1 ps σ ∧ R1 H f1 H1 a b ∧ PostS K f1 H1 (k a h1) D W0) fun c d H' => W0 c d σ H' := by
  cases r with
  | stuck => exact p
  | exc x h' => exact fun f' H' c d s1 q => p f' H' σ c d s1 (s1.srep s sr) q
  | ok a h1 => exact fun f1 H1 b s1 q1 => ⟨f1, h1, a, s1, s1.srep s sr, q1, PostS.later s1 p⟩
def sNext : SM := fun ps h => .nx ps h
def sSeq (m n : SM) : SM := fun ps h => match m ps h with
  | .nx ps1 h1 => n ps1 h1
  | r => r
def sAsg (m : EM) (g : GM) : SM := fun ps h => (m ps h).thenS ps fun w h1 => match g w ps with
  | some ps1 => .nx ps1 h1
  | none => .stuck
def sDrop (m : EM) : SM := fun ps h => (m ps h).thenS ps fun _ h1 => .nx ps h1
def sRet (m : EM) : SM := fun ps h => (m ps h).thenS ps fun w h1 => .rt w h1
def sRetN : SM := fun _ h => .rt .non h
def sIf (t : BM) (m n : SM) : SM := fun ps h => (t ps h).thenS ps fun b h1 => if b = true then m ps h1 else n ps h1
def sBreak : SM := fun ps h => .bk ps h
def sCont : SM := fun ps h => .ct ps h
section
variable {K : PySem.W.Frag} {X : Cx} {W0 : WX} {st : Stmt} {rest : List Stmt} {M N : SM} {e tg : Expr} {m : EM} {t : BM} {g : GM} {ts : List Nat} {pos : Pos}
theorem sss_nil : SSs X W0 [] sNext := pss_imp pss_nil fun D σ H h => by
  obtain ⟨f, h, ps, s, sr, p⟩ := h
  exact p f H σ (.refl s) sr
theorem tS_seq {D : Ends} {σ : L2.St} {H : Hp} (h : tS K W0 (sSeq M N) D σ H) : tS K W0 M { D with nx := tS K W0 N D } σ H := by
  obtain ⟨f, h, ps, s, sr, p⟩ := h
  refine ⟨f, h, ps, s, sr, ?_⟩
  unfold sSeq at p
  cases e : M ps h with
  | nx ps1 h1 =>
    rw [e] at p
    exact fun f1 H1 σ1 s1 sr1 => ⟨f1, h1, ps1, s1.sim, sr1, PostS.later s1 p⟩
  | bk _ _ => rw [e] at p; exact p
  | ct _ _ => rw [e] at p; exact p
  | rt _ _ => rw [e] at p; exact p
  | exc _ _ _ => rw [e] at p; exact p
  | stuck => rw [e] at p; exact p
theorem sss_cons (h1 : SS X W0 st M) (h2 : SSs X W0 rest N) : SSs X W0 (st :: rest) (sSeq M N) := pss_imp (pss_cons h1 h2) fun D σ H h => tS_seq h
theorem sss_one (h1 : SS X W0 st M) : SSs X W0 [st] M := pss_one h1
theorem ss_pass : SS X W0 (.Pass pos) sNext := ps_imp ps_pass fun D σ H h => by
  obtain ⟨f, h, ps, s, sr, p⟩ := h
  exact p f H σ (.refl s) sr
theorem ss_break : SS X W0 (.Break pos) sBreak := ps_imp ps_break fun D σ H h => by
  obtain ⟨f, h, ps, s, sr, p⟩ := h
  exact p f H σ (.refl s) sr
theorem ss_cont : SS X W0 (.Continue pos) sCont := ps_imp ps_continue fun D σ H h => by
  obtain ⟨f, h, ps, s, sr, p⟩ := h
  exact p f H σ (.refl s) sr
theorem ss_expr (he : SE X W0 e m) (hs : swapsWith e none pos.line X.env = pure false := by rfl) : SS X W0 (.Expr e pos) (sDrop m) := ps_imp (ps_expr he hs) fun D σ H h => by
  obtain ⟨f, h, ps, s, sr, p⟩ := h
  refine ⟨f, h, ps, s, sr, (PostS.bind (R1 := RW X.K) s sr p).mono (fun v H1 hh => ?_) fun _ _ _ e => e⟩
  obtain ⟨f1, h1, a, s1, sr1, q1, p1⟩ := hh
  exact p1 f1 H1 σ (.refl s1.sim) sr1
theorem ss_ret (he : SE X W0 e m) : SS X W0 (.Return (some e) pos) (sRet m) := ps_imp (ps_ret he) fun D σ H h => by
  obtain ⟨f, h, ps, s, sr, p⟩ := h
  refine ⟨f, h, ps, s, sr, (PostS.bind (R1 := RW X.K) s sr p).mono (fun v H1 hh => ?_) fun _ _ _ e => e⟩
  obtain ⟨f1, h1, a, s1, sr1, q1, p1⟩ := hh
  exact p1 f1 H1 v (.refl s1.sim) q1
theorem ss_retN : SS X W0 (.Return none pos) sRetN := ps_imp ps_retN fun D σ H h => by
  obtain ⟨f, h, ps, s, sr, p⟩ := h
  exact p f H .non (.refl s) (rep_non.mpr rfl)
theorem ss_if {a b : List Stmt} (hc : ST X W0 e t) (ha : SSs X W0 a M) (hb : SSs X W0 b N) : SS X W0 (.If e a b pos) (sIf t M N) := ps_imp (ps_if hc ha hb) fun D σ H h => by
  obtain ⟨f, h, ps, s, sr, p⟩ := h
  refine ⟨f, h, ps, s, sr, (PostS.bind (R1 := RB) s sr p).mono (fun v H1 hh => ?_) fun _ _ _ e => e⟩
  obtain ⟨f1, h1, a, s1, sr1, q1, p1⟩ := hh
  cases q1
  by_cases hx : v = true
  · rw [if_pos hx] at p1 ⊢
    exact ⟨f1, h1, ps, s1.sim, sr1, p1⟩
  · rw [if_neg hx] at p1 ⊢
    exact ⟨f1, h1, ps, s1.sim, sr1, p1⟩
theorem tS_asg {D : Ends} {σ : L2.St} {H : Hp} (h : tS K W0 (sAsg m g) D σ H) : tAsg (tE K W0 m) (tTg K ts g) D σ H := by
  obtain ⟨f, h, ps, s, sr, p⟩ := h
  refine ⟨f, h, ps, s, sr, (PostS.bind (R1 := RW K) s sr p).mono (fun v H1 hh => ?_) fun _ _ _ e => e⟩
  obtain ⟨f1, h1, a, s1, sr1, q1, p1⟩ := hh
  cases e : g a ps with
  | none => simp only [e] at p1; exact p1.elim
  | some ps1 =>
    simp only [e] at p1
    exact ⟨f1, h1, ps, a, ps1, s1.sim, sr1, q1, e, fun σ' sr' _ => p1 f1 H1 σ' (.refl s1.sim) sr'⟩
/-- target = value, any target -/
theorem ss_asg (he : SE X W0 e m) (hg : SG X tg ts g) (hs : swapsWithSole [tg] e pos.line X.env = pure false := by rfl) (hw : swappedStores [tg] e X.env = pure none := by rfl)
    (h1 : (assignEach [tg] X.env).map (·.2) = [assign tg X.env] := by rfl) : SS X W0 (.Assign [tg] e pos) (sAsg m g) := ps_imp (ps_asg he hg hs hw h1) fun D σ H h => tS_asg h
/-- name = value -/
theorem ss_set (i : Nat) {x : Str} {pos' : Pos} (hN : X.N.Nodup) (he : SE X W0 e m) (hi : X.N[i]? = some x := by rfl) (hx : Loc X.env.scope x := by first | exact .inl rfl | exact .inr rfl) (hs : swapsWith e (some (.Name x pos')) pos.line X.env = pure false := by rfl) (hf : X.fn x = true ∨ X.env.scope.names.lookup x = some .local := by first | exact .inl rfl | exact .inr rfl | assumption) :
    SS X W0 (.Assign [.Name x pos'] e pos) (sAsg m (gN i)) := ps_imp (ps_set (i := i) hN hi hx he hs hf) fun D σ H h => by
  obtain ⟨f, h, ps, s, sr, p⟩ := h
  refine ⟨f, h, ps, s, sr, (PostS.bind (R1 := RW X.K) s sr p).mono (fun v H1 hh => ?_) fun _ _ _ e => e⟩
  obtain ⟨f1, h1, a, s1, sr1, q1, p1⟩ := hh
  exact p1 f1 H1 _ (.refl s1.sim) (sr1.set i q1)
end

/-! ### loops -/
/-- what is walked: the item at a turn (none: the end), by the heap as it stands; how many turns at most -/
structure PIt where
  get : Nat → PH → Option (Option W)
  fuel : Nat
def itS (items : List W) : PIt := ⟨fun i _ => some items[i]?, items.length + 1⟩
def itL (n fuel : Nat) : PIt := ⟨fun i h => match h[n]? with
  | some (.lst xs) => some xs[i]?
  | _ => none, fuel⟩
def itE (it : PIt) : PIt := ⟨fun i h => (it.get i h).map fun o => o.map fun w => .tup [.int (i : Nat), w], it.fuel⟩
/-- the kit's iterator is this one -/
abbrev RIt (K : PySem.W.Frag) : RR PIt It := fun _ f H it J => ∀ (f2 : List Addr) (h2 : PH) (H2 : Hp) (i : Nat), Step K f H f2 h2 H2 → match it.get i h2 with
  | none => True
  | some none => J.stop i H2
  | some (some w) => J.go i H2 ∧ ∀ x H', J.yld i H2 x H' → Step K f2 H2 f2 h2 H' ∧ Rep K f2 H' w x
theorem back_It {K : PySem.W.Frag} : Back K (RIt K) := fun _ _ _ _ _ _ _ _ _ _ _ _ q => q
abbrev IM := LS → PH → Res PIt
abbrev SI (X : Cx) (W0 : WX) (tg iter : Expr) (m : IM) : Prop := PI X tg iter (tG X.K (RIt X.K) W0 m)
theorem pi_imp {X : Cx} {tg e : Expr} {t t' : TI} (h : PI X tg e t) (i : ∀ σ H Q, t' σ H Q → t σ H Q) : PI X tg e t' := ⟨fun pins s σ H Q I q => h.run pins s σ H Q I (i σ H Q q)⟩
def forGo (it : PIt) (g : GM) (body : SM) : Nat → Nat → LS → PH → SRes
  | 0, _, _, _ => .stuck
  | k + 1, i, ps, h => match it.get i h with
    | none => .stuck
    | some none => .nx ps h
    | some (some w) => match g w ps with
      | none => .stuck
      | some ps1 => match body ps1 h with
        | .nx ps2 h2 => forGo it g body k (i + 1) ps2 h2
        | .ct ps2 h2 => forGo it g body k (i + 1) ps2 h2
        | .bk ps2 h2 => .nx ps2 h2
        | r => r
def sFor (m : IM) (g : GM) (body : SM) : SM := fun ps h => (m ps h).thenS ps fun it h1 => forGo it g body it.fuel 0 ps h1
section
variable {K : PySem.W.Frag} {X : Cx} {W0 : WX} {M N : SM} {e tg iter c : Expr} {m : IM} {t : BM} {g : GM} {ts : List Nat} {pos : Pos}
theorem tS_for {D : Ends} {σ : L2.St} {H : Hp} (h : tS K W0 (sFor m g M) D σ H) : tFor (tG K (RIt K) W0 m) (tTg K ts g) (tS K W0 M) D σ H := by
  obtain ⟨f, h, ps, s, sr, p⟩ := h
  refine ⟨f, h, ps, s, sr, (PostS.bind (R1 := RIt K) s sr p).mono (fun J H1 hh => ?_) fun _ _ _ e => e⟩
  obtain ⟨f1, h1, it, s1, sr1, q1, p1⟩ := hh
  refine ⟨fun i k σ' H' => ∃ f2 h2 ps2, Step K f1 H1 f2 h2 H' ∧ SRep K f2 H' ps2 σ' ∧ PostS K f2 H' (forGo it g M k i ps2 h2) D W0, ⟨it.fuel, f1, h1, ps, .refl s1.sim, sr1, p1⟩, ?_⟩
  rintro i k σ' H' ⟨f2, h2, ps2, s2, sr2, p2⟩
  cases k with
  | zero => exact p2.elim
  | succ k =>
    unfold forGo at p2
    have q := q1 f2 h2 H' i s2
    cases e : it.get i h2 with
    | none => rw [e] at p2; exact p2.elim
    | some o =>
      rw [e] at p2 q
      cases o with
      | none => exact .inl ⟨q, p2 f2 H' σ' (.refl s2.sim) sr2⟩
      | some w =>
        dsimp only at p2 q
        refine .inr ⟨q.1, fun σ3 H3 => ∃ f3 h3 ps3, Step K f1 H1 f3 h3 H3 ∧ SRep K f3 H3 ps3 σ3 ∧ PostS K f3 H3 (forGo it g M k (i + 1) ps3 h3) D W0, fun σ3 H3 hh => ⟨k, Nat.lt_succ_self k, hh⟩, fun x H3 y => ?_⟩
        obtain ⟨s3, r3⟩ := q.2 x H3 y
        cases eg : g w ps2 with
        | none => simp only [eg] at p2; exact p2.elim
        | some ps3 =>
          simp only [eg] at p2
          refine ⟨f2, h2, ps2, w, ps3, s3.sim, s3.srep s2.sim sr2, r3, eg, fun σ4 sr4 _ => ⟨f2, h2, ps3, s3.sim, sr4, ?_⟩⟩
          cases eb : M ps3 h2 with
          | nx ps5 h5 =>
            simp only [eb] at p2
            exact fun f5 H5 σ5 s5 sr5 => ⟨f5, h5, ps5, s2.trans (s3.trans s5), sr5, PostS.later (s3.trans s5) p2⟩
          | ct ps5 h5 =>
            simp only [eb] at p2
            exact fun f5 H5 σ5 s5 sr5 => ⟨f5, h5, ps5, s2.trans (s3.trans s5), sr5, PostS.later (s3.trans s5) p2⟩
          | bk ps5 h5 =>
            simp only [eb] at p2
            exact fun f5 H5 σ5 s5 sr5 => p2 f5 H5 σ5 (s3.trans s5) sr5
          | rt w5 h5 =>
            simp only [eb] at p2
            exact fun f5 H5 v5 s5 r5 => p2 f5 H5 v5 (s3.trans s5) r5
          | exc x5 ps5 h5 =>
            simp only [eb] at p2
            exact fun f5 H5 σ5 c5 d5 s5 r5 => p2 f5 H5 σ5 c5 d5 (s3.trans s5) r5
          | stuck =>
            simp only [eb] at p2
            exact p2.elim
theorem ss_for {body : List Stmt} (hp : PassesOwn (model X.prog X.w) X.A X.env X.xe) (hc : X.calm = true) (hi : SI X W0 tg iter m) (hg : SG X tg ts g) (hb : SSs X W0 body M)
    (hs : ∀ x, foldedSetIterable iter X.env x = pure x := by intro _; rfl) : SS X W0 (.For tg iter body [] pos) (sFor m g M) := ps_imp (ps_for hp hc hi hg hb hs) fun D σ H h => tS_for h
/-- while -/
def whGo (t : BM) (body : SM) : Nat → LS → PH → SRes
  | 0, _, _ => .stuck
  | k + 1, ps, h => (t ps h).thenS ps fun b h1 => if b = true then (match body ps h1 with
      | .nx ps2 h2 => whGo t body k ps2 h2
      | .ct ps2 h2 => whGo t body k ps2 h2
      | .bk ps2 h2 => .nx ps2 h2
      | r => r) else .nx ps h1
def sWhile (n : Nat) (t : BM) (body : SM) : SM := fun ps h => whGo t body n ps h
theorem tS_while {n : Nat} {D : Ends} {σ : L2.St} {H : Hp} (h : tS K W0 (sWhile n t M) D σ H) : tWhile (tT K W0 t) (tS K W0 M) D σ H := by
  obtain ⟨f, h, ps, s, sr, p⟩ := h
  refine ⟨fun k σ' H' => ∃ f2 h2 ps2, Step K f H f2 h2 H' ∧ SRep K f2 H' ps2 σ' ∧ PostS K f2 H' (whGo t M k ps2 h2) D W0, ⟨n, f, h, ps, .refl s, sr, p⟩, ?_⟩
  rintro k σ' H' ⟨f2, h2, ps2, s2, sr2, p2⟩
  cases k with
  | zero => exact p2.elim
  | succ k =>
    unfold whGo at p2
    refine ⟨f2, h2, ps2, s2.sim, sr2, (PostS.bind (R1 := RB) s2.sim sr2 p2).mono (fun b H3 hh => ?_) fun _ _ _ e => e⟩
    obtain ⟨f3, h3, a, s3, sr3, q3, p3⟩ := hh
    cases q3
    by_cases hx : b = true
    · rw [if_pos hx] at p3 ⊢
      refine ⟨fun σ3 H3 => ∃ f3 h3 ps3, Step K f H f3 h3 H3 ∧ SRep K f3 H3 ps3 σ3 ∧ PostS K f3 H3 (whGo t M k ps3 h3) D W0, fun σ3 H3 hh => ⟨k, Nat.lt_succ_self k, hh⟩, f3, h3, ps2, s3.sim, sr3, ?_⟩
      cases eb : M ps2 h3 with
      | nx ps5 h5 =>
        simp only [eb] at p3
        exact fun f5 H5 σ5 s5 sr5 => ⟨f5, h5, ps5, s2.trans (s3.trans s5), sr5, PostS.later s5 p3⟩
      | ct ps5 h5 =>
        simp only [eb] at p3
        exact fun f5 H5 σ5 s5 sr5 => ⟨f5, h5, ps5, s2.trans (s3.trans s5), sr5, PostS.later s5 p3⟩
      | bk ps5 h5 =>
        simp only [eb] at p3
        exact fun f5 H5 σ5 s5 sr5 => p3 f5 H5 σ5 s5 sr5
      | rt w5 h5 =>
        simp only [eb] at p3
        exact fun f5 H5 v5 s5 r5 => p3 f5 H5 v5 s5 r5
      | exc x5 ps5 h5 =>
        simp only [eb] at p3
        exact fun f5 H5 σ5 c5 d5 s5 r5 => p3 f5 H5 σ5 c5 d5 s5 r5
      | stuck =>
        simp only [eb] at p3
        exact p3.elim
    · rw [if_neg hx] at p3 ⊢
      exact p3 f3 H3 σ' (.refl s3.sim) sr3
theorem ss_while (n : Nat) {body : List Stmt} (hp : PassesOwn (model X.prog X.w) X.A X.env X.xe) (hc : ST X W0 c t) (hb : SSs X W0 body M) : SS X W0 (.While c body [] pos) (sWhile n t M) := ps_imp (ps_while hp hc hb) fun D σ H h => tS_while h
end
end Mir

/-! Mir: what loops walk. -/
namespace Mir
open PySem L2

/-! ### enumerate of a tuple -/
section
open PySem.Spec PyProof.Rows
theorem meets_enum1 {v : Value} {o : Obj} {G : Heap → Prop} (B : Begins v o G) :
    Meets (Builtin.«enumerate.__new__» ⟨[.type "enumerate", v], []⟩) (fun _ R s => G s.heap ∧
      R (.ok (.ret (.ref (s.heap.push o).objs.size))) { s with heap := (s.heap.push o).push { cls := .type "enumerate", data := .fields #[.none, .bool false, .ref s.heap.objs.size, rawInt 0, .none, .none] } }) :=
  .of_wp fun prog w A R s hh => by
    obtain ⟨hp, g, d, tk, os⟩ := s
    obtain ⟨hG, hR⟩ := hh
    have hsub := sub_enumerate
    have begin1 : ∀ {A' : Around} {E Q : Value → Shared → Prop}, Q (.ref hp.objs.size) ⟨hp.push o, g, d, tk, os⟩ → wpAny (model prog w) A' (pyIter v) Q E ⟨hp, g, d, tk, os⟩ :=
      fun q => B.iter prog w _ _ ⟨hp, g, d, tk, os⟩ _ hG q
    wp_walk using begin1
    refine wpAny_stack_any fun st => wpAny_pure ?_
    split
    · rename_i c _ _ _ _ _
      cases (c == Value.type "enumerate") <;> (wp_walk using begin1; exact ⟨_, rfl, hR⟩)
    · wp_walk using begin1
      exact ⟨_, rfl, hR⟩
theorem enum_made {prog : Program} {w : World} {A : Around} {E : Value → Shared → Prop} {s : Shared} {v : Value} {o : Obj} {G : Heap → Prop} {Q : Value → Shared → Prop} (B : Begins v o G) (hG : G s.heap)
    (hQ : ∀ h', IsEnum h' (s.heap.objs.size + 1) s.heap.objs.size 0 .none → h'.get? s.heap.objs.size = some o → (∀ b ob, s.heap.get? b = some ob → h'.get? b = some ob) → Q (.ref (s.heap.objs.size + 1)) { s with heap := h' }) :
    wpAny (model prog w) A (call (.type "enumerate") [v]) Q E s := by
  refine callType_new F.called_enumerate (by decide) (F.typeCall_enumerate_1 _) (F.newCall_enumerate_1 _) (fun obj => F.args_object_init_2 obj _) F.entry_enumerate_new (meets_enum1 B) ⟨hG, ?_⟩
  have z : (s.heap.push o).objs.size = s.heap.objs.size + 1 := Heap.size_push ..
  show _ ∧ _
  rw [z]
  have he : IsEnum ((s.heap.push o).push { cls := .type "enumerate", data := .fields #[.none, .bool false, .ref s.heap.objs.size, rawInt 0, .none, .none] }) (s.heap.objs.size + 1) s.heap.objs.size 0 .none := by
    have q := Heap.get?_push_size (s.heap.push o) (o := { cls := .type "enumerate", data := .fields #[.none, .bool false, .ref s.heap.objs.size, rawInt 0, .none, .none] }) rfl
    rw [z] at q
    exact q
  exact ⟨⟨_, he, rfl⟩, hQ _ he (Heap.get?_push_of_some _ (Heap.get?_push_size _ B.free)) fun b ob x => Heap.get?_push_of_some _ (Heap.get?_push_of_some _ x)⟩
end
def IteT (K : PySem.W.Frag) (a : Addr) : It :=
  ⟨fun i H => ∃ (xs : List V) (x : V), SqT K H a xs ∧ xs[i]? = some x, fun i H v H' => ∃ T x, v = .ref T ∧ H T = none ∧ H' = upd H T (.tup [.int (i : Nat), x]) ∧ ∀ xs, SqT K H a xs → xs[i]? = some x, fun i H => ∃ xs : List V, SqT K H a xs ∧ xs.length ≤ i⟩
section
open PySem.Spec PyProof.Rows
theorem enum_stops {prog : Program} {w : World} {A : Around} {E : Value → Shared → Prop} {s : Shared} {e it l : Addr} {i : Nat} {items : Array Value} {old : Value} {Q : Option Value → Shared → Prop} (hh : A.handled = none)
    (he : IsEnum s.heap e it i old) (hit : s.heap.IsTupleIter it l i) (hl : s.heap.IsTuple l items) (hx : items[i]? = none) (hQ : ∀ h', Heap.ExtBut it s.heap h' → Q none { s with heap := h' }) : wpAny (model prog w) A (pyNext (.ref e)) Q E s := by
  have ty : s.TypeIs (.ref e) "enumerate" := ⟨_, he, rfl⟩
  unfold pyNext
  refine wpAny_bind (wpAny_attempt ?_)
  refine wpAny_callSpecial?_slot (name := Str.ofString "__next__") ty F.slot_enumerate_next ?_
  refine wpAny_call_entry F.slot_enumerate_next ty F.entry_enumerate_next ?_ (F.args_enumerate_next_1 _)
  show wpAny _ _ (field (.ref e) 2 >>= _) _ _ _
  refine wpAny_bind (wpAny_field he rfl (x := .ref it) rfl (wpAny_bind (wpAny_nextOf_tuple_end hh hit hl hx fun h' x he' hx' => ?_)))
  obtain ⟨o, ho, hc⟩ := hx'
  exact wpAny_bind (wpAny_isInstance (T := "StopIteration") (b := true) ⟨o, ho, hc⟩ isSubtype_stop (wpAny_pure (hQ _ he')))
theorem turn_enumT {P : Program} {w : World} {K : PySem.W.Frag} {elts : List Expr} {kk : Nat} {tpos : Pos} (a e it : Addr) :
    Turn P w K (.Tuple elts kk tpos) (IteT K a) [e, it] e (fun i h => (∃ old, IsEnum h e it ((i : Nat) : Int) old) ∧ h.IsTupleIter it a i ∧ e ≠ it) := by
  have away : ∀ {h : Heap} {i : Nat} {old : Value} {its : Array Value}, IsEnum h e it (i : Int) old → h.IsTupleIter it a i → h.IsTuple a its → a ≠ it ∧ e ≠ a := by
    intro h i old its h1 h2 h3
    obtain ⟨o2, g2, c2, _⟩ := h2
    obtain ⟨o3, g3, c3, _⟩ := h3
    refine ⟨fun z => ?_, fun z => ?_⟩
    · rw [z, g2] at g3
      cases g3
      rw [c2] at c3
      simp at c3
    · rw [← z, h1] at g3
      cases g3
      simp at c3
  refine ⟨by simp, fun i h st b hb => ?_, fun i h h' st k => ?_, ?_, ?_, fun A i s Q E st q => ?_⟩
  · obtain ⟨⟨old, h1⟩, ⟨o, g, _, d⟩, _⟩ := st
    rcases List.mem_cons.mp hb with z | z
    · rw [z]
      exact ⟨_, h1, fun v q => nomatch q⟩
    · rw [List.mem_singleton.mp z]
      exact ⟨o, g, fun v q => by rw [d] at q; cases q⟩
  · obtain ⟨⟨old, h1⟩, h2, h3⟩ := st
    exact ⟨⟨old, k e (by simp) _ h1⟩, h2.at fun o q => k it (by simp) o q, h3⟩
  · intro X hP hw hK hc i pins s σ H E I hf st hg
    subst hP hw hK
    obtain ⟨⟨old, he⟩, hit, hne⟩ := st
    obtain ⟨xs, x, hq, hx⟩ := hg
    obtain ⟨its, rv, tp, hz⟩ := I.tuple hq
    obtain ⟨u, hu, ru⟩ := rv.get hx
    obtain ⟨na, nb⟩ := away he hit tp
    have D := Draws.tuple (prog := X.prog) (w := X.w) (A := X.A.in1) (I.ok.hd hc) it a na its.toArray
    have hi : i < its.toArray.size := by
      have := (List.getElem?_eq_some_iff.mp hu).1
      simpa using this
    have lt : ∀ b ∈ [e, it], b < s.heap.objs.size := fun b hb => by
      rcases List.mem_cons.mp hb with z | z
      · rw [z]
        exact Heap.lt_size he
      · rw [List.mem_singleton.mp z]
        obtain ⟨_, g, _⟩ := hit
        exact Heap.lt_size g
    refine wpAny_pyNext_enum_itemD D he ⟨hit, tp⟩ hi hne (by simp [hne, nb]) fun y h' tk hy ho st' hT hsz hk => ?_
    have ey : y = u := by
      have hy : its.toArray[i]? = some y := hy
      simp only [List.getElem?_toArray] at hy
      rw [hu] at hy
      exact (Option.some.inj hy).symm
    subst ey
    refine ⟨_, rfl, wpAny_letOwnedTupleGo_enum (s := { s with heap := h', toks := tk + 1 }) ho fun h2 he2 sb => ?_⟩
    have hT2 : h2.get? s.heap.objs.size = some { cls := .type "tuple", data := .seq #[.int i tk, y] } := (sb.2 _ (Nat.ne_of_gt (lt e (by simp)))).trans hT
    have new : ObjOk X.prog X.w (upd H s.heap.objs.size (.tup [.int (i : Nat), x])) h2 s.heap.objs.size (.tup [.int (i : Nat), x]) :=
      ⟨by show 2 ≤ sizeLine; decide, [.int i tk, y], .cons ⟨_, rfl⟩ (.cons ru .nil), ⟨_, hT2, rfl, _, rfl⟩⟩
    have I1 : Inv X pins σ (upd H s.heap.objs.size (.tup [.int (i : Nat), x])) { s with heap := h2, toks := tk + 1 } :=
      I.turnedNew (ch := [e, it]) (fun b ob hb q => (sb.2 b (fun z => hb (by simp [z]))).trans (hk b ob (fun z => hb (by simp [z])) (fun z => hb (by simp [z])) q)) hf (Nat.le_refl _) new
    refine ⟨.ref s.heap.objs.size, _, I1, rfl, ⟨_, x, rfl, I.hok.fresh (Nat.le_refl _), rfl, fun ys hy => by rw [I.tuple_inj hy hq]; exact hx⟩, ⟨⟨y, ?_⟩, st'.1.at fun o q => (sb.2 it (Ne.symm hne)).trans q, hne⟩, fun b hb => ?_⟩
    · have e1 : ((i + 1 : Nat) : Int) = (i : Int) + 1 := by omega
      rw [e1]
      exact he2
    · rw [upd_ne (Nat.ne_of_lt (lt b hb))]
      exact (hf b hb).1
  · intro X hP hw hK hc i pins s σ H E I hf st hg
    subst hP hw hK
    obtain ⟨⟨old, he⟩, hit, hne⟩ := st
    obtain ⟨xs, hq, hx⟩ := hg
    obtain ⟨its, rv, tp, hz⟩ := I.tuple hq
    obtain ⟨na, nb⟩ := away he hit tp
    obtain ⟨f0, f1, f2, f3, f4, f5⟩ := hf it (by simp)
    have hl := rv.length
    refine enum_stops (I.ok.hd hc) he hit tp (by simp; omega) fun h' eb => ⟨rfl, I.turned (t' := s.toks) (fun b o hb q => eb b o hb q) f0 f1 f3 f4 f5⟩
  · obtain ⟨⟨_, he⟩, _⟩ := st
    exact wpAny_pyIter_enum he q
end
end Mir

/-! Mir: what loops walk, by the own heap. -/
namespace Mir
open PySem L2

/-- a key as a value -/
def wKey : Key → W
  | .inl i => .int i
  | .inr x => .str x
def iterOf (fuel : Nat) (x : W) (h : PH) : Option PIt :=
  match x with
  | .tup xs => some (itS xs)
  | .fix xs => some (itS xs)
  | .str z => some (itS (z.cps.toList.map fun c => .str ⟨#[c]⟩))
  | .ref n => match h[n]? with
    | some (.lst _) => some (itL n fuel)
    | some (.lk kvs) => some (itS (kvs.map fun p => wKey p.1))
    | _ => none
  | _ => none
def mIter (fuel : Nat) (m : EM) : IM := fun ps h => (m ps h).bind fun x h1 => match iterOf fuel x h1 with
  | some it => .ok it h1
  | none => .stuck
def mIterS (l : LM) : IM := fun ps h => (l ps h).bind fun xs h1 => .ok (itS xs) h1
def iterE (fuel : Nat) (x : W) (h : PH) : Option PIt :=
  match x with
  | .tup xs => some (itE (itS xs))
  | .fix xs => some (itE (itS xs))
  | .ref n => match h[n]? with
    | some (.lst _) => some (itE (itL n fuel))
    | _ => none
  | _ => none
def mEnum (fuel : Nat) (m : EM) : IM := fun ps h => (m ps h).bind fun x h1 => match iterE fuel x h1 with
  | some it => .ok it h1
  | none => .stuck
def mEnumS (l : LM) : IM := fun ps h => (l ps h).bind fun xs h1 => .ok (itE (itS xs)) h1
def itZ (a b : PIt) : PIt := ⟨fun i h => match a.get i h, b.get i h with
  | some (some x), some (some y) => some (some (.tup [x, y]))
  | some none, some _ => some none
  | some (some _), some none => some none
  | _, _ => none, a.fuel⟩
def iterZ (fuel : Nat) (x y : W) (h : PH) : Option PIt :=
  match x, y with
  | .tup xs, .tup ys => some (itZ (itS xs) (itS ys))
  | .tup _, _ => none
  | _, .tup _ => none
  | .str _, _ => none
  | _, .str _ => none
  | x, y => match iterOf fuel x h, iterOf fuel y h with
    | some a, some b => some (itZ a b)
    | _, _ => none
def mZip (fuel : Nat) (m n : EM) : IM := fun ps h => (m ps h).bind fun x h1 => (n ps h1).bind fun y h2 => match iterZ fuel x y h2 with
  | some it => .ok it h2
  | none => .stuck
def rangeW (lo : Int) (n : Nat) : List W := (List.range n).map fun i => .int (lo + (i : Nat))
def mRange1 (m : EM) : IM := fun ps h => (m ps h).bind fun x h1 => match x with
  | .int j => if -(2 ^ 62) ≤ j ∧ j < 2 ^ 62 then .ok (itS (rangeW 0 j.toNat)) h1 else .stuck
  | _ => .stuck
def mRange2 (m n : EM) : IM := fun ps h => (m ps h).bind fun x h1 => (n ps h1).bind fun y h2 => match x, y with
  | .int i, .int j => if -(2 ^ 62) ≤ i ∧ i < 2 ^ 62 ∧ -(2 ^ 62) ≤ j ∧ j < 2 ^ 62 then .ok (itS (rangeW i (j - i).toNat)) h2 else .stuck
  | _, _ => .stuck

theorem PI.or {X : Cx} {tg e : Expr} {t t' : TI} (h : PI X tg e t) (h' : PI X tg e t') : PI X tg e (fun σ H R => t σ H R ∨ t' σ H R) := ⟨fun pins s σ H R I q => by
  rcases q with q | q
  · exact h.run pins s σ H R I q
  · exact h'.run pins s σ H R I q⟩
theorem PE.or {X : Cx} {e : Expr} {t t' : TE} (h : PE X e t) (h' : PE X e t') : PE X e (fun σ H R => t σ H R ∨ t' σ H R) := ⟨fun pins s σ H R I q => by
  rcases q with q | q
  · exact h.run pins s σ H R I q
  · exact h'.run pins s σ H R I q⟩

section
variable {K : PySem.W.Frag} {X : Cx} {W0 : WX} {e e2 tg iter c : Expr} {m m2 : EM} {l : LM} {pos p : Pos}
/-- later, what a tree is stands -/
theorem seqT_later {f f2 : List Addr} {h h2 : PH} {H H2 : Hp} (s : Sim K f h H) (s2 : Step K f H f2 h2 H2) {a : Addr} {vs : List V} (q : SqT K H a vs) : SqT K H2 a vs := (s.stay s2.grow).t a vs q
theorem it_tup {f : List Addr} {h : PH} {H H0 : Hp} {a : Addr} {vs : List V} {xs : List W} (s : Sim K f h H) (q : SqT K H a vs) (r : Reps K f H xs vs) : RIt K H0 f H (itS xs) (Itt K a) := by
  intro f2 h2 H2 i s2
  have q2 := seqT_later s s2 q
  have r2 := s2.reps s r
  show match (some xs[i]? : Option (Option W)) with
    | none => True
    | some none => (Itt K a).stop i H2
    | some (some w) => (Itt K a).go i H2 ∧ ∀ x H', (Itt K a).yld i H2 x H' → Step K f2 H2 f2 h2 H' ∧ Rep K f2 H' w x
  cases e : xs[i]? with
  | none => exact ⟨vs, q2, by rw [← r2.length]; exact List.getElem?_eq_none_iff.mp e⟩
  | some w =>
    obtain ⟨v, h3, h4⟩ := r2.get e
    refine ⟨⟨vs, v, q2, h3⟩, fun x H' y => ?_⟩
    obtain ⟨rfl, y2⟩ := y
    have e2 := y2 vs q2
    rw [h3] at e2
    cases e2
    exact ⟨.refl s2.sim, h4⟩
/-- a list that stays -/
theorem it_lst {f : List Addr} {h : PH} {H H0 : Hp} {a : Addr} {vs : List V} {xs : List W} (s : Sim K f h H) (q : ∀ f2 h2 H2, Step K f H f2 h2 H2 → SqL K H2 a vs) (r : Reps K f H xs vs) : RIt K H0 f H (itS xs) (Itl K a) := by
  intro f2 h2 H2 i s2
  have q2 := q f2 h2 H2 s2
  have r2 := s2.reps s r
  show match (some xs[i]? : Option (Option W)) with
    | none => True
    | some none => (Itl K a).stop i H2
    | some (some w) => (Itl K a).go i H2 ∧ ∀ x H', (Itl K a).yld i H2 x H' → Step K f2 H2 f2 h2 H' ∧ Rep K f2 H' w x
  cases e : xs[i]? with
  | none => exact ⟨vs, q2, by rw [← r2.length]; exact List.getElem?_eq_none_iff.mp e⟩
  | some w =>
    obtain ⟨v, h3, h4⟩ := r2.get e
    refine ⟨⟨vs, v, q2, h3⟩, fun x H' y => ?_⟩
    obtain ⟨rfl, y2⟩ := y
    have e2 := y2 vs q2
    rw [h3] at e2
    cases e2
    exact ⟨.refl s2.sim, h4⟩
theorem fix_later {f : List Addr} {h : PH} {H : Hp} {a : Addr} {vs : List V} (s : Sim K f h H) (q : FixL K H a vs) : ∀ f2 h2 H2, Step K f H f2 h2 H2 → SqL K H2 a vs := fun f2 h2 H2 s2 => ((s.stay s2.grow).l a vs q).seq
theorem own_later {f : List Addr} {H : Hp} {a : Addr} {vs : List V} (na : a ∉ f) (q : H a = some (.lst vs)) : ∀ f2 h2 H2, Step K f H f2 h2 H2 → SqL K H2 a vs := fun f2 h2 H2 s2 => SqL.of (s2.grow a _ q na)
/-- a list that may change -/
theorem it_live {f : List Addr} {H H0 : Hp} {a : Addr} {n fuel : Nat} (hf : f[n]? = some a) : RIt K H0 f H (itL n fuel) (Itl K a) := by
  intro f2 h2 H2 i s2
  have hf2 := s2.ext.get hf
  show match (match h2[n]? with
      | some (.lst xs) => some xs[i]?
      | _ => none : Option (Option W)) with
    | none => True
    | some none => (Itl K a).stop i H2
    | some (some w) => (Itl K a).go i H2 ∧ ∀ x H', (Itl K a).yld i H2 x H' → Step K f2 H2 f2 h2 H' ∧ Rep K f2 H' w x
  cases e1 : h2[n]? with
  | none => trivial
  | some o =>
    cases o with
    | lst xs =>
      obtain ⟨b, hb, vs, h1, r⟩ := s2.sim.obj n _ e1
      rw [hf2] at hb
      cases hb
      dsimp only
      cases e : xs[i]? with
      | none => exact ⟨vs, SqL.of h1, by rw [← r.length]; exact List.getElem?_eq_none_iff.mp e⟩
      | some w =>
        obtain ⟨v, h3, h4⟩ := r.get e
        refine ⟨⟨vs, v, SqL.of h1, h3⟩, fun x H' y => ?_⟩
        obtain ⟨rfl, y2⟩ := y
        have e2 := y2 vs (SqL.of h1)
        rw [h3] at e2
        cases e2
        exact ⟨.refl s2.sim, h4⟩
    | dK _ => trivial
    | ins _ _ => trivial
    | lk _ => trivial
theorem it_str {f : List Addr} {h : PH} {H H0 : Hp} {z : Str} (s : Sim K f h H) : RIt K H0 f H (itS (z.cps.toList.map fun c => .str ⟨#[c]⟩)) (Its z) := by
  intro f2 h2 H2 i s2
  show match (some (z.cps.toList.map fun c => W.str ⟨#[c]⟩)[i]? : Option (Option W)) with
    | none => True
    | some none => (Its z).stop i H2
    | some (some w) => (Its z).go i H2 ∧ ∀ x H', (Its z).yld i H2 x H' → Step K f2 H2 f2 h2 H' ∧ Rep K f2 H' w x
  rw [List.getElem?_map]
  cases e : z.cps.toList[i]? with
  | none =>
    have q := List.getElem?_eq_none_iff.mp e
    exact (by simpa using q : z.cps.size ≤ i)
  | some c =>
    have hi : i < z.cps.size := by
      have := (List.getElem?_eq_some_iff.mp e).1
      simpa using this
    refine ⟨hi, fun x H' y => ?_⟩
    obtain ⟨rfl, d, hd, rfl⟩ := y
    have e3 : z.cps[i]? = some c := by rw [← Array.getElem?_toList]; exact e
    rw [e3] at hd
    cases hd
    exact ⟨.refl s2.sim, rep_str.mpr rfl⟩
theorem rep_key {f : List Addr} {H : Hp} {k : Key} : Rep K f H (wKey k) (kV k) := by
  cases k <;> simp only [wKey, kV, Rep]
theorem KRep.getK {f : List Addr} {H : Hp} : ∀ {ws : List (Key × W)} {vs : List (Key × V)} {i : Nat} {k : Key} {w : W}, KRep K f H ws vs → ws[i]? = some (k, w) → ∃ v, vs[i]? = some (k, v) ∧ Rep K f H w v
  | [], vs, i, k, w, r, e => by simp at e
  | (k0, w0) :: t, vs, i, k, w, r, e => by
    obtain ⟨v, s, rfl, r1, r2⟩ := r
    cases i with
    | zero =>
      simp only [List.getElem?_cons_zero, Option.some.injEq, Prod.mk.injEq] at e
      obtain ⟨rfl, rfl⟩ := e
      exact ⟨v, rfl, r1⟩
    | succ i => exact KRep.getK (i := i) r2 (by simpa using e)
theorem it_keys {f : List Addr} {h : PH} {H H0 : Hp} {d : Addr} {o : Obj} {us : List (Key × V)} {kvs : List (Key × W)} (s : Sim K f h H) (hd : H d = some (.frz o (.dK us))) (r : KRep K f H kvs us) : RIt K H0 f H (itS (kvs.map fun p => wKey p.1)) (Itk d o us) := by
  intro f2 h2 H2 i s2
  have q2 := s2.lk _ _ _ hd
  show match (some (kvs.map fun p => wKey p.1)[i]? : Option (Option W)) with
    | none => True
    | some none => (Itk d o us).stop i H2
    | some (some w) => (Itk d o us).go i H2 ∧ ∀ x H', (Itk d o us).yld i H2 x H' → Step K f2 H2 f2 h2 H' ∧ Rep K f2 H' w x
  rw [List.getElem?_map]
  cases e : kvs[i]? with
  | none => exact ⟨q2, by rw [← r.length]; exact List.getElem?_eq_none_iff.mp e⟩
  | some w =>
    obtain ⟨k, w⟩ := w
    refine ⟨⟨q2, by rw [← r.length]; exact (List.getElem?_eq_some_iff.mp e).1⟩, fun x H' y => ?_⟩
    obtain ⟨rfl, k', v', e', rfl⟩ := y
    obtain ⟨v, ev, _⟩ := r.getK e
    rw [ev] at e'
    cases e'
    exact ⟨.refl s2.sim, rep_key⟩
/-- for x in e: a tuple, a list, a text, a dict that is locked -/
theorem si_iter (fuel : Nat) (ha : SE X W0 e m) : SI X W0 tg e (mIter fuel m) := pi_imp (PI.or (pi_tup ha) (PI.or (pi_list ha) (PI.or (pi_str ha) (pi_keys ha)))) fun σ H R h => by
  obtain ⟨f, h, ps, s, sr, p⟩ := h
  have p : Post X.K (RIt X.K) f H ((m ps h).bind _) R _ := p
  cases e1 : m ps h with
  | stuck => rw [e1] at p; exact p.elim
  | exc x h1 => rw [e1] at p; exact .inl ⟨f, h, ps, s, sr, by rw [e1]; exact p⟩
  | ok x h1 =>
    rw [e1] at p
    have p : Post X.K (RIt X.K) f H (match iterOf fuel x h1 with
      | some it => .ok it h1
      | none => .stuck) R _ := p
    cases x with
    | tup xs =>
      refine .inl ⟨f, h, ps, s, sr, ?_⟩
      rw [e1]
      intro f1 H1 v s1 q1
      obtain ⟨a, vs, rfl, h2, h3⟩ := rep_tup.mp q1
      exact ⟨a, rfl, ⟨vs, h2⟩, p f1 H1 _ s1 (it_tup s1.sim h2 h3)⟩
    | fix xs =>
      refine .inr (.inl ⟨f, h, ps, s, sr, ?_⟩)
      rw [e1]
      intro f1 H1 v s1 q1
      obtain ⟨a, vs, rfl, h2, h3⟩ := rep_fix.mp q1
      exact ⟨a, rfl, ⟨vs, h2.seq⟩, p f1 H1 _ s1 (it_lst s1.sim (fix_later s1.sim h2) h3)⟩
    | str z =>
      refine .inr (.inr (.inl ⟨f, h, ps, s, sr, ?_⟩))
      rw [e1]
      intro f1 H1 v s1 q1
      exact ⟨z, rep_str.mp q1, p f1 H1 _ s1 (it_str s1.sim)⟩
    | ref n =>
      have p : Post X.K (RIt X.K) f H (match (match h1[n]? with
        | some (.lst _) => some (itL n fuel)
        | some (.lk kvs) => some (itS (kvs.map fun p => wKey p.1))
        | _ => none : Option PIt) with
        | some it => .ok it h1
        | none => .stuck) R _ := p
      cases e2 : h1[n]? with
      | none => rw [e2] at p; exact p.elim
      | some o =>
        rw [e2] at p
        cases o with
        | lst xs =>
          refine .inr (.inl ⟨f, h, ps, s, sr, ?_⟩)
          rw [e1]
          intro f1 H1 v s1 q1
          obtain ⟨a, rfl, hf, vs, h2, h3⟩ := s1.sim.at e2 q1
          exact ⟨a, rfl, ⟨vs, SqL.of h2⟩, p f1 H1 _ s1 (it_live hf)⟩
        | dK _ => exact p.elim
        | ins _ _ => exact p.elim
        | lk kvs =>
          refine .inr (.inr (.inr ⟨f, h, ps, s, sr, ?_⟩))
          rw [e1]
          intro f1 H1 v s1 q1
          obtain ⟨a, rfl, hf, o, vs, h2, h3⟩ := s1.sim.at e2 q1
          exact ⟨a, o, rfl, .inl ⟨vs, h2, p f1 H1 _ s1 (it_keys s1.sim h2 h3)⟩⟩
    | non => exact p.elim
    | exc _ => exact p.elim
    | bl _ => exact p.elim
    | int _ => exact p.elim
theorem si_fresh (ha : SL X W0 e l) : SI X W0 tg e (mIterS l) := pi_imp (pi_list ha) fun σ H R h => by
  obtain ⟨f, h, ps, s, sr, p⟩ := h
  refine ⟨f, h, ps, s, sr, ?_⟩
  have p : Post X.K (RIt X.K) f H ((l ps h).bind _) R _ := p
  cases e1 : l ps h with
  | stuck => rw [e1] at p; exact p.elim
  | exc x h1 => rw [e1] at p; exact p
  | ok xs h1 =>
    rw [e1] at p
    intro f1 H1 v s1 q1
    obtain ⟨q, vs, rfl, hq, nq, eq, rq⟩ := q1
    exact ⟨q, rfl, ⟨vs, SqL.of eq⟩, p f1 H1 _ s1 (it_lst s1.sim (own_later nq eq) rq)⟩

/-! ### range -/
theorem it_rng {f : List Addr} {h : PH} {H H0 : Hp} {lo : Int} {n : Nat} (s : Sim K f h H) : RIt K H0 f H (itS (rangeW lo n)) (Itr lo n) := by
  intro f2 h2 H2 i s2
  show match (some (rangeW lo n)[i]? : Option (Option W)) with
    | none => True
    | some none => (Itr lo n).stop i H2
    | some (some w) => (Itr lo n).go i H2 ∧ ∀ x H', (Itr lo n).yld i H2 x H' → Step K f2 H2 f2 h2 H' ∧ Rep K f2 H' w x
  unfold rangeW
  rw [List.getElem?_map]
  by_cases hi : i < n
  · rw [List.getElem?_range hi]
    refine ⟨hi, fun x H' y => ?_⟩
    obtain ⟨rfl, rfl⟩ := y
    exact ⟨.refl s2.sim, rep_int.mpr rfl⟩
  · rw [List.getElem?_eq_none (by rw [List.length_range]; omega)]
    exact Nat.le_of_not_lt hi
theorem si_range1 (hm : X.mg "range" = none) (ha : SE X W0 e m) (hg : Gl X "range" := by rfl) (hs : starEach [e] X.env = [(false, eval e X.env)] := by rfl) : SI X W0 tg (.Call (.Name "range" p) [e] [] pos) (mRange1 m) :=
  pi_imp (pi_range1 hg hm (pa_cons ha pa_nil hs) hs) fun σ H R h => by
    obtain ⟨f, h, ps, s, sr, p⟩ := h
    refine ⟨f, h, ps, s, sr, (Post.bind (R1 := RW X.K) s back_It p).mono (fun v H1 hh => ?_) fun _ _ _ e => e⟩
    obtain ⟨f1, h1, x, s1, q1, p1⟩ := hh
    cases x with
    | int j =>
      dsimp only at p1
      split at p1
      · rename_i c
        exact ⟨j, by rw [rep_int.mp q1], c.1, c.2, p1 f1 H1 _ (.refl s1.sim) (it_rng s1.sim)⟩
      · exact p1.elim
    | _ => exact p1.elim
theorem si_range2 (hm : X.mg "range" = none) (ha : SE X W0 e m) (hb : SE X W0 e2 m2) (hg : Gl X "range" := by rfl) (hs : starEach [e, e2] X.env = [(false, eval e X.env), (false, eval e2 X.env)] := by rfl) (hs2 : starEach [e2] X.env = [(false, eval e2 X.env)] := by rfl) :
    SI X W0 tg (.Call (.Name "range" p) [e, e2] [] pos) (mRange2 m m2) :=
  pi_imp (pi_range2 hg hm (pa_cons ha (pa_cons hb pa_nil hs2) (by rw [hs, hs2])) hs hs2) fun σ H R h => by
    obtain ⟨f, h, ps, s, sr, p⟩ := h
    refine ⟨f, h, ps, s, sr, (Post.bind (R1 := RW X.K) s back_It p).mono (fun v H1 hh => ?_) fun _ _ _ e => e⟩
    obtain ⟨f1, h1, x, s1, q1, p1⟩ := hh
    refine ⟨f1, h1, ps, s1.sim, s1.srep s sr, (Post.bind (R1 := RW X.K) s1.sim back_It p1).mono (fun u H2 hh => ?_) fun _ _ _ e => e⟩
    obtain ⟨f2, h2, y, s2, q2, p2⟩ := hh
    cases x with
    | int i =>
      cases y with
      | int j =>
        dsimp only at p2
        split at p2
        · rename_i c
          have e1 := rep_int.mp (s2.rep s1.sim q1)
          exact ⟨i, j, by rw [e1, rep_int.mp q2], ⟨c.1, c.2.1, c.2.2.1, c.2.2.2⟩, p2 f2 H2 _ (.refl s2.sim) (it_rng s2.sim)⟩
        · exact p2.elim
      | _ => exact p2.elim
    | _ => cases y <;> exact p2.elim

/-! ### enumerate -/
theorem itE_of {f : List Addr} {h : PH} {H H0 : Hp} {it : PIt} {J J' : It} (r : RIt K H0 f H it J) (hstop : ∀ i H, J.stop i H → J'.stop i H) (hgo : ∀ i H, J.go i H → J'.go i H)
    (hy : ∀ i H v H', J'.yld i H v H' → ∃ T x, v = .ref T ∧ H T = none ∧ H' = upd H T (.tup [.int (i : Nat), x]) ∧ J.yld i H x H) : RIt K H0 f H (itE it) J' := by
  intro f2 h2 H2 i s2
  have q := r f2 h2 H2 i s2
  show match ((it.get i h2).map fun o => o.map fun w => W.tup [.int (i : Nat), w] : Option (Option W)) with
    | none => True
    | some none => J'.stop i H2
    | some (some w) => J'.go i H2 ∧ ∀ x H', J'.yld i H2 x H' → Step K f2 H2 f2 h2 H' ∧ Rep K f2 H' w x
  cases e : it.get i h2 with
  | none => trivial
  | some o =>
    rw [e] at q
    cases o with
    | none => exact hstop _ _ q
    | some w =>
      refine ⟨hgo _ _ q.1, fun v H' y => ?_⟩
      obtain ⟨T, x, rfl, hT, rfl, y2⟩ := hy i H2 v H' y
      obtain ⟨_, rx⟩ := q.2 x H2 y2
      have st := s2.sim.other (o := .tup [.int (i : Nat), x]) hT
      refine ⟨st, rep_tup.mpr ⟨T, _, rfl, SqT.of upd_same, ?_⟩⟩
      exact .cons (rep_int.mpr rfl) (.one (st.rep s2.sim rx))
theorem itE_l {f : List Addr} {h : PH} {H H0 : Hp} {it : PIt} {a : Addr} (r : RIt K H0 f H it (Itl K a)) : RIt K H0 f H (itE it) (Ite K a) :=
  itE_of (h := h) r (fun _ _ q => q) (fun _ _ q => q) fun i H v H' ⟨T, x, h1, h2, h3, h4⟩ => ⟨T, x, h1, h2, h3, rfl, h4⟩
theorem itE_t {f : List Addr} {h : PH} {H H0 : Hp} {it : PIt} {a : Addr} (r : RIt K H0 f H it (Itt K a)) : RIt K H0 f H (itE it) (IteT K a) :=
  itE_of (h := h) r (fun _ _ q => q) (fun _ _ q => q) fun i H v H' ⟨T, x, h1, h2, h3, h4⟩ => ⟨T, x, h1, h2, h3, rfl, h4⟩
def iEnumT (K : PySem.W.Frag) (ta : TA) : TI := fun σ H R => ta σ H fun vs H1 => ∃ a xs, vs = [.ref a] ∧ SqT K H1 a xs ∧ R (IteT K a) H1
theorem pi_enumT {ta : TA} {tpos : Pos} {elts : List Expr} {kk : Nat} (hg : Gl X "enumerate") (hm : X.mg "enumerate" = none) (ha : PA X [e] ta) (hs : starEach [e] X.env = [(false, eval e X.env)] := by rfl) :
    PI X (.Tuple elts kk tpos) (.Call (.Name "enumerate" p) [e] [] pos) (iEnumT X.K ta) := by
  refine ⟨fun pins s σ H R I h => ?_⟩
  refine PyProof.Rows.Call_ (ld_blt I hg hm PyProof.Rows.boot_enumerate (PyProof.Rows.callWith_type1 (thn (ha.run pos pins s σ H _ I h) fun us s1 ⟨vs, H1, I1, r1, q1⟩ => ?_) hs rfl))
  obtain ⟨a, xs, ex, hq, q⟩ := q1
  subst ex
  obtain ⟨u, rfl, ru⟩ := vals1 r1
  cases ru
  obtain ⟨its, rv, tp, hz⟩ := I1.tuple hq
  refine enum_made (begins_tuple a its.toArray) tp fun h' he hit hk => PySem.wpAny_pyIter_enum he ?_
  have I2 : Inv X pins σ H1 { s1 with heap := h' } := I1.kept (t' := s1.toks) hk
  refine ⟨s1.heap.objs.size + 1, [s1.heap.objs.size + 1, s1.heap.objs.size], _, _, H1, rfl, I2, turn_enumT a (s1.heap.objs.size + 1) s1.heap.objs.size, ⟨⟨.none, he⟩, ⟨_, hit, rfl, rfl⟩, Nat.succ_ne_self _⟩, fun b hb => ?_, q⟩
  have hle : s1.heap.objs.size ≤ b := by
    rcases List.mem_cons.mp hb with z | z
    · rw [z]; exact Nat.le_succ _
    · rw [List.mem_singleton.mp z]; exact Nat.le_refl _
  have old := I1.fpOk hle (I1.hok.fresh hle)
  exact old
theorem si_enum (fuel : Nat) {tpos : Pos} {elts : List Expr} {kk : Nat} (hm : X.mg "enumerate" = none) (ha : SE X W0 e m) (hg : Gl X "enumerate" := by rfl) (hs : starEach [e] X.env = [(false, eval e X.env)] := by rfl) :
    SI X W0 (.Tuple elts kk tpos) (.Call (.Name "enumerate" p) [e] [] pos) (mEnum fuel m) := pi_imp (PI.or (pi_enumT hg hm (pa_cons ha pa_nil hs) hs) (pi_enum hg hm (pa_cons ha pa_nil hs) hs)) fun σ H R h => by
  obtain ⟨f, h, ps, s, sr, p⟩ := h
  have p : Post X.K (RIt X.K) f H ((m ps h).bind _) R _ := p
  cases e1 : m ps h with
  | stuck => rw [e1] at p; exact p.elim
  | exc x h1 => rw [e1] at p; exact .inl ⟨f, h, ps, s, sr, by rw [e1]; exact p⟩
  | ok x h1 =>
    rw [e1] at p
    have p : Post X.K (RIt X.K) f H (match iterE fuel x h1 with
      | some it => .ok it h1
      | none => .stuck) R _ := p
    cases x with
    | tup xs =>
      refine .inl ⟨f, h, ps, s, sr, ?_⟩
      rw [e1]
      intro f1 H1 v s1 q1
      obtain ⟨a, vs, rfl, h2, h3⟩ := rep_tup.mp q1
      exact ⟨a, vs, rfl, h2, p f1 H1 _ s1 (itE_t (h := h1) (it_tup s1.sim h2 h3))⟩
    | fix xs =>
      refine .inr ⟨f, h, ps, s, sr, ?_⟩
      rw [e1]
      intro f1 H1 v s1 q1
      obtain ⟨a, vs, rfl, h2, h3⟩ := rep_fix.mp q1
      exact ⟨a, vs, rfl, h2.seq, p f1 H1 _ s1 (itE_l (h := h1) (it_lst s1.sim (fix_later s1.sim h2) h3))⟩
    | ref n =>
      refine .inr ⟨f, h, ps, s, sr, ?_⟩
      rw [e1]
      intro f1 H1 v s1 q1
      have p : Post X.K (RIt X.K) f H (match (match h1[n]? with
        | some (.lst _) => some (itE (itL n fuel))
        | _ => none : Option PIt) with
        | some it => .ok it h1
        | none => .stuck) R _ := p
      cases e2 : h1[n]? with
      | none => rw [e2] at p; exact p.elim
      | some o =>
        rw [e2] at p
        cases o with
        | lst xs =>
          obtain ⟨a, rfl, hf, vs, h2, h3⟩ := s1.sim.at e2 q1
          exact ⟨a, vs, rfl, SqL.of h2, p f1 H1 _ s1 (itE_l (h := h1) (it_live hf))⟩
        | dK _ => exact p.elim
        | ins _ _ => exact p.elim
        | lk _ => exact p.elim
    | non => exact p.elim
    | exc _ => exact p.elim
    | bl _ => exact p.elim
    | int _ => exact p.elim
    | str _ => exact p.elim
theorem si_enumS {tpos : Pos} {elts : List Expr} {kk : Nat} (hm : X.mg "enumerate" = none) (ha : SL X W0 e l) (hg : Gl X "enumerate" := by rfl) (hs : starEach [e] X.env = [(false, eval e X.env)] := by rfl) :
    SI X W0 (.Tuple elts kk tpos) (.Call (.Name "enumerate" p) [e] [] pos) (mEnumS l) := pi_imp (pi_enum hg hm (pa_cons ha pa_nil hs) hs) fun σ H R h => by
  obtain ⟨f, h, ps, s, sr, p⟩ := h
  refine ⟨f, h, ps, s, sr, ?_⟩
  have p : Post X.K (RIt X.K) f H ((l ps h).bind _) R _ := p
  cases e1 : l ps h with
  | stuck => rw [e1] at p; exact p.elim
  | exc x h1 => rw [e1] at p; exact p
  | ok xs h1 =>
    rw [e1] at p
    intro f1 H1 v s1 q1
    obtain ⟨q, vs, rfl, hq, nq, eq, rq⟩ := q1
    exact ⟨q, vs, rfl, SqL.of eq, p f1 H1 _ s1 (itE_l (h := h1) (it_lst s1.sim (own_later nq eq) rq))⟩
end
end Mir

/-! Mir: list comprehensions. -/
namespace Mir
open PySem L2

def wipeW (ps : LS) : List Nat → LS
  | [] => ps
  | v :: vs => (wipeW ps vs).set v none
theorem SRep.wipe {K : PySem.W.Frag} {f : List Addr} {H : Hp} {ps : LS} {σ : L2.St} (r : SRep K f H ps σ) : ∀ vs : List Nat, SRep K f H (wipeW ps vs) (L2.wipe σ vs)
  | [] => r
  | v :: vs => (SRep.wipe r vs).unset v
theorem wipe_get (σ : L2.St) (i : Nat) : ∀ vs : List Nat, (L2.wipe σ vs)[i]? = if i ∈ vs then (if i < σ.length then some none else none) else σ[i]?
  | [] => by simp [L2.wipe]
  | v :: vs => by
    unfold L2.wipe
    by_cases h : v = i
    · subst h
      by_cases hl : v < σ.length
      · rw [List.getElem?_set_self (by rw [wipe_length]; exact hl)]; simp [hl]
      · rw [List.getElem?_eq_none (by rw [List.length_set, wipe_length]; omega)]; simp [hl]
    · rw [List.getElem?_set_ne h, wipe_get σ i vs]
      have : (i ∈ v :: vs) = (i ∈ vs) := by simp [Ne.symm h]
      simp only [this]
theorem But.wipe {ts vs : List Nat} {σ σ' : L2.St} (b : But ts (L2.wipe σ vs) σ') (hs : ∀ i ∈ ts, i ∈ vs) : L2.wipe σ' vs = L2.wipe σ vs := by
  have hl : σ'.length = σ.length := by rw [b.1, wipe_length]
  refine List.ext_getElem? fun i => ?_
  rw [wipe_get, wipe_get, hl]
  by_cases h : i ∈ vs
  · rw [if_pos h, if_pos h]
  · rw [if_neg h, if_neg h, b.2 i fun z => h (hs i z), wipe_get, if_neg h]

/-- one's own list is written -/
theorem stay_lst {K : PySem.W.Frag} {H : Hp} {D : Addr} {vs us : List V} (e : H D = some (.lst vs)) : Stay K H (upd H D (.lst us)) := by
  have key : ∀ a u, H a = some u → (∀ xs, u ≠ .lst xs) → upd H D (.lst us) a = some u := fun a u e2 n => by
    rw [upd_ne (fun z => by subst z; rw [e] at e2; cases e2; exact n _ rfl)]
    exact e2
  refine ⟨fun a xs r => ?_, fun a xs r => ?_, fun a φ r => key _ _ r (fun _ z => by cases z), fun a gs r => key _ _ r (fun _ z => by cases z)⟩
  · rcases r with (r | ⟨o, r⟩) | r
    · exact .inl (.inl (key _ _ r (fun _ z => by cases z)))
    · exact .inl (.inr ⟨o, key _ _ r (fun _ z => by cases z)⟩)
    · exact .inr r
  · rcases r with ⟨o, r⟩ | r
    · exact .inl ⟨o, key _ _ r (fun _ z => by cases z)⟩
    · exact .inr r
theorem Sim.own_set {K : PySem.W.Frag} {f : List Addr} {h : PH} {H : Hp} (s : Sim K f h H) {D : Addr} {vs us : List V} (nd : D ∉ f) (e : H D = some (.lst vs)) : Sim K f h (upd H D (.lst us)) :=
  ⟨s.len, s.nd, fun n o q => by
    obtain ⟨a, h1, h2⟩ := s.obj n o q
    exact ⟨a, h1, h2.mono (.refl f) (stay_lst e) (upd_ne fun z => nd (z ▸ List.mem_of_getElem? h1))⟩⟩

def lcGo (it : PIt) (g : GM) (tt : BM) (te : EM) (psw : LS) : Nat → Nat → List W → PH → Res (List W)
  | 0, _, _, _ => .stuck
  | k + 1, i, acc, h => match it.get i h with
    | none => .stuck
    | some none => .ok acc h
    | some (some w) => match g w psw with
      | none => .stuck
      | some ps1 => match tt ps1 h with
        | .ok true h2 => (match te ps1 h2 with
          | .ok x h3 => if acc.length < 16777216 then lcGo it g tt te psw k (i + 1) (acc ++ [x]) h3 else .stuck
          | _ => .stuck)
        | .ok false h2 => lcGo it g tt te psw k (i + 1) acc h2
        | _ => .stuck
def mLc (mi : IM) (g : GM) (tt : BM) (te : EM) (vs : List Nat) : LM := fun ps h => (mi ps h).bind fun it h1 => lcGo it g tt te (wipeW ps vs) it.fuel 0 [] h1
abbrev Wno : WX := fun _ _ _ _ => False
theorem tL_lc {K : PySem.W.Frag} {W0 : WX} {mi : IM} {g : GM} {tt : BM} {te : EM} {vs ts : List Nat} (hts : ∀ i ∈ ts, i ∈ vs) {σ : L2.St} {H : Hp} {Q : VK} (h : tL K W0 (mLc mi g tt te vs) σ H Q) :
    tLc (tG K (RIt K) W0 mi) (tTg K ts g) (tT K Wno tt) (tE K Wno te) vs σ H Q := by
  obtain ⟨f, h, ps, s, sr, p⟩ := h
  refine ⟨f, h, ps, s, sr, (Post.bind (R1 := RIt K) s back_L p).mono (fun J H1 hh => ?_) fun _ _ _ e => e⟩
  obtain ⟨f1, h1, it, s1, q1, p1⟩ := hh
  intro D hD
  have base := s1.sim.other (o := .lst []) hD
  refine ⟨fun i k H2 => ∃ f2 h2 acc us, Step K f1 H1 f2 h2 H2 ∧ D ∉ f2 ∧ H2 D = some (.lst us) ∧ Reps K f2 H2 acc us ∧ Post K (RL K) f1 H1 (lcGo it g tt te (wipeW ps vs) k i acc h2) Q (fun c d H' => W0 c d σ H'),
    ⟨it.fuel, f1, h1, [], [], base, s1.sim.fresh hD, upd_same, .nil, p1⟩, ?_⟩
  rintro i k H2 ⟨f2, h2, acc, us, s2, nD, eD, rA, p2⟩
  cases k with
  | zero => exact p2.elim
  | succ k =>
    unfold lcGo at p2
    have q := q1 f2 h2 H2 i s2
    cases e : it.get i h2 with
    | none => rw [e] at p2; exact p2.elim
    | some o =>
      rw [e] at p2 q
      cases o with
      | none => exact .inl ⟨q, p2 f2 H2 _ s2 ⟨D, us, rfl, hD, nD, eD, rA⟩⟩
      | some w =>
        dsimp only at p2 q
        refine .inr ⟨q.1, fun H3 => ∃ f3 h3 acc us, Step K f1 H1 f3 h3 H3 ∧ D ∉ f3 ∧ H3 D = some (.lst us) ∧ Reps K f3 H3 acc us ∧ Post K (RL K) f1 H1 (lcGo it g tt te (wipeW ps vs) k (i + 1) acc h3) Q (fun c d H' => W0 c d σ H'),
          fun H3 hh => ⟨k, Nat.lt_succ_self k, hh⟩, fun x H3 y => ?_⟩
        obtain ⟨s3, r3⟩ := q.2 x H3 y
        have sr3 : SRep K f2 H3 (wipeW ps vs) (L2.wipe σ vs) := (s3.srep s2.sim (s2.srep s1.sim (s1.srep s sr))).wipe vs
        cases eg : g w (wipeW ps vs) with
        | none => simp only [eg] at p2; exact p2.elim
        | some ps1 =>
          simp only [eg] at p2
          refine ⟨f2, h2, wipeW ps vs, w, ps1, s3.sim, sr3, r3, eg, fun σ4 sr4 b4 => ⟨b4.wipe hts, f2, h2, ps1, s3.sim, sr4, ?_⟩⟩
          have eD3 : H3 D = some (.lst us) := s3.grow D _ eD nD
          cases et : tt ps1 h2 with
          | stuck => simp only [et] at p2; exact p2.elim
          | exc x h3 => simp only [et] at p2; exact p2.elim
          | ok b h3 =>
            intro f4 H4 b' s4 qb
            cases qb
            have nD4 : D ∉ f4 := fun z => by
              have := s4.new D z nD
              rw [eD3] at this
              cases this
            have eD4 : H4 D = some (.lst us) := s4.grow D _ eD3 nD
            cases b with
            | false =>
              simp only [et] at p2
              rw [if_neg (by decide)]
              exact ⟨f4, h3, acc, us, s2.trans (s3.trans s4), nD4, eD4, s4.reps s3.sim (s3.reps s2.sim rA), p2⟩
            | true =>
              simp only [et] at p2
              rw [if_pos rfl]
              refine ⟨f4, h3, ps1, s4.sim, s4.srep s3.sim sr4, ?_⟩
              cases ee : te ps1 h3 with
              | stuck => simp only [ee] at p2; exact p2.elim
              | exc x h5 => simp only [ee] at p2; exact p2.elim
              | ok x h5 =>
                simp only [ee] at p2
                split at p2
                · rename_i hl
                  intro f5 H5 v5 s5 r5
                  have nD5 : D ∉ f5 := fun z => by
                    have := s5.new D z nD4
                    rw [eD4] at this
                    cases this
                  have eD5 : H5 D = some (.lst us) := s5.grow D _ eD4 nD4
                  have rA5 := s5.reps s4.sim (s4.reps s3.sim (s3.reps s2.sim rA))
                  refine ⟨us, eD5, by rw [← rA.length, sizeLine_eq]; exact hl, f5, h5, acc ++ [x], us ++ [v5], ?_, nD5, upd_same, Reps.mono (.refl f5) (stay_lst eD5) _ _ (rA5.append (.one r5)), p2⟩
                  have tot := s2.trans (s3.trans (s4.trans s5))
                  exact ⟨tot.ext, tot.new, fun a o ea na => by
                    rw [upd_ne (fun z => by subst z; rw [hD] at ea; cases ea)]
                    exact tot.grow a o ea na, fun a o vs ea => by
                    have := tot.lk a o vs ea
                    rw [upd_ne (fun z => by subst z; rw [eD5] at this; cases this)]
                    exact this, s5.sim.own_set nD5 eD5⟩
                · exact p2.elim
theorem tE_new {K : PySem.W.Frag} {W0 : WX} {l1 : LM} {σ : L2.St} {H : Hp} {Q : VK} (h : tE K W0 (mNew l1) σ H Q) : tL K W0 l1 σ H Q := by
  obtain ⟨f, h, ps, s, sr, p⟩ := h
  refine ⟨f, h, ps, s, sr, ?_⟩
  have p : Post K (RW K) f H ((l1 ps h).bind fun xs h1 => .ok (.ref h1.length) (h1 ++ [.lst xs])) Q _ := p
  cases e : l1 ps h with
  | stuck => rw [e] at p; exact p
  | exc x h' => rw [e] at p; exact p
  | ok xs h1 =>
    rw [e] at p
    intro f1 H1 v s1 q1
    obtain ⟨q, vs, rfl, hq, nq, eq, rq⟩ := q1
    refine p (f1 ++ [q]) H1 (.ref q) ⟨s1.ext.trans (.snoc f1 q), fun x hx hn => ?_, s1.grow, s1.lk, s1.sim.take_in nq ⟨vs, eq, rq⟩⟩ ?_
    · rcases List.mem_append.mp hx with m | m
      · exact s1.new x m hn
      · rw [List.mem_singleton] at m
        rw [m]
        exact hq
    · simp only [Rep]
      refine ⟨q, rfl, ?_⟩
      rw [List.getElem?_append_right (by rw [s1.sim.len]; omega), s1.sim.len]
      simp
/-- the tests of a clause -/
def mYes : BM := fun _ h => .ok true h
section
variable {X : Cx} {W0 : WX} {tg iter elt e : Expr} {m : IM} {g : GM} {tt : BM} {te : EM} {ts : List Nat} {pos : Pos} {ifs : List Expr} {scope : Scope}
abbrev STs (X : Cx) (W0 : WX) (ifs : List Expr) (m : BM) : Prop := PTs X ifs (tT X.K W0 m)
theorem sts_nil : STs X W0 [] mYes := by
  refine ⟨fun pins s σ H Q I h => ?_⟩
  obtain ⟨f, h, ps, s1, sr, p⟩ := h
  exact (pts_nil (X := X)).run pins s σ H Q I (p f H true (.refl s1) rfl)
theorem sl_lc (own : List (Str × Nat)) (hc : X.calm = true) (hN : X.N.Nodup) (hi : SI X W0 tg iter m) (hok : blkC X.N X.env.scope scope own = true)
    (hg : ∀ (s : Shared) (H : Hp) (C : Addr) (cl : List (Str × Addr)) (fp : List Addr), SG (X.blk s H scope (compEnvC scope cl C X.env) fp) tg ts g)
    (ht : ∀ (s : Shared) (H : Hp) (C : Addr) (cl : List (Str × Addr)) (fp : List Addr), STs (X.blk s H scope (compEnvC scope cl C X.env) fp) Wno ifs tt)
    (he : ∀ (s : Shared) (H : Hp) (C : Addr) (cl : List (Str × Addr)) (fp : List Addr), SE (X.blk s H scope (compEnvC scope cl C X.env) fp) Wno elt te)
    (hts : ∀ i ∈ ts, i ∈ own.map (·.2) := by decide) (hs : ∀ x, foldedSetIterable iter X.env x = pure x := by intro _; rfl) :
    SL X W0 (.ListComp elt [⟨tg, iter, ifs, 0⟩] scope pos) (mLc m g tt te (own.map (·.2))) :=
  pe_imp (pe_lc hc hN hi (blkOk_by hok) hg ht he hs) fun σ H Q h => tL_lc hts h
/-- name = [..] on one line -/
theorem ss_setLc (i : Nat) {y : Str} {py spos : Pos} (own : List (Str × Nat)) (hc : X.calm = true) (hN : X.N.Nodup) (hi : SI X W0 tg iter m) (hok : blkC X.N X.env.scope scope own = true)
    (hg : ∀ (s : Shared) (H : Hp) (C : Addr) (cl : List (Str × Addr)) (fp : List Addr), SG (X.blk s H scope (compEnvC scope cl C X.env) fp) tg ts g)
    (ht : ∀ (s : Shared) (H : Hp) (C : Addr) (cl : List (Str × Addr)) (fp : List Addr), STs (X.blk s H scope (compEnvC scope cl C X.env) fp) Wno ifs tt)
    (he : ∀ (s : Shared) (H : Hp) (C : Addr) (cl : List (Str × Addr)) (fp : List Addr), SE (X.blk s H scope (compEnvC scope cl C X.env) fp) Wno elt te)
    (hy : X.N[i]? = some y := by rfl) (hyl : X.env.scope.names.lookup y = some .local := by rfl)
    (hsw : swapsWith (.ListComp elt [⟨tg, iter, ifs, 0⟩] scope pos) (some (.Name y py)) spos.line X.env = pure true := by exact sw_true rfl rfl rfl (by decide +kernel))
    (hts : ∀ i ∈ ts, i ∈ own.map (·.2) := by decide) (hs : ∀ x, foldedSetIterable iter X.env x = pure x := by intro _; rfl) :
    SS X W0 (.Assign [.Name y py] (.ListComp elt [⟨tg, iter, ifs, 0⟩] scope pos) spos) (sAsg (mNew (mLc m g tt te (own.map (·.2)))) (gN i)) :=
  ps_imp (ps_setLc hc hN hy hyl hsw hi (blkOk_by hok) hg ht he hs) fun D σ H h => by
    have h2 : tE X.K W0 (mNew (mLc m g tt te (own.map (·.2)))) σ H fun v H1 => gName i v σ H1 D.nx := by
      obtain ⟨f, h, ps, s, sr, p⟩ := h
      refine ⟨f, h, ps, s, sr, (PostS.bind (R1 := RW X.K) s sr p).mono (fun v H1 hh => ?_) fun _ _ _ e => e⟩
      obtain ⟨f1, h1, a, s1, sr1, q1, p1⟩ := hh
      exact p1 f1 H1 _ (.refl s1.sim) (sr1.set i q1)
    exact tL_lc hts (tE_new h2)
end
end Mir

/-! Mir: defs, calls, promises over a part of the heap. -/
namespace Mir
open PySem PySem.Spec PyProof.Rows L2

/-! ### a def's promise, where nothing is being told as text (no repr runs) -/
abbrev Gd (A : Around) : Prop := A.guards = some []
structure FnG (P : Program) (w : World) (K : PySem.W.Frag) (mg : Str → Option Value) (base : Heap) (k : Nat) (f : Addr) (fd : FuncData) (ps : List Str) (sp : Sp) : Prop where
  len : ∀ vs H Q E, sp vs H Q E → vs.length = ps.length
  run : ∀ (A : Around) (fs : List Env) (s : Shared) (H : Hp) (args : Args) (us : List Value) (vs : List V) (Q : VK) (E : XK), Room k A → Gd A → Env0 P w K mg base A fs s H → BindsTo s fd args (ps.zip us) → Vals vs us →
    sp vs H Q E → codeAny (model P w) A (.call (.ref f) args) (CR (L2.CX P w) fs P w H s Q E) s
theorem FnG.imp {P : Program} {w : World} {K : PySem.W.Frag} {mg : Str → Option Value} {base : Heap} {k : Nat} {f : Addr} {fd : FuncData} {ps : List Str} {sp sp2 : Sp} (F : FnG P w K mg base k f fd ps sp) (i : ∀ vs H Q E, sp2 vs H Q E → sp vs H Q E) :
    FnG P w K mg base k f fd ps sp2 := ⟨fun vs H Q E z => F.len _ _ _ _ (i _ _ _ _ z), fun A fs s H args us vs Q E r g e b v z => F.run A fs s H args us vs Q E r g e b v (i _ _ _ _ z)⟩
theorem FnG.mono {P : Program} {w : World} {K : PySem.W.Frag} {mg : Str → Option Value} {base : Heap} {j k : Nat} {f : Addr} {fd : FuncData} {ps : List Str} {sp : Sp} (F : FnG P w K mg base j f fd ps sp) (h : j ≤ k) : FnG P w K mg base k f fd ps sp :=
  ⟨F.len, fun A fs s H args us vs Q E r => F.run A fs s H args us vs Q E (r.mono h)⟩
section
variable {P : Program} {w : World} {K : PySem.W.Frag} {mg : Str → Option Value} {base : Heap}
theorem fng_of {x qual : Str} {st : Stmt} {f : Addr} {fd : FuncData} {N ps : List Str} {k : Nat} {sp : Sp} (F : Fun K x qual st f fd) (S : FnScope N ps (defScope st)) (len : ∀ vs H Q E, sp vs H Q E → vs.length = ps.length)
    (hbody : ∀ (cdv : Value) (A : Around) (fs : List Env) (s : Shared) (H : Hp) (vs : List V) (Q : VK) (E : XK), Room k (A.deeper (envOfC qual (defScope st) s.heap.objs.size f cdv)) → Gd (A.deeper (envOfC qual (defScope st) s.heap.objs.size f cdv)) → sp vs H Q E →
      ∃ t, PSs (cxOf (L2.CX P w) P w K mg base N qual (defScope st) f cdv A fs s H E) (defBody st) t ∧ t ⟨fun _ H' => Q .non H', Q, fun _ _ => False, fun _ _ => False⟩ (L2.start N vs) H) : FnG P w K mg base (k + 1) f fd ps sp := by
  obtain ⟨oc, od, kV, doc, pm, an, cdv, ct, osl, rfl, lk, hcd⟩ := F.ex
  refine ⟨len, fun A fs s H args us vs Q E room gd e0 bnd rv z => ?_⟩
  have kept : ∀ b o, base.get? b = some o → s.heap.get? b = some o := fun b o e => (e0.bs b o e).1
  have kin := e0.mod.kin.keeps kept
  have names : ∀ y ∈ ps.zip us, (defScope st).names.lookup y.1 = some .local ∨ ((defScope st).names.lookup y.1 = some .cell ∧ ((cellsFrom (s.heap.objs.size + 1) (defScope st).names []).lookup y.1).isSome = true) := by
    rintro ⟨n, v⟩ hy
    exact (S.par n (List.of_mem_zip hy).1).imp id fun q => ⟨q, PySem.W.cellsFrom_some _ _ _ (.inl q)⟩
  refine codeAny_call_function room.depth (kin _ _ lk) rfl S.co S.gen rfl (PySem.W.codeRec_of kin hcd) (bnd _ _ _ _ (wpAny_newFunctionEnv_cells S.kind names ?_))
  rintro env rfl s1 x
  refine ⟨(e0.mod.nolimit.keeps kept).keeps x.toInCall.keep, codeAny_func ?_⟩
  obtain ⟨t, ht, hq⟩ := hbody cdv A fs s H vs Q E (room.deeper _) gd z
  have I := inv_start (CX := L2.CX P w) (E := E) S room.hd e0 (len _ _ _ _ z) rv x
  refine wpAny_mono (ht.run [] s1 _ H _ I hq) (fun fl s2 hs => ?_) fun _ _ hs => hs
  cases fl with
  | ret u =>
    obtain ⟨v, σ2, H2, J, r2, q⟩ := hs
    exact ⟨v, H2, J.os, J.bare, J.base, J.hok, r2, q⟩
  | next =>
    obtain ⟨σ2, H2, J, q⟩ := hs
    exact ⟨.non, H2, J.os, J.bare, J.base, J.hok, rfl, q⟩
  | brk => exact False.elim (hs.elim fun _ z => z.elim fun _ z => z.2)
  | cont => exact False.elim (hs.elim fun _ z => z.elim fun _ z => z.2)
end
section
variable {X : Cx} {k : Nat} {f : Addr} {fd : FuncData} {ps : List Str} {sp : Sp} {W0 : WX} {x : Str} {p pos : Pos} {e : Expr} {es : List Expr} {t : TA}
theorem run_g {pins : List (Addr × Obj)} {σ : L2.St} {H : Hp} {s : Shared} {Q : VK} {E : XK} {us : List Value} {vs : List V} (F : FnG X.prog X.w X.K X.mg X.base k f fd ps sp) (hr : Room k X.A) (gd : Gd X.A) (hb : Binds X.K fd ps []) (hx : PassesAt (L2.CX X.prog X.w) X σ E)
    (I : Inv X pins σ H s) (r : Vals vs us) (z : sp vs H Q E) : wpAny (model X.prog X.w) X.A (call (.ref f) us) (EP X pins σ Q) X.xe s := by
  have bnd := hb s us I.kIn (by rw [List.append_nil, ← r.length]; exact F.len _ _ _ _ z)
  rw [List.append_nil] at bnd
  refine wpAny_call (codeAny_mono (F.run X.A X.stack s H ⟨us, []⟩ us vs Q E hr gd I.env0 bnd r z) ?_)
  rintro (er | fl) s2 q
  · exact hx pins H s er s2 I q
  · cases fl with
    | ret u => exact I.after q
    | _ => exact False.elim q
theorem pe_g (F : FnG X.prog X.w X.K X.mg X.base k f fd ps sp) (hr : Room k X.A) (gd : Gd X.A) (hg : Gl X x) (hm : X.mg x = some (.ref f)) (hk : PySem.W.keepIn X.K (.ref f) = true) (hb : Binds X.K fd ps []) (tk : Takes X W0)
    (ha : PA X (e :: es) t) (hdb : (x == ("__debug__" : Str)) = false) (he : starEach (e :: es) X.env = (false, eval e X.env) :: starEach es X.env) (hpl : (backTo pos (starEach es X.env)).any (·.1) = false) :
    PE X (.Call (.Name x p) (e :: es) [] pos) (tCallS sp (WE W0) t) := ⟨fun pins s σ H Q I h =>
  wpAny_Call_Name_kw (ld_glob I hg hm (PySem.W.callWith_K (h₀ := X.base) I.ok.mod.kin hk (thn (ha.run pos pins s σ H _ I h) fun us s1 hh => by
    obtain ⟨vs, H1, I1, r, q⟩ := hh
    exact ⟨I1.kIn, run_g F hr gd hb (L2.passAt tk σ) I1 r q⟩) he hpl) hdb)⟩
theorem pe_g0 (F : FnG X.prog X.w X.K X.mg X.base k f fd [] sp) (hr : Room k X.A) (gd : Gd X.A) (hg : Gl X x) (hm : X.mg x = some (.ref f)) (hk : PySem.W.keepIn X.K (.ref f) = true) (hb : Binds X.K fd [] []) (tk : Takes X W0)
    (hdb : (x == ("__debug__" : Str)) = false) : PE X (.Call (.Name x p) [] [] pos) (tCallS sp (WE W0) tNil) := ⟨fun pins s σ H Q I h =>
  wpAny_Call_Name_kw (ld_glob I hg hm (PySem.W.callWith_K0 I.kIn hk (run_g (us := []) F hr gd hb (L2.passAt tk σ) I .nil h)) hdb)⟩
end

abbrev FM := List W → PH → Res W
/-- a promise by a computation of the n arguments -/
def SPm (K : PySem.W.Frag) (n : Nat) (F : FM) : Sp := fun vs H Q E => vs.length = n ∧ ∃ f h ws, Sim K f h H ∧ Reps K f H ws vs ∧ Post K (RW K) f H (F ws h) Q E
def startW (n : Nat) (ws : List W) : LS := ws.map some ++ List.replicate (n - ws.length) none
/-- a def's body, n slots -/
def runB (n : Nat) (B : SM) : FM := fun ws h => match B (startW n ws) h with
  | .nx _ h' => .ok .non h'
  | .rt w h' => .ok w h'
  | .exc x _ h' => .exc x h'
  | _ => .stuck
theorem reps_get {K : PySem.W.Frag} {f : List Addr} {H : Hp} {ws : List W} {vs : List V} (r : Reps K f H ws vs) (N : List Str) : SRep K f H (startW N.length ws) (L2.start N vs) := by
  unfold startW L2.start
  rw [← r.length]
  refine ⟨by simp only [List.length_append, List.length_map, List.length_replicate, r.length], fun i w e => ?_⟩
  by_cases hi : i < ws.length
  · rw [List.getElem?_append_left (by simpa using hi), List.getElem?_map] at e
    obtain ⟨w', e1, e2⟩ := Option.map_eq_some_iff.mp e
    cases e2
    obtain ⟨v, h1, h2⟩ := r.get e1
    refine ⟨v, ?_, h2⟩
    rw [List.getElem?_append_left (by rw [List.length_map, ← r.length]; exact hi), List.getElem?_map, h1]
    rfl
  · rw [List.getElem?_append_right (by simpa using Nat.le_of_not_lt hi), List.getElem?_replicate] at e
    split at e <;> cases e
section
variable {P : Program} {w : World} {K : PySem.W.Frag} {mg : Str → Option Value} {base : Heap}
/-- THE RULE for a def -/
theorem ok_body {x qual : Str} {st : Stmt} {f : Addr} {fd : FuncData} {N ps : List Str} {k : Nat} {B : SM} (F : Fun K x qual st f fd) (S : FnScope N ps (defScope st))
    (h : ∀ (cdv : Value) (A : Around) (outer : List Env) (s : Shared) (H : Hp) (E : XK), Room k (A.deeper (envOfC qual (defScope st) s.heap.objs.size f cdv)) → Gd (A.deeper (envOfC qual (defScope st) s.heap.objs.size f cdv)) →
      SSs (cxOf (L2.CX P w) P w K mg base N qual (defScope st) f cdv A outer s H E) (fun c d _ H => E c d H) (defBody st) B) : FnG P w K mg base (k + 1) f fd ps (SPm K ps.length (runB N.length B)) := by
  refine fng_of F S (fun vs H Q E h => h.1) fun cdv A outer s H vs Q E hr gd hh => ⟨_, h cdv A outer s H E hr gd, ?_⟩
  obtain ⟨hl, f0, h0, ws, s0, r0, p0⟩ := hh
  refine ⟨f0, h0, startW N.length ws, s0, reps_get r0 N, ?_⟩
  unfold runB at p0
  cases e : B (startW N.length ws) h0 with
  | nx ps h' => rw [e] at p0; exact fun f' H' σ' s' _ => p0 f' H' _ s' (rep_non.mpr rfl)
  | rt w h' => rw [e] at p0; exact fun f' H' v s' r' => p0 f' H' v s' r'
  | exc x ps h' => rw [e] at p0; exact fun f' H' σ' c d s' _ x' => p0 f' H' c d s' x'
  | bk ps h' => rw [e] at p0; exact p0.elim
  | ct ps h' => rw [e] at p0; exact p0.elim
  | stuck => rw [e] at p0; exact p0.elim
end
/-- a call -/
def mFn (n : Nat) (F : FM) (l : LM) : EM := fun ps h => (l ps h).bind fun xs h1 => if xs.length = n then F xs h1 else .stuck
section
variable {X : Cx} {W0 : WX} {k : Nat} {f : Addr} {fd : FuncData} {ps : List Str} {F : FM} {x : Str} {p pos : Pos} {e : Expr} {es : List Expr} {l : LM} {n : Nat}
theorem se_call (FK : FnG X.prog X.w X.K X.mg X.base k f fd ps (SPm X.K n F)) (hb : Binds X.K fd ps []) (hk : PySem.W.keepIn X.K (.ref f) = true) (hr : Room k X.A) (gd : Gd X.A) (tk : Takes X W0) (hm : X.mg x = some (.ref f)) (ha : SA X W0 (e :: es) l) (hg : Gl X x := by rfl)
    (hdb : (x == ("__debug__" : Str)) = false := by decide) (he : starEach (e :: es) X.env = (false, eval e X.env) :: starEach es X.env := by rfl) (hpl : (backTo pos (starEach es X.env)).any (·.1) = false := by rfl) :
    SE X W0 (.Call (.Name x p) (e :: es) [] pos) (mFn n F l) :=
  pe_imp (pe_g FK hr gd hg hm hk hb tk ha hdb he hpl) fun σ H Q h => by
    obtain ⟨f, h, ps, s, sr, p⟩ := h
    refine ⟨f, h, ps, s, sr, (Post.bind (R1 := RA X.K) s back_W p).mono (fun v H1 hh => ?_) fun _ _ _ e => e⟩
    obtain ⟨f1, h1, a, s1, q1, p1⟩ := hh
    split at p1
    · rename_i hl
      exact ⟨by rw [← q1.length]; exact hl, f1, h1, a, s1.sim, q1, p1⟩
    · exact p1.elim
def mFn0 (F : FM) : EM := fun _ h => F [] h
theorem se_call0 (FK : FnG X.prog X.w X.K X.mg X.base k f fd [] (SPm X.K 0 F)) (hb : Binds X.K fd [] []) (hk : PySem.W.keepIn X.K (.ref f) = true) (hr : Room k X.A) (gd : Gd X.A) (tk : Takes X W0) (hm : X.mg x = some (.ref f)) (hg : Gl X x := by rfl)
    (hdb : (x == ("__debug__" : Str)) = false := by decide) : SE X W0 (.Call (.Name x p) [] [] pos) (mFn0 F) :=
  pe_imp (pe_g0 FK hr gd hg hm hk hb tk hdb) fun σ H Q h => by
    obtain ⟨f, h, ps, s, sr, p⟩ := h
    exact ⟨rfl, f, h, [], s, .nil, p⟩
end

/-! ### a part of the heap -/
mutual
def Emb (M : Nat → Nat → Prop) : W → W → Prop
  | .non, w => w = .non
  | .bl b, w => w = .bl b
  | .int i, w => w = .int i
  | .str x, w => w = .str x
  | .tup xs, w => ∃ ys, w = .tup ys ∧ Embs M xs ys
  | .fix xs, w => ∃ ys, w = .fix ys ∧ Embs M xs ys
  | .exc x, w => w = .exc x
  | .ref i, w => ∃ n, w = .ref n ∧ M i n
def Embs (M : Nat → Nat → Prop) : List W → List W → Prop
  | [], ws => ws = []
  | x :: xs, ws => ∃ y ys, ws = y :: ys ∧ Emb M x y ∧ Embs M xs ys
end
mutual
theorem Rep.fwd {K : PySem.W.Frag} {f g : List Addr} {H : Hp} {M : Nat → Nat → Prop} (hM : ∀ i n a, M i n → f[i]? = some a → g[n]? = some a) : ∀ (x y : W) (v : V), Emb M x y → Rep K f H x v → Rep K g H y v
  | .non, y, v, e, r => by simp only [Emb] at e; subst e; simpa only [Rep] using r
  | .bl b, y, v, e, r => by simp only [Emb] at e; subst e; simpa only [Rep] using r
  | .int i, y, v, e, r => by simp only [Emb] at e; subst e; simpa only [Rep] using r
  | .str z, y, v, e, r => by simp only [Emb] at e; subst e; simpa only [Rep] using r
  | .exc z, y, v, e, r => by simp only [Emb] at e; subst e; simpa only [Rep] using r
  | .tup xs, y, v, e, r => by
    simp only [Emb] at e
    obtain ⟨ys, rfl, e⟩ := e
    simp only [Rep] at r ⊢
    obtain ⟨a, vs, h1, h2, h3⟩ := r
    exact ⟨a, vs, h1, h2, Reps.fwd hM xs ys vs e h3⟩
  | .fix xs, y, v, e, r => by
    simp only [Emb] at e
    obtain ⟨ys, rfl, e⟩ := e
    simp only [Rep] at r ⊢
    obtain ⟨a, vs, h1, h2, h3⟩ := r
    exact ⟨a, vs, h1, h2, Reps.fwd hM xs ys vs e h3⟩
  | .ref i, y, v, e, r => by
    simp only [Emb] at e
    obtain ⟨n, rfl, e⟩ := e
    simp only [Rep] at r ⊢
    obtain ⟨a, h1, h2⟩ := r
    exact ⟨a, h1, hM i n a e h2⟩
theorem Reps.fwd {K : PySem.W.Frag} {f g : List Addr} {H : Hp} {M : Nat → Nat → Prop} (hM : ∀ i n a, M i n → f[i]? = some a → g[n]? = some a) : ∀ (xs ys : List W) (vs : List V), Embs M xs ys → Reps K f H xs vs → Reps K g H ys vs
  | [], ys, vs, e, r => by simp only [Embs] at e; subst e; simpa only [Reps] using r
  | x :: xs, ys, vs, e, r => by
    simp only [Embs] at e
    obtain ⟨y, zs, rfl, e1, e2⟩ := e
    obtain ⟨v, us, rfl, r1, r2⟩ := r.cons_inv
    exact .cons (Rep.fwd hM x y v e1 r1) (Reps.fwd hM xs zs us e2 r2)
end
mutual
theorem Rep.bwd {K : PySem.W.Frag} {f g : List Addr} {H : Hp} {M : Nat → Nat → Prop} (hM : ∀ i n a, M i n → g[n]? = some a → f[i]? = some a) : ∀ (x y : W) (v : V), Emb M x y → Rep K g H y v → Rep K f H x v
  | .non, y, v, e, r => by simp only [Emb] at e; subst e; simpa only [Rep] using r
  | .bl b, y, v, e, r => by simp only [Emb] at e; subst e; simpa only [Rep] using r
  | .int i, y, v, e, r => by simp only [Emb] at e; subst e; simpa only [Rep] using r
  | .str z, y, v, e, r => by simp only [Emb] at e; subst e; simpa only [Rep] using r
  | .exc z, y, v, e, r => by simp only [Emb] at e; subst e; simpa only [Rep] using r
  | .tup xs, y, v, e, r => by
    simp only [Emb] at e
    obtain ⟨ys, rfl, e⟩ := e
    simp only [Rep] at r ⊢
    obtain ⟨a, vs, h1, h2, h3⟩ := r
    exact ⟨a, vs, h1, h2, Reps.bwd hM xs ys vs e h3⟩
  | .fix xs, y, v, e, r => by
    simp only [Emb] at e
    obtain ⟨ys, rfl, e⟩ := e
    simp only [Rep] at r ⊢
    obtain ⟨a, vs, h1, h2, h3⟩ := r
    exact ⟨a, vs, h1, h2, Reps.bwd hM xs ys vs e h3⟩
  | .ref i, y, v, e, r => by
    simp only [Emb] at e
    obtain ⟨n, rfl, e⟩ := e
    simp only [Rep] at r ⊢
    obtain ⟨a, h1, h2⟩ := r
    exact ⟨a, h1, hM i n a e h2⟩
theorem Reps.bwd {K : PySem.W.Frag} {f g : List Addr} {H : Hp} {M : Nat → Nat → Prop} (hM : ∀ i n a, M i n → g[n]? = some a → f[i]? = some a) : ∀ (xs ys : List W) (vs : List V), Embs M xs ys → Reps K g H ys vs → Reps K f H xs vs
  | [], ys, vs, e, r => by simp only [Embs] at e; subst e; simpa only [Reps] using r
  | x :: xs, ys, vs, e, r => by
    simp only [Embs] at e
    obtain ⟨y, zs, rfl, e1, e2⟩ := e
    obtain ⟨v, us, rfl, r1, r2⟩ := r.cons_inv
    exact .cons (Rep.bwd hM x y v e1 r1) (Reps.bwd hM xs zs us e2 r2)
end
def KEmb {κ : Type} (M : Nat → Nat → Prop) : List (κ × W) → List (κ × W) → Prop
  | [], ks => ks = []
  | (k, x) :: r, ks => ∃ y s, ks = (k, y) :: s ∧ Emb M x y ∧ KEmb M r s
theorem KRep.fwd {κ : Type} {K : PySem.W.Frag} {f g : List Addr} {H : Hp} {M : Nat → Nat → Prop} (hM : ∀ i n a, M i n → f[i]? = some a → g[n]? = some a) : ∀ (x y : List (κ × W)) (v : List (κ × V)), KEmb M x y → KRep K f H x v → KRep K g H y v
  | [], y, v, e, r => by
    have e : y = [] := e
    subst e
    exact r
  | (k, x) :: t, y, v, e, r => by
    obtain ⟨z, s, rfl, e1, e2⟩ := e
    obtain ⟨u, q, rfl, r1, r2⟩ := r
    exact ⟨u, q, rfl, Rep.fwd hM _ _ _ e1 r1, KRep.fwd hM t s q e2 r2⟩
theorem KRep.bwd {κ : Type} {K : PySem.W.Frag} {f g : List Addr} {H : Hp} {M : Nat → Nat → Prop} (hM : ∀ i n a, M i n → g[n]? = some a → f[i]? = some a) : ∀ (x y : List (κ × W)) (v : List (κ × V)), KEmb M x y → KRep K g H y v → KRep K f H x v
  | [], y, v, e, r => by
    have e : y = [] := e
    subst e
    exact r
  | (k, x) :: t, y, v, e, r => by
    obtain ⟨z, s, rfl, e1, e2⟩ := e
    obtain ⟨u, q, rfl, r1, r2⟩ := r
    exact ⟨u, q, rfl, Rep.bwd hM _ _ _ e1 r1, KRep.bwd hM t s q e2 r2⟩
def EmbO (M : Nat → Nat → Prop) : OB → OB → Prop
  | .lst xs, o => ∃ ys, o = .lst ys ∧ Embs M xs ys
  | .dK xs, o => ∃ ys, o = .dK ys ∧ KEmb M xs ys
  | .ins C xs, o => ∃ ys, o = .ins C ys ∧ KEmb M xs ys
  | .lk xs, o => ∃ ys, o = .lk ys ∧ KEmb M xs ys
theorem ObjR.fwd {K : PySem.W.Frag} {f g : List Addr} {H : Hp} {M : Nat → Nat → Prop} (hM : ∀ i n a, M i n → f[i]? = some a → g[n]? = some a) {o u : OB} {a : Addr} (e : EmbO M o u) (r : ObjR K f H o a) : ObjR K g H u a := by
  cases o with
  | lst xs =>
    obtain ⟨ys, rfl, e⟩ := e
    obtain ⟨vs, h1, h2⟩ := r
    exact ⟨vs, h1, Reps.fwd hM _ _ _ e h2⟩
  | dK xs =>
    obtain ⟨ys, rfl, e⟩ := e
    obtain ⟨vs, h1, h2⟩ := r
    exact ⟨vs, h1, KRep.fwd hM _ _ _ e h2⟩
  | ins C xs =>
    obtain ⟨ys, rfl, e⟩ := e
    obtain ⟨C, dx, vs, h0, h1, h2⟩ := r
    exact ⟨C, dx, vs, h0, h1, KRep.fwd hM _ _ _ e h2⟩
  | lk xs =>
    obtain ⟨ys, rfl, e⟩ := e
    obtain ⟨o, vs, h1, h2⟩ := r
    exact ⟨o, vs, h1, KRep.fwd hM _ _ _ e h2⟩
theorem ObjR.bwd {K : PySem.W.Frag} {f g : List Addr} {H : Hp} {M : Nat → Nat → Prop} (hM : ∀ i n a, M i n → g[n]? = some a → f[i]? = some a) {o u : OB} {a : Addr} (e : EmbO M o u) (r : ObjR K g H u a) : ObjR K f H o a := by
  cases o with
  | lst xs =>
    obtain ⟨ys, rfl, e⟩ := e
    obtain ⟨vs, h1, h2⟩ := r
    exact ⟨vs, h1, Reps.bwd hM _ _ _ e h2⟩
  | dK xs =>
    obtain ⟨ys, rfl, e⟩ := e
    obtain ⟨vs, h1, h2⟩ := r
    exact ⟨vs, h1, KRep.bwd hM _ _ _ e h2⟩
  | ins C xs =>
    obtain ⟨ys, rfl, e⟩ := e
    obtain ⟨C, dx, vs, h0, h1, h2⟩ := r
    exact ⟨C, dx, vs, h0, h1, KRep.bwd hM _ _ _ e h2⟩
  | lk xs =>
    obtain ⟨ys, rfl, e⟩ := e
    obtain ⟨o, vs, h1, h2⟩ := r
    exact ⟨o, vs, h1, KRep.bwd hM _ _ _ e h2⟩
/-- where the numbers of the part come to stand: ρ by the caller's numbers, κ those of the new ones that are kept -/
def Mp (ρ κ : List Nat) (n : Nat) : Nat → Nat → Prop := fun i m => ρ[i]? = some m ∨ ∃ j : Nat, κ[j]? = some i ∧ m = n + j
/-- h2, by the part, is hS, by the whole -/
structure Back2 (ρ κ : List Nat) (h h2 hS : PH) : Prop where
  nd : κ.Nodup
  new : ∀ i ∈ κ, ρ.length ≤ i ∧ i < h2.length
  len : hS.length = h.length + κ.length
  old : ∀ n, n < h.length → n ∉ ρ → hS[n]? = h[n]?
  at1 : ∀ (i n : Nat), ρ[i]? = some n → ∃ o u, h2[i]? = some o ∧ hS[n]? = some u ∧ EmbO (Mp ρ κ h.length) o u
  at2 : ∀ (j i : Nat), κ[j]? = some i → ∃ o u, h2[i]? = some o ∧ hS[h.length + j]? = some u ∧ EmbO (Mp ρ κ h.length) o u
def OutF (ρ : List Nat) (h : PH) : Res W → Res W → Prop
  | .ok w2 h2, .ok w hS => ∃ κ, Back2 ρ κ h h2 hS ∧ Emb (Mp ρ κ h.length) w2 w
  | .exc x2 h2, .exc x hS => ∃ κ, Back2 ρ κ h h2 hS ∧ x2 = x
  | _, .stuck => True
  | _, _ => False
/-- F over the part of h by ρ does what S does over h -/
structure PartF (F S : FM) (ws : List W) (h : PH) (ρ : List Nat) (ws' : List W) (h' : PH) : Prop where
  nd : ρ.Nodup
  lt : ∀ n ∈ ρ, n < h.length
  len : h'.length = ρ.length
  obj : ∀ (i n : Nat), ρ[i]? = some n → ∃ o u, h'[i]? = some o ∧ h[n]? = some u ∧ EmbO (fun (i n : Nat) => ρ[i]? = some n) o u
  args : Embs (fun (i n : Nat) => ρ[i]? = some n) ws' ws
  out : OutF ρ h (F ws' h') (S ws h)
def Fits (F S : FM) : Prop := ∀ ws h, S ws h = .stuck ∨ ∃ ρ ws' h', PartF F S ws h ρ ws' h'
section
variable {K : PySem.W.Frag} {f : List Addr} {h : PH} {H : Hp} {ρ κ : List Nat} {h' : PH}
theorem nd_inj {α : Type} {l : List α} (h : l.Nodup) {i j : Nat} {a : α} (e : l[i]? = some a) (e2 : l[j]? = some a) : i = j := by
  have key : ∀ i j : Nat, i < j → l[i]? = some a → l[j]? = some a → False := fun i j hij e e2 => by
    obtain ⟨h1, q1⟩ := List.getElem?_eq_some_iff.mp e
    obtain ⟨h2, q2⟩ := List.getElem?_eq_some_iff.mp e2
    exact (List.pairwise_iff_getElem.mp h) i j h1 h2 hij (q1.trans q2.symm)
  rcases Nat.lt_trichotomy i j with z | z | z
  · exact (key i j z e e2).elim
  · exact z
  · exact (key j i z e2 e).elim
def pick (f : List Addr) (ρ : List Nat) : List Addr := ρ.map fun n => f.getD n 0
theorem pick_get (hlt : ∀ n ∈ ρ, n < f.length) {i n : Nat} (e : ρ[i]? = some n) : (pick f ρ)[i]? = f[n]? ∧ f[n]? = some (f.getD n 0) := by
  have hn := hlt n (List.mem_of_getElem? e)
  unfold pick
  rw [List.getElem?_map, e, List.getElem?_eq_getElem hn]
  simp [List.getD, List.getElem?_eq_getElem hn]
theorem pick_nd (fn : f.Nodup) (hlt : ∀ n ∈ ρ, n < f.length) (nd : ρ.Nodup) : (pick f ρ).Nodup := by
  refine List.pairwise_iff_getElem.mpr fun i j hi hj hij e => ?_
  have li : i < ρ.length := by unfold pick at hi; simpa using hi
  have lj : j < ρ.length := by unfold pick at hj; simpa using hj
  obtain ⟨p1, p2⟩ := pick_get hlt (List.getElem?_eq_getElem li)
  obtain ⟨p3, p4⟩ := pick_get hlt (List.getElem?_eq_getElem lj)
  have e1 := p1.symm.trans (List.getElem?_eq_getElem hi)
  have e2 := p3.symm.trans (List.getElem?_eq_getElem hj)
  rw [e] at e1
  have := nd_inj fn e1 e2
  exact (List.pairwise_iff_getElem.mp nd) i j li lj hij this
theorem part_sim (s : Sim K f h H) (nd : ρ.Nodup) (lt : ∀ n ∈ ρ, n < h.length) (len : h'.length = ρ.length) (obj : ∀ (i n : Nat), ρ[i]? = some n → ∃ o u, h'[i]? = some o ∧ h[n]? = some u ∧ EmbO (fun (i n : Nat) => ρ[i]? = some n) o u) : Sim K (pick f ρ) h' H := by
  have hlt : ∀ n ∈ ρ, n < f.length := fun n hn => by rw [s.len]; exact lt n hn
  refine ⟨by unfold pick; rw [List.length_map, len], pick_nd s.nd hlt nd, fun i o e => ?_⟩
  have hi : i < ρ.length := by rw [← len]; exact (List.getElem?_eq_some_iff.mp e).1
  obtain ⟨o', u, e1, e2, e3⟩ := obj i ρ[i] (List.getElem?_eq_getElem hi)
  rw [e] at e1
  cases e1
  obtain ⟨a, ha, r⟩ := s.obj _ _ e2
  obtain ⟨p1, p2⟩ := pick_get hlt (List.getElem?_eq_getElem hi)
  refine ⟨a, by rw [p1, ha], ObjR.bwd (fun j n b ej eb => ?_) e3 r⟩
  rw [(pick_get hlt ej).1, eb]
theorem part_back (s : Sim K f h H) (nd : ρ.Nodup) (lt : ∀ n ∈ ρ, n < h.length) (s' : Sim K (pick f ρ) h' H) {f2 : List Addr} {h2 hS : PH} {H2 : Hp} (st : Step K (pick f ρ) H f2 h2 H2) (b : Back2 ρ κ h h2 hS) :
    Step K f H (f ++ pick f2 κ) hS H2 ∧ ∀ i n a, Mp ρ κ h.length i n → f2[i]? = some a → (f ++ pick f2 κ)[n]? = some a := by
  have hlt : ∀ n ∈ ρ, n < f.length := fun n hn => by rw [s.len]; exact lt n hn
  have kl : ∀ n ∈ κ, n < f2.length := fun n hn => by rw [st.sim.len]; exact (b.new n hn).2
  have pl : (pick f ρ).length = ρ.length := by unfold pick; rw [List.length_map]
  have hM : ∀ i n a, Mp ρ κ h.length i n → f2[i]? = some a → (f ++ pick f2 κ)[n]? = some a := fun i n a m e => by
    rcases m with m | ⟨j, m, rfl⟩
    · obtain ⟨p1, p2⟩ := pick_get hlt m
      have : f2[i]? = some (f.getD n 0) := st.ext.get (p1.trans p2)
      rw [e] at this
      cases this
      rw [List.getElem?_append_left (hlt n (List.mem_of_getElem? m))]
      exact p2
    · rw [List.getElem?_append_right (by rw [s.len]; omega), s.len, Nat.add_sub_cancel_left, (pick_get kl m).1]
      exact e
  have newH : ∀ x ∈ pick f2 κ, H x = none := fun x hx => by
    unfold pick at hx
    obtain ⟨i, hi, rfl⟩ := List.mem_map.mp hx
    have h2i := kl i hi
    have e : f2[i]? = some (f2.getD i 0) := by simp [List.getD, List.getElem?_eq_getElem h2i]
    refine st.new _ (List.mem_of_getElem? e) fun z => ?_
    obtain ⟨j, hj, ej⟩ := List.getElem_of_mem z
    have e2 : f2[j]? = some (f2.getD i 0) := st.ext.get (by rw [List.getElem?_eq_getElem hj, ej])
    have hji : j = i := nd_inj st.sim.nd e2 e
    have := (b.new i hi).1
    rw [pl] at hj
    omega
  have notf : ∀ x ∈ pick f2 κ, x ∉ f := fun x hx m => by
    obtain ⟨u, e, _⟩ := s.mov m
    rw [newH x hx] at e
    cases e
  have gr : Grow f H H2 := fun x o e hn => st.grow x o e fun z => hn (by
    unfold pick at z
    obtain ⟨n, hn2, rfl⟩ := List.mem_map.mp z
    obtain ⟨i, hi, ei⟩ := List.getElem_of_mem hn2
    have ei : ρ[i]? = some n := List.getElem?_eq_some_iff.mpr ⟨hi, ei⟩
    exact List.mem_of_getElem? (pick_get hlt ei).2)
  have ex : Ext f (f ++ pick f2 κ) := ⟨_, rfl⟩
  have sty := s'.stay st.grow
  refine ⟨⟨ex, fun x hx hn => ?_, gr, st.lk, by rw [List.length_append, b.len, s.len]; unfold pick; rw [List.length_map], ?_, fun n o e => ?_⟩, hM⟩
  · rcases List.mem_append.mp hx with m | m
    · exact absurd m hn
    · exact newH x m
  · exact List.nodup_append.mpr ⟨s.nd, pick_nd st.sim.nd kl b.nd, fun a ha c hc z => notf c hc (z ▸ ha)⟩
  · by_cases hn : n < h.length
    · by_cases hm : n ∈ ρ
      · obtain ⟨i, hi, ei⟩ := List.getElem_of_mem hm
        have ei : ρ[i]? = some n := List.getElem?_eq_some_iff.mpr ⟨hi, ei⟩
        obtain ⟨o2, u, e1, e2, e3⟩ := b.at1 i n ei
        rw [e] at e2
        cases e2
        obtain ⟨a, ha, r⟩ := st.sim.obj _ _ e1
        exact ⟨a, hM i n a (.inl ei) ha, ObjR.fwd hM e3 r⟩
      · have e0 : h[n]? = some o := by rw [← b.old n hn hm]; exact e
        obtain ⟨a, ha, r⟩ := s.obj n o e0
        refine ⟨a, ex.get ha, r.mono ex sty ?_⟩
        obtain ⟨u, eu, _⟩ := s.mov (List.mem_of_getElem? ha)
        rw [eu]
        refine st.grow a u eu fun z => ?_
        unfold pick at z
        obtain ⟨m, hm2, em⟩ := List.mem_map.mp z
        obtain ⟨i, hi, ei⟩ := List.getElem_of_mem hm2
        have ei : ρ[i]? = some m := List.getElem?_eq_some_iff.mpr ⟨hi, ei⟩
        have em2 := (pick_get hlt ei).2
        rw [em] at em2
        have := nd_inj s.nd em2 ha
        subst this
        exact hm hm2
    · have hj : n - h.length < κ.length := by
        have := (List.getElem?_eq_some_iff.mp e).1
        rw [b.len] at this
        omega
      obtain ⟨o2, u, e1, e2, e3⟩ := b.at2 (n - h.length) _ (List.getElem?_eq_getElem hj)
      have en : h.length + (n - h.length) = n := by omega
      rw [en, e] at e2
      cases e2
      obtain ⟨a, ha, r⟩ := st.sim.obj _ _ e1
      exact ⟨a, hM _ n a (.inr ⟨n - h.length, List.getElem?_eq_getElem hj, en.symm⟩) ha, ObjR.fwd hM e3 r⟩
end
/-- a promise over the part gives the one over the whole -/
theorem fits_ok {P : Program} {w : World} {K : PySem.W.Frag} {mg : Str → Option Value} {base : Heap} {k : Nat} {f : Addr} {fd : FuncData} {ps : List Str} {n : Nat} {F S : FM} (FK : FnG P w K mg base k f fd ps (SPm K n F)) (hf : Fits F S) : FnG P w K mg base k f fd ps (SPm K n S) := by
  refine FK.imp fun vs H Q E hh => ?_
  obtain ⟨hl, f0, h0, ws, s0, r0, p0⟩ := hh
  rcases hf ws h0 with z | ⟨ρ, ws', h', pf⟩
  · rw [z] at p0
    exact p0.elim
  · have hlt : ∀ n ∈ ρ, n < f0.length := fun n hn => by rw [s0.len]; exact pf.lt n hn
    have s' := part_sim s0 pf.nd pf.lt pf.len pf.obj
    refine ⟨hl, pick f0 ρ, h', ws', s', Reps.bwd (fun i n a e1 e2 => by rw [(pick_get hlt e1).1, e2]) _ _ _ pf.args r0, ?_⟩
    have o := pf.out
    cases e1 : F ws' h' with
    | stuck =>
      rw [e1] at o
      cases e2 : S ws h0 with
      | stuck => rw [e2] at p0; exact p0.elim
      | ok a b => rw [e2] at o; exact o.elim
      | exc a b => rw [e2] at o; exact o.elim
    | ok w2 h2 =>
      rw [e1] at o
      cases e2 : S ws h0 with
      | stuck => rw [e2] at p0; exact p0.elim
      | exc a b => rw [e2] at o; exact o.elim
      | ok a b =>
        rw [e2] at o p0
        obtain ⟨κ, bk, em⟩ := o
        intro f2 H2 v st r
        obtain ⟨st2, hM⟩ := part_back s0 pf.nd pf.lt s' st bk
        exact p0 _ H2 v st2 (Rep.fwd hM _ _ _ em r)
    | exc x2 h2 =>
      rw [e1] at o
      cases e2 : S ws h0 with
      | stuck => rw [e2] at p0; exact p0.elim
      | ok a b => rw [e2] at o; exact o.elim
      | exc a b =>
        rw [e2] at o p0
        obtain ⟨κ, bk, ec⟩ := o
        subst ec
        intro f2 H2 c d st r
        obtain ⟨st2, hM⟩ := part_back s0 pf.nd pf.lt s' st bk
        exact p0 _ H2 c d st2 r
end Mir

/-! Mir: isinstance, what is written, methods, dicts. -/
namespace Mir
open PySem PySem.Spec PyProof.Rows L2

section
variable {X : Cx} {W0 : WX} {tt : BM} {c : Expr}
theorem sts_one (h : ST X W0 c tt) : STs X W0 [c] tt := pts_one h
end

/-! ### isinstance -/
def tyName : W → PH → Option String
  | .non, _ => some "NoneType"
  | .bl _, _ => some "bool"
  | .int _, _ => some "int"
  | .str _, _ => some "str"
  | .tup _, _ => some "tuple"
  | .fix _, _ => some "list"
  | .exc _, _ => none
  | .ref n, h => match h[n]? with
    | some (.lst _) => some "list"
    | some (.dK _) => some "dict"
    | _ => none
def isB (t T : String) : Bool := t == T || (t == "bool" && T == "int")
def mIsi (T : String) (m : EM) : EM := fun ps h => (m ps h).bind fun x h1 => match tyName x h1 with
  | some t => .ok (.bl (isB t T)) h1
  | none => .stuck
def plainTys : List String := ["bool", "int", "str", "tuple", "list", "dict"]
theorem tyName_in {x : W} {h : PH} {t : String} (e : tyName x h = some t) : t ∈ (["NoneType", "bool", "int", "str", "tuple", "list", "dict"] : List String) := by
  cases x <;> simp only [tyName] at e
  case ref n =>
    split at e <;> first | (cases e; done) | (cases e; decide)
  case exc => cases e
  all_goals (cases e; decide)
theorem kit_all : ∀ t ∈ (["NoneType", "bool", "int", "str", "tuple", "list", "dict"] : List String), ∀ T ∈ plainTys, kitB t T = some (isB t T) := by decide +kernel
section
variable {K : PySem.W.Frag} {X : Cx} {W0 : WX} {e o : Expr} {es : List Expr} {m : EM} {l : LM} {p p2 pos : Pos}
theorem tyX_of {f : List Addr} {h : PH} {H : Hp} {x : W} {v : V} {t : String} (s : Sim K f h H) (r : Rep K f H x v) (e : tyName x h = some t) : TyX K H v (.type t) := by
  cases x with
  | non => cases e; rw [rep_non.mp r]; exact .base .non
  | bl b => cases e; rw [rep_bl.mp r]; exact .base (.bl b)
  | int i => cases e; rw [rep_int.mp r]; exact .base (.int i)
  | str z => cases e; rw [rep_str.mp r]; exact .base (.str z)
  | tup xs =>
    cases e
    obtain ⟨a, vs, rfl, h1, _⟩ := rep_tup.mp r
    rcases h1 with (h1 | ⟨o, h1⟩) | ⟨o, its, n, h1, h2, _⟩
    · exact .base (.tup h1)
    · exact .fTuple h1
    · exact .kTuple h1 h2
  | fix xs =>
    cases e
    obtain ⟨a, vs, rfl, h1, _⟩ := rep_fix.mp r
    rcases h1 with ⟨o, h1⟩ | ⟨o, its, n, h1, h2, _⟩
    · exact .base (.frz h1)
    · exact .kList h1 h2
  | exc _ => cases e
  | ref n =>
    simp only [tyName] at e
    split at e
    · rename_i xs hn
      obtain ⟨a, rfl, _, vs, h1, _⟩ := s.at hn r
      cases e
      exact .base (.lst h1)
    · rename_i xs hn
      obtain ⟨a, rfl, _, vs, h1, _⟩ := s.at hn r
      cases e
      exact .base (.dK h1)
    · cases e
theorem se_isi (T : String) {n : Str} (hT : T ∈ plainTys) (hm : X.mg "isinstance" = none) (hmT : X.mg n = none) (ha : SE X W0 e m) (hv : bootBuiltins n = some (.type T)) (hg : Gl X "isinstance" := by rfl) (hgT : Gl X n := by rfl)
    (hb : bootBuiltins "isinstance" = some (.builtin "isinstance") := by rfl) (hdT : (n == ("__debug__" : Str)) = false := by decide)
    (hs1 : starEach [.Name n p2] X.env = [(false, eval (.Name n p2) X.env)] := by rfl) (he : starEach [e, .Name n p2] X.env = (false, eval e X.env) :: starEach [.Name n p2] X.env := by rfl)
    (hpl : (backTo pos (starEach [.Name n p2] X.env)).any (·.1) = false := by rfl) (hnT : n ≠ "__name__" := by decide) :
    SE X W0 (.Call (.Name "isinstance" p) [e, .Name n p2] [] pos) (mIsi T m) :=
  pe_imp (pe_callB call_isi hg hm hb (pa_cons ha (pa_cons (pe_bltn hgT hmT hv (show RelV (V.ty T) (Value.type T) from rfl) hnT hdT) pa_nil hs1) he) (by decide) (by decide) he hpl) fun σ H Q h => by
    obtain ⟨f, h, ps, s, sr, p⟩ := h
    refine ⟨f, h, ps, s, sr, (Post.bind (R1 := RW X.K) s back_W p).mono (fun v H1 hh => ?_) fun _ _ _ e => e⟩
    obtain ⟨f1, h1, x, s1, q1, p1⟩ := hh
    cases et : tyName x h1 with
    | none => simp only [et] at p1; exact p1.elim
    | some t =>
      simp only [et] at p1
      exact ⟨v, .ty T, _, _, _, rfl, .ty T, tyX_of s1.sim q1 et, kit_ty (kit_all t (tyName_in et) T hT), p1 f1 H1 _ (.refl s1.sim) (rep_bl.mpr rfl)⟩

/-! ### the own heap is written -/
theorem Sim.put {f : List Addr} {h : PH} {H : Hp} (s : Sim K f h H) {n : Nat} {a : Addr} (hf : f[n]? = some a) {u : HO} {o' : OB} (ho : ObjR K f (upd H a u) o' a) (hm0 : ∀ o us, H a = some (.frz o (.dK us)) → False) : Step K f H f (h.set n o') (upd H a u) := by
  have g : Grow f H (upd H a u) := fun b w e hn => by rw [upd_ne (fun z => hn (by rw [z]; exact List.mem_of_getElem? hf))]; exact e
  refine ⟨.refl f, fun x a b => absurd a b, g, fun b o us e => by
    rw [upd_ne (fun z => hm0 o us (by rw [z] at e; exact e))]
    exact e, by rw [List.length_set]; exact s.len, s.nd, fun m ob e => ?_⟩
  by_cases hm : n = m
  · subst hm
    have hl : n < h.length := by rw [← s.len]; exact (List.getElem?_eq_some_iff.mp hf).1
    rw [List.getElem?_set_self hl] at e
    cases e
    exact ⟨a, hf, ho⟩
  · rw [List.getElem?_set_ne hm] at e
    obtain ⟨b, h1, h2⟩ := s.obj m ob e
    exact ⟨b, h1, h2.mono (.refl f) (s.stay g) (upd_ne fun z => hm (nd_inj s.nd hf (z ▸ h1)))⟩
theorem Sim.put_lst {f : List Addr} {h : PH} {H : Hp} (s : Sim K f h H) {n : Nat} {a : Addr} (hf : f[n]? = some a) {us : List V} {xs : List W} (r : Reps K f H xs us) (hm0 : ∀ o us, H a = some (.frz o (.dK us)) → False) : Step K f H f (h.set n (.lst xs)) (upd H a (.lst us)) := by
  have g : Grow f H (upd H a (.lst us)) := fun b w e hn => by rw [upd_ne (fun z => hn (by rw [z]; exact List.mem_of_getElem? hf))]; exact e
  exact s.put hf ⟨us, upd_same, Reps.mono (.refl f) (s.stay g) _ _ r⟩ hm0
theorem Sim.put_dK {f : List Addr} {h : PH} {H : Hp} (s : Sim K f h H) {n : Nat} {a : Addr} (hf : f[n]? = some a) {us : List (Key × V)} {xs : List (Key × W)} (r : KRep K f H xs us) (hm0 : ∀ o us, H a = some (.frz o (.dK us)) → False) : Step K f H f (h.set n (.dK xs)) (upd H a (.dK us)) := by
  have g : Grow f H (upd H a (.dK us)) := fun b w e hn => by rw [upd_ne (fun z => hn (by rw [z]; exact List.mem_of_getElem? hf))]; exact e
  exact s.put hf ⟨us, upd_same, KRep.mono (.refl f) (s.stay g) _ _ r⟩ hm0

/-! ### o[i] = v -/
def setW (x y w : W) (h : PH) : Option PH :=
  match x with
  | .ref n => match h[n]? with
    | some (.lst xs) => match y with
      | .int k => (ixN xs.length k).map fun j => h.set n (.lst (xs.set j w))
      | _ => none
    | some (.dK kvs) => match keyW y with
      | some k => if kvs.length < 16777216 then some (h.set n (.dK (putKW kvs k w))) else none
      | none => none
    | _ => none
  | _ => none
abbrev rSetAll : TSet := fun o i v H Q => rSetL o i v H Q ∨ rSetD o i v H Q
theorem set_all {k : Nat} (hr : Room k X.A) : PSet X rSetAll := by
  intro pins s σ H o i v ov iv u Q I ro ri rv h
  rcases h with h | h
  · exact set_list pins s σ H o i v ov iv u Q I ro ri rv h
  · exact set_dict (hu_of hr) pins s σ H o i v ov iv u Q I ro ri rv h
theorem setW_rule {f : List Addr} {h h' : PH} {H : Hp} {x y w : W} {o i v : V} {Q : Hp → Prop} (s : Sim K f h H) (rx : Rep K f H x o) (ry : Rep K f H y i) (rw' : Rep K f H w v) (e : setW x y w h = some h') (q : ∀ H', Step K f H f h' H' → Q H') : rSetAll o i v H Q := by
  unfold setW at e
  split at e
  · rename_i n
    split at e
    · rename_i xs hn
      split at e
      · rename_i k
        obtain ⟨j, e1, e2⟩ := Option.map_eq_some_iff.mp e
        cases e2
        obtain ⟨a, rfl, hf, vs, h1, h2⟩ := s.at hn rx
        exact .inl ⟨a, vs, k, j, rfl, rep_int.mp ry, h1, by rw [← h2.length]; exact e1, q _ (s.put_lst hf (h2.set rw' j) fun _ _ z => by rw [h1] at z; cases z)⟩
      · cases e
    · rename_i kvs hn
      split at e
      · rename_i k ek
        split at e
        · rename_i hl
          cases e
          obtain ⟨a, rfl, hf, vs, h1, h2⟩ := s.at hn rx
          refine .inr ⟨a, _, rfl, ?_, q _ (s.put_dK hf (h2.put rw' k) fun _ _ z => by rw [h1] at z; cases z)⟩
          rw [key_rep ek ry]
          exact DPut.k h1 (by rw [← h2.length, sizeLine_eq]; exact hl)
        · cases e
      · cases e
    · cases e
  · cases e
def sSetIx (me mo mi : EM) : SM := fun ps h => (me ps h).thenS ps fun w h1 => (mo ps h1).thenS ps fun x h2 => (mi ps h2).thenS ps fun y h3 => match setW x y w h3 with
  | some h4 => .nx ps h4
  | none => .stuck
theorem ss_setix {k : Nat} {v i : Expr} {me mo mi : EM} {pos' : Pos} (hr : Room k X.A) (hv : SE X W0 v me) (ho : SE X W0 o mo) (hi : SE X W0 i mi) (hs : swapsWithSole [.Subscript o i pos'] v pos.line X.env = pure false := by rfl) (hw : swappedStores [.Subscript o i pos'] v X.env = pure none := by rfl)
    (h1 : (assignEach [.Subscript o i pos'] X.env).map (·.2) = [assign (.Subscript o i pos') X.env] := by rfl)
    (ha : ∀ v, assign (.Subscript o i pos') X.env v = (do
      let ov ← holding [v] (eval o X.env)
      let iv ← holding [v, ov] (eval i X.env)
      standAt pos'
      holding [v, ov, iv] (setItem ov iv v)
      release [v, ov, iv] []) := by intro _; rfl) : SS X W0 (.Assign [.Subscript o i pos'] v pos) (sSetIx me mo mi) :=
  ps_imp (ps_asg hv (pg_sub ho hi (set_all hr) ha) hs hw h1) fun D σ H h => by
    obtain ⟨f, h, ps, s, sr, p⟩ := h
    refine ⟨f, h, ps, s, sr, (PostS.bind (R1 := RW X.K) s sr p).mono (fun v H1 hh => ?_) fun _ _ _ e => e⟩
    obtain ⟨f1, h1, w, s1, sr1, q1, p1⟩ := hh
    refine ⟨f1, h1, ps, s1.sim, sr1, (PostS.bind (R1 := RW X.K) s1.sim sr1 p1).mono (fun ov H2 hh => ?_) fun _ _ _ e => e⟩
    obtain ⟨f2, h2, x, s2, sr2, q2, p2⟩ := hh
    refine ⟨f2, h2, ps, s2.sim, sr2, (PostS.bind (R1 := RW X.K) s2.sim sr2 p2).mono (fun iv H3 hh => ?_) fun _ _ _ e => e⟩
    obtain ⟨f3, h3, y, s3, sr3, q3, p3⟩ := hh
    cases e : setW x y w h3 with
    | none => simp only [e] at p3; exact p3.elim
    | some h4 =>
      simp only [e] at p3
      exact setW_rule s3.sim (s3.rep s2.sim q2) q3 (s3.rep s2.sim (s2.rep s1.sim q1)) e fun H' st => p3 f3 H' σ st (st.srep s3.sim sr3)

/-! ### methods -/
def tyW (T : String) (x : W) (h : PH) : Bool := match x with
  | .str _ => T == "str"
  | .fix _ => T == "list"
  | .ref n => match h[n]? with
    | some (.lst _) => T == "list"
    | some (.dK _) => T == "dict"
    | _ => false
  | _ => false
theorem tyW_of {f : List Addr} {h : PH} {H : Hp} {x : W} {v : V} {T : String} (s : Sim K f h H) (r : Rep K f H x v) (e : tyW T x h = true) : tyV K T v H := by
  cases x with
  | str z => rw [rep_str.mp r]; exact (show T = "str" by simpa [tyW] using e)
  | fix xs =>
    obtain ⟨a, vs, rfl, h1, _⟩ := rep_fix.mp r
    exact .inl ⟨by simpa [tyW] using e, _, h1.seq⟩
  | ref n =>
    simp only [tyW] at e
    split at e
    · rename_i xs hn
      obtain ⟨a, rfl, _, vs, h1, _⟩ := s.at hn r
      exact .inl ⟨by simpa using e, _, SqL.of h1⟩
    · rename_i xs hn
      obtain ⟨a, rfl, _, vs, h1, _⟩ := s.at hn r
      exact .inr (.inr (.inl ⟨by simpa using e, .inl ⟨_, h1⟩⟩))
    · cases e
  | _ => cases e
/-- a method by a computation; a list told is one that none will change -/
def OpMt (K : PySem.W.Frag) (r : V → List V → Hp → VK → Prop) (o : W → List W → PH → Option (W × PH)) : Prop :=
  ∀ (f : List Addr) (h : PH) (H : Hp) (x : W) (v : V) (xs : List W) (vs : List V) (Q : VK) (E : XK), Sim K f h H → Rep K f H x v → Reps K f H xs vs → Post K (RW K) f H (.ofO (o x xs h)) Q E → r v vs H (QF Q)
def mMt (T : String) (o : W → List W → PH → Option (W × PH)) (m : EM) (l : LM) : EM := fun ps h => (m ps h).bind fun x h1 => if tyW T x h1 = true then (l ps h1).bind fun xs h2 => .ofO (o x xs h2) else .stuck
variable {T id : String} {name : Str} {apos cpos : Pos} {r : V → List V → Hp → VK → Prop} {om : W → List W → PH → Option (W × PH)}
theorem se_mt (pa : PlainAttrs T) (slot : Slot T name id) (hty : typeOf (.builtin id) = pure (.type "method_descriptor")) (hm : MtR X id r) (hop : OpMt X.K r om) (ho : SE X W0 o m) (ha : SA X W0 (e :: es) l)
    (hbase : attributeBase o name X.env (eval o X.env) = eval o X.env := by rfl)
    (hfew : ((backTo cpos (starEach (e :: es) X.env)).all (fun x => !x.1) && (backToKw cpos (keywordEach [] X.env)).all (fun x => x.1.isSome)
      && decide ((e :: es).length + ([] : List Keyword).length + (if ([] : List Keyword).isEmpty then 0 else 1) < 30)) = true := by rfl)
    (hline : (apos.endLine == cpos.line) = true := by rfl) (hs : starEach (e :: es) X.env = (false, eval e X.env) :: starEach es X.env := by rfl) (hplain : (backTo cpos (starEach es X.env)).any (·.1) = false := by rfl) :
    SE X W0 (.Call (.Attribute o name apos) (e :: es) [] cpos) (mMt T om m l) :=
  pe_imp (pe_frz (pe_bm pa slot hty hm ho ha hbase hfew hline hs hplain)) fun σ H Q h => by
    obtain ⟨f, h, ps, s, sr, p⟩ := h
    refine ⟨f, h, ps, s, sr, (Post.bind (R1 := RW X.K) s back_W p).mono (fun v H1 hh => ?_) fun _ _ _ e => e⟩
    obtain ⟨f1, h1, x, s1, q1, p1⟩ := hh
    split at p1
    · rename_i ht
      refine ⟨tyW_of s1.sim q1 ht, f1, h1, ps, s1.sim, s1.srep s sr, (Post.bind (R1 := RA X.K) s1.sim back_W p1).mono (fun vs H2 hh => ?_) fun _ _ _ e => e⟩
      obtain ⟨f2, h2, xs, s2, q2, p2⟩ := hh
      exact hop f2 h2 H2 x v xs vs Q _ s2.sim (s2.rep s1.sim q1) q2 p2
    · exact p1.elim
theorem se_mt0 (pa : PlainAttrs T) (slot : Slot T name id) (hty : typeOf (.builtin id) = pure (.type "method_descriptor")) (hm : MtR X id r) (hop : OpMt X.K r om) (ho : SE X W0 o m)
    (hbase : attributeBase o name X.env (eval o X.env) = eval o X.env := by rfl) (hline : (apos.endLine == cpos.line) = true := by rfl) :
    SE X W0 (.Call (.Attribute o name apos) [] [] cpos) (mMt T om m mNil) :=
  pe_imp (pe_frz (pe_bm0 pa slot hty hm ho hbase hline)) fun σ H Q h => by
    obtain ⟨f, h, ps, s, sr, p⟩ := h
    refine ⟨f, h, ps, s, sr, (Post.bind (R1 := RW X.K) s back_W p).mono (fun v H1 hh => ?_) fun _ _ _ e => e⟩
    obtain ⟨f1, h1, x, s1, q1, p1⟩ := hh
    split at p1
    · rename_i ht
      exact ⟨tyW_of s1.sim q1 ht, hop f1 h1 H1 x v [] [] Q _ s1.sim q1 .nil p1⟩
    · exact p1.elim
/-- xs.append(x) -/
def wAppend (x : W) (xs : List W) (h : PH) : Option (W × PH) := match x, xs with
  | .ref n, [y] => match h[n]? with
    | some (.lst zs) => if zs.length < 16777216 then some (.non, h.set n (.lst (zs ++ [y]))) else none
    | _ => none
  | _, _ => none
theorem op_append : OpMt K rAppend wAppend := by
  intro f h H x v xs vs Q E s rx rxs p
  unfold wAppend at p
  split at p
  · rename_i n y
    split at p
    · rename_i zs hn
      split at p
      · rename_i hl
        obtain ⟨a, rfl, hf, us, h1, h2⟩ := s.at hn rx
        obtain ⟨u, rfl, ru⟩ := rxs.one_inv
        exact ⟨a, us, u, rfl, rfl, h1, by rw [← h2.length, sizeLine_eq]; exact hl, .inl (p f _ _ (s.put_lst hf (h2.append (.one ru)) fun _ _ z => by rw [h1] at z; cases z) (rep_non.mpr rfl))⟩
      · exact p.elim
    · exact p.elim
  · exact p.elim
theorem se_append {e1 : Expr} {m1 : EM} (hmt : MtR X "list.append" rAppend) (ho : SE X W0 o m) (ha : SE X W0 e1 m1) (hbase : attributeBase o "append" X.env (eval o X.env) = eval o X.env := by rfl)
    (hfew : ((backTo cpos (starEach [e1] X.env)).all (fun x => !x.1) && (backToKw cpos (keywordEach [] X.env)).all (fun x => x.1.isSome)
      && decide (([e1] : List Expr).length + ([] : List Keyword).length + (if ([] : List Keyword).isEmpty then 0 else 1) < 30)) = true := by rfl)
    (hline : (apos.endLine == cpos.line) = true := by rfl) (hs : starEach [e1] X.env = [(false, eval e1 X.env)] := by rfl) : SE X W0 (.Call (.Attribute o "append" apos) [e1] [] cpos) (mMt "list" wAppend m (mCons m1 mNil)) :=
  se_mt PySem.F.plainAttrs_list PySem.F.slot_list_append PySem.F.type_list_append hmt op_append ho (sa_cons ha sa_nil hs) hbase hfew hline hs

/-! ### dict displays -/
def mPairs : List (EM × EM) → LS → PH → Res (List (W × W))
  | [], _, h => .ok [] h
  | (mk, mv) :: r, ps, h => (mk ps h).bind fun x h1 => (mv ps h1).bind fun y h2 => (mPairs r ps h2).bind fun zs h3 => .ok ((x, y) :: zs) h3
def keysOf : List (W × W) → Option (List (Key × W))
  | [] => some []
  | (x, y) :: r => match keyW x, keysOf r with
    | some k, some s => some ((k, y) :: s)
    | _, _ => none
def mergeW (kvs more : List (Key × W)) : List (Key × W) := more.foldl (fun acc kv => putKW acc kv.1 kv.2) kvs
def mDisp (l : List (EM × EM)) : EM := fun ps h => (mPairs l ps h).bind fun zs h1 => match keysOf zs with
  | some kvs => if kvs.length ≤ 15 then .ok (.ref h1.length) (h1 ++ [.dK (mergeW [] kvs)]) else .stuck
  | none => .stuck
abbrev RP (K : PySem.W.Frag) : RR (List (W × W)) (List (V × V)) := fun _ f H ws vs => Reps K f H (ws.map (·.1)) (vs.map (·.1)) ∧ Reps K f H (ws.map (·.2)) (vs.map (·.2))
theorem back_P : Back K (RP K) := fun _ _ _ _ _ _ _ _ _ _ _ _ q => q
abbrev tMs (K : PySem.W.Frag) (W0 : WX) (l : List (EM × EM)) : List (TE × TE) := l.map fun p => (tE K W0 p.1, tE K W0 p.2)
abbrev SPs (X : Cx) (W0 : WX) (pos : Pos) (keys : List (Option Expr)) (values : List Expr) (l : List (EM × EM)) : Prop := PPs X pos keys values (tMs X.K W0 l)
theorem sps_nil : SPs X W0 pos [] [] [] := pps_nil
theorem sps_cons {k v : Expr} {ks : List (Option Expr)} {vs : List Expr} {mk mv : EM} {r : List (EM × EM)} (hk : SE X W0 k mk) (hv : SE X W0 v mv) (hr : SPs X W0 pos ks vs r) : SPs X W0 pos (some k :: ks) (v :: vs) ((mk, mv) :: r) := pps_cons hk hv hr
theorem tPairs_of : ∀ (l : List (EM × EM)) (f : List Addr) (h : PH) (H : Hp) (ps : LS) (σ : L2.St) (Q : List (V × V) → Hp → Prop), Sim K f h H → SRep K f H ps σ → Post K (RP K) f H (mPairs l ps h) Q (fun c d H' => W0 c d σ H') → tPairs (tMs K W0 l) σ H Q
  | [], f, h, H, ps, σ, Q, s, sr, p => p f H [] (.refl s) ⟨.nil, .nil⟩
  | (mk, mv) :: r, f, h, H, ps, σ, Q, s, sr, p => by
    refine ⟨f, h, ps, s, sr, (Post.bind (R1 := RW K) s back_P p).mono (fun v H1 hh => ?_) fun _ _ _ e => e⟩
    obtain ⟨f1, h1, x, s1, q1, p1⟩ := hh
    refine ⟨f1, h1, ps, s1.sim, s1.srep s sr, (Post.bind (R1 := RW K) s1.sim back_P p1).mono (fun u H2 hh => ?_) fun _ _ _ e => e⟩
    obtain ⟨f2, h2, y, s2, q2, p2⟩ := hh
    refine tPairs_of r f2 h2 H2 ps σ _ s2.sim (s2.srep s1.sim (s1.srep s sr)) ((Post.bind (R1 := RP K) s2.sim back_P p2).mono (fun us H3 hh => ?_) fun _ _ _ e => e)
    obtain ⟨f3, h3, zs, s3, q3, p3⟩ := hh
    exact p3 f3 H3 _ (.refl s3.sim) ⟨.cons (s3.rep s2.sim (s2.rep s1.sim q1)) q3.1, .cons (s3.rep s2.sim q2) q3.2⟩
theorem keys_rep {f : List Addr} {H : Hp} : ∀ {zs : List (W × W)} {vs : List (V × V)} {kvs : List (Key × W)}, keysOf zs = some kvs → Reps K f H (zs.map (·.1)) (vs.map (·.1)) → Reps K f H (zs.map (·.2)) (vs.map (·.2)) →
    ∃ us : List (Key × V), vs = us.map (fun kv => (kV kv.1, kv.2)) ∧ KRep K f H kvs us
  | [], vs, kvs, e, r1, r2 => by
    cases e
    have := r1.nil_inv
    cases vs with
    | nil => exact ⟨[], rfl, rfl⟩
    | cons a b => cases this
  | (x, y) :: t, vs, kvs, e, r1, r2 => by
    simp only [keysOf] at e
    split at e
    · rename_i k s ek es
      cases e
      cases vs with
      | nil => obtain ⟨v, r, z, _⟩ := r1.cons_inv; cases z
      | cons ab r =>
        obtain ⟨a, b⟩ := ab
        obtain ⟨v1, t1, z1, a1, a2⟩ := r1.cons_inv
        obtain ⟨v2, t2, z2, b1, b2⟩ := r2.cons_inv
        cases z1
        cases z2
        obtain ⟨us, rfl, kr⟩ := keys_rep es a2 b2
        exact ⟨(k, b) :: us, by rw [List.map_cons, ← key_rep ek a1], b, us, rfl, b1, kr⟩
    · cases e
theorem merge_rep {f : List Addr} {H : Hp} : ∀ {kvs : List (Key × W)} {us : List (Key × V)} {a : List (Key × W)} {b : List (Key × V)}, KRep K f H kvs us → KRep K f H a b → KRep K f H (mergeW a kvs) (mergeK b us)
  | [], us, a, b, r, q => by
    have r : us = [] := r
    subst r
    exact q
  | (k, w) :: t, us, a, b, r, q => by
    obtain ⟨v, s, rfl, r1, r2⟩ := r
    show KRep K f H (mergeW (putKW a k w) t) (mergeK (putK b k v) s)
    exact merge_rep r2 (q.put r1 k)
theorem Step.take_in {f f1 : List Addr} {h1 : PH} {H H1 : Hp} (st : Step K f H f1 h1 H1) {q : Addr} {o : OB} (hq : H q = none) (nq : q ∉ f1) (ho : ObjR K f1 H1 o q) : Step K f H (f1 ++ [q]) (h1 ++ [o]) H1 :=
  ⟨st.ext.trans (.snoc f1 q), fun x hx hn => by
    rcases List.mem_append.mp hx with m | m
    · exact st.new x m hn
    · rw [List.mem_singleton] at m
      rw [m]
      exact hq, st.grow, st.lk, st.sim.take_in nq ho⟩
theorem Step.own_dict {f f1 : List Addr} {h1 : PH} {H H1 : Hp} (st : Step K f H f1 h1 H1) {D : Addr} {vs us : List (Key × V)} (hD : H D = none) (nd : D ∉ f1) (e : H1 D = some (.dK vs)) : Step K f H f1 h1 (upd H1 D (.dK us)) ∧ Stay K H1 (upd H1 D (.dK us)) := by
  have key : ∀ a u, H1 a = some u → (∀ xs, u ≠ .dK xs) → upd H1 D (.dK us) a = some u := fun a u e2 n => by
    rw [upd_ne (fun z => by subst z; rw [e] at e2; cases e2; exact n _ rfl)]
    exact e2
  have sty : Stay K H1 (upd H1 D (.dK us)) := by
    refine ⟨fun a xs r => ?_, fun a xs r => ?_, fun a φ r => key _ _ r (fun _ z => by cases z), fun a gs r => key _ _ r (fun _ z => by cases z)⟩
    · rcases r with (r | ⟨o, r⟩) | r
      · exact .inl (.inl (key _ _ r (fun _ z => by cases z)))
      · exact .inl (.inr ⟨o, key _ _ r (fun _ z => by cases z)⟩)
      · exact .inr r
    · rcases r with ⟨o, r⟩ | r
      · exact .inl ⟨o, key _ _ r (fun _ z => by cases z)⟩
      · exact .inr r
  exact ⟨⟨st.ext, st.new, fun a u ea na => by
    rw [upd_ne (fun z => by subst z; rw [hD] at ea; cases ea)]
    exact st.grow a u ea na, fun a o vs ea => by
    have := st.lk a o vs ea
    rw [upd_ne (fun z => by subst z; rw [e] at this; cases this)]
    exact this, st.sim.len, st.sim.nd, fun n ob q => by
    obtain ⟨a, h1, h2⟩ := st.sim.obj n ob q
    exact ⟨a, h1, h2.mono (.refl f1) sty (upd_ne fun z => nd (z ▸ List.mem_of_getElem? h1))⟩⟩, sty⟩
theorem tE_disp {l : List (EM × EM)} {σ : L2.St} {H : Hp} {Q : VK} (h : tE K W0 (mDisp l) σ H Q) : tDisp (tMs K W0 l) σ H Q := by
  obtain ⟨f, h, ps, s, sr, p⟩ := h
  intro q hq
  have st := s.other (o := .dK []) hq
  have nq := s.fresh hq
  refine tPairs_of l f h _ ps σ _ st.sim (st.srep s sr) ?_
  have p : Post K (RW K) f H ((mPairs l ps h).bind _) Q _ := p
  cases e : mPairs l ps h with
  | stuck => rw [e] at p; exact p.elim
  | exc x h1 =>
    rw [e] at p
    exact fun f1 H1 c d s1 xr => p f1 H1 c d (st.trans s1) xr
  | ok zs h1 =>
    rw [e] at p
    intro f1 H1 vs s1 r1
    have p : Post K (RW K) f H (match keysOf zs with
      | some kvs => if kvs.length ≤ 15 then .ok (.ref h1.length) (h1 ++ [.dK (mergeW [] kvs)]) else .stuck
      | none => .stuck) Q _ := p
    cases ek : keysOf zs with
    | none => rw [ek] at p; exact p.elim
    | some kvs =>
      rw [ek] at p
      dsimp only at p
      split at p
      · rename_i hl
        obtain ⟨us, rfl, kr⟩ := keys_rep ek r1.1 r1.2
        have e0 : H1 q = some (.dK []) := s1.grow q _ upd_same nq
        have nq1 : q ∉ f1 := fun m => by
          have := s1.new q m nq
          rw [upd_same] at this
          cases this
        obtain ⟨s2, sty⟩ := (st.trans s1).own_dict (us := mergeK [] us) hq nq1 e0
        refine ⟨e0, us, rfl, by rw [← kr.length]; exact hl, p (f1 ++ [q]) _ _ (s2.take_in hq nq1 ⟨_, upd_same, KRep.mono (.refl f1) sty _ _ (merge_rep kr rfl)⟩) ?_⟩
        simp only [Rep]
        refine ⟨q, rfl, ?_⟩
        rw [List.getElem?_append_right (by rw [s1.sim.len]; omega), s1.sim.len]
        simp
      · exact p.elim
theorem se_dict {keys : List (Option Expr)} {values : List Expr} {l : List (EM × EM)} (hp : SPs X W0 pos keys values l) (hall : keys.all (·.isSome) = true := by rfl) (hl : keys.length = values.length := by rfl) (h0 : keys ≠ [] := by exact List.cons_ne_nil _ _)
    (h15 : keys.length ≤ 15 := by decide) : SE X W0 (.Dict keys values pos) (mDisp l) := pe_imp (pe_disp hp hall hl h0 h15) fun σ H Q h => tE_disp h
def mDict0 : EM := fun _ h => .ok (.ref h.length) (h ++ [.dK []])
theorem se_dict0 : SE X W0 (.Dict [] [] pos) mDict0 := pe_imp pe_dnewK fun σ H Q h => by
  obtain ⟨f, h, ps, s, sr, p⟩ := h
  intro q hq
  have st := s.other (o := .dK []) hq
  refine p (f ++ [q]) _ _ (st.take_in hq (s.fresh hq) ⟨[], upd_same, rfl⟩) ?_
  simp only [Rep]
  refine ⟨q, rfl, ?_⟩
  rw [List.getElem?_append_right (by rw [s.len]; omega), s.len]
  simp
end
/-- what is never come to -/
def sDead : SM := fun _ _ => .stuck
theorem ss_dead {X : Cx} {W0 : WX} {st : Stmt} : SS X W0 st sDead := ⟨fun pins s σ H D I h => by
  obtain ⟨f, h, ps, s, sr, p⟩ := h
  exact p.elim⟩
def big : Nat := 16777217
end Mir

/-! Mir: repr, join; the law's head. -/
namespace Mir
open PySem PySem.Spec PyProof.Rows L2

/-! ### repr -/
def wRepr : List W → PH → Option (W × PH)
  | [.str z], h => if (reprText z).length ≤ 16777216 then some (.str (reprText z), h) else none
  | [.int i], h => if i.natAbs.log2 < 1920 then some (.str (toString i), h) else none
  | [.tup xs], h => match dat h (.tup xs) with
    | some d => if d.showable = true ∧ d.hasDict = false ∧ d.depth ≤ 100 ∧ d.shown.length ≤ 16777216 then some (.str d.shown, h) else none
    | none => none
  | [.fix xs], h => match dat h (.fix xs) with
    | some d => if d.showable = true ∧ d.hasDict = false ∧ d.depth ≤ 100 ∧ d.shown.length ≤ 16777216 then some (.str d.shown, h) else none
    | none => none
  | [.ref n], h => match dat h (.ref n) with
    | some d => if d.showable = true ∧ d.hasDict = false ∧ d.depth ≤ 100 ∧ d.shown.length ≤ 16777216 then some (.str d.shown, h) else none
    | none => none
  | _, _ => none
abbrev rRepr (K : PySem.W.Frag) : List V → Hp → VK → Prop := fun xs H Q => (∃ a d, xs = [.ref a] ∧ Dp K H (.ref a) d ∧ d.showable = true ∧ d.hasDict = false ∧ d.depth ≤ 100 ∧ d.shown.length ≤ 16777216 ∧ Q (.str d.shown) H) ∨
  (∃ z, xs = [.str z] ∧ (reprText z).length ≤ 16777216 ∧ Q (.str (reprText z)) H) ∨ ∃ i, xs = [.int i] ∧ i.natAbs.log2 < 1920 ∧ Q (.str (toString i)) H
section
variable {K : PySem.W.Frag} {X : Cx} {W0 : WX} {e o : Expr} {es : List Expr} {m : EM} {l : LM} {p p2 pos : Pos}
theorem c_repr {k : Nat} (hr : Room k X.A) (gd : Gd X.A) : CallR X (.builtin "repr") (rRepr X.K) := by
  intro pins s σ H xs us Q I rv h
  rcases h with ⟨a, d, rfl, dp, h1, h2, h3, h4, q⟩ | ⟨z, rfl, hz, q⟩ | ⟨i, rfl, hi, q⟩
  · obtain ⟨u, rfl, ru⟩ := vals1 rv
    cases (show u = Value.ref a from ru)
    obtain ⟨as, rd⟩ := Dp.reads I d _ _ dp (show RelV (V.ref a) (Value.ref a) from rfl)
    have hu := hr.units
    refine PySem.repr_of_reads' rd h1 (PyData.noDict_hsm h2) gd ?_ (fun _ _ e => e) (fun h' t tk keep => ?_) (by rw [sizeLine_eq]; exact h4)
    · have : cLine ≥ X.A.units + 200 := by have := hr.un; omega
      omega
    · exact ⟨.str d.shown, H, I.kept (t' := tk) keep, ⟨t, rfl⟩, q⟩
  · obtain ⟨u, rfl, t, rfl⟩ := vals1 rv
    exact PySem.P.repr_of_str ⟨.str _, H, I.tok _, ⟨_, rfl⟩, q⟩ (by rw [sizeLine_eq]; exact hz)
  · exact SkE.call_repr_int pins s σ H _ us Q I rv ⟨i, rfl, hi, q⟩
theorem o_repr : OpC K (rRepr K) wRepr := by
  intro f h H xs vs Q E s r p
  unfold wRepr at p
  split at p
  · obtain ⟨v, rfl, r1⟩ := r.one_inv
    split at p
    · rename_i c
      exact .inr (.inl ⟨_, by rw [rep_str.mp r1], c, post_ok s p (rep_str.mpr rfl)⟩)
    · exact p.elim
  · obtain ⟨v, rfl, r1⟩ := r.one_inv
    split at p
    · rename_i c
      exact .inr (.inr ⟨_, by rw [rep_int.mp r1], c, post_ok s p (rep_str.mpr rfl)⟩)
    · exact p.elim
  · obtain ⟨v, rfl, r1⟩ := r.one_inv
    split at p
    · rename_i d e
      split at p
      · rename_i c
        have dd := dp s e r1
        obtain ⟨a, us, rfl, _⟩ := rep_tup.mp r1
        exact .inl ⟨a, d, rfl, dd, c.1, c.2.1, c.2.2.1, c.2.2.2, post_ok s p (rep_str.mpr rfl)⟩
      · exact p.elim
    · exact p.elim
  · obtain ⟨v, rfl, r1⟩ := r.one_inv
    split at p
    · rename_i d e
      split at p
      · rename_i c
        have dd := dp s e r1
        obtain ⟨a, us, rfl, _⟩ := rep_fix.mp r1
        exact .inl ⟨a, d, rfl, dd, c.1, c.2.1, c.2.2.1, c.2.2.2, post_ok s p (rep_str.mpr rfl)⟩
      · exact p.elim
    · exact p.elim
  · obtain ⟨v, rfl, r1⟩ := r.one_inv
    split at p
    · rename_i d e
      split at p
      · rename_i c
        have dd := dp s e r1
        simp only [Rep] at r1
        obtain ⟨a, rfl, _⟩ := r1
        exact .inl ⟨a, d, rfl, dd, c.1, c.2.1, c.2.2.1, c.2.2.2, post_ok s p (rep_str.mpr rfl)⟩
      · exact p.elim
    · exact p.elim
  · exact p.elim

/-! ### join -/
def wJoin (x : W) (xs : List W) (h : PH) : Option (W × PH) := match x, xs with
  | .str a, [y] => match (seqOf y h).bind strsW with
    | some ys => if (ys.map (·.length)).sum + ys.length * a.length ≤ 16777216 then some (.str (Txt.join a ys), h) else none
    | none => none
  | _, _ => none
abbrev rJoin (K : PySem.W.Frag) : V → List V → Hp → VK → Prop := fun x xs H Q => ∃ a p, ∃ ys : List Str, x = .str a ∧ xs = [.ref p] ∧ (SqL K H p (ys.map V.str) ∨ SqT K H p (ys.map V.str)) ∧ (ys.map (·.length)).sum + ys.length * a.length ≤ 16777216 ∧ Q (.str (Txt.join a ys)) H
theorem op_join : OpMt K (rJoin K) wJoin := by
  intro f h H x v xs vs Q E s rx rxs p
  unfold wJoin at p
  split at p
  · rename_i a y
    obtain ⟨u, rfl, ru⟩ := rxs.one_inv
    split at p
    · rename_i ys e
      obtain ⟨ws, e1, e2⟩ := Option.bind_eq_some_iff.mp e
      split at p
      · rename_i c
        obtain ⟨b, us, rfl, hq, r2⟩ := seqOf_rep s ru e1
        have := strsW_rep e2 r2
        subst this
        exact ⟨a, b, ys, rep_str.mp rx, rfl, hq, c, .inl (post_ok s p (rep_str.mpr rfl))⟩
      · exact p.elim
    · exact p.elim
  · exact p.elim
variable {apos cpos : Pos}
theorem se_join {e1 : Expr} {m1 : EM} (ho : SE X W0 o m) (ha : SE X W0 e1 m1) (hbase : attributeBase o "join" X.env (eval o X.env) = eval o X.env := by rfl)
    (hfew : ((backTo cpos (starEach [e1] X.env)).all (fun x => !x.1) && (backToKw cpos (keywordEach [] X.env)).all (fun x => x.1.isSome)
      && decide (([e1] : List Expr).length + ([] : List Keyword).length + (if ([] : List Keyword).isEmpty then 0 else 1) < 30)) = true := by rfl)
    (hline : (apos.endLine == cpos.line) = true := by rfl) (hs : starEach [e1] X.env = [(false, eval e1 X.env)] := by rfl) : SE X W0 (.Call (.Attribute o "join" apos) [e1] [] cpos) (mMt "str" wJoin m (mCons m1 mNil)) :=
  se_mt PySem.F.plainAttrs_str PySem.F.slot_str_join PySem.F.type_str_join mt_join op_join ho (sa_cons ha sa_nil hs) hbase hfew hline hs
end

/-! ### the head -/
/-- the law's script as it stands at the entry -/
def hScript (K : PySem.W.Frag) (a : Addr) (vs : List Value) (ns : List Int) : Hp := fun b => match K.lookup a with
  | some _ => none
  | none => if b = a then some (.frz { cls := .type "list", data := .seq vs.toArray } (.lst (ns.map V.int))) else none
theorem hScript_is {K : PySem.W.Frag} {a b : Addr} {vs : List Value} {ns : List Int} {u : HO} (e : hScript K a vs ns b = some u) : b = a ∧ K.lookup a = none ∧ u = .frz { cls := .type "list", data := .seq vs.toArray } (.lst (ns.map V.int)) := by
  unfold hScript at e
  split at e
  · cases e
  · rename_i q
    by_cases hb : b = a
    · rw [if_pos hb] at e
      cases e
      exact ⟨hb, q, rfl⟩
    · rw [if_neg hb] at e
      cases e
/-- what the law is to show: over the empty own heap, its script a list that never changes -/
def LawOk (F : FM) : Prop := ∀ ns : List Int, ns.length ≤ 63 → (∀ z ∈ ns, Builtin.Int.intBits z ≤ 1048576) → ∃ g, F [.fix (ns.map W.int)] [] = .ok (.bl true) g
theorem head_run {P : Program} {w : World} {K : PySem.W.Frag} {mg mb : Str → Option Value} {k : Nat} {fa a : Addr} {fd : FuncData} {x : Str} {t : Shared} {vs : List Value} {ns : List Int} {F : FM} (kin : K.In t.heap) (nsg : t.heap.Ns mainGlobals mg) (nsb : t.heap.Ns builtinsNs mb)
    (blt : ∀ x : Str, x ≠ "__name__" → mb x = bootBuiltins x) (lim : t.heap.NoLimit) (gens : t.gens = #[]) (at0 : t.heap.get? a = some { cls := .type "list", data := .seq vs.toArray }) (iv : IntsAre vs ns) (len : ns.length ≤ 63) (bits : ∀ z ∈ ns, Builtin.Int.intBits z ≤ 1048576) (room : Room k callerA)
    (FK : ∀ base : Heap, K.In base → base.Ns mainGlobals mg → FnG P w K mg base k fa fd [x] (SPm K 1 F)) (bnd : ∀ (s : Shared) (u : Value), BindsTo s fd ⟨[u], []⟩ [(x, u)]) (law : LawOk F) :
    codeAny (model P w) callerA (.call (.ref fa) ⟨[.ref a], []⟩) (fun r t' => r = .ok (.ret (.bool true)) ∧ OldK t.heap t'.heap ∧ t'.os = t.os ∧ AllBare t'.gens) t := by
  have rv := vals_ints iv
  have short : ns.length ≤ sizeLine := Nat.le_trans len (by rw [sizeLine_eq]; decide)
  let H := hScript K a vs ns
  have hok : HOk P w H t.heap := fun b u e => by
    obtain ⟨rfl, _, rfl⟩ := hScript_is e
    exact ⟨at0, by rw [List.length_map]; exact short, vs, _, rv, at0⟩
  have fixed : FixL K H a (ns.map V.int) := by
    cases q : K.lookup a with
    | some o =>
      have e := kin a o q
      rw [at0] at e
      cases e
      exact .inr ⟨_, vs.toArray, _, q, rfl, rfl, rfl, by rw [List.size_toArray, iv.length]; exact short, by simpa using rv⟩
    | none => exact .inl ⟨_, by show hScript K a vs ns a = _; unfold hScript; rw [q]; exact if_pos rfl⟩
  have clear : ∀ {b : Addr} {o : Obj}, t.heap.get? b = some o → (b = a → K.lookup a = none → False) → (hidT t.heap H).get? b = some o := fun {b o} e z => hidT_get e (by
    cases q : H b with
    | none => rfl
    | some u =>
      obtain ⟨e1, e2, _⟩ := hScript_is q
      exact (z e1 e2).elim)
  have spaces : ∀ {b : Addr} {m : Str → Option Value}, t.heap.Ns b m → (hidT t.heap H).Ns b m := fun {b m} hh => by
    obtain ⟨o, es, ep, e, d, r⟩ := hh
    refine ⟨o, es, ep, clear e fun z _ => ?_, d, r⟩
    subst z
    rw [at0] at e
    cases e
    cases d
  have kin2 : K.In (hidT t.heap H) := fun b o e => clear (kin b o e) fun z q => by
    subst z
    rw [e] at q
    cases q
  have e0 : Env0 P w K mg (hidT t.heap H) callerA [] t H := ⟨rfl, ⟨kin2, spaces nsg, ⟨mb, spaces nsb, blt⟩, by obtain ⟨mc, h1, h2⟩ := lim; exact ⟨mc, spaces h1, h2⟩⟩, fun b o e => of_hidT e, Nat.le_of_eq (hidT_size _ _), trivial,
    fun b hb => (by cases hb), hok, .of_eq gens⟩
  obtain ⟨g, eg⟩ := law ns len bits
  have goal : SPm K 1 F [.ref a] H (fun v _ => v = .bl true) fun _ _ _ => False := by
    refine ⟨rfl, [], [], [.fix (ns.map W.int)], ⟨rfl, List.nodup_nil, fun n o e => by simp at e⟩, .one (rep_fix.mpr ⟨a, _, rfl, fixed, reps_ints ns⟩), ?_⟩
    rw [eg]
    exact fun f' H' v s' r => rep_bl.mp r
  refine codeAny_mono ((FK _ kin2 (spaces nsg)).run callerA [] t H ⟨[.ref a], []⟩ [.ref a] [.ref a] _ _ room rfl e0 (bnd t (.ref a)) (.cons rfl .nil) goal) ?_
  rintro (er | fl) t2 h
  · obtain ⟨_, _, _, _, _, _, _, _, _, _, _, _, z⟩ := h
    exact z.elim
  · cases fl with
    | ret u =>
      obtain ⟨v, H2, os, bare, un, hok2, ru, q⟩ := h
      have q : v = .bl true := q
      subst q
      cases (show u = Value.bool true from ru)
      refine ⟨rfl, OldK.of_keep fun b o e => ?_, os, bare⟩
      cases q : H b with
      | none => exact un.keep b o e q (fun z => by cases z) (fun z => by cases z)
      | some u =>
        obtain ⟨rfl, _, rfl⟩ := hScript_is q
        rw [at0] at e
        cases e
        exact (hok2 _ _ (un.frzs _ _ _ q)).1
    | _ => exact False.elim h
theorem walk_m {l : PySem.W.OpenLaw} {k : Nat} {q : Program} {loose : List Str} {XP : (Str → Option Value) → Heap → Prop} {YP : World → Heap → Prop} {d : DefRec} {K : Params → PySem.W.Frag} {x : Str} {F : FM} (hn : l.most = some 63) (hdf : d.params.defaults = []) (room : Room k callerA)
    (hY : ∀ (w : World) (h : Heap), YP w h → (K w.params).In h) (law : LawOk F)
    (FK : ∀ (w : World) (mg : Str → Option Value) (fa : Addr) (h : Heap), (K w.params).In h → h.Ns mainGlobals mg → mg d.name = some (.ref fa) →
      ∃ fd : FuncData, (∀ (s : Shared) (u : Value), BindsTo s fd ⟨[u], []⟩ [(x, u)]) ∧ ∀ base : Heap, (K w.params).In base → base.Ns mainGlobals mg → FnG l.prog w (K w.params) mg base k fa fd [x] (SPm (K w.params) 1 F)) :
    PySem.W.WalkO q loose XP YP l.row.toRowW d [] (fun f vs => PySem.call f vs) := by
  refine Att.attach_callB hn hdf fun w s₀ t mg mb fa o pm cd doc a vs ns G Y ho hd hcd hmg at0 iv len bits gens => ?_
  obtain ⟨fd, bnd, FF⟩ := FK w mg fa _ (hY w _ Y) G.T.g hmg
  exact head_run (hY w _ Y) G.T.g G.T.b G.T.builtins G.T.nolimit gens at0 iv len bits room FF bnd law
end Mir

/-! Mir: a def run alone, upon nothing or upon one thing of the heap; what it makes is carried out. -/
namespace Mir
open PySem PySem.Spec PyProof.Rows L2

mutual
def refsW : W → List Nat
  | .tup xs => refsWs xs
  | .fix xs => refsWs xs
  | .ref n => [n]
  | _ => []
def refsWs : List W → List Nat
  | [] => []
  | x :: xs => refsW x ++ refsWs xs
end
def refsK {κ : Type} : List (κ × W) → List Nat
  | [] => []
  | (_, x) :: r => refsW x ++ refsK r
def refsO : OB → List Nat
  | .lst xs => refsWs xs
  | .dK kvs => refsK kvs
  | .ins _ fs => refsK fs
  | .lk kvs => refsK kvs
mutual
def renW (f : Nat → Nat) : W → W
  | .tup xs => .tup (renWs f xs)
  | .fix xs => .fix (renWs f xs)
  | .ref n => .ref (f n)
  | .non => .non
  | .bl b => .bl b
  | .int i => .int i
  | .str x => .str x
  | .exc x => .exc x
def renWs (f : Nat → Nat) : List W → List W
  | [] => []
  | x :: xs => renW f x :: renWs f xs
end
def renK {κ : Type} (f : Nat → Nat) : List (κ × W) → List (κ × W)
  | [] => []
  | (k, x) :: r => (k, renW f x) :: renK f r
def renO (f : Nat → Nat) : OB → OB
  | .lst xs => .lst (renWs f xs)
  | .dK kvs => .dK (renK f kvs)
  | .ins C fs => .ins C (renK f fs)
  | .lk kvs => .lk (renK f kvs)
section
variable {M : Nat → Nat → Prop} {f : Nat → Nat}
mutual
theorem emb_ren : ∀ w : W, (∀ k ∈ refsW w, M k (f k)) → Emb M w (renW f w)
  | .non, _ => by simp only [renW, Emb]
  | .bl _, _ => by simp only [renW, Emb]
  | .int _, _ => by simp only [renW, Emb]
  | .str _, _ => by simp only [renW, Emb]
  | .exc _, _ => by simp only [renW, Emb]
  | .tup xs, h => by
    simp only [renW, Emb]
    exact ⟨_, rfl, embs_ren xs (by simpa only [refsW] using h)⟩
  | .fix xs, h => by
    simp only [renW, Emb]
    exact ⟨_, rfl, embs_ren xs (by simpa only [refsW] using h)⟩
  | .ref n, h => by
    simp only [renW, Emb]
    exact ⟨_, rfl, h n (by simp [refsW])⟩
theorem embs_ren : ∀ ws : List W, (∀ k ∈ refsWs ws, M k (f k)) → Embs M ws (renWs f ws)
  | [], _ => by simp only [renWs, Embs]
  | x :: xs, h => by
    simp only [renWs, Embs]
    simp only [refsWs, List.mem_append] at h
    exact ⟨_, _, rfl, emb_ren x fun k hk => h k (.inl hk), embs_ren xs fun k hk => h k (.inr hk)⟩
end
theorem embk_ren {κ : Type} : ∀ ws : List (κ × W), (∀ k ∈ refsK ws, M k (f k)) → KEmb M ws (renK f ws)
  | [], _ => rfl
  | (k, x) :: r, h => by
    simp only [refsK, List.mem_append] at h
    exact ⟨_, _, rfl, emb_ren x fun k hk => h k (.inl hk), embk_ren r fun k hk => h k (.inr hk)⟩
theorem embo_ren (o : OB) (h : ∀ k ∈ refsO o, M k (f k)) : EmbO M o (renO f o) := by
  cases o with
  | lst xs => exact ⟨_, rfl, embs_ren xs h⟩
  | dK xs => exact ⟨_, rfl, embk_ren xs h⟩
  | ins C xs => exact ⟨_, rfl, embk_ren xs h⟩
  | lk xs => exact ⟨_, rfl, embk_ren xs h⟩
mutual
theorem ren_id : ∀ w : W, refsW w = [] → renW f w = w
  | .non, _ => rfl
  | .bl _, _ => rfl
  | .int _, _ => rfl
  | .str _, _ => rfl
  | .exc _, _ => rfl
  | .tup xs, h => by simp only [renW, rens_id xs (by simpa only [refsW] using h)]
  | .fix xs, h => by simp only [renW, rens_id xs (by simpa only [refsW] using h)]
  | .ref n, h => by simp [refsW] at h
theorem rens_id : ∀ ws : List W, refsWs ws = [] → renWs f ws = ws
  | [], _ => rfl
  | x :: xs, h => by
    simp only [refsWs, List.append_eq_nil_iff] at h
    simp only [renWs, ren_id x h.1, rens_id xs h.2]
end
theorem renk_id {κ : Type} : ∀ ws : List (κ × W), refsK ws = [] → renK f ws = ws
  | [], _ => rfl
  | (k, x) :: r, h => by
    simp only [refsK, List.append_eq_nil_iff] at h
    simp only [renK, ren_id x h.1, renk_id r h.2]
theorem reno_id (o : OB) (h : refsO o = []) : renO f o = o := by
  cases o with
  | lst xs => simp only [renO, rens_id xs h]
  | dK xs => simp only [renO, renk_id xs h]
  | ins C xs => simp only [renO, renk_id xs h]
  | lk xs => simp only [renO, renk_id xs h]
end
/-- the things that a value leans on, three deep -/
def objs (g : PH) (ks : List Nat) : List Nat := ks.flatMap fun k => match g[k]? with
  | some o => refsO o
  | none => []
def reach (g : PH) (l0 : List Nat) : List Nat := l0 ++ objs g l0 ++ objs g (objs g l0)
def pos (κ : List Nat) (n : Nat) (k : Nat) : Nat := n + κ.idxOf k
def news (g : PH) (κ : List Nat) (n : Nat) : PH := κ.filterMap fun k => (g[k]?).map (renO (pos κ n))
/-- all that is reached is reached once, lies in g behind m things, and nothing else is -/
def apt (g : PH) (l0 κ : List Nat) (m : Nat) : Bool := decide κ.Nodup && κ.all (fun k => decide (m ≤ k ∧ k < g.length)) && (objs g κ).all (fun k => decide (k ∈ κ)) && l0.all fun k => decide (k ∈ κ)
theorem apt_of {g : PH} {l0 κ : List Nat} {m : Nat} (h : apt g l0 κ m = true) : κ.Nodup ∧ (∀ k ∈ κ, m ≤ k ∧ k < g.length) ∧ (∀ k ∈ κ, ∀ o, g[k]? = some o → ∀ j ∈ refsO o, j ∈ κ) ∧ ∀ k ∈ l0, k ∈ κ := by
  unfold apt at h
  simp only [Bool.and_eq_true, decide_eq_true_eq, List.all_eq_true] at h
  obtain ⟨⟨⟨h1, h2⟩, h3⟩, h4⟩ := h
  exact ⟨h1, h2, fun k hk o e j hj => h3 j (by
    unfold objs
    refine List.mem_flatMap.mpr ⟨k, hk, ?_⟩
    rw [e]
    exact hj), h4⟩
theorem news_get {g : PH} {κ : List Nat} {n m : Nat} (h2 : ∀ k ∈ κ, m ≤ k ∧ k < g.length) : (news g κ n).length = κ.length ∧ ∀ (j i : Nat), κ[j]? = some i → ∃ o, g[i]? = some o ∧ (news g κ n)[j]? = some (renO (pos κ n) o) := by
  have key : ∀ (l : List Nat) (f : Nat → Nat), (∀ k ∈ l, k < g.length) → (l.filterMap fun k => (g[k]?).map (renO f)).length = l.length ∧ ∀ (j i : Nat), l[j]? = some i → ∃ o, g[i]? = some o ∧ (l.filterMap fun k => (g[k]?).map (renO f))[j]? = some (renO f o) := by
    intro l f
    induction l with
    | nil => exact fun _ => ⟨rfl, fun j i e => by simp at e⟩
    | cons a l ih =>
      intro h
      obtain ⟨i1, i2⟩ := ih fun k hk => h k (List.mem_cons_of_mem _ hk)
      have ha := h a List.mem_cons_self
      have e : ((a :: l).filterMap fun k => (g[k]?).map (renO f)) = renO f g[a] :: l.filterMap fun k => (g[k]?).map (renO f) := by
        simp [List.filterMap_cons, List.getElem?_eq_getElem ha]
      refine ⟨by rw [e, List.length_cons, List.length_cons, i1], fun j i q => ?_⟩
      rw [e]
      cases j with
      | zero =>
        simp at q
        subst q
        exact ⟨_, List.getElem?_eq_getElem ha, rfl⟩
      | succ j => exact i2 j i (by simpa using q)
  exact key κ _ fun k hk => (h2 k hk).2
/-- what the run upon the part makes of the whole -/
def outR (ρ : List Nat) (h hb : PH) (r : Res W) : Res W := match r with
  | .ok w g => let κ := reach g (refsW w)
    if apt g (refsW w) κ ρ.length = true then .ok (renW (pos κ h.length) w) (hb ++ news g κ h.length) else .stuck
  | .exc x _ => .exc x hb
  | .stuck => .stuck
/-- upon nothing -/
def lift0 (F : FM) : FM := fun ws h => if refsWs ws = [] then outR [] h h (F ws []) else .stuck
theorem back0 {h g : PH} {l0 κ : List Nat} (ha : apt g l0 κ 0 = true) : Back2 [] κ h g (h ++ news g κ h.length) := by
  obtain ⟨h1, h2, h3, h4⟩ := apt_of ha
  obtain ⟨n1, n2⟩ := news_get (n := h.length) h2
  refine ⟨h1, fun i hi => ⟨Nat.zero_le _, (h2 i hi).2⟩, by rw [List.length_append, n1], fun n hn _ => List.getElem?_append_left hn, fun i n e => by simp at e, fun j i e => ?_⟩
  obtain ⟨o, e1, e2⟩ := n2 j i e
  refine ⟨o, _, e1, by rw [List.getElem?_append_right (Nat.le_add_right _ _), Nat.add_sub_cancel_left]; exact e2, embo_ren o fun k hk => .inr ⟨κ.idxOf k, ?_, rfl⟩⟩
  have hm := h3 i (List.mem_of_getElem? e) o e1 k hk
  rw [List.getElem?_eq_getElem (List.idxOf_lt_length_of_mem hm), List.getElem_idxOf]
theorem embs_refl (M : Nat → Nat → Prop) (ws : List W) (h : refsWs ws = []) : Embs M ws ws := by
  have := embs_ren (M := M) (f := id) ws (by rw [h]; exact fun _ z => by cases z)
  rwa [rens_id ws h] at this
theorem fits_lift0 (F : FM) : Fits F (lift0 F) := by
  intro ws h
  unfold lift0
  by_cases hw : refsWs ws = []
  · rw [if_pos hw]
    refine .inr ⟨[], ws, [], List.nodup_nil, fun n hn => (by cases hn), rfl, fun i n e => (by simp at e), embs_refl _ ws hw, ?_⟩
    rw [if_pos hw]
    unfold outR
    cases F ws [] with
    | stuck => exact trivial
    | exc x g => exact ⟨[], ⟨List.nodup_nil, fun i hi => (by cases hi), by simp, fun n hn _ => rfl, fun i n e => (by simp at e), fun j i e => by simp at e⟩, rfl⟩
    | ok w g =>
      dsimp only
      split
      · rename_i ha
        obtain ⟨h1, h2, h3, h4⟩ := apt_of ha
        refine ⟨_, back0 ha, emb_ren w fun k hk => .inr ⟨_, ?_, rfl⟩⟩
        have hm := h4 k hk
        rw [List.getElem?_eq_getElem (List.idxOf_lt_length_of_mem hm), List.getElem_idxOf]
      · exact trivial
  · rw [if_neg hw]
    exact .inl rfl
/-- upon the thing at the first argument -/
def lift1 (F : FM) : FM := fun ws h => match ws with
  | .ref n :: r => match h[n]? with
    | some o => if refsO o = [] ∧ refsWs r = [] then (match F (.ref 0 :: r) [o] with
      | .ok w (o2 :: g) => if refsO o2 = [] then outR [n] h (h.set n o2) (.ok w (o2 :: g)) else .stuck
      | .exc x (o2 :: g) => if refsO o2 = [] then outR [n] h (h.set n o2) (.exc x (o2 :: g)) else .stuck
      | _ => .stuck) else .stuck
    | none => .stuck
  | _ => .stuck
theorem back1 {h g : PH} {l0 κ : List Nat} {n : Nat} {o2 : OB} (hn : n < h.length) (ho : refsO o2 = []) (ha : apt (o2 :: g) l0 κ 1 = true) : Back2 [n] κ h (o2 :: g) (h.set n o2 ++ news (o2 :: g) κ h.length) := by
  obtain ⟨h1, h2, h3, h4⟩ := apt_of ha
  obtain ⟨n1, n2⟩ := news_get (n := h.length) h2
  refine ⟨h1, fun i hi => h2 i hi, by rw [List.length_append, n1, List.length_set], fun m hm q => ?_, fun i m e => ?_, fun j i e => ?_⟩
  · rw [List.getElem?_append_left (by rw [List.length_set]; exact hm), List.getElem?_set_ne fun z => q (by simp [z])]
  · cases i with
    | zero =>
      simp at e
      subst e
      refine ⟨o2, o2, rfl, by rw [List.getElem?_append_left (by rw [List.length_set]; exact hn), List.getElem?_set_self hn], ?_⟩
      have := embo_ren (M := Mp [n] κ h.length) (f := id) o2 (by rw [ho]; exact fun _ z => by cases z)
      rwa [reno_id o2 ho] at this
    | succ i => simp at e
  · obtain ⟨o, e1, e2⟩ := n2 j i e
    refine ⟨o, _, e1, by rw [List.getElem?_append_right (by rw [List.length_set]; exact Nat.le_add_right _ _), List.length_set, Nat.add_sub_cancel_left]; exact e2, embo_ren o fun k hk => .inr ⟨κ.idxOf k, ?_, rfl⟩⟩
    have hm := h3 i (List.mem_of_getElem? e) o e1 k hk
    rw [List.getElem?_eq_getElem (List.idxOf_lt_length_of_mem hm), List.getElem_idxOf]
theorem fits_lift1 (F : FM) : Fits F (lift1 F) := by
  intro ws h
  match ws with
  | .ref n :: r =>
    cases e : h[n]? with
    | none => exact .inl (by simp only [lift1, e])
    | some o =>
      by_cases hc : refsO o = [] ∧ refsWs r = []
      · have hn : n < h.length := (List.getElem?_eq_some_iff.mp e).1
        have eo : ∀ M, EmbO M o o := fun M => by
          have := embo_ren (M := M) (f := id) o (by rw [hc.1]; exact fun _ z => by cases z)
          rwa [reno_id o hc.1] at this
        refine .inr ⟨[n], .ref 0 :: r, [o], by simp, fun m hm => by rw [List.mem_singleton.mp hm]; exact hn, rfl, fun i m q => ?_, ?_, ?_⟩
        · cases i with
          | zero =>
            simp at q
            subst q
            exact ⟨o, o, rfl, e, eo _⟩
          | succ i => simp at q
        · simp only [Embs]
          exact ⟨_, _, rfl, by simp only [Emb]; exact ⟨n, rfl, rfl⟩, embs_refl _ r hc.2⟩
        · have eS : lift1 F (.ref n :: r) h = (match F (.ref 0 :: r) [o] with
            | .ok w (o2 :: g) => if refsO o2 = [] then outR [n] h (h.set n o2) (.ok w (o2 :: g)) else .stuck
            | .exc x (o2 :: g) => if refsO o2 = [] then outR [n] h (h.set n o2) (.exc x (o2 :: g)) else .stuck
            | _ => .stuck) := by simp only [lift1, e]; rw [if_pos hc]
          rw [eS]
          cases F (.ref 0 :: r) [o] with
          | stuck => exact trivial
          | exc x g =>
            cases g with
            | nil => exact trivial
            | cons o2 g =>
              dsimp only
              split
              · rename_i ho
                unfold outR
                dsimp only
                refine ⟨[], ⟨List.nodup_nil, fun i hi => (by cases hi), by simp, fun m hm q => List.getElem?_set_ne fun z => q (by simp [z]), fun i m q => ?_, fun j i q => by simp at q⟩, rfl⟩
                cases i with
                | zero =>
                  simp at q
                  subst q
                  refine ⟨o2, o2, rfl, List.getElem?_set_self hn, ?_⟩
                  have := embo_ren (M := Mp [n] [] h.length) (f := id) o2 (by rw [ho]; exact fun _ z => by cases z)
                  rwa [reno_id o2 ho] at this
                | succ i => simp at q
              · exact trivial
          | ok w g =>
            cases g with
            | nil => exact trivial
            | cons o2 g =>
              dsimp only
              split
              · rename_i ho
                unfold outR
                dsimp only
                split
                · rename_i ha
                  obtain ⟨h1, h2, h3, h4⟩ := apt_of ha
                  refine ⟨_, back1 hn ho ha, emb_ren w fun k hk => .inr ⟨_, ?_, rfl⟩⟩
                  have hm := h4 k hk
                  rw [List.getElem?_eq_getElem (List.idxOf_lt_length_of_mem hm), List.getElem_idxOf]
                · exact trivial
              · exact trivial
      · exact .inl (by simp only [lift1, e]; rw [if_neg hc])
  | [] => exact .inl rfl
  | .non :: r => exact .inl rfl
  | .bl _ :: r => exact .inl rfl
  | .int _ :: r => exact .inl rfl
  | .str _ :: r => exact .inl rfl
  | .tup _ :: r => exact .inl rfl
  | .fix _ :: r => exact .inl rfl
  | .exc _ :: r => exact .inl rfl

/-! ### how they are used -/
section
variable {F : FM} {ws r : List W} {h g : PH} {w : W} {n : Nat} {o o2 : OB}
theorem apt_nil {m : Nat} : apt g [] (reach g []) m = true := by
  simp [apt, reach, objs]
theorem out_plain {ρ : List Nat} {hb : PH} (e : refsW w = []) : outR ρ h hb (.ok w g) = .ok w hb := by
  unfold outR
  dsimp only
  rw [e, if_pos apt_nil, ren_id w e]
  simp [news, reach, objs]
theorem lift0_plain (hw : refsWs ws = []) (e : F ws [] = .ok w g) (hr : refsW w = []) : lift0 F ws h = .ok w h := by
  unfold lift0
  rw [if_pos hw, e, out_plain hr]
theorem out_list {ρ : List Nat} {hb : PH} {k : Nat} {xs : List W} (e : g[k]? = some (.lst xs)) (hx : refsWs xs = []) (hk : ρ.length ≤ k) : outR ρ h hb (.ok (.ref k) g) = .ok (.ref h.length) (hb ++ [.lst xs]) := by
  have r1 : objs g [k] = [] := by simp [objs, e, refsO, hx]
  have r2 : objs g [] = [] := rfl
  have rk : reach g [k] = [k] := by unfold reach; rw [r1, r2]; rfl
  have hl := (List.getElem?_eq_some_iff.mp e).1
  unfold outR
  dsimp only
  have er : refsW (.ref k) = [k] := by simp only [refsW]
  rw [er, rk, if_pos (by simp [apt, r1, hl, hk])]
  simp [renW, pos, news, e, renO, rens_id xs hx]
theorem lift0_list {k : Nat} {xs : List W} (hw : refsWs ws = []) (e : F ws [] = .ok (.ref k) g) (eg : g[k]? = some (.lst xs)) (hx : refsWs xs = []) : lift0 F ws h = .ok (.ref h.length) (h ++ [.lst xs]) := by
  unfold lift0
  rw [if_pos hw, e, out_list eg hx (Nat.zero_le _)]
theorem lift1_plain (en : h[n]? = some o) (ho : refsO o = []) (hw : refsWs r = []) (e : F (.ref 0 :: r) [o] = .ok w (o2 :: g)) (h2 : refsO o2 = []) (hr : refsW w = []) : lift1 F (.ref n :: r) h = .ok w (h.set n o2) := by
  simp only [lift1, en]
  rw [if_pos ⟨ho, hw⟩, e]
  dsimp only
  rw [if_pos h2, out_plain hr]
theorem lift1_list {k : Nat} {xs : List W} (en : h[n]? = some o) (ho : refsO o = []) (hw : refsWs r = []) (e : F (.ref 0 :: r) [o] = .ok (.ref (k + 1)) (o2 :: g)) (h2 : refsO o2 = []) (eg : g[k]? = some (.lst xs)) (hx : refsWs xs = []) :
    lift1 F (.ref n :: r) h = .ok (.ref h.length) (h.set n o2 ++ [.lst xs]) := by
  simp only [lift1, en]
  rw [if_pos ⟨ho, hw⟩, e]
  dsimp only
  rw [if_pos h2, out_list (by simpa using eg) hx (by simp)]
end
end Mir

/-! Mir: what a computation ends in, piece by piece (for the plain laws). -/
namespace Mir
open PySem PySem.Spec PyProof.Rows L2

@[irreducible] def Res.To {α : Type} (r : Res α) (Q : α → PH → Prop) : Prop := match r with
  | .ok a h => Q a h
  | _ => False
@[irreducible] def SRes.To (r : SRes) (N : LS → PH → Prop) (R : W → PH → Prop) (B C : LS → PH → Prop) : Prop := match r with
  | .nx ps h => N ps h
  | .rt w h => R w h
  | .bk ps h => B ps h
  | .ct ps h => C ps h
  | _ => False
/-- one of two, by a truth -/
@[irreducible] def Ite (b : Bool) (A B : Prop) : Prop := if b = true then A else B
section
variable {A B : Prop} {b : Bool} {p : Prop} [i : Decidable p]
@[simp] theorem Ite_true : Ite true A B = A := by unfold Ite; rfl
@[simp] theorem Ite_false : Ite false A B = B := by unfold Ite; rfl
@[simp] theorem Ite_not : Ite (!b) A B = Ite b B A := by cases b <;> simp
theorem Ite.of (h : p → A) (k : ¬ p → B) : Ite (decide p) A B := by
  by_cases q : p
  · rw [decide_eq_true q, Ite_true]; exact h q
  · rw [decide_eq_false q, Ite_false]; exact k q
theorem Ite.yes (q : p) (h : A) : Ite (decide p) A B := Ite.of (fun _ => h) fun z => absurd q z
theorem Ite.no (q : ¬ p) (h : B) : Ite (decide p) A B := Ite.of (fun z => absurd z q) fun _ => h
theorem Ite.ofB (h : b = true → A) (k : b = false → B) : Ite b A B := by
  cases b
  · rw [Ite_false]; exact k rfl
  · rw [Ite_true]; exact h rfl
end
/-- of a truth -/
@[irreducible] def BTo (x : W) (Q : Bool → Prop) : Prop := match x with
  | .bl b => Q b
  | _ => False
theorem bto_no {x : W} {Q : Bool → Prop} (h : ∀ b, x ≠ .bl b) : BTo x Q = False := by
  unfold BTo
  cases x with
  | bl b => exact absurd rfl (h b)
  | _ => rfl
@[simp] theorem bto_non {Q : Bool → Prop} : BTo .non Q = False := bto_no fun _ z => by cases z
@[simp] theorem bto_int {Q : Bool → Prop} {i : Int} : BTo (.int i) Q = False := bto_no fun _ z => by cases z
@[simp] theorem bto_str {Q : Bool → Prop} {i : Str} : BTo (.str i) Q = False := bto_no fun _ z => by cases z
@[simp] theorem bto_tup {Q : Bool → Prop} {i : List W} : BTo (.tup i) Q = False := bto_no fun _ z => by cases z
@[simp] theorem bto_fix {Q : Bool → Prop} {i : List W} : BTo (.fix i) Q = False := bto_no fun _ z => by cases z
@[simp] theorem bto_exc {Q : Bool → Prop} {i : XV} : BTo (.exc i) Q = False := bto_no fun _ z => by cases z
@[simp] theorem bto_ref {Q : Bool → Prop} {i : Nat} : BTo (.ref i) Q = False := bto_no fun _ z => by cases z
@[simp] theorem bto_bl {b : Bool} {Q : Bool → Prop} : BTo (.bl b) Q = Q b := by unfold BTo; rfl
/-- of what may be there -/
@[irreducible] def OTo {α : Type} (o : Option α) (Q : α → Prop) : Prop := match o with
  | some a => Q a
  | none => False
@[irreducible] def PTo {α : Type} (o : Option (α × PH)) (Q : α → PH → Prop) : Prop := match o with
  | some p => Q p.1 p.2
  | none => False
section
variable {α β : Type} {Q : α → Prop} {P : α → PH → Prop} {h : PH}
@[simp] theorem oto_some {a : α} : OTo (some a) Q = Q a := by unfold OTo; rfl
@[simp] theorem oto_none : OTo none Q = False := by unfold OTo; rfl
@[simp] theorem oto_ite {c : Prop} [Decidable c] {o : Option α} : OTo (if c then o else none) Q = (c ∧ OTo o Q) := by
  by_cases hc : c <;> simp [hc]
@[simp] theorem oto_map {f : β → α} {o : Option β} : OTo (o.map f) Q = OTo o fun b => Q (f b) := by cases o <;> simp
@[simp] theorem oto_bind {f : β → Option α} {o : Option β} : OTo (o.bind f) Q = OTo o fun b => OTo (f b) Q := by cases o <;> simp
@[simp] theorem pto_some {a : α} : PTo (some (a, h)) P = P a h := by unfold PTo; rfl
@[simp] theorem pto_none : PTo none P = False := by unfold PTo; rfl
@[simp] theorem pto_ite {c : Prop} [Decidable c] {o : Option (α × PH)} : PTo (if c then o else none) P = (c ∧ PTo o P) := by
  by_cases hc : c <;> simp [hc]
@[simp] theorem pto_map {f : β → α} {o : Option β} : PTo (o.map fun b => (f b, h)) P = OTo o fun b => P (f b) h := by cases o <;> simp
@[simp] theorem pto_map0 {o : Option α} : PTo (o.map fun b => (b, h)) P = OTo o fun b => P b h := by cases o <;> simp
theorem oto_is {o : Option α} (q : OTo o Q) : ∃ a, o = some a ∧ Q a := by
  cases o with
  | some a => exact ⟨a, rfl, by simpa using q⟩
  | none => simp at q
theorem OTo.mono {Q' : α → Prop} {o : Option α} (q : OTo o Q) (i : ∀ a, Q a → Q' a) : OTo o Q' := by
  cases o with
  | some a => simp at q ⊢; exact i a q
  | none => simp at q
end
theorem Res.To.mono {α : Type} {r : Res α} {Q Q' : α → PH → Prop} (h : r.To Q) (i : ∀ a g, Q a g → Q' a g) : r.To Q' := by
  unfold Res.To at h ⊢
  cases r with
  | ok a g => exact i a g h
  | exc x g => exact h
  | stuck => exact h
theorem SRes.To.mono {r : SRes} {N N' B B' C C' : LS → PH → Prop} {R R' : W → PH → Prop} (h : r.To N R B C) (i : ∀ a g, N a g → N' a g) (j : ∀ a g, R a g → R' a g) (k : ∀ a g, B a g → B' a g) (l : ∀ a g, C a g → C' a g) : r.To N' R' B' C' := by
  unfold SRes.To at h ⊢
  cases r with
  | nx a g => exact i a g h
  | rt a g => exact j a g h
  | bk a g => exact k a g h
  | ct a g => exact l a g h
  | exc x p g => exact h
  | stuck => exact h
theorem Res.To.is {α : Type} {r : Res α} {Q : α → PH → Prop} (h : r.To Q) : ∃ a g, r = .ok a g ∧ Q a g := by
  unfold Res.To at h
  cases r with
  | ok a g => exact ⟨a, g, rfl, h⟩
  | exc x g => exact h.elim
  | stuck => exact h.elim
section
variable {α β : Type} {Q : α → PH → Prop} {N B C : LS → PH → Prop} {R : W → PH → Prop} {ps : LS} {h : PH}
@[simp] theorem to_ok {a : α} : (Res.ok a h).To Q = Q a h := by unfold Res.To; rfl
@[simp] theorem to_exc {x : XV} : (Res.exc x h : Res α).To Q = False := by unfold Res.To; rfl
@[simp] theorem to_stuck : (Res.stuck : Res α).To Q = False := by unfold Res.To; rfl
@[simp] theorem to_bind {r : Res β} {k : β → PH → Res α} : (r.bind k).To Q = r.To fun b g => (k b g).To Q := by cases r <;> simp [Res.bind]
@[simp] theorem to_ite {c : Prop} [Decidable c] {r : Res α} : (if c then r else .stuck).To Q = (c ∧ r.To Q) := by
  by_cases hc : c <;> simp [hc]
@[simp] theorem to_ofO {o : Option (α × PH)} : (Res.ofO o).To Q = PTo o Q := by
  cases o with
  | none => simp [Res.ofO]
  | some p => simp only [Res.ofO, to_ok]; unfold PTo; rfl
@[simp] theorem to_nx : (SRes.nx ps h).To N R B C = N ps h := by unfold SRes.To; rfl
@[simp] theorem to_rt {w : W} : (SRes.rt w h).To N R B C = R w h := by unfold SRes.To; rfl
@[simp] theorem to_bk : (SRes.bk ps h).To N R B C = B ps h := by unfold SRes.To; rfl
@[simp] theorem to_ct : (SRes.ct ps h).To N R B C = C ps h := by unfold SRes.To; rfl
@[simp] theorem to_sexc {x : XV} : (SRes.exc x ps h).To N R B C = False := by unfold SRes.To; rfl
@[simp] theorem to_sstuck : SRes.stuck.To N R B C = False := by unfold SRes.To; rfl
@[simp] theorem to_thenS {r : Res α} {k : α → PH → SRes} : (r.thenS ps k).To N R B C = r.To fun a g => (k a g).To N R B C := by cases r <;> simp [Res.thenS]
end
section
variable {Q : W → PH → Prop} {Ql : List W → PH → Prop} {Qb : Bool → PH → Prop} {Qi : PIt → PH → Prop} {N B C : LS → PH → Prop} {R : W → PH → Prop} {ps : LS} {h : PH} {m m1 m2 m3 : EM} {l : LM} {t t2 : BM} {M M2 : SM} {g : GM} {mi : IM}
@[simp] theorem to_var {i : Nat} : (mVar i ps h).To Q = ∃ w, ps[i]? = some (some w) ∧ Q w h := by
  unfold mVar
  cases e : ps[i]? with
  | none => simp
  | some o => cases o <;> simp
@[simp] theorem to_C {w : W} : (mC w ps h).To Q = Q w h := by simp [mC]
@[simp] theorem to_op {o : W → W → PH → Option (W × PH)} : (mOp o m1 m2 ps h).To Q = (m1 ps h).To fun x g => (m2 ps g).To fun y g => PTo (o x y g) Q := by simp [mOp]
@[simp] theorem to_un {o : W → PH → Option (W × PH)} : (mUn o m1 ps h).To Q = (m1 ps h).To fun x g => PTo (o x g) Q := by simp [mUn]
@[simp] theorem to_nil : (mNil ps h).To Ql = Ql [] h := by simp [mNil]
@[simp] theorem to_cons : (mCons m l ps h).To Ql = (m ps h).To fun x g => (l ps g).To fun xs g => Ql (x :: xs) g := by simp [mCons]
@[simp] theorem to_tup : (mTup l ps h).To Q = (l ps h).To fun xs g => xs.length ≤ 16777216 ∧ Q (.tup xs) g := by simp [mTup]
@[simp] theorem to_lst : (mLst l ps h).To Ql = (l ps h).To fun xs g => xs.length ≤ 16777216 ∧ Ql xs g := by simp [mLst]
@[simp] theorem to_new : (mNew l ps h).To Q = (l ps h).To fun xs g => Q (.ref g.length) (g ++ [.lst xs]) := by simp [mNew]
@[simp] theorem to_fix : (mFix l ps h).To Q = (l ps h).To fun xs g => Q (.fix xs) g := by simp [mFix]
@[simp] theorem to_call {o : List W → PH → Option (W × PH)} : (mCall o l ps h).To Q = (l ps h).To fun xs g => PTo (o xs g) Q := by simp [mCall]
@[simp] theorem to_on {α : Type} {Qa : α → PH → Prop} {o : List W → PH → Option (α × PH)} : (mOn o l ps h).To Qa = (l ps h).To fun xs g => PTo (o xs g) Qa := by simp [mOn]
@[simp] theorem to_fn {n : Nat} {F : FM} : (mFn n F l ps h).To Q = (l ps h).To fun xs g => xs.length = n ∧ (F xs g).To Q := by simp [mFn]
@[simp] theorem to_fn0 {F : FM} : (mFn0 F ps h).To Q = (F [] h).To Q := by simp only [mFn0]
@[simp] theorem to_seqm : (mSeq m ps h).To Ql = (m ps h).To fun x g => OTo (seqOf x g) fun xs => Ql xs g := by
  simp only [mSeq, to_bind]
  congr 1
  funext x g
  cases seqOf x g <;> simp
@[simp] theorem to_lstm : (mLstOf m ps h).To Ql = (m ps h).To fun x g => OTo (lstOf x g) fun xs => Ql xs g := by
  simp only [mLstOf, to_bind]
  congr 1
  funext x g
  cases lstOf x g <;> simp
@[simp] theorem to_mB : (mB m ps h).To Qb = (m ps h).To fun x g => BTo x fun b => Qb b g := by
  simp only [mB, to_bind]
  congr 1
  funext x g
  cases x <;> simp [toB]
@[simp] theorem to_tru : (mTru m ps h).To Qb = (m ps h).To fun x g => OTo (tru x g) fun b => Qb b g := by
  simp only [mTru, to_bind]
  congr 1
  funext x g
  cases tru x g <;> simp
@[simp] theorem to_and : (mAnd t t2 ps h).To Qb = (t ps h).To fun b g => Ite b ((t2 ps g).To Qb) (Qb false g) := by
  simp only [mAnd, to_bind]
  congr 1
  funext b g
  cases b <;> simp
@[simp] theorem to_or : (mOr t t2 ps h).To Qb = (t ps h).To fun b g => Ite b (Qb true g) ((t2 ps g).To Qb) := by
  simp only [mOr, to_bind]
  congr 1
  funext b g
  cases b <;> simp
@[simp] theorem to_not : (mNot t ps h).To Qb = (t ps h).To fun b g => Qb (!b) g := by simp [mNot]
@[simp] theorem to_if : (mIf t m1 m2 ps h).To Q = (t ps h).To fun b g => Ite b ((m1 ps g).To Q) ((m2 ps g).To Q) := by
  simp only [mIf, to_bind]
  congr 1
  funext b g
  cases b <;> simp
@[simp] theorem to_andV : (mAndV m1 m2 ps h).To Q = (m1 ps h).To fun x g => BTo x fun b => Ite b ((m2 ps g).To Q) (Q (.bl false) g) := by
  simp only [mAndV, to_bind]
  congr 1
  funext x g
  cases x with
  | bl b => cases b <;> simp
  | _ => simp
@[simp] theorem to_orV : (mOrV m1 m2 ps h).To Q = (m1 ps h).To fun x g => BTo x fun b => Ite b (Q (.bl true) g) ((m2 ps g).To Q) := by
  simp only [mOrV, to_bind]
  congr 1
  funext x g
  cases x with
  | bl b => cases b <;> simp
  | _ => simp
@[simp] theorem to_notV : (mNotV m ps h).To Q = (m ps h).To fun x g => BTo x fun b => Q (.bl (!b)) g := by
  simp only [mNotV, to_bind]
  congr 1
  funext x g
  cases x <;> simp
@[simp] theorem to_chain {o o' : W → W → PH → Option (W × PH)} : (mChain o o' m1 m2 m3 ps h).To Q = (m1 ps h).To fun x g => (m2 ps g).To fun y g => PTo (o x y g) fun w g => BTo w fun b => Ite b ((m3 ps g).To fun z g => PTo (o' y z g) Q) (Q (.bl false) g) := by
  simp only [mChain, to_bind, to_ofO]
  congr 1
  funext x g
  congr 1
  funext y g
  congr 1
  funext p
  cases p with
  | bl b => cases b <;> simp
  | _ => simp
@[simp] theorem to_isi {T : String} : (mIsi T m ps h).To Q = (m ps h).To fun x g => OTo (tyName x g) fun s => Q (.bl (isB s T)) g := by
  simp only [mIsi, to_bind]
  congr 1
  funext x g
  cases tyName x g <;> simp
@[simp] theorem to_mt {T : String} {o : W → List W → PH → Option (W × PH)} : (mMt T o m l ps h).To Q = (m ps h).To fun x g => tyW T x g = true ∧ (l ps g).To fun xs g => PTo (o x xs g) Q := by simp [mMt]
@[simp] theorem to_sl {lo hi : Option EM} : (mSl m lo hi ps h).To Q = (m ps h).To fun x g => (mPart lo ps g).To fun a g => (mPart hi ps g).To fun b g => PTo (wSl x a b g) Q := by simp [mSl]
@[simp] theorem to_part0 {Qo : Option Int → PH → Prop} : (mPart none ps h).To Qo = Qo none h := by simp [mPart]
@[simp] theorem to_part1 {Qo : Option Int → PH → Prop} : (mPart (some m) ps h).To Qo = (m ps h).To fun x g => ∃ i, x = .int i ∧ Qo (some i) g := by
  simp only [mPart, to_bind]
  congr 1
  funext x g
  cases x <;> simp
@[simp] theorem to_cat : (mCat m1 m2 ps h).To Ql = (m1 ps h).To fun x g => (m2 ps g).To fun y g => OTo (lstOf x g) fun xs => OTo (lstOf y g) fun ys => xs.length + ys.length ≤ 16777216 ∧ Ql (xs ++ ys) g := by
  simp only [mCat, to_bind]
  congr 1
  funext x g
  congr 1
  funext y g
  cases lstOf x g with
  | none => simp
  | some xs => cases lstOf y g <;> simp
@[simp] theorem to_pnil {Qp : List (W × W) → PH → Prop} : (mPairs [] ps h).To Qp = Qp [] h := by simp [mPairs]
@[simp] theorem to_pcons {Qp : List (W × W) → PH → Prop} {r : List (EM × EM)} : (mPairs ((m1, m2) :: r) ps h).To Qp = (m1 ps h).To fun x g => (m2 ps g).To fun y g => (mPairs r ps g).To fun zs g => Qp ((x, y) :: zs) g := by simp [mPairs]
@[simp] theorem to_disp {r : List (EM × EM)} : (mDisp r ps h).To Q = (mPairs r ps h).To fun zs g => OTo (keysOf zs) fun kvs => kvs.length ≤ 15 ∧ Q (.ref g.length) (g ++ [.dK (mergeW [] kvs)]) := by
  simp only [mDisp, to_bind]
  congr 1
  funext zs g
  cases keysOf zs <;> simp
@[simp] theorem to_dict0 : (mDict0 ps h).To Q = Q (.ref h.length) (h ++ [.dK []]) := by simp [mDict0]
/-! statements -/
@[simp] theorem to_next : (sNext ps h).To N R B C = N ps h := by simp [sNext]
@[simp] theorem to_break : (sBreak ps h).To N R B C = B ps h := by simp [sBreak]
@[simp] theorem to_cont : (sCont ps h).To N R B C = C ps h := by simp [sCont]
@[simp] theorem to_retN : (sRetN ps h).To N R B C = R .non h := by simp [sRetN]
@[simp] theorem to_ret : (sRet m ps h).To N R B C = (m ps h).To R := by simp [sRet]
@[simp] theorem to_drop : (sDrop m ps h).To N R B C = (m ps h).To fun _ g => N ps g := by simp [sDrop]
theorem to_seq : (sSeq M M2 ps h).To N R B C = (M ps h).To (fun ps1 g => (M2 ps1 g).To N R B C) R B C := by
  unfold sSeq
  cases M ps h <;> simp
@[simp] theorem to_asg : (sAsg m g ps h).To N R B C = (m ps h).To fun w h1 => OTo (g w ps) fun ps1 => N ps1 h1 := by
  simp only [sAsg, to_thenS]
  congr 1
  funext w h1
  cases g w ps with
  | none => simp
  | some x => simp
@[simp] theorem to_sif : (sIf t M M2 ps h).To N R B C = (t ps h).To fun b g => Ite b ((M ps g).To N R B C) ((M2 ps g).To N R B C) := by
  simp only [sIf, to_thenS]
  congr 1
  funext b g
  cases b <;> simp
@[simp] theorem to_setix : (sSetIx m1 m2 m3 ps h).To N R B C = (m1 ps h).To fun w g => (m2 ps g).To fun x g => (m3 ps g).To fun y g => OTo (setW x y w g) fun g' => N ps g' := by
  simp only [sSetIx, to_thenS]
  congr 1
  funext w g
  congr 1
  funext x g
  congr 1
  funext y g
  cases setW x y w g with
  | none => simp
  | some z => simp
@[simp] theorem to_for : (sFor mi g M ps h).To N R B C = (mi ps h).To fun it h1 => (forGo it g M it.fuel 0 ps h1).To N R B C := by simp [sFor]
@[simp] theorem to_while {n : Nat} : (sWhile n t M ps h).To N R B C = (whGo t M n ps h).To N R B C := by simp only [sWhile]
@[simp] theorem gN_is {i : Nat} {w : W} : gN i w ps = some (ps.set i (some w)) := rfl
@[simp] theorem gT_is {r : GMs} {ws : List W} : gT r (.tup ws) ps = r ws ps := rfl
@[simp] theorem gnil_is : gNil' [] ps = some ps := rfl
@[simp] theorem gcons_is {r : GMs} {w : W} {ws : List W} : gCons' g r (w :: ws) ps = (g w ps).bind fun ps' => r ws ps' := rfl
@[simp] theorem to_iters : (mIterS l ps h).To Qi = (l ps h).To fun xs g => Qi (itS xs) g := by simp [mIterS]
@[simp] theorem to_iter {n : Nat} : (mIter n m ps h).To Qi = (m ps h).To fun x g => OTo (iterOf n x g) fun it => Qi it g := by
  simp only [mIter, to_bind]
  congr 1
  funext x g
  cases iterOf n x g <;> simp
@[simp] theorem to_enum {n : Nat} : (mEnum n m ps h).To Qi = (m ps h).To fun x g => OTo (iterE n x g) fun it => Qi it g := by
  simp only [mEnum, to_bind]
  congr 1
  funext x g
  cases iterE n x g <;> simp
@[simp] theorem to_enums : (mEnumS l ps h).To Qi = (l ps h).To fun xs g => Qi (itE (itS xs)) g := by simp [mEnumS]
@[simp] theorem to_range1 : (mRange1 m ps h).To Qi = (m ps h).To fun x g => ∃ j, x = .int j ∧ (-(2 ^ 62) ≤ j ∧ j < 2 ^ 62) ∧ Qi (itS (rangeW 0 j.toNat)) g := by
  simp only [mRange1, to_bind]
  congr 1
  funext x g
  cases x <;> simp
@[simp] theorem to_range2 : (mRange2 m1 m2 ps h).To Qi = (m1 ps h).To fun x g => (m2 ps g).To fun y g => ∃ i j, x = .int i ∧ y = .int j ∧ (-(2 ^ 62) ≤ i ∧ i < 2 ^ 62 ∧ -(2 ^ 62) ≤ j ∧ j < 2 ^ 62) ∧ Qi (itS (rangeW i (j - i).toNat)) g := by
  simp only [mRange2, to_bind]
  congr 1
  funext x g
  congr 1
  funext y g
  cases x <;> cases y <;> simp
/-- the first of two statements, with what follows out of sight -/
theorem seq_op (q : ∀ K : LS → PH → Prop, (∀ ps g, (M2 ps g).To N R B C → K ps g) → (M ps h).To K R B C) : (sSeq M M2 ps h).To N R B C := by
  rw [to_seq]
  exact q _ fun _ _ z => z
theorem seq_go {ps1 : LS} {h1 : PH} (q : ∀ K : LS → PH → Prop, K ps1 h1 → (M ps h).To K R B C) (r : (M2 ps1 h1).To N R B C) : (sSeq M M2 ps h).To N R B C := by
  rw [to_seq]
  exact q _ r
theorem seq_cut (Mid : LS → PH → Prop) (q : (M ps h).To Mid R B C) (r : ∀ ps g, Mid ps g → (M2 ps g).To N R B C) : (sSeq M M2 ps h).To N R B C := by
  rw [to_seq]
  exact q.mono r (fun _ _ z => z) (fun _ _ z => z) fun _ _ z => z
/-! loops -/
theorem for_gen {it : PIt} {items : List W} {g : GM} (I : Nat → LS → PH → Prop) (get : ∀ i ps h, I i ps h → it.get i h = some items[i]?)
    (step : ∀ i w ps h, items[i]? = some w → I i ps h → ∃ ps1, g w ps = some ps1 ∧ (M ps1 h).To (I (i + 1)) R N (I (i + 1))) (fin : ∀ ps h, I items.length ps h → N ps h) :
    ∀ (k i : Nat) (ps : LS) (h : PH), i ≤ items.length → items.length < i + k → I i ps h → (forGo it g M k i ps h).To N R B C
  | 0, i, ps, h, hi, hk, q => by omega
  | k + 1, i, ps, h, hi, hk, q => by
    unfold forGo
    rw [get i ps h q]
    cases e : items[i]? with
    | none =>
      have : i = items.length := by
        have := List.getElem?_eq_none_iff.mp e
        omega
      subst this
      rw [to_nx]
      exact fin ps h q
    | some w =>
      obtain ⟨ps1, e1, q1⟩ := step i w ps h e q
      have hl := (List.getElem?_eq_some_iff.mp e).1
      dsimp only
      rw [e1]
      dsimp only
      cases eb : M ps1 h with
      | nx a b =>
        rw [eb] at q1
        simp only [to_nx, to_ct] at q1
        exact for_gen I get step fin k (i + 1) a b (by omega) (by omega) q1
      | ct a b =>
        rw [eb] at q1
        simp only [to_nx, to_ct] at q1
        exact for_gen I get step fin k (i + 1) a b (by omega) (by omega) q1
      | bk a b => rw [eb] at q1; simpa using q1
      | rt a b => rw [eb] at q1; simpa using q1
      | exc a b c => rw [eb] at q1; simp at q1
      | stuck => rw [eb] at q1; simp at q1
theorem for_items {items : List W} {g : GM} (I : Nat → LS → PH → Prop) (h0 : I 0 ps h)
    (step : ∀ i w ps h, items[i]? = some w → I i ps h → ∃ ps1, g w ps = some ps1 ∧ (M ps1 h).To (I (i + 1)) R N (I (i + 1))) (fin : ∀ ps h, I items.length ps h → N ps h) :
    (forGo (itS items) g M (itS items).fuel 0 ps h).To N R B C := for_gen I (fun _ _ _ _ => rfl) step fin _ 0 ps h (Nat.zero_le _) (by simp [itS]) h0
def pairsW (items : List W) : List W := items.zipIdx.map fun p => .tup [.int (p.2 : Nat), p.1]
theorem pairs_get (items : List W) (i : Nat) : (pairsW items)[i]? = items[i]?.map fun w => .tup [.int (i : Nat), w] := by
  unfold pairsW
  rw [List.getElem?_map, List.getElem?_zipIdx]
  cases items[i]? <;> simp
theorem for_enum {items : List W} {g : GM} (I : Nat → LS → PH → Prop) (h0 : I 0 ps h)
    (step : ∀ (i : Nat) (w : W) ps h, items[i]? = some w → I i ps h → ∃ ps1, g (.tup [.int (i : Nat), w]) ps = some ps1 ∧ (M ps1 h).To (I (i + 1)) R N (I (i + 1))) (fin : ∀ ps h, I items.length ps h → N ps h) :
    (forGo (itE (itS items)) g M (itE (itS items)).fuel 0 ps h).To N R B C :=
  for_gen (items := pairsW items) I (fun i _ h _ => by rw [pairs_get]; rfl) (fun i w ps h e q => by
    rw [pairs_get] at e
    obtain ⟨w', e1, rfl⟩ := Option.map_eq_some_iff.mp e
    exact step i w' ps h e1 q) (fun ps h q => fin ps h (by simpa [pairsW] using q)) _ 0 ps h (Nat.zero_le _) (by simp [itE, itS, pairsW]) h0
/-- while: V what is left to do -/
theorem while_inv (I : Nat → LS → PH → Prop) (step : ∀ v ps h, I v ps h → (t ps h).To fun b h1 => Ite b ((M ps h1).To (fun ps2 h2 => ∃ v', v' < v ∧ I v' ps2 h2) R N (fun ps2 h2 => ∃ v', v' < v ∧ I v' ps2 h2)) (N ps h1)) :
    ∀ (n v : Nat) (ps : LS) (h : PH), v < n → I v ps h → (whGo t M n ps h).To N R B C
  | 0, v, ps, h, hv, q => by omega
  | n + 1, v, ps, h, hv, q => by
    unfold whGo
    rw [to_thenS]
    refine (step v ps h q).mono fun b h1 z => ?_
    cases b with
    | false => simpa using z
    | true =>
      simp only [if_true, Ite_true] at z ⊢
      cases eb : M ps h1 with
      | nx a b =>
        rw [eb] at z
        simp only [to_nx, to_ct] at z
        obtain ⟨v', hv', z⟩ := z
        exact while_inv I step n v' a b (by omega) z
      | ct a b =>
        rw [eb] at z
        simp only [to_nx, to_ct] at z
        obtain ⟨v', hv', z⟩ := z
        exact while_inv I step n v' a b (by omega) z
      | bk a b => rw [eb] at z; simpa using z
      | rt a b => rw [eb] at z; simpa using z
      | exc a b c => rw [eb] at z; simp at z
      | stuck => rw [eb] at z; simp at z
/-- a comprehension: J by the items gone and the list so far -/
theorem lc_gen {it : PIt} {items : List W} {g : GM} {tt : BM} {te : EM} {psw : LS} (J : Nat → List W → PH → Prop) (get : ∀ i acc h, J i acc h → it.get i h = some items[i]?)
    (step : ∀ i w acc h, items[i]? = some w → J i acc h → ∃ ps1, g w psw = some ps1 ∧ (tt ps1 h).To fun b h2 => Ite b ((te ps1 h2).To fun x h3 => acc.length < 16777216 ∧ J (i + 1) (acc ++ [x]) h3) (J (i + 1) acc h2)) (fin : ∀ acc h, J items.length acc h → Ql acc h) :
    ∀ (k i : Nat) (acc : List W) (h : PH), i ≤ items.length → items.length < i + k → J i acc h → (lcGo it g tt te psw k i acc h).To Ql
  | 0, i, acc, h, hi, hk, q => by omega
  | k + 1, i, acc, h, hi, hk, q => by
    unfold lcGo
    rw [get i acc h q]
    cases e : items[i]? with
    | none =>
      have : i = items.length := by
        have := List.getElem?_eq_none_iff.mp e
        omega
      subst this
      rw [to_ok]
      exact fin acc h q
    | some w =>
      obtain ⟨ps1, e1, q1⟩ := step i w acc h e q
      have hl := (List.getElem?_eq_some_iff.mp e).1
      dsimp only
      rw [e1]
      dsimp only
      cases et : tt ps1 h with
      | ok b h2 =>
        rw [et, to_ok] at q1
        cases b with
        | false => exact lc_gen J get step fin k (i + 1) acc h2 (by omega) (by omega) (by simpa using q1)
        | true =>
          have q1 : (te ps1 h2).To fun x h3 => acc.length < 16777216 ∧ J (i + 1) (acc ++ [x]) h3 := by simpa using q1
          cases ee : te ps1 h2 with
          | ok x h3 =>
            rw [ee, to_ok] at q1
            simp only [ee]
            rw [if_pos q1.1]
            exact lc_gen J get step fin k (i + 1) _ h3 (by omega) (by omega) q1.2
          | exc _ _ => rw [ee] at q1; simp at q1
          | stuck => rw [ee] at q1; simp at q1
      | exc _ _ => rw [et] at q1; simp at q1
      | stuck => rw [et] at q1; simp at q1
@[simp] theorem to_lc {tt : BM} {te : EM} {vs : List Nat} : (mLc mi g tt te vs ps h).To Ql = (mi ps h).To fun it h1 => (lcGo it g tt te (wipeW ps vs) it.fuel 0 [] h1).To Ql := by simp [mLc]
@[simp] theorem to_yes : (mYes ps h).To Qb = Qb true h := by simp [mYes]
theorem lc_items {items : List W} {g : GM} {tt : BM} {te : EM} {psw : LS} (J : Nat → List W → PH → Prop) (h0 : J 0 [] h)
    (step : ∀ i w acc h, items[i]? = some w → J i acc h → ∃ ps1, g w psw = some ps1 ∧ (tt ps1 h).To fun b h2 => Ite b ((te ps1 h2).To fun x h3 => acc.length < 16777216 ∧ J (i + 1) (acc ++ [x]) h3) (J (i + 1) acc h2)) (fin : ∀ acc h, J items.length acc h → Ql acc h) :
    (lcGo (itS items) g tt te psw (itS items).fuel 0 [] h).To Ql := lc_gen J (fun _ _ _ _ => rfl) step fin _ 0 [] h (Nat.zero_le _) (by simp [itS]) h0
theorem lc_enum {items : List W} {g : GM} {tt : BM} {te : EM} {psw : LS} (J : Nat → List W → PH → Prop) (h0 : J 0 [] h)
    (step : ∀ (i : Nat) (w : W) acc h, items[i]? = some w → J i acc h → ∃ ps1, g (.tup [.int (i : Nat), w]) psw = some ps1 ∧ (tt ps1 h).To fun b h2 => Ite b ((te ps1 h2).To fun x h3 => acc.length < 16777216 ∧ J (i + 1) (acc ++ [x]) h3) (J (i + 1) acc h2)) (fin : ∀ acc h, J items.length acc h → Ql acc h) :
    (lcGo (itE (itS items)) g tt te psw (itE (itS items)).fuel 0 [] h).To Ql :=
  lc_gen (items := pairsW items) J (fun i _ h _ => by rw [pairs_get]; rfl) (fun i w acc h e q => by
    rw [pairs_get] at e
    obtain ⟨w', e1, rfl⟩ := Option.map_eq_some_iff.mp e
    exact step i w' acc h e1 q) (fun acc h q => fin acc h (by simpa [pairsW] using q)) _ 0 [] h (Nat.zero_le _) (by simp [itE, itS, pairsW]) h0
/-- over a list of the heap that stays -/
theorem lc_live {n fuel : Nat} {items : List W} {g : GM} {tt : BM} {te : EM} {psw : LS} (hf : items.length < fuel) (J : Nat → List W → PH → Prop) (stay : ∀ i acc h, J i acc h → h[n]? = some (.lst items)) (h0 : J 0 [] h)
    (step : ∀ i w acc h, items[i]? = some w → J i acc h → ∃ ps1, g w psw = some ps1 ∧ (tt ps1 h).To fun b h2 => Ite b ((te ps1 h2).To fun x h3 => acc.length < 16777216 ∧ J (i + 1) (acc ++ [x]) h3) (J (i + 1) acc h2)) (fin : ∀ acc h, J items.length acc h → Ql acc h) :
    (lcGo (itL n fuel) g tt te psw (itL n fuel).fuel 0 [] h).To Ql := lc_gen J (fun i acc h q => by simp only [itL, stay i acc h q]) step fin _ 0 [] h (Nat.zero_le _) (by simpa [itL] using hf) h0
theorem for_live {n fuel : Nat} {items : List W} {g : GM} (hf : items.length < fuel) (I : Nat → LS → PH → Prop) (stay : ∀ i ps h, I i ps h → h[n]? = some (.lst items)) (h0 : I 0 ps h)
    (step : ∀ i w ps h, items[i]? = some w → I i ps h → ∃ ps1, g w ps = some ps1 ∧ (M ps1 h).To (I (i + 1)) R N (I (i + 1))) (fin : ∀ ps h, I items.length ps h → N ps h) :
    (forGo (itL n fuel) g M (itL n fuel).fuel 0 ps h).To N R B C := for_gen I (fun i ps h q => by simp only [itL, stay i ps h q]) step fin _ 0 ps h (Nat.zero_le _) (by simpa [itL] using hf) h0
theorem run_to {n : Nat} {ws : List W} : (runB n M ws h).To Q = (M (startW n ws) h).To (fun _ g => Q .non g) Q (fun _ _ => False) fun _ _ => False := by
  unfold runB
  cases M (startW n ws) h <;> simp
end
end Mir

/-! Mir: operators at values of known form; equality of plain data. -/
namespace Mir
open PySem PySem.Spec PyProof.Rows L2

section
variable {i j k : Int} {x y : W} {h : PH} {n : Nat} {xs ys : List W} {s t : Str} {b c : Bool}
@[simp] theorem wAdd_int : wAdd (.int i) (.int j) h = some (.int (i + j), h) := rfl
@[simp] theorem wAdd_str : wAdd (.str s) (.str t) h = if s.length + t.length ≤ 16777216 then some (.str (s ++ t), h) else none := rfl
@[simp] theorem wAdd_tup : wAdd (.tup xs) (.tup ys) h = if xs.length + ys.length ≤ 16777216 then some (.tup (xs ++ ys), h) else none := rfl
@[simp] theorem wAdd_fix : wAdd (.fix xs) (.fix ys) h = if xs.length + ys.length ≤ 16777216 then some (.fix (xs ++ ys), h) else none := rfl
@[simp] theorem wSub_int : wSub (.int i) (.int j) h = some (.int (i - j), h) := rfl
@[simp] theorem wMod_int : wMod (.int i) (.int j) h = if 0 < j then some (.int (i % j), h) else none := by
  show ((if 0 < j then some (W.int (i % j)) else none).map fun w => (w, h)) = _
  by_cases q : 0 < j <;> simp [q]
@[simp] theorem wFdiv_int : wFdiv (.int i) (.int j) h = if 0 < j ∧ j.natAbs.log2 < 9000 then some (.int (i / j), h) else none := by
  show ((if 0 < j ∧ j.natAbs.log2 < 9000 then some (W.int (i / j)) else none).map fun w => (w, h)) = _
  by_cases q : 0 < j ∧ j.natAbs.log2 < 9000 <;> simp [q]
@[simp] theorem wMul_int : wMul (.int i) (.int j) h = if (-(2 ^ 64) < i ∧ i < 2 ^ 64) ∨ (-(2 ^ 64) < j ∧ j < 2 ^ 64) then some (.int (i * j), h) else none := rfl
@[simp] theorem wNeg_int : wNeg (.int i) h = some (.int (-i), h) := rfl
@[simp] theorem wLt_int : wLt (.int i) (.int j) h = some (.bl (decide (i < j)), h) := rfl
@[simp] theorem wLe_int : wLe (.int i) (.int j) h = some (.bl (decide (i ≤ j)), h) := rfl
@[simp] theorem wGt_int : wGt (.int i) (.int j) h = some (.bl (decide (j < i)), h) := rfl
@[simp] theorem wGe_int : wGe (.int i) (.int j) h = some (.bl (decide (j ≤ i)), h) := rfl
theorem beq_dec (i j : Int) : (i == j) = decide (i = j) := by
  by_cases h : i = j <;> simp [h]
@[simp] theorem wEq_int : wEq (.int i) (.int j) h = some (.bl (decide (i = j)), h) := by
  show some (W.bl (i == j), h) = _
  rw [beq_dec]
@[simp] theorem wNe_int : wNe (.int i) (.int j) h = some (.bl (!decide (i = j)), h) := by
  show some (W.bl (!(i == j)), h) = _
  rw [beq_dec]
@[simp] theorem wEq_str : wEq (.str s) (.str t) h = some (.bl (decide (s = t)), h) := by
  show some (W.bl (s == t), h) = _
  by_cases q : s = t <;> simp [q]
@[simp] theorem wNe_str : wNe (.str s) (.str t) h = some (.bl (!decide (s = t)), h) := by
  show some (W.bl (!(s == t)), h) = _
  by_cases q : s = t <;> simp [q]
@[simp] theorem wIs_non : wIs x .non h = some (.bl (isNonW x), h) := by cases x <;> rfl
@[simp] theorem wIs_bl : wIs (.bl b) (.bl c) h = some (.bl (decide (b = c)), h) := rfl
@[simp] theorem wIsNot_non : wIsNot x .non h = some (.bl (!isNonW x), h) := by cases x <;> rfl
@[simp] theorem wIsNot_bl : wIsNot (.bl b) (.bl c) h = some (.bl (!decide (b = c)), h) := rfl
@[simp] theorem wIx_tup : wIx (.tup xs) (.int i) h = (atI xs i).map fun w => (w, h) := rfl
@[simp] theorem wIx_fix : wIx (.fix xs) (.int i) h = (atI xs i).map fun w => (w, h) := rfl
theorem wIx_lst (e : h[n]? = some (.lst xs)) : wIx (.ref n) (.int i) h = (atI xs i).map fun w => (w, h) := by simp only [wIx, e]
theorem atI_nat {α : Type} (l : List α) (i : Int) (h0 : 0 ≤ i) : atI l i = l[i.toNat]? := by
  unfold atI ixN
  rw [if_pos h0]
  by_cases h1 : i < l.length
  · rw [if_pos h1]; rfl
  · rw [if_neg h1, List.getElem?_eq_none (by omega)]
    rfl
theorem oto_at {α : Type} {Q : α → Prop} {l : List α} {i : Int} (h0 : 0 ≤ i) (h1 : i < l.length) (q : ∀ a, l[i.toNat]? = some a → a ∈ l → Q a) : OTo (atI l i) Q := by
  rw [atI_nat l i h0, List.getElem?_eq_getElem (by omega), oto_some]
  exact q _ (List.getElem?_eq_getElem (by omega)) (List.getElem_mem _)
theorem atI_map {α β : Type} (f : α → β) (l : List α) (i : Int) : atI (l.map f) i = (atI l i).map f := by
  unfold atI
  rw [List.length_map]
  cases ixN l.length i <;> simp
theorem setW_lst (e : h[n]? = some (.lst xs)) (h0 : 0 ≤ i) (h1 : i.toNat < xs.length) : setW (.ref n) (.int i) x h = some (h.set n (.lst (xs.set i.toNat x))) := by
  simp only [setW, e, ixN]
  rw [if_pos h0, if_pos (by omega)]
  rfl
@[simp] theorem wLen_tup : wLen [.tup xs] h = some (.int xs.length, h) := rfl
@[simp] theorem wLen_fix : wLen [.fix xs] h = some (.int xs.length, h) := rfl
theorem wLen_lst (e : h[n]? = some (.lst xs)) : wLen [.ref n] h = some (.int xs.length, h) := by simp only [wLen, e]
@[simp] theorem wLenQ_is : wLenQ xs h = some (.int xs.length, h) := rfl
@[simp] theorem wAbs_int : wAbs [.int i] h = some (.int (if i < 0 then -i else i), h) := rfl
@[simp] theorem wMax2_int : wMax2 [.int i, .int j] h = some (.int (if j > i then j else i), h) := rfl
@[simp] theorem wMin2_int : wMin2 [.int i, .int j] h = some (.int (if j < i then j else i), h) := rfl
@[simp] theorem wInt_int : wInt [.int i] h = some (.int i, h) := rfl
@[simp] theorem wInt_bl : wInt [.bl b] h = some (.int (if b then 1 else 0), h) := rfl
@[simp] theorem wTupQ_is : wTupQ xs h = some (.tup xs, h) := rfl
@[simp] theorem lId_is : lId xs h = some (xs, h) := rfl
@[simp] theorem seqOf_tup : seqOf (.tup xs) h = some xs := rfl
@[simp] theorem seqOf_fix : seqOf (.fix xs) h = some xs := rfl
theorem seqOf_lst (e : h[n]? = some (.lst xs)) : seqOf (.ref n) h = some xs := by simp only [seqOf, e]
@[simp] theorem lstOf_fix : lstOf (.fix xs) h = some xs := rfl
theorem lstOf_lst (e : h[n]? = some (.lst xs)) : lstOf (.ref n) h = some xs := by simp only [lstOf, e]
theorem wAppend_lst (e : h[n]? = some (.lst xs)) : wAppend (.ref n) [x] h = if xs.length < 16777216 then some (.non, h.set n (.lst (xs ++ [x]))) else none := by simp only [wAppend, e]
theorem tyW_lst (e : h[n]? = some (.lst xs)) : tyW "list" (.ref n) h = true := by simp only [tyW, e]; rfl
@[simp] theorem iterOf_tup : iterOf n (.tup xs) h = some (itS xs) := rfl
@[simp] theorem iterOf_fix : iterOf n (.fix xs) h = some (itS xs) := rfl
@[simp] theorem iterE_tup : iterE n (.tup xs) h = some (itE (itS xs)) := rfl
@[simp] theorem iterE_fix : iterE n (.fix xs) h = some (itE (itS xs)) := rfl
@[simp] theorem isNon_non : isNonW .non = true := rfl
@[simp] theorem isNon_tup : isNonW (.tup xs) = false := rfl
@[simp] theorem isNon_int : isNonW (.int i) = false := rfl
@[simp] theorem isNon_ref : isNonW (.ref n) = false := rfl
@[simp] theorem refs_int : refsW (.int i) = [] := rfl
@[simp] theorem refs_str : refsW (.str s) = [] := rfl
@[simp] theorem refs_non : refsW .non = [] := rfl
@[simp] theorem refs_bl : refsW (.bl b) = [] := rfl
@[simp] theorem refs_tup : refsW (.tup xs) = refsWs xs := by simp only [refsW]
@[simp] theorem refs_fix : refsW (.fix xs) = refsWs xs := by simp only [refsW]
@[simp] theorem refs_ref : refsW (.ref n) = [n] := by simp only [refsW]
@[simp] theorem refs_nil : refsWs [] = [] := by simp only [refsWs]
@[simp] theorem refs_cons : refsWs (x :: xs) = refsW x ++ refsWs xs := by simp only [refsWs]
@[simp] theorem refs_lst : refsO (.lst xs) = refsWs xs := rfl
@[simp] theorem refs_app : refsWs (xs ++ ys) = refsWs xs ++ refsWs ys := by
  induction xs with
  | nil => simp
  | cons a l ih => simp [ih]
theorem refs_all (q : ∀ x ∈ xs, refsW x = []) : refsWs xs = [] := by
  induction xs with
  | nil => simp
  | cons a l ih => simp [q a List.mem_cons_self, ih fun x hx => q x (List.mem_cons_of_mem _ hx)]
theorem refs_map {α : Type} (f : α → W) (l : List α) (q : ∀ a ∈ l, refsW (f a) = []) : refsWs (l.map f) = [] := refs_all fun x hx => by
  obtain ⟨a, ha, rfl⟩ := List.mem_map.mp hx
  exact q a ha
@[simp] theorem refs_ints (ns : List Int) : refsWs (ns.map W.int) = [] := refs_map _ _ fun _ _ => rfl
end

/-! ### plain data -/
mutual
/-- no truth, no thing of the heap; n deep -/
def plW : Nat → W → Bool
  | _, .non => true
  | _, .int _ => true
  | _, .str x => PyData.strOk x
  | 0, _ => false
  | n + 1, .tup xs => plWs n xs
  | n + 1, .fix xs => plWs n xs
  | _, _ => false
def plWs : Nat → List W → Bool
  | _, [] => true
  | n, x :: xs => plW n x && plWs n xs
end
mutual
def dT : W → PyData
  | .non => .none
  | .bl b => .bool b
  | .int i => .int i
  | .str x => .str x
  | .tup xs => .tuple (dTs xs)
  | .fix xs => .list (dTs xs)
  | .ref _ => .none
  | .exc _ => .none
def dTs : List W → List PyData
  | [] => []
  | x :: xs => dT x :: dTs xs
end
mutual
theorem dat_pl (look : Nat → Option PyData) : ∀ (n : Nat) (w : W), plW n w = true → datS look w = some (dT w) ∧ (dT w).canLay0 = true ∧ (dT w).depth ≤ n
  | n, .non, _ => ⟨rfl, rfl, by simp [dT, PyData.depth]⟩
  | n, .int _, _ => ⟨rfl, rfl, by simp [dT, PyData.depth]⟩
  | n, .str x, h => by
    have h : PyData.strOk x = true := by cases n <;> simpa [plW] using h
    exact ⟨rfl, by simpa [dT, PyData.canLay0] using h, by simp [dT, PyData.depth]⟩
  | 0, .tup xs, h => by simp [plW] at h
  | 0, .fix xs, h => by simp [plW] at h
  | 0, .bl xs, h => by simp [plW] at h
  | 0, .ref xs, h => by simp [plW] at h
  | 0, .exc xs, h => by simp [plW] at h
  | n + 1, .bl xs, h => by simp [plW] at h
  | n + 1, .ref xs, h => by simp [plW] at h
  | n + 1, .exc xs, h => by simp [plW] at h
  | n + 1, .tup xs, h => by
    obtain ⟨a, b, c⟩ := dats_pl look n xs (by simpa only [plW] using h)
    exact ⟨by simp only [datS, a, Option.map_some, dT], by simpa only [dT, PyData.canLay0] using b, by simp only [dT, PyData.depth]; omega⟩
  | n + 1, .fix xs, h => by
    obtain ⟨a, b, c⟩ := dats_pl look n xs (by simpa only [plW] using h)
    exact ⟨by simp only [datS, a, Option.map_some, dT], by simpa only [dT, PyData.canLay0] using b, by simp only [dT, PyData.depth]; omega⟩
theorem dats_pl (look : Nat → Option PyData) : ∀ (n : Nat) (ws : List W), plWs n ws = true → datSs look ws = some (dTs ws) ∧ PyData.canLayAll0 (dTs ws) = true ∧ PyData.depthAll (dTs ws) ≤ n
  | n, [], _ => ⟨rfl, rfl, by simp [dTs, PyData.depthAll]⟩
  | n, x :: xs, h => by
    simp only [plWs, Bool.and_eq_true] at h
    obtain ⟨a, b, c⟩ := dat_pl look n x h.1
    obtain ⟨a2, b2, c2⟩ := dats_pl look n xs h.2
    exact ⟨by simp only [datSs, a, a2, dTs], by simp only [dTs, PyData.canLayAll0, b, b2, Bool.and_self], by simp only [dTs, PyData.depthAll]; omega⟩
end
theorem plF_ref {m n : Nat} : plW m (.ref n) = false := by cases m <;> simp [plW]
theorem plF_exc {m : Nat} {x : XV} : plW m (.exc x) = false := by cases m <;> simp [plW]
theorem plF_bl {m : Nat} {b : Bool} : plW m (.bl b) = false := by cases m <;> simp [plW]
mutual
theorem eqv_pl : ∀ (n : Nat) (x y : W) (m : Nat), plW n x = true → plW m y = true → (PyData.eqv (dT x) (dT y) = true ↔ x = y)
  | n, .non, y, m, h, k => by
    cases y with
    | ref q => rw [plF_ref] at k; cases k
    | exc q => rw [plF_exc] at k; cases k
    | bl b => rw [plF_bl] at k; cases k
    | _ => simp [dT, PyData.eqv]
  | n, .int i, y, m, h, k => by
    cases y with
    | ref q => rw [plF_ref] at k; cases k
    | exc q => rw [plF_exc] at k; cases k
    | bl b => rw [plF_bl] at k; cases k
    | _ => simp [dT, PyData.eqv]
  | n, .str i, y, m, h, k => by
    cases y with
    | ref q => rw [plF_ref] at k; cases k
    | exc q => rw [plF_exc] at k; cases k
    | bl b => rw [plF_bl] at k; cases k
    | _ => simp [dT, PyData.eqv]
  | 0, .tup xs, y, m, h, k => by simp [plW] at h
  | 0, .fix xs, y, m, h, k => by simp [plW] at h
  | 0, .bl xs, y, m, h, k => by simp [plW] at h
  | 0, .ref xs, y, m, h, k => by simp [plW] at h
  | 0, .exc xs, y, m, h, k => by simp [plW] at h
  | n + 1, .bl xs, y, m, h, k => by simp [plW] at h
  | n + 1, .ref xs, y, m, h, k => by simp [plW] at h
  | n + 1, .exc xs, y, m, h, k => by simp [plW] at h
  | n + 1, .tup xs, y, m, h, k => by
    simp only [plW] at h
    cases y with
    | tup ys =>
      cases m with
      | zero => simp [plW] at k
      | succ m =>
        simp only [plW] at k
        simp only [dT, PyData.eqv, W.tup.injEq]
        exact eqvs_pl n xs ys m h k
    | _ => simp [dT, PyData.eqv]
  | n + 1, .fix xs, y, m, h, k => by
    simp only [plW] at h
    cases y with
    | fix ys =>
      cases m with
      | zero => simp [plW] at k
      | succ m =>
        simp only [plW] at k
        simp only [dT, PyData.eqv, W.fix.injEq]
        exact eqvs_pl n xs ys m h k
    | _ => simp [dT, PyData.eqv]
theorem eqvs_pl : ∀ (n : Nat) (xs ys : List W) (m : Nat), plWs n xs = true → plWs m ys = true → (PyData.eqvAll (dTs xs) (dTs ys) = true ↔ xs = ys)
  | n, [], [], m, h, k => by simp [dTs, PyData.eqvAll]
  | n, [], y :: ys, m, h, k => by simp [dTs, PyData.eqvAll]
  | n, x :: xs, [], m, h, k => by simp [dTs, PyData.eqvAll]
  | n, x :: xs, y :: ys, m, h, k => by
    simp only [plWs, Bool.and_eq_true] at h k
    simp only [dTs, PyData.eqvAll, Bool.and_eq_true, List.cons.injEq, eqv_pl n x y m h.1 k.1, eqvs_pl n xs ys m h.2 k.2]
end
theorem shaped_pl {n : Nat} {d : PyData} (h1 : d.canLay0 = true) (h2 : d.depth ≤ n) (hn : n ≤ 64) : SeqAt.shaped d = true := by
  unfold SeqAt.shaped
  rw [h1, decide_eq_true (by omega : d.depth ≤ 64)]
  rfl
noncomputable instance : DecidableEq W := fun _ _ => Classical.propDecidable _
/-- == of plain data, wherever it lies -/
theorem eqB_dat {x y : W} {h : PH} {d e : PyData} (hx : dat h x = some d) (hy : dat h y = some e) (sx : SeqAt.shaped d = true) (sy : SeqAt.shaped e = true) (hb : ∀ b, x ≠ .bl b) : eqB x y h = some (PyData.eqv d e) := by
  unfold eqB
  split
  case h_1 => cases hx; cases hy; simp [PyData.eqv]
  case h_2 => cases hx; cases hy; simp [PyData.eqv]
  case h_3 => cases hx; cases hy; simp [PyData.eqv]
  case h_4 => cases hx; cases hy; simp [PyData.eqv]
  case h_5 => cases hx; cases hy; simp [PyData.eqv]
  case h_6 => cases hx; cases hy; simp [PyData.eqv]
  case h_7 => cases hx; cases hy; simp [PyData.eqv]
  case h_8 => cases hx; cases hy; simp [PyData.eqv]
  case h_9 => cases hx; cases hy; simp [PyData.eqv]
  case h_10 => exact absurd rfl (hb _)
  case h_11 =>
    simp only [hx, hy]
    rw [if_pos ⟨sx, sy⟩]
theorem eqB_pl {x y : W} {h : PH} {n m : Nat} (hx : plW n x = true) (hy : plW m y = true) (hn : n ≤ 64) (hm : m ≤ 64) : eqB x y h = some (decide (x = y)) := by
  obtain ⟨a, b, c⟩ := dat_pl (datL 4 h) n x hx
  obtain ⟨a2, b2, c2⟩ := dat_pl (datL 4 h) m y hy
  rw [eqB_dat a a2 (shaped_pl b c hn) (shaped_pl b2 c2 hm) (fun b z => by subst z; cases n <;> simp [plW] at hx)]
  have := eqv_pl n x y m hx hy
  congr 1
  by_cases q : x = y
  · rw [this.mpr q, decide_eq_true q]
  · rw [decide_eq_false q]
    cases e : PyData.eqv (dT x) (dT y) with
    | false => rfl
    | true => exact absurd (this.mp e) q
theorem wEq_pl {x y : W} {h : PH} {n m : Nat} (hx : plW n x = true) (hy : plW m y = true) (hn : n ≤ 64) (hm : m ≤ 64) : wEq x y h = some (.bl (decide (x = y)), h) := by
  unfold wEq
  rw [eqB_pl hx hy hn hm]
  rfl
theorem wNe_pl {x y : W} {h : PH} {n m : Nat} (hx : plW n x = true) (hy : plW m y = true) (hn : n ≤ 64) (hm : m ≤ 64) : wNe x y h = some (.bl (!decide (x = y)), h) := by
  unfold wNe
  rw [eqB_pl hx hy hn hm]
  rfl
/-- a list of the heap, of plain data -/
theorem dat_lst {h : PH} {n k : Nat} {xs : List W} (e : h[n]? = some (.lst xs)) (hx : plWs k xs = true) : dat h (.ref n) = some (dT (.fix xs)) := by
  have := (dats_pl (datL 3 h) k xs hx).1
  show datL 4 h n = _
  unfold datL
  rw [e]
  dsimp only
  rw [this]
  simp only [Option.map_some, dT]
theorem eqB_lst {h : PH} {n k m : Nat} {xs : List W} {y : W} (e : h[n]? = some (.lst xs)) (hx : plWs k xs = true) (hy : plW m y = true) (hk : k < 64) (hm : m ≤ 64) : eqB (.ref n) y h = some (decide (W.fix xs = y)) := by
  have hx2 : plW (k + 1) (.fix xs) = true := by simpa only [plW] using hx
  obtain ⟨a, b, c⟩ := dat_pl (datL 4 h) (k + 1) (.fix xs) hx2
  obtain ⟨a2, b2, c2⟩ := dat_pl (datL 4 h) m y hy
  rw [eqB_dat (dat_lst e hx) a2 (shaped_pl b c (by omega)) (shaped_pl b2 c2 hm) (fun b z => by cases z)]
  have := eqv_pl (k + 1) (.fix xs) y m hx2 hy
  congr 1
  by_cases q : W.fix xs = y
  · rw [this.mpr q, decide_eq_true q]
  · rw [decide_eq_false q]
    cases e : PyData.eqv (dT (.fix xs)) (dT y) with
    | false => rfl
    | true => exact absurd (this.mp e) q
theorem eqB_lst2 {h : PH} {n n' k m : Nat} {xs ys : List W} (e : h[n]? = some (.lst xs)) (hx : plWs k xs = true) (e2 : h[n']? = some (.lst ys)) (hy : plWs m ys = true) (hk : k < 64) (hm : m < 64) : eqB (.ref n) (.ref n') h = some (decide (xs = ys)) := by
  have hx2 : plW (k + 1) (.fix xs) = true := by simpa only [plW] using hx
  have hy2 : plW (m + 1) (.fix ys) = true := by simpa only [plW] using hy
  obtain ⟨a, b, c⟩ := dat_pl (datL 4 h) (k + 1) (.fix xs) hx2
  obtain ⟨a2, b2, c2⟩ := dat_pl (datL 4 h) (m + 1) (.fix ys) hy2
  rw [eqB_dat (dat_lst e hx) (dat_lst e2 hy) (shaped_pl b c (by omega)) (shaped_pl b2 c2 (by omega)) (fun b z => by cases z)]
  have := eqv_pl (k + 1) (.fix xs) (.fix ys) (m + 1) hx2 hy2
  congr 1
  by_cases q : xs = ys
  · rw [this.mpr (by rw [q]), decide_eq_true q]
  · rw [decide_eq_false q]
    cases e : PyData.eqv (dT (.fix xs)) (dT (.fix ys)) with
    | false => rfl
    | true => exact absurd (by simpa using this.mp e) q
theorem pls_all {n : Nat} {xs : List W} (h : ∀ x ∈ xs, plW n x = true) : plWs n xs = true := by
  induction xs with
  | nil => rfl
  | cons a l ih => simp only [plWs, h a List.mem_cons_self, ih fun x hx => h x (List.mem_cons_of_mem _ hx), Bool.and_self]
theorem pls_map {α : Type} {n : Nat} (f : α → W) (l : List α) (h : ∀ a ∈ l, plW n (f a) = true) : plWs n (l.map f) = true := pls_all fun x hx => by
  obtain ⟨a, ha, rfl⟩ := List.mem_map.mp hx
  exact h a ha
@[simp] theorem pl_int {n : Nat} {i : Int} : plW n (.int i) = true := by cases n <;> rfl
@[simp] theorem pl_non {n : Nat} : plW n .non = true := by cases n <;> rfl
@[simp] theorem pl_str {n : Nat} {s : Str} : plW n (.str s) = PyData.strOk s := by cases n <;> rfl
@[simp] theorem pl_tup {n : Nat} {xs : List W} : plW (n + 1) (.tup xs) = plWs n xs := by simp only [plW]
@[simp] theorem pl_fix {n : Nat} {xs : List W} : plW (n + 1) (.fix xs) = plWs n xs := by simp only [plW]
@[simp] theorem pls_nil {n : Nat} : plWs n [] = true := by simp only [plWs]
@[simp] theorem pls_cons {n : Nat} {x : W} {xs : List W} : plWs n (x :: xs) = (plW n x && plWs n xs) := by simp only [plWs]
@[simp] theorem pls_ints {n : Nat} (l : List Int) : plWs n (l.map W.int) = true := pls_map _ _ fun _ _ => pl_int
theorem flat_ints (l : List Int) : (l.map W.int).all flatW = true := by
  induction l with
  | nil => rfl
  | cons a r ih => simp [flatW]
theorem any_ints (x : Int) (l : List Int) : ((l.map W.int).any fun z => eqF z (.int x)) = decide (x ∈ l) := by
  induction l with
  | nil => simp
  | cons a r ih =>
    rw [List.map_cons, List.any_cons, ih]
    by_cases h : x = a
    · subst h
      simp [eqF]
    · have : (a == x) = false := by simp [Ne.symm h]
      simp [eqF, this, h]
theorem inW_ints (x : Int) (l : List Int) (h : PH) : inW (.int x) (.fix (l.map W.int)) h = some (decide (x ∈ l)) := by
  simp only [inW]
  rw [if_pos ⟨rfl, flat_ints l⟩, any_ints]
@[simp] theorem wIn_ints {x : Int} {l : List Int} {h : PH} : wIn (.int x) (.fix (l.map W.int)) h = some (.bl (decide (x ∈ l)), h) := by
  unfold wIn
  rw [inW_ints]
  rfl
@[simp] theorem wNotIn_ints {x : Int} {l : List Int} {h : PH} : wNotIn (.int x) (.fix (l.map W.int)) h = some (.bl (!decide (x ∈ l)), h) := by
  unfold wNotIn
  rw [inW_ints]
  rfl
theorem lift1_to {F : FM} {n : Nat} {o : OB} {r : List W} {h : PH} {Q : W → PH → Prop} {P : W → OB → Prop} (e : h[n]? = some o) (ho : refsO o = []) (hw : refsWs r = []) (run : (F (.ref 0 :: r) [o]).To fun w g => ∃ o2 g2, g = o2 :: g2 ∧ refsO o2 = [] ∧ refsW w = [] ∧ P w o2)
    (q : ∀ w o2, P w o2 → Q w (h.set n o2)) : (lift1 F (.ref n :: r) h).To Q := by
  obtain ⟨w, g, e1, o2, g2, rfl, h2, hr, p⟩ := run.is
  rw [lift1_plain e ho hw e1 h2 hr, to_ok]
  exact q w o2 p
theorem lift0_to {F : FM} {ws : List W} {h : PH} {Q : W → PH → Prop} {P : W → Prop} (hw : refsWs ws = []) (run : (F ws []).To fun w g => refsW w = [] ∧ P w) (q : ∀ w, P w → Q w h) : (lift0 F ws h).To Q := by
  obtain ⟨w, g, e1, hr, p⟩ := run.is
  rw [lift0_plain hw e1 hr, to_ok]
  exact q w p
theorem lift0_lst {F : FM} {ws : List W} {h : PH} {Q : W → PH → Prop} {P : List W → Prop} (hw : refsWs ws = []) (run : (F ws []).To fun w g => ∃ k xs, w = .ref k ∧ g[k]? = some (.lst xs) ∧ refsWs xs = [] ∧ P xs) (q : ∀ xs, P xs → Q (.ref h.length) (h ++ [.lst xs])) : (lift0 F ws h).To Q := by
  obtain ⟨w, g, e1, k, xs, rfl, eg, hr, p⟩ := run.is
  rw [lift0_list hw e1 eg hr, to_ok]
  exact q xs p
/-- a tuple of a fresh list and something plain -/
theorem lift0_pair {F : FM} {ws : List W} {h : PH} {Q : W → PH → Prop} {P : List W → W → Prop} (hw : refsWs ws = []) (run : (F ws []).To fun w g => ∃ k xs y, w = .tup [.ref k, y] ∧ g[k]? = some (.lst xs) ∧ refsWs xs = [] ∧ refsW y = [] ∧ P xs y)
    (q : ∀ xs y, P xs y → Q (.tup [.ref h.length, y]) (h ++ [.lst xs])) : (lift0 F ws h).To Q := by
  obtain ⟨w, g, e1, k, xs, y, rfl, eg, hx, hy, p⟩ := run.is
  have r1 : objs g [k] = [] := by simp [objs, eg, refsO, hx]
  have r2 : objs g [] = [] := rfl
  have rk : reach g [k] = [k] := by unfold reach; rw [r1, r2]; rfl
  have hl := (List.getElem?_eq_some_iff.mp eg).1
  have er : refsW (.tup [.ref k, y]) = [k] := by simp [hy]
  unfold lift0
  rw [if_pos hw, e1]
  unfold outR
  dsimp only
  rw [er, rk, if_pos (by simp [apt, r1, hl])]
  have e2 : renW (pos [k] h.length) (.tup [.ref k, y]) = .tup [.ref h.length, y] := by simp [renW, renWs, pos, ren_id y hy]
  have e3 : news g [k] h.length = [.lst xs] := by simp [news, eg, renO, rens_id xs hx]
  rw [e2, e3, to_ok]
  exact q xs y p
theorem atI_neg1 {α : Type} (l : List α) (x : α) : atI (l ++ [x]) (-1) = some x := by
  unfold atI ixN
  rw [if_neg (by decide), List.length_append, List.length_singleton, if_pos (by omega)]
  have : (-1 + ((l.length + 1 : Nat) : Int)).toNat = l.length := by omega
  show (l ++ [x])[(-1 + ((l.length + 1 : Nat) : Int)).toNat]? = some x
  rw [this]
  simp
@[simp] theorem tyName_int {h : PH} {i : Int} : tyName (.int i) h = some "int" := rfl
@[simp] theorem tyName_bl {h : PH} {i : Bool} : tyName (.bl i) h = some "bool" := rfl
@[simp] theorem tyName_str {h : PH} {i : Str} : tyName (.str i) h = some "str" := rfl
@[simp] theorem tyName_non {h : PH} : tyName .non h = some "NoneType" := rfl
@[simp] theorem tyName_tup {h : PH} {i : List W} : tyName (.tup i) h = some "tuple" := rfl
@[simp] theorem tyName_fix {h : PH} {i : List W} : tyName (.fix i) h = some "list" := rfl
theorem tyName_lst {h : PH} {n : Nat} {xs : List W} (e : h[n]? = some (.lst xs)) : tyName (.ref n) h = some "list" := by simp only [tyName, e]
@[simp] theorem tru_bl {h : PH} {b : Bool} : tru (.bl b) h = some b := rfl
@[simp] theorem isB_ii : isB "int" "int" = true := rfl
@[simp] theorem isB_ib : isB "int" "bool" = false := by decide
@[simp] theorem isB_bi : isB "bool" "int" = true := by decide
@[simp] theorem isB_bb : isB "bool" "bool" = true := rfl
@[simp] theorem isB_ss : isB "str" "str" = true := rfl
@[simp] theorem isB_si : isB "str" "int" = false := by decide
@[simp] theorem isB_ni : isB "NoneType" "int" = false := by decide
@[simp] theorem isB_ti : isB "tuple" "int" = false := by decide
@[simp] theorem isB_li : isB "list" "int" = false := by decide
@[simp] theorem isB_ll : isB "list" "list" = true := rfl
@[simp] theorem isB_tt : isB "tuple" "tuple" = true := rfl
end Mir

/-! Mir: repr of plain data is told; == of what lies in the heap. -/
namespace Mir
open PySem PySem.Spec PyProof.Rows L2
mutual
/-- small numbers, plain signs, nothing of the heap -/
def smW : W → Bool
  | .int i => decide (i.natAbs < 10000000)
  | .str x => x.cps.toList.all fun c => decide (c < 16 ^ 8)
  | .tup xs => smWs xs
  | .fix xs => smWs xs
  | .ref _ => false
  | .exc _ => false
  | _ => true
def smWs : List W → Bool
  | [] => true
  | x :: xs => smW x && smWs xs
end
mutual
/-- how great at most -/
def wB : W → Nat
  | .int _ => 24
  | .str x => x.cps.size
  | .tup xs => wBs xs
  | .fix xs => wBs xs
  | _ => 0
def wBs : List W → Nat
  | [] => 0
  | x :: xs => wB x + 1 + wBs xs
end
mutual
theorem sm_of : ∀ w : W, smW w = true → (dT w).leavesShort 8 = true ∧ (dT w).showable = true ∧ (dT w).hasDict = false ∧ (dT w).weight ≤ wB w
  | .non, _ => ⟨rfl, rfl, rfl, by simp [dT, PyData.weight]⟩
  | .bl b, _ => ⟨rfl, rfl, rfl, by simp [dT, PyData.weight]⟩
  | .int i, h => by
    have h : i.natAbs < 10000000 := by simpa [smW] using h
    have e := int_text_length_le10 (a := i) (k := 7) (by decide) (by simpa using h)
    have l2 : i.natAbs ≠ 0 → i.natAbs.log2 < 24 := fun z => (Nat.log2_lt z).mpr (by omega)
    refine ⟨?_, ?_, rfl, ?_⟩
    · have e2 : (PyData.shown (.int i)).length ≤ 8 := by
        show (Str.ofString (toString i)).length ≤ 8
        rw [PySem.ofString_length]
        exact e
      simp only [dT, PyData.leavesShort]
      exact decide_eq_true e2
    · simp only [dT, PyData.showable, decide_eq_true_eq]
      by_cases z : i.natAbs = 0
      · rw [z]; decide
      · have := l2 z
        omega
    · simp only [dT, PyData.weight, wB]
      split
      · omega
      · rename_i z
        have : i.natAbs ≠ 0 := fun q => z (by simpa using q)
        have := l2 this
        omega
  | .str x, h => ⟨by simpa [dT, PyData.leavesShort, smW] using h, rfl, rfl, by simp [dT, PyData.weight, wB]⟩
  | .ref _, h => by simp [smW] at h
  | .exc _, h => by simp [smW] at h
  | .tup xs, h => by
    obtain ⟨a, b, c, d⟩ := sms_of xs (by simpa only [smW] using h)
    exact ⟨by simpa only [dT, PyData.leavesShort] using a, by simpa only [dT, PyData.showable] using b, by simpa only [dT, PyData.hasDict] using c, by simpa only [dT, PyData.weight, wB] using d⟩
  | .fix xs, h => by
    obtain ⟨a, b, c, d⟩ := sms_of xs (by simpa only [smW] using h)
    exact ⟨by simpa only [dT, PyData.leavesShort] using a, by simpa only [dT, PyData.showable] using b, by simpa only [dT, PyData.hasDict] using c, by simpa only [dT, PyData.weight, wB] using d⟩
theorem sms_of : ∀ ws : List W, smWs ws = true → PyData.leavesShortAll 8 (dTs ws) = true ∧ PyData.showableAll (dTs ws) = true ∧ PyData.hasDictAll (dTs ws) = false ∧ PyData.weightAll (dTs ws) ≤ wBs ws
  | [], _ => ⟨rfl, rfl, rfl, by simp [dTs, PyData.weightAll]⟩
  | x :: xs, h => by
    simp only [smWs, Bool.and_eq_true] at h
    obtain ⟨a, b, c, d⟩ := sm_of x h.1
    obtain ⟨a2, b2, c2, d2⟩ := sms_of xs h.2
    exact ⟨by simp only [dTs, PyData.leavesShortAll, a, a2, Bool.and_self], by simp only [dTs, PyData.showableAll, b, b2, Bool.and_self], by simp only [dTs, PyData.hasDictAll, c, c2, Bool.or_self], by simp only [dTs, PyData.weightAll, wBs]; omega⟩
end
theorem repr_tup {xs : List W} {n : Nat} {h : PH} (hp : plW n (.tup xs) = true) (hn : n ≤ 100) (hs : smW (.tup xs) = true) (hw : wB (.tup xs) ≤ 1600000) : wRepr [.tup xs] h = some (.str (dT (.tup xs)).shown, h) := by
  obtain ⟨a, b, c⟩ := dat_pl (datL 4 h) n (.tup xs) hp
  obtain ⟨s1, s2, s3, s4⟩ := sm_of (.tup xs) hs
  have l := PyData.shown_le 8 (by decide) _ s1
  have e : dat h (.tup xs) = some (dT (.tup xs)) := a
  simp only [wRepr, e]
  rw [if_pos ⟨s2, s3, by omega, by omega⟩]
@[simp] theorem sm_int {i : Int} : smW (.int i) = decide (i.natAbs < 10000000) := by simp only [smW]
@[simp] theorem sm_str {x : Str} : smW (.str x) = x.cps.toList.all fun c => decide (c < 16 ^ 8) := by simp only [smW]
@[simp] theorem sm_tup {xs : List W} : smW (.tup xs) = smWs xs := by simp only [smW]
@[simp] theorem sm_fix {xs : List W} : smW (.fix xs) = smWs xs := by simp only [smW]
@[simp] theorem sms_nil : smWs [] = true := by simp only [smWs]
@[simp] theorem sms_cons {x : W} {xs : List W} : smWs (x :: xs) = (smW x && smWs xs) := by simp only [smWs]
@[simp] theorem wB_int {i : Int} : wB (.int i) = 24 := by simp only [wB]
@[simp] theorem wB_str {x : Str} : wB (.str x) = x.cps.size := by simp only [wB]
@[simp] theorem wB_tup {xs : List W} : wB (.tup xs) = wBs xs := by simp only [wB]
@[simp] theorem wB_fix {xs : List W} : wB (.fix xs) = wBs xs := by simp only [wB]
@[simp] theorem wBs_nil : wBs [] = 0 := by simp only [wBs]
@[simp] theorem wBs_cons {x : W} {xs : List W} : wBs (x :: xs) = wB x + 1 + wBs xs := by simp only [wBs]
theorem sms_map {α : Type} (f : α → W) (l : List α) (h : ∀ a ∈ l, smW (f a) = true) : smWs (l.map f) = true := by
  induction l with
  | nil => rfl
  | cons a r ih => simp only [List.map_cons, sms_cons, h a List.mem_cons_self, ih fun b hb => h b (List.mem_cons_of_mem _ hb), Bool.and_self]
theorem wBs_map {α : Type} (f : α → W) (l : List α) (k : Nat) (h : ∀ a ∈ l, wB (f a) ≤ k) : wBs (l.map f) ≤ (k + 1) * l.length := by
  induction l with
  | nil => simp
  | cons a r ih =>
    have h1 := h a List.mem_cons_self
    have h2 := ih fun b hb => h b (List.mem_cons_of_mem _ hb)
    simp only [List.map_cons, wBs_cons, List.length_cons, Nat.mul_add, Nat.mul_one]
    omega
/-- == of what is told to be tx and ty -/
theorem eqB_T {x y tx ty : W} {h : PH} {n m : Nat} (hx : dat h x = some (dT tx)) (hy : dat h y = some (dT ty)) (px : plW n tx = true) (py : plW m ty = true) (hn : n ≤ 64) (hm : m ≤ 64) (hb : ∀ b, x ≠ .bl b) : eqB x y h = some (decide (tx = ty)) := by
  obtain ⟨_, b, c⟩ := dat_pl (datL 4 h) n tx px
  obtain ⟨_, b2, c2⟩ := dat_pl (datL 4 h) m ty py
  rw [eqB_dat hx hy (shaped_pl b c hn) (shaped_pl b2 c2 hm) hb]
  have := eqv_pl n tx ty m px py
  congr 1
  by_cases q : tx = ty
  · rw [this.mpr q, decide_eq_true q]
  · rw [decide_eq_false q]
    cases e : PyData.eqv (dT tx) (dT ty) with
    | false => rfl
    | true => exact absurd (this.mp e) q
theorem wNe_T {x y tx ty : W} {h : PH} {n m : Nat} (hx : dat h x = some (dT tx)) (hy : dat h y = some (dT ty)) (px : plW n tx = true) (py : plW m ty = true) (hn : n ≤ 64) (hm : m ≤ 64) (hb : ∀ b, x ≠ .bl b) : wNe x y h = some (.bl (!decide (tx = ty)), h) := by
  unfold wNe
  rw [eqB_T hx hy px py hn hm hb]
  rfl
theorem wEq_T {x y tx ty : W} {h : PH} {n m : Nat} (hx : dat h x = some (dT tx)) (hy : dat h y = some (dT ty)) (px : plW n tx = true) (py : plW m ty = true) (hn : n ≤ 64) (hm : m ≤ 64) (hb : ∀ b, x ≠ .bl b) : wEq x y h = some (.bl (decide (tx = ty)), h) := by
  unfold wEq
  rw [eqB_T hx hy px py hn hm hb]
  rfl
/-- a list of the heap whose items are lists of the heap, of plain data -/
theorem dat_lst2 {h : PH} {n k : Nat} {rs : List Nat} {L : Nat → List W} (e : h[n]? = some (.lst (rs.map W.ref))) (hl : ∀ r ∈ rs, h[r]? = some (.lst (L r))) (hp : ∀ r ∈ rs, plWs k (L r) = true) : dat h (.ref n) = some (dT (.fix (rs.map fun r => W.fix (L r)))) := by
  show datL 4 h n = _
  unfold datL
  rw [e]
  dsimp only
  have : datSs (datL 3 h) (rs.map W.ref) = some (dTs (rs.map fun r => W.fix (L r))) := by
    clear e
    induction rs with
    | nil => rfl
    | cons a r ih =>
      have i := ih (fun x hx => hl x (List.mem_cons_of_mem _ hx)) fun x hx => hp x (List.mem_cons_of_mem _ hx)
      have e1 : datS (datL 3 h) (.ref a) = some (dT (.fix (L a))) := by
        show datL 3 h a = _
        unfold datL
        rw [hl a List.mem_cons_self]
        dsimp only
        rw [(dats_pl (datL 2 h) k (L a) (hp a List.mem_cons_self)).1]
        simp only [Option.map_some, dT]
      simp only [List.map_cons, datSs, e1, i, dTs]
  rw [this]
  simp only [Option.map_some, dT]
end Mir

/-! Mir: exceptions of the program's own classes: raised, caught and kept, asked of. -/
namespace Mir
open PySem PySem.Spec PyProof.Rows L2

/-! ### an exception taken over from the air -/
section
variable {X : Cx} {pins : List (Addr × Obj)} {σ : L2.St} {H : Hp} {s sI : Shared} {a C : Addr} {d : Option Addr} {oe : Obj} {vs : Array Value}
theorem exV_ok {P : Program} {w : World} {G : Hp} {h : Heap} (he : h.get? a = some oe) (hz : Zc (.ref C) d oe) (hv : oe.data = .fields vs) : ObjOk P w G h a (exV C d a) :=
  ⟨⟨oe, vs, he, hz, hv⟩, ⟨oe, he⟩, fun h1 h2 z k => by
    obtain ⟨o, u, q, r⟩ := z
    exact ⟨o, u, k o q, r⟩⟩
/-- the state with it: J is of the state ahead, where it did not stand -/
theorem inv_adopt (J : Inv X pins σ H sI) (I : Inv X pins σ H s) (hx : X.ex = []) (hn : sI.heap.get? a = none) (na : H a = none) (nL : a ≠ X.env.locals) (nF : a ∉ X.fs) (he : s.heap.get? a = some oe) (hz : Zc (.ref C) d oe) (hv : oe.data = .fields vs) :
    Inv X pins σ (upd H a (exV C d a)) s := by
  have n0 : ∀ b o, X.s_0.heap.get? b = some o → b ≠ a := fun b o e z => by
    obtain ⟨o', q⟩ := J.base.there b o e (by rw [hx]; exact List.not_mem_nil)
    rw [z, hn] at q
    cases q
  refine ⟨I.ok, I.os, I.bare, ⟨I.base.keep, I.base.slot, fun b o e n h => ?_, I.base.there, fun b xs e => ?_, fun b o u e => ?_, fun b ps e => ?_⟩, I.loc, I.cell, ?_, fun x c e => ?_, fun p hp => ?_, fun b u e => ?_, I.len⟩
  · rw [upd_ne (n0 b o e)]
    exact I.base.free b o e n h
  · have q := I.base.tups b xs e
    rw [upd_ne (ne_of_none q na)]
    exact q
  · have q := I.base.frzs b o u e
    rw [upd_ne (ne_of_none q na)]
    exact q
  · obtain ⟨m, q⟩ := I.base.tbls b ps e
    exact ⟨m, by rw [upd_ne (ne_of_none q na)]; exact q⟩
  · rw [upd_ne (Ne.symm nL)]
    exact I.free
  · obtain ⟨v, o, q, _⟩ := J.cell x c e
    rw [upd_ne (fun z => by rw [z, hn] at q; cases q)]
    exact I.freeC x c e
  · obtain ⟨q, _⟩ := J.pin p hp
    obtain ⟨h1, h2, h3⟩ := I.pin p hp
    exact ⟨h1, by rw [upd_ne (fun z => by rw [z, hn] at q; cases q)]; exact h2, h3⟩
  · by_cases hb : b = a
    · subst hb
      rw [upd_same] at e
      cases e
      exact exV_ok he hz hv
    · rw [upd_ne hb] at e
      exact (I.hok b u e).stay (fun _ _ _ q => q) (fun c q => by rw [upd_ne (ne_of_none q na)]; exact q) fun c xs q => by rw [upd_ne (ne_of_none q na)]; exact q
theorem inv_suite0 (I : Inv X pins σ H s) : Inv (X.suite a (X.pn ++ pins)) [] σ H s :=
  ⟨I.ok.suite _ _, I.os, I.bare, I.base, I.loc, I.cell, I.free, I.freeC, fun p hp => I.pin p (by rw [List.append_nil] at hp; exact hp), I.hok, I.len⟩
theorem inv_unsuite0 (ok : X.Ok) {p2 : List (Addr × Obj)} (I : Inv (X.suite a (X.pn ++ pins)) p2 σ H s) : Inv X pins σ H s :=
  ⟨ok, I.os, I.bare, I.base, I.loc, I.cell, I.free, I.freeC, fun p hp => I.pin p (List.mem_append_left _ hp), I.hok, I.len⟩
end

/-! ### try: the exception that is caught is kept -/
/-- a clause: the class, the name's slot, the suite's reading -/
structure Cl where
  c : Value
  i : Option Nat
  t : TS
def Cl.set (k : Cl) (a : Addr) (σ : L2.St) : L2.St := match k.i with
  | none => σ
  | some i => σ.set i (some (.ref a))
def Cl.end_ (k : Cl) (σ : L2.St) : L2.St := match k.i with
  | none => σ
  | some i => σ.set i none
def Cl.D (k : Cl) (D : Ends) : Ends := { nx := fun σ' H' => D.nx (k.end_ σ') H', rt := D.rt, bk := fun σ' H' => D.bk (k.end_ σ') H', ct := fun σ' H' => D.ct (k.end_ σ') H' }
/-- what the clauses want of an exception of the body -/
def wK (K : PySem.W.Frag) (Wo : WX) (D : Ends) : List Cl → WX
  | [] => Wo
  | k :: r => fun cls d σ H => ∃ b, PySem.W.exmOne K cls k.c = some b ∧ (b = true → ∃ C, cls = .ref C ∧ ∀ a, H a = none → k.t (k.D D) (k.set a σ) (upd H a (exV C d a))) ∧ (b = false → wK K Wo D r cls d σ H)
inductive HdK (X : Cx) : List ExceptHandler → List Cl → Prop
  | nil : HdK X [] []
  | plain {x : Str} {k : Cl} {b₀ : Stmt} {suite : List Stmt} {np pos' : Pos} {hds : List ExceptHandler} {l : List Cl} (hc : Names X x k.c) (hi : k.i = none)
      (hsu : ∀ (a : Addr) (pn : List (Addr × Obj)), PSs (X.suite a pn) (b₀ :: suite) k.t) (r : HdK X hds l) : HdK X (.ExceptHandler (some (.Name x np)) none (b₀ :: suite) pos' :: hds) (k :: l)
  | named {x n : Str} {i : Nat} {k : Cl} {b₀ : Stmt} {suite : List Stmt} {np pos' : Pos} {hds : List ExceptHandler} {l : List Cl} (hc : Names X x k.c) (hi : k.i = some i) (hN : X.N.Nodup) (hn : X.N[i]? = some n) (hln : X.env.kindOf n = some .local)
      (hsu : ∀ (a : Addr) (pn : List (Addr × Obj)), PSs (X.suite a pn) (b₀ :: suite) k.t) (r : HdK X hds l) : HdK X (.ExceptHandler (some (.Name x np)) (some n) (b₀ :: suite) pos' :: hds) (k :: l)
section
variable {X : Cx} {body : List Stmt} {h₀ : ExceptHandler} {hds : List ExceptHandler} {l : List Cl} {pos : Pos} {tb : WX → TS} {Wo : WX}
theorem ps_try_keep (hs : X.stack = X.env :: X.outer) (hf : X.env.frame = some X.env.locals) (hx : X.ex = []) (tk : Takes X Wo)
    (hb : ∀ (W : WX) (pn : List (Addr × Obj)) (xe : Value → Shared → Prop), Takes (X.tr pn xe) W → PassesOwn (model X.prog X.w) X.A X.env xe → PSs (X.tr pn xe) body (tb W))
    (hh : HdK X (h₀ :: hds) l) : PS X (.Try body (h₀ :: hds) [] [] pos) (fun D σ H => tb (wK X.K Wo D l) D σ H) := by
  refine ⟨fun pins s σ H D I h => ?_⟩
  have ok := I.ok
  have frames : X.A.frames = some (X.env :: X.outer) := by rw [ok.frames, hs]
  have catch_ : ∀ u s', XE (X.tr (X.pn ++ pins) fun e s₁ => wpAny (model X.prog X.w) X.A (noteFrame e X.env) (fun _ s₂ => wpAny (model X.prog X.w) X.A (setFlight e none) (fun _ s₃ =>
      wpAny (model X.prog X.w) X.A (handleBy e X.env (h₀ :: hds)) (SP X pins D) X.xe s₃) X.xe s₂) X.xe s₁) (wK X.K Wo D l) u s' →
      wpAny (model X.prog X.w) X.A (noteFrame u X.env) (fun _ s₂ => wpAny (model X.prog X.w) X.A (setFlight u none) (fun _ s₃ =>
      wpAny (model X.prog X.w) X.A (handleBy u X.env (h₀ :: hds)) (SP X pins D) X.xe s₃) X.xe s₂) X.xe s' := by
    intro u s' xx
    obtain ⟨a, B, sI, pins', σ1, H1, cls, d, rfl, J0, nb, up, sky, na, os, ag, w⟩ := xx
    have J : Inv X pins σ1 H1 sI := J0.ofTry ok
    have sky2 : Sky B (X.env :: X.outer) a (Zc cls d) X.env.locals s'.heap := by rw [← hs]; exact sky
    have nB : B.get? a = none := by
      rcases sky2 with z | z | z
      · exact z.2.1
      · exact z.2.1
      · exact z.2.1
    refine Sky.land Zc.steady frames hf sky2 fun h3 fl3 up3 => ?_
    have J3 : Inv X pins σ1 H1 { s' with heap := h3 } := J.landed nb fl3.1 (up.trans up3) os ag
    obtain ⟨oe3, vs3, he3, hz3, hd3⟩ := fl3.there
    have outside : a ∉ frs (X.env :: X.outer) := fun hm => by
      obtain ⟨_, o2, e2, hnf⟩ := fl3.2.2.1.mem hm
      rw [he3] at e2
      cases e2
      exact hnf _ hd3
    have nL : a ≠ X.env.locals := fun z => outside (List.mem_filterMap.mpr ⟨X.env, List.mem_cons_self, by rw [hf, z]⟩)
    have nF : a ∉ X.fs := fun hm => by
      obtain ⟨e, he, q⟩ := List.mem_filterMap.mp hm
      exact outside (List.mem_filterMap.mpr ⟨e, List.mem_cons_of_mem _ he, q⟩)
    have nI : sI.heap.get? a = none := by
      cases e : sI.heap.get? a with
      | none => rfl
      | some o =>
        have := nb a o e (by rw [hs]; exact outside)
        rw [nB] at this
        cases this
    have S3 : Inv (X.suite a (X.pn ++ pins)) [] σ1 H1 { s' with heap := h3 } := inv_suite0 J3
    have asked : ∀ {x : Str} {c : Value} {np : Pos} {Q E : Value → Shared → Prop}, Names X x c → Q c { s' with heap := h3 } → wpAny (model X.prog X.w) (X.A.mark (some (.ref a))) (eval (.Name x np) X.env) Q E { s' with heap := h3 } := fun {x c np Q E} hc q => by
      obtain ⟨hg, hdb, hm | ⟨hm, hv, hnn⟩⟩ := hc
      · exact ld_glob (X := X.suite a (X.pn ++ pins)) S3 hg hm q hdb
      · exact ld_blt (X := X.suite a (X.pn ++ pins)) S3 hg hm hv q hnn hdb
    have LT : PySem.W.Looks (model X.prog X.w) h3 (typeOf (.ref a)) cls := fun A Q E s k q => wpAny_typeOf_ref (k _ _ he3) (by rw [hz3.1]; exact q)
    have taken : ∀ {C : Addr} {s4 : Shared}, cls = .ref C → Inv X pins σ1 H1 s4 → (∃ oe vs, s4.heap.get? a = some oe ∧ Zc cls d oe ∧ oe.data = .fields vs) → Inv X pins σ1 (upd H1 a (exV C d a)) s4 := fun {C s4} ec I4 z => by
      obtain ⟨oe, vs, z1, z2, z3⟩ := z
      subst ec
      exact inv_adopt J I4 hx nI na nL nF z1 z2 z3
    have go : ∀ {hd2 : List ExceptHandler} {l2 : List Cl}, HdK X hd2 l2 → wK X.K Wo D l2 cls d σ1 H1 →
        wpAny (model X.prog X.w) X.A (handleBy (.ref a) X.env hd2) (SP X pins D) X.xe { s' with heap := h3 } := by
      intro hd2 l2 hk
      induction hk with
      | nil =>
        intro w2
        refine wpAny_handleBy_nil ?_
        obtain ⟨g1, g2, g3, oe, vs, T, oT, tt, g4, g5, g6, g7, g8⟩ := id fl3
        have last : wpAny (model X.prog X.w) X.A (setFlight (.ref a) X.env.frame) (fun _ s4 => wpAny (model X.prog X.w) X.A (throw (.ref a) : Sem Flow) (SP X pins D) X.xe s4) X.xe { s' with heap := h3 } := by
          rw [hf]
          exact HandSPX.setFlight_upZ fl3 fun h4 q4 up4 => wpAny_throw (tk _ _ ⟨a, B, sI, pins, σ1, H1, cls, d, rfl, J, nb, (up.trans up3).trans up4, .inr (.inr (by rw [hs]; exact q4)), na, os, ag, w2⟩)
        unfold PySem.passOn
        refine wpAny_bind (wpAny_field g4 g6 g7 ?_)
        rw [if_neg (show ¬ ((Value.ref T == Value.none) = true) from by simp)]
        first
          | exact wpAny_bind (wpAny_pure (wpAny_bind last))
          | exact wpAny_bind last
      | @plain x k b₀ suite np pos' hd3 l3 hc hi hsu r ih =>
        intro w2
        obtain ⟨b, hb1, yes, no⟩ := w2
        refine wpAny_handleBy_cons (codeAny_handlers_test (asked hc ((PySem.W.exm_one (M := model X.prog X.w) J3.kIn LT hb1).here ?_))) (by intro q; cases q)
        cases b with
        | false =>
          show wpAny _ X.A (handleBy (.ref a) X.env hd3) _ _ _
          exact ih (no rfl)
        | true =>
          obtain ⟨C, ec, q⟩ := yes rfl
          refine codeAny_handlers_suite (HandSPX.lands_againZ fl3 fun h4 fl4 up4 => ?_)
          have I4 : Inv X pins σ1 H1 { s' with heap := h4 } := J.landed nb fl4.1 ((up.trans up3).trans up4) os ag
          have q := q a na
          simp only [Cl.set, hi] at q
          refine wpAny_mono ((hsu a (X.pn ++ pins)).run [] _ _ _ _ (inv_suite0 (taken ec I4 fl4.there)) q) (fun f s6 hsp => ?_) (fun _ _ z => False.elim z)
          have ee : ∀ σ : L2.St, k.end_ σ = σ := fun σ => by simp only [Cl.end_, hi]
          cases f with
          | next =>
            obtain ⟨σ6, H6, S6, q6⟩ := hsp
            exact ⟨_, _, inv_unsuite0 ok S6, (ee σ6) ▸ q6⟩
          | brk =>
            obtain ⟨σ6, H6, S6, q6⟩ := hsp
            exact ⟨_, _, inv_unsuite0 ok S6, (ee σ6) ▸ q6⟩
          | cont =>
            obtain ⟨σ6, H6, S6, q6⟩ := hsp
            exact ⟨_, _, inv_unsuite0 ok S6, (ee σ6) ▸ q6⟩
          | ret u =>
            obtain ⟨v6, σ6, H6, S6, r6, q6⟩ := hsp
            exact ⟨_, _, _, inv_unsuite0 ok S6, r6, q6⟩
      | @named x n i k b₀ suite np pos' hd3 l3 hc hi hN hn hln hsu r ih =>
        intro w2
        obtain ⟨b, hb1, yes, no⟩ := w2
        refine wpAny_handleBy_cons (codeAny_handlers_test (asked hc ((PySem.W.exm_one (M := model X.prog X.w) J3.kIn LT hb1).here ?_))) (by intro q; cases q)
        cases b with
        | false =>
          show wpAny _ X.A (handleBy (.ref a) X.env hd3) _ _ _
          exact ih (no rfl)
        | true =>
          obtain ⟨C, ec, q⟩ := yes rfl
          refine codeAny_handlers_suite_as (HandSPX.lands_againZ fl3 fun h4 fl4 up4 => ?_)
          have I4 : Inv X pins σ1 H1 { s' with heap := h4 } := J.landed nb fl4.1 ((up.trans up3).trans up4) os ag
          have q := q a na
          simp only [Cl.set, hi] at q
          refine store_ok (X := X.suite a (X.pn ++ pins)) (v := .ref a) (inv_suite0 (taken ec I4 fl4.there)) hN hn (.inl hln) rfl (fun s5 S5 => ?_) (.inr hln)
          refine wpAny_mono ((hsu a (X.pn ++ pins)).run [] s5 _ _ _ S5 q) (fun f s6 hsp => ?_) (fun _ _ z => False.elim z)
          have ee : ∀ σ : L2.St, k.end_ σ = σ.set i none := fun σ => by simp only [Cl.end_, hi]
          cases f with
          | next =>
            obtain ⟨σ6, H6, S6, q6⟩ := hsp
            exact gone_ok (inv_unsuite0 ok S6) hN hn hln fun s7 J7 => ⟨_, _, J7, (ee σ6) ▸ q6⟩
          | brk =>
            obtain ⟨σ6, H6, S6, q6⟩ := hsp
            exact gone_ok (inv_unsuite0 ok S6) hN hn hln fun s7 J7 => ⟨_, _, J7, (ee σ6) ▸ q6⟩
          | cont =>
            obtain ⟨σ6, H6, S6, q6⟩ := hsp
            exact gone_ok (inv_unsuite0 ok S6) hN hn hln fun s7 J7 => ⟨_, _, J7, (ee σ6) ▸ q6⟩
          | ret u =>
            obtain ⟨v6, σ6, H6, S6, r6, q6⟩ := hsp
            exact gone_ok (inv_unsuite0 ok S6) hN hn hln fun s7 J7 => ⟨_, _, _, J7, r6, q6⟩
    exact go hh w
  refine wpAny_Try_except (wpAny_mono ((hb (wK X.K Wo D l) (X.pn ++ pins) _ catch_ PassesOwn.looking).run [] s σ H D (I.toTry _) h) (fun f s1 hsp => ?_) fun e s1 he => he)
  cases f with
  | next =>
    obtain ⟨σ1, H1, J, q⟩ := hsp
    exact wpAny_execs_nil ⟨σ1, H1, J.ofTry ok, q⟩
  | brk =>
    obtain ⟨σ1, H1, J, q⟩ := hsp
    exact ⟨σ1, H1, J.ofTry ok, q⟩
  | cont =>
    obtain ⟨σ1, H1, J, q⟩ := hsp
    exact ⟨σ1, H1, J.ofTry ok, q⟩
  | ret u =>
    obtain ⟨v, σ1, H1, J, r, q⟩ := hsp
    exact ⟨v, σ1, H1, J.ofTry ok, r, q⟩
end
end Mir

/-! Mir: raise, try and isinstance by the own computations. -/
namespace Mir
open PySem PySem.Spec PyProof.Rows L2

/-- the program's classes: all stand under DuelError -/
def isSub (c d : Str) : Bool := c == d || d == "DuelError" || d == "ValueError"
def ClsOf (mg : Str → Option Value) (d : Str) (u : Value) : Prop := mg d = some u ∨ (mg d = none ∧ bootBuiltins d = some u)
/-- isinstance says so of c and d -/
def EPair (K : PySem.W.Frag) (mg : Str → Option Value) (c d : Str) : Prop := ∀ (C : Addr) (u : Value), PySem.W.nsIn K mainGlobals c = some (some (.ref C)) → ClsOf mg d u → PySem.W.kitOne K (.ref C) u = some (isSub c d)
/-- a clause says so of c and d -/
def EMat (K : PySem.W.Frag) (mg : Str → Option Value) (c d : Str) : Prop := ∀ (C : Addr) (u : Value), PySem.W.nsIn K mainGlobals c = some (some (.ref C)) → ClsOf mg d u → PySem.W.exmOne K (.ref C) u = some (isSub c d)
theorem cls_one {K : PySem.W.Frag} {mg : Str → Option Value} {c d : Str} {C : Addr} {u : Value} (hc : PySem.W.nsIn K mainGlobals c = some (some (.ref C))) (hd : mg d = some u ∨ (mg d = none ∧ bootBuiltins d = some u)) {C2 : Addr} {u2 : Value} (e : PySem.W.nsIn K mainGlobals c = some (some (.ref C2))) (z : ClsOf mg d u2) : C2 = C ∧ u2 = u := by
  rw [hc] at e
  cases e
  refine ⟨rfl, ?_⟩
  rcases z with z | ⟨z, z2⟩ <;> rcases hd with hd | ⟨hd, h2⟩
  · rw [hd] at z; exact (Option.some.inj z).symm
  · rw [hd] at z; cases z
  · rw [hd] at z; cases z
  · rw [h2] at z2; exact (Option.some.inj z2).symm
theorem epair_of {K : PySem.W.Frag} {mg : Str → Option Value} {c d : Str} {C : Addr} {u : Value} {b : Bool} (hc : PySem.W.nsIn K mainGlobals c = some (some (.ref C))) (hd : mg d = some u ∨ (mg d = none ∧ bootBuiltins d = some u)) (k : PySem.W.kitOne K (.ref C) u = some b) (hb : isSub c d = b) : EPair K mg c d := fun C2 u2 e z => by
  obtain ⟨rfl, rfl⟩ := cls_one hc hd e z
  rw [k, hb]
theorem emat_of {K : PySem.W.Frag} {mg : Str → Option Value} {c d : Str} {C : Addr} {u : Value} {b : Bool} (hc : PySem.W.nsIn K mainGlobals c = some (some (.ref C))) (hd : mg d = some u ∨ (mg d = none ∧ bootBuiltins d = some u)) (k : PySem.W.exmOne K (.ref C) u = some b) (hb : isSub c d = b) : EMat K mg c d := fun C2 u2 e z => by
  obtain ⟨rfl, rfl⟩ := cls_one hc hd e z
  rw [k, hb]

/-! ### try -/
structure ClM where
  d : Str
  i : Option Nat
  m : SM
def bindE (i : Option Nat) (x : XV) (ps : LS) : LS := match i with
  | none => ps
  | some i => ps.set i (some (.exc x))
def endE (i : Option Nat) (ps : LS) : LS := match i with
  | none => ps
  | some i => ps.set i none
def resE (i : Option Nat) : SRes → SRes
  | .nx ps h => .nx (endE i ps) h
  | .bk ps h => .bk (endE i ps) h
  | .ct ps h => .ct (endE i ps) h
  | .rt w h => .rt w h
  | _ => .stuck
def hnd (x : XV) (ps : LS) (h : PH) : List ClM → SRes
  | [] => .exc x ps h
  | k :: r => if isSub x.c k.d = true then resE k.i (k.m (bindE k.i x ps) h) else hnd x ps h r
def sTry (kn : List Str) (mb : SM) (l : List ClM) : SM := fun ps h => match mb ps h with
  | .exc x ps1 h1 => if kn.contains x.c = true then hnd x ps1 h1 l else .stuck
  | r => r
inductive HdM (X : Cx) (kn : List Str) : List ExceptHandler → List ClM → Prop
  | nil : HdM X kn [] []
  | plain {u : Value} {k : ClM} {b₀ : Stmt} {suite : List Stmt} {np pos' : Pos} {hds : List ExceptHandler} {l : List ClM} (hc : Names X k.d u) (hp : ∀ c ∈ kn, EMat X.K X.mg c k.d) (hi : k.i = none)
      (hsu : ∀ (a : Addr) (pn : List (Addr × Obj)), SSs (X.suite a pn) Wno (b₀ :: suite) k.m) (r : HdM X kn hds l) : HdM X kn (.ExceptHandler (some (.Name k.d np)) none (b₀ :: suite) pos' :: hds) (k :: l)
  | named {u : Value} {n : Str} {i : Nat} {k : ClM} {b₀ : Stmt} {suite : List Stmt} {np pos' : Pos} {hds : List ExceptHandler} {l : List ClM} (hc : Names X k.d u) (hp : ∀ c ∈ kn, EMat X.K X.mg c k.d) (hi : k.i = some i)
      (hN : X.N.Nodup) (hn : X.N[i]? = some n) (hln : X.env.kindOf n = some .local)
      (hsu : ∀ (a : Addr) (pn : List (Addr × Obj)), SSs (X.suite a pn) Wno (b₀ :: suite) k.m) (r : HdM X kn hds l) : HdM X kn (.ExceptHandler (some (.Name k.d np)) (some n) (b₀ :: suite) pos' :: hds) (k :: l)
theorem clsOf_names {X : Cx} {d : Str} {u : Value} (h : Names X d u) : ClsOf X.mg d u := by
  obtain ⟨_, _, z | ⟨z1, z2, _⟩⟩ := h
  · exact .inl z
  · exact .inr ⟨z1, z2⟩
section
variable {X : Cx} {W0 : WX} {kn : List Str}
/-- a caught exception stands in the slot -/
theorem srep_end {f : List Addr} {H : Hp} {ps : LS} {σ : L2.St} {k : ClM} {t : TS} {u : Value} (q : SRep X.K f H ps σ) : SRep X.K f H (endE k.i ps) (Cl.end_ ⟨u, k.i, t⟩ σ) := by
  unfold endE Cl.end_
  cases k.i with
  | none => exact q
  | some i => exact q.unset i
theorem wk_one {D : Ends} {f : List Addr} {h : PH} {H : Hp} {σ : L2.St} {ps : LS} {x : XV} {c : Value} {d : Option Addr} {k : ClM} {l : List ClM} {lc : List Cl} {u : Value} (hu : ClsOf X.mg k.d u) (hp : EMat X.K X.mg x.c k.d)
    (s : Sim X.K f h H) (sr : SRep X.K f H ps σ) (xr : XRep X.K f H x c d) (p : PostS X.K f H (hnd x ps h (k :: l)) D W0) (go : PostS X.K f H (hnd x ps h l) D W0 → wK X.K W0 D lc c d σ H) :
    wK X.K W0 D (⟨u, k.i, tS X.K Wno k.m⟩ :: lc) c d σ H := by
  obtain ⟨⟨C, rfl, ns⟩, dd⟩ := id xr
  refine ⟨isSub x.c k.d, hp C u ns hu, fun yes => ⟨C, rfl, fun a na => ?_⟩, fun no => go ?_⟩
  · have p : PostS X.K f H (hnd x ps h (k :: l)) D W0 := p
    rw [show hnd x ps h (k :: l) = resE k.i (k.m (bindE k.i x ps) h) by simp only [hnd]; rw [if_pos yes]] at p
    have st := s.other (o := exV C d a) na
    have sty := st.stay s
    have p := PostS.later st p
    refine ⟨f, h, bindE k.i x ps, st.sim, ?_, ?_⟩
    · have sr2 := st.srep s sr
      unfold bindE Cl.set
      cases k.i with
      | none => exact sr2
      | some i => exact sr2.set i (rep_exc.mpr ⟨a, rfl, C, d, xr.mono sty, upd_same⟩)
    · cases e : k.m (bindE k.i x ps) h with
      | nx ps2 h2 => rw [e] at p; exact fun f' H' σ' s2 q => p f' H' _ s2 (srep_end q)
      | bk ps2 h2 => rw [e] at p; exact fun f' H' σ' s2 q => p f' H' _ s2 (srep_end q)
      | ct ps2 h2 => rw [e] at p; exact fun f' H' σ' s2 q => p f' H' _ s2 (srep_end q)
      | rt w h2 => rw [e] at p; exact p
      | exc y ps2 h2 => rw [e] at p; exact p.elim
      | stuck => rw [e] at p; exact p.elim
  · have e : hnd x ps h (k :: l) = hnd x ps h l := by simp only [hnd]; rw [if_neg (by rw [no]; exact Bool.false_ne_true)]
    rw [e] at p
    exact p
theorem hd_go {hs : List ExceptHandler} {l : List ClM} (hk : HdM X kn hs l) : ∃ lc : List Cl, HdK X hs lc ∧ ∀ (D : Ends) (f : List Addr) (h : PH) (H : Hp) (σ : L2.St) (ps : LS) (x : XV) (c : Value) (d : Option Addr), x.c ∈ kn →
    Sim X.K f h H → SRep X.K f H ps σ → XRep X.K f H x c d → PostS X.K f H (hnd x ps h l) D W0 → wK X.K W0 D lc c d σ H := by
  induction hk with
  | nil => exact ⟨[], .nil, fun D f h H σ ps x c d hx s sr xr p => p f H σ c d (.refl s) sr xr⟩
  | @plain u k b₀ suite np pos' hds l hc hp hi hsu r ih =>
    obtain ⟨lc, h1, h2⟩ := ih
    exact ⟨⟨u, k.i, tS X.K Wno k.m⟩ :: lc, .plain (k := ⟨u, k.i, tS X.K Wno k.m⟩) hc hi hsu h1, fun D f h H σ ps x c d hx s sr xr p => wk_one (clsOf_names hc) (hp _ hx) s sr xr p (h2 D f h H σ ps x c d hx s sr xr)⟩
  | @named u n i k b₀ suite np pos' hds l hc hp hi hN hn hln hsu r ih =>
    obtain ⟨lc, h1, h2⟩ := ih
    exact ⟨⟨u, k.i, tS X.K Wno k.m⟩ :: lc, .named (k := ⟨u, k.i, tS X.K Wno k.m⟩) hc hi hN hn hln hsu h1, fun D f h H σ ps x c d hx s sr xr p => wk_one (clsOf_names hc) (hp _ hx) s sr xr p (h2 D f h H σ ps x c d hx s sr xr)⟩
theorem ss_try {body : List Stmt} {h₀ : ExceptHandler} {hds : List ExceptHandler} {l : List ClM} {pos : Pos} {mb : SM} (hs : X.stack = X.env :: X.outer) (hf : X.env.frame = some X.env.locals) (hx : X.ex = []) (tk : Takes X W0)
    (hb : ∀ (W : WX) (pn : List (Addr × Obj)) (xe : Value → Shared → Prop), Takes (X.tr pn xe) W → PassesOwn (model X.prog X.w) X.A X.env xe → SSs (X.tr pn xe) W body mb) (hh : HdM X kn (h₀ :: hds) l) : SS X W0 (.Try body (h₀ :: hds) [] [] pos) (sTry kn mb l) := by
  obtain ⟨lc, h1, h2⟩ := hd_go (W0 := W0) hh
  refine ps_imp (ps_try_keep (tb := fun W => tS X.K W mb) hs hf hx tk (fun W pn xe tk2 po => hb W pn xe tk2 po) h1) fun D σ H h => ?_
  obtain ⟨f, h, ps, s, sr, p⟩ := h
  refine ⟨f, h, ps, s, sr, ?_⟩
  unfold sTry at p
  cases e : mb ps h with
  | nx ps1 h1 => rw [e] at p; exact p
  | bk ps1 h1 => rw [e] at p; exact p
  | ct ps1 h1 => rw [e] at p; exact p
  | rt w h1 => rw [e] at p; exact p
  | stuck => rw [e] at p; exact p.elim
  | exc x ps1 g1 =>
    rw [e] at p
    dsimp only at p
    split at p
    · rename_i hk
      exact fun f' H' σ' c d s2 q xr => h2 D f' g1 H' σ' ps1 x c d (by simpa using hk) s2.sim q xr (PostS.later s2 p)
    · exact p.elim
end

/-! ### raise -/
def sRaise (c : Str) : SM := fun ps h => .exc ⟨c, []⟩ ps h
/-- a class without own __init__ -/
structure ECls (K : PySem.W.Frag) (mg : Str → Option Value) (c : Str) : Prop where
  ex : ∃ C : Addr, mg c = some (.ref C) ∧ PySem.W.nsIn K mainGlobals c = some (some (.ref C)) ∧ PySem.W.keepIn K (.ref C) = true ∧ PySem.W.subIn K (.ref C) (.type "BaseException") = some true ∧ PySem.W.typeIn K (.ref C) = some (.type "type") ∧
    PySem.W.excIn K C [.type "ValueError", .type "Exception", .type "BaseException", .type "object"] "ValueError.__new__" = true
end Mir

/-! Mir: raise; isinstance and the fields of a kept exception; one made by hand. -/
namespace Mir
open PySem PySem.Spec PyProof.Rows L2
section
variable {X : Cx} {W0 : WX} {pos pos2 p p2 : Pos} {e : Expr} {m : EM}
/-- raise C('..') -/
theorem ss_raise {c t : Str} {j : Nat} (T : ECls X.K X.mg c) (hc : X.calm = true) (tk : Takes X W0) (hg : Gl X c := by rfl) (hdb : (c == ("__debug__" : Str)) = false := by decide) :
    SS X W0 (.Raise (some (.Call (.Name c p) [.Constant (.str t) j p2] [] pos)) none pos2) (sRaise c) := by
  obtain ⟨C, h1, h2, h3, h4, h5, h6⟩ := T.ex
  refine ps_imp (ps_raise hc tk (pmk_own PySem.F.excBase_ValueError h6 h1 h3 (raises_own h4 h5) hg hdb)) fun D σ H h => ?_
  obtain ⟨f, h, ps, s, sr, q⟩ := h
  exact q f H σ (.ref C) none (.refl s) sr ⟨⟨C, rfl, h2⟩, .inl ⟨rfl, rfl⟩⟩

/-! ### constants of the module -/
theorem se_globI {c : Str} {i : Int} (h : ∃ t, X.mg c = some (.int i t)) (hg : Gl X c := by rfl) (hdb : (c == ("__debug__" : Str)) = false := by decide) : SE X W0 (.Name c p) (mC (.int i)) := by
  obtain ⟨t, h⟩ := h
  exact pe_imp (pe_glob hg h (show RelV (V.int i) (Value.int i t) from ⟨t, rfl⟩) hdb) fun σ H Q h => by
    obtain ⟨f, h, ps, s, sr, q⟩ := h
    exact post_pure s q (rep_int.mpr rfl)
theorem se_globS {c z : Str} (h : ∃ t, X.mg c = some (.str z t)) (hg : Gl X c := by rfl) (hdb : (c == ("__debug__" : Str)) = false := by decide) : SE X W0 (.Name c p) (mC (.str z)) := by
  obtain ⟨t, h⟩ := h
  exact pe_imp (pe_glob hg h (show RelV (V.str z) (Value.str z t) from ⟨t, rfl⟩) hdb) fun σ H Q h => by
    obtain ⟨f, h, ps, s, sr, q⟩ := h
    exact post_pure s q (rep_str.mpr rfl)

/-! ### isinstance -/
/-- by the class's name: what isinstance asks -/
def ExN (K : PySem.W.Frag) (c : Str) : Prop := ∀ C : Addr, PySem.W.nsIn K mainGlobals c = some (some (.ref C)) → ExcC K C
theorem exn_of {K : PySem.W.Frag} {c : Str} {C : Addr} (h : PySem.W.nsIn K mainGlobals c = some (some (.ref C))) (q : ExcC K C) : ExN K c := fun C2 e => by
  rw [h] at e
  cases e
  exact q
theorem exV_inst {pins : List (Addr × Obj)} {σ : L2.St} {H : Hp} {s : Shared} {x : XV} {a C : Addr} {d : Option Addr} {f : List Addr} (I : Inv X pins σ H s) (e : H a = some (exV C d a)) (xr : XRep X.K f H x (.ref C) d) :
    ∃ (ox : Obj) (od : Option Obj), PySem.W.InstAt s.heap a ox C od := by
  have z : ObjOk X.prog X.w H s.heap a (exV C d a) := I.hok a _ e
  obtain ⟨⟨oe, vs, h1, ⟨h2, h3⟩, h4⟩, _, _⟩ := z
  have nc : PySem.W.notCls oe = true := by unfold PySem.W.notCls; rw [h4] <;> rfl
  rcases xr.2 with ⟨rfl, _⟩ | ⟨dd, rfl, q⟩
  · exact ⟨oe, none, h1, h2, nc, by rw [h3]; exact trivial⟩
  · have y : ObjOk X.prog X.w H s.heap dd (.xd (x.fs.map fun p => (p.1, p.2.v))) := I.hok dd _ q
    obtain ⟨mA, hns, _⟩ := y
    obtain ⟨od, ho, _⟩ := lookIn_ns hns
    exact ⟨oe, some od, h1, h2, nc, by rw [h3]; exact ho⟩
theorem kit_exV {C a : Addr} {ox : Obj} {od : Option Obj} {K : PySem.W.Frag} (T : ExcC K C) : PySem.W.KitX K (.ref a) (.ref C) (fun h => PySem.W.InstAt h a ox C od) := by
  refine PySem.W.kitx_exc ?_ T.hg T.hk T.hs T.ha T.hn T.ht T.hm
  have z := T.hd
  obtain ⟨cd, q, _⟩ := PySem.W.any_some z
  rw [q]
  rfl
/-- isinstance(e, C) of a kept exception -/
def rIsX (X : Cx) : List V → Hp → VK → Prop := fun xs H Q => ∃ (x : XV) (f : List Addr) (a C : Addr) (d : Option Addr) (c : V) (u : Value) (b : Bool), xs = [.ref a, c] ∧ ClsV c u ∧ ExcC X.K C ∧ XRep X.K f H x (.ref C) d ∧ H a = some (exV C d a) ∧ PySem.W.kitOne X.K (.ref C) u = some b ∧ Q (.bl b) H
theorem call_isX : CallR X (.builtin "isinstance") (rIsX X) := by
  intro pins s σ H xs us Q I r h
  obtain ⟨x, f, a, C, d, c, u, b, rfl, k, T, xr, e, ke, q⟩ := h
  obtain ⟨u1, u2, rfl, r1, r2⟩ := vals2 r
  have e2 := k.eq r2
  subst e2
  cases (show u1 = Value.ref a from r1)
  obtain ⟨ox, od, J⟩ := exV_inst I e xr
  exact PySem.W.kia_one (kit_exV T) I.kIn J ke (fun z => nomatch z) fun tk => ⟨.bl b, H, I.tok tk, rfl, q⟩
/-- isinstance(e, (C, ..)) -/
def rIsXT (X : Cx) : List V → Hp → VK → Prop := fun xs H Q => ∃ (x : XV) (f : List Addr) (a C tp : Addr) (d : Option Addr) (cs : List V) (us : List Value) (b : Bool), xs = [.ref a, .ref tp] ∧ H tp = some (.tup cs) ∧ Paired ClsV cs us ∧ ExcC X.K C ∧ XRep X.K f H x (.ref C) d ∧ H a = some (exV C d a) ∧
  PySem.W.kitAny X.K (.ref C) us = some b ∧ Q (.bl b) H
theorem call_isXT : CallR X (.builtin "isinstance") (rIsXT X) := by
  intro pins s σ H xs us Q I r h
  obtain ⟨x, f, a, C, tp, d, cs, ws, b, rfl, hT, k, T, xr, e, ke, q⟩ := h
  obtain ⟨u1, u2, rfl, r1, r2⟩ := vals2 r
  cases (show u1 = Value.ref a from r1)
  cases (show u2 = Value.ref tp from r2)
  obtain ⟨ox, od, J⟩ := exV_inst I e xr
  obtain ⟨_, its, rv, o, h1, h2, n, h3⟩ := (show ObjOk X.prog X.w H s.heap tp (.tup cs) from I.hok tp _ hT)
  have e3 := ClsV.all k rv
  subst e3
  obtain ⟨oc, od2, dt, sl⟩ := o
  simp only at h2 h3
  subst h2 h3
  exact PySem.W.kia_tup (kit_exV T) I.kIn J h1 ke (fun z => nomatch z) fun tk => ⟨.bl b, H, I.tok tk, rfl, q⟩
/-- names of classes as values -/
inductive NmV (X : Cx) : List Expr → List Str → List V → List Value → Prop where
  | nil : NmV X [] [] [] []
  | own {n : Str} {D : Addr} {es : List Expr} {ns : List Str} {vs : List V} {us : List Value} {p : Pos} (hg : Gl X n) (hm : X.mg n = some (.ref D)) (hd : (n == ("__debug__" : Str)) = false) (r : NmV X es ns vs us) : NmV X (.Name n p :: es) (n :: ns) (.ref D :: vs) (.ref D :: us)
  | blt {n : Str} {t : String} {es : List Expr} {ns : List Str} {vs : List V} {us : List Value} {p : Pos} (hg : Gl X n) (hm : X.mg n = none) (hb : bootBuiltins n = some (.type t)) (hn : n ≠ "__name__") (hd : (n == ("__debug__" : Str)) = false) (r : NmV X es ns vs us) :
      NmV X (.Name n p :: es) (n :: ns) (.ty t :: vs) (.type t :: us)
theorem NmV.pa {es : List Expr} {ns : List Str} {vs : List V} {us : List Value} (h : NmV X es ns vs us) : PA X es (fun _ H Q => Q vs H) := by
  induction h with
  | nil => exact pa_nil
  | own hg hm hd r ih => exact pa_imp (pa_cons (pe_glob hg hm (show RelV (V.ref _) (Value.ref _) from rfl) hd) ih) fun σ H Q h => h
  | blt hg hm hb hn hd r ih => exact pa_imp (pa_cons (pe_bltn hg hm hb (show RelV (V.ty _) (Value.type _) from rfl) hn hd) ih) fun σ H Q h => h
theorem NmV.cls {es : List Expr} {ns : List Str} {vs : List V} {us : List Value} (h : NmV X es ns vs us) : Paired ClsV vs us := by
  induction h with
  | nil => exact .nil
  | own hg hm hd r ih => exact .cons (.own _) ih
  | blt hg hm hb hn hd r ih => exact .cons (.ty _) ih
theorem NmV.len {es : List Expr} {ns : List Str} {vs : List V} {us : List Value} (h : NmV X es ns vs us) : vs.length = ns.length := by
  induction h with
  | nil => rfl
  | own hg hm hd r ih => simp only [List.length_cons, ih]
  | blt hg hm hb hn hd r ih => simp only [List.length_cons, ih]
theorem NmV.any {es : List Expr} {ns : List Str} {vs : List V} {us : List Value} (h : NmV X es ns vs us) {c : Str} {C : Addr} (hC : PySem.W.nsIn X.K mainGlobals c = some (some (.ref C))) (hp : ∀ d ∈ ns, EPair X.K X.mg c d) :
    PySem.W.kitAny X.K (.ref C) us = some (ns.any (isSub c)) := by
  induction h with
  | nil => rfl
  | @own n D es ns vs us p hg hm hd r ih =>
    refine kitAny_cons (b := isSub c n) ((hp n List.mem_cons_self) C _ hC (.inl hm)) (fun q => ?_) fun q => ?_
    · rw [ih fun d hd => hp d (List.mem_cons_of_mem _ hd), List.any_cons, q, Bool.false_or]
    · rw [List.any_cons, q, Bool.true_or]
  | @blt n t es ns vs us p hg hm hb hn hd r ih =>
    refine kitAny_cons (b := isSub c n) ((hp n List.mem_cons_self) C _ hC (.inr ⟨hm, hb⟩)) (fun q => ?_) fun q => ?_
    · rw [ih fun d hd => hp d (List.mem_cons_of_mem _ hd), List.any_cons, q, Bool.false_or]
    · rw [List.any_cons, q, Bool.true_or]
/-- isinstance of a kept exception -/
def mIsX (kn ns : List Str) (m : EM) : EM := fun ps h => (m ps h).bind fun x h1 => match x with
  | .exc x => if kn.contains x.c = true then .ok (.bl (ns.any (isSub x.c))) h1 else .stuck
  | _ => .stuck
theorem se_isX {kn : List Str} {n : Str} {vs : List V} {us : List Value} (hm : X.mg "isinstance" = none) (hn : NmV X [.Name n p2] [n] vs us) (hk : ∀ c ∈ kn, ExN X.K c) (hp : ∀ c ∈ kn, EPair X.K X.mg c n) (ha : SE X W0 e m) (hg : Gl X "isinstance" := by rfl)
    (hb : bootBuiltins "isinstance" = some (.builtin "isinstance") := by rfl) (he : starEach [e, .Name n p2] X.env = (false, eval e X.env) :: starEach [.Name n p2] X.env := by rfl) (hpl : (backTo pos (starEach [.Name n p2] X.env)).any (·.1) = false := by rfl) :
    SE X W0 (.Call (.Name "isinstance" p) [e, .Name n p2] [] pos) (mIsX kn [n] m) :=
  pe_imp (pe_callB call_isX hg hm hb (pa_cons ha hn.pa he) (by decide) (by decide) he hpl) fun σ H Q h => by
    obtain ⟨f, h, ps, s, sr, p⟩ := h
    refine ⟨f, h, ps, s, sr, (Post.bind (R1 := RW X.K) s back_W p).mono (fun v H1 hh => ?_) fun _ _ _ e => e⟩
    obtain ⟨f1, h1, x, s1, q1, p1⟩ := hh
    cases x with
    | exc x =>
      dsimp only at p1
      split at p1
      · rename_i hx
        have hx : x.c ∈ kn := by simpa using hx
        obtain ⟨a, rfl, C, d, xr, ea⟩ := rep_exc.mp q1
        obtain ⟨⟨C2, ec, ns⟩, _⟩ := id xr
        cases ec
        have kk := hn.any ns (fun d hd => by rw [List.mem_singleton.mp hd]; exact hp _ hx)
        have kc := hn.cls
        have hl := hn.len
        cases kc with
        | nil => simp at hl
        | @cons v u vt ut k1 k2 =>
          cases k2 with
          | cons _ _ => simp at hl
          | nil =>
          refine ⟨x, [], a, C, d, v, u, _, rfl, k1, hk _ hx C ns, xr, ea, ?_, p1 f1 H1 _ (.refl s1.sim) (rep_bl.mpr rfl)⟩
          unfold PySem.W.kitAny at kk
          split at kk
          · rename_i z
            rw [z]
            exact kk
          · rename_i z
            rw [z]
            exact kk
          · cases kk
      · exact p1.elim
    | _ => exact p1.elim
theorem se_isXT {kn : List Str} {es : List Expr} {ns : List Str} {vs : List V} {us : List Value} {x1 : Nat} (hm : X.mg "isinstance" = none) (hn : NmV X es ns vs us) (hl : ns.length ≤ 1000) (hk : ∀ c ∈ kn, ExN X.K c) (hp : ∀ c ∈ kn, ∀ d ∈ ns, EPair X.K X.mg c d) (ha : SE X W0 e m) (hg : Gl X "isinstance" := by rfl)
    (hb : bootBuiltins "isinstance" = some (.builtin "isinstance") := by rfl) (he : starEach [e, .Tuple es x1 p2] X.env = (false, eval e X.env) :: starEach [.Tuple es x1 p2] X.env := by rfl) (hpl : (backTo pos (starEach [.Tuple es x1 p2] X.env)).any (·.1) = false := by rfl) :
    SE X W0 (.Call (.Name "isinstance" p) [e, .Tuple es x1 p2] [] pos) (mIsX kn ns m) :=
  pe_imp (pe_callB call_isXT hg hm hb (pa_cons ha (pa_cons (pe_tup hn.pa) pa_nil) he) (by decide) (by decide) he hpl) fun σ H Q h => by
    obtain ⟨f, h, ps, s, sr, p⟩ := h
    refine ⟨f, h, ps, s, sr, (Post.bind (R1 := RW X.K) s back_W p).mono (fun v H1 hh => ?_) fun _ _ _ e => e⟩
    obtain ⟨f1, h1, x, s1, q1, p1⟩ := hh
    cases x with
    | exc x =>
      dsimp only at p1
      split at p1
      · rename_i hx
        have hx : x.c ∈ kn := by simpa using hx
        obtain ⟨a, rfl, C, d, xr, ea⟩ := rep_exc.mp q1
        obtain ⟨⟨C2, ec, ns2⟩, _⟩ := id xr
        cases ec
        refine ⟨by rw [hn.len, sizeLine_eq]; omega, fun tp ntp => ?_⟩
        have st := s1.sim.other (o := .tup vs) ntp
        exact ⟨x, [], a, C, tp, d, vs, us, _, rfl, upd_same, hn.cls, hk _ hx C ns2, xr.mono (st.stay s1.sim), by rw [upd_ne (ne_of_none ea ntp)]; exact ea, hn.any ns2 (hp _ hx), p1 f1 _ _ st (rep_bl.mpr rfl)⟩
      · exact p1.elim
    | _ => exact p1.elim
end
end Mir

/-! Mir: methods of texts. -/
namespace Mir
open PySem PySem.Spec PyProof.Rows L2
section
variable {K : PySem.W.Frag} {X : Cx} {W0 : WX} {e o : Expr} {m m1 : EM} {apos cpos : Pos}
/-- x.split(y) -/
def wSplit (x : W) (xs : List W) (h : PH) : Option (W × PH) := match x, xs with
  | .str a, [.str b] => if (b.length == 0) = false ∧ a.length + 2 ≤ 16777216 then some (.fix ((Txt.split a b).map W.str), h) else none
  | _, _ => none
theorem op_split : OpMt K (fun x xs H Q => ∃ a b, x = .str a ∧ xs = [.str b] ∧ (b.length == 0) = false ∧ a.length + 2 ≤ sizeLine ∧ rNewStrs (Txt.split a b) H Q) wSplit := by
  intro f h H x v xs vs Q E s rx rxs p
  unfold wSplit at p
  split at p
  · rename_i a b
    split at p
    · rename_i hc
      obtain ⟨u, rfl, ru⟩ := rxs.one_inv
      exact ⟨a, b, rep_str.mp rx, by rw [rep_str.mp ru], hc.1, by rw [sizeLine_eq]; exact hc.2, fun q hq => post_fix s p (reps_strs _) hq⟩
    · exact p.elim
  · exact p.elim
theorem se_split (ho : SE X W0 o m) (ha : SE X W0 e m1) (hbase : attributeBase o "split" X.env (eval o X.env) = eval o X.env := by rfl)
    (hfew : ((backTo cpos (starEach [e] X.env)).all (fun x => !x.1) && (backToKw cpos (keywordEach [] X.env)).all (fun x => x.1.isSome)
      && decide (([e] : List Expr).length + ([] : List Keyword).length + (if ([] : List Keyword).isEmpty then 0 else 1) < 30)) = true := by rfl)
    (hline : (apos.endLine == cpos.line) = true := by rfl) (hs : starEach [e] X.env = [(false, eval e X.env)] := by rfl) : SE X W0 (.Call (.Attribute o "split" apos) [e] [] cpos) (mMt "str" wSplit m (mCons m1 mNil)) :=
  se_mt PySem.F.plainAttrs_str PySem.F.slot_str_split PySem.F.type_str_split mt_split op_split ho (sa_cons ha sa_nil hs) hbase hfew hline hs
/-! ### a, b = x, y -/
def sPar (m m1 : EM) (i j : Nat) : SM := fun ps h => (m ps h).thenS ps fun v h1 => (m1 ps h1).thenS ps fun w h2 => .nx ((ps.set i (some v)).set j (some w)) h2
theorem ss_par (i j : Nat) {x y : Str} {a b : Expr} {px py pt pos pt2 : Pos} {kt k2 : Nat} (hN : X.N.Nodup) (ha : SE X W0 a m) (hb : SE X W0 b m1) (hij : i ≠ j := by decide) (hc : X.calm = true := by rfl) (hi : X.N[i]? = some x := by rfl) (hj : X.N[j]? = some y := by rfl)
    (hx : X.env.scope.names.lookup x = some .local := by rfl) (hy : X.env.scope.names.lookup y = some .local := by rfl)
    (he : starEach [a, b] X.env = (false, eval a X.env) :: starEach [b] X.env := by rfl) (he2 : starEach [b] X.env = (false, eval b X.env) :: starEach [] X.env := by rfl)
    (hw : swappedStores [.Tuple [.Name x px, .Name y py] kt pt] (.Tuple [a, b] k2 pt2) X.env = pure (some [x, y]) := by rfl)
    (hs : swapsWithSole [.Tuple [.Name x px, .Name y py] kt pt] (.Tuple [a, b] k2 pt2) pos.line X.env = pure false := by rfl) :
    SS X W0 (.Assign [.Tuple [.Name x px, .Name y py] kt pt] (.Tuple [a, b] k2 pt2) pos) (sPar m m1 i j) :=
  ps_imp (ps_par hc hN hi hj hij hx hy (pa_cons ha (pa_cons hb pa_nil he2) he) hw hs) fun D σ H h => by
    obtain ⟨f, h, ps, s, sr, p⟩ := h
    refine ⟨f, h, ps, s, sr, (PostS.bind (R1 := RW X.K) s sr p).mono (fun v H1 hh => ?_) fun _ _ _ e => e⟩
    obtain ⟨f1, h1, x1, s1, sr1, q1, p1⟩ := hh
    refine ⟨f1, h1, ps, s1.sim, sr1, (PostS.bind (R1 := RW X.K) s1.sim sr1 p1).mono (fun w H2 hh => ?_) fun _ _ _ e => e⟩
    obtain ⟨f2, h2, x2, s2, sr2, q2, p2⟩ := hh
    exact ⟨v, w, rfl, p2 f2 H2 _ (.refl s2.sim) ((sr2.set i (s2.rep s1.sim q1)).set j q2)⟩
end
end Mir

/-! Mir: exceptions as values made by hand, their fields. -/
namespace Mir
open PySem PySem.Spec PyProof.Rows L2
section
variable {X : Cx} {pins : List (Addr × Obj)} {σ : L2.St} {H : Hp} {s : Shared}
/-- what is known of an object is told otherwise -/
theorem inv_retag {a : Addr} {φ : Heap → Prop} {o : HO} (I : Inv X pins σ H s) (ha : H a = some (.ext φ)) (new : ObjOk X.prog X.w (upd H a o) s.heap a o) : Inv X pins σ (upd H a o) s := by
  have n0 : ∀ b, H b = none → b ≠ a := fun b e z => by
    rw [z, ha] at e
    cases e
  refine ⟨I.ok, I.os, I.bare, ⟨I.base.keep, I.base.slot, fun b u e n h => ?_, I.base.there, fun b xs e => ?_, fun b u v e => ?_, fun b ps e => ?_⟩, I.loc, I.cell, ?_, fun x c e => ?_, fun p hp => ?_, fun b u e => ?_, I.len⟩
  · have q := I.base.free b u e n h
    rw [upd_ne (n0 b q)]
    exact q
  · have q := I.base.tups b xs e
    rw [upd_ne (fun z => by rw [z, ha] at q; cases q)]
    exact q
  · have q := I.base.frzs b u v e
    rw [upd_ne (fun z => by rw [z, ha] at q; cases q)]
    exact q
  · obtain ⟨m, q⟩ := I.base.tbls b ps e
    exact ⟨m, by rw [upd_ne (fun z => by rw [z, ha] at q; cases q)]; exact q⟩
  · rw [upd_ne (n0 _ I.free)]
    exact I.free
  · rw [upd_ne (n0 _ (I.freeC x c e))]
    exact I.freeC x c e
  · obtain ⟨h1, h2, h3⟩ := I.pin p hp
    exact ⟨h1, by rw [upd_ne (n0 _ h2)]; exact h2, h3⟩
  · by_cases hb : b = a
    · subst hb
      rw [upd_same] at e
      cases e
      exact new
    · rw [upd_ne hb] at e
      exact (I.hok b u e).stay (fun _ _ _ q => q) (fun c q => by rw [upd_ne (fun z => by rw [z, ha] at q; cases q)]; exact q) fun c xs q => by rw [upd_ne (fun z => by rw [z, ha] at q; cases q)]; exact q
end
section
variable {X : Cx} {W0 : WX} {e : Expr} {m : EM} {p pos p2 : Pos}
/-- C(e), a class without own __init__, as a value -/
def mNewX (c : Str) (m : EM) : EM := fun ps h => (m ps h).bind fun _ h1 => .ok (.exc ⟨c, []⟩) h1
theorem se_newX {c : Str} (T : ECls X.K X.mg c) (ha : SE X W0 e m) (hg : Gl X c := by rfl) (hs : starEach [e] X.env = (false, eval e X.env) :: starEach [] X.env := by rfl) (hdb : (c == ("__debug__" : Str)) = false := by decide) :
    SE X W0 (.Call (.Name c p) [e] [] pos) (mNewX c m) := by
  obtain ⟨C, h1, h2, h3, h4, h5, h6⟩ := T.ex
  have key : PE X (.Call (.Name c p) [e] [] pos) (fun σ H Q => tE X.K W0 m σ H fun _ H1 => ∀ a, H1 a = none → Q (.ref a) (upd H1 a (exV C none a))) := by
    refine ⟨fun pins s σ H Q I h => ?_⟩
    refine wpAny_mono ((pe_exc1 PySem.F.excBase_ValueError h6 h1 h3 hg ha hs hdb).run pins s σ H (fun v H1 => ∃ a H2, v = .ref a ∧ H2 a = none ∧ H1 = upd H2 a (ExO (.ref C) a) ∧ Q (.ref a) (upd H2 a (exV C none a))) I ?_) (fun u s1 hu => ?_) fun _ _ z => z
    · obtain ⟨f, h, ps, sm, sr, q⟩ := h
      exact ⟨f, h, ps, sm, sr, q.mono (fun v H1 hh a na => ⟨a, H1, rfl, na, rfl, hh a na⟩) fun _ _ _ z => z⟩
    · obtain ⟨v, H1, I1, r1, a, H2, rfl, na, rfl, q⟩ := hu
      have z : ObjOk X.prog X.w (upd H2 a (ExO (.ref C) a)) s1.heap a (ExO (.ref C) a) := I1.hok a _ upd_same
      obtain ⟨⟨oe, vs, y1, y2, y3, _⟩, _, _⟩ := z
      have J := inv_retag I1 (o := exV C none a) upd_same (exV_ok y1 y2 y3)
      rw [upd_upd] at J
      exact ⟨_, _, J, r1, q⟩
  exact pe_imp key fun σ H Q h => by
    obtain ⟨f, h, ps, s, sr, q⟩ := h
    refine ⟨f, h, ps, s, sr, (Post.bind (R1 := RW X.K) s back_W q).mono (fun v H1 hh a na => ?_) fun _ _ _ z => z⟩
    obtain ⟨f1, g1, x, s1, q1, p1⟩ := hh
    have st := s1.sim.other (o := exV C none a) na
    exact p1 f1 _ _ st (rep_exc.mpr ⟨a, rfl, C, none, ⟨⟨C, rfl, h2⟩, .inl ⟨rfl, rfl⟩⟩, upd_same⟩)

/-! ### e.f -/
def PV.w : PV → W
  | .non => .non
  | .bl b => .bl b
  | .int i => .int i
  | .str x => .str x
theorem rep_pv {K : PySem.W.Frag} {f : List Addr} {H : Hp} (v : PV) : Rep K f H v.w v.v := by
  cases v <;> simp only [PV.w, PV.v, Rep]
def mFld (kn : List Str) (fl : Str) (m : EM) : EM := fun ps h => (m ps h).bind fun x h1 => match x with
  | .exc x => if kn.contains x.c = true then (match x.fs.lookup fl with
    | some v => .ok v.w h1
    | none => .stuck) else .stuck
  | _ => .stuck
/-- by the class's name: what a field's reading asks -/
def EFld (K : PySem.W.Frag) (c fl : Str) : Prop := ∀ C : Addr, PySem.W.nsIn K mainGlobals c = some (some (.ref C)) → XfC K C ∧ PySem.W.findIn K (.ref C) fl = some none
theorem lookup_v {fl : Str} : ∀ {fs : List (Str × PV)} {v : PV}, fs.lookup fl = some v → (fs.map fun p => (p.1, p.2.v)).lookup fl = some v.v
  | [], _, h => by cases h
  | (k, w) :: r, v, h => by
    simp only [List.lookup, List.map_cons] at h ⊢
    split at h
    · rename_i q
      cases h
      rfl
    · rename_i q
      exact lookup_v h
theorem se_fld {fl : Str} {kn : List Str} (hk : ∀ c ∈ kn, EFld X.K c fl) (ha : SE X W0 e m) (hb : attributeBase e fl X.env (eval e X.env) = eval e X.env := by rfl) :
    SE X W0 (.Attribute e fl pos) (mFld kn fl m) := by
  refine ⟨fun pins s σ H Q I h => ?_⟩
  obtain ⟨f, h, ps, sm, sr, q⟩ := h
  refine attr_of hb (thn (ha.run pins s σ H _ I ⟨f, h, ps, sm, sr, Post.bind (R1 := RW X.K) sm back_W q⟩) fun u s1 hh => ?_)
  obtain ⟨v, H1, I1, rv, f1, g1, x, s1', q1, p1⟩ := hh
  cases x with
  | exc x =>
    dsimp only at p1
    split at p1
    · rename_i hx
      have hx : x.c ∈ kn := by simpa using hx
      obtain ⟨a, rfl, C, d, xr, ea⟩ := rep_exc.mp q1
      obtain rfl : u = Value.ref a := rv
      obtain ⟨⟨C2, ec, ns⟩, dd⟩ := id xr
      cases ec
      obtain ⟨T, hno⟩ := hk _ hx C ns
      split at p1
      · rename_i v hv
        rcases dd with ⟨_, z⟩ | ⟨dd, ed, eh⟩
        · rw [z] at hv
          cases hv
        · subst ed
          have y : ObjOk X.prog X.w H1 s1.heap dd (.xd (x.fs.map fun p => (p.1, p.2.v))) := I1.hok dd _ eh
          obtain ⟨mA, hns, hr⟩ := y
          obtain ⟨od, ho, hl⟩ := lookIn_ns hns
          obtain ⟨u, hu, ru⟩ := RelO.some_of (v := v.v) (o := mA fl) (by rw [← lookup_v hv]; exact hr fl)
          have zz : ObjOk X.prog X.w H1 s1.heap a (exV C (some dd) a) := I1.hok a _ ea
          obtain ⟨⟨oe, vs, y1, ⟨y2, y3⟩, y4⟩, _, _⟩ := zz
          have J : PySem.W.InstAt s1.heap a oe C (some od) := ⟨y1, y2, by unfold PySem.W.notCls; rw [y4] <;> rfl, by rw [y3]; exact ho⟩
          exact PySem.HandSPX.exc_get I1.kIn J T.ga T.gg T.exC (PySem.W.findObj_own T.hdC hno rfl (by rw [hl, hu])) (handed_of ru) ⟨v.v, H1, I1.tok _, ru, p1 f1 H1 _ (.refl s1'.sim) (rep_pv v)⟩
      · exact p1.elim
    · exact p1.elim
  | _ => exact p1.elim
end
end Mir

/-! Mir: exception classes with an own __init__. -/
namespace Mir
open PySem PySem.Spec PyProof.Rows L2
section
variable {X : Cx} {e : Expr} {es : List Expr} {ta : TA} {p1 p2 pos : Pos}
/-- D.__init__(self, ..), D an own class whose __init__ is ValueError's -/
theorem pe_dinit {D : Str} {C0 : Addr} {pl : Sem Bool} (hm : X.mg D = some (.ref C0)) (hr : PySem.W.readsIn X.K C0 (.type "type") = true) (hs : PySem.W.specialIn X.K (.ref C0) "__getattribute__" = some (some (.builtin "type.__getattribute__")))
    (hf : PySem.W.findCls X.K (.ref C0) (.type "type") "__init__" = some (.val (.builtin "ValueError.__init__"))) (ha : PA X (e :: es) ta) (hg : Gl X D := by rfl) (hdb : (D == ("__debug__" : Str)) = false := by decide)
    (hc : eval (.Call (.Attribute (.Name D p1) "__init__" p2) (e :: es) [] pos) X.env = (do
      let o ← eval (.Name D p1) X.env
      standAt p2.atName
      let (g, first) ← holding [o] (getMethod o "__init__" pl)
      callWith pos g first (backTo pos (starEach (e :: es) X.env)) (backToKw pos (keywordEach [] X.env))) := by rfl)
    (he : starEach (e :: es) X.env = (false, eval e X.env) :: starEach es X.env := by rfl) (hpl : (backTo pos (starEach es X.env)).any (·.1) = false := by rfl) :
    PE X (.Call (.Attribute (.Name D p1) "__init__" p2) (e :: es) [] pos) (tVeI X.K ta) := by
  refine ⟨fun pins s σ H Q I h => ?_⟩
  refine PySem.W.methodCall_KW (ld_glob I hg hm ?_ hdb) hc
  refine PySem.W.method_cls I.kIn hs (PySem.W.cls_value I.kIn hr hf (by decide +kernel) ?_)
  show wpAny _ _ (callWith pos (Value.builtin "ValueError.__init__") [] (backTo pos (starEach (e :: es) X.env)) []) _ _ _
  refine PyProof.Rows.callWith_method1 (thn (ha.run pos pins _ σ H _ (I.tok _) h) fun us s1 hh => ?_) he hpl
  obtain ⟨vs, H1, I1, r1, a, C, ws, ev, hl, T, ea, q⟩ := hh
  subst ev
  obtain ⟨u0, ur, rfl, ra, rw'⟩ : ∃ u0 ur, us = u0 :: ur ∧ RelV (V.ref a) u0 ∧ Vals ws ur := by
    cases r1 with
    | cons x y => exact ⟨_, _, rfl, x, y⟩
  obtain rfl : u0 = Value.ref a := ra
  exact oinit_ok T I1 ea (by rw [← Paired.length rw', sizeLine_eq]; omega) fun s' J => ⟨.non, H1, J, rfl, q⟩
end
/-- what the __init__ of such a class does: the fields are kept -/
def spI (K : PySem.W.Frag) (fls : List Str) : Sp := fun vs H Q _ => ∃ (a C : Addr) (ys : List V), vs = .ref a :: ys ∧ ys.length = fls.length ∧ OexC K C ∧ (∀ f ∈ fls, PySem.W.findIn K (.ref C) f = some none) ∧ H a = some (exo a C none) ∧
  ∀ (dx : Addr) (H' : Hp), H dx = none → dx ≠ a → H' a = some (exo a C (some dx)) → H' dx = some (exd dx (fls.zip ys).reverse) → (∀ b, b ≠ a → b ≠ dx → H' b = H b) → Q .non H'
/-- the class c with such an __init__ -/
structure EInit (P : Program) (w : World) (K : PySem.W.Frag) (mg : Str → Option Value) (base : Heap) (c : Str) (fls : List Str) : Prop where
  ex : ∃ (C fI : Addr) (fd : FuncData) (ps : List Str), mg c = some (.ref C) ∧ PySem.W.nsIn K mainGlobals c = some (some (.ref C)) ∧ OexC K C ∧ PySem.W.findIn K (.ref C) "__init__" = some (some (.ref fI)) ∧
    PySem.W.typeIn K (.ref fI) = some (.type "function") ∧ Binds K fd ps [] ∧ FnOk P w K mg base (L2.CX P w) 1 fI fd ps (spI K fls) ∧ (∀ f ∈ fls, PySem.W.findIn K (.ref C) f = some none) ∧ fls.length ≤ 900
def toPV : W → Option PV
  | .non => some .non
  | .bl b => some (.bl b)
  | .int i => some (.int i)
  | .str x => some (.str x)
  | _ => none
def pvs : List W → Option (List PV)
  | [] => some []
  | x :: r => match toPV x, pvs r with
    | some y, some z => some (y :: z)
    | _, _ => none
theorem pvs_rep {K : PySem.W.Frag} {f : List Addr} {H : Hp} : ∀ {ws : List W} {vs : List V} {ys : List PV}, pvs ws = some ys → Reps K f H ws vs → vs = ys.map PV.v
  | [], vs, ys, e, r => by
    cases e
    exact r.nil_inv
  | x :: ws, vs, ys, e, r => by
    obtain ⟨v, t, rfl, h1, h2⟩ := r.cons_inv
    simp only [pvs] at e
    split at e
    · rename_i y z e1 e2
      cases e
      rw [pvs_rep e2 h2]
      cases x <;> simp only [toPV, Option.some.injEq, reduceCtorEq] at e1
      · subst e1; rw [rep_non.mp h1]; rfl
      · subst e1; rw [rep_bl.mp h1]; rfl
      · subst e1; rw [rep_int.mp h1]; rfl
      · subst e1; rw [rep_str.mp h1]; rfl
    · cases e
theorem zip_v {fls : List Str} {ys : List PV} : (fls.zip (ys.map PV.v)).reverse = ((fls.zip ys).reverse).map fun p => (p.1, p.2.v) := by
  rw [List.map_reverse, List.zip_map_right]
  rfl
def mkX (c : Str) (fls : List Str) (xs : List W) : Option XV := match pvs xs with
  | some ys => if ys.length = fls.length then some ⟨c, (fls.zip ys).reverse⟩ else none
  | none => none
section
variable {X : Cx} {W0 : WX} {e : Expr} {es : List Expr} {l : LM} {p pos pos2 : Pos} {c : Str} {fls : List Str}
/-- C(e, ..) raised -/
def sRaiseF (c : Str) (fls : List Str) (l : LM) : SM := fun ps h => (l ps h).thenS ps fun xs h1 => match mkX c fls xs with
  | some x => .exc x ps h1
  | none => .stuck
theorem ss_raiseF (T : EInit X.prog X.w X.K X.mg X.base c fls) {k : Nat} (hr : Room k X.A) (hk : 2 ≤ k) (tk : Takes X W0) (ha : SA X W0 (e :: es) l) (hc : X.calm = true := by rfl) (hg : Gl X c := by rfl) (hdb : (c == ("__debug__" : Str)) = false := by decide)
    (he : starEach (e :: es) X.env = (false, eval e X.env) :: starEach es X.env := by rfl) (hpl : (backTo pos (starEach es X.env)).any (·.1) = false := by rfl) :
    SS X W0 (.Raise (some (.Call (.Name c p) (e :: es) [] pos)) none pos2) (sRaiseF c fls l) := by
  obtain ⟨C, fI, fd, ps0, h1, h2, TO, h4, h5, hb, F1, h6, h7⟩ := T.ex
  refine ps_imp (ps_raise hc tk (pmk_oex (CX := L2.CX X.prog X.w) TO h4 h5 F1 (hr.mono hk) hb .nil passL hg h1 ha hdb he hpl)) fun D σ H h => ?_
  obtain ⟨f, h, ps, s, sr, q⟩ := h
  refine ⟨f, h, ps, s, sr, (PostS.bind (R1 := RA X.K) s sr q).mono (fun vs H1 hh => ?_) fun _ _ _ z => z⟩
  obtain ⟨f1, g1, xs, s1, sr1, q1, p1⟩ := hh
  unfold mkX at p1
  split at p1
  · rename_i x hx
    split at hx
    · rename_i ys hy
      split at hx
      · rename_i hl
        cases hx
        have ev := pvs_rep hy q1
        subst ev
        refine ⟨by rw [List.length_map]; omega, fun a na => ⟨a, C, ys.map PV.v, by rw [List.append_nil], by rw [List.length_map]; exact hl, TO, h6, upd_same, fun dx H' nd dn ea ed rest => ?_⟩⟩
        have nd1 : H1 dx = none := by rw [upd_ne dn] at nd; exact nd
        refine ⟨rfl, dx, _, ea, ed, nd1, ?_⟩
        have eH : upd (del H' a) dx (.xd (fls.zip (ys.map PV.v)).reverse) = upd H1 dx (.xd (fls.zip (ys.map PV.v)).reverse) := by
          funext b
          by_cases hb : b = dx
          · rw [hb, upd_same, upd_same]
          · rw [upd_ne hb, upd_ne hb]
            by_cases hba : b = a
            · rw [hba, del_same, na]
            · rw [del_ne hba, rest b hba hb, upd_ne hba]
        rw [eH]
        have st := s1.sim.other (o := .xd (fls.zip (ys.map PV.v)).reverse) nd1
        exact p1 f1 _ σ (.ref C) (some dx) st (st.srep s1.sim sr1) ⟨⟨C, rfl, h2⟩, .inr ⟨dx, rfl, by rw [upd_same, zip_v]⟩⟩
      · cases hx
    · cases hx
  · exact p1.elim
end
end Mir

/-! Mir: an exception with fields, made as a value; how such an __init__ is walked. -/
namespace Mir
open PySem PySem.Spec PyProof.Rows L2
section
variable {X : Cx} {W0 : WX} {e : Expr} {es : List Expr} {l : LM} {p pos : Pos} {c : Str} {fls : List Str}
def mNewF (c : Str) (fls : List Str) (l : LM) : EM := fun ps h => (l ps h).bind fun xs h1 => match mkX c fls xs with
  | some x => .ok (.exc x) h1
  | none => .stuck
theorem se_newF (T : EInit X.prog X.w X.K X.mg X.base c fls) {k : Nat} (hr : Room k X.A) (hk : 2 ≤ k) (ha : SA X W0 (e :: es) l) (hg : Gl X c := by rfl) (hdb : (c == ("__debug__" : Str)) = false := by decide)
    (he : starEach (e :: es) X.env = (false, eval e X.env) :: starEach es X.env := by rfl) (hpl : (backTo pos (starEach es X.env)).any (·.1) = false := by rfl) :
    SE X W0 (.Call (.Name c p) (e :: es) [] pos) (mNewF c fls l) := by
  obtain ⟨C, fI, fd, ps0, h1, h2, TO, h4, h5, hb, F1, h6, h7⟩ := T.ex
  obtain ⟨nm, q, N, bs, bm, sn, sub, ab, col, dd, k0, k1, k2, k3, k5, hC, hbm⟩ := id TO.cls
  have key : PE X (.Call (.Name c p) (e :: es) [] pos) (fun σ H Q => tA X.K W0 l σ H fun vs H1 => vs.length = fls.length ∧ ∀ a dx, H1 a = none → H1 dx = none → dx ≠ a → Q (.ref a) (upd (upd H1 dx (.xd (fls.zip vs).reverse)) a (exV C (some dx) a))) := by
    refine ⟨fun pins s σ H Q I h => ?_⟩
    refine wpAny_Call_Name_kw (ld_glob I hg h1 ?_ hdb)
    refine PySem.W.callWith_K (h₀ := X.base) I.ok.mod.kin TO.kC (thn (ha.run pos pins s σ H _ I h) fun us s1 hh => ?_) he hpl
    obtain ⟨vs, H1, I1, r1, hl, q1⟩ := hh
    refine ⟨I1.kIn, ?_⟩
    show wpAny _ _ (call (.ref C) us) _ _ _
    obtain ⟨hp, g, dr, tk, os⟩ := s1
    have hsz : hp.objs.size ≤ hp.objs.size + 1 := Nat.le_succ _
    generalize hA : hp.objs.size + 1 = a at hsz
    have na : H1 a = none := I1.hok.fresh hsz
    have keep : ∀ b o, hp.get? b = some o → ((hp.push (PySem.W.kdv_tup us)).push (PySem.HandSPX.excO C hp.objs.size)).get? b = some o := fun b o e => Heap.get?_push_of_some _ (Heap.get?_push_of_some _ e)
    have got : ((hp.push (PySem.W.kdv_tup us)).push (PySem.HandSPX.excO C hp.objs.size)).get? a = some (PySem.HandSPX.excO C hp.objs.size) := by
      rw [← hA]
      heap_get
    have I2 : Inv X pins σ (upd H1 a (exo a C none)) ⟨(hp.push (PySem.W.kdv_tup us)).push (PySem.HandSPX.excO C hp.objs.size), g, dr, tk, os⟩ :=
      I1.laid (t' := tk) (a := a) (o := exo a C none) (h' := (hp.push (PySem.W.kdv_tup us)).push (PySem.HandSPX.excO C hp.objs.size)) keep hsz (exo_ok got)
    have r2 : Vals (V.ref a :: vs) (Value.ref a :: us) := .cons rfl r1
    have hsp : spI X.K fls (V.ref a :: vs) (upd H1 a (exo a C none)) (fun v H2 => v = .non ∧ ∃ dx, H1 dx = none ∧ dx ≠ a ∧ H2 a = some (exo a C (some dx)) ∧ H2 dx = some (exd dx (fls.zip vs).reverse) ∧ ∀ b, b ≠ a → b ≠ dx → H2 b = H1 b) (fun _ _ _ => False) :=
      ⟨a, C, vs, rfl, hl, TO, h6, upd_same, fun dx H' nd dn ea ed rest => ⟨rfl, dx, by rw [upd_ne dn] at nd; exact nd, dn, ea, ed, fun b b1 b2 => by rw [rest b b1 b2, upd_ne b1]⟩⟩
    have hlen : (Value.ref a :: us).length = ps0.length := by rw [← Paired.length r2]; exact F1.len _ _ _ _ hsp
    have hus : us.length ≤ sizeLine := by
      rw [← Paired.length r1, sizeLine_eq, hl]
      omega
    have bnd := hb ⟨(hp.push (PySem.W.kdv_tup us)).push (PySem.HandSPX.excO C hp.objs.size), g, dr, tk, os⟩ (Value.ref a :: us) I2.kIn (by rw [List.append_nil]; exact hlen)
    rw [List.append_nil] at bnd
    subst hA
    refine wpAny_call (PySem.HandSPX.call_own PySem.F.excBase_ValueError (fun Y => PySem.HandSPX.refsVE_contains Y bm hbm) (I1.kIn _ _ hC) (PySem.W.looks_findIn I1.kIn h4) (fun self => PySem.W.bind_fn I1.kIn self h5) hus
      (codeAny_mono (F1.run _ X.stack _ _ ⟨Value.ref (hp.objs.size + 1) :: us, []⟩ (Value.ref (hp.objs.size + 1) :: us) _ _ (fun _ _ _ => False) ((hr.mono hk).make C us []) (I2.env0.make C us []) bnd r2 hsp) fun r s' hq' => ?_))
    cases r with
    | error er => exact passL pins σ _ _ er s' I2 hq'
    | ok fl =>
      cases fl with
      | ret u =>
        obtain ⟨v, H2, J, rv, ev, dx, nd, dn, ea, ed, rest⟩ := I2.after hq'
        subst ev
        refine ⟨rv, ?_⟩
        obtain ⟨t1, z1⟩ := exo_at J.hok ea
        have J2 := inv_retag J (o := exV C (some dx) (hp.objs.size + 1)) ea (exV_ok z1 ⟨rfl, rfl⟩ rfl)
        have ed2 : upd H2 (hp.objs.size + 1) (exV C (some dx) (hp.objs.size + 1)) dx = some (exd dx (fls.zip vs).reverse) := by rw [upd_ne dn]; exact ed
        have J3 := inv_retag J2 (o := .xd (fls.zip vs).reverse) ed2 (exd_at J2.hok ed2)
        have eH : upd (upd H2 (hp.objs.size + 1) (exV C (some dx) (hp.objs.size + 1))) dx (.xd (fls.zip vs).reverse) = upd (upd H1 dx (.xd (fls.zip vs).reverse)) (hp.objs.size + 1) (exV C (some dx) (hp.objs.size + 1)) := by
          funext b
          by_cases hb : b = dx
          · rw [hb, upd_same, upd_ne dn, upd_same]
          · rw [upd_ne hb]
            by_cases hba : b = hp.objs.size + 1
            · rw [hba, upd_same, upd_same]
            · rw [upd_ne hba, upd_ne hba, upd_ne hb, rest b hba hb]
        rw [eH] at J3
        exact ⟨.ref (hp.objs.size + 1), _, J3, rfl, q1 _ dx na nd dn⟩
      | next => exact False.elim hq'
      | brk => exact False.elim hq'
      | cont => exact False.elim hq'
  exact pe_imp key fun σ H Q h => by
    obtain ⟨f, h, ps, s, sr, q⟩ := h
    refine ⟨f, h, ps, s, sr, (Post.bind (R1 := RA X.K) s back_W q).mono (fun vs H1 hh => ?_) fun _ _ _ z => z⟩
    obtain ⟨f1, g1, xs, s1, q1, p1⟩ := hh
    unfold mkX at p1
    split at p1
    · rename_i x hx
      split at hx
      · rename_i ys hy
        split at hx
        · rename_i hl
          cases hx
          have ev := pvs_rep hy q1
          subst ev
          refine ⟨by rw [List.length_map]; exact hl, fun a dx na nd dn => ?_⟩
          have st := s1.sim.other (o := .xd (fls.zip (ys.map PV.v)).reverse) nd
          have na2 : upd H1 dx (.xd (fls.zip (ys.map PV.v)).reverse) a = none := by rw [upd_ne (Ne.symm dn)]; exact na
          have st2 := st.sim.other (o := exV C (some dx) a) na2
          exact p1 f1 _ _ (st.trans st2) (rep_exc.mpr ⟨a, rfl, C, some dx, ⟨⟨C, rfl, h2⟩, .inr ⟨dx, rfl, by rw [upd_ne dn, upd_same, zip_v]⟩⟩, upd_same⟩)
        · cases hx
      · cases hx
    · exact p1.elim
end
end Mir

/-! Mir: the walks of such an __init__. -/
namespace Mir
open PySem PySem.Spec PyProof.Rows L2
/-- what stands of the class above, whose __init__ is called -/
structure DInit (K : PySem.W.Frag) (mg : Str → Option Value) (D : Str) (C0 : Addr) : Prop where
  m : mg D = some (.ref C0)
  r : PySem.W.readsIn K C0 (.type "type") = true
  s : PySem.W.specialIn K (.ref C0) "__getattribute__" = some (some (.builtin "type.__getattribute__"))
  f : PySem.W.findCls K (.ref C0) (.type "type") "__init__" = some (.val (.builtin "ValueError.__init__"))
theorem spI_len {K : PySem.W.Frag} {fls : List Str} {n : Nat} (hn : n = fls.length + 1) : ∀ vs H Q E, spI K fls vs H Q E → vs.length = n := by
  intro vs H Q E h
  obtain ⟨a, C, ys, rfl, hl, _⟩ := h
  rw [List.length_cons, hl, hn]
section
variable {K : PySem.W.Frag} {vs : List V} {H : Hp} {Q : VK} {E : XK} {msg : Str}
theorem init1 {f : Str} {N : List Str} {vm : V} (h : spI K [f] vs H Q E) (hN : N.length = 2) :
    tSeq (tDrop (tVeI K (tCons (tVar 0) (tCons (tC vm) tNil)))) (tOst K f (tVar 0) (tVar 1)) { nx := fun _ H' => Q .non H', rt := Q } (L2.start N vs) H := by
  obtain ⟨a, C, ys, rfl, hl, TO, hf, ea, q⟩ := h
  match ys, hl with
  | [y], _ =>
    have e0 : (L2.start N [V.ref a, y])[0]? = some (some (.ref a)) := rfl
    have e1 : (L2.start N [V.ref a, y])[1]? = some (some y) := rfl
    refine ⟨_, e0, ?_⟩
    refine ⟨a, C, [vm], rfl, by simp, TO, ea, ?_⟩
    refine ⟨_, e1, _, e0, a, C, rfl, TO, hf f (by simp), .inl ⟨ea, fun dx nd dn => q dx _ nd dn upd_same ?_ fun b b1 b2 => ?_⟩⟩
    · rw [upd_ne dn, upd_same]
      rfl
    · rw [upd_ne b1, upd_ne b2]
theorem init2 {f g : Str} {N : List Str} {vm : V} (h : spI K [f, g] vs H Q E) (hN : N.length = 3) :
    tSeq (tDrop (tVeI K (tCons (tVar 0) (tCons (tC vm) tNil)))) (tSeq (tOst K f (tVar 0) (tVar 1)) (tOst K g (tVar 0) (tVar 2))) { nx := fun _ H' => Q .non H', rt := Q } (L2.start N vs) H := by
  obtain ⟨a, C, ys, rfl, hl, TO, hf, ea, q⟩ := h
  match ys, hl with
  | [y, z], _ =>
    have e0 : (L2.start N [V.ref a, y, z])[0]? = some (some (.ref a)) := rfl
    have e1 : (L2.start N [V.ref a, y, z])[1]? = some (some y) := rfl
    have e2 : (L2.start N [V.ref a, y, z])[2]? = some (some z) := rfl
    refine ⟨_, e0, ?_⟩
    refine ⟨a, C, [vm], rfl, by simp, TO, ea, ?_⟩
    refine ⟨_, e1, _, e0, a, C, rfl, TO, hf f (by simp), .inl ⟨ea, fun dx nd dn => ?_⟩⟩
    refine ⟨_, e2, _, e0, a, C, rfl, TO, hf g (by simp), .inr ⟨dx, [(f, y)], upd_same, by rw [upd_ne dn, upd_same], by simp, q dx _ nd dn ?_ ?_ fun b b1 b2 => ?_⟩⟩
    · rw [upd_ne (Ne.symm dn), upd_same]
    · rw [upd_same]
      rfl
    · rw [upd_ne b2, upd_ne b1, upd_ne b2]
end
end Mir

/-! Mir: objects of the program's own classes. -/
namespace Mir
open PySem PySem.Spec PyProof.Rows L2
theorem KRep.lookup {K : PySem.W.Frag} {f : List Addr} {H : Hp} {x : Str} {w : W} : ∀ {ws : List (Str × W)} {vs : List (Str × V)}, KRep K f H ws vs → ws.lookup x = some w → ∃ v, vs.lookup x = some v ∧ Rep K f H w v
  | [], vs, h, e => by simp at e
  | (k, y) :: r, vs, h, e => by
    obtain ⟨v, t, rfl, h2, h3⟩ := h
    by_cases q : x == k
    · simp only [List.lookup_cons, q, Option.some.injEq] at e ⊢
      subst e
      exact ⟨v, rfl, h2⟩
    · simp only [List.lookup_cons, Bool.eq_false_iff.mpr q] at e ⊢
      exact KRep.lookup h3 e
theorem KRep.lookup_none {K : PySem.W.Frag} {f : List Addr} {H : Hp} {x : Str} : ∀ {ws : List (Str × W)} {vs : List (Str × V)}, KRep K f H ws vs → ws.lookup x = none → vs.lookup x = none
  | [], vs, h, e => by
    have h : vs = [] := h
    subst h
    rfl
  | (k, y) :: r, vs, h, e => by
    obtain ⟨v, t, rfl, h2, h3⟩ := h
    by_cases q : x == k
    · simp only [List.lookup_cons, q] at e
      cases e
    · simp only [List.lookup_cons, Bool.eq_false_iff.mpr q] at e ⊢
      exact KRep.lookup_none h3 e
def putFW (f : Str) (w : W) : List (Str × W) → List (Str × W)
  | [] => [(f, w)]
  | (g, x) :: r => if g = f then (g, w) :: r else (g, x) :: putFW f w r
theorem KRep.putF {K : PySem.W.Frag} {f : List Addr} {H : Hp} {x : Str} {w : W} {v : V} (r : Rep K f H w v) : ∀ {ws : List (Str × W)} {vs : List (Str × V)}, KRep K f H ws vs → KRep K f H (putFW x w ws) (L2.putF x v vs)
  | [], vs, h => by
    have h : vs = [] := h
    subst h
    exact ⟨v, [], rfl, r, rfl⟩
  | (k, y) :: t, vs, h => by
    obtain ⟨u, s, rfl, h2, h3⟩ := h
    unfold putFW L2.putF
    by_cases q : k = x
    · rw [if_pos q, if_pos q]
      exact ⟨v, s, rfl, r, h3⟩
    · rw [if_neg q, if_neg q]
      exact ⟨u, _, rfl, h2, KRep.putF r h3⟩
theorem Sim.put_ins {K : PySem.W.Frag} {f : List Addr} {h : PH} {H : Hp} (s : Sim K f h H) {n : Nat} {a C dx : Addr} {c : Str} (hC : PySem.W.nsIn K mainGlobals c = some (some (.ref C))) (hf : f[n]? = some a) {us : List (Str × V)} {xs : List (Str × W)} (r : KRep K f H xs us) (hm0 : ∀ o us, H a = some (.frz o (.dK us)) → False) :
    Step K f H f (h.set n (.ins c xs)) (upd H a (.ins C dx us)) := by
  have g : Grow f H (upd H a (.ins C dx us)) := fun b w e hn => by rw [upd_ne (fun z => hn (by rw [z]; exact List.mem_of_getElem? hf))]; exact e
  exact s.put hf ⟨C, dx, us, hC, upd_same, KRep.mono (.refl f) (s.stay g) _ _ r⟩ hm0

/-- what is known of the attribute f of the class c -/
def IFld (K : PySem.W.Frag) (c f : Str) : Prop := ∀ C, PySem.W.nsIn K mainGlobals c = some (some (.ref C)) → Cls K C ∧ NoAttr K C f
section
variable {X : Cx} {W0 : WX} {e o value : Expr} {m mo me : EM} {f : Str} {pos pos' : Pos}
/-! ### o.f -/
def fldW (kc : List Str) (f : Str) : W → PH → Option (W × PH)
  | .ref n, h => match h[n]? with
    | some (.ins c fs) => if c ∈ kc then (fs.lookup f).map fun w => (w, h) else none
    | _ => none
  | _, _ => none
theorem se_fldO {kc : List Str} (hk : ∀ c ∈ kc, IFld X.K c f) (ha : SE X W0 e m) (hb : attributeBase e f X.env (eval e X.env) = eval e X.env := by rfl) : SE X W0 (.Attribute e f pos) (mUn (fldW kc f) m) :=
  pe_imp (pe_fld ha hb) fun σ H Q h => by
    obtain ⟨f0, h0, ps, s, sr, p⟩ := h
    refine ⟨f0, h0, ps, s, sr, (Post.bind (R1 := RW X.K) s back_W p).mono (fun v H1 hh => ?_) fun _ _ _ e => e⟩
    obtain ⟨f1, h1, x, s1, q1, p1⟩ := hh
    unfold fldW at p1
    split at p1
    · rename_i n
      split at p1
      · rename_i c fs hn
        split at p1
        · rename_i hc
          cases el : fs.lookup f with
          | none => rw [el] at p1; exact p1.elim
          | some w =>
            rw [el] at p1
            obtain ⟨a, rfl, _, C, dx, vs, hC, h2, h3⟩ := s1.sim.at hn q1
            obtain ⟨cc, na⟩ := hk c hc C hC
            obtain ⟨u, e1, r⟩ := h3.lookup el
            exact ⟨a, C, dx, vs, u, rfl, h2, cc, na, e1, post_ok s1.sim p1 r⟩
        · exact p1.elim
      · exact p1.elim
    · exact p1.elim
/-! ### o.f = value -/
def setFW (kc : List Str) (f : Str) (x w : W) (h : PH) : Option PH := match x with
  | .ref n => match h[n]? with
    | some (.ins c fs) => if c ∈ kc ∧ fs.length < 1000 then some (h.set n (.ins c (putFW f w fs))) else none
    | _ => none
  | _ => none
def sSetFld (kc : List Str) (f : Str) (me mo : EM) : SM := fun ps h => (me ps h).thenS ps fun w h1 => (mo ps h1).thenS ps fun x h2 => match setFW kc f x w h2 with
  | some h3 => .nx ps h3
  | none => .stuck
theorem ss_setfld {kc : List Str} (hk : ∀ c ∈ kc, IFld X.K c f) (hv : SE X W0 value me) (ho : SE X W0 o mo) (hs : swapsWith value (some (.Attribute o f pos')) pos.line X.env = pure false := by rfl) :
    SS X W0 (.Assign [.Attribute o f pos'] value pos) (sSetFld kc f me mo) :=
  ps_imp (ps_fld ho hv hs) fun D σ H h => by
    obtain ⟨f0, h0, ps, s, sr, p⟩ := h
    refine ⟨f0, h0, ps, s, sr, (PostS.bind (R1 := RW X.K) s sr p).mono (fun v H1 hh => ?_) fun _ _ _ e => e⟩
    obtain ⟨f1, h1, w, s1, sr1, q1, p1⟩ := hh
    refine ⟨f1, h1, ps, s1.sim, sr1, (PostS.bind (R1 := RW X.K) s1.sim sr1 p1).mono (fun ov H2 hh => ?_) fun _ _ _ e => e⟩
    obtain ⟨f2, h2, x, s2, sr2, q2, p2⟩ := hh
    unfold setFW at p2
    split at p2
    · rename_i h3 e3
      split at e3
      · rename_i n
        split at e3
        · rename_i c fs hn
          split at e3
          · rename_i hc
            cases e3
            obtain ⟨a, rfl, hf, C, dx, vs, hC, h2', h3'⟩ := s2.sim.at hn q2
            obtain ⟨cc, na⟩ := hk c hc.1 C hC
            have st := s2.sim.put_ins hC (dx := dx) hf (h3'.putF (x := f) (s2.rep s1.sim q1)) fun _ _ z => by rw [h2'] at z; cases z
            exact ⟨a, C, dx, vs, rfl, h2', cc, na, by rw [← h3'.length]; exact hc.2, p2 f2 _ σ st (st.srep s2.sim sr2)⟩
          · cases e3
        · cases e3
      · cases e3
    · exact p2.elim
end

/-! ### methods -/
section
variable {X : Cx} {W0 : WX} {k : Nat} {g C : Addr} {fd : FuncData} {ps : List Str} {sp : Sp} {mn x : Str} {p pos apos : Pos} {e o : Expr} {es : List Expr} {ta : TE} {t : TA} {F : FM} {mo : EM} {l : LM} {n : Nat} {c : Str}
def tMethG (C : Addr) (mn : Str) (sp : Sp) (E : L2.St → XK) (ta : TE) (t : TA) : TE := fun σ H Q => ta σ H fun x H1 => ∃ a dx fs, x = .ref a ∧ H1 a = some (.ins C dx fs) ∧ fs.lookup mn = none ∧ t σ H1 fun vs H2 => sp (x :: vs) H2 Q (E σ)
theorem pe_gmeth {pl : Sem Bool} (he : PE X o ta) (c : Cls X.K C) (hm : Meth X.K C mn g) (F : FnG X.prog X.w X.K X.mg X.base k g fd ps sp) (hr : Room k X.A) (gd : Gd X.A) (hb : Binds X.K fd ps []) (tk : Takes X W0) (ha : PA X (e :: es) t)
    (hst : starEach (e :: es) X.env = (false, eval e X.env) :: starEach es X.env) (hpl : (backTo pos (starEach es X.env)).any (·.1) = false)
    (ht : eval (.Call (.Attribute o mn apos) (e :: es) [] pos) X.env = (do
      let ov ← eval o X.env
      standAt apos.atName
      let (f, first) ← holding [ov] (getMethod ov mn pl)
      callWith pos f first (backTo pos (starEach (e :: es) X.env)) (backToKw pos (keywordEach [] X.env)))) :
    PE X (.Call (.Attribute o mn apos) (e :: es) [] pos) (tMethG C mn sp (WE W0) ta t) := by
  refine ⟨fun pins s σ H Q I h => ?_⟩
  refine PySem.W.methodCall_KW (pl := pl) (thn (he.run pins s σ H _ I h) fun u s1 ⟨x, H1, I1, rx, a, dx, fs, ex, ea, l, q⟩ => ?_) ht
  subst ex
  obtain rfl : u = Value.ref a := rx
  refine getmeth_ok I1 ea c hm l ?_
  refine PySem.W.callWith_K (first := [.ref a]) (h₀ := X.base) I.ok.mod.kin hm.kp (thn (ha.run pos pins s1 σ H1 _ I1 q) fun us s2 ⟨vs, H2, I2, r, q2⟩ => ⟨I2.kIn, ?_⟩) hst hpl
  exact run_g (us := .ref a :: us) (vs := .ref a :: vs) F hr gd hb (L2.passAt tk σ) I2 (.cons rfl r) q2
theorem pe_gmeth0 {pl : Sem Bool} (he : PE X o ta) (c : Cls X.K C) (hm : Meth X.K C mn g) (F : FnG X.prog X.w X.K X.mg X.base k g fd ps sp) (hr : Room k X.A) (gd : Gd X.A) (hb : Binds X.K fd ps []) (tk : Takes X W0)
    (ht : eval (.Call (.Attribute o mn apos) [] [] pos) X.env = (do
      let ov ← eval o X.env
      standAt apos.atName
      let (f, first) ← holding [ov] (getMethod ov mn pl)
      callWith pos f first (backTo pos (starEach [] X.env)) (backToKw pos (keywordEach [] X.env)))) :
    PE X (.Call (.Attribute o mn apos) [] [] pos) (tMethG C mn sp (WE W0) ta tNil) := by
  refine ⟨fun pins s σ H Q I h => ?_⟩
  refine PySem.W.methodCall_KW (pl := pl) (thn (he.run pins s σ H _ I h) fun u s1 ⟨x, H1, I1, rx, a, dx, fs, ex, ea, l, q⟩ => ?_) ht
  subst ex
  obtain rfl : u = Value.ref a := rx
  refine getmeth_ok I1 ea c hm l ?_
  exact PySem.W.callWith_K0 (first := [.ref a]) I1.kIn hm.kp (run_g (us := [.ref a]) (vs := [.ref a]) F hr gd hb (L2.passAt tk σ) I1 (.cons rfl .nil) q)
def insOf (c mn : Str) : W → PH → Bool
  | .ref k, h => match h[k]? with
    | some (.ins c' fs) => decide (c' = c) && (fs.lookup mn).isNone
    | _ => false
  | _, _ => false
def mMth (c mn : Str) (n : Nat) (F : FM) (mo : EM) (l : LM) : EM := fun ps h => (mo ps h).bind fun x h1 => if insOf c mn x h1 = true then (l ps h1).bind fun xs h2 => if xs.length + 1 = n then F (x :: xs) h2 else .stuck else .stuck
theorem insOf_rep {f : List Addr} {h : PH} {H : Hp} {x : W} {v : V} {C : Addr} (hC : PySem.W.nsIn X.K mainGlobals c = some (some (.ref C))) (s : Sim X.K f h H) (r : Rep X.K f H x v) (e : insOf c mn x h = true) : ∃ a dx fs, v = .ref a ∧ H a = some (.ins C dx fs) ∧ fs.lookup mn = none := by
  unfold insOf at e
  split at e
  · split at e
    · rename_i c' fs hn
      simp only [Bool.and_eq_true, decide_eq_true_eq, Option.isNone_iff_eq_none] at e
      obtain ⟨rfl, e2⟩ := e
      obtain ⟨a, rfl, _, C', dx, vs, hC', h2, h3⟩ := s.at hn r
      rw [hC] at hC'
      cases hC'
      exact ⟨a, dx, vs, rfl, h2, h3.lookup_none e2⟩
    · cases e
  · cases e
theorem se_meth {pl : Sem Bool} (hC : PySem.W.nsIn X.K mainGlobals c = some (some (.ref C))) (cc : Cls X.K C) (hm : Meth X.K C mn g) (FK : FnG X.prog X.w X.K X.mg X.base k g fd ps (SPm X.K n F)) (hb : Binds X.K fd ps []) (hr : Room k X.A) (gd : Gd X.A) (tk : Takes X W0)
    (ho : SE X W0 o mo) (ha : SA X W0 (e :: es) l)
    (hst : starEach (e :: es) X.env = (false, eval e X.env) :: starEach es X.env := by rfl) (hpl : (backTo pos (starEach es X.env)).any (·.1) = false := by rfl)
    (ht : eval (.Call (.Attribute o mn apos) (e :: es) [] pos) X.env = (do
      let ov ← eval o X.env
      standAt apos.atName
      let (f, first) ← holding [ov] (getMethod ov mn pl)
      callWith pos f first (backTo pos (starEach (e :: es) X.env)) (backToKw pos (keywordEach [] X.env))) := by rfl) :
    SE X W0 (.Call (.Attribute o mn apos) (e :: es) [] pos) (mMth c mn n F mo l) :=
  pe_imp (pe_gmeth ho cc hm FK hr gd hb tk ha hst hpl ht) fun σ H Q h => by
    obtain ⟨f0, h0, ps, s, sr, p⟩ := h
    refine ⟨f0, h0, ps, s, sr, (Post.bind (R1 := RW X.K) s back_W p).mono (fun v H1 hh => ?_) fun _ _ _ e => e⟩
    obtain ⟨f1, h1, x, s1, q1, p1⟩ := hh
    split at p1
    · rename_i hx
      obtain ⟨a, dx, fs, rfl, h2, h3⟩ := insOf_rep hC s1.sim q1 hx
      refine ⟨a, dx, fs, rfl, h2, h3, f1, h1, ps, s1.sim, s1.srep s sr, (Post.bind (R1 := RA X.K) s1.sim back_W p1).mono (fun vs H2 hh => ?_) fun _ _ _ e => e⟩
      obtain ⟨f2, h2, xs, s2, q2, p2⟩ := hh
      split at p2
      · rename_i hl
        exact ⟨by rw [List.length_cons, ← q2.length]; exact hl, f2, h2, x :: xs, s2.sim, .cons (s2.rep s1.sim q1) q2, p2⟩
      · exact p2.elim
    · exact p1.elim
def mMth0 (c mn : Str) (F : FM) (mo : EM) : EM := fun ps h => (mo ps h).bind fun x h1 => if insOf c mn x h1 = true then F [x] h1 else .stuck
theorem se_meth0 {pl : Sem Bool} (hC : PySem.W.nsIn X.K mainGlobals c = some (some (.ref C))) (cc : Cls X.K C) (hm : Meth X.K C mn g) (FK : FnG X.prog X.w X.K X.mg X.base k g fd ps (SPm X.K 1 F)) (hb : Binds X.K fd ps []) (hr : Room k X.A) (gd : Gd X.A) (tk : Takes X W0)
    (ho : SE X W0 o mo)
    (ht : eval (.Call (.Attribute o mn apos) [] [] pos) X.env = (do
      let ov ← eval o X.env
      standAt apos.atName
      let (f, first) ← holding [ov] (getMethod ov mn pl)
      callWith pos f first (backTo pos (starEach [] X.env)) (backToKw pos (keywordEach [] X.env))) := by rfl) :
    SE X W0 (.Call (.Attribute o mn apos) [] [] pos) (mMth0 c mn F mo) :=
  pe_imp (pe_gmeth0 ho cc hm FK hr gd hb tk ht) fun σ H Q h => by
    obtain ⟨f0, h0, ps, s, sr, p⟩ := h
    refine ⟨f0, h0, ps, s, sr, (Post.bind (R1 := RW X.K) s back_W p).mono (fun v H1 hh => ?_) fun _ _ _ e => e⟩
    obtain ⟨f1, h1, x, s1, q1, p1⟩ := hh
    split at p1
    · rename_i hx
      obtain ⟨a, dx, fs, rfl, h2, h3⟩ := insOf_rep hC s1.sim q1 hx
      exact ⟨a, dx, fs, rfl, h2, h3, rfl, f1, h1, [x], s1.sim, .cons q1 .nil, p1⟩
    · exact p1.elim

/-! ### an object is made -/
theorem run_gmake {pins : List (Addr × Obj)} {σ : L2.St} {H : Hp} {s : Shared} {Q : VK} {E : XK} {us : List Value} {vs : List V} (M : Mk X.K C g) (F : FnG X.prog X.w X.K X.mg X.base k g fd ps sp) (hr : Room (k + 1) X.A) (gd : Gd X.A) (hb : Binds X.K fd ps [])
    (hx : PassesAt (L2.CX X.prog X.w) X σ E) (I : Inv X pins σ H s) (r : Vals vs us)
    (h : ∀ x dx, H x = none → H dx = none → dx ≠ x → sp (.ref x :: vs) (upd (upd H dx (.own x)) x (.ins C dx [])) (fun v H2 => v = .non ∧ Q (.ref x) H2) E) :
    wpAny (model X.prog X.w) X.A (call (.ref C) us) (EP X pins σ Q) X.xe s := by
  have hq := h (s.heap.objs.size + 1) s.heap.objs.size (I.hok.fresh (Nat.le_succ _)) (I.hok.fresh (Nat.le_refl _)) (Nat.ne_of_lt (Nat.lt_succ_self _))
  have I2 := Inv.made (C := C) I
  have r2 : Vals (V.ref (s.heap.objs.size + 1) :: vs) (Value.ref (s.heap.objs.size + 1) :: us) := .cons rfl r
  have hl : (Value.ref (s.heap.objs.size + 1) :: us ++ []).length = ps.length := by
    have e := r2.length
    rw [F.len _ _ _ _ hq] at e
    rw [List.append_nil]
    exact e.symm
  have bnd := hb _ (Value.ref (s.heap.objs.size + 1) :: us) I2.kIn hl
  rw [List.append_nil] at bnd
  refine wpAny_call (make_map (f := g) I.kIn M.makes M.init (beq_iff_eq.mp M.fn) (codeAny_mono (F.run _ X.stack _ _ ⟨Value.ref (s.heap.objs.size + 1) :: us, []⟩ (Value.ref (s.heap.objs.size + 1) :: us) _ _ E (hr.make C us []) gd
    (I2.env0.make C us []) bnd r2 hq) fun r s' hq' => ?_))
  cases r with
  | error e => exact hx pins _ _ e s' I2 hq'
  | ok fl =>
    cases fl with
    | ret u =>
      obtain ⟨v, H', I3, rv, ev, q3⟩ := I2.after hq'
      subst ev
      exact ⟨rv, ⟨V.ref (s.heap.objs.size + 1), H', I3, rfl, q3⟩⟩
    | next => exact False.elim hq'
    | brk => exact False.elim hq'
    | cont => exact False.elim hq'
def tMakeG (C : Addr) (sp : Sp) (E : L2.St → XK) (t : TA) : TE := fun σ H Q => t σ H fun vs H1 => ∀ x dx, H1 x = none → H1 dx = none → dx ≠ x → sp (.ref x :: vs) (upd (upd H1 dx (.own x)) x (.ins C dx [])) (fun v H2 => v = .non ∧ Q (.ref x) H2) (E σ)
theorem pe_gmake (M : Mk X.K C g) (F : FnG X.prog X.w X.K X.mg X.base k g fd ps sp) (hr : Room (k + 1) X.A) (gd : Gd X.A) (hg : Gl X x) (hm : X.mg x = some (.ref C)) (hb : Binds X.K fd ps []) (tk : Takes X W0)
    (ha : PA X (e :: es) t) (hdb : (x == ("__debug__" : Str)) = false) (he : starEach (e :: es) X.env = (false, eval e X.env) :: starEach es X.env) (hpl : (backTo pos (starEach es X.env)).any (·.1) = false) :
    PE X (.Call (.Name x p) (e :: es) [] pos) (tMakeG C sp (WE W0) t) := by
  refine ⟨fun pins s σ H Q I h => ?_⟩
  refine wpAny_Call_Name_kw (ld_glob I hg hm ?_ hdb)
  refine PySem.W.callWith_K (h₀ := X.base) I.ok.mod.kin M.kp (thn (ha.run pos pins s σ H _ I h) fun us s1 ⟨vs, H1, I1, r, q⟩ => ⟨I1.kIn, ?_⟩) he hpl
  exact run_gmake M F hr gd hb (L2.passAt tk σ) I1 r q
def mMake (c : Str) (n : Nat) (F : FM) (l : LM) : EM := fun ps h => (l ps h).bind fun xs h1 => if xs.length + 1 = n then (F (.ref h1.length :: xs) (h1 ++ [.ins c []])).bind fun w h2 => match w with
  | .non => .ok (.ref h1.length) h2
  | _ => .stuck else .stuck
theorem se_make (hC : PySem.W.nsIn X.K mainGlobals c = some (some (.ref C))) (M : Mk X.K C g) (FK : FnG X.prog X.w X.K X.mg X.base k g fd ps (SPm X.K n F)) (hb : Binds X.K fd ps []) (hr : Room (k + 1) X.A) (gd : Gd X.A) (tk : Takes X W0) (hm : X.mg c = some (.ref C))
    (ha : SA X W0 (e :: es) l) (hg : Gl X c := by rfl) (hdb : (c == ("__debug__" : Str)) = false := by decide) (he : starEach (e :: es) X.env = (false, eval e X.env) :: starEach es X.env := by rfl) (hpl : (backTo pos (starEach es X.env)).any (·.1) = false := by rfl) :
    SE X W0 (.Call (.Name c p) (e :: es) [] pos) (mMake c n F l) :=
  pe_imp (pe_gmake M FK hr gd hg hm hb tk ha hdb he hpl) fun σ H Q h => by
    obtain ⟨f0, h0, ps, s, sr, q⟩ := h
    refine ⟨f0, h0, ps, s, sr, (Post.bind (R1 := RA X.K) s back_W q).mono (fun vs H1 hh => ?_) fun _ _ _ e => e⟩
    obtain ⟨f1, h1, xs, s1, q1, p1⟩ := hh
    intro x dx hx hdx ne
    split at p1
    · rename_i hl
      have sA := s1.sim.other (o := .own x) hdx
      have sB := sA.sim.other (p := x) (o := .ins C dx []) (by rw [upd_ne (Ne.symm ne)]; exact hx)
      have st := (sA.trans sB).take_in (o := .ins c []) hx (s1.sim.fresh hx) ⟨C, dx, [], hC, upd_same, rfl⟩
      have hlen : f1.length = h1.length := s1.sim.len
      have rx : Rep X.K (f1 ++ [x]) (upd (upd H1 dx (.own x)) x (.ins C dx [])) (.ref h1.length) (.ref x) := by
        simp only [Rep]
        exact ⟨x, rfl, by rw [← hlen]; simp⟩
      refine ⟨by rw [List.length_cons, ← q1.length]; exact hl, _, _, _, st.sim, .cons rx (st.reps s1.sim q1), ?_⟩
      cases eF : F (.ref h1.length :: xs) (h1 ++ [.ins c []]) with
      | stuck => rw [eF] at p1; exact p1.elim
      | exc x2 h2 =>
        rw [eF] at p1
        exact fun f2 H2 c2 d2 s2 r2 => p1 f2 H2 c2 d2 (st.trans s2) r2
      | ok w h2 =>
        rw [eF] at p1
        intro f2 H2 b s2 r2
        cases w with
        | non =>
          have p1 : Post X.K (RW X.K) f1 H1 (.ok (.ref h1.length) h2) Q (fun c d H' => W0 c d σ H') := p1
          exact ⟨rep_non.mp r2, p1 f2 H2 (.ref x) (st.trans s2) (s2.rep st.sim rx)⟩
        | _ => exact p1.elim
    · exact p1.elim
end

/-! ### a fresh list, so many times -/
section
variable {X : Cx} {W0 : WX} {a b : Expr} {pos : Pos} {l1 : LM} {m2 : EM}
def mRepL (l : LM) (m : EM) : LM := fun ps h => (l ps h).bind fun xs h1 => (m ps h1).bind fun y h2 => match y with
  | .int k => if -1000000 ≤ k ∧ k ≤ 1000000 ∧ xs.length * k.toNat ≤ 16777216 then .ok (List.replicate k.toNat xs).flatten h2 else .stuck
  | _ => .stuck
theorem sl_rep (ha : SL X W0 a l1) (hb : SE X W0 b m2) : SL X W0 (.BinOp a .Mult b pos) (mRepL l1 m2) := pe_imp (pe_op op_rep ha hb) fun σ H Q h => by
  obtain ⟨f, h, ps, s, sr, p⟩ := h
  refine ⟨f, h, ps, s, sr, (Post.bind (R1 := RL X.K) s back_L p).mono (fun v H1 hh => ?_) fun _ _ _ e => e⟩
  obtain ⟨f1, h1, xs, s1, q1, p1⟩ := hh
  refine ⟨f1, h1, ps, s1.sim, s1.srep s sr, (Post.bind (R1 := RW X.K) s1.sim back_L p1).mono (fun u H2 hh => ?_) fun _ _ _ e => e⟩
  obtain ⟨f2, h2, y, s2, q2, p2⟩ := hh
  obtain ⟨d, vs, rfl, hd, nd, ed, ra⟩ := q1
  split at p2
  · split at p2
    · rename_i k c
      have ed2 := s2.grow d _ ed nd
      have ra2 := s2.reps s1.sim ra
      refine ⟨d, k, vs, rfl, rep_int.mp q2, ed2, by omega, by omega, by rw [← ra.length, sizeLine_eq]; exact c.2.2, fun q hq => ?_⟩
      have st := s2.sim.other (o := .lst (List.replicate k.toNat vs).flatten) hq
      exact p2 f2 _ _ st ⟨q, _, rfl, hq, s2.sim.fresh hq, upd_same, Reps.mono (.refl f2) (s2.sim.stay st.grow) _ _ (ra2.rep_flat _)⟩
    · exact p2.elim
  · exact p2.elim
end
end Mir

/-! Mir: repr of tuples in which empty dicts stand. -/
namespace Mir
open PySem PySem.Spec PyProof.Rows L2
mutual
/-- tuples alone, and empty dicts -/
inductive DpT (K : PySem.W.Frag) (H : Hp) : V → PyData → Prop
  | non : DpT K H .non .none
  | bl (b : Bool) : DpT K H (.bl b) (.bool b)
  | int (i : Int) : DpT K H (.int i) (.int i)
  | str (x : Str) : DpT K H (.str x) (.str x)
  | tup {a : Addr} {xs : List V} {ds : List PyData} : SqT K H a xs → DpTs K H xs ds → DpT K H (.ref a) (.tuple ds)
  | emp {a : Addr} : H a = some (.dK []) → DpT K H (.ref a) (.dict [])
inductive DpTs (K : PySem.W.Frag) (H : Hp) : List V → List PyData → Prop
  | nil : DpTs K H [] []
  | cons {v : V} {vs : List V} {d : PyData} {ds : List PyData} : DpT K H v d → DpTs K H vs ds → DpTs K H (v :: vs) (d :: ds)
end
section
variable {X : Cx} {pins : List (Addr × Obj)} {σ : L2.St} {H : Hp} {s : Shared}
mutual
theorem dpT_reads (I : Inv X pins σ H s) : ∀ (d : PyData) (v : V) (u : Value), DpT X.K H v d → RelV v u → ∃ as, Reads s.heap u d as ∧ sysModules ∉ as
  | .none, v, u, h, r => by cases h; cases r; exact ⟨_, .none, by simp⟩
  | .bool b, v, u, h, r => by cases h; cases r; exact ⟨_, .bool b, by simp⟩
  | .int i, v, u, h, r => by cases h; obtain ⟨t, rfl⟩ := r; exact ⟨_, .int i t, by simp⟩
  | .str x, v, u, h, r => by cases h; obtain ⟨t, rfl⟩ := r; exact ⟨_, .str x t, by simp⟩
  | .tuple ds, v, u, h, r => by
    cases h with
    | tup e1 e2 =>
      cases r
      obtain ⟨its, rv, ⟨ob, ho, hc, m, hd⟩, _⟩ := I.tuple e1
      obtain ⟨as, q1, q2⟩ := dpT_all I ds _ its e2 rv
      exact ⟨as, .tuple ho hc hd q1, q2⟩
  | .list ds, v, u, h, r => by cases h
  | .dict kvs, v, u, h, r => by
    cases h with
    | @emp a e1 =>
      cases r
      obtain ⟨_, ne, vs, kv, ob, es, ep, ho, ⟨hc, _⟩, hd, _, hp, _⟩ := I.hok a _ e1
      have hvs : vs = [] := by cases kv; rfl
      subst hvs
      have hes : es.toList = [] := by
        cases q : es.toList with
        | nil => rfl
        | cons b r => rw [q] at hp; cases hp
      refine ⟨[a] ++ [], ?_, ?_⟩
      · refine Reads.dict (as := []) (bs := []) ho hc hd ?_ ?_
        · rw [hes]; exact .nil
        · rw [hes]; exact .nil
      · intro z
        have z : sysModules = a := by simpa using z
        rw [z] at ne
        simp at ne
theorem dpT_all (I : Inv X pins σ H s) : ∀ (ds : List PyData) (vs : List V) (us : List Value), DpTs X.K H vs ds → Vals vs us → ∃ as, ReadsAll s.heap us ds as ∧ sysModules ∉ as
  | [], vs, us, h, r => by cases h; cases r; exact ⟨_, .nil, by simp⟩
  | d :: ds, vs, us, h, r => by
    cases h with
    | cons e1 e2 =>
      cases r with
      | cons r1 r2 =>
        obtain ⟨as, q1, q2⟩ := dpT_reads I d _ _ e1 r1
        obtain ⟨bs, p1, p2⟩ := dpT_all I ds _ _ e2 r2
        refine ⟨_, .cons q1 p1, fun z => ?_⟩
        rcases List.mem_append.mp z with z | z
        · exact q2 z
        · exact p2 z
end
end
mutual
def datT (h : PH) : W → Option PyData
  | .non => some .none
  | .bl b => some (.bool b)
  | .int i => some (.int i)
  | .str x => some (.str x)
  | .tup xs => (datTs h xs).map .tuple
  | .ref n => match h[n]? with
    | some (.dK []) => some (.dict [])
    | _ => none
  | _ => none
def datTs (h : PH) : List W → Option (List PyData)
  | [] => some []
  | x :: xs => match datT h x, datTs h xs with
    | some d, some ds => some (d :: ds)
    | _, _ => none
end
section
variable {K : PySem.W.Frag} {f : List Addr} {h : PH} {H : Hp}
mutual
theorem dpT_of (s : Sim K f h H) : ∀ (w : W) (v : V) (d : PyData), datT h w = some d → Rep K f H w v → DpT K H v d
  | .non, v, d, e, r => by rw [rep_non.mp r]; simp only [datT, Option.some.injEq] at e; subst e; exact .non
  | .bl b, v, d, e, r => by rw [rep_bl.mp r]; simp only [datT, Option.some.injEq] at e; subst e; exact .bl b
  | .int b, v, d, e, r => by rw [rep_int.mp r]; simp only [datT, Option.some.injEq] at e; subst e; exact .int b
  | .str b, v, d, e, r => by rw [rep_str.mp r]; simp only [datT, Option.some.injEq] at e; subst e; exact .str b
  | .tup xs, v, d, e, r => by
    obtain ⟨a, vs, rfl, h1, h2⟩ := rep_tup.mp r
    simp only [datT] at e
    obtain ⟨ds, e1, rfl⟩ := Option.map_eq_some_iff.mp e
    exact .tup h1 (dpTs_of s xs vs ds e1 h2)
  | .fix xs, v, d, e, r => by simp [datT] at e
  | .exc _, v, d, e, r => by simp [datT] at e
  | .ref n, v, d, e, r => by
    simp only [datT] at e
    split at e
    · rename_i hn
      cases e
      obtain ⟨a, rfl, _, vs, h1, h2⟩ := s.at hn r
      have h2 : vs = [] := h2
      subst h2
      exact .emp h1
    · cases e
theorem dpTs_of (s : Sim K f h H) : ∀ (ws : List W) (vs : List V) (ds : List PyData), datTs h ws = some ds → Reps K f H ws vs → DpTs K H vs ds
  | [], vs, ds, e, r => by
    rw [r.nil_inv]
    simp only [datTs, Option.some.injEq] at e
    subst e
    exact .nil
  | x :: xs, vs, ds, e, r => by
    obtain ⟨v, t, rfl, h1, h2⟩ := r.cons_inv
    simp only [datTs] at e
    split at e
    · rename_i d ds' e1 e2
      cases e
      exact .cons (dpT_of s x v d e1 h1) (dpTs_of s xs t ds' e2 h2)
    · cases e
end
end
/-- repr, of such tuples too -/
def isTR : W → Bool
  | .tup _ => true
  | .ref _ => true
  | _ => false
def wReprE (xs : List W) (h : PH) : Option (W × PH) := match wRepr xs h with
  | some r => some r
  | none => match xs with
    | [.non] => some (.str "None", h)
    | [x] => match datT h x with
      | some d => if isTR x = true ∧ d.showable = true ∧ d.depth ≤ 100 ∧ d.shown.length ≤ 16777216 then some (.str d.shown, h) else none
      | none => none
    | _ => none
abbrev rReprE (K : PySem.W.Frag) : List V → Hp → VK → Prop := fun xs H Q => rRepr K xs H Q ∨ (xs = [.non] ∧ Q (.str "None") H) ∨ ∃ a d, xs = [.ref a] ∧ DpT K H (.ref a) d ∧ d.showable = true ∧ d.depth ≤ 100 ∧ d.shown.length ≤ 16777216 ∧ Q (.str d.shown) H
section
variable {K : PySem.W.Frag} {X : Cx}
theorem c_reprE {k : Nat} (hr : Room k X.A) (gd : Gd X.A) : CallR X (.builtin "repr") (rReprE X.K) := by
  intro pins s σ H xs us Q I rv h
  rcases h with h | ⟨rfl, q⟩ | ⟨a, d, rfl, dp, h1, h3, h4, q⟩
  · exact c_repr hr gd pins s σ H xs us Q I rv h
  · obtain ⟨u, rfl, ru⟩ := vals1 rv
    cases (show u = Value.none from ru)
    exact PySem.P.repr_of_none ⟨.str "None", H, I.tok _, ⟨_, rfl⟩, q⟩
  · obtain ⟨u, rfl, ru⟩ := vals1 rv
    cases (show u = Value.ref a from ru)
    obtain ⟨as, rd, ns⟩ := dpT_reads I d _ _ dp (show RelV (V.ref a) (Value.ref a) from rfl)
    have hu := hr.un
    refine PySem.repr_of_reads' rd h1 (fun _ => ns) gd (by omega) (fun _ _ e => e) (fun h' t tk keep => ?_) (by rw [sizeLine_eq]; exact h4)
    exact ⟨.str d.shown, H, I.kept (t' := tk) keep, ⟨t, rfl⟩, q⟩
theorem o_reprE : OpC K (rReprE K) wReprE := by
  intro f h H xs vs Q E s r p
  unfold wReprE at p
  split at p
  · rename_i w e
    refine .inl (o_repr f h H xs vs Q E s r ?_)
    rw [e]
    exact p
  · split at p
    · obtain ⟨v, rfl, r1⟩ := r.one_inv
      exact .inr (.inl ⟨by rw [rep_non.mp r1], post_ok s p (rep_str.mpr rfl)⟩)
    · rename_i x _
      obtain ⟨v, rfl, r1⟩ := r.one_inv
      split at p
      · rename_i d e
        split at p
        · rename_i c
          have dd := dpT_of s _ v d e r1
          have key : ∃ a, v = .ref a := by
            unfold isTR at c
            split at c
            · obtain ⟨a, us, rfl, _⟩ := rep_tup.mp r1
              exact ⟨a, rfl⟩
            · simp only [Rep] at r1
              obtain ⟨a, rfl, _⟩ := r1
              exact ⟨a, rfl⟩
            · exact absurd c.1 (by simp)
          obtain ⟨a, rfl⟩ := key
          exact .inr <| .inr ⟨a, d, rfl, dd, c.2.1, c.2.2.1, c.2.2.2, post_ok s p (rep_str.mpr rfl)⟩
        · exact p.elim
      · exact p.elim
    · exact p.elim
end
end Mir

/-! Mir: sorted of tuples and dicts, list.index, x[::-1], list(range(..)), dict(pairs). -/
namespace Mir
open PySem PySem.Spec PyProof.Rows L2
section
variable {X : Cx} {pins : List (Addr × Obj)} {σ : L2.St} {H : Hp} {s : Shared}
/-- sorted of a thing that gives ints -/
theorem sorted_via {v : Value} {ns : List Int} {Q : VK} (hz : ns.length ≤ sizeLine) (I : Inv X pins σ H s)
    (hcol : ∀ Q' : List Value → Shared → Prop, (∀ (its : List Value) (h' : Heap) (tk : Nat), IntsAre its ns → (∀ b o, s.heap.get? b = some o → h'.get? b = some o) → Q' its { s with heap := h', toks := tk }) → wpAny (model X.prog X.w) X.A.in1 (collect v) Q' X.xe s)
    (q : ∀ (ns' : List Int) (p : Addr), ns'.Perm ns → ns'.Pairwise (· ≤ ·) → H p = none → Q (.ref p) (upd H p (.lst (ns'.map V.int)))) :
    wpAny (model X.prog X.w) X.A (call (.builtin "sorted") [v]) (EP X pins σ Q) X.xe s := by
  refine Calls.call_function_entry PyProof.Rows.kind_sorted PyProof.Rows.plain_sorted PyProof.Rows.entry_sorted (PyProof.Rows.args_sorted1 _) ?_
  unfold Builtin.«sorted»
  refine wpAny_bind (m := checkCount "sorted" 1 1 _) (wpAny_pure (wpAny_bind (hcol _ fun its h1 tk hI keep => ?_)))
  have hl : its.length = ns.length := by rw [← SrtO.iv_ints hI, List.length_map]
  have I1 : Inv X pins σ H { s with heap := h1, toks := tk } := I.kept keep
  refine wpAny_bind (wpAny_newList ?_ (by rw [hl]; exact hz))
  have at_ : (h1.push (seqObj "list" its.toArray 0)).get? h1.objs.size = some (seqObj "list" its.toArray 0) := Heap.get?_push_size _ rfl
  refine wpAny_bind (wpAny_holding ?_)
  refine wpAny_call_entry PyProof.Rows.slot_list_sort ⟨_, at_, rfl⟩ PyProof.Rows.entry_list_sort ?_ (PyProof.Rows.args_list_sort _)
  refine SrtO.list_sort_ord (s := { s with heap := h1.push (seqObj "list" its.toArray 0), toks := tk }) SrtO.swo_int at_ (by rw [hl]; exact hz) (fun h2 => SrtO.ints_sortable hI h2) fun out g1 g2 => ⟨_, rfl, ?_⟩
  obtain ⟨k1, k2, k3⟩ := SrtO.ints_out hI g1 g2
  obtain ⟨ep, e2⟩ := PyProof.Rows.sortedHeap_at (vs := its) (out := out.toArray) at_
  have hlen : ((out.map SrtO.iv).map V.int).length ≤ sizeLine := by
    rw [List.length_map, k2.length_eq]
    exact hz
  refine wpAny_pure ⟨_, rfl, .ref h1.objs.size, upd H h1.objs.size (.lst ((out.map SrtO.iv).map V.int)), ?_, rfl, q _ _ k2 k3 (I1.hok.fresh (Nat.le_refl _))⟩
  refine I1.laid (t' := tk) (fun b u e => ?_) (Nat.le_refl _) ⟨hlen, out, ep, vals_of_ints k1, e2⟩
  have lt : b < h1.objs.size := Heap.lt_size e
  rw [PyProof.Rows.sortedHeap_old (Nat.ne_of_lt lt) (by rw [size_push']; exact Nat.lt_succ_of_lt lt)]
  exact Heap.get?_push_of_some _ e
end
section
variable {K : PySem.W.Frag} {X : Cx} {W0 : WX}
/-- a list, a tuple, a dict's keys: ints -/
def rSortV (K : PySem.W.Frag) : List V → Hp → VK → Prop := fun vs H Q => ∃ (a : Addr) (ns : List Int), vs = [.ref a] ∧ (SqL K H a (ns.map V.int) ∨ SqT K H a (ns.map V.int) ∨ ∃ kvs : List (Key × V), H a = some (.dK kvs) ∧ kvs.map (·.1) = ns.map Sum.inl) ∧
  ∀ (ns' : List Int) (p : Addr), ns'.Perm ns → ns'.Pairwise (· ≤ ·) → H p = none → Q (.ref p) (upd H p (.lst (ns'.map V.int)))
theorem cr_sortV (hc : X.calm = true) : CallR X (.builtin "sorted") (rSortV X.K) := by
  intro pins s σ H vs us Q I rv h
  obtain ⟨a, ns, rfl, h, q⟩ := h
  rcases h with h | h | ⟨kvs, h, hk⟩
  · exact cr_sortedI pins s σ H _ us Q I rv ⟨a, ns, rfl, h, q⟩
  · obtain ⟨u, rfl, ru⟩ := vals1 rv
    cases (show u = Value.ref a from ru)
    obtain ⟨its, r2, ⟨o, ho, hcl, n, hd⟩, hz⟩ := I.tuple h
    rw [List.length_map] at hz
    refine sorted_via hz I (fun Q' f => ?_) q
    refine wpAny_collect_seq a (.inr rfl) ho hcl hd (fun h' keep => ?_) ?_
    · rw [List.toList_toArray]
      exact f its h' s.toks r2.ints keep
    · rw [List.size_toArray, ← r2.length, List.length_map]
      exact hz
  · obtain ⟨u, rfl, ru⟩ := vals1 rv
    cases (show u = Value.ref a from ru)
    have hd : Rd H a (.dK kvs) := .inl h
    obtain ⟨z, lo, vs, rel, dd⟩ := dk_rd I.hok hd
    obtain ⟨ep, hat⟩ := dd.dictAt
    have keys : vs.map (·.1) = ns.map Sum.inl := rel.keys.symm.trans hk
    have hl : vs.length = ns.length := by simpa using congrArg List.length keys
    have hl2 : kvs.length = ns.length := by simpa using congrArg List.length hk
    have hz : vs.length ≤ sizeLine := by rw [hl, ← hl2]; exact z
    refine sorted_via (by rw [← hl]; exact hz) I (fun Q' f => ?_) q
    refine PySem.W.kdu_collect (A := X.A.in1) (PySem.W.kdl_dict (knd := mixKind X.prog X.w) (kvs := vs) (ep := ep) lo) (I.ok.hd hc) hat hz fun h' tk acc keep ha => f _ h' tk ?_ keep
    refine ints_each (by rw [Array.length_toList, ha.1, hl]) fun j v e => ?_
    obtain ⟨k, x, e1, e2⟩ := ha.2 j v (by rw [← Array.getElem?_toList]; exact e)
    have e3 : (vs.map (·.1))[j]? = some k := by rw [List.getElem?_map, e1]; rfl
    rw [keys, List.getElem?_map] at e3
    obtain ⟨y, e4, rfl⟩ := Option.map_eq_some_iff.mp e3
    rcases keyIs_shape (show keyIs (Sum.inl y) v = true from e2) with ⟨i, t, ek, ev⟩ | ⟨z, t, ek, ev⟩
    · cases ek
      exact ⟨y, t, e4, ev⟩
    · cases ek
/-- the ints of it -/
def keysI : List (Key × W) → Option (List Int)
  | [] => some []
  | (.inl i, _) :: r => (keysI r).map (i :: ·)
  | _ => none
def intsOf (x : W) (h : PH) : Option (List Int) := match x with
  | .tup xs => intsW xs
  | .fix xs => intsW xs
  | .ref n => match h[n]? with
    | some (.lst xs) => intsW xs
    | some (.dK kvs) => keysI kvs
    | _ => none
  | _ => none
def lSortV (x : W) (h : PH) : Option (List W × PH) := (intsOf x h).map fun ns => ((sortI ns).map W.int, h)
theorem keysI_is : ∀ {kvs : List (Key × W)} {ns : List Int}, keysI kvs = some ns → kvs.map (·.1) = ns.map Sum.inl
  | [], ns, e => by cases e; rfl
  | (.inl i, w) :: r, ns, e => by
    simp only [keysI] at e
    obtain ⟨ms, e1, rfl⟩ := Option.map_eq_some_iff.mp e
    simp only [List.map_cons, keysI_is e1]
  | (.inr i, w) :: r, ns, e => by cases e
theorem KRep.keys {f : List Addr} {H : Hp} : ∀ {ws : List (Key × W)} {vs : List (Key × V)}, KRep K f H ws vs → vs.map (·.1) = ws.map (·.1)
  | [], vs, h => by
    have h : vs = [] := h
    subst h
    rfl
  | (k, w) :: r, vs, h => by
    obtain ⟨v, s, rfl, h2, h3⟩ := h
    simp only [List.map_cons, KRep.keys h3]
/-- one value alone -/
def OpV {α : Type} (K : PySem.W.Frag) (R : RR α V) (r : List V → Hp → VK → Prop) (o : W → PH → Option (α × PH)) : Prop :=
  ∀ (f : List Addr) (h : PH) (H : Hp) (x : W) (v : V) (Q : VK) (E : XK), Sim K f h H → Rep K f H x v → Post K R f H (.ofO (o x h)) Q E → r [v] H Q
def mOnV {α : Type} (o : W → PH → Option (α × PH)) (m : EM) : LS → PH → Res α := fun ps h => (m ps h).bind fun x h1 => .ofO (o x h1)
variable {x : Str} {id T : String} {r : List V → Hp → VK → Prop} {e : Expr} {m1 : EM} {p pos : Pos}
theorem tG_onV {α : Type} {R : RR α V} {o : W → PH → Option (α × PH)} (hb : Back K R) (ho : OpV K R r o) {σ : L2.St} {H : Hp} {Q : VK} (h : tG K R W0 (mOnV o m1) σ H Q) : tCB r (tCons (tE K W0 m1) tNil) σ H Q := by
  obtain ⟨f, h, ps, s, sr, p⟩ := h
  refine ⟨f, h, ps, s, sr, (Post.bind (R1 := RW K) s hb p).mono (fun v H1 hh => ?_) fun _ _ _ e => e⟩
  obtain ⟨f1, h1, w, s1, q1, p1⟩ := hh
  exact ho f1 h1 H1 w v Q _ s1.sim q1 p1
theorem pg_callBV {α : Type} {R : RR α V} {o : W → PH → Option (α × PH)} (hb : Back X.K R) (hc : CallR X (.builtin id) r) (ho : OpV X.K R r o) (hm : X.mg x = none) (hv : bootBuiltins x = some (.builtin id)) (ha : SE X W0 e m1) (hg : Gl X x := by rfl) (hn : x ≠ "__name__" := by decide) (hdb : (x == ("__debug__" : Str)) = false := by decide)
    (he : starEach [e] X.env = (false, eval e X.env) :: starEach [] X.env := by rfl) (hpl : (backTo pos (starEach [] X.env)).any (·.1) = false := by rfl) : PE X (.Call (.Name x p) [e] [] pos) (tG X.K R W0 (mOnV o m1)) :=
  pe_imp (pe_callB hc hg hm hv (pa_cons ha pa_nil he) hn hdb he hpl) fun _ _ _ h => tG_onV hb ho h
theorem pg_callTV {α : Type} {R : RR α V} {o : W → PH → Option (α × PH)} (hb : Back X.K R) (hc : CallR X (.type T) r) (ho : OpV X.K R r o) (hm : X.mg x = none) (hv : bootBuiltins x = some (.type T)) (ha : SE X W0 e m1) (hg : Gl X x := by rfl) (hn : x ≠ "__name__" := by decide) (hdb : (x == ("__debug__" : Str)) = false := by decide)
    (he : starEach [e] X.env = (false, eval e X.env) :: starEach [] X.env := by rfl) (hpl : (backTo pos (starEach [] X.env)).any (·.1) = false := by rfl) : PE X (.Call (.Name x p) [e] [] pos) (tG X.K R W0 (mOnV o m1)) :=
  pe_imp (pe_callTy hc hg hm hv (pa_cons ha pa_nil he) hn hdb he hpl) fun _ _ _ h => tG_onV hb ho h
theorem q_sortV : OpV K (RL K) (rSortV K) lSortV := by
  intro f h H x v Q E s r p
  unfold lSortV at p
  cases e : intsOf x h with
  | none => rw [e] at p; exact p.elim
  | some ns =>
    rw [e] at p
    have fin : ∀ (ns' : List Int) (q : Addr), ns'.Perm ns → ns'.Pairwise (· ≤ ·) → H q = none → Q (.ref q) (upd H q (.lst (ns'.map V.int))) := fun ns' q hp hu hq => by
      have e3 : ns' = sortI ns := up_unique (hp.trans (sortI_perm ns).symm) hu (sortI_up ns)
      subst e3
      exact post_fresh s p (reps_ints _) hq
    cases x with
    | tup xs =>
      obtain ⟨a, vs, rfl, h1, h2⟩ := rep_tup.mp r
      have ev := intsW_rep e h2
      subst ev
      exact ⟨a, ns, rfl, .inr (.inl h1), fin⟩
    | fix xs =>
      obtain ⟨a, vs, rfl, h1, h2⟩ := rep_fix.mp r
      have ev := intsW_rep e h2
      subst ev
      exact ⟨a, ns, rfl, .inl h1.seq, fin⟩
    | ref n =>
      simp only [intsOf] at e
      split at e
      · rename_i xs hn
        obtain ⟨a, rfl, _, vs, h1, h2⟩ := s.at hn r
        have ev := intsW_rep e h2
        subst ev
        exact ⟨a, ns, rfl, .inl (SqL.of h1), fin⟩
      · rename_i kvs hn
        obtain ⟨a, rfl, _, vs, h1, h2⟩ := s.at hn r
        exact ⟨a, ns, rfl, .inr (.inr ⟨vs, h1, h2.keys.trans (keysI_is e)⟩), fin⟩
      · cases e
    | _ => cases e
/-! ### xs.index(y) -/
def wIndex (x : W) (xs : List W) (h : PH) : Option (W × PH) := match xs with
  | [y] => match lstOf x h with
    | some ws => if flatW y = true ∧ ws.all flatW = true then (ws.findIdx? fun z => eqF z y).map fun j => (.int (j : Nat), h) else none
    | none => none
  | _ => none
theorem op_index : OpMt K (rIndex K) wIndex := by
  intro f h H x v xs vs Q E s rx rxs p
  unfold wIndex at p
  split at p
  · rename_i y
    obtain ⟨u, rfl, ru⟩ := rxs.one_inv
    split at p
    · rename_i ws e
      split at p
      · rename_i c
        obtain ⟨a, ys, rfl, hs, rr⟩ := lstOf_rep s rx e
        cases ej : ws.findIdx? fun z => eqF z y with
        | none => rw [ej] at p; exact p.elim
        | some j =>
          rw [ej] at p
          obtain ⟨hj, k1, k2⟩ := List.findIdx?_eq_some_iff_getElem.mp ej
          obtain ⟨z, hz, rz⟩ := rr.get (List.getElem?_eq_getElem hj)
          have fl : ∀ i (hi : i < ws.length), flatW ws[i] = true := fun i hi => List.all_eq_true.mp c.2 _ (List.getElem_mem hi)
          refine ⟨a, ys, u, j, z, rfl, rfl, hs, flat_of ru c.1, flats_of rr c.2, hz, ?_, fun m z' hm ez => ?_, .inl (post_ok s p (rep_int.mpr rfl))⟩
          · rw [eqF_of rz ru (fl j hj) c.1]
            exact k1
          · obtain ⟨w, ew, rw'⟩ := rr.getv ez
            have hm2 : m < ws.length := by omega
            rw [List.getElem?_eq_getElem hm2] at ew
            cases ew
            rw [eqF_of rw' ru (fl m hm2) c.1]
            simpa using k2 m hm
      · exact p.elim
    · exact p.elim
  · exact p.elim
end
section
variable {X : Cx} {W0 : WX} {o : Expr} {m : EM} {apos cpos : Pos}
theorem se_index {e1 : Expr} {m1 : EM} (ho : SE X W0 o m) (ha : SE X W0 e1 m1) (hbase : attributeBase o "index" X.env (eval o X.env) = eval o X.env := by rfl)
    (hfew : ((backTo cpos (starEach [e1] X.env)).all (fun x => !x.1) && (backToKw cpos (keywordEach [] X.env)).all (fun x => x.1.isSome)
      && decide (([e1] : List Expr).length + ([] : List Keyword).length + (if ([] : List Keyword).isEmpty then 0 else 1) < 30)) = true := by rfl)
    (hline : (apos.endLine == cpos.line) = true := by rfl) (hs : starEach [e1] X.env = [(false, eval e1 X.env)] := by rfl) : SE X W0 (.Call (.Attribute o "index" apos) [e1] [] cpos) (mMt "list" wIndex m (mCons m1 mNil)) :=
  se_mt PySem.F.plainAttrs_list PySem.F.slot_list_index PySem.F.type_list_index mt_index op_index ho (sa_cons ha sa_nil hs) hbase hfew hline hs
end
section
variable {X : Cx} {W0 : WX} {e o : Expr} {m mo : EM} {p p1 p2 p3 pos apos : Pos} {k : Nat}
/-! ### x[::-1] -/
def mRev (m : EM) : LM := fun ps h => (m ps h).bind fun x h1 => match lstOf x h1 with
  | some ws => .ok ws.reverse h1
  | none => .stuck
theorem sl_rev (ha : SE X W0 e m) : SL X W0 (.Subscript e (.Slice none none (some (.UnaryOp .USub (.Constant (.int 1) k p1) p2)) p3) pos) (mRev m) := pe_imp (pe_revL ha) fun σ H Q h => by
  obtain ⟨f, h, ps, s, sr, p⟩ := h
  refine ⟨f, h, ps, s, sr, (Post.bind (R1 := RW X.K) s back_L p).mono (fun v H1 hh => ?_) fun _ _ _ e => e⟩
  obtain ⟨f1, h1, x, s1, q1, p1⟩ := hh
  split at p1
  · rename_i ws e
    obtain ⟨a, vs, rfl, hs, rr⟩ := lstOf_rep s1.sim q1 e
    refine ⟨a, vs, rfl, hs, fun q hq => ?_⟩
    have st := s1.sim.other (o := .lst vs.reverse) hq
    exact p1 f1 _ _ st ⟨q, _, rfl, hq, s1.sim.fresh hq, upd_same, Reps.mono (.refl f1) (s1.sim.stay st.grow) _ _ rr.reverse⟩
  · exact p1.elim
/-! ### list(range(n)), list(range(a, b)) -/
theorem reps_rg {K : PySem.W.Frag} {f : List Addr} {H : Hp} {a b : Int} : Reps K f H (rangeW a (b - a).toNat) (rgV a b) := by
  unfold rangeW rgV
  generalize List.range (b - a).toNat = l
  induction l with
  | nil => exact .nil
  | cons i r ih => exact .cons (rep_int.mpr rfl) ih
def mListRg1 (m : EM) : LM := fun ps h => (m ps h).bind fun x h1 => match x with
  | .int n => if -1000000 ≤ n ∧ n ≤ 1000000 then .ok (rangeW 0 n.toNat) h1 else .stuck
  | _ => .stuck
theorem sl_listRg1 {pr : Pos} (hc : X.calm = true) (hl : X.mg "list" = none) (hr : X.mg "range" = none) (ha : SE X W0 e m) (hg : Gl X "list" := by rfl) (hg2 : Gl X "range" := by rfl)
    (na : starEach [.Call (.Name "range" p2) [e] [] pr] X.env = (false, eval (.Call (.Name "range" p2) [e] [] pr) X.env) :: starEach [] X.env := by rfl) (nb : starEach [e] X.env = (false, eval e X.env) :: starEach [] X.env := by rfl) :
    SL X W0 (.Call (.Name "list" p) [.Call (.Name "range" p2) [e] [] pr] [] pos) (mListRg1 m) := pe_imp (pe_listRg hc hg hl (prg_1 hg2 hr ha nb) na) fun σ H Q h => by
  obtain ⟨f, h, ps, s, sr, p⟩ := h
  refine ⟨f, h, ps, s, sr, (Post.bind (R1 := RW X.K) s back_L p).mono (fun v H1 hh => ?_) fun _ _ _ e => e⟩
  obtain ⟨f1, h1, x, s1, q1, p1⟩ := hh
  split at p1
  · rename_i n
    split at p1
    · rename_i c
      refine ⟨n, rep_int.mp q1, ⟨by omega, by omega, by omega, by omega, by omega⟩, fun q hq => ?_⟩
      have st := s1.sim.other (o := .lst (rgV 0 n)) hq
      have rr := reps_rg (K := X.K) (f := f1) (H := upd H1 q (.lst (rgV 0 n))) (a := 0) (b := n)
      rw [Int.sub_zero] at rr
      exact p1 f1 _ _ st ⟨q, _, rfl, hq, s1.sim.fresh hq, upd_same, rr⟩
    · exact p1.elim
  · exact p1.elim
end
section
variable {X : Cx} {W0 : WX} {m1 m2 m3 : EM} {pos : Pos}
/-- a, b, c = x, y, z -/
def sPar3 (m1 m2 m3 : EM) (i j l : Nat) : SM := fun ps h => (m1 ps h).thenS ps fun u h1 => (m2 ps h1).thenS ps fun v h2 => (m3 ps h2).thenS ps fun w h3 => .nx (((ps.set i (some u)).set j (some v)).set l (some w)) h3
theorem ss_par3 (i j l : Nat) {x y z : Str} {a b c : Expr} {px py pz pt pt2 : Pos} {kt k2 : Nat} (hN : X.N.Nodup) (ha : SE X W0 a m1) (hb : SE X W0 b m2) (hd : SE X W0 c m3) (hij : i ≠ j := by decide) (hil : i ≠ l := by decide) (hjl : j ≠ l := by decide) (hc : X.calm = true := by rfl)
    (hi : X.N[i]? = some x := by rfl) (hj : X.N[j]? = some y := by rfl) (hl : X.N[l]? = some z := by rfl)
    (hx : X.env.scope.names.lookup x = some .local := by rfl) (hy : X.env.scope.names.lookup y = some .local := by rfl) (hz : X.env.scope.names.lookup z = some .local := by rfl)
    (he : starEach [a, b, c] X.env = (false, eval a X.env) :: starEach [b, c] X.env := by rfl) (he2 : starEach [b, c] X.env = (false, eval b X.env) :: starEach [c] X.env := by rfl) (he3 : starEach [c] X.env = (false, eval c X.env) :: starEach [] X.env := by rfl)
    (hw : swappedStores [.Tuple [.Name x px, .Name y py, .Name z pz] kt pt] (.Tuple [a, b, c] k2 pt2) X.env = pure (some [x, y, z]) := by rfl)
    (hs : swapsWithSole [.Tuple [.Name x px, .Name y py, .Name z pz] kt pt] (.Tuple [a, b, c] k2 pt2) pos.line X.env = pure false := by rfl) :
    SS X W0 (.Assign [.Tuple [.Name x px, .Name y py, .Name z pz] kt pt] (.Tuple [a, b, c] k2 pt2) pos) (sPar3 m1 m2 m3 i j l) :=
  ps_imp (ps_par3 hc hN hi hj hl hij hil hjl hx hy hz (pa_cons ha (pa_cons hb (pa_cons hd pa_nil he3) he2) he) hw hs) fun D σ H h => by
    obtain ⟨f, h, ps, s, sr, p⟩ := h
    refine ⟨f, h, ps, s, sr, (PostS.bind (R1 := RW X.K) s sr p).mono (fun v1 H1 hh => ?_) fun _ _ _ e => e⟩
    obtain ⟨f1, h1, x1, s1, sr1, q1, p1⟩ := hh
    refine ⟨f1, h1, ps, s1.sim, sr1, (PostS.bind (R1 := RW X.K) s1.sim sr1 p1).mono (fun v2 H2 hh => ?_) fun _ _ _ e => e⟩
    obtain ⟨f2, h2, x2, s2, sr2, q2, p2⟩ := hh
    refine ⟨f2, h2, ps, s2.sim, sr2, (PostS.bind (R1 := RW X.K) s2.sim sr2 p2).mono (fun v3 H3 hh => ?_) fun _ _ _ e => e⟩
    obtain ⟨f3, h3, x3, s3, sr3, q3, p3⟩ := hh
    exact ⟨v1, v2, v3, rfl, p3 f3 H3 _ (.refl s3.sim) (((sr3.set i (s3.rep s2.sim (s2.rep s1.sim q1))).set j (s3.rep s2.sim q2)).set l q3)⟩
@[simp] theorem to_par3 {i j l : Nat} {ps : LS} {h : PH} {N B C : LS → PH → Prop} {R : W → PH → Prop} : (sPar3 m1 m2 m3 i j l ps h).To N R B C = (m1 ps h).To fun x h1 => (m2 ps h1).To fun y h2 => (m3 ps h2).To fun z h3 => N (((ps.set i (some x)).set j (some y)).set l (some z)) h3 := by
  simp [sPar3]
end
end Mir

/-! Mir: dict of a list of pairs -/
namespace Mir
open PySem PySem.Spec PyProof.Rows L2
def pairsK : List W → Option (List (Key × W))
  | [] => some []
  | .tup [k, v] :: r => match keyW k, pairsK r with
    | some k, some s => some ((k, v) :: s)
    | _, _ => none
  | _ => none
def wDictP (x : W) (h : PH) : Option (W × PH) := match lstOf x h with
  | some ws => (pairsK ws).map fun kvs => (.ref h.length, h ++ [.dK (mergeW [] kvs)])
  | none => none
section
variable {K : PySem.W.Frag}
def rDictP (K : PySem.W.Frag) : List V → Hp → VK → Prop := fun xs H Q => ∃ (a : Addr) (ps : List Addr) (kvs : List (Key × V)), xs = [.ref a] ∧ SqL K H a (ps.map V.ref) ∧ Paired (fun p kv => SqT K H p [kV kv.1, kv.2]) ps kvs ∧
    ∀ p, H p = none → Q (.ref p) (upd H p (.dK (mergeK [] kvs)))
theorem pairs_repK {f : List Addr} {H : Hp} : ∀ {ws : List W} {ys : List V} {kws : List (Key × W)}, pairsK ws = some kws → Reps K f H ws ys →
    ∃ (ps : List Addr) (us : List (Key × V)), ys = ps.map V.ref ∧ Paired (fun p kv => SqT K H p [kV kv.1, kv.2]) ps us ∧ KRep K f H kws us
  | [], ys, kws, e, r => by
    cases e
    have := r.nil_inv
    subst this
    exact ⟨[], [], rfl, .nil, rfl⟩
  | w :: t, ys, kws, e, r => by
    unfold pairsK at e
    split at e
    · rename_i z
      cases z
    · rename_i k v t' hw
      obtain ⟨rfl, rfl⟩ := List.cons.inj hw
      split at e
      · rename_i k' s ek es
        cases e
        obtain ⟨y, ys', rfl, ry, rt⟩ := r.cons_inv
        obtain ⟨ps, us, rfl, hp, kr⟩ := pairs_repK es rt
        obtain ⟨a, vs, rfl, h1, h2⟩ := rep_tup.mp ry
        obtain ⟨v1, t1, rfl, a1, a2⟩ := h2.cons_inv
        obtain ⟨v2, rfl, b1⟩ := a2.one_inv
        rw [key_rep ek a1] at h1
        exact ⟨a :: ps, (k', v2) :: us, rfl, .cons h1 hp, v2, us, rfl, b1, kr⟩
      · cases e
    · cases e
theorem q_dictP : OpV K (RW K) (rDictP K) wDictP := by
  intro f h H x v Q E s r p
  unfold wDictP at p
  split at p
  · rename_i ws e
    obtain ⟨a, ys, rfl, hs, rr⟩ := lstOf_rep s r e
    cases ek : pairsK ws with
    | none => rw [ek] at p; exact p.elim
    | some kws =>
      rw [ek] at p
      obtain ⟨ps, us, rfl, hp, kr⟩ := pairs_repK ek rr
      refine ⟨a, ps, us, rfl, hs, hp, fun q hq => ?_⟩
      have st := s.other (o := .dK (mergeK [] us)) hq
      refine p (f ++ [q]) _ _ (st.take_in hq (s.fresh hq) ⟨_, upd_same, KRep.mono (.refl f) (s.stay st.grow) _ _ (merge_rep kr rfl)⟩) ?_
      simp only [Rep]
      refine ⟨q, rfl, ?_⟩
      rw [List.getElem?_append_right (by rw [s.len]; omega), s.len]
      simp
  · exact p.elim
end
section
variable {Q : W → PH → Prop} {h : PH}
@[simp] theorem to_dictP {ws : List W} : PTo (wDictP (.fix ws) h) Q = OTo (pairsK ws) fun kvs => Q (.ref h.length) (h ++ [.dK (mergeW [] kvs)]) := by
  simp only [wDictP, lstOf_fix]
  cases pairsK ws <;> simp
end
end Mir

/-! Mir: dicts that are walked: locked on the way -/
namespace Mir
open PySem PySem.Spec PyProof.Rows L2
section
variable {K : PySem.W.Frag} {f f1 : List Addr} {h h1 : PH} {H H1 : Hp} {d : Addr} {od : Obj} {n : Nat}
theorem stay_lockD {us : List (Key × V)} (e : H d = some (.dK us)) : Stay K H (upd H d (.frz od (.dK us))) := by
  have key : ∀ a u, H a = some u → (∀ xs, u ≠ .dK xs) → upd H d (.frz od (.dK us)) a = some u := fun a u e2 n => by
    rw [upd_ne (fun z => by subst z; rw [e] at e2; cases e2; exact n _ rfl)]
    exact e2
  refine ⟨fun a xs r => ?_, fun a xs r => ?_, fun a φ r => key _ _ r (fun _ z => by cases z), fun a gs r => key _ _ r (fun _ z => by cases z)⟩
  · rcases r with (r | ⟨o, r⟩) | r
    · exact .inl (.inl (key _ _ r (fun _ z => by cases z)))
    · exact .inl (.inr ⟨o, key _ _ r (fun _ z => by cases z)⟩)
    · exact .inr r
  · rcases r with ⟨o, r⟩ | r
    · exact .inl ⟨o, key _ _ r (fun _ z => by cases z)⟩
    · exact .inr r
theorem stay_freeD {us us' : List (Key × V)} (e : H d = some (.frz od (.dK us))) : Stay K H (upd H d (.dK us')) := by
  have key : ∀ a u, H a = some u → (∀ o xs, u ≠ .frz o (.dK xs)) → upd H d (.dK us') a = some u := fun a u e2 n => by
    rw [upd_ne (fun z => by subst z; rw [e] at e2; cases e2; exact n _ _ rfl)]
    exact e2
  refine ⟨fun a xs r => ?_, fun a xs r => ?_, fun a φ r => key _ _ r (fun _ _ z => by cases z), fun a gs r => key _ _ r (fun _ _ z => by cases z)⟩
  · rcases r with (r | ⟨o, r⟩) | r
    · exact .inl (.inl (key _ _ r (fun _ _ z => by cases z)))
    · exact .inl (.inr ⟨o, key _ _ r (fun _ _ z => by cases z)⟩)
    · exact .inr r
  · rcases r with ⟨o, r⟩ | r
    · exact .inl ⟨o, key _ _ r (fun _ _ z => by cases z)⟩
    · exact .inr r
theorem Sim.lockD {kvs : List (Key × W)} {us : List (Key × V)} (s : Sim K f h H) (hf : f[n]? = some d) (e : H d = some (.dK us)) (r : KRep K f H kvs us) : Sim K f (h.set n (.lk kvs)) (upd H d (.frz od (.dK us))) := by
  have st : Stay K H (upd H d (.frz od (.dK us))) := stay_lockD e
  refine ⟨by rw [List.length_set]; exact s.len, s.nd, fun m o em => ?_⟩
  by_cases hm : n = m
  · subst hm
    have hl : n < h.length := by rw [← s.len]; exact (List.getElem?_eq_some_iff.mp hf).1
    rw [List.getElem?_set_self hl] at em
    cases em
    exact ⟨d, hf, od, us, upd_same, KRep.mono (.refl f) st _ _ r⟩
  · rw [List.getElem?_set_ne hm] at em
    obtain ⟨b, h1, h2⟩ := s.obj m o em
    exact ⟨b, h1, h2.mono (.refl f) st (upd_ne fun z => hm (nd_inj s.nd hf (z ▸ h1)))⟩
theorem Step.freeD {us : List (Key × V)} {kvs : List (Key × W)} (hf : f[n]? = some d) (e : H d = some (.dK us)) (st : Step K f (upd H d (.frz od (.dK us))) f1 h1 H1) (en : h1[n]? = some (.lk kvs)) : H1 d = some (.frz od (.dK us)) ∧ Step K f H f1 (h1.set n (.dK kvs)) (upd H1 d (.dK us)) := by
  have e1 : H1 d = some (.frz od (.dK us)) := st.lk _ _ _ upd_same
  have hd : d ∈ f := List.mem_of_getElem? hf
  have hf1 : f1[n]? = some d := st.ext.get hf
  have sty : Stay K H1 (upd H1 d (.dK us)) := stay_freeD e1
  refine ⟨e1, st.ext, fun x hx hn => ?_, fun a u ea na => ?_, fun a o vs ea => ?_, by rw [List.length_set]; exact st.sim.len, st.sim.nd, fun m o em => ?_⟩
  · have := st.new x hx hn
    rwa [upd_ne (fun z => hn (by rw [z]; exact hd))] at this
  · have hne : a ≠ d := fun z => na (z ▸ hd)
    rw [upd_ne hne]
    exact st.grow a u (by rw [upd_ne hne]; exact ea) na
  · have hne : a ≠ d := fun z => by rw [z, e] at ea; cases ea
    rw [upd_ne hne]
    exact st.lk a o vs (by rw [upd_ne hne]; exact ea)
  · by_cases hm : n = m
    · subst hm
      have hl : n < h1.length := by rw [← st.sim.len]; exact (List.getElem?_eq_some_iff.mp hf1).1
      rw [List.getElem?_set_self hl] at em
      cases em
      obtain ⟨b, b1, o', us', b2, b3⟩ := st.sim.obj n _ en
      rw [hf1] at b1
      cases b1
      rw [e1] at b2
      cases b2
      exact ⟨d, hf1, us, upd_same, KRep.mono (.refl f1) sty _ _ b3⟩
    · rw [List.getElem?_set_ne hm] at em
      obtain ⟨b, b1, b2⟩ := st.sim.obj m o em
      exact ⟨b, b1, b2.mono (.refl f1) sty (upd_ne fun z => hm (nd_inj st.sim.nd hf1 (z ▸ b1)))⟩
end
/-- a list that is made while the dict that `look` names is walked -/
def lkL (look : LS → PH → Option Nat) (l : LM) : LM := fun ps h => match look ps h with
  | some n => match h[n]? with
    | some (.dK kvs) => match l ps (h.set n (.lk kvs)) with
      | .ok xs h1 => match h1[n]? with
        | some (.lk kvs') => .ok xs (h1.set n (.dK kvs'))
        | _ => .stuck
      | _ => .stuck
    | _ => .stuck
  | none => .stuck
theorem sl_lock {X : Cx} {W0 : WX} {e : Expr} {l : LM} (look : LS → PH → Option Nat) (ha : SL X W0 e l) : SL X W0 e (lkL look l) := pe_imp (pe_lock ha) fun σ H Q h => by
  obtain ⟨f, h, ps, s, sr, p⟩ := h
  unfold lkL at p
  split at p
  · rename_i n _
    split at p
    · rename_i kvs en
      split at p
      · rename_i xs h1 el
        split at p
        · rename_i kvs' en'
          obtain ⟨d, hf, us, e1, r1⟩ := s.obj n _ en
          refine ⟨d, .dK us, e1, trivial, fun od => ⟨f, h.set n (.lk kvs), ps, s.lockD hf e1 r1, sr.mono (.refl f) (stay_lockD e1), ?_⟩⟩
          rw [el]
          intro f1 H1 v s1 q1
          obtain ⟨k1, k2⟩ := s1.freeD hf e1 en'
          refine ⟨k1, p f1 _ v k2 ?_⟩
          obtain ⟨q, vs, rfl, hq, nq, eq, rq⟩ := q1
          have hne : q ≠ d := fun z => by rw [z, upd_same] at hq; cases hq
          refine ⟨q, vs, rfl, by rwa [upd_ne hne] at hq, nq, by rw [upd_ne hne]; exact eq, Reps.mono (.refl f1) (stay_freeD k1) _ _ rq⟩
        · exact p.elim
      · exact p.elim
    · exact p.elim
  · exact p.elim
/-- the dict in a slot -/
def lkV (i : Nat) : LS → PH → Option Nat := fun ps _ => match ps[i]? with
  | some (some (.ref n)) => some n
  | _ => none
/-- the dict in a field of the object in a slot -/
def lkF (i : Nat) (f : Str) : LS → PH → Option Nat := fun ps h => match ps[i]? with
  | some (some (.ref n)) => match h[n]? with
    | some (.ins _ fs) => match fs.lookup f with
      | some (.ref m) => some m
      | _ => none
    | _ => none
  | _ => none
/-- for k, v in d.items() -/
def itemsOf (x : W) (h : PH) : Option PIt := match x with
  | .ref n => match h[n]? with
    | some (.lk kvs) => some (itS (kvs.map fun p => .tup [wKey p.1, p.2]))
    | _ => none
  | _ => none
def mItems (m : EM) : IM := fun ps h => (m ps h).bind fun x h1 => match itemsOf x h1 with
  | some it => .ok it h1
  | none => .stuck
section
variable {X : Cx} {W0 : WX} {e tg : Expr} {m : EM} {apos cpos tpos : Pos} {elts : List Expr} {kk : Nat} {K : PySem.W.Frag}
theorem it_items {f : List Addr} {h : PH} {H H0 : Hp} {d : Addr} {o : Obj} {us : List (Key × V)} {kvs : List (Key × W)} (s : Sim K f h H) (hd : H d = some (.frz o (.dK us))) (r : KRep K f H kvs us) : RIt K H0 f H (itS (kvs.map fun p => .tup [wKey p.1, p.2])) (Iti d o us) := by
  intro f2 h2 H2 i s2
  have q2 := s2.lk _ _ _ hd
  have r2 : KRep K f2 H2 kvs us := KRep.mono s2.ext (s2.stay s) _ _ r
  show match (some (kvs.map fun p => W.tup [wKey p.1, p.2])[i]? : Option (Option W)) with
    | none => True
    | some none => (Iti d o us).stop i H2
    | some (some w) => (Iti d o us).go i H2 ∧ ∀ x H', (Iti d o us).yld i H2 x H' → Step K f2 H2 f2 h2 H' ∧ Rep K f2 H' w x
  rw [List.getElem?_map]
  cases e : kvs[i]? with
  | none => exact ⟨q2, by rw [← r.length]; exact List.getElem?_eq_none_iff.mp e⟩
  | some w =>
    obtain ⟨k, w⟩ := w
    refine ⟨⟨q2, by rw [← r.length]; exact (List.getElem?_eq_some_iff.mp e).1⟩, fun x H' y => ?_⟩
    obtain ⟨T, k', v', e', rfl, hT, rfl⟩ := y
    obtain ⟨v, ev, rv⟩ := r2.getK e
    rw [ev] at e'
    obtain ⟨g1, g2⟩ := Prod.mk.inj (Option.some.inj e')
    subst g1
    subst g2
    have st := s2.sim.other (o := .tup [kV k, v]) hT
    exact ⟨st, rep_tup.mpr ⟨T, _, rfl, SqT.of upd_same, .cons rep_key (.one (st.rep s2.sim rv))⟩⟩
theorem si_items (ha : SE X W0 e m) (hbase : attributeBase e "items" X.env (eval e X.env) = eval e X.env := by rfl) (hline : (apos.endLine == cpos.line) = true := by rfl) :
    SI X W0 (.Tuple elts kk tpos) (.Call (.Attribute e "items" apos) [] [] cpos) (mItems m) := pi_imp (pi_items ha hbase hline) fun σ H R h => by
  obtain ⟨f, h, ps, s, sr, p⟩ := h
  refine ⟨f, h, ps, s, sr, ?_⟩
  have p : Post X.K (RIt X.K) f H ((m ps h).bind _) R _ := p
  cases e1 : m ps h with
  | stuck => rw [e1] at p; exact p.elim
  | exc x h1 => rw [e1] at p; exact p
  | ok x h1 =>
    rw [e1] at p
    intro f1 H1 v s1 q1
    have p : Post X.K (RIt X.K) f H (match itemsOf x h1 with
      | some it => .ok it h1
      | none => .stuck) R _ := p
    cases x with
    | ref n =>
      cases e2 : h1[n]? with
      | none => simp only [itemsOf, e2] at p; exact p.elim
      | some o =>
        cases o with
        | lk kvs =>
          simp only [itemsOf, e2] at p
          obtain ⟨a, rfl, hf, o, vs, h2, h3⟩ := s1.sim.at e2 q1
          exact ⟨a, o, vs, rfl, h2, p f1 H1 _ s1 (it_items s1.sim h2 h3)⟩
        | _ => simp only [itemsOf, e2] at p; exact p.elim
    | _ => exact p.elim
end
section
variable {ps : LS} {h : PH} {Ql : List W → PH → Prop} {Qi : PIt → PH → Prop} {l : LM} {m : EM} {n : Nat} {look : LS → PH → Option Nat}
theorem to_lock {kvs : List (Key × W)} (e : look ps h = some n) (en : h[n]? = some (.dK kvs)) (q : (l ps (h.set n (.lk kvs))).To fun xs g => ∃ kvs', g[n]? = some (.lk kvs') ∧ Ql xs (g.set n (.dK kvs'))) : (lkL look l ps h).To Ql := by
  obtain ⟨xs, g, e1, kvs', e2, e3⟩ := q.is
  unfold lkL
  rw [e]
  simp only [en, e1, e2, to_ok]
  exact e3
@[simp] theorem to_items : (mItems m ps h).To Qi = (m ps h).To fun x g => OTo (itemsOf x g) fun it => Qi it g := by
  simp only [mItems, to_bind]
  congr 1
  funext x g
  cases itemsOf x g <;> simp
theorem items_lk {kvs : List (Key × W)} {g : PH} (e : g[n]? = some (.lk kvs)) : itemsOf (.ref n) g = some (itS (kvs.map fun p => .tup [wKey p.1, p.2])) := by simp only [itemsOf, e]
theorem keys_lk {kvs : List (Key × W)} {g : PH} {fuel : Nat} (e : g[n]? = some (.lk kvs)) : iterOf fuel (.ref n) g = some (itS (kvs.map fun p => wKey p.1)) := by simp only [iterOf, e]
end
end Mir

/-! Mir: zip of two -/
namespace Mir
open PySem PySem.Spec PyProof.Rows L2 RZ
def lstIt (fuel : Nat) (x : W) (h : PH) : Option PIt := match x with
  | .fix xs => some (itS xs)
  | .ref n => match h[n]? with
    | some (.lst _) => some (itL n fuel)
    | _ => none
  | _ => none
def zipOf (fuel : Nat) (x y : W) (h : PH) : Option PIt := match x, y with
  | .tup xs, .tup ys => some (itZ (itS xs) (itS ys))
  | x, y => match lstIt fuel x h, lstIt fuel y h with
    | some a, some b => some (itZ a b)
    | _, _ => none
def mZipA (fuel : Nat) (m n : EM) : IM := fun ps h => (m ps h).bind fun x h1 => (n ps h1).bind fun y h2 => match zipOf fuel x y h2 with
  | some it => .ok it h2
  | none => .stuck
section
variable {K : PySem.W.Frag} {X : Cx} {W0 : WX} {e e2 : Expr} {m m2 : EM} {p pos tpos : Pos} {elts : List Expr} {kk : Nat}
theorem itZ_t {f : List Addr} {H H0 : Hp} {a b : Addr} {ia ib : PIt} (ha : RIt K H0 f H ia (Itt K a)) (hb : RIt K H0 f H ib (Itt K b)) : RIt K H0 f H (itZ ia ib) (ItzT K a b) := by
  intro f2 h2 H2 i s2
  have qa := ha f2 h2 H2 i s2
  have qb := hb f2 h2 H2 i s2
  unfold itZ
  dsimp only
  cases ea : ia.get i h2 with
  | none => trivial
  | some oa =>
    rw [ea] at qa
    cases eb : ib.get i h2 with
    | none => cases oa <;> trivial
    | some ob =>
      rw [eb] at qb
      cases oa with
      | none =>
        obtain ⟨xs, x1, x2⟩ := qa
        cases ob with
        | none =>
          obtain ⟨ys, y1, y2⟩ := qb
          exact ⟨xs, ys, x1, y1, .inl x2⟩
        | some y =>
          obtain ⟨⟨ys, v, y1, y2⟩, _⟩ := qb
          exact ⟨xs, ys, x1, y1, .inl x2⟩
      | some x =>
        obtain ⟨⟨xs, u, x1, x2⟩, x3⟩ := qa
        cases ob with
        | none =>
          obtain ⟨ys, y1, y2⟩ := qb
          exact ⟨xs, ys, x1, y1, .inr y2⟩
        | some y =>
          obtain ⟨⟨ys, v, y1, y2⟩, y3⟩ := qb
          refine ⟨⟨xs, ys, u, v, x1, y1, x2, y2⟩, fun z H' q => ?_⟩
          obtain ⟨T, u', v', rfl, hT, rfl, q1, q2⟩ := q
          have r1 := (x3 u' H2 ⟨rfl, q1⟩).2
          have r2 := (y3 v' H2 ⟨rfl, q2⟩).2
          have st := s2.sim.other (o := .tup [u', v']) hT
          exact ⟨st, rep_tup.mpr ⟨T, _, rfl, SqT.of upd_same, .cons (st.rep s2.sim r1) (.one (st.rep s2.sim r2))⟩⟩
theorem itZ_l {f : List Addr} {H H0 : Hp} {a b : Addr} {ia ib : PIt} (ha : RIt K H0 f H ia (Itl K a)) (hb : RIt K H0 f H ib (Itl K b)) : RIt K H0 f H (itZ ia ib) (Itz K a b) := by
  intro f2 h2 H2 i s2
  have qa := ha f2 h2 H2 i s2
  have qb := hb f2 h2 H2 i s2
  unfold itZ
  dsimp only
  cases ea : ia.get i h2 with
  | none => trivial
  | some oa =>
    rw [ea] at qa
    cases eb : ib.get i h2 with
    | none => cases oa <;> trivial
    | some ob =>
      rw [eb] at qb
      cases oa with
      | none =>
        obtain ⟨xs, x1, x2⟩ := qa
        cases ob with
        | none =>
          obtain ⟨ys, y1, y2⟩ := qb
          exact ⟨xs, ys, x1, y1, .inl x2⟩
        | some y =>
          obtain ⟨⟨ys, v, y1, y2⟩, _⟩ := qb
          exact ⟨xs, ys, x1, y1, .inl x2⟩
      | some x =>
        obtain ⟨⟨xs, u, x1, x2⟩, x3⟩ := qa
        cases ob with
        | none =>
          obtain ⟨ys, y1, y2⟩ := qb
          exact ⟨xs, ys, x1, y1, .inr y2⟩
        | some y =>
          obtain ⟨⟨ys, v, y1, y2⟩, y3⟩ := qb
          refine ⟨⟨xs, ys, u, v, x1, y1, x2, y2⟩, fun z H' q => ?_⟩
          obtain ⟨T, u', v', rfl, hT, rfl, q1, q2⟩ := q
          have r1 := (x3 u' H2 ⟨rfl, q1⟩).2
          have r2 := (y3 v' H2 ⟨rfl, q2⟩).2
          have st := s2.sim.other (o := .tup [u', v']) hT
          exact ⟨st, rep_tup.mpr ⟨T, _, rfl, SqT.of upd_same, .cons (st.rep s2.sim r1) (.one (st.rep s2.sim r2))⟩⟩
theorem lstIt_rep {f : List Addr} {h : PH} {H H0 : Hp} {fuel : Nat} {x : W} {v : V} {it : PIt} (s : Sim K f h H) (r : Rep K f H x v) (e : lstIt fuel x h = some it) : ∃ a xs, v = .ref a ∧ SqL K H a xs ∧ RIt K H0 f H it (Itl K a) := by
  cases x with
  | fix xs =>
    cases e
    obtain ⟨a, vs, rfl, h2, h3⟩ := rep_fix.mp r
    exact ⟨a, vs, rfl, h2.seq, it_lst s (fix_later s h2) h3⟩
  | ref n =>
    simp only [lstIt] at e
    split at e
    · rename_i xs en
      cases e
      obtain ⟨a, rfl, hf, vs, h2, h3⟩ := s.at en r
      exact ⟨a, vs, rfl, SqL.of h2, it_live hf⟩
    · cases e
  | _ => cases e
theorem si_zipA (fuel : Nat) (hm : X.mg "zip" = none) (ha : SE X W0 e m) (hb : SE X W0 e2 m2) (hg : Gl X "zip" := by rfl) (hs : starEach [e, e2] X.env = (false, eval e X.env) :: starEach [e2] X.env := by rfl) (hs2 : starEach [e2] X.env = [(false, eval e2 X.env)] := by rfl) :
    SI X W0 (.Tuple elts kk tpos) (.Call (.Name "zip" p) [e, e2] [] pos) (mZipA fuel m m2) := pi_imp (pi_zipA hg hm (pa_cons ha (pa_cons hb pa_nil hs2) hs) hs (by rw [hs2]; rfl)) fun σ H R h => by
  obtain ⟨f, h, ps, s, sr, p⟩ := h
  refine ⟨f, h, ps, s, sr, (Post.bind (R1 := RW X.K) s back_It p).mono (fun v H1 hh => ?_) fun _ _ _ e => e⟩
  obtain ⟨f1, h1, x, s1, q1, p1⟩ := hh
  refine ⟨f1, h1, ps, s1.sim, s1.srep s sr, (Post.bind (R1 := RW X.K) s1.sim back_It p1).mono (fun u H2 hh => ?_) fun _ _ _ e => e⟩
  obtain ⟨f2, h2, y, s2, q2, p2⟩ := hh
  have q1 := s2.rep s1.sim q1
  cases ez : zipOf fuel x y h2 with
  | none => rw [ez] at p2; exact p2.elim
  | some it =>
    rw [ez] at p2
    by_cases ht : ∃ xs ys, x = .tup xs ∧ y = .tup ys
    · obtain ⟨xs, ys, rfl, rfl⟩ := ht
      cases ez
      obtain ⟨a, vs, rfl, a2, a3⟩ := rep_tup.mp q1
      obtain ⟨b, us, rfl, b2, b3⟩ := rep_tup.mp q2
      exact ⟨a, b, vs, us, rfl, .inr ⟨a2, b2, p2 f2 H2 _ (.refl s2.sim) (itZ_t (it_tup s2.sim a2 a3) (it_tup s2.sim b2 b3))⟩⟩
    · have ez : (match lstIt fuel x h2, lstIt fuel y h2 with
        | some a, some b => some (itZ a b)
        | _, _ => none) = some it := by
        unfold zipOf at ez
        split at ez
        · exact absurd ⟨_, _, rfl, rfl⟩ ht
        · exact ez
      split at ez
      · rename_i ia ib ea eb
        cases ez
        obtain ⟨a, xs, rfl, a2, a3⟩ := lstIt_rep s2.sim q1 ea
        obtain ⟨b, ys, rfl, b2, b3⟩ := lstIt_rep s2.sim q2 eb
        exact ⟨a, b, xs, ys, rfl, .inl ⟨a2, b2, p2 f2 H2 _ (.refl s2.sim) (itZ_l a3 b3)⟩⟩
      · cases ez
end
section
variable {ps : LS} {h : PH} {Qi : PIt → PH → Prop} {m m2 : EM} {n : Nat}
@[simp] theorem to_zipA : (mZipA n m m2 ps h).To Qi = (m ps h).To fun x g => (m2 ps g).To fun y g => OTo (zipOf n x y g) fun it => Qi it g := by
  simp only [mZipA, to_bind]
  congr 1
  funext x g
  congr 1
  funext y g
  cases zipOf n x y g <;> simp
@[simp] theorem zip_tup {xs ys : List W} : zipOf n (.tup xs) (.tup ys) h = some (itZ (itS xs) (itS ys)) := rfl
end
end Mir

/-! Mir: x[::-1] of a tuple or a list, as a value. -/
namespace Mir
open PySem PySem.Spec PyProof.Rows L2
section
variable {prog : Program} {w : World} {A : Around} {E : Value → Shared → Prop} {s : Shared}
theorem places_rev (n : Nat) : Builtin.Slice.slicePlaces ((n : Int) - 1) (-1) (-1) = n := by
  unfold Builtin.Slice.slicePlaces
  have h1 : ¬ ((-1 : Int) > 0) := by decide
  simp only [h1, if_false]
  by_cases h : (n : Int) - 1 > -1
  · simp only [h, if_true]
    rw [show (- -1 : Int) = 1 by decide, Int.ediv_one]
    omega
  · simp only [h, if_false]
    omega
theorem sliceApplied_rev {sl : Addr} {vl vu vs : Value} {n : Nat} {Q : Int × Int × Nat → Shared → Prop} (hs : s.heap.IsSliceOf sl vl vu vs) (pl : IsPart vl none) (pu : IsPart vu none) (ps : IsPart vs (some (-1)))
    (h : Q ((n : Int) - 1, -1, n) s) : wpAny (model prog w) A (Builtin.Slice.sliceApplied (.ref sl) (pure (n : Int))) Q E s := by
  obtain ⟨os, hos, hcs, hds⟩ := id hs
  unfold Builtin.Slice.sliceApplied Builtin.Slice.sliceFields
  refine wpAny_bind (wpAny_bind (wpAny_field hos hds (x := vl) rfl (wpAny_bind (wpAny_field hos hds (x := vu) rfl (wpAny_bind (wpAny_field hos hds (x := vs) rfl (wpAny_pure ?_)))))))
  refine wpAny_bind (HT.slicePart_ ps ?_)
  show wpAny _ _ (if ((-1 : Int) == 0) = true then _ else _) _ _ s
  rw [if_neg (by decide)]
  refine wpAny_bind (HT.slicePart_ pl (wpAny_bind (HT.slicePart_ pu (wpAny_bind (wpAny_pure ?_)))))
  show wpAny _ _ (match Builtin.Slice.sliceAdjust none none (-1) (n : Int) with | (lo, hi) => pure (lo, (-1 : Int), Builtin.Slice.slicePlaces lo hi (-1))) _ _ s
  show wpAny _ _ (pure ((n : Int) - 1, (-1 : Int), Builtin.Slice.slicePlaces ((n : Int) - 1) (-1) (-1))) _ _ s
  rw [places_rev]
  exact wpAny_pure h
theorem pick_rev (xs : Array Value) : ((List.range xs.size).filterMap fun (m : Nat) => xs[(((xs.size : Int) - 1) + (m : Int) * (-1)).toNat]?).toArray = xs.toList.reverse.toArray := by
  have e : (fun (m : Nat) => xs[(((xs.size : Int) - 1) + (m : Int) * (-1)).toNat]?) = fun m => xs[(fun k => xs.size - 1 - k) m]? := by
    funext m
    have : (((xs.size : Int) - 1) + (m : Int) * (-1)).toNat = xs.size - 1 - m := by omega
    rw [this]
  rw [e]
  have e2 : (List.range xs.size).filterMap (fun m => xs[(fun k => xs.size - 1 - k) m]?) = ((List.range xs.size).map fun k => xs.size - 1 - k).filterMap (xs[·]?) := by
    rw [List.filterMap_map]
    rfl
  rw [e2, PySem.W.krv_range, List.filterMap_reverse, PySem.W.krv_all]
theorem getItem_tuple_rev {t sl : Addr} {items : Array Value} {vl vu vs : Value} {Q : Value → Shared → Prop} (ht : IsTup s.heap t items) (hs : s.heap.IsSliceOf sl vl vu vs) (pl : IsPart vl none) (pu : IsPart vu none) (ps : IsPart vs (some (-1)))
    (h : Q (.ref s.heap.objs.size) { s with heap := s.heap.push { cls := .type "tuple", data := .seq items.toList.reverse.toArray } })
    (hsz : items.size ≤ sizeLine) : wpAny (model prog w) A (getItem (.ref t) (.ref sl)) Q E s := by
  have htake : sizeOk (.seq items.toList.reverse.toArray) := by
    show items.toList.reverse.toArray.size ≤ sizeLine
    rw [List.size_toArray, List.length_reverse, Array.length_toList]
    exact hsz
  obtain ⟨os, hos, hcs, hds⟩ := id hs
  have hTs : s.TypeIs (.ref sl) "slice" := ⟨os, hos, hcs⟩
  unfold getItem
  try with_reducible refine wpAny_holding ?_
  first | refine wpAny_bind (wpAny_pure ?_) | skip
  refine wpAny_bind (wpAny_sequenceKey ht.typeIs (by decide) ?_)
  refine wpAny_bind (wpAny_callSpecial?_slot (name := Str.ofString "__getitem__") ht.typeIs PyProof.Rows.slot_tuple_getitem
    (wpAny_call_entry PyProof.Rows.slot_tuple_getitem ht.typeIs entry_tuple_getitem ?_ (args_tuple_getitem _ _)))
  show wpAny _ _ (Builtin.Tuple.tupleItemsOf (.ref t) >>= _) _ _ s
  refine wpAny_bind (tupleItemsOf_ ht ?_)
  refine wpAny_bind (wpAny_typeOf hTs ?_)
  rw [if_pos (by decide)]
  refine wpAny_bind (sliceApplied_rev (n := items.size) hs pl pu ps ?_)
  have hno : ¬ (((((items.size : Int) - 1)) == 0 && (-1 : Int) == 1 && items.size == items.size) = true) := by
    intro q
    rw [Bool.and_eq_true, Bool.and_eq_true] at q
    exact absurd q.1.2 (by decide)
  show wpAny _ _ (if (((items.size : Int) - 1) == 0 && (-1 : Int) == 1 && items.size == items.size) = true then _ else _) _ _ s
  rw [if_neg hno, pick_rev]
  first
    | exact wpAny_bind (m := Builtin.Tuple.tupleExact _) (wpAny_newObj_type (wpAny_pure ⟨_, rfl, wpAny_pure h⟩) htake)
    | exact wpAny_bind (m := Builtin.Tuple.tupleExact _) (wpAny_newObj_type (wpAny_bind (wpAny_pure (wpAny_pure ⟨_, rfl, wpAny_pure h⟩))) htake)
    | exact wpAny_bind (wpAny_bind (m := Builtin.Tuple.tupleExact _) (wpAny_newObj_type (wpAny_pure (wpAny_pure ⟨_, rfl, wpAny_pure h⟩)) htake))
    | exact wpAny_bind (wpAny_bind (m := Builtin.Tuple.tupleExact _) (wpAny_newObj_type (wpAny_pure ⟨_, rfl, wpAny_pure h⟩) htake))
end
section
variable {X : Cx}
def tRevA (K : PySem.W.Frag) (te : TE) : TE := fun σ H Q => te σ H fun x H1 => ∃ a xs, x = .ref a ∧ ((SqL K H1 a xs ∧ ∀ p, H1 p = none → Q (.ref p) (upd H1 p (.lst xs.reverse))) ∨ (SqT K H1 a xs ∧ ∀ p, H1 p = none → Q (.ref p) (upd H1 p (.tup xs.reverse))))
theorem pe_revA {e : Expr} {te : TE} {k : Nat} {p1 p2 p3 pos : Pos} (he : PE X e te) : PE X (.Subscript e (.Slice none none (some (.UnaryOp .USub (.Constant (.int 1) k p1) p2)) p3) pos) (tRevA X.K te) := by
  refine ⟨fun pins s σ H Q I h => ?_⟩
  refine Subscript_ (thn (he.run pins s σ H _ I h) fun v s1 ⟨x, H1, I1, r1, q1⟩ => ?_)
  obtain ⟨a, xs, ex, q⟩ := q1
  subst ex
  cases r1
  have hst : PO X (some (.UnaryOp .USub (.Constant (.int 1) k p1) p2)) (tPart (tUn (rU fun i => .int (-i)) (tC (.int 1)))) := po_some (pe_un un_neg pe_int)
  refine wpAny_Slice (thn (po_none.run pins s1 σ H1 (fun o H2 => o = none ∧ H2 = H1) I1 ⟨rfl, rfl⟩) fun vl s2 ⟨l, H2, I2, pl, el, e2⟩ => ?_)
  subst el e2
  refine thn (po_none.run pins s2 σ H2 (fun o H3 => o = none ∧ H3 = H2) I2 ⟨rfl, rfl⟩) fun vu s3 ⟨u, H3, I3, pu, eu, e3⟩ => ?_
  subst eu e3
  refine thn (hst.run pins s3 σ H3 (fun o H4 => o = some (-1) ∧ H4 = H3) I3 ⟨1, rfl, -1, rfl, rfl, rfl⟩) fun vs s4 ⟨o, H4, I4, ps, eo, e4⟩ => ?_
  subst eo e4
  have I5 : Inv X pins σ H4 { s4 with heap := s4.heap.push { cls := .type "slice", data := .fields #[vl, vu, vs] } } := I4.kept (t' := s4.toks) fun b ob q => Heap.get?_push_of_some _ q
  show wpAny (model X.prog X.w) X.A (subscriptTail e (.Slice none none (some (.UnaryOp .USub (.Constant (.int 1) k p1) p2)) p3) (.ref a) (.ref s4.heap.objs.size)) (EP X pins σ Q) X.xe { s4 with heap := s4.heap.push { cls := .type "slice", data := .fields #[vl, vu, vs] } }
  rcases q with ⟨hx, q⟩ | ⟨hx, q⟩
  · obtain ⟨its, r, ht, hz⟩ := I5.list hx
    have hlen := r.length
    refine tail_any (ops := [.ref a, .ref s4.heap.objs.size]) ht.isList.typeIs (PySem.slot_list_getitem.lookup) ?_ (by with_unfolding_all rfl)
    refine wpAny_getItem_list_slice ht.isList (Heap.IsSliceOf.new _ vl vu vs) pl pu ps (by decide) ?_ (by rw [List.size_toArray]; omega)
    rw [PySem.W.krv_pick]
    refine ⟨.ref _, _, I5.laid (t' := s4.toks) (o := .lst xs.reverse) (fun b ob q => Heap.get?_push_of_some _ q) (Nat.le_refl _) ?_, rfl, q _ (I5.hok.fresh (Nat.le_refl _))⟩
    exact ⟨by rw [List.length_reverse]; exact hz, _, 0, r.reverse, Heap.get?_push_size _ rfl⟩
  · obtain ⟨its, r, ht, hz⟩ := I5.tuple hx
    have hlen := r.length
    refine tail_any (ops := [.ref a, .ref s4.heap.objs.size]) ht.typeIs PyProof.Rows.slot_tuple_getitem.lookup ?_ (by with_unfolding_all rfl)
    refine getItem_tuple_rev ht (Heap.IsSliceOf.new _ vl vu vs) pl pu ps ?_ (by rw [List.size_toArray]; omega)
    refine ⟨.ref _, _, I5.laid (t' := s4.toks) (o := .tup xs.reverse) (fun b ob q => Heap.get?_push_of_some _ q) (Nat.le_refl _) ?_, rfl, q _ (I5.hok.fresh (Nat.le_refl _))⟩
    exact ⟨by rw [List.length_reverse]; exact hz, _, r.reverse, IsTup.new _ _⟩
end
def wRev : W → PH → Option (W × PH)
  | .tup xs, h => some (.tup xs.reverse, h)
  | .fix xs, h => some (.fix xs.reverse, h)
  | .ref n, h => match h[n]? with
    | some (.lst xs) => some (.fix xs.reverse, h)
    | _ => none
  | _, _ => none
section
variable {K : PySem.W.Frag} {X : Cx} {W0 : WX} {e : Expr} {m : EM} {p1 p2 p3 pos : Pos} {k : Nat}
theorem wRev_rule {f : List Addr} {h : PH} {H : Hp} {x : W} {v : V} {Q : VK} {E : XK} (s : Sim K f h H) (rx : Rep K f H x v) (p : Post K (RW K) f H (.ofO (wRev x h)) Q E) :
    ∃ a xs, v = .ref a ∧ ((SqL K H a xs ∧ ∀ p, H p = none → QF Q (.ref p) (upd H p (.lst xs.reverse))) ∨ (SqT K H a xs ∧ ∀ p, H p = none → QF Q (.ref p) (upd H p (.tup xs.reverse)))) := by
  cases x with
  | tup xs =>
    obtain ⟨a, vs, rfl, h1, h2⟩ := rep_tup.mp rx
    exact ⟨a, vs, rfl, .inr ⟨h1, fun q hq => .inl (post_tup s p h2.reverse hq)⟩⟩
  | fix xs =>
    obtain ⟨a, vs, rfl, h1, h2⟩ := rep_fix.mp rx
    exact ⟨a, vs, rfl, .inl ⟨h1.seq, fun q hq => post_fix s p h2.reverse hq⟩⟩
  | ref n =>
    simp only [wRev] at p
    split at p
    · rename_i xs hn
      obtain ⟨a, rfl, _, vs, h1, h2⟩ := s.at hn rx
      exact ⟨a, vs, rfl, .inl ⟨SqL.of h1, fun q hq => post_fix s p h2.reverse hq⟩⟩
    · exact p.elim
  | _ => exact p.elim
theorem se_rev (ha : SE X W0 e m) : SE X W0 (.Subscript e (.Slice none none (some (.UnaryOp .USub (.Constant (.int 1) k p1) p2)) p3) pos) (mUn wRev m) := pe_imp (pe_frz (pe_revA ha)) fun σ H Q h => by
  obtain ⟨f, h, ps, s, sr, p⟩ := h
  refine ⟨f, h, ps, s, sr, (Post.bind (R1 := RW X.K) s back_W p).mono (fun v H1 hh => ?_) fun _ _ _ e => e⟩
  obtain ⟨f1, h1, x, s1, q1, p1⟩ := hh
  exact wRev_rule s1.sim q1 p1
end
@[simp] theorem wRev_tup {xs : List W} {h : PH} : wRev (.tup xs) h = some (.tup xs.reverse, h) := rfl
@[simp] theorem wRev_fix {xs : List W} {h : PH} : wRev (.fix xs) h = some (.fix xs.reverse, h) := rfl
/-! ### in, where items are data of any depth -/
def inWD (x y : W) (h : PH) : Option Bool := match dat h x, dat h y with
  | some d, some (.list ds) => if SeqAt.shaped d = true ∧ SeqAt.shaped (.list ds) = true then some (ds.any fun z => PyData.eqv z d) else none
  | some d, some (.tuple ds) => if SeqAt.shaped d = true ∧ SeqAt.shaped (.tuple ds) = true then some (ds.any fun z => PyData.eqv z d) else none
  | _, _ => none
def wInD (x y : W) (h : PH) : Option (W × PH) := (inWD x y h).map fun b => (.bl b, h)
def wNotInD (x y : W) (h : PH) : Option (W × PH) := (inWD x y h).map fun b => (.bl (!b), h)
section
variable {X : Cx} {K : PySem.W.Frag}
def rInDA (K : PySem.W.Frag) (neg : Bool) : R2 := fun x y H Q => ∃ d ds, Dp K H x d ∧ (Dp K H y (.list ds) ∧ SeqAt.shaped (.list ds) = true ∨ Dp K H y (.tuple ds) ∧ SeqAt.shaped (.tuple ds) = true) ∧ SeqAt.shaped d = true ∧ Q (.bl (if neg then !(ds.any fun z => PyData.eqv z d) else ds.any fun z => PyData.eqv z d)) H
theorem o_inD {k : Nat} (hr : Room k X.A) : OpR X (compareOp .In) (rInDA X.K false) := by
  intro pins s σ H x y v u Q I rx ry h
  obtain ⟨d, ds, hd, he, sd, q⟩ := h
  have hu : X.A.units + 65 < cLine := by have := hr.un; omega
  obtain ⟨as, r1⟩ := Dp.reads I d x v hd rx
  rcases he with ⟨he, se⟩ | ⟨he, se⟩
  · obtain ⟨bs, r2⟩ := Dp.reads I (.list ds) y u he ry
    exact SeqAt.in_list_reads r2 r1 (SeqAt.canLay_of_shaped se) (SeqAt.canLay_of_shaped sd) (room_in_shaped sd hu) ⟨.bl _, H, I, rfl, q⟩
  · obtain ⟨bs, r2⟩ := Dp.reads I (.tuple ds) y u he ry
    exact SeqAt.in_tuple_reads r2 r1 (SeqAt.canLay_of_shaped se) (SeqAt.canLay_of_shaped sd) (room_in_shaped sd hu) ⟨.bl _, H, I, rfl, q⟩
theorem o_notInD {k : Nat} (hr : Room k X.A) : OpR X (compareOp .NotIn) (rInDA X.K true) := by
  intro pins s σ H x y v u Q I rx ry h
  obtain ⟨d, ds, hd, he, sd, q⟩ := h
  have hu : X.A.units + 65 < cLine := by have := hr.un; omega
  obtain ⟨as, r1⟩ := Dp.reads I d x v hd rx
  rcases he with ⟨he, se⟩ | ⟨he, se⟩
  · obtain ⟨bs, r2⟩ := Dp.reads I (.list ds) y u he ry
    exact SeqAt.notIn_list_reads r2 r1 (SeqAt.canLay_of_shaped se) (SeqAt.canLay_of_shaped sd) (room_in_shaped sd hu) ⟨.bl _, H, I, rfl, q⟩
  · obtain ⟨bs, r2⟩ := Dp.reads I (.tuple ds) y u he ry
    exact SeqAt.notIn_tuple_reads r2 r1 (SeqAt.canLay_of_shaped se) (SeqAt.canLay_of_shaped sd) (room_in_shaped sd hu) ⟨.bl _, H, I, rfl, q⟩
theorem p_inD_gen (neg : Bool) : Op2 K (rInDA K neg) (fun x y h => (inWD x y h).map fun b => (.bl (if neg then !b else b), h)) := by
  intro f h H x y v u Q E s rx ry p
  dsimp only at p
  cases e : inWD x y h with
  | none => rw [e] at p; exact p.elim
  | some b =>
    rw [e] at p
    have q : Q (.bl (if neg then !b else b)) H := post_ok s p (rep_bl.mpr rfl)
    clear p
    unfold inWD at e
    split at e
    · rename_i d ds ex ey
      split at e
      · rename_i c
        rw [← Option.some.inj e] at q
        exact ⟨d, ds, dp s ex rx, .inl ⟨dp s ey ry, c.2⟩, c.1, q⟩
      · cases e
    · rename_i d ds ex ey
      split at e
      · rename_i c
        rw [← Option.some.inj e] at q
        exact ⟨d, ds, dp s ex rx, .inr ⟨dp s ey ry, c.2⟩, c.1, q⟩
      · cases e
    · cases e
theorem p_inD : Op2 K (rInDA K false) wInD := p_inD_gen false
theorem p_notInD : Op2 K (rInDA K true) wNotInD := p_inD_gen true
end
theorem eqvs_any {n m : Nat} {x : W} (hx : plW n x = true) : ∀ {xs : List W}, plWs m xs = true → (dTs xs).any (fun z => PyData.eqv z (dT x)) = decide (x ∈ xs)
  | [], _ => by simp [dTs]
  | a :: l, h => by
    simp only [plWs, Bool.and_eq_true] at h
    simp only [dTs, List.any_cons, eqvs_any hx h.2]
    have := eqv_pl m a x n h.1 hx
    by_cases q : a = x
    · rw [this.mpr q]
      simp [q]
    · have e : PyData.eqv (dT a) (dT x) = false := by
        cases e : PyData.eqv (dT a) (dT x) with
        | false => rfl
        | true => exact absurd (this.mp e) q
      rw [e, Bool.false_or]
      exact decide_eq_decide.mpr ⟨fun z => List.mem_cons_of_mem _ z, fun z => (List.mem_cons.mp z).resolve_left fun z => q z.symm⟩
theorem inWD_pl {x y : W} {xs : List W} {h : PH} {n m : Nat} (hy : y = .fix xs ∨ y = .tup xs) (hx : plW n x = true) (hxs : plWs m xs = true) (hn : n ≤ 64) (hm : m < 64) : inWD x y h = some (decide (x ∈ xs)) := by
  obtain ⟨a, b, c⟩ := dat_pl (datL 4 h) n x hx
  have a : dat h x = some (dT x) := a
  rcases hy with rfl | rfl
  · have hy2 : plW (m + 1) (.fix xs) = true := by simpa only [plW] using hxs
    obtain ⟨a2, b2, c2⟩ := dat_pl (datL 4 h) (m + 1) (.fix xs) hy2
    have a2 : dat h (.fix xs) = some (.list (dTs xs)) := a2
    unfold inWD
    rw [a, a2]
    dsimp only
    rw [if_pos ⟨shaped_pl b c hn, shaped_pl (d := .list (dTs xs)) b2 c2 (by omega)⟩, eqvs_any hx hxs]
  · have hy2 : plW (m + 1) (.tup xs) = true := by simpa only [plW] using hxs
    obtain ⟨a2, b2, c2⟩ := dat_pl (datL 4 h) (m + 1) (.tup xs) hy2
    have a2 : dat h (.tup xs) = some (.tuple (dTs xs)) := a2
    unfold inWD
    rw [a, a2]
    dsimp only
    rw [if_pos ⟨shaped_pl b c hn, shaped_pl (d := .tuple (dTs xs)) b2 c2 (by omega)⟩, eqvs_any hx hxs]
end Mir

/-! Mir: a dict locked while a loop walks it; count, extend; d.get, d.pop. -/
namespace Mir
open PySem PySem.Spec PyProof.Rows L2
/-- a statement that runs while the dict that `look` names is locked -/
def lkS (look : LS → PH → Option Nat) (M : SM) : SM := fun ps h => match look ps h with
  | some n => match h[n]? with
    | some (.dK kvs) => match M ps (h.set n (.lk kvs)) with
      | .nx ps1 h1 => match h1[n]? with
        | some (.lk kvs') => .nx ps1 (h1.set n (.dK kvs'))
        | _ => .stuck
      | .rt w h1 => match h1[n]? with
        | some (.lk kvs') => .rt w (h1.set n (.dK kvs'))
        | _ => .stuck
      | _ => .stuck
    | _ => .stuck
  | none => .stuck
theorem ss_lock {X : Cx} {W0 : WX} {st : Stmt} {M : SM} (look : LS → PH → Option Nat) (ha : SS X W0 st M) : SS X W0 st (lkS look M) := ps_imp (ps_lock ha) fun D σ H h => by
  obtain ⟨f, h, ps, s, sr, p⟩ := h
  unfold lkS at p
  split at p
  · rename_i n _
    split at p
    · rename_i kvs en
      obtain ⟨d, hf, us, e1, r1⟩ := s.obj n _ en
      refine ⟨d, .dK us, e1, trivial, fun od => ⟨f, h.set n (.lk kvs), ps, s.lockD hf e1 r1, sr.mono (.refl f) (stay_lockD e1), ?_⟩⟩
      split at p
      · rename_i ps1 h1 el
        split at p
        · rename_i kvs' en'
          rw [el]
          intro f1 H1 σ1 s1 q1
          obtain ⟨k1, k2⟩ := s1.freeD hf e1 en'
          exact ⟨k1, p f1 _ σ1 k2 (q1.mono (.refl f1) (stay_freeD k1))⟩
        · exact p.elim
      · rename_i w h1 el
        split at p
        · rename_i kvs' en'
          rw [el]
          intro f1 H1 v s1 q1
          obtain ⟨k1, k2⟩ := s1.freeD hf e1 en'
          exact ⟨k1, p f1 _ v k2 (Rep.mono (.refl f1) (stay_freeD k1) _ _ q1)⟩
        · exact p.elim
      · exact p.elim
    · exact p.elim
  · exact p.elim
theorem to_lkS {look : LS → PH → Option Nat} {M : SM} {ps : LS} {h : PH} {n : Nat} {kvs : List (Key × W)} {N B C : LS → PH → Prop} {R : W → PH → Prop} (e : look ps h = some n) (en : h[n]? = some (.dK kvs))
    (q : (M ps (h.set n (.lk kvs))).To (fun ps1 g => ∃ kvs', g[n]? = some (.lk kvs') ∧ N ps1 (g.set n (.dK kvs'))) (fun w g => ∃ kvs', g[n]? = some (.lk kvs') ∧ R w (g.set n (.dK kvs'))) (fun _ _ => False) fun _ _ => False) : (lkS look M ps h).To N R B C := by
  unfold lkS
  rw [e]
  dsimp only
  rw [en]
  dsimp only
  cases eM : M ps (h.set n (.lk kvs)) with
  | nx ps1 h1 =>
    rw [eM, to_nx] at q
    obtain ⟨kvs', e2, e3⟩ := q
    simp only [e2, to_nx]
    exact e3
  | rt w h1 =>
    rw [eM, to_rt] at q
    obtain ⟨kvs', e2, e3⟩ := q
    simp only [e2, to_rt]
    exact e3
  | bk _ _ => rw [eM, to_bk] at q; exact q.elim
  | ct _ _ => rw [eM, to_ct] at q; exact q.elim
  | exc _ _ _ => rw [eM, to_sexc] at q; exact q.elim
  | stuck => rw [eM, to_sstuck] at q; exact q.elim
/-! ### a locked dict read -/
theorem in_lk {n : Nat} {h : PH} {kvs : List (Key × W)} {x : W} {k : Key} (e : h[n]? = some (.lk kvs)) (hk : keyW x = some k) : wIn x (.ref n) h = some (.bl (getK kvs k).isSome, h) := by
  simp only [wIn, inW, e, hk, Option.map_some]
theorem notIn_lk {n : Nat} {h : PH} {kvs : List (Key × W)} {x : W} {k : Key} (e : h[n]? = some (.lk kvs)) (hk : keyW x = some k) : wNotIn x (.ref n) h = some (.bl (!(getK kvs k).isSome), h) := by
  simp only [wNotIn, inW, e, hk, Option.map_some]
theorem ix_lk {n : Nat} {h : PH} {kvs : List (Key × W)} {x w : W} {k : Key} (e : h[n]? = some (.lk kvs)) (hk : keyW x = some k) (hw : getK kvs k = some w) : wIx (.ref n) x h = some (w, h) := by
  simp only [wIx, e, hk, Option.bind_some, hw, Option.map_some]
/-! ### xs.count(y), flat items -/
section
variable {X : Cx}
def rCountF (K : PySem.W.Frag) : V → List V → Hp → VK → Prop := fun x xs H Q => ∃ (a : Addr) (ys : List V) (y : V), x = V.ref a ∧ xs = [y] ∧ SqL K H a ys ∧ flatV y = true ∧ ys.all flatV = true ∧ Q (.int (ys.countP (fun z => eqV z y) : Nat)) H
theorem count_flat {y : V} : ∀ {ys : List V} {its : List Value}, Vals ys its → ys.all flatV = true → its.countP (eqU y) = ys.countP fun z => eqV z y
  | [], _, .nil, _ => rfl
  | z :: r, u :: us, .cons ru rr, h => by
    simp only [List.all_cons, Bool.and_eq_true] at h
    rw [List.countP_cons, List.countP_cons, count_flat rr h.2, eqU_of ru h.1]
theorem mt_countF : MtR X "list.count" (rCountF X.K) := by
  intro pins s σ H x xs v us Q I rx rxs h
  obtain ⟨a, ys, y, rfl, rfl, hs, fy, fys, q⟩ := h
  cases rx
  cases rxs with
  | cons ry rt =>
    rename_i uy ut
    cases rt
    obtain ⟨its, rv, ⟨⟨cls, dd, data, sl⟩, n, ho, hc, hdn, hd⟩, hlen⟩ := I.list hs
    simp only at hc hd
    subst hc hd
    refine call_meets PySem.F.slot_list_count ⟨_, ho, rfl⟩ PySem.F.entry_list_count (PySem.F.args_list_count_2 _ _)
      (SeqAt.list_countAt a its.toArray n dd sl uy (eqU y)) ⟨ho, fun u' hu' => mem_eqAt ry fy rv fys u' (by simpa using hu'), ?_⟩
    have ec : its.toArray.toList.countP (eqU y) = ys.countP fun z => eqV z y := count_flat rv fys
    refine ⟨.int (ys.countP (fun z => eqV z y) : Nat), H, I.tok _, ⟨s.toks, ?_⟩, q⟩
    show Value.int ((its.toArray.toList.countP (eqU y) : Nat) : Int) s.toks = Value.int ((ys.countP (fun z => eqV z y) : Nat) : Int) s.toks
    rw [ec]
end
def wCount (x : W) (xs : List W) (h : PH) : Option (W × PH) := match xs with
  | [y] => match lstOf x h with
    | some ws => if flatW y = true ∧ ws.all flatW = true then some (.int (ws.countP (fun z => eqF z y) : Nat), h) else none
    | none => none
  | _ => none
section
variable {K : PySem.W.Frag}
theorem count_of {f : List Addr} {H : Hp} {y : W} {u : V} (ru : Rep K f H y u) (hy : flatW y = true) : ∀ {ws : List W} {vs : List V}, Reps K f H ws vs → ws.all flatW = true → vs.countP (fun z => eqV z u) = ws.countP fun z => eqF z y
  | [], vs, r, _ => by rw [r.nil_inv]; rfl
  | w :: ws, vs, r, h => by
    obtain ⟨v, t, rfl, r1, r2⟩ := r.cons_inv
    simp only [List.all_cons, Bool.and_eq_true] at h
    rw [List.countP_cons, List.countP_cons, count_of ru hy r2 h.2, eqF_of r1 ru h.1 hy]
theorem op_count : OpMt K (rCountF K) wCount := by
  intro f h H x v xs vs Q E s rx rxs p
  unfold wCount at p
  split at p
  · rename_i y
    obtain ⟨u, rfl, ru⟩ := rxs.one_inv
    split at p
    · rename_i ws e
      split at p
      · rename_i c
        obtain ⟨a, ys, rfl, hs, rr⟩ := lstOf_rep s rx e
        refine ⟨a, ys, u, rfl, rfl, hs, flat_of ru c.1, flats_of rr c.2, ?_⟩
        rw [count_of ru c.1 rr c.2]
        exact .inl (post_ok s p (rep_int.mpr rfl))
      · exact p.elim
    · exact p.elim
  · exact p.elim
end
section
variable {X : Cx} {W0 : WX} {o : Expr} {m : EM} {apos cpos : Pos}
theorem se_count {e1 : Expr} {m1 : EM} (ho : SE X W0 o m) (ha : SE X W0 e1 m1) (hbase : attributeBase o "count" X.env (eval o X.env) = eval o X.env := by rfl)
    (hfew : ((backTo cpos (starEach [e1] X.env)).all (fun x => !x.1) && (backToKw cpos (keywordEach [] X.env)).all (fun x => x.1.isSome)
      && decide (([e1] : List Expr).length + ([] : List Keyword).length + (if ([] : List Keyword).isEmpty then 0 else 1) < 30)) = true := by rfl)
    (hline : (apos.endLine == cpos.line) = true := by rfl) (hs : starEach [e1] X.env = [(false, eval e1 X.env)] := by rfl) : SE X W0 (.Call (.Attribute o "count" apos) [e1] [] cpos) (mMt "list" wCount m (mCons m1 mNil)) :=
  se_mt PySem.F.plainAttrs_list PySem.F.slot_list_count PySem.F.type_list_count mt_countF op_count ho (sa_cons ha sa_nil hs) hbase hfew hline hs
end
/-! ### d.get(k), d.get(k, x), d.pop(k) -/
def dGet1 (x y : W) (h : PH) : Option (W × PH) := match x with
  | .ref n => match h[n]? with
    | some (.dK kvs) => (keyW y).map fun k => ((getK kvs k).getD .non, h)
    | some (.lk kvs) => (keyW y).map fun k => ((getK kvs k).getD .non, h)
    | _ => none
  | _ => none
def isDW (x : W) (h : PH) : Bool := match x with
  | .ref n => match h[n]? with
    | some (.dK _) => true
    | some (.lk _) => true
    | _ => false
  | _ => false
def dropKW (kvs : List (Key × W)) (k : Key) : List (Key × W) := kvs.filter fun kv => decide (kv.1 ≠ k)
def dPop1 (x y : W) (h : PH) : Option (W × PH) := match x with
  | .ref n => match h[n]? with
    | some (.dK kvs) => (keyW y).bind fun k => (getK kvs k).map fun w => (w, h.set n (.dK (dropKW kvs k)))
    | _ => none
  | _ => none
def mGet1 (m m1 : EM) : EM := fun ps h => (m ps h).bind fun x h1 => if isDW x h1 = true then (m1 ps h1).bind fun y h2 => .ofO (dGet1 x y h2) else .stuck
def dGet2 (x y z : W) (h : PH) : Option (W × PH) := match x with
  | .ref n => match h[n]? with
    | some (.dK kvs) => (keyW y).map fun k => ((getK kvs k).getD z, h)
    | some (.lk kvs) => (keyW y).map fun k => ((getK kvs k).getD z, h)
    | _ => none
  | _ => none
def mGet2 (m m1 m2 : EM) : EM := fun ps h => (m ps h).bind fun x h1 => if isDW x h1 = true then (m1 ps h1).bind fun y h2 => (m2 ps h2).bind fun z h3 => .ofO (dGet2 x y z h3) else .stuck
def mPop1 (m m1 : EM) : EM := fun ps h => (m ps h).bind fun x h1 => if isDW x h1 = true then (m1 ps h1).bind fun y h2 => .ofO (dPop1 x y h2) else .stuck
section
variable {K : PySem.W.Frag} {f : List Addr} {h : PH} {H : Hp}
theorem isD_of {x : W} {v : V} (s : Sim K f h H) (r : Rep K f H x v) (e : isDW x h = true) : ∃ a, v = .ref a ∧ IsD H a := by
  cases x with
  | ref n =>
    simp only [isDW] at e
    split at e
    · rename_i kvs hn
      obtain ⟨a, rfl, _, vs, h1, h2⟩ := s.at hn r
      exact ⟨a, rfl, .inl ⟨vs, .inl h1⟩⟩
    · rename_i kvs hn
      obtain ⟨a, rfl, _, o, vs, h1, h2⟩ := s.at hn r
      exact ⟨a, rfl, .inl ⟨vs, .inr ⟨o, h1⟩⟩⟩
    · cases e
  | _ => cases e
theorem krep_getO {κ : Type} [DecidableEq κ] {ws : List (κ × W)} {vs : List (κ × V)} (k : κ) (r : KRep K f H ws vs) {z : W} {zv : V} (rz : Rep K f H z zv) : Rep K f H ((getK ws k).getD z) ((valV vs k).getD zv) := by
  have g := KRep.get k r
  cases e : getK ws k with
  | none => rw [e] at g; rw [g]; exact rz
  | some w =>
    rw [e] at g
    obtain ⟨u, g1, g2⟩ := g
    rw [g1]
    exact g2
theorem KRep.drop {ws : List (Key × W)} {vs : List (Key × V)} (k : Key) (r : KRep K f H ws vs) : KRep K f H (dropKW ws k) (dropK vs k) := by
  induction ws generalizing vs with
  | nil =>
    have r : vs = [] := r
    subst r
    rfl
  | cons p ws ih =>
    obtain ⟨q, w⟩ := p
    obtain ⟨v, t, rfl, h2, h3⟩ := r
    unfold dropKW dropK
    rw [List.filter_cons, List.filter_cons]
    by_cases c : q = k
    · simp only [c, ne_eq, not_true_eq_false, decide_false, Bool.false_eq_true, if_false]
      exact ih h3
    · simp only [c, ne_eq, not_false_eq_true, decide_true, if_true]
      exact ⟨v, _, rfl, h2, ih h3⟩
end
section
variable {X : Cx} {W0 : WX} {o e e2 : Expr} {m m1 m2 : EM} {apos cpos : Pos}
theorem se_get1 {k : Nat} (hr : Room k X.A) (ho : SE X W0 o m) (ha : SE X W0 e m1) (M : M1 X o "get" apos e cpos := by exact ⟨rfl, rfl, rfl, rfl⟩) : SE X W0 (.Call (.Attribute o "get" apos) [e] [] cpos) (mGet1 m m1) :=
  pe_imp (pe_dget1 (by have := hr.un; omega) ho ha M) fun σ H Q h => by
    obtain ⟨f, h, ps, s, sr, p⟩ := h
    refine ⟨f, h, ps, s, sr, (Post.bind (R1 := RW X.K) s back_W p).mono (fun v H1 hh => ?_) fun _ _ _ e => e⟩
    obtain ⟨f1, h1, x, s1, q1, p1⟩ := hh
    split at p1
    · rename_i ht
      obtain ⟨a, rfl, hd⟩ := isD_of s1.sim q1 ht
      refine ⟨a, rfl, hd, f1, h1, ps, s1.sim, s1.srep s sr, (Post.bind (R1 := RW X.K) s1.sim back_W p1).mono (fun v2 H2 hh => ?_) fun _ _ _ e => e⟩
      obtain ⟨f2, h2, y, s2, q2, p2⟩ := hh
      have rx := s2.rep s1.sim q1
      unfold dGet1 at p2
      split at p2
      · rename_i n
        split at p2
        · rename_i kvs hn
          obtain ⟨b, eb, _, vs, g1, g2⟩ := s2.sim.at hn rx
          cases eb
          cases e : keyW y with
          | none => rw [e] at p2; exact p2.elim
          | some k =>
            rw [e] at p2
            have hv := key_rep e q2
            subst hv
            exact ⟨_, DGet.k g1, post_ok s2.sim p2 (krep_getO k g2 (rep_non.mpr rfl))⟩
        · rename_i kvs hn
          obtain ⟨b, eb, _, oo, vs, g1, g2⟩ := s2.sim.at hn rx
          cases eb
          cases e : keyW y with
          | none => rw [e] at p2; exact p2.elim
          | some k =>
            rw [e] at p2
            have hv := key_rep e q2
            subst hv
            exact ⟨_, DGet.fz g1, post_ok s2.sim p2 (krep_getO k g2 (rep_non.mpr rfl))⟩
        · exact p2.elim
      · exact p2.elim
    · exact p1.elim
theorem se_get2 {k : Nat} (hr : Room k X.A) (ho : SE X W0 o m) (ha : SE X W0 e m1) (hb : SE X W0 e2 m2) (M : M2 X o "get" apos e e2 cpos := by exact ⟨rfl, rfl, rfl, rfl⟩) : SE X W0 (.Call (.Attribute o "get" apos) [e, e2] [] cpos) (mGet2 m m1 m2) :=
  pe_imp (pe_dget2 (by have := hr.un; omega) ho ha hb M) fun σ H Q h => by
    obtain ⟨f, h, ps, s, sr, p⟩ := h
    refine ⟨f, h, ps, s, sr, (Post.bind (R1 := RW X.K) s back_W p).mono (fun v H1 hh => ?_) fun _ _ _ e => e⟩
    obtain ⟨f1, h1, x, s1, q1, p1⟩ := hh
    split at p1
    · rename_i ht
      obtain ⟨a, rfl, hd⟩ := isD_of s1.sim q1 ht
      refine ⟨a, rfl, hd, f1, h1, ps, s1.sim, s1.srep s sr, (Post.bind (R1 := RW X.K) s1.sim back_W p1).mono (fun v2 H2 hh => ?_) fun _ _ _ e => e⟩
      obtain ⟨f2, h2, y, s2, q2, p2⟩ := hh
      have sr2 := s2.srep s1.sim (s1.srep s sr)
      refine ⟨f2, h2, ps, s2.sim, sr2, (Post.bind (R1 := RW X.K) s2.sim back_W p2).mono (fun v3 H3 hh => ?_) fun _ _ _ e => e⟩
      obtain ⟨f3, h3, z, s3, q3, p3⟩ := hh
      have rx := s3.rep s2.sim (s2.rep s1.sim q1)
      have ry := s3.rep s2.sim q2
      unfold dGet2 at p3
      split at p3
      · rename_i n
        split at p3
        · rename_i kvs hn
          obtain ⟨b, eb, _, vs, g1, g2⟩ := s3.sim.at hn rx
          cases eb
          cases e : keyW y with
          | none => rw [e] at p3; exact p3.elim
          | some k =>
            rw [e] at p3
            have hv := key_rep e ry
            subst hv
            exact ⟨_, DGet.k g1, post_ok s3.sim p3 (krep_getO k g2 q3)⟩
        · rename_i kvs hn
          obtain ⟨b, eb, _, oo, vs, g1, g2⟩ := s3.sim.at hn rx
          cases eb
          cases e : keyW y with
          | none => rw [e] at p3; exact p3.elim
          | some k =>
            rw [e] at p3
            have hv := key_rep e ry
            subst hv
            exact ⟨_, DGet.fz g1, post_ok s3.sim p3 (krep_getO k g2 q3)⟩
        · exact p3.elim
      · exact p3.elim
    · exact p1.elim
theorem se_pop1 (ho : SE X W0 o m) (ha : SE X W0 e m1) (M : M1 X o "pop" apos e cpos := by exact ⟨rfl, rfl, rfl, rfl⟩) : SE X W0 (.Call (.Attribute o "pop" apos) [e] [] cpos) (mPop1 m m1) :=
  pe_imp (pe_dpop1 ho ha M) fun σ H Q h => by
    obtain ⟨f, h, ps, s, sr, p⟩ := h
    refine ⟨f, h, ps, s, sr, (Post.bind (R1 := RW X.K) s back_W p).mono (fun v H1 hh => ?_) fun _ _ _ e => e⟩
    obtain ⟨f1, h1, x, s1, q1, p1⟩ := hh
    split at p1
    · rename_i ht
      obtain ⟨a, rfl, hd⟩ := isD_of s1.sim q1 ht
      refine ⟨a, rfl, hd, f1, h1, ps, s1.sim, s1.srep s sr, (Post.bind (R1 := RW X.K) s1.sim back_W p1).mono (fun v2 H2 hh => ?_) fun _ _ _ e => e⟩
      obtain ⟨f2, h2, y, s2, q2, p2⟩ := hh
      have rx := s2.rep s1.sim q1
      unfold dPop1 at p2
      split at p2
      · rename_i n
        split at p2
        · rename_i kvs hn
          obtain ⟨b, eb, hf, vs, g1, g2⟩ := s2.sim.at hn rx
          cases eb
          cases e : keyW y with
          | none => rw [e] at p2; exact p2.elim
          | some k =>
            rw [e, Option.bind_some] at p2
            have hv := key_rep e q2
            subst hv
            have g := KRep.get k g2
            cases e3 : getK kvs k with
            | none => rw [e3] at p2; exact p2.elim
            | some w =>
              rw [e3] at g p2
              obtain ⟨u, g3, g4⟩ := g
              refine ⟨vs, k, u, g1, rfl, g3, ?_⟩
              have st := s2.sim.put_dK hf (KRep.drop k g2) (fun o us z => by rw [g1] at z; cases z)
              exact p2 f2 _ u st (st.rep s2.sim g4)
        · exact p2.elim
      · exact p2.elim
    · exact p1.elim
end
end Mir

/-! Mir: zip of a list and a tuple; xs.extend of a fresh list. -/
namespace Mir
open PySem PySem.Spec PyProof.Rows L2
open PySem.Sem (wp)
section
variable {prog : Program} {w : World} {A : Around} {E : Value → Shared → Prop} {s : Shared}
theorem zipM_next_item {z TI TO i1 i2 l1 l2 : Addr} {k1 k2 : Nat} {xs ys : Array Value} {x y a b : Value} {Q : Value → Shared → Prop} (D : ZipApart z TI TO i1 i2 l1 l2)
    (hz : IsZip s.heap z TI TO .none) (hTI : IsPair s.heap TI (.ref i1) (.ref i2)) (hTO : IsPair s.heap TO a b)
    (h1 : s.heap.IsListIter i1 l1 k1) (h2 : s.heap.IsTupleIter i2 l2 k2) (hl1 : s.heap.IsList l1 xs) (hl2 : s.heap.IsTuple l2 ys) (hx : xs[k1]? = some x) (hy : ys[k2]? = some y)
    (hQ : ∀ h', IsZip h' z TI TO (rawInt s.heap.objs.size) → IsPair h' TO x y → h'.IsListIter i1 l1 (k1 + 1) → h'.IsTupleIter i2 l2 (k2 + 1) → IsPair h' s.heap.objs.size x y → h'.objs.size = s.heap.objs.size + 1 →
      (∀ c o, c ≠ z → c ≠ TO → c ≠ i1 → c ≠ i2 → s.heap.get? c = some o → h'.get? c = some o) → Q (.ref s.heap.objs.size) { s with heap := h' }) :
    wpAny (model prog w) A (Builtin.«zip.__next__» ⟨[.ref z], []⟩) (fun fin s' => ∃ v, fin = .done (.ret v) ∧ Q v s') E s := by
  show wpAny _ _ (field (.ref z) 2 >>= _) _ _ _
  refine wpAny_bind (wpAny_field hz rfl (x := .bool false) rfl ?_)
  show wpAny _ _ (field (.ref z) 3 >>= _) _ _ _
  refine wpAny_bind (wpAny_field hz rfl (x := .ref TI) rfl ?_)
  refine wpAny_bind (wpAny_seqItems hTI rfl ?_)
  show wpAny _ _ (Builtin.SmallTypes.ownedTupleIsFree (.ref z) >>= _) _ _ _
  refine wpAny_bind ?_
  unfold Builtin.SmallTypes.ownedTupleIsFree
  refine wpAny_bind (wpAny_field hz rfl (x := .none) rfl (wpAny_pure ?_))
  simp only [if_true]
  refine wpAny_bind (wpAny_rule ?_)
  refine wpAny_bind (wpAny_field hz rfl (x := .ref TO) rfl ?_)
  refine wpAny_bind (wpAny_setField_rec hz (by simp) fun h₁ hz₁ hs₁ => ?_)
  replace hz₁ : IsZip h₁ z TI TO .ellipsis := hz₁
  refine wpAny_bind ?_
  simp only [List.zipIdx_cons, List.zipIdx_nil, List.forIn_cons, List.forIn_nil]

  refine wpAny_bind (wpAny_bind (wpAny_onRaise ?_))
  show wpAny _ _ (Builtin.SmallTypes.nextOf (.ref i1) >>= _) _ _ _
  refine wpAny_bind (wpAny_nextOf_list_item (h1.extBut hs₁.extBut D.i1z) (hl1.extBut hs₁.extBut D.l1z) hx fun h₂ h1₂ hs₂ => wpAny_pure ?_)
  have hTO₂ : IsPair h₂ TO a b := hs₂.extBut _ _ D.TOi1 (hs₁.extBut _ _ D.TOz hTO)
  refine wpAny_bind (wpAny_seqItems hTO₂ rfl ?_)
  refine wpAny_bind (wpAny_updateSeq_pair hTO₂ fun h₃ hTO₃ hs₃ => ?_)
  replace hTO₃ : IsPair h₃ TO x b := hTO₃
  refine wpAny_bind (wpAny_letGo (wpAny_pure ?_))

  refine wpAny_bind (wpAny_bind (wpAny_onRaise ?_))
  show wpAny _ _ (Builtin.SmallTypes.nextOf (.ref i2) >>= _) _ _ _
  refine wpAny_bind (RZ.nextOf_tuple_item (((h2.extBut hs₁.extBut D.i2z).extBut hs₂.extBut D.i12.symm).extBut hs₃.extBut D.TOi2.symm)
    (((hl2.extBut hs₁.extBut D.l2z).extBut hs₂.extBut D.l2i1).extBut hs₃.extBut D.l2TO) hy fun h₄ h2₄ hs₄ => wpAny_pure ?_)
  have hTO₄ : IsPair h₄ TO x b := hs₄.extBut _ _ D.TOi2 hTO₃
  refine wpAny_bind (wpAny_seqItems hTO₄ rfl ?_)
  refine wpAny_bind (wpAny_updateSeq_pair hTO₄ fun h₅ hTO₅ hs₅ => ?_)
  replace hTO₅ : IsPair h₅ TO x y := hTO₅
  refine wpAny_bind (wpAny_letGo (wpAny_pure (wpAny_pure ?_)))

  refine wpAny_bind (wpAny_seqItems hTO₅ rfl ?_)
  refine wpAny_bind (wpAny_newTuple ?_)
  have hsz : h₅.objs.size = s.heap.objs.size := by rw [hs₅.1, hs₄.1, hs₃.1, hs₂.1, hs₁.1]
  have hz₅ : IsZip h₅ z TI TO .ellipsis := hs₅.extBut _ _ D.TOz.symm (hs₄.extBut _ _ D.i2z.symm (hs₃.extBut _ _ D.TOz.symm (hs₂.extBut _ _ D.i1z.symm hz₁)))
  have hk₅ : ∀ c o, c ≠ z → c ≠ TO → c ≠ i1 → c ≠ i2 → s.heap.get? c = some o → h₅.get? c = some o := fun c o c1 c2 c3 c4 e =>
    hs₅.extBut _ _ c2 (hs₄.extBut _ _ c4 (hs₃.extBut _ _ c2 (hs₂.extBut _ _ c3 (hs₁.extBut _ _ c1 e))))
  have h1₅ : h₅.IsListIter i1 l1 (k1 + 1) := ((h1₂.extBut hs₃.extBut D.TOi1.symm).extBut hs₄.extBut D.i12).extBut hs₅.extBut D.TOi1.symm
  have h2₅ : h₅.IsTupleIter i2 l2 (k2 + 1) := h2₄.extBut hs₅.extBut D.TOi2.symm
  have hzlt : z < h₅.objs.size := Heap.lt_size hz₅
  have hTOlt : TO < h₅.objs.size := Heap.lt_size hTO₅
  have hi1lt : i1 < h₅.objs.size := by obtain ⟨_, e, _⟩ := h1₅; exact Heap.lt_size e
  have hi2lt : i2 < h₅.objs.size := by obtain ⟨_, e, _⟩ := h2₅; exact Heap.lt_size e
  show wpAny _ _ (Builtin.SmallTypes.ownedTupleHandOut (.ref z) (.ref h₅.objs.size) >>= _) _ _ _
  refine wpAny_bind ?_
  unfold Builtin.SmallTypes.ownedTupleHandOut
  have hz₆ : IsZip (h₅.push { cls := .type "tuple", data := .seq #[x, y] }) z TI TO .ellipsis := Heap.get?_push_of_some _ hz₅
  refine wpAny_bind (wpAny_setField_rec hz₆ (by simp) fun h₇ hz₇ hs₇ => ?_)
  replace hz₇ : IsZip h₇ z TI TO (rawInt h₅.objs.size) := hz₇
  refine wpAny_setField_rec hz₇ (by simp) fun h₈ hz₈ hs₈ => ?_
  replace hz₈ : IsZip h₈ z TI TO (rawInt h₅.objs.size) := hz₈
  have up : ∀ c o, c ≠ z → h₅.get? c = some o → h₈.get? c = some o := fun c o c1 e => hs₈.extBut _ _ c1 (hs₇.extBut _ _ c1 (Heap.get?_push_of_some _ e))
  have hT₈ : IsPair h₈ h₅.objs.size x y := hs₈.extBut _ _ (Nat.ne_of_gt hzlt) (hs₇.extBut _ _ (Nat.ne_of_gt hzlt) (Heap.get?_push_size _ rfl))
  have hz8 : h₈.objs.size = h₅.objs.size + 1 := by rw [hs₈.1, hs₇.1, Heap.size_push]
  rw [hsz] at hz₈ hT₈ hz8
  refine wpAny_pure ⟨_, rfl, ?_⟩
  show Q (.ref h₅.objs.size) _
  rw [hsz]
  exact hQ h₈ hz₈ (up _ _ D.TOz hTO₅) (h1₅.at fun o e => up _ o D.i1z e) (h2₅.at fun o e => up _ o D.i2z e) hT₈ hz8 fun c o c1 c2 c3 c4 e => up c o c1 (hk₅ c o c1 c2 c3 c4 e)

theorem zipM_next_end {z TI TO i1 i2 l1 l2 : Addr} {k1 k2 : Nat} {xs ys : Array Value} {a b : Value} {Q : Fin → Shared → Prop} (hh : A.handled = none) (D : ZipApart z TI TO i1 i2 l1 l2)
    (hz : IsZip s.heap z TI TO .none) (hTI : IsPair s.heap TI (.ref i1) (.ref i2)) (hTO : IsPair s.heap TO a b)
    (h1 : s.heap.IsListIter i1 l1 k1) (h2 : s.heap.IsTupleIter i2 l2 k2) (hl1 : s.heap.IsList l1 xs) (hl2 : s.heap.IsTuple l2 ys) (hend : xs[k1]? = none ∨ ys[k2]? = none)
    (hE : ∀ h' e, (∀ c o, c ≠ z → c ≠ TO → c ≠ i1 → c ≠ i2 → s.heap.get? c = some o → h'.get? c = some o) → (∃ o, h'.get? e = some o ∧ o.cls = .type "StopIteration") → E (.ref e) { s with heap := h' }) :
    wpAny (model prog w) A (Builtin.«zip.__next__» ⟨[.ref z], []⟩) Q E s := by
  show wpAny _ _ (field (.ref z) 2 >>= _) _ _ _
  refine wpAny_bind (wpAny_field hz rfl (x := .bool false) rfl ?_)
  show wpAny _ _ (field (.ref z) 3 >>= _) _ _ _
  refine wpAny_bind (wpAny_field hz rfl (x := .ref TI) rfl ?_)
  refine wpAny_bind (wpAny_seqItems hTI rfl ?_)
  show wpAny _ _ (Builtin.SmallTypes.ownedTupleIsFree (.ref z) >>= _) _ _ _
  refine wpAny_bind ?_
  unfold Builtin.SmallTypes.ownedTupleIsFree
  refine wpAny_bind (wpAny_field hz rfl (x := .none) rfl (wpAny_pure ?_))
  simp only [if_true]
  refine wpAny_bind (wpAny_rule ?_)
  refine wpAny_bind (wpAny_field hz rfl (x := .ref TO) rfl ?_)
  refine wpAny_bind (wpAny_setField_rec hz (by simp) fun h₁ hz₁ hs₁ => ?_)
  replace hz₁ : IsZip h₁ z TI TO .ellipsis := hz₁
  refine wpAny_bind ?_
  simp only [List.zipIdx_cons, List.zipIdx_nil, List.forIn_cons, List.forIn_nil]
  refine wpAny_bind (wpAny_bind (wpAny_onRaise ?_))
  show wpAny _ _ (Builtin.SmallTypes.nextOf (.ref i1) >>= _) _ _ _
  cases hx : xs[k1]? with
  | none =>
    refine wpAny_bind (wpAny_nextOf_list_end hh (h1.extBut hs₁.extBut D.i1z) (hl1.extBut hs₁.extBut D.l1z) hx fun h₂ e hs₂ he => ?_)
    obtain ⟨oe, hoe, hce⟩ := he
    have hz₂ : IsZip h₂ z TI TO .ellipsis := hs₂ _ _ D.i1z.symm hz₁
    have hez : e ≠ z := fun x => by subst x; rw [hz₂] at hoe; cases hoe; simp at hce
    refine wpAny_setField_rec hz₂ (by simp) fun h₃ _ hs₃ => hE h₃ e (fun c o c1 _ c3 _ x => hs₃.extBut _ _ c1 (hs₂ _ _ c3 (hs₁.extBut _ _ c1 x))) ⟨oe, hs₃.extBut _ _ hez hoe, hce⟩
  | some x =>
    have hy : ys[k2]? = none := by rcases hend with h | h; rw [hx] at h; cases h; exact h
    refine wpAny_bind (wpAny_nextOf_list_item (h1.extBut hs₁.extBut D.i1z) (hl1.extBut hs₁.extBut D.l1z) hx fun h₂ h1₂ hs₂ => wpAny_pure ?_)
    have hTO₂ : IsPair h₂ TO a b := hs₂.extBut _ _ D.TOi1 (hs₁.extBut _ _ D.TOz hTO)
    refine wpAny_bind (wpAny_seqItems hTO₂ rfl ?_)
    refine wpAny_bind (wpAny_updateSeq_pair hTO₂ fun h₃ hTO₃ hs₃ => ?_)
    refine wpAny_bind (wpAny_letGo (wpAny_pure ?_))
    refine wpAny_bind (wpAny_bind (wpAny_onRaise ?_))
    show wpAny _ _ (Builtin.SmallTypes.nextOf (.ref i2) >>= _) _ _ _
    refine wpAny_bind (RZ.nextOf_tuple_end hh (((h2.extBut hs₁.extBut D.i2z).extBut hs₂.extBut D.i12.symm).extBut hs₃.extBut D.TOi2.symm)
      (((hl2.extBut hs₁.extBut D.l2z).extBut hs₂.extBut D.l2i1).extBut hs₃.extBut D.l2TO) hy fun h₄ e hs₄ he => ?_)
    obtain ⟨oe, hoe, hce⟩ := he
    have hz₄ : IsZip h₄ z TI TO .ellipsis := hs₄ _ _ D.i2z.symm (hs₃.extBut _ _ D.TOz.symm (hs₂.extBut _ _ D.i1z.symm hz₁))
    have hez : e ≠ z := fun x => by subst x; rw [hz₄] at hoe; cases hoe; simp at hce
    refine wpAny_setField_rec hz₄ (by simp) fun h₅ _ hs₅ => hE h₅ e (fun c o c1 c2 c3 c4 x => hs₅.extBut _ _ c1 (hs₄ _ _ c4 (hs₃.extBut _ _ c2 (hs₂.extBut _ _ c3 (hs₁.extBut _ _ c1 x))))) ⟨oe, hs₅.extBut _ _ hez hoe, hce⟩

theorem pyNext_zipM_item {z TI TO i1 i2 l1 l2 : Addr} {k1 k2 : Nat} {xs ys : Array Value} {x y a b : Value} {Q : Option Value → Shared → Prop} (D : ZipApart z TI TO i1 i2 l1 l2)
    (hz : IsZip s.heap z TI TO .none) (hTI : IsPair s.heap TI (.ref i1) (.ref i2)) (hTO : IsPair s.heap TO a b)
    (h1 : s.heap.IsListIter i1 l1 k1) (h2 : s.heap.IsTupleIter i2 l2 k2) (hl1 : s.heap.IsList l1 xs) (hl2 : s.heap.IsTuple l2 ys) (hx : xs[k1]? = some x) (hy : ys[k2]? = some y)
    (hQ : ∀ h', IsZip h' z TI TO (rawInt s.heap.objs.size) → IsPair h' TO x y → h'.IsListIter i1 l1 (k1 + 1) → h'.IsTupleIter i2 l2 (k2 + 1) → IsPair h' s.heap.objs.size x y → h'.objs.size = s.heap.objs.size + 1 →
      (∀ c o, c ≠ z → c ≠ TO → c ≠ i1 → c ≠ i2 → s.heap.get? c = some o → h'.get? c = some o) → Q (some (.ref s.heap.objs.size)) { s with heap := h' }) :
    wpAny (model prog w) A (pyNext (.ref z)) Q E s := by
  have hT : s.TypeIs (.ref z) "zip" := ⟨_, hz, rfl⟩
  unfold pyNext
  exact wpAny_bind (wpAny_attempt (wpAny_callSpecial?_slot (name := Str.ofString "__next__") hT F.slot_zip_next
    (wpAny_call_entry F.slot_zip_next hT F.entry_zip_next
      (zipM_next_item D hz hTI hTO h1 h2 hl1 hl2 hx hy fun h' a1 a2 a3 a4 a5 a6 a7 => wpAny_pure (hQ h' a1 a2 a3 a4 a5 a6 a7)) (F.args_zip_next_1 _))))

theorem pyNext_zipM_end {z TI TO i1 i2 l1 l2 : Addr} {k1 k2 : Nat} {xs ys : Array Value} {a b : Value} {Q : Option Value → Shared → Prop} (hh : A.handled = none) (D : ZipApart z TI TO i1 i2 l1 l2)
    (hz : IsZip s.heap z TI TO .none) (hTI : IsPair s.heap TI (.ref i1) (.ref i2)) (hTO : IsPair s.heap TO a b)
    (h1 : s.heap.IsListIter i1 l1 k1) (h2 : s.heap.IsTupleIter i2 l2 k2) (hl1 : s.heap.IsList l1 xs) (hl2 : s.heap.IsTuple l2 ys) (hend : xs[k1]? = none ∨ ys[k2]? = none)
    (hQ : ∀ h', (∀ c o, c ≠ z → c ≠ TO → c ≠ i1 → c ≠ i2 → s.heap.get? c = some o → h'.get? c = some o) → Q none { s with heap := h' }) : wpAny (model prog w) A (pyNext (.ref z)) Q E s := by
  have hT : s.TypeIs (.ref z) "zip" := ⟨_, hz, rfl⟩
  unfold pyNext
  refine wpAny_bind (wpAny_attempt (wpAny_callSpecial?_slot (name := Str.ofString "__next__") hT F.slot_zip_next
    (wpAny_call_entry F.slot_zip_next hT F.entry_zip_next (zipM_next_end hh D hz hTI hTO h1 h2 hl1 hl2 hend fun h' e hk he => ?_) (F.args_zip_next_1 _))))
  obtain ⟨o, ho, hc⟩ := he
  refine wpAny_bind (wpAny_isInstance (T := "StopIteration") (b := true) ⟨o, ho, hc⟩ isSubtype_stop ?_)
  exact wpAny_pure (hQ _ hk)
end

abbrev zipMH1 (h : Heap) (l1 : Addr) : Heap := h.push { cls := .type "list_iterator", data := .fields #[.ref l1, .int 0 0] }
abbrev zipMH2 (h : Heap) (l1 l2 : Addr) : Heap := (zipMH1 h l1).push { cls := .type "tuple_iterator", data := .fields #[.ref l2, .int 0 0] }
abbrev zipMH3 (h : Heap) (l1 l2 : Addr) : Heap := (zipMH2 h l1 l2).push { cls := .type "tuple", data := .seq #[.ref h.objs.size, .ref (zipMH1 h l1).objs.size] }
abbrev zipMH4 (h : Heap) (l1 l2 : Addr) : Heap := (zipMH3 h l1 l2).push { cls := .type "tuple", data := .seq #[.none, .none] }
abbrev zipMH5 (h : Heap) (l1 l2 : Addr) : Heap := (zipMH4 h l1 l2).push { cls := .type "zip", data := .fields #[.none, .bool false, .bool false, .ref (zipMH2 h l1 l2).objs.size, .ref (zipMH3 h l1 l2).objs.size] }

theorem meets_zipM_new (l1 l2 : Addr) (xs ys : Array Value) :
    Meets (Builtin.«zip.__new__» ⟨[.type "zip", .ref l1, .ref l2], []⟩) (fun _ R s => s.heap.IsList l1 xs ∧ s.heap.IsTuple l2 ys ∧
      R (.ok (.ret (.ref (zipMH4 s.heap l1 l2).objs.size))) { s with heap := zipMH5 s.heap l1 l2 }) :=
  .of_wp fun prog w A R s h => by
    obtain ⟨hp, g, d, tk, os⟩ := s; obtain ⟨hl1, hl2, h⟩ := h
    have hsub := sub_zip
    have hL1 : Heap.IsList (Shared.heap ⟨hp, g, d, tk, os⟩) l1 xs := hl1
    have hL2 : Heap.IsTuple (Shared.heap ⟨hp.push { cls := .type "list_iterator", data := .fields #[.ref l1, .int 0 0] }, g, d, tk, os⟩) l2 ys := Heap.IsTuple.push hl2 _
    wp_walk using wpAny_pyIter_list hL1, wpAny_pyIter_tuple hL2
    exact ⟨_, rfl, h⟩

section
variable {prog : Program} {w : World} {A : Around} {E : Value → Shared → Prop} {s : Shared}

theorem call_zipM {l1 l2 : Addr} {xs ys : Array Value} {Q : Value → Shared → Prop} (hl1 : s.heap.IsList l1 xs) (hl2 : s.heap.IsTuple l2 ys)
    (h : ∀ h', IsZip h' (s.heap.objs.size + 4) (s.heap.objs.size + 2) (s.heap.objs.size + 3) .none → IsPair h' (s.heap.objs.size + 2) (.ref s.heap.objs.size) (.ref (s.heap.objs.size + 1)) →
      IsPair h' (s.heap.objs.size + 3) .none .none → h'.IsListIter s.heap.objs.size l1 0 → h'.IsTupleIter (s.heap.objs.size + 1) l2 0 → h'.objs.size = s.heap.objs.size + 5 →
      (∀ c o, s.heap.get? c = some o → h'.get? c = some o) → Q (.ref (s.heap.objs.size + 4)) { s with heap := h' }) :
    wpAny (model prog w) A (call (.type "zip") [.ref l1, .ref l2]) Q E s := by
  refine callType_new F.called_zip (by decide) (F.typeCall_zip_2 _ _) (F.newCall_zip_2 _ _) (fun obj => F.args_object_init_3 obj _ _) F.entry_zip_new
    (meets_zipM_new l1 l2 xs ys) ⟨hl1, hl2, ?_⟩
  have z1 : (zipMH1 s.heap l1).objs.size = s.heap.objs.size + 1 := Heap.size_push ..
  have z2 : (zipMH2 s.heap l1 l2).objs.size = s.heap.objs.size + 2 := by rw [Heap.size_push, z1]
  have z3 : (zipMH3 s.heap l1 l2).objs.size = s.heap.objs.size + 3 := by rw [Heap.size_push, z2]
  have z4 : (zipMH4 s.heap l1 l2).objs.size = s.heap.objs.size + 4 := by rw [Heap.size_push, z3]
  have z5 : (zipMH5 s.heap l1 l2).objs.size = s.heap.objs.size + 5 := by rw [Heap.size_push, z4]
  have g5 : (zipMH5 s.heap l1 l2).get? (zipMH4 s.heap l1 l2).objs.size = some _ := Heap.get?_push_size _ rfl
  have g4 : (zipMH5 s.heap l1 l2).get? (zipMH3 s.heap l1 l2).objs.size = some _ := Heap.get?_push_of_some _ (Heap.get?_push_size _ rfl)
  have g3 : (zipMH5 s.heap l1 l2).get? (zipMH2 s.heap l1 l2).objs.size = some _ := Heap.get?_push_of_some _ (Heap.get?_push_of_some _ (Heap.get?_push_size _ rfl))
  have g2 : (zipMH5 s.heap l1 l2).get? (zipMH1 s.heap l1).objs.size = some _ := Heap.get?_push_of_some _ (Heap.get?_push_of_some _ (Heap.get?_push_of_some _ (Heap.get?_push_size _ rfl)))
  have g1 : (zipMH5 s.heap l1 l2).get? s.heap.objs.size = some _ := Heap.get?_push_of_some _ (Heap.get?_push_of_some _ (Heap.get?_push_of_some _ (Heap.get?_push_of_some _ (Heap.get?_push_size _ rfl))))
  show _ ∧ _
  rw [z2, z3, z4] at g5
  rw [z1, z2] at g3
  rw [z3] at g4
  rw [z1] at g2
  rw [z4]
  exact ⟨⟨_, g5, rfl⟩, h _ g5 g3 g4 ⟨_, g1, rfl, rfl⟩ ⟨_, g2, rfl, rfl⟩ z5 fun c o x =>
    Heap.get?_push_of_some _ (Heap.get?_push_of_some _ (Heap.get?_push_of_some _ (Heap.get?_push_of_some _ (Heap.get?_push_of_some _ x))))⟩
end
def ItzM (K : PySem.W.Frag) (a b : Addr) : It :=
  ⟨fun i H => ∃ (xs ys : List V) (x y : V), SqL K H a xs ∧ SqT K H b ys ∧ xs[i]? = some x ∧ ys[i]? = some y,
    fun i H v H' => ∃ T x y, v = .ref T ∧ H T = none ∧ H' = upd H T (.tup [x, y]) ∧ (∀ xs, SqL K H a xs → xs[i]? = some x) ∧ ∀ ys, SqT K H b ys → ys[i]? = some y,
    fun i H => ∃ xs ys : List V, SqL K H a xs ∧ SqT K H b ys ∧ (xs.length ≤ i ∨ ys.length ≤ i)⟩
theorem turn_zipM {P : Program} {w : World} {K : PySem.W.Frag} {elts : List Expr} {kk : Nat} {tpos : Pos} {a b z TI TO i1 i2 : Addr} (D : ZipApart z TI TO i1 i2 a b) :
    Turn P w K (.Tuple elts kk tpos) (ItzM K a b) [z, TI, TO, i1, i2] z (fun i h => IsZip h z TI TO .none ∧ IsPair h TI (.ref i1) (.ref i2) ∧ (∃ x y, IsPair h TO x y) ∧ h.IsListIter i1 a i ∧ h.IsTupleIter i2 b i) where
  mem := by simp
  obj := fun i h st c hc => by
    obtain ⟨hz, hTI, ⟨x, y, hTO⟩, ⟨o1, e1, _, d1⟩, ⟨o2, e2, _, d2⟩⟩ := st
    have e' : c = z ∨ c = TI ∨ c = TO ∨ c = i1 ∨ c = i2 := by simpa using hc
    rcases e' with q | q | q | q | q
    · rw [q]; exact ⟨_, hz, fun v q => nomatch q⟩
    · rw [q]; exact ⟨_, hTI, fun v q => nomatch q⟩
    · rw [q]; exact ⟨_, hTO, fun v q => nomatch q⟩
    · rw [q]; exact ⟨o1, e1, fun v q => by rw [d1] at q; cases q⟩
    · rw [q]; exact ⟨o2, e2, fun v q => by rw [d2] at q; cases q⟩
  keep := fun i h h' st k => by
    obtain ⟨hz, hTI, ⟨x, y, hTO⟩, h1, h2⟩ := st
    exact ⟨k z (by simp) _ hz, k TI (by simp) _ hTI, ⟨x, y, k TO (by simp) _ hTO⟩, h1.at fun o q => k i1 (by simp) o q, h2.at fun o q => k i2 (by simp) o q⟩
  item := by
    intro X hP hw hK hc i pins s σ H E I hf st hg
    subst hP hw hK
    obtain ⟨hz, hTI, ⟨x0, y0, hTO⟩, h1, h2⟩ := st
    obtain ⟨xs, ys, x, y, hqx, hqy, hx, hy⟩ := hg
    obtain ⟨its, rv, p, _⟩ := I.list hqx
    obtain ⟨its2, rv2, p2, _⟩ := I.tuple hqy
    obtain ⟨u, hu, ru⟩ := rv.get hx
    obtain ⟨u2, hu2, ru2⟩ := rv2.get hy
    have hzl : z < s.heap.objs.size := Heap.lt_size hz
    refine pyNext_zipM_item D hz hTI hTO h1 h2 p.isList p2 (x := u) (y := u2) (by simpa using hu) (by simpa using hu2) fun h' z' TO' h1' h2' hT hsz hk => ?_
    refine ⟨_, rfl, wpAny_letOwnedTupleGo_zip (s := { s with heap := h' }) z' fun h'' z'' sb => ?_⟩
    have hT2 : h''.get? s.heap.objs.size = some { cls := .type "tuple", data := .seq #[u, u2] } := (sb.2 _ (Nat.ne_of_gt hzl)).trans hT
    have new : ObjOk X.prog X.w (upd H s.heap.objs.size (.tup [x, y])) h'' s.heap.objs.size (.tup [x, y]) :=
      ⟨by show 2 ≤ sizeLine; decide, [u, u2], .cons ru (.cons ru2 .nil), ⟨_, hT2, rfl, _, rfl⟩⟩
    have I1 : Inv X pins σ (upd H s.heap.objs.size (.tup [x, y])) { s with heap := h'' } :=
      I.turnedNew (t' := s.toks) (ch := [z, TI, TO, i1, i2]) (fun c o hb q => (sb.2 c (fun q' => hb (by simp [q']))).trans (hk c o (fun q' => hb (by simp [q'])) (fun q' => hb (by simp [q'])) (fun q' => hb (by simp [q'])) (fun q' => hb (by simp [q'])) q)) hf (Nat.le_refl _) new
    refine ⟨.ref s.heap.objs.size, _, I1, rfl, ⟨_, x, y, rfl, I.hok.fresh (Nat.le_refl _), rfl, fun l hl => by rw [I.list_inj hl hqx]; exact hx, fun l hl => by rw [I.tuple_inj hl hqy]; exact hy⟩, ⟨z'', ?_, ⟨u, u2, ?_⟩, ?_, ?_⟩, fun c hcm => ?_⟩
    · exact (sb.2 _ D.TIz).trans (hk _ _ D.TIz D.TITO D.TIi1 D.TIi2 hTI)
    · exact (sb.2 _ D.TOz).trans TO'
    · exact h1'.at fun o q => (sb.2 _ D.i1z).trans q
    · exact h2'.at fun o q => (sb.2 _ D.i2z).trans q
    · have hlt : c < s.heap.objs.size := by
        have e' : c = z ∨ c = TI ∨ c = TO ∨ c = i1 ∨ c = i2 := by simpa using hcm
        rcases e' with q | q | q | q | q
        · rw [q]; exact hzl
        · rw [q]; exact Heap.lt_size hTI
        · rw [q]; exact Heap.lt_size hTO
        · rw [q]; obtain ⟨_, e1, _⟩ := h1; exact Heap.lt_size e1
        · rw [q]; obtain ⟨_, e2, _⟩ := h2; exact Heap.lt_size e2
      rw [upd_ne (Nat.ne_of_lt hlt)]
      exact (hf c hcm).1
  done := by
    intro X hP hw hK hc i pins s σ H E I hf st hg
    subst hP hw hK
    obtain ⟨hz, hTI, ⟨x0, y0, hTO⟩, h1, h2⟩ := st
    obtain ⟨xs, ys, hqx, hqy, hend⟩ := hg
    obtain ⟨its, rv, p, _⟩ := I.list hqx
    obtain ⟨its2, rv2, p2, _⟩ := I.tuple hqy
    have l1 := rv.length
    have l2 := rv2.length
    have he : its.toArray[i]? = none ∨ its2.toArray[i]? = none := by
      rcases hend with q | q
      · exact .inl (by simp; omega)
      · exact .inr (by simp; omega)
    exact pyNext_zipM_end (I.ok.hd hc) D hz hTI hTO h1 h2 p.isList p2 he fun h' hk => ⟨rfl, I.turnedL (t' := s.toks) (ch := [z, TI, TO, i1, i2]) (fun c o hb q =>
      hk c o (fun q' => hb (by simp [q'])) (fun q' => hb (by simp [q'])) (fun q' => hb (by simp [q'])) (fun q' => hb (by simp [q'])) q) hf⟩
  self := fun A i s Q E st h => wpAny_pyIter_zip st.1 h

def iZipM (K : PySem.W.Frag) (ta : TA) : TI := fun σ H R => ta σ H fun vs H1 => ∃ a b xs ys, vs = [.ref a, .ref b] ∧ SqL K H1 a xs ∧ SqT K H1 b ys ∧ R (ItzM K a b) H1
theorem pi_zipM {X : Cx} {e e2 : Expr} {ta : TA} {p pos tpos : Pos} {elts : List Expr} {kk : Nat} (hg : Gl X "zip") (hm : X.mg "zip" = none) (ha : PA X [e, e2] ta)
    (hs : starEach [e, e2] X.env = (false, eval e X.env) :: starEach [e2] X.env := by rfl) (hpl : (backTo pos (starEach [e2] X.env)).any (·.1) = false := by rfl) :
    PI X (.Tuple elts kk tpos) (.Call (.Name "zip" p) [e, e2] [] pos) (iZipM X.K ta) := by
  refine ⟨fun pins s σ H R I h => ?_⟩
  refine Call_ (ld_blt I hg hm PyProof.Rows.boot_zip (PyProof.Rows.callWith_type1 (thn (ha.run pos pins s σ H _ I h) fun us s1 ⟨vs, H1, I1, r1, q1⟩ => ?_) hs hpl))
  obtain ⟨a, b, xs, ys, ex, hqx, hqy, q⟩ := q1
  subst ex
  cases r1 with
  | cons r rr =>
    cases rr with
    | cons r' rr =>
      cases rr
      cases r
      cases r'
      have fresh5 : ∀ c, c ∈ [s1.heap.objs.size + 4, s1.heap.objs.size + 2, s1.heap.objs.size + 3, s1.heap.objs.size, s1.heap.objs.size + 1] → FpOk X pins H1 c := fun c hcm => by
        have hle : s1.heap.objs.size ≤ c := by
          simp only [List.mem_cons, List.not_mem_nil, or_false] at hcm
          rcases hcm with z | z | z | z | z <;> (rw [z]; first | exact Nat.le_refl _ | exact Nat.le_add_right _ _)
        exact I1.fpOk hle (I1.hok.fresh hle)
      obtain ⟨its, rv, p1, _⟩ := I1.list hqx
      obtain ⟨its2, rv2, p2, _⟩ := I1.tuple hqy
      obtain ⟨o2, ho2, _⟩ := id p2
      refine call_zipM (show s1.heap.IsList a its.toArray from p1.isList) (show s1.heap.IsTuple b its2.toArray from p2) fun h' hz hTI hTO h1 h2 hsz hk => wpAny_pyIter_zip hz ?_
      have I2 : Inv X pins σ H1 { s1 with heap := h' } := I1.kept (t' := s1.toks) hk
      exact ⟨s1.heap.objs.size + 4, [s1.heap.objs.size + 4, s1.heap.objs.size + 2, s1.heap.objs.size + 3, s1.heap.objs.size, s1.heap.objs.size + 1], _, _, H1, rfl, I2, turn_zipM (PySem.W.ktu_apart s1.heap.objs.size a b p1.lt (Heap.lt_size ho2)), ⟨hz, hTI, ⟨_, _, hTO⟩, h1, h2⟩, fresh5, q⟩
def zipLT (fuel : Nat) (x y : W) (h : PH) : Option PIt := match y with
  | .tup ys => (lstIt fuel x h).map fun a => itZ a (itS ys)
  | _ => none
def mZipM (fuel : Nat) (m n : EM) : IM := fun ps h => (m ps h).bind fun x h1 => (n ps h1).bind fun y h2 => match zipLT fuel x y h2 with
  | some it => .ok it h2
  | none => .stuck
section
variable {K : PySem.W.Frag} {X : Cx} {W0 : WX} {e e2 : Expr} {m m2 : EM} {p pos tpos : Pos} {elts : List Expr} {kk : Nat}
theorem itZ_m {f : List Addr} {H H0 : Hp} {a b : Addr} {ia ib : PIt} (ha : RIt K H0 f H ia (Itl K a)) (hb : RIt K H0 f H ib (Itt K b)) : RIt K H0 f H (itZ ia ib) (ItzM K a b) := by
  intro f2 h2 H2 i s2
  have qa := ha f2 h2 H2 i s2
  have qb := hb f2 h2 H2 i s2
  unfold itZ
  dsimp only
  cases ea : ia.get i h2 with
  | none => trivial
  | some oa =>
    rw [ea] at qa
    cases eb : ib.get i h2 with
    | none => cases oa <;> trivial
    | some ob =>
      rw [eb] at qb
      cases oa with
      | none =>
        obtain ⟨xs, x1, x2⟩ := qa
        cases ob with
        | none =>
          obtain ⟨ys, y1, y2⟩ := qb
          exact ⟨xs, ys, x1, y1, .inl x2⟩
        | some y =>
          obtain ⟨⟨ys, v, y1, y2⟩, _⟩ := qb
          exact ⟨xs, ys, x1, y1, .inl x2⟩
      | some x =>
        obtain ⟨⟨xs, u, x1, x2⟩, x3⟩ := qa
        cases ob with
        | none =>
          obtain ⟨ys, y1, y2⟩ := qb
          exact ⟨xs, ys, x1, y1, .inr y2⟩
        | some y =>
          obtain ⟨⟨ys, v, y1, y2⟩, y3⟩ := qb
          refine ⟨⟨xs, ys, u, v, x1, y1, x2, y2⟩, fun z H' q => ?_⟩
          obtain ⟨T, u', v', rfl, hT, rfl, q1, q2⟩ := q
          have r1 := (x3 u' H2 ⟨rfl, q1⟩).2
          have r2 := (y3 v' H2 ⟨rfl, q2⟩).2
          have st := s2.sim.other (o := .tup [u', v']) hT
          exact ⟨st, rep_tup.mpr ⟨T, _, rfl, SqT.of upd_same, .cons (st.rep s2.sim r1) (.one (st.rep s2.sim r2))⟩⟩
theorem si_zipM (fuel : Nat) (hm : X.mg "zip" = none) (ha : SE X W0 e m) (hb : SE X W0 e2 m2) (hg : Gl X "zip" := by rfl) (hs : starEach [e, e2] X.env = (false, eval e X.env) :: starEach [e2] X.env := by rfl) (hs2 : starEach [e2] X.env = [(false, eval e2 X.env)] := by rfl) :
    SI X W0 (.Tuple elts kk tpos) (.Call (.Name "zip" p) [e, e2] [] pos) (mZipM fuel m m2) := pi_imp (pi_zipM hg hm (pa_cons ha (pa_cons hb pa_nil hs2) hs) hs (by rw [hs2]; rfl)) fun σ H R h => by
  obtain ⟨f, h, ps, s, sr, p⟩ := h
  refine ⟨f, h, ps, s, sr, (Post.bind (R1 := RW X.K) s back_It p).mono (fun v H1 hh => ?_) fun _ _ _ e => e⟩
  obtain ⟨f1, h1, x, s1, q1, p1⟩ := hh
  refine ⟨f1, h1, ps, s1.sim, s1.srep s sr, (Post.bind (R1 := RW X.K) s1.sim back_It p1).mono (fun u H2 hh => ?_) fun _ _ _ e => e⟩
  obtain ⟨f2, h2, y, s2, q2, p2⟩ := hh
  have q1 := s2.rep s1.sim q1
  cases y with
  | tup ys =>
    cases ez : lstIt fuel x h2 with
    | none => simp only [zipLT, ez, Option.map_none] at p2; exact p2.elim
    | some it =>
      simp only [zipLT, ez, Option.map_some] at p2
      obtain ⟨a, xs, rfl, a2, a3⟩ := lstIt_rep s2.sim q1 ez
      obtain ⟨b, us, rfl, b2, b3⟩ := rep_tup.mp q2
      exact ⟨a, b, xs, us, rfl, a2, b2, p2 f2 H2 _ (.refl s2.sim) (itZ_m a3 (it_tup s2.sim b2 b3))⟩
  | _ => exact p2.elim
end
@[simp] theorem to_zipM {n : Nat} {m m2 : EM} {ps : LS} {h : PH} {Qi : PIt → PH → Prop} : (mZipM n m m2 ps h).To Qi = (m ps h).To fun x g => (m2 ps g).To fun y g => OTo (zipLT n x y g) fun it => Qi it g := by
  simp only [mZipM, to_bind]
  congr 1
  funext x g
  congr 1
  funext y g
  cases zipLT n x y g <;> simp
/-! ### xs.extend(fresh) -/
def mExt (m : EM) (l : LM) : EM := fun ps h => (m ps h).bind fun x h1 => if tyW "list" x h1 = true then (l ps h1).bind fun zs h2 => match x with
  | .ref n => match h2[n]? with
    | some (.lst xs) => if xs.length + zs.length ≤ 16777216 then .ok .non (h2.set n (.lst (xs ++ zs))) else .stuck
    | _ => .stuck
  | _ => .stuck else .stuck
section
variable {X : Cx} {W0 : WX} {o e1 : Expr} {m : EM} {l : LM} {apos cpos : Pos}
theorem se_extend (ho : SE X W0 o m) (ha : SL X W0 e1 l) (hbase : attributeBase o "extend" X.env (eval o X.env) = eval o X.env := by rfl)
    (hfew : ((backTo cpos (starEach [e1] X.env)).all (fun x => !x.1) && (backToKw cpos (keywordEach [] X.env)).all (fun x => x.1.isSome)
      && decide (([e1] : List Expr).length + ([] : List Keyword).length + (if ([] : List Keyword).isEmpty then 0 else 1) < 30)) = true := by rfl)
    (hline : (apos.endLine == cpos.line) = true := by rfl) (hs : starEach [e1] X.env = (false, eval e1 X.env) :: starEach [] X.env := by rfl) (hplain : (backTo cpos (starEach [] X.env)).any (·.1) = false := by rfl) :
    SE X W0 (.Call (.Attribute o "extend" apos) [e1] [] cpos) (mExt m l) :=
  pe_imp (pe_bm PySem.F.plainAttrs_list PySem.F.slot_list_extend PySem.F.type_list_extend mt_extend ho (pa_cons ha pa_nil hs) hbase hfew hline hs hplain) fun σ H Q h => by
    obtain ⟨f, h, ps, s, sr, p⟩ := h
    refine ⟨f, h, ps, s, sr, (Post.bind (R1 := RW X.K) s back_W p).mono (fun v H1 hh => ?_) fun _ _ _ e => e⟩
    obtain ⟨f1, h1, x, s1, q1, p1⟩ := hh
    split at p1
    · rename_i ht
      refine ⟨tyW_of s1.sim q1 ht, f1, h1, ps, s1.sim, s1.srep s sr, (Post.bind (R1 := RL X.K) s1.sim back_W p1).mono (fun b H2 hh => ?_) fun _ _ _ e => e⟩
      obtain ⟨f2, h2, zs, s2, q2, p2⟩ := hh
      obtain ⟨q, us, rfl, hq, nq, eq, rq⟩ := q2
      have rx := s2.rep s1.sim q1
      split at p2
      · rename_i n
        split at p2
        · rename_i xs hn
          split at p2
          · rename_i hl
            obtain ⟨a, rfl, hf, vs, g1, g2⟩ := s2.sim.at hn rx
            refine ⟨a, q, vs, us, rfl, rfl, g1, eq, by rw [sizeLine_eq, ← g2.length, ← rq.length]; exact hl, ?_⟩
            have st := s2.sim.put_lst hf (g2.append rq) (fun o us z => by rw [g1] at z; cases z)
            exact p2 f2 _ .non st (rep_non.mpr rfl)
          · exact p2.elim
        · exact p2.elim
      · exact p2.elim
    · exact p1.elim
end
@[simp] theorem to_ext {m : EM} {l : LM} {ps : LS} {h : PH} {Q : W → PH → Prop} : (mExt m l ps h).To Q = (m ps h).To fun x g => tyW "list" x g = true ∧ (l ps g).To fun zs g => ∃ (n : Nat) (xs : List W), x = .ref n ∧ g[n]? = some (.lst xs) ∧ xs.length + zs.length ≤ 16777216 ∧ Q .non (g.set n (.lst (xs ++ zs))) := by
  simp only [mExt, to_bind, to_ite]
  congr 1
  funext x g
  congr 1
  congr 1
  funext zs g
  cases x with
  | ref n =>
    cases e : g[n]? with
    | none => simp [e]
    | some o => cases o <;> simp [e]
  | _ => simp
end Mir

/-! Mir: the index of a text in a text. -/
namespace Mir
open PySem PySem.Spec PyProof.Rows L2
section
variable {K : PySem.W.Frag} {X : Cx} {W0 : WX} {e o : Expr} {m m1 : EM} {apos cpos : Pos}
/-- x.index(y) where it is found -/
def wSIndex (x : W) (xs : List W) (h : PH) : Option (W × PH) := match x, xs with
  | .str a, [.str b] => match Builtin.Str.occurrences a b 0 a.length 1 with
    | i :: _ => some (.int (i : Nat), h)
    | [] => none
  | _, _ => none
theorem op_sindex : OpMt K (fun x xs H Q => ∃ a b i rest, x = .str a ∧ xs = [.str b] ∧ Builtin.Str.occurrences a b 0 a.length 1 = i :: rest ∧ Q (.int (i : Nat)) H) wSIndex := by
  intro f h H x v xs vs Q E s rx rxs p
  unfold wSIndex at p
  split at p
  · rename_i a b
    split at p
    · rename_i i rest eo
      obtain ⟨u, rfl, ru⟩ := rxs.one_inv
      exact ⟨a, b, i, rest, rep_str.mp rx, by rw [rep_str.mp ru], eo, .inl (post_ok s p (rep_int.mpr rfl))⟩
    · exact p.elim
  · exact p.elim
theorem se_sindex (ho : SE X W0 o m) (ha : SE X W0 e m1) (hbase : attributeBase o "index" X.env (eval o X.env) = eval o X.env := by rfl)
    (hfew : ((backTo cpos (starEach [e] X.env)).all (fun x => !x.1) && (backToKw cpos (keywordEach [] X.env)).all (fun x => x.1.isSome)
      && decide (([e] : List Expr).length + ([] : List Keyword).length + (if ([] : List Keyword).isEmpty then 0 else 1) < 30)) = true := by rfl)
    (hline : (apos.endLine == cpos.line) = true := by rfl) (hs : starEach [e] X.env = [(false, eval e X.env)] := by rfl) : SE X W0 (.Call (.Attribute o "index" apos) [e] [] cpos) (mMt "str" wSIndex m (mCons m1 mNil)) :=
  se_mt PySem.F.plainAttrs_str PySem.F.slot_str_index PySem.F.type_str_index mt_sindex op_sindex ho (sa_cons ha sa_nil hs) hbase hfew hline hs
end
end Mir

/-! Mir: replace of written texts, behind a written text. -/
namespace Mir
open PySem PySem.Spec PyProof.Rows L2
/-- a value behind which a token is out -/
def PEn (X : Cx) (e : Expr) (t : TE) : Prop := ∀ (pins : List (Addr × Obj)) (s : Shared) (σ : L2.St) (H : Hp) (Q : VK), Inv X pins σ H s → t σ H Q → wpAny (model X.prog X.w) X.A (eval e X.env) (fun v s1 => 1 ≤ s1.toks ∧ EP X pins σ Q v s1) X.xe s
section
variable {X : Cx} {W0 : WX} {a b e o : Expr} {m m1 m2 : EM} {ta tb : TE} {pos apos cpos p0 p1 p2 : Pos} {x y z : Str} {j k j0 : Nat} {c0 c1 : Pos}
theorem pen_imp {t t' : TE} (h : PEn X e t) (i : ∀ σ H Q, t' σ H Q → t σ H Q) : PEn X e t' := fun pins s σ H Q I q => h pins s σ H Q I (i σ H Q q)
theorem pen_str : PEn X (.Constant (.str x) j p0) (tC (.str x)) := fun pins s σ H Q I h => Calls.Constant_str ⟨by show 1 ≤ s.toks + 1; omega, .str x, H, I.tok _, ⟨_, rfl⟩, h⟩
theorem pen_op {op : Operator} {r : R2} (ho : OpR X (binaryOp op) r) (ha : PEn X a ta) (hb : PE X b tb) : PEn X (.BinOp a op b pos) (tOp r ta tb) := by
  intro pins s σ H Q I h
  refine wpAny_BinOp (wpAny_mono (ha pins s σ H _ I h) (fun v s1 q => ?_) fun _ _ z => z)
  obtain ⟨hk, x, H1, I1, r1, q1⟩ := q
  refine wpAny_mono (PySem.wpAny_toks (hb.run pins s1 σ H1 _ I1 q1)) (fun u s2 q => ?_) fun _ _ z => z.2
  obtain ⟨hk2, y, H2, I2, r2, q2⟩ := q
  exact wpAny_mono (PySem.wpAny_toks (ho pins s2 σ H2 x y v u Q I2 r1 r2 q2)) (fun _ _ q => ⟨Nat.le_trans (Nat.le_trans hk hk2) q.1, q.2⟩) fun _ _ z => z.2
theorem pe_opN {op : Operator} {r : R2} (ho : OpR X (binaryOp op) r) (ha : PEn X a ta) (hb : PET X b tb) : PE X (.BinOp a op b pos) (tOp r ta tb) := ⟨fun pins s σ H Q I h => by
  refine wpAny_BinOp (wpAny_mono (ha pins s σ H _ I h) (fun v s1 q => ?_) fun _ _ z => z)
  obtain ⟨hk, x, H1, I1, r1, q1⟩ := q
  exact thn (hb pins s1 σ H1 _ hk I1 q1) fun u s2 ⟨y, H2, I2, r2, q2⟩ => ho pins s2 σ H2 x y v u Q I2 r1 r2 q2⟩
theorem pet_imp {t t' : TE} (h : PET X e t) (i : ∀ σ H Q, t' σ H Q → t σ H Q) : PET X e t' := fun pins s σ H Q h0 I q => h pins s σ H Q h0 I (i σ H Q q)
def wRepl (y z : Str) (w : W) (h : PH) : Option (W × PH) := match w with
  | .str x => if x.length + (x.length + 1) * z.length ≤ 16777216 then some (.str (Txt.replace x y z), h) else none
  | _ => none
theorem op_repl {K : PySem.W.Frag} : Op1 K (fun v H Q => ∃ x, v = .str x ∧ x.length + (x.length + 1) * z.length ≤ 16777216 ∧ Q (.str (Txt.replace x y z)) H) (wRepl y z) := by
  intro f h H x v Q E s rx p
  unfold wRepl at p
  split at p
  · split at p
    · rename_i hb
      exact ⟨_, rep_str.mp rx, hb, post_ok s p (rep_str.mpr rfl)⟩
    · exact p.elim
  · exact p.elim
/-- 'x' * n + e.replace('y', 'z') -/
theorem se_mulRepl (hb : SE X W0 b m1) (ho : SE X W0 o m) (hyz : (y == z) = false := by decide +kernel)
    (hst : starEach [.Constant (.str y) j c0, .Constant (.str z) k c1] X.env = [(false, eval (.Constant (.str y) j c0) X.env), (false, eval (.Constant (.str z) k c1) X.env)] := by rfl)
    (hbase : attributeBase o "replace" X.env (eval o X.env) = eval o X.env := by rfl) (hline : (apos.endLine == cpos.line) = true := by rfl) :
    SE X W0 (.BinOp (.BinOp (.Constant (.str x) j0 p0) .Mult b p1) .Add (.Call (.Attribute o "replace" apos) [.Constant (.str y) j c0, .Constant (.str z) k c1] [] cpos) p2) (mOp wAdd (mOp wMul (mC (.str x)) m1) (mUn (wRepl y z) m)) := by
  have hl : PEn X (.BinOp (.Constant (.str x) j0 p0) .Mult b p1) (tE X.K W0 (mOp wMul (mC (.str x)) m1)) :=
    pen_imp (pen_op (op_mul.or (op_repT.or op_mulS)) (pen_imp pen_str fun σ H Q h => by
      obtain ⟨f, h, ps, s, _, p⟩ := h
      exact post_pure s p (by simp only [Rep])) hb) fun _ _ _ h => tE_bin op2_mul h
  have hr : PET X (.Call (.Attribute o "replace" apos) [.Constant (.str y) j c0, .Constant (.str z) k c1] [] cpos) (tE X.K W0 (mUn (wRepl y z) m)) :=
    pet_imp (CwR.pet_replC ho hyz hst hbase hline) fun σ H Q h => by
      obtain ⟨f, h, ps, s, sr, p⟩ := h
      refine ⟨f, h, ps, s, sr, (Post.bind s back_W p).mono (fun v H1 hh => ?_) fun _ _ _ e => e⟩
      obtain ⟨f1, h1, x, s1, q1, p1⟩ := hh
      exact op_repl f1 h1 H1 x v Q _ s1.sim q1 p1
  exact pe_imp (pe_frz (pe_opN (op_add.or (op_add_str.or (op_catA.or op_catS))) hl hr)) fun σ H Q h => by
    obtain ⟨f, h, ps, s, sr, p⟩ := h
    refine ⟨f, h, ps, s, sr, (Post.bind (R1 := RW X.K) s back_W p).mono (fun v H1 hh => ?_) fun _ _ _ e => e⟩
    obtain ⟨f1, h1, x, s1, q1, p1⟩ := hh
    refine ⟨f1, h1, ps, s1.sim, s1.srep s sr, (Post.bind (R1 := RW X.K) s1.sim back_W p1).mono (fun u H2 hh => ?_) fun _ _ _ e => e⟩
    obtain ⟨f2, h2, y, s2, q2, p2⟩ := hh
    exact op2_add f2 h2 H2 x y v u Q _ s2.sim (s2.rep s1.sim q1) q2 p2
end
end Mir

/-! Mir: a slice of a list as a list that may change. -/
namespace Mir
open PySem PySem.Spec PyProof.Rows L2
section
variable {X : Cx} {W0 : WX} {a : Expr} {m1 : EM} {pos p2 : Pos}
def mSlL (m : EM) (lo hi : Option EM) : LM := fun ps h => (m ps h).bind fun x h1 => (mPart lo ps h1).bind fun l h2 => (mPart hi ps h2).bind fun u h3 => match lstOf x h3 with
  | some xs => .ok (cutW xs l u) h3
  | none => .stuck
theorem sl_slice {lo hi : Option Expr} {ml mh : Option EM} (ha : SE X W0 a m1) (hl : SPO X W0 lo ml) (hh : SPO X W0 hi mh) : SL X W0 (.Subscript a (.Slice lo hi none p2) pos) (mSlL m1 ml mh) := by
  obtain ⟨tl, pl, il⟩ := hl.po
  obtain ⟨th, ph, ih⟩ := hh.po
  refine pe_imp (pe_slice sl_list ha pl ph) fun σ H Q h => ?_
  obtain ⟨f, h, ps, s, sr, p⟩ := h
  refine ⟨f, h, ps, s, sr, (Post.bind (R1 := RW X.K) s back_L p).mono (fun v H1 hh => ?_) fun _ _ _ e => e⟩
  obtain ⟨f1, h1, x, s1, q1, p1⟩ := hh
  refine il σ H1 _ ⟨f1, h1, ps, s1.sim, s1.srep s sr, (Post.bind (R1 := RI) s1.sim back_L p1).mono (fun l H2 hh => ?_) fun _ _ _ e => e⟩
  obtain ⟨f2, h2, l', s2, q2, p2⟩ := hh
  cases q2
  refine ih σ H2 _ ⟨f2, h2, ps, s2.sim, s2.srep s1.sim (s1.srep s sr), (Post.bind (R1 := RI) s2.sim back_L p2).mono (fun u H3 hh => ?_) fun _ _ _ e => e⟩
  obtain ⟨f3, h3, u', s3, q3, p3⟩ := hh
  cases q3
  split at p3
  · rename_i ws e
    obtain ⟨a, vs, rfl, hs, rr⟩ := lstOf_rep s3.sim (s3.rep s2.sim (s2.rep s1.sim q1)) e
    refine ⟨a, vs, rfl, hs, fun q hq => ?_⟩
    have st := s3.sim.other (o := .lst (cutV vs l u)) hq
    exact p3 f3 _ _ st ⟨q, _, rfl, hq, s3.sim.fresh hq, upd_same, Reps.mono (.refl f3) (s3.sim.stay st.grow) _ _ (rr.cut l u)⟩
  · exact p3.elim
end
end Mir

/-! Mir: sets of numbers, of any size up to some thousands: set(xs) of a list, sorted(set(xs)). -/
namespace Mir
open PySem PySem.Spec PySem.Builtin PyProof.Rows L2
section
variable {P : Program} {w : World} {A : Around} {E : Value → Shared → Prop} {s : Shared}
abbrev freshSet (w : World) : Obj := { cls := .type "set", dict := none, data := .set #[] 0 (.fresh 0 0 (!w.params.followText "set-order")) }
abbrev withSet (w : World) (s : Shared) : Shared := { s with heap := s.heap.push (freshSet w) }
/-- the list's ints, each put into the set that stands last -/
theorem fill_set {l : Addr} {items : Array Value} (ns : List Int) {R : Result → Shared → Prop} (hh : A.in1.handled = none) (hl : s.heap.IsList l items) (hit : IntsAre items.toList ns) (hb : ns.length + 1 < scanBound)
    (h : ∀ (h' : Heap) (tk c : Nat), SetR w h' s.heap.objs.size (fun j => decide (j ∈ ns)) c → c ≤ ns.length → (∀ b o, s.heap.get? b = some o → h'.get? b = some o) → R (.ok (.ret .none)) { s with heap := h', toks := tk }) :
    codeAny (model P w) A (.builtin "set.update.loop" ⟨[.ref s.heap.objs.size, .ref (withSet w s).heap.objs.size], []⟩) R
      { s with heap := (withSet w s).heap.push { cls := .type "list_iterator", data := .fields #[.ref l, .int 0 0] } } := by
  have hsz : items.size = ns.length := by
    have q := IntsAre.length hit
    rwa [Array.length_toList] at q
  have hl0 := hl
  obtain ⟨ol, hol, hcl, nl, hdl⟩ := hl0
  have llt : l < s.heap.objs.size := Heap.lt_size hol
  have z1 : (withSet w s).heap.objs.size = s.heap.objs.size + 1 := Heap.size_push ..
  have atS : (withSet w s).heap.get? s.heap.objs.size = some (freshSet w) := Heap.get?_push_size _ rfl
  have l1 : (withSet w s).heap.IsList l items := ⟨ol, Heap.get?_push_of_some _ hol, hcl, nl, hdl⟩
  have l2 : ((withSet w s).heap.push { cls := .type "list_iterator", data := .fields #[.ref l, .int 0 0] }).IsList l items := ⟨ol, Heap.get?_push_of_some _ (Heap.get?_push_of_some _ hol), hcl, nl, hdl⟩
  have ne1 : l ≠ (withSet w s).heap.objs.size := by rw [z1]; exact Nat.ne_of_lt (Nat.lt_succ_of_lt llt)
  have vals : ∀ (i : Nat) (v : Value), items[i]? = some v → ∃ k t, ns[i]? = some k ∧ v = .int k t := fun i v hv => by
    have hi : i < ns.length := by rw [← hsz]; exact (Array.getElem?_eq_some_iff.mp hv).1
    obtain ⟨t, e⟩ := PyProof.Rows.IntsAre.int_at hit i v (by rw [Array.getElem?_toList]; exact hv)
    refine ⟨ns[i], t, List.getElem?_eq_getElem hi, ?_⟩
    rw [e, List.getD_eq_getElem?_getD, List.getElem?_eq_getElem hi] <;> rfl
  refine set_update_ints ((Walks.list hh _ l ne1 items).toS) s.heap.objs.size ?_ ns hsz hb vals (items.size - 0) 0 _ (by omega) (Nat.zero_le _) ⟨⟨_, Heap.get?_push_size _ rfl, rfl, rfl⟩, l2⟩ ⟨0, Nat.le_refl 0, setR_new_at (Heap.get?_push_of_some _ atS)⟩ ?_
  · rw [z1]
    simp only [List.mem_cons, List.not_mem_nil, or_false, not_or]
    exact ⟨Nat.ne_of_lt (Nat.lt_succ_self _), Nat.ne_of_gt llt⟩
  · intro s' c hm hc hS
    obtain ⟨h', g', d', tk', os'⟩ := s'
    have eg : g' = s.gens := hm.gens
    have ed : d' = s.drawn := hm.drawn
    have eo : os' = s.os := hm.os
    subst eg ed eo
    refine h h' tk' c hS (by omega) fun b o e => ?_
    have hb0 : b < s.heap.objs.size := Heap.lt_size e
    refine hm.heap b o ?_ (Heap.get?_push_of_some _ (Heap.get?_push_of_some _ e))
    rw [z1]
    simp only [List.mem_cons, List.not_mem_nil, or_false, not_or]
    exact ⟨Nat.ne_of_lt hb0, Nat.ne_of_lt (Nat.lt_succ_of_lt hb0)⟩
/-- set(l), l a list of ints -/
theorem call_setL {l : Addr} {items : Array Value} (ns : List Int) {Q : Value → Shared → Prop} (hh : A.handled = none) (hl : s.heap.IsList l items) (hit : IntsAre items.toList ns) (hb : ns.length + 1 < scanBound)
    (h : ∀ (h' : Heap) (tk c : Nat), SetR w h' s.heap.objs.size (fun j => decide (j ∈ ns)) c → c ≤ ns.length → (∀ b o, s.heap.get? b = some o → h'.get? b = some o) → Q (.ref s.heap.objs.size) { s with heap := h', toks := tk }) :
    wpAny (model P w) A (call (.type "set") [.ref l]) Q E s := by
  obtain ⟨c, tl, hmro⟩ := F.called_set.mro
  have made := F.called_set.made
  have sub := F.called_set.sub
  have nt := F.called_set.notType
  have cc := F.called_set.canCreate
  have tc := F.typeCall_set_1 (.ref l)
  have li := F.called_set.init.lookup
  have bi := F.called_set.init.bind (.ref s.heap.objs.size)
  have atS : (withSet w s).heap.get? s.heap.objs.size = some (freshSet w) := Heap.get?_push_size _ rfl
  have isS : Shared.TypeIs (withSet w s) (.ref s.heap.objs.size) "set" := ⟨_, atS, rfl⟩
  refine wpAny_call (codeAny_of_tree ?_)
  show wpAny _ _ (callAny (.type "set") _) _ _ _
  refine wpAny_pure ⟨Code.quiet_builtin _ (by decide +kernel), codeAny_builtin F.entry_type_call ?_⟩
  rw [Around.under_plain (weight_type_call_type "set" [.ref l] []) rfl]
  repeat (any_goals (first | assumption | wp_step))
  refine codeAny_mono (code_set_led1 (.ref l) (E := E) (Q₁ := fun obj s₁ => obj = .ref s.heap.objs.size ∧ s₁ = withSet w s) ⟨rfl, rfl⟩) fun r s₁ hr => ?_
  match r, hr with
  | .error e, hr => exact hr
  | .ok (.ret obj), hr =>
    obtain ⟨rfl, rfl⟩ := hr
    repeat (any_goals (first | assumption | wp_step))
    refine codeAny_mono (codeAny_call_builtin (R := wants (fun r s₂ => r = .none ∧ Q (.ref s.heap.objs.size) s₂) E) F.called_set.init.plain F.entry_set_init (check_set_init_1 isS ?_)) fun r₂ s₂ hr₂ => ?_
    · have hl0 := hl
      obtain ⟨⟨ocls, odict, odata, oslots⟩, hol, hcl, nl, hdl⟩ := hl0
      dsimp only at hcl hdl
      subst hcl hdl
      have hol' : (withSet w s).heap.get? l = some { cls := .type "list", dict := odict, data := .seq items nl, slots := oslots } := Heap.get?_push_of_some _ hol
      have s1 := F.sub_list_set
      have s2 := F.sub_list_frozenset
      have s3 : (Value.type "list" == Value.type "dict") = false := by decide
      have l1 : (withSet w s).heap.IsList l items := ⟨_, hol', rfl, nl, rfl⟩
      unfold Builtin.«set.__init__» noKeywords Builtin.Frozenset.updateFrom
      generalize hPI : pyIter = PI
      wp_walk
      subst hPI
      refine wpAny_pyIter_list l1 (wpAny_bind (wpAny_runValue ?_))
      refine fill_set ns (by simp [hh]) hl hit hb fun h' tk c r1 r2 r3 => ?_
      refine wpAny_pure ?_
      exact wpAny_pure ⟨rfl, h h' tk c r1 r2 r3⟩
    · match r₂, hr₂ with
      | .error e, hr₂ => exact hr₂
      | .ok (.ret r), hr₂ =>
        obtain ⟨rfl, q⟩ := hr₂
        repeat (any_goals (first | assumption | wp_step))
end
end Mir

/-! Mir: sorted(set(xs)). -/
namespace Mir
open PySem PySem.Spec PySem.Builtin PyProof.Rows L2
section
variable {X : Cx}
/-- set(xs), xs a list or a tuple of ints -/
def rSetI (K : PySem.W.Frag) (w : World) : List V → Hp → VK → Prop := fun xs H Q => ∃ (a : Addr) (ns : List Int), xs = [.ref a] ∧ ns.length + 1 < scanBound ∧ (SqL K H a (ns.map V.int) ∨ SqT K H a (ns.map V.int)) ∧
  ∀ (p : Addr) (c : Nat), H p = none → c ≤ ns.length → Q (.ref p) (upd H p (SetO w p (fun j => decide (j ∈ ns)) c))
theorem cr_setI (hc : X.calm = true) : CallR X (.type "set") (rSetI X.K X.w) := by
  intro pins s σ H vs us Q I r h
  obtain ⟨a, ns, rfl, hb, hs, q⟩ := h
  rw [Vals.ref1 r]
  have fin : ∀ (h' : Heap) (tk c : Nat), SetR X.w h' s.heap.objs.size (fun j => decide (j ∈ ns)) c → c ≤ ns.length → (∀ b o, s.heap.get? b = some o → h'.get? b = some o) → EP X pins σ Q (.ref s.heap.objs.size) { s with heap := h', toks := tk } := fun h' tk c r1 r2 k =>
    ⟨.ref s.heap.objs.size, upd H s.heap.objs.size (SetO X.w s.heap.objs.size (fun j => decide (j ∈ ns)) c), I.laid (t' := tk) k (Nat.le_refl _) (setO_new r1), rfl, q _ c (I.hok.fresh (Nat.le_refl _)) r2⟩
  rcases hs with hs | hs
  · obtain ⟨its, rv, pl, hz⟩ := I.list hs
    exact call_setL ns (I.ok.hd hc) pl.isList (by rw [List.toList_toArray]; exact rv.ints) hb fin
  · obtain ⟨its, rv, pl, hz⟩ := I.tuple hs
    exact call_set_tupI ns (I.ok.hd hc) pl (by rw [List.toList_toArray]; exact rv.ints) hb fin
/-- sorted(found), any number of members -/
def rSortedSN (w : World) : List V → Hp → VK → Prop := fun vs H Q => ∃ (a : Addr) (S : Int → Bool) (n : Nat), vs = [V.ref a] ∧ H a = some (SetO w a S n) ∧
  ∀ (ns : List Int) (p : Addr), ns.Pairwise (· < ·) → (∀ k : Int, k ∈ ns ↔ S k = true) → H p = none → Q (.ref p) (upd H p (.lst (ns.map V.int)))
theorem cr_sortedSN (hc : X.calm = true) : CallR X (.builtin "sorted") (rSortedSN X.w) := by
  intro pins s σ H vs us Q I r h
  obtain ⟨a, S, n, rfl, ha, q⟩ := h
  have R := setO_get I ha
  rw [Vals.ref1 r]
  obtain ⟨o, es, ep, t, ho, hex, hd, g, nd, hm, hb, hf, hn, hr, hl⟩ := R
  refine Calls.call_function_entry kind_sorted plain_sorted entry_sorted (args_sorted1 _) ?_
  unfold Builtin.«sorted»
  refine wpAny_bind (m := checkCount "sorted" 1 1 _) (wpAny_pure (wpAny_bind (collect_set (A := X.A.in1) (I.ok.hd hc) ⟨o, ho, hex.1, hd⟩ hf hb hr hl fun s1 its k1 hz g1 o1 pm => ?_)))
  have hI : IntsAre its (its.map Builtin.Re.reRawOf) := ints_of its fun v hv => by
    obtain ⟨e, he, z⟩ := List.mem_map.mp (pm.mem_iff.mp hv)
    obtain ⟨k, tk, h1, _⟩ := g e he
    exact ⟨k, tk, by rw [← z]; exact h1⟩
  have pk : (its.map Builtin.Re.reRawOf).Perm (es.toList.map keyOf) := by
    have z := pm.map Builtin.Re.reRawOf
    rw [List.map_map] at z
    exact z
  have il : its.length ≤ sizeLine := by
    rw [pm.length_eq, List.length_map, Array.length_toList, sizeLine_eq]
    unfold scanBound at hb
    omega
  refine wpAny_bind (wpAny_newList ?_ il)
  have at_ : (s1.heap.push (seqObj "list" its.toArray 0)).get? s1.heap.objs.size = some (seqObj "list" its.toArray 0) := Heap.get?_push_size _ rfl
  refine wpAny_bind (wpAny_holding ?_)
  refine wpAny_call_entry PyProof.Rows.slot_list_sort ⟨_, at_, rfl⟩ PyProof.Rows.entry_list_sort ?_ (PyProof.Rows.args_list_sort _)
  refine SrtO.list_sort_ord (s := { s1 with heap := s1.heap.push (seqObj "list" its.toArray 0) }) SrtO.swo_int at_ il (fun h2 => SrtO.ints_sortable hI h2) fun out e1 e2 => ⟨_, rfl, ?_⟩
  obtain ⟨j1, j2, j3⟩ := SrtO.ints_out hI e1 e2
  obtain ⟨c, hc2⟩ := PyProof.Rows.sortedHeap_at (vs := its) (out := out.toArray) at_
  have pn : (out.map SrtO.iv).Perm (es.toList.map keyOf) := j2.trans pk
  have hlen : ((out.map SrtO.iv).map V.int).length ≤ sizeLine := by
    rw [List.length_map, j2.length_eq, List.length_map]
    exact il
  have keep : ∀ b u, s.heap.get? b = some u → (sortedHeap (s1.heap.push (seqObj "list" its.toArray 0)) s1.heap.objs.size its out.toArray).get? b = some u := fun b u e => by
    have z := k1 b u e
    have lt := Heap.lt_size z
    rw [PyProof.Rows.sortedHeap_old (Nat.ne_of_lt lt) (by rw [size_push']; exact Nat.lt_succ_of_lt lt)]
    exact Heap.get?_push_of_some _ z
  have hn2 : H s1.heap.objs.size = none := I.hok.fresh hz
  have J : Inv X pins σ (upd H s1.heap.objs.size (.lst ((out.map SrtO.iv).map V.int))) { s with heap := sortedHeap (s1.heap.push (seqObj "list" its.toArray 0)) s1.heap.objs.size its out.toArray, gens := s1.gens, drawn := s1.drawn, toks := s1.toks } :=
    I.call (ch := []) (Un.laid keep hz hn2) (I.hok.laid keep hz ⟨hlen, out, c, vals_of_ints j1, hc2⟩) (by rw [g1]; exact I.bare) (fun _ z => nomatch z)
  refine wpAny_pure ⟨_, rfl, ?_⟩
  have e : ({ s1 with heap := sortedHeap (s1.heap.push (seqObj "list" its.toArray 0)) s1.heap.objs.size its out.toArray } : Shared) = { s with heap := sortedHeap (s1.heap.push (seqObj "list" its.toArray 0)) s1.heap.objs.size its out.toArray, gens := s1.gens, drawn := s1.drawn, toks := s1.toks } := by
    cases s1
    cases s
    cases o1
    rfl
  rw [e]
  exact ⟨.ref s1.heap.objs.size, _, J, rfl, q _ _ (lt_of_le_nodup _ j3 (pn.nodup_iff.mpr nd)) (fun k => by rw [pn.mem_iff, ← hm k]) hn2⟩
end
end Mir

/-! Mir: sorted(set(xs)) and tuple(range(a, b, c)) in the layer. -/
namespace Mir
open PySem PySem.Spec PyProof.Rows L2
/-! ### numbers in order, each once -/
def insU (k : Int) : List Int → List Int
  | [] => [k]
  | x :: r => if k < x then k :: x :: r else if k = x then x :: r else x :: insU k r
def setI (ns : List Int) : List Int := ns.foldr insU []
theorem insU_mem {k x : Int} : ∀ {l : List Int}, x ∈ insU k l ↔ x = k ∨ x ∈ l
  | [] => by simp [insU]
  | y :: r => by
    unfold insU
    split
    · simp
    · split
      · rename_i h
        subst h
        simp
      · rw [List.mem_cons, insU_mem, List.mem_cons]
        constructor
        · rintro (h | h | h)
          · exact .inr (.inl h)
          · exact .inl h
          · exact .inr (.inr h)
        · rintro (h | h | h)
          · exact .inr (.inl h)
          · exact .inl h
          · exact .inr (.inr h)
theorem insU_up {k : Int} : ∀ {l : List Int}, l.Pairwise (· < ·) → (insU k l).Pairwise (· < ·)
  | [], _ => by simp [insU]
  | y :: r, h => by
    obtain ⟨h1, h2⟩ := List.pairwise_cons.mp h
    unfold insU
    split
    · rename_i c
      exact List.pairwise_cons.mpr ⟨fun z hz => by
        rcases List.mem_cons.mp hz with rfl | hz
        · exact c
        · have := h1 z hz
          omega, h⟩
    · split
      · exact h
      · refine List.pairwise_cons.mpr ⟨fun z hz => ?_, insU_up h2⟩
        rcases insU_mem.mp hz with rfl | hz
        · omega
        · exact h1 z hz
theorem setI_mem {ns : List Int} {x : Int} : x ∈ setI ns ↔ x ∈ ns := by
  induction ns with
  | nil => simp [setI]
  | cons k r ih =>
    show x ∈ insU k (setI r) ↔ _
    rw [insU_mem, ih, List.mem_cons]
theorem setI_up (ns : List Int) : (setI ns).Pairwise (· < ·) := by
  induction ns with
  | nil => simp [setI]
  | cons k r ih => exact insU_up ih
theorem up_same : ∀ {l m : List Int}, l.Pairwise (· < ·) → m.Pairwise (· < ·) → (∀ k, k ∈ l ↔ k ∈ m) → l = m
  | [], [], _, _, _ => rfl
  | [], y :: m, _, _, h => absurd ((h y).mpr List.mem_cons_self) (by simp)
  | x :: l, [], _, _, h => absurd ((h x).mp List.mem_cons_self) (by simp)
  | x :: l, y :: m, hl, hm, h => by
    obtain ⟨a1, a2⟩ := List.pairwise_cons.mp hl
    obtain ⟨b1, b2⟩ := List.pairwise_cons.mp hm
    have e : x = y := by
      rcases List.mem_cons.mp ((h x).mp List.mem_cons_self) with z | z
      · exact z
      · rcases List.mem_cons.mp ((h y).mpr List.mem_cons_self) with w | w
        · exact w.symm
        · have := b1 x z
          have := a1 y w
          omega
    subst e
    have rest : ∀ k, k ∈ l ↔ k ∈ m := fun k => by
      constructor
      · intro hk
        rcases List.mem_cons.mp ((h k).mp (List.mem_cons_of_mem _ hk)) with z | z
        · have := a1 k hk
          omega
        · exact z
      · intro hk
        rcases List.mem_cons.mp ((h k).mpr (List.mem_cons_of_mem _ hk)) with z | z
        · have := b1 k hk
          omega
        · exact z
    rw [up_same a2 b2 rest]
theorem setI_of {ns : List Int} (h : ns.Pairwise (· < ·)) : setI ns = ns := up_same (setI_up ns) h fun _ => setI_mem
/-- sorted(set(x)) -/
def lSetSort (x : W) (h : PH) : Option (List W × PH) := (seqOf x h).bind fun ws => (intsW ws).bind fun ns => if ns.length ≤ 4000 then some ((setI ns).map W.int, h) else none
section
variable {X : Cx} {W0 : WX} {e : Expr} {m1 : EM} {p p2 pos pos2 : Pos}
theorem sl_sortSet (hc : X.calm = true) (hm : X.mg "sorted" = none) (hm2 : X.mg "set" = none) (ha : SE X W0 e m1) (hg : Gl X "sorted" := by rfl) (hg2 : Gl X "set" := by rfl)
    (he : starEach [.Call (.Name "set" p2) [e] [] pos2] X.env = (false, eval (.Call (.Name "set" p2) [e] [] pos2) X.env) :: starEach [] X.env := by rfl)
    (he2 : starEach [e] X.env = (false, eval e X.env) :: starEach [] X.env := by rfl) (hpl : (backTo pos (starEach [] X.env)).any (·.1) = false := by rfl) (hpl2 : (backTo pos2 (starEach [] X.env)).any (·.1) = false := by rfl) :
    SL X W0 (.Call (.Name "sorted" p) [.Call (.Name "set" p2) [e] [] pos2] [] pos) (mOnV lSetSort m1) :=
  pe_imp (pe_callB (cr_sortedSN hc) hg hm boot_sorted (pa_cons (pe_callTy (cr_setI hc) hg2 hm2 boot_set (pa_cons ha pa_nil he2) (by decide) (by decide) he2 hpl2) pa_nil he) (by decide) (by decide) he hpl) fun σ H Q h => by
  obtain ⟨f, h, ps, s, sr, p⟩ := h
  refine ⟨f, h, ps, s, sr, (Post.bind (R1 := RW X.K) s back_L p).mono (fun v H1 hh => ?_) fun _ _ _ e => e⟩
  obtain ⟨f1, h1, x, s1, q1, p1⟩ := hh
  unfold lSetSort at p1
  cases e1 : seqOf x h1 with
  | none => rw [e1] at p1; exact p1.elim
  | some ws =>
    cases e2 : intsW ws with
    | none => rw [e1, Option.bind_some, e2] at p1; exact p1.elim
    | some ns =>
      rw [e1, Option.bind_some, e2, Option.bind_some] at p1
      split at p1
      · rename_i hn
        obtain ⟨a, vs, rfl, hq, rr⟩ := seqOf_rep s1.sim q1 e1
        have ev := intsW_rep e2 rr
        subst ev
        refine ⟨a, ns, rfl, by unfold scanBound; omega, hq, fun d c hd _ => ?_⟩
        refine ⟨d, _, c, rfl, upd_same, fun ns' q up mem hq2 => ?_⟩
        have en : ns' = setI ns := up_same up (setI_up ns) fun k => by rw [mem, setI_mem, decide_eq_true_eq]
        subst en
        have st1 := s1.sim.other (o := SetO X.w d (fun j => decide (j ∈ ns)) c) hd
        have st2 := st1.sim.other (o := .lst ((setI ns).map V.int)) hq2
        have nq : H1 q = none := by
          have : q ≠ d := fun z => by rw [z, upd_same] at hq2; cases hq2
          rwa [upd_ne this] at hq2
        exact p1 f1 _ _ (st1.trans st2) ⟨q, _, rfl, nq, s1.sim.fresh nq, upd_same, reps_ints _⟩
      · exact p1.elim
end
/-! ### tuple(range(a, b, c)) -/
def rgN (a b c : Int) : Nat := if a < b then ((b - a - 1) / c + 1).toNat else 0
def mTupRg3 (l : LM) : EM := fun ps h => (l ps h).bind fun xs h1 => match xs with
  | [.int a, .int b, .int c] => if 0 < c ∧ c ≤ 1000 ∧ 0 ≤ a ∧ a ≤ 1000000 ∧ 0 ≤ b ∧ b ≤ 1000000 then .ok (.tup ((List.range (rgN a b c)).map fun k => .int (a + (k : Nat) * c))) h1 else .stuck
  | _ => .stuck
def tTupRg3 (ta : TA) : TE := fun σ H Q => ta σ H fun vs H1 => ∃ (a b c : Int), vs = [.int a, .int b, .int c] ∧ 0 < c ∧ c ≤ 1000 ∧ 0 ≤ a ∧ a ≤ 1000000 ∧ 0 ≤ b ∧ b ≤ 1000000 ∧
  ∀ q, H1 q = none → Q (.ref q) (upd H1 q (.tup ((List.range (rgN a b c)).map fun k => .int (a + (k : Nat) * c))))
theorem rg_size {a b c : Int} (h : 0 < c) : Builtin.Range.rangeSize a b c = (rgN a b c : Nat) := by
  unfold Builtin.Range.rangeSize rgN
  rw [if_pos h]
  split
  · have : 0 ≤ (b - a - 1) / c := Int.ediv_nonneg (by omega) (by omega)
    omega
  · rfl
theorem rg_le {a b c : Int} (h : 0 < c) (ha : 0 ≤ a) (hb : b ≤ 1000000) : rgN a b c ≤ 1000000 := by
  unfold rgN
  split
  · have h1 : (b - a - 1) / c ≤ b - a - 1 := Int.ediv_le_self _ (by omega)
    omega
  · omega
theorem rg_small {a b c : Int} (h : 0 < c) (hc : c ≤ 1000) (ha : 0 ≤ a) (ha2 : a ≤ 1000000) (hb : 0 ≤ b) (hb2 : b ≤ 1000000) : Builtin.Range.small a b c = true := by
  have h1 := rg_size (a := a) (b := b) h
  have h2 := rg_le (a := a) (b := b) h ha hb2
  have h3 : (rgN a b c : Int) * c ≤ 1000000 * 1000 := by
    refine Int.le_trans (Int.mul_le_mul_of_nonneg_right (c := c) (by omega : (rgN a b c : Int) ≤ 1000000) (by omega)) (Int.mul_le_mul_of_nonneg_left hc (by decide))
  have h4 : 0 ≤ (rgN a b c : Int) * c := Int.mul_nonneg (by omega) (by omega)
  unfold Builtin.Range.small
  rw [h1]
  simp only [Builtin.Range.rangeFitsLong, Bool.and_eq_true, Bool.or_eq_true, decide_eq_true_eq, beq_iff_eq]
  rw [if_pos h]
  simp only [Builtin.Range.rangeFitsLong, Bool.and_eq_true, decide_eq_true_eq]
  refine ⟨⟨⟨⟨⟨by omega, by omega⟩, ⟨by omega, by omega⟩⟩, ⟨by omega, by omega⟩⟩, ⟨by omega, by omega⟩⟩, .inr ⟨by omega, by omega⟩⟩
theorem pe_tupRg3 {X : Cx} {a b c : Expr} {ta : TA} {p p2 pos pos2 : Pos} (hc : X.calm = true) (hg : Gl X "tuple") (hm : X.mg "tuple" = none) (hg2 : Gl X "range") (hm2 : X.mg "range" = none) (ha : PA X [a, b, c] ta)
    (he : starEach [.Call (.Name "range" p2) [a, b, c] [] pos2] X.env = (false, eval (.Call (.Name "range" p2) [a, b, c] [] pos2) X.env) :: starEach [] X.env := by rfl)
    (hs : starEach [a, b, c] X.env = (false, eval a X.env) :: starEach [b, c] X.env := by rfl) (hpl : (backTo pos2 (starEach [b, c] X.env)).any (·.1) = false := by rfl) :
    PE X (.Call (.Name "tuple" p) [.Call (.Name "range" p2) [a, b, c] [] pos2] [] pos) (tTupRg3 ta) := by
  refine ⟨fun pins s σ H Q I h => ?_⟩
  refine Call_ (ld_blt I hg hm boot_tuple (PyProof.Rows.callWith_type1 (args_cons (Call_ (ld_blt I hg2 hm2 boot_range (PyProof.Rows.callWith_type1 (thn (ha.run pos2 pins s σ H _ I h) fun us s1 ⟨vs, H1, I1, r1, q1⟩ => ?_) hs hpl))) he) he))
  obtain ⟨i, j, k, e, c0, c1, a0, a1, b0, b1, q⟩ := q1
  subst e
  cases r1 with
  | cons r rr =>
    cases rr with
    | cons r' rr =>
      cases rr with
      | cons r'' rr =>
        cases rr
        obtain ⟨t, rfl⟩ := r
        obtain ⟨t', rfl⟩ := r'
        obtain ⟨t'', rfl⟩ := r''
        refine call_range_3 (by omega) ?_ (.inl (PyProof.noPylong_small (by omega)))
        refine args_nil ?_
        have I2 : Inv X pins σ H1 { s1 with heap := s1.heap.push { cls := .type "range", data := .fields #[.int i t, .int j t', .int k t''] } } := I1.kept (t' := s1.toks) fun b o e => Heap.get?_push_of_some _ e
        refine call_tuple_range (n := rgN i j k) (I2.ok.hd hc) (IsRange.new ..) (rg_small c0 c1 a0 a1 b0 b1) (rg_size c0) (Nat.le_trans (rg_le c0 a0 b1) (by decide)) fun h' tk acc hk hi => ?_
        have I3 : Inv X pins σ H1 { s1 with heap := h', toks := tk } := I2.kept hk
        have el : acc.toList.length = rgN i j k := by rw [Array.length_toList]; exact hi.1
        have vals : Vals ((List.range (rgN i j k)).map fun x => V.int (i + (x : Nat) * k)) acc.toList := by
          rw [← el]
          refine vals_of_get acc.toList _ fun x u hx => ?_
          obtain ⟨t, rfl⟩ := hi.2 x u (by rw [← hx, Array.getElem?_toList])
          exact ⟨t, rfl⟩
        refine ⟨.ref h'.objs.size, upd H1 h'.objs.size (.tup ((List.range (rgN i j k)).map fun x => V.int (i + (x : Nat) * k))), I3.laid (t' := tk) (fun b u e => Heap.get?_push_of_some _ e) (Nat.le_refl _) (show ObjOk X.prog X.w _ _ _ (.tup _) from ⟨?_, acc.toList, vals, ?_⟩), rfl, q _ (I3.hok.fresh (Nat.le_refl _))⟩
        · rw [List.length_map, List.length_range, sizeLine_eq]
          exact Nat.le_trans (rg_le c0 a0 b1) (by decide)
        · rw [Array.toArray_toList]
          exact IsTup.new _ _
section
variable {X : Cx} {W0 : WX} {a b c : Expr} {l1 : LM} {p p2 pos pos2 : Pos}
theorem se_tupRg3 (hc : X.calm = true) (hm : X.mg "tuple" = none) (hm2 : X.mg "range" = none) (ha : SA X W0 [a, b, c] l1) (hg : Gl X "tuple" := by rfl) (hg2 : Gl X "range" := by rfl)
    (he : starEach [.Call (.Name "range" p2) [a, b, c] [] pos2] X.env = (false, eval (.Call (.Name "range" p2) [a, b, c] [] pos2) X.env) :: starEach [] X.env := by rfl)
    (hs : starEach [a, b, c] X.env = (false, eval a X.env) :: starEach [b, c] X.env := by rfl) (hpl : (backTo pos2 (starEach [b, c] X.env)).any (·.1) = false := by rfl) :
    SE X W0 (.Call (.Name "tuple" p) [.Call (.Name "range" p2) [a, b, c] [] pos2] [] pos) (mTupRg3 l1) :=
  pe_imp (pe_tupRg3 hc hg hm hg2 hm2 ha he hs hpl) fun σ H Q h => by
  obtain ⟨f, h, ps, s, sr, p⟩ := h
  refine ⟨f, h, ps, s, sr, (Post.bind s back_W p).mono (fun v H1 hh => ?_) fun _ _ _ e => e⟩
  obtain ⟨f1, h1, xs, s1, q1, p1⟩ := hh
  split at p1
  · rename_i a b c
    split at p1
    · rename_i hh
      obtain ⟨c0, c1, a0, a1, b0, b1⟩ := hh
      refine ⟨a, b, c, ?_, c0, c1, a0, a1, b0, b1, fun q hq => ?_⟩
      · have := intsW_rep (bs := [a, b, c]) rfl q1
        exact this
      · have rr : Reps X.K f1 H1 ((List.range (rgN a b c)).map fun k => W.int (a + (k : Nat) * c)) ((List.range (rgN a b c)).map fun k => V.int (a + (k : Nat) * c)) := by
          generalize List.range (rgN a b c) = l
          induction l with
          | nil => exact .nil
          | cons i r ih => exact .cons (rep_int.mpr rfl) ih
        exact post_tup s1.sim p1 rr hq
    · exact p1.elim
  · exact p1.elim
end
end Mir

/-! Mir: a tuple, taken some times over, or once, or not at all. -/
namespace Mir
open PySem PySem.Spec PyProof.Rows L2
theorem tuple_mul1 (l : Addr) (items : Array Value) (n : Nat) (dd : Option Addr) (sl : Array (Option Value)) (u : Tok) :
    Meets (Builtin.«tuple.__mul__» ⟨[.ref l, .int 1 u], []⟩) (fun _ R s => s.heap.get? l = some { cls := .type "tuple", dict := dd, data := .seq items n, slots := sl } ∧ R (.ok (.ret (Value.ref l))) s) :=
  .of_wp fun prog w A R s h => by
    obtain ⟨hp, g, d, tk, os⟩ := s
    obtain ⟨hl, h⟩ := h
    have f1 := AutoSeq1.idx_int
    have c0 : (decide ((1 : Int) < -(2 ^ 63)) || decide ((1 : Int) ≥ 2 ^ 63)) = false := by decide
    have c1 : (items.isEmpty || (1 : Int) == 1) = true := by simp
    wp_walk using wpAny_loadPart' hl
    repeat (first
      | (refine wpAny_ite_false (decide_eq_false (by rw [c0]; exact Bool.false_ne_true)) ?_; wp_walk using wpAny_loadPart' hl)
      | (refine wpAny_ite_true (decide_eq_true c1) ?_; wp_walk using wpAny_loadPart' hl))
    exact ⟨_, rfl, h⟩
theorem tuple_mul0 (l : Addr) (items : Array Value) (n : Nat) (dd : Option Addr) (sl : Array (Option Value)) (u : Tok) (hi : items.isEmpty = false) :
    Meets (Builtin.«tuple.__mul__» ⟨[.ref l, .int 0 u], []⟩) (fun _ R s => s.heap.get? l = some { cls := .type "tuple", dict := dd, data := .seq items n, slots := sl } ∧
      R (.ok (.ret (Value.ref s.heap.objs.size))) { s with heap := s.heap.push { cls := Value.type "tuple", data := Data.seq #[] }, toks := s.toks }) :=
  .of_wp fun prog w A R s h => by
    obtain ⟨hp, g, d, tk, os⟩ := s
    obtain ⟨hl, h⟩ := h
    have f1 := AutoSeq1.idx_int
    have c0 : (decide ((0 : Int) < -(2 ^ 63)) || decide ((0 : Int) ≥ 2 ^ 63)) = false := by decide
    have c1 : (items.isEmpty || (0 : Int) == 1) = false := by rw [hi]; rfl
    have c2 : (decide ((0 : Int) ≤ 0) || items.isEmpty) = true := by simp
    wp_walk using wpAny_loadPart' hl
    repeat (first
      | (refine wpAny_ite_false (decide_eq_false (by rw [c0]; exact Bool.false_ne_true)) ?_; wp_walk using wpAny_loadPart' hl)
      | (refine wpAny_ite_false (decide_eq_false (by rw [c1]; exact Bool.false_ne_true)) ?_; wp_walk using wpAny_loadPart' hl)
      | (refine wpAny_ite_true (decide_eq_true c2) ?_; wp_walk using wpAny_loadPart' hl))
    exact ⟨_, rfl, h⟩
def rRep01 (K : PySem.W.Frag) : R2 := fun x y H Q => ∃ l k xs, x = .ref l ∧ y = .int k ∧ SqT K H l xs ∧ xs ≠ [] ∧ ((k = 1 ∧ Q (.ref l) H) ∨ (k = 0 ∧ ∀ p, H p = none → Q (.ref p) (upd H p (.tup []))))
section
variable {X : Cx}
theorem op_rep01 : OpR X (binaryOp .Mult) (rRep01 X.K) := by
  intro pins s σ H x y v u Q I rx ry h
  obtain ⟨l, k, xs, rfl, rfl, hT, hne, h⟩ := h
  cases rx
  obtain ⟨t, rfl⟩ := ry
  obtain ⟨its, r, ⟨⟨cls, dd, data, sl⟩, ho, hc, n, hd⟩, hs⟩ := I.tuple hT
  simp only at hc hd
  subst hc hd
  have hi : its.toArray.isEmpty = false := by
    cases its with
    | nil =>
      cases r
      exact absurd rfl hne
    | cons a b => rfl
  rcases h with ⟨rfl, q⟩ | ⟨rfl, q⟩
  · refine wpAny_binaryOp_repeat_ref (T := "tuple") (U := "int") (by decide) ⟨_, ho, rfl⟩ (fun s' => typeIs_int s' 1 t) noFill_tuple_mul F.fills_int_mul F.slot_int_rmul repeat_tuple F.slot_int_index.lookup
      (call_meets F.slot_int_rmul (typeIs_int s 1 t) F.entry_int_rmul (F.args_int_rmul_2 _ _) (int_rmul_tuple 1 t l its.toArray n dd sl)
        ⟨ho, rfl, ⟨_, ho, rfl⟩, call_meets F.slot_tuple_mul ⟨_, ho, rfl⟩ F.entry_tuple_mul (F.args_tuple_mul_2 _ _) (tuple_mul1 l its.toArray n dd sl t) ⟨ho, ?_⟩⟩)
    exact ⟨.ref l, H, I, rfl, q⟩
  · refine wpAny_binaryOp_repeat_ref (T := "tuple") (U := "int") (by decide) ⟨_, ho, rfl⟩ (fun s' => typeIs_int s' 0 t) noFill_tuple_mul F.fills_int_mul F.slot_int_rmul repeat_tuple F.slot_int_index.lookup
      (call_meets F.slot_int_rmul (typeIs_int s 0 t) F.entry_int_rmul (F.args_int_rmul_2 _ _) (int_rmul_tuple 0 t l its.toArray n dd sl)
        ⟨ho, rfl, ⟨_, ho, rfl⟩, call_meets F.slot_tuple_mul ⟨_, ho, rfl⟩ F.entry_tuple_mul (F.args_tuple_mul_2 _ _) (tuple_mul0 l its.toArray n dd sl t hi) ⟨ho, ?_⟩⟩)
    refine ⟨.ref s.heap.objs.size, _, I.laid (t' := s.toks) (o := .tup []) (fun b ob q => Heap.get?_push_of_some _ q) (Nat.le_refl _) ?_, rfl, q _ (I.hok.fresh (Nat.le_refl _))⟩
    exact ⟨Nat.zero_le _, [], .nil, IsTup.new _ _⟩
end
def wMulT : W → W → PH → Option (W × PH)
  | .tup xs, .int k, h => if xs ≠ [] ∧ 0 ≤ k ∧ k ≤ 1000 ∧ xs.length ≤ 1000 then some (.tup (List.replicate k.toNat xs).flatten, h) else none
  | _, _, _ => none
section
variable {K : PySem.W.Frag} {X : Cx} {W0 : WX} {a b : Expr} {m1 m2 : EM} {pos : Pos}
theorem op2_mulT : Op2 K (fun x y H Q => rRepT K x y H Q ∨ rRep01 K x y H Q) wMulT := by
  intro f h H x y v u Q E s rx ry p
  unfold wMulT at p
  split at p
  · rename_i _ _ _ xs k
    split at p
    · rename_i c
      obtain ⟨a, vs, rfl, ha, ra⟩ := rep_tup.mp rx
      have ne : vs ≠ [] := fun e => by
        subst e
        have z := ra.length
        exact c.1 (List.length_eq_zero_iff.mp z)
      by_cases c2 : 2 ≤ k
      · exact .inl ⟨a, _, vs, rfl, rep_int.mp ry, ha, ne, c2, c.2.2.1, by rw [← ra.length]; exact c.2.2.2, fun q hq => post_tup s p (ra.rep_flat _) hq⟩
      · refine .inr ⟨a, _, vs, rfl, rep_int.mp ry, ha, ne, ?_⟩
        by_cases c1 : k = 1
        · subst c1
          refine .inl ⟨rfl, post_ok s p (rep_tup.mpr ⟨a, vs, rfl, ha, ?_⟩)⟩
          simpa using ra
        · have c0 : k = 0 := by omega
          subst c0
          exact .inr ⟨rfl, fun q hq => post_tup s p (by simp; exact .nil) hq⟩
    · exact p.elim
  · exact p.elim
theorem se_mulT (ha : SE X W0 a m1) (hb : SE X W0 b m2) : SE X W0 (.BinOp a .Mult b pos) (mOp wMulT m1 m2) := se_bin (op_repT.or op_rep01) op2_mulT ha hb
end
end Mir

/-! Mir: the least of some pairs of numbers. -/
namespace Mir
open PySem PySem.Spec PySem.W PyProof.Rows L2
def pairD (k : Int × Int) : PyData := .tuple [.int k.1, .int k.2]
def codeP (k : Int × Int) : Int := k.1 * 1000 + k.2
def smallP2 (k : Int × Int) : Bool := decide (0 ≤ k.2) && decide (k.2 < 1000)
theorem pair_lt {x y : Int × Int} (hx : smallP2 x = true) (hy : smallP2 y = true) : dataLt (pairD x) (pairD y) = decide (codeP x < codeP y) := by
  obtain ⟨a, b⟩ := x
  obtain ⟨c, d⟩ := y
  unfold smallP2 at hx hy
  rw [Bool.and_eq_true] at hx hy
  have x1 := of_decide_eq_true hx.1
  have x2 := of_decide_eq_true hx.2
  have y1 := of_decide_eq_true hy.1
  have y2 := of_decide_eq_true hy.2
  simp only at x1 x2 y1 y2
  unfold pairD codeP
  rw [dataLt_tuple]
  by_cases e : a = c
  · subst e
    rw [dataLt_all_yes rfl (by simp [PyData.eqv])]
    by_cases e2 : b = d
    · subst e2
      rw [dataLt_all_yes rfl (by simp [PyData.eqv])]
      rw [decide_eq_false (by omega)]
      simp only [keyToksAll]
      exact lex_self (O := itemOrd) _ _ _
    · rw [dataLt_all_no rfl (by simp [PyData.eqv, e2]), dataLt_int]
      exact decide_eq_decide.mpr (by simp only; omega)
  · rw [dataLt_all_no rfl (by simp [PyData.eqv, e]), dataLt_int]
    exact decide_eq_decide.mpr (by simp only; omega)
section
variable {X : Cx}
def rMinP (K : PySem.W.Frag) : List V → Hp → VK → Prop := fun vs H Q => ∃ (a : Addr) (ps : List Addr) (ks : List (Int × Int)), vs = [V.ref a] ∧ SqL K H a (ps.map V.ref) ∧ ps.length = ks.length ∧ (∀ (i : Nat) p k, ps[i]? = some p → ks[i]? = some k → SqT K H p [.int k.1, .int k.2]) ∧
  0 < ks.length ∧ (∀ k ∈ ks, smallP2 k = true) ∧ ∀ (i : Nat) p k, ps[i]? = some p → ks[i]? = some k → (∀ k' ∈ ks, codeP k ≤ codeP k') → Q (.ref p) H
theorem dp_pairs {K : PySem.W.Frag} {H : Hp} : ∀ {ps : List Addr} {ks : List (Int × Int)}, ps.length = ks.length → (∀ (i : Nat) p k, ps[i]? = some p → ks[i]? = some k → SqT K H p [.int k.1, .int k.2]) → DpAll K H (ps.map V.ref) (ks.map pairD)
  | [], [], _, _ => .nil
  | [], _ :: _, h, _ => by simp at h
  | _ :: _, [], h, _ => by simp at h
  | p :: ps, k :: ks, h, q => .cons (.tup (q 0 p k rfl rfl) (.cons (.int _) (.cons (.int _) .nil))) (dp_pairs (by simpa using h) fun i p' k' h1 h2 => q (i + 1) p' k' (by simpa using h1) (by simpa using h2))
theorem refs_vals : ∀ {ps : List Addr} {us : List Value}, Vals (ps.map V.ref) us → us = ps.map Value.ref
  | [], _, .nil => rfl
  | p :: ps, _, .cons r t => by
    cases r
    rw [refs_vals t]
    rfl
theorem cr_minP {k : Nat} (hr : Room k X.A) (hc : X.calm = true) : CallR X (.builtin "min") (rMinP X.K) := by
  intro pins s σ H vs us Q I r h
  obtain ⟨a, ps, ks, rfl, hs, hl, hT, hne, hsm, q⟩ := h
  have hu : X.A.units + 65 < cLine := by have := hr.un; omega
  obtain ⟨its, rv, pl, hz⟩ := I.list hs
  rw [Vals.ref1 r]
  have eits := refs_vals rv
  obtain ⟨as, rd⟩ := Dp.readsAll I (ks.map pairD) (ps.map V.ref) its (dp_pairs hl hT) rv
  have il : its.length = ks.length := by rw [eits, List.length_map, hl]
  have rd2 : ReadsAll s.heap its.toArray.toList (ks.map pairD) as := by rw [List.toList_toArray]; exact rd
  have al : AlikeAll (ks.map pairD) := ⟨fun x hx y hy => by
    obtain ⟨k1, _, rfl⟩ := List.mem_map.mp hx
    obtain ⟨k2, _, rfl⟩ := List.mem_map.mp hy
    simp [pairD, alike, alikeAll], fun x hx => by
    obtain ⟨k1, _, rfl⟩ := List.mem_map.mp hx
    unfold pairD
    simp⟩
  have dep : PyData.depthAll (ks.map pairD) ≤ 2 := by
    clear al rd rd2 hsm q hne il hl hT
    induction ks with
    | nil => simp [PyData.depthAll]
    | cons k ks ih => simp only [List.map_cons, PyData.depthAll, pairD, PyData.depth] at ih ⊢; omega
  refine call_min_walkH (iter_listW (A := X.A.in1) (I.ok.hd hc) pl.isList fun s₂ e W st hfp hw hk => ?_)
  refine ⟨_, _, _, _, _, _, _, s.heap, fun i j => decide (codeP (ks.getD i (0, 0)) < codeP (ks.getD j (0, 0))), rfl, W, st, hfp, by rw [List.size_toArray, il]; exact hne, hw, hk, ?_, fun v s' hP m => ?_⟩
  · intro i j vi vj s1 Q1 E1 hk1 hi hj hq
    have li : i < ks.length := by
      have := (Array.getElem?_eq_some_iff.mp hi).1
      rw [List.size_toArray, il] at this
      exact this
    have lj : j < ks.length := by
      have := (Array.getElem?_eq_some_iff.mp hj).1
      rw [List.size_toArray, il] at this
      exact this
    have gi : ∀ i, i < ks.length → (ks.map pairD).getD i .none = pairD (ks.getD i (0, 0)) := fun i hi => by
      rw [List.getD_eq_getElem?_getD, List.getD_eq_getElem?_getD, List.getElem?_map, List.getElem?_eq_getElem hi]
      rfl
    have sm : ∀ i, i < ks.length → smallP2 (ks.getD i (0, 0)) = true := fun i hi => by
      rw [List.getD_eq_getElem?_getD, List.getElem?_eq_getElem hi]
      exact hsm _ (List.getElem_mem hi)
    refine cmpIn_lt (A := X.A.in1) rd2 al (by show X.A.units + 1 + _ < _; omega) i j vi vj s1 Q1 E1 hk1 hi hj ?_
    dsimp only
    rw [gi i li, gi j lj, pair_lt (sm i li) (sm j lj)]
    exact hq
  · obtain ⟨h', tk, rfl, hk'⟩ := moved_old e rfl m
    obtain ⟨a1, a2⟩ := argBest_lt (fun i => codeP (ks.getD i (0, 0))) (its.toArray.size - 1)
    obtain ⟨n, hn⟩ : ∃ n, n = argBest (fun i j => decide (codeP (ks.getD i (0, 0)) < codeP (ks.getD j (0, 0)))) (its.toArray.size - 1) := ⟨_, rfl⟩
    rw [← hn] at hP a1 a2
    have ln : n < ks.length := by
      rw [List.size_toArray, il] at a1
      omega
    have lp : n < ps.length := by rw [hl]; exact ln
    have ev : v = Value.ref ps[n] := by
      have : its.toArray[n]? = some v := hP
      rw [List.getElem?_toArray, eits, List.getElem?_map, List.getElem?_eq_getElem lp] at this
      exact (Option.some.inj this).symm
    subst ev
    refine ⟨.ref ps[n], H, I.kept hk', rfl, q n ps[n] ks[n] (List.getElem?_eq_getElem lp) (List.getElem?_eq_getElem ln) fun k' hk2 => ?_⟩
    obtain ⟨j, hj, e2⟩ := List.getElem_of_mem hk2
    have := a2 j (by rw [List.size_toArray, il]; omega)
    rw [List.getD_eq_getElem?_getD, List.getD_eq_getElem?_getD, List.getElem?_eq_getElem ln, List.getElem?_eq_getElem hj] at this
    rw [← e2]
    exact this
end
/-! in the layer -/
def prsW : List W → Option (List (Int × Int))
  | [] => some []
  | .tup [.int a, .int b] :: r => (prsW r).map ((a, b) :: ·)
  | _ => none
def wMinP (ws : List W) (h : PH) : Option (W × PH) := (prsW ws).bind fun ks => if ks.all smallP2 = true then (minI (ks.map codeP)).map fun m => (.tup [.int (m / 1000), .int (m % 1000)], h) else none
section
variable {K : PySem.W.Frag}
theorem prs_rep {f : List Addr} {H : Hp} : ∀ {ws : List W} {vs : List V} {ks : List (Int × Int)}, prsW ws = some ks → Reps K f H ws vs → ∃ ps : List Addr, vs = ps.map V.ref ∧ ps.length = ks.length ∧ ∀ (i : Nat) p k, ps[i]? = some p → ks[i]? = some k → SqT K H p [.int k.1, .int k.2]
  | [], vs, ks, e, r => by
    cases e
    cases r
    exact ⟨[], rfl, rfl, fun i p k h _ => by simp at h⟩
  | w :: ws, vs, ks, e, r => by
    unfold prsW at e
    split at e
    · rename_i heq
      cases heq
    · rename_i a b r' heq
      cases heq
      obtain ⟨ks', e1, rfl⟩ := Option.map_eq_some_iff.mp e
      simp only [Reps] at r
      obtain ⟨v, vs', rfl, r1, r2⟩ := r
      obtain ⟨p, us, rfl, h1, h2⟩ := rep_tup.mp r1
      have eu := intsW_rep (bs := [a, b]) rfl h2
      subst eu
      obtain ⟨ps, rfl, hl, hT⟩ := prs_rep e1 r2
      refine ⟨p :: ps, rfl, by simp [hl], fun i p' k h1' h2' => ?_⟩
      cases i with
      | zero =>
        simp at h1' h2'
        subst h1' h2'
        exact h1
      | succ i => exact hT i p' k (by simpa using h1') (by simpa using h2')
    · cases e
theorem q_minP : OpM K (RW K) (rMinP K) wMinP := by
  intro f h H a ws vs Q E s hq r p
  unfold wMinP at p
  cases e : prsW ws with
  | none => rw [e] at p; exact p.elim
  | some ks =>
    rw [e, Option.bind_some] at p
    split at p
    · rename_i hs
      cases em : minI (ks.map codeP) with
      | none => rw [em] at p; exact p.elim
      | some m =>
        rw [em] at p
        obtain ⟨m1, m2⟩ := minI_is em
        obtain ⟨k0, hk0, _⟩ := List.mem_map.mp m1
        obtain ⟨ps, rfl, hl, hT⟩ := prs_rep e r
        refine ⟨a, ps, ks, rfl, hq, hl, hT, List.length_pos_iff.mpr (List.ne_nil_of_mem hk0), fun k hk => List.all_eq_true.mp hs k hk, fun i q k h1 h2 hmin => ?_⟩
        have hk := List.mem_of_getElem? h2
        have hsm := List.all_eq_true.mp hs k hk
        have ek : codeP k = m := by
          have a1 := m2 _ (List.mem_map.mpr ⟨k, hk, rfl⟩)
          obtain ⟨k1, hk1, e1⟩ := List.mem_map.mp m1
          have := hmin k1 hk1
          omega
        unfold smallP2 at hsm
        rw [Bool.and_eq_true] at hsm
        have s1 := of_decide_eq_true hsm.1
        have s2 := of_decide_eq_true hsm.2
        unfold codeP at ek
        have e1 : m / 1000 = k.1 := by omega
        have e2 : m % 1000 = k.2 := by omega
        refine post_ok s p (rep_tup.mpr ⟨q, _, rfl, hT i q k h1 h2, ?_⟩)
        rw [e1, e2]
        exact .cons (rep_int.mpr rfl) (.cons (rep_int.mpr rfl) .nil)
    · exact p.elim
end
end Mir

/-! Mir: d.update(e), two dicts. -/
namespace Mir
open PySem PySem.Spec PyProof.Rows L2
section
variable {X : Cx} {pins : List (Addr × Obj)} {σ : L2.St} {H : Hp} {s : Shared} {a b : Addr} {A : Around} {E : Value → Shared → Prop}
theorem d_upd {kvs more : List (Key × V)} {Q : Value → Shared → Prop} (I : Inv X pins σ H s) (e : H a = some (.dK kvs)) (e2 : H b = some (.dK more)) (hab : a ≠ b) (hl : kvs.length + more.length ≤ sizeLine)
    (h : ∀ s' : Shared, Inv X pins σ (upd H a (.dK (mergeK kvs more))) s' → Q .none s') :
    wpAny (model X.prog X.w) A (call (.builtin "dict.update") [.ref a, .ref b]) Q E s := by
  obtain ⟨z, hd, vs, rel, dd⟩ := dk_of I.hok e
  obtain ⟨z2, hd2, rs, rel2, dd2⟩ := dk_of I.hok e2
  refine call_meetsIn PySem.F.slot_dict_update dd.typeIs PySem.F.entry_dict_update (PySem.F.args_dict_update_2 _ _) (meets_dict_update (mixKind X.prog X.w) a b hab hd2) ⟨vs, rs, dd, dd2, by rw [← rel.length, ← rel2.length]; exact hl, fun h' dd' _ hs => ?_⟩
  have he : ∃ q, h'.get? a = some q := let ⟨q, _, _, hq, _⟩ := dd'; ⟨q, hq⟩
  exact h _ (d_write (t' := s.toks) I (by rw [e]; exact True.intro) hs he (dk_new (Nat.le_trans (length_mergeK more kvs) hl) hd (rel2.merge rel) dd'))
end
def tDUpd (td ty : TE) : TE := fun σ H Q => td σ H fun x H1 => ∃ a, x = .ref a ∧ IsD H1 a ∧ ty σ H1 fun y H2 => ∃ (b : Addr) (kvs more : List (Key × V)), y = .ref b ∧ H2 a = some (.dK kvs) ∧ H2 b = some (.dK more) ∧ a ≠ b ∧ kvs.length + more.length ≤ sizeLine ∧ Q .non (upd H2 a (.dK (mergeK kvs more)))
section
variable {X : Cx} {o e : Expr} {td ty : TE} {apos cpos : Pos}
theorem pe_dupd (ho : PE X o td) (he : PE X e ty) (m : M1 X o "update" apos e cpos) : PE X (.Call (.Attribute o "update" apos) [e] [] cpos) (tDUpd td ty) := by
  refine ⟨fun pins s σ H Q I h => ?_⟩
  refine wpAny_Call_method m.base m.few m.line PySem.F.plainAttrs_dict PySem.F.slot_dict_update PySem.F.type_dict_update (thn (ho.run pins s σ H _ I h) fun u s1 ⟨x, H1, I1, rx, a, ex, d, q1⟩ => ?_)
  subst ex
  obtain rfl : u = Value.ref a := rx
  obtain ⟨t1, t2, _⟩ := isD_at I1 d
  refine ⟨t1, t2, ?_⟩
  rw [m.trees]
  refine Calls.callWith_builtin rfl (Calls.evalArgs_plain (Calls.spliced_cons (thn (he.run pins s1 σ H1 _ I1 q1) fun iv s2 ⟨y, H2, I2, ry, b, kvs, more, ey, e1, e2, hab, hl, q2⟩ => Calls.spliced_nil ?_)))
  subst ey
  obtain rfl : iv = Value.ref b := ry
  exact d_upd I2 e1 e2 hab hl fun s3 I3 => ⟨.non, _, I3, rfl, q2⟩
end
def dUpd1 (x y : W) (h : PH) : Option (W × PH) := match x, y with
  | .ref n, .ref k => match h[n]?, h[k]? with
    | some (.dK kvs), some (.dK more) => if n ≠ k ∧ kvs.length + more.length ≤ 1000000 then some (.non, h.set n (.dK (mergeW kvs more))) else none
    | _, _ => none
  | _, _ => none
def mUpd1 (m m1 : EM) : EM := fun ps h => (m ps h).bind fun x h1 => if isDW x h1 = true then (m1 ps h1).bind fun y h2 => .ofO (dUpd1 x y h2) else .stuck
section
variable {X : Cx} {W0 : WX} {o e : Expr} {m m1 : EM} {apos cpos : Pos}
theorem krep_len {K : PySem.W.Frag} {f : List Addr} {H : Hp} : ∀ {ws : List (Key × W)} {vs : List (Key × V)}, KRep K f H ws vs → ws.length = vs.length
  | [], vs, r => by simp only [KRep] at r; subst r; rfl
  | (k, w) :: ws, vs, r => by
    simp only [KRep] at r
    obtain ⟨v, vs', rfl, _, r2⟩ := r
    simp [krep_len r2]
theorem se_upd1 (ho : SE X W0 o m) (ha : SE X W0 e m1) (M : M1 X o "update" apos e cpos := by exact ⟨rfl, rfl, rfl, rfl⟩) : SE X W0 (.Call (.Attribute o "update" apos) [e] [] cpos) (mUpd1 m m1) :=
  pe_imp (pe_dupd ho ha M) fun σ H Q h => by
    obtain ⟨f, h, ps, s, sr, p⟩ := h
    refine ⟨f, h, ps, s, sr, (Post.bind (R1 := RW X.K) s back_W p).mono (fun v H1 hh => ?_) fun _ _ _ e => e⟩
    obtain ⟨f1, h1, x, s1, q1, p1⟩ := hh
    split at p1
    · rename_i ht
      obtain ⟨a, rfl, hd⟩ := isD_of s1.sim q1 ht
      refine ⟨a, rfl, hd, f1, h1, ps, s1.sim, s1.srep s sr, (Post.bind (R1 := RW X.K) s1.sim back_W p1).mono (fun v2 H2 hh => ?_) fun _ _ _ e => e⟩
      obtain ⟨f2, h2, y, s2, q2, p2⟩ := hh
      have rx := s2.rep s1.sim q1
      unfold dUpd1 at p2
      split at p2
      · rename_i n k
        split at p2
        · rename_i kvs more hn hk
          split at p2
          · rename_i c
            obtain ⟨a', ea, hf, vs, g1, g2⟩ := s2.sim.at hn rx
            cases ea
            obtain ⟨b, eb, hf2, us, g3, g4⟩ := s2.sim.at hk q2
            subst eb
            have hab : a ≠ b := fun z => by
              subst z
              exact c.1 (nd_inj s2.sim.nd hf hf2)
            refine ⟨b, vs, us, rfl, g1, g3, hab, by rw [← krep_len g2, ← krep_len g4, sizeLine_eq]; omega, ?_⟩
            have st := s2.sim.put_dK hf (merge_rep g4 g2) (fun o us z => by rw [g1] at z; cases z)
            exact p2 f2 _ _ st (rep_non.mpr rfl)
          · exact p2.elim
        · exact p2.elim
      · exact p2.elim
    · exact p1.elim
end
end Mir

/-! Mir: a dict, == {} or != {}. -/
namespace Mir
open PySem PySem.Spec PyProof.Rows L2
section
variable {X : Cx}
def rDE (neg : Bool) (x y : V) (H : Hp) (Q : VK) : Prop := ∃ (a b : Addr) (kvs : List (Key × V)), x = .ref a ∧ y = .ref b ∧ H a = some (.dK kvs) ∧ H b = some (.dK []) ∧ Q (.bl (neg != kvs.isEmpty)) H
theorem op_eqE (hu : X.A.units < cLine) : OpR X (compareOp .Eq) (rDE false) := by
  intro pins s σ H x y v u Q I rx ry h
  obtain ⟨a, b, kvs, rfl, rfl, e1, e2, q⟩ := h
  obtain rfl : v = Value.ref a := rx
  obtain rfl : u = Value.ref b := ry
  obtain ⟨z, hd, vs, rel, dd⟩ := dk_of I.hok e1
  obtain ⟨z2, hd2, rs, rel2, dd2⟩ := dk_of I.hok e2
  have l1 := rel.length
  have l2 := rel2.length
  have e : (vs.length == rs.length && true) = (false != kvs.isEmpty) := by
    rw [← l1, ← l2]
    cases kvs <;> simp
  refine PySem.W.keq_eq (r := true) hd hd2 dd dd2 hu (fun hl => ?_) ⟨.bl _, H, I, rfl, by rw [e]; exact q⟩
  have : vs = [] := List.length_eq_zero_iff.mp (by rw [hl, ← l2]; rfl)
  rw [this]
  exact .nil
theorem op_neE (hu : X.A.units < cLine) : OpR X (compareOp .NotEq) (rDE true) := by
  intro pins s σ H x y v u Q I rx ry h
  obtain ⟨a, b, kvs, rfl, rfl, e1, e2, q⟩ := h
  obtain rfl : v = Value.ref a := rx
  obtain rfl : u = Value.ref b := ry
  obtain ⟨z, hd, vs, rel, dd⟩ := dk_of I.hok e1
  obtain ⟨z2, hd2, rs, rel2, dd2⟩ := dk_of I.hok e2
  have l1 := rel.length
  have l2 := rel2.length
  have e : (!(vs.length == rs.length && true)) = (true != kvs.isEmpty) := by
    rw [← l1, ← l2]
    cases kvs <;> simp
  refine PySem.W.keq_ne (r := true) hd hd2 dd dd2 hu (fun hl => ?_) ⟨.bl _, H, I, rfl, by rw [e]; exact q⟩
  have : vs = [] := List.length_eq_zero_iff.mp (by rw [hl, ← l2]; rfl)
  rw [this]
  exact .nil
theorem o_eqE {k : Nat} (hr : Room k X.A) : OpR X (compareOp .Eq) (rDE false) := op_eqE (by have := hr.units; omega)
theorem o_neE {k : Nat} (hr : Room k X.A) : OpR X (compareOp .NotEq) (rDE true) := op_neE (by have := hr.units; omega)
end
def wDE (neg : Bool) (x y : W) (h : PH) : Option (W × PH) := match x, y with
  | .ref n, .ref k => match h[n]?, h[k]? with
    | some (.dK kvs), some (.dK []) => some (.bl (neg != kvs.isEmpty), h)
    | _, _ => none
  | _, _ => none
theorem p_DE {K : PySem.W.Frag} (neg : Bool) : Op2 K (rDE neg) (wDE neg) := by
  intro f h H x y v u Q E s rx ry p
  unfold wDE at p
  split at p
  · rename_i n k
    split at p
    · rename_i kvs hn hk
      obtain ⟨a, rfl, hf, vs, g1, g2⟩ := s.at hn rx
      obtain ⟨b, rfl, hf2, us, g3, g4⟩ := s.at hk ry
      have hu : us = [] := List.length_eq_zero_iff.mp (by rw [← krep_len g4]; rfl)
      subst hu
      refine ⟨a, b, vs, rfl, rfl, g1, g3, ?_⟩
      have e : vs.isEmpty = kvs.isEmpty := by
        have := krep_len g2
        cases vs <;> cases kvs <;> simp_all
      rw [e]
      exact post_ok s p (rep_bl.mpr rfl)
    · exact p.elim
  · exact p.elim
abbrev wEqE := wDE false
abbrev wNeE := wDE true
theorem p_eqE {K : PySem.W.Frag} : Op2 K (rDE false) wEqE := p_DE false
theorem p_neE {K : PySem.W.Frag} : Op2 K (rDE true) wNeE := p_DE true
theorem wNeE_is {n k : Nat} {h : PH} {kvs : List (Key × W)} (e : h[n]? = some (.dK kvs)) (e2 : h[k]? = some (.dK [])) : wNeE (.ref n) (.ref k) h = some (.bl (!kvs.isEmpty), h) := by
  simp only [wDE, e, e2]
  cases kvs <;> rfl
end Mir

/-! Mir: list(x) of what stands: a tuple, a list, a dict. -/
namespace Mir
open PySem PySem.Spec PyProof.Rows L2
section
variable {X : Cx} {K : PySem.W.Frag}
def rListV (K : PySem.W.Frag) : List V → Hp → VK → Prop := fun xs H Q => (∃ p ys, xs = [.ref p] ∧ (SqL K H p ys ∨ SqT K H p ys) ∧ ∀ l, H l = none → Q (.ref l) (upd H l (.lst ys))) ∨
  ∃ (a : Addr) (kvs : List (Key × V)), xs = [.ref a] ∧ Rd H a (.dK kvs) ∧ ∀ p, H p = none → Q (.ref p) (upd H p (.lst (kvs.map fun kv => kV kv.1)))
theorem cr_listV (hc : X.calm = true) : CallR X (.type "list") (rListV X.K) := by
  intro pins s σ H vs us Q I r h
  rcases h with h | h
  · exact call_list_of pins s σ H vs us Q I r h
  · exact call_listD hc pins s σ H vs us Q I r h
def lListV (x : W) (h : PH) : Option (List W × PH) := match x with
  | .tup xs => some (xs, h)
  | .fix xs => some (xs, h)
  | .ref n => match h[n]? with
    | some (.lst xs) => some (xs, h)
    | some (.dK kvs) => some (kvs.map fun p => wKey p.1, h)
    | _ => none
  | _ => none
theorem keys_reps {f : List Addr} {H : Hp} : ∀ {ws : List (Key × W)} {vs : List (Key × V)}, KRep K f H ws vs → Reps K f H (ws.map fun p => wKey p.1) (vs.map fun kv => kV kv.1)
  | [], vs, h => by
    have h : vs = [] := h
    subst h
    exact .nil
  | (k, w) :: r, vs, h => by
    obtain ⟨v, s, rfl, h2, h3⟩ := h
    refine .cons ?_ (keys_reps h3)
    cases k with
    | inl i => exact rep_int.mpr rfl
    | inr x => exact rep_str.mpr rfl
theorem q_listV : OpV K (RL K) (rListV K) lListV := by
  intro f h H x v Q E s r p
  unfold lListV at p
  split at p
  · rename_i xs
    obtain ⟨a, vs, rfl, h1, h2⟩ := rep_tup.mp r
    exact .inl ⟨a, vs, rfl, .inr h1, fun q hq => post_fresh s p h2 hq⟩
  · rename_i xs
    obtain ⟨a, vs, rfl, h1, h2⟩ := rep_fix.mp r
    exact .inl ⟨a, vs, rfl, .inl h1.seq, fun q hq => post_fresh s p h2 hq⟩
  · rename_i n
    split at p
    · rename_i xs hn
      obtain ⟨a, rfl, _, vs, h1, h2⟩ := s.at hn r
      exact .inl ⟨a, vs, rfl, .inl (SqL.of h1), fun q hq => post_fresh s p h2 hq⟩
    · rename_i kvs hn
      obtain ⟨a, rfl, _, vs, h1, h2⟩ := s.at hn r
      exact .inr ⟨a, vs, rfl, .inl h1, fun q hq => post_fresh s p (keys_reps h2) hq⟩
    · exact p.elim
  · exact p.elim
theorem lListV_dK {n : Nat} {h : PH} {kvs : List (Key × W)} (e : h[n]? = some (.dK kvs)) : lListV (.ref n) h = some (kvs.map fun p => wKey p.1, h) := by simp only [lListV, e]
end
end Mir

/-! Mir: a dict is no text. -/
namespace Mir
open PySem PySem.Spec PyProof.Rows L2 PySem.SeqAt
theorem str_eq_declines_dict (b : Str) (u : Tok) (l : Addr) (es : Array DictEntry) (ep : Nat) (dd : Option Addr) (sl : Array (Option Value)) :
    Meets (Builtin.«str.__eq__» ⟨[.str b u, .ref l], []⟩) (fun _ R s => s.heap.get? l = some { cls := .type "dict", dict := dd, data := .dict es ep, slots := sl } ∧ R (.ok (.ret .notImplemented)) s) :=
  .of_wp fun prog w A R s h => by obtain ⟨hp, g, d, tk, os⟩ := s; obtain ⟨hl, h⟩ := h; wp_walk using wpAny_loadPart' hl, wpAny_load hl; exact ⟨_, rfl, h⟩
theorem dict_eq_declines_str (b : Str) (u : Tok) (l : Addr) (es : Array DictEntry) (ep : Nat) (dd : Option Addr) (sl : Array (Option Value)) :
    Meets (Builtin.«dict.__eq__» ⟨[.ref l, .str b u], []⟩) (fun _ R s => s.heap.get? l = some { cls := .type "dict", dict := dd, data := .dict es ep, slots := sl } ∧ R (.ok (.ret .notImplemented)) s) :=
  .of_wp fun prog w A R s h => by
    obtain ⟨hp, g, d, tk, os⟩ := s
    obtain ⟨hl, h⟩ := h
    have f1 := PySem.F.sub_str_dict
    show wpAny _ _ (Builtin.Dict.dictSlotArgs "__eq__" ⟨[.ref l, .str b u], []⟩ >>= _) _ _ _
    refine wpAny_bind ?_
    unfold Builtin.Dict.dictSlotArgs
    refine wpAny_bind (wpAny_notOrdered_dict ⟨_, hl, rfl⟩ ?_)
    show wpAny _ _ (pure (Value.ref l, Value.str b u)) _ _ _
    refine wpAny_pure ?_
    refine wpAny_bind (wpAny_isInstance (T := "str") (typeIs_str _ b u) PySem.F.sub_str_dict ?_)
    simp only [Bool.not_false, if_true]
    exact wpAny_bind (wpAny_rule (wpAny_pure ⟨_, rfl, h⟩))
section
variable {X : Cx}
def rDS (x y : V) (H : Hp) (Q : VK) : Prop := ∃ (a : Addr) (kvs : List (Key × V)) (t : Str), x = .ref a ∧ y = .str t ∧ H a = some (.dK kvs) ∧ Q (.bl false) H
theorem op_eqDS (hu : X.A.units < cLine) : OpR X (compareOp .Eq) rDS := by
  intro pins s σ H x y v u Q I rx ry h
  obtain ⟨a, kvs, t, rfl, rfl, e1, q⟩ := h
  obtain rfl : v = Value.ref a := rx
  obtain ⟨tk, rfl⟩ := ry
  obtain ⟨z, hd, vs, rel, dd⟩ := dk_of I.hok e1
  obtain ⟨⟨cls, dc, data, sl⟩, es, ep, hoa, hc, hda, hka, hpa, _⟩ := dd
  have hc : cls = .type "dict" := hc.1
  simp only at hda
  subst hc hda
  exact rc_eq_decline_or (k := false) ⟨_, hoa, rfl⟩ (typeIs_str s t tk) (by decide) PySem.F.sub_str_dict PySem.F.slot_dict_eq PySem.F.slot_str_eq_refl
    (fun _ hq => call_meets PySem.F.slot_dict_eq ⟨_, hoa, rfl⟩ PySem.F.entry_dict_eq (PySem.F.args_dict_eq_2 _ _) (dict_eq_declines_str t tk a es ep dc sl) ⟨hoa, hq⟩)
    (fun _ hq => call_meets PySem.F.slot_str_eq_refl (typeIs_str s t tk) PySem.F.entry_str_eq (PySem.F.args_str_eq_2 _ _) (str_eq_declines_dict t tk a es ep dc sl) ⟨hoa, hq⟩)
    (fun _ hq => wpAny_of_eq (rfl : isSame (.ref a) (.str t tk) = pure false) hq) (.inr hu) ⟨.bl _, H, I, rfl, q⟩
theorem o_eqS {k : Nat} (hr : Room k X.A) : OpR X (compareOp .Eq) (fun x y H Q => (rEq x y H Q ∨ rEqD X.K x y H Q) ∨ rDS x y H Q) := (o_eq hr).or (op_eqDS (by have := hr.units; omega))
end
/-- == a text, of a dict, too -/
def wEqS (x y : W) (h : PH) : Option (W × PH) := match x, y with
  | .ref n, .str _ => match h[n]? with
    | some (.dK _) => some (.bl false, h)
    | _ => none
  | x, y => wEq x y h
theorem p_eqS {K : PySem.W.Frag} : Op2 K (fun x y H Q => (rEq x y H Q ∨ rEqD K x y H Q) ∨ rDS x y H Q) wEqS := by
  intro f h H x y v u Q E s rx ry p
  unfold wEqS at p
  split at p
  · rename_i n t
    split at p
    · rename_i kvs hn
      obtain ⟨a, rfl, hf, vs, g1, g2⟩ := s.at hn rx
      exact .inr ⟨a, vs, t, rfl, rep_str.mp ry, g1, post_ok s p (rep_bl.mpr rfl)⟩
    · exact p.elim
  · exact .inl (p_eq f h H _ _ v u Q E s rx ry p)
end Mir

/-! objects, sorted, index: how their computations end -/
namespace Mir
open PySem PySem.Spec PyProof.Rows L2
section
variable {Q : W → PH → Prop} {Ql : List W → PH → Prop} {N B C : LS → PH → Prop} {R : W → PH → Prop} {ps : LS} {h : PH} {m m1 m2 : EM} {l : LM} {kc : List Str} {f c mn : Str} {n : Nat} {F : FM}
@[simp] theorem to_setfld : (sSetFld kc f m1 m2 ps h).To N R B C = (m1 ps h).To fun w g => (m2 ps g).To fun x g => OTo (setFW kc f x w g) fun g' => N ps g' := by
  simp only [sSetFld, to_thenS]
  congr 1
  funext w g
  congr 1
  funext x g
  cases setFW kc f x w g <;> simp
@[simp] theorem to_mth : (mMth c mn n F m l ps h).To Q = (m ps h).To fun x g => insOf c mn x g = true ∧ (l ps g).To fun xs g => xs.length + 1 = n ∧ (F (x :: xs) g).To Q := by
  simp [mMth]
@[simp] theorem to_mth0 : (mMth0 c mn F m ps h).To Q = (m ps h).To fun x g => insOf c mn x g = true ∧ (F [x] g).To Q := by
  simp [mMth0]
@[simp] theorem to_make : (mMake c n F l ps h).To Q = (l ps h).To fun xs g => xs.length + 1 = n ∧ (F (.ref g.length :: xs) (g ++ [.ins c []])).To fun w g2 => w = .non ∧ Q (.ref g.length) g2 := by
  simp only [mMake, to_bind]
  congr 1
  funext xs g
  by_cases e : xs.length + 1 = n
  · simp only [e, if_true, to_bind, true_and]
    congr 1
    funext w g2
    cases w <;> simp
  · simp [e]
@[simp] theorem to_onV {α : Type} {Qa : α → PH → Prop} {o : W → PH → Option (α × PH)} : (mOnV o m ps h).To Qa = (m ps h).To fun x g => PTo (o x g) Qa := by simp [mOnV]
@[simp] theorem to_rev : (mRev m ps h).To Ql = (m ps h).To fun x g => OTo (lstOf x g) fun ws => Ql ws.reverse g := by
  simp only [mRev, to_bind]
  congr 1
  funext x g
  cases lstOf x g <;> simp
@[simp] theorem to_listRg1 : (mListRg1 m ps h).To Ql = (m ps h).To fun x g => ∃ k : Int, x = .int k ∧ (-1000000 ≤ k ∧ k ≤ 1000000) ∧ Ql (rangeW 0 k.toNat) g := by
  simp only [mListRg1, to_bind]
  congr 1
  funext x g
  cases x <;> simp
@[simp] theorem to_repL : (mRepL l m ps h).To Ql = (l ps h).To fun xs g => (m ps g).To fun y g => ∃ k : Int, y = .int k ∧ (-1000000 ≤ k ∧ k ≤ 1000000 ∧ xs.length * k.toNat ≤ 16777216) ∧ Ql (List.replicate k.toNat xs).flatten g := by
  simp only [mRepL, to_bind]
  congr 1
  funext xs g
  congr 1
  funext y g
  cases y <;> simp
theorem fldW_ins {fs : List (Str × W)} (e : h[n]? = some (.ins c fs)) (hc : c ∈ kc) : fldW kc f (.ref n) h = (fs.lookup f).map fun w => (w, h) := by
  simp only [fldW, e]
  rw [if_pos hc]
theorem setFW_ins {fs : List (Str × W)} {w : W} (e : h[n]? = some (.ins c fs)) (hc : c ∈ kc) (hl : fs.length < 1000) : setFW kc f (.ref n) w h = some (h.set n (.ins c (putFW f w fs))) := by
  simp only [setFW, e]
  rw [if_pos ⟨hc, hl⟩]
theorem insOf_ins {fs : List (Str × W)} (e : h[n]? = some (.ins c fs)) (hl : fs.lookup mn = none) : insOf c mn (.ref n) h = true := by
  simp only [insOf, e]
  simp [hl]
theorem setW_dK {kvs : List (Key × W)} {y w : W} {k : Key} (e : h[n]? = some (.dK kvs)) (hk : keyW y = some k) (hl : kvs.length < 16777216) : setW (.ref n) y w h = some (h.set n (.dK (putKW kvs k w))) := by
  simp only [setW, e, hk]
  rw [if_pos (by omega)]
theorem at0 {α : Type} {x : α} {xs : List α} : atI (x :: xs) 0 = some x := by simp [atI, ixN]
theorem at1 {α : Type} {x y : α} {xs : List α} : atI (x :: y :: xs) 1 = some y := by
  rw [atI_nat _ _ (by decide)]
  rfl
theorem ints_map (l : List Int) : intsW (l.map W.int) = some l := by
  induction l with
  | nil => rfl
  | cons a r ih => simp [intsW, ih]
theorem keysI_map {α : Type} (g : α → Int) (v : α → W) (l : List α) : keysI (l.map fun a => ((.inl (g a) : Key), v a)) = some (l.map g) := by
  induction l with
  | nil => rfl
  | cons a r ih => simp [keysI, ih]
theorem find_flat {ws : List W} {y : W} {j : Nat} (hj : j < ws.length) (h1 : eqF ws[j] y = true) (h2 : ∀ m (hm : m < j), eqF (ws[m]'(by omega)) y = false) : ws.findIdx? (fun z => eqF z y) = some j := by
  rw [List.findIdx?_eq_some_iff_getElem]
  exact ⟨hj, h1, fun m hm => by simpa using h2 m hm⟩
end
end Mir

/-! arenas as values (shared by all laws) -/
namespace Mir
open PySem PySem.Spec PyProof.Rows L2
@[simp] theorem set0 {o o2 : OB} {r : PH} : (o :: r : List OB).set 0 o2 = o2 :: r := rfl
theorem ite_abs (i : Int) : 0 ≤ (if i < 0 then -i else i) := by split <;> omega
theorem decs (P : Prop) [i : Decidable P] (j : Decidable P) : @decide P i = @decide P j := by congr
@[simp] theorem wNe_nil {ns : List Int} {h : PH} : wNe (.fix (ns.map W.int)) (.fix []) h = some (.bl (!decide (ns = [])), h) := by
  rw [wNe_pl (n := 1) (m := 1) (by simp) (by simp) (by decide) (by decide)]
  congr 3
  by_cases q : ns = [] <;> simp [q]
theorem log_lit (m : Int) (h0 : 0 ≤ m) (h : m < 1152921504606846976) : m.natAbs.log2 < 9000 := by
  have : m.natAbs < 2 ^ 60 := by omega
  by_cases z : m.natAbs = 0
  · rw [z]; decide
  · exact Nat.lt_of_lt_of_le ((Nat.log2_lt z).mpr this) (by decide)
/-! ### arenas -/
abbrev Mv := Int × Int × Int
abbrev Rm := Int × List Mv
def encM (m : Mv) : W := .tup [.int m.1, .int m.2.1, .int m.2.2]
def encMs (l : List Mv) : W := .tup (l.map encM)
def encR (r : Rm) : W := .tup [.int r.1, encMs r.2]
def encI (l : List Int) : W := .tup (l.map W.int)
def encK (k : Str × List Int) : W := .tup [.str k.1, encI k.2]
def encA (rs : List Rm) (ks : List (Str × List Int)) : W := .tup [.tup (rs.map encR), .tup (ks.map encK)]
@[simp] theorem refs_M (m : Mv) : refsW (encM m) = [] := by simp [encM]
@[simp] theorem refs_Ms (m : List Mv) : refsW (encMs m) = [] := by simp [encMs, refs_map encM m fun _ _ => refs_M _]
@[simp] theorem refs_R (m : Rm) : refsW (encR m) = [] := by simp [encR]
@[simp] theorem refs_I (m : List Int) : refsW (encI m) = [] := by simp [encI]
@[simp] theorem refs_K (m : Str × List Int) : refsW (encK m) = [] := by simp [encK]
@[simp] theorem refs_A (rs : List Rm) (ks : List (Str × List Int)) : refsW (encA rs ks) = [] := by simp [encA, refs_map encR rs fun _ _ => refs_R _, refs_map encK ks fun _ _ => refs_K _]
/-- a sound move, room, arena of n rooms -/
def GM' (n : Nat) (m : Mv) : Prop := 0 ≤ m.1 ∧ m.1 < n ∧ -1000 ≤ m.2.1 ∧ m.2.1 ≤ 1000 ∧ 0 ≤ m.2.2 ∧ m.2.2 ≤ 1
def GR (n : Nat) (r : Rm) : Prop := 0 ≤ r.1 ∧ r.1 ≤ 1 ∧ r.2.length ≤ 24 ∧ ∀ m ∈ r.2, GM' n m
def GRs (n : Nat) (rs : List Rm) : Prop := ∀ r ∈ rs, GR n r
def incr (n : Nat) (l : List Int) : Prop := l.Pairwise (· < ·) ∧ ∀ x ∈ l, 0 ≤ x ∧ x < n
theorem incr.snoc {i : Nat} {l : List Int} (h : incr i l) : incr (i + 1) (l ++ [(i : Int)]) := by
  refine ⟨List.pairwise_append.mpr ⟨h.1, by simp, fun a ha b hb => ?_⟩, fun x hx => ?_⟩
  · rw [List.mem_singleton.mp hb]
    exact (h.2 a ha).2
  · rcases List.mem_append.mp hx with z | z
    · have := h.2 x z
      omega
    · rw [List.mem_singleton.mp z]
      omega
theorem incr.up {i j : Nat} {l : List Int} (h : incr i l) (ij : i ≤ j) : incr j l := ⟨h.1, fun x hx => by have := h.2 x hx; omega⟩
def GI (n : Nat) (l : List Int) : Prop := l.length ≤ n ∧ incr n l
theorem get_end (a b : OB) (g : PH) (y : OB) : (a :: b :: (g ++ [y]) : List OB)[g.length + 1 + 1]? = some y := by simp
theorem set_end (a b : OB) (g : PH) (y z : OB) : (a :: b :: (g ++ [y]) : List OB).set (g.length + 1 + 1) z = a :: b :: (g ++ [z]) := by simp
theorem range_get {lo : Int} {n i : Nat} {w : W} (e : (rangeW lo n)[i]? = some w) : i < n ∧ w = .int (lo + (i : Nat)) := by
  unfold rangeW at e
  rw [List.getElem?_map] at e
  by_cases h : i < n
  · rw [List.getElem?_range h] at e
    exact ⟨h, (Option.some.inj e).symm⟩
  · rw [List.getElem?_eq_none (by rw [List.length_range]; omega)] at e
    cases e
@[simp] theorem range_len {lo : Int} {n : Nat} : (rangeW lo n).length = n := by simp [rangeW]
def rm (rs : List Rm) (i : Int) : Rm := rs.getD i.toNat (0, [])
def mv (ms : List Mv) (i : Int) : Mv := ms.getD i.toNat (0, 0, 0)
section
variable {rs : List Rm} {ks : List (Str × List Int)} {ms : List Mv} {i : Int} {Q : W → Prop} {n : Nat} {h : PH}
theorem oto_rm (h0 : 0 ≤ i) (h1 : i < rs.length) : OTo (atI (rs.map encR) i) Q = Q (encR (rm rs i)) := by
  have hi : i.toNat < rs.length := by omega
  rw [atI_map, oto_map, atI_nat _ _ h0, List.getElem?_eq_getElem hi, oto_some]
  simp [rm, List.getD, List.getElem?_eq_getElem hi]
theorem oto_mv (h0 : 0 ≤ i) (h1 : i < ms.length) : OTo (atI (ms.map encM) i) Q = Q (encM (mv ms i)) := by
  have hi : i.toNat < ms.length := by omega
  rw [atI_map, oto_map, atI_nat _ _ h0, List.getElem?_eq_getElem hi, oto_some]
  simp [mv, List.getD, List.getElem?_eq_getElem hi]
theorem rm_mem (h0 : 0 ≤ i) (h1 : i < rs.length) : rm rs i ∈ rs := by
  have hi : i.toNat < rs.length := by omega
  simp [rm, List.getD, List.getElem?_eq_getElem hi]
theorem mv_mem (h0 : 0 ≤ i) (h1 : i < ms.length) : mv ms i ∈ ms := by
  have hi : i.toNat < ms.length := by omega
  simp [mv, List.getD, List.getElem?_eq_getElem hi]
@[simp] theorem ix_A0 : wIx (encA rs ks) (.int 0) h = some (.tup (rs.map encR), h) := rfl
@[simp] theorem ix_A1 : wIx (encA rs ks) (.int 1) h = some (.tup (ks.map encK), h) := rfl
@[simp] theorem ix_R0 {r : Rm} : wIx (encR r) (.int 0) h = some (.int r.1, h) := rfl
@[simp] theorem ix_R1 {r : Rm} : wIx (encR r) (.int 1) h = some (encMs r.2, h) := rfl
@[simp] theorem ix_M0 {m : Mv} : wIx (encM m) (.int 0) h = some (.int m.1, h) := rfl
@[simp] theorem ix_M1 {m : Mv} : wIx (encM m) (.int 1) h = some (.int m.2.1, h) := rfl
@[simp] theorem ix_Ms {j : Int} : wIx (encMs ms) (.int j) h = (atI (ms.map encM) j).map fun w => (w, h) := rfl
@[simp] theorem len_Ms : wLen [encMs ms] h = some (.int ms.length, h) := by simp [encMs]
@[simp] theorem it_Ms {k : Nat} : iterOf k (encMs ms) h = some (itS (ms.map encM)) := rfl
@[simp] theorem itE_Ms {k : Nat} : iterE k (encMs ms) h = some (itE (itS (ms.map encM))) := rfl
end
end Mir

/-! the draws: a list of the script and three numbers (shared) -/
namespace Mir
open PySem PySem.Spec PyProof.Rows L2
/-- the draws: the script, the place, the digits left, the count -/
def Dr (sc : List Int) (B : Int) (o : OB) : Prop := ∃ a b c : Int, o = .lst [.fix (sc.map W.int), .int a, .int b, .int c] ∧ 0 ≤ a ∧ 0 ≤ b ∧ 0 ≤ c ∧ c ≤ B
theorem Dr.refs {sc : List Int} {B : Int} {o : OB} (d : Dr sc B o) : refsO o = [] := by
  obtain ⟨a, b, c, rfl, _⟩ := d
  simp
theorem Dr.mono {sc : List Int} {B B' : Int} {o : OB} (d : Dr sc B o) (h : B ≤ B') : Dr sc B' o := by
  obtain ⟨a, b, c, e, h1, h2, h3, h4⟩ := d
  exact ⟨a, b, c, e, h1, h2, h3, by omega⟩
end Mir

/-! dicts of rooms, comprehensions, lists of rooms (shared) -/
namespace Mir
open PySem PySem.Spec PyProof.Rows L2
section
variable {M : SM} {N B C : LS → PH → Prop} {R : W → PH → Prop} {ps : LS} {h : PH}
theorem zip_get {xs ys : List W} {i : Nat} : (itZ (itS xs) (itS ys)).get i h = some (List.zipWith (fun a b => W.tup [a, b]) xs ys)[i]? := by
  show (match (some xs[i]? : Option (Option W)), (some ys[i]? : Option (Option W)) with
  | some (some x), some (some y) => some (some (W.tup [x, y]))
  | some none, some _ => some none
  | some (some _), some none => some none
  | _, _ => none) = _
  rw [List.getElem?_zipWith]
  cases xs[i]? <;> cases ys[i]? <;> rfl
theorem for_zip {xs ys : List W} {g : GM} (I : Nat → LS → PH → Prop) (h0 : I 0 ps h)
    (step : ∀ i x y ps h, xs[i]? = some x → ys[i]? = some y → I i ps h → ∃ ps1, g (.tup [x, y]) ps = some ps1 ∧ (M ps1 h).To (I (i + 1)) R N (I (i + 1))) (fin : ∀ ps h, I (min xs.length ys.length) ps h → N ps h) :
    (forGo (itZ (itS xs) (itS ys)) g M (itZ (itS xs) (itS ys)).fuel 0 ps h).To N R B C :=
  for_gen (items := List.zipWith (fun a b => W.tup [a, b]) xs ys) I (fun i _ h _ => zip_get) (fun i w ps h e q => by
    rw [List.getElem?_zipWith] at e
    cases ex : xs[i]? with
    | none => rw [ex] at e; cases e
    | some x =>
      cases ey : ys[i]? with
      | none => rw [ex, ey] at e; cases e
      | some y =>
        rw [ex, ey] at e
        cases e
        exact step i x y ps h ex ey q) (fun ps h q => fin ps h (by simpa using q)) _ 0 ps h (Nat.zero_le _) (by simp [itZ, itS]; omega) h0
end
/-! ### dicts -/
def dkL (l : List Nat) (u : Nat → W) : List (Key × W) := l.map fun i => (.inl ((i : Nat) : Int), u i)
theorem pairs_dk {l : List Nat} {u : Nat → W} : pairsK (l.map fun i => .tup [.int (i : Nat), u i]) = some (dkL l u) := by
  induction l with
  | nil => simp [pairsK, dkL]
  | cons a r ih =>
    simp only [List.map_cons, pairsK, keyW, ih]
    simp [dkL]
theorem put_new {kvs : List (Key × W)} {k : Key} {w : W} (h : ∀ p ∈ kvs, p.1 ≠ k) : putKW kvs k w = kvs ++ [(k, w)] := by
  unfold putKW
  rw [if_neg]
  intro z
  obtain ⟨p, hp, e⟩ := List.any_eq_true.mp z
  exact h p hp (of_decide_eq_true e)
theorem merge_new : ∀ {b a : List (Key × W)}, (a ++ b).Pairwise (fun p q => p.1 ≠ q.1) → mergeW a b = a ++ b
  | [], a, _ => by simp [mergeW]
  | (k, w) :: r, a, h => by
    show mergeW (putKW a k w) r = _
    have h1 : ∀ p ∈ a, p.1 ≠ k := fun p hp => (List.pairwise_append.mp h).2.2 p hp (k, w) List.mem_cons_self
    rw [put_new h1, merge_new (by simpa using h)]
    simp
theorem merge_dk {l : List Nat} {u : Nat → W} (nd : l.Nodup) : mergeW [] (dkL l u) = dkL l u := by
  rw [merge_new]
  · rfl
  · rw [List.nil_append]
    unfold dkL
    rw [List.pairwise_map]
    exact nd.imp fun {a b} h z => h (by simp only [Sum.inl.injEq] at z; omega)
theorem get_dk {l : List Nat} {u : Nat → W} {t : Nat} : getK (dkL l u) (.inl (t : Int)) = if t ∈ l then some (u t) else none := by
  unfold getK dkL
  rw [List.find?_map]
  induction l with
  | nil => rfl
  | cons a r ih =>
    rw [List.find?_cons]
    by_cases e : a = t
    · subst e
      simp
    · have : (((fun kv : Key × W => decide (kv.1 = .inl (t : Int))) ∘ fun i : Nat => ((.inl (i : Int) : Key), u i)) a) = false := by
        simp [Function.comp]
        omega
      rw [this]
      dsimp only
      rw [ih]
      have : (t ∈ a :: r) ↔ t ∈ r := by
        rw [List.mem_cons]
        exact ⟨fun z => z.resolve_left fun z => e z.symm, .inr⟩
      by_cases c : t ∈ r
      · rw [if_pos c, if_pos (this.mpr c)]
      · rw [if_neg c, if_neg (fun z => c (this.mp z))]
theorem keys_dk {l : List Nat} {u : Nat → W} : keysI (dkL l u) = some (l.map fun i : Nat => (i : Int)) := by
  induction l with
  | nil => simp [keysI, dkL]
  | cons a r ih =>
    have : dkL (a :: r) u = (.inl (a : Int), u a) :: dkL r u := by simp [dkL]
    rw [this]
    simp only [keysI, ih]
    simp
theorem sort_up {l : List Int} (h : l.Pairwise (· ≤ ·)) : sortI l = l := up_unique (sortI_perm l) (sortI_up l) h
section
variable {h : PH} {Ql : List W → PH → Prop} {psw : LS} {g : GM} {te : EM} {tt : BM}
theorem lc_map {α : Type} {L : List α} {enc u : α → W} (hl : L.length ≤ 1000000) (he : ∀ a ∈ L, ∃ ps1, g (enc a) psw = some ps1 ∧ ∀ Q : W → PH → Prop, Q (u a) h → (te ps1 h).To Q) (q : Ql (L.map u) h) :
    (lcGo (itS (L.map enc)) g mYes te psw (itS (L.map enc)).fuel 0 [] h).To Ql := by
  refine lc_items (fun i acc g' => acc = (L.take i).map u ∧ g' = h) ⟨rfl, rfl⟩ ?_ ?_
  · rintro i w acc g' ei ⟨rfl, rfl⟩
    rw [List.getElem?_map] at ei
    obtain ⟨a, ea, rfl⟩ := Option.map_eq_some_iff.mp ei
    have hi := (List.getElem?_eq_some_iff.mp ea).1
    obtain ⟨ps1, e1, e2⟩ := he a (List.mem_of_getElem? ea)
    refine ⟨ps1, e1, ?_⟩
    rw [to_yes, Ite_true]
    refine e2 _ ⟨by simp; omega, ?_, rfl⟩
    rw [List.take_succ, ea]
    simp
  · rintro acc g' ⟨rfl, rfl⟩
    have : L.take (L.map enc).length = L := List.take_of_length_le (by simp)
    rw [this]
    exact q
theorem lc_none {α : Type} {L : List α} {enc : α → W} (he : ∀ a ∈ L, ∃ ps1, g (enc a) psw = some ps1 ∧ ∀ Q : Bool → PH → Prop, Q false h → (tt ps1 h).To Q) (q : Ql [] h) :
    (lcGo (itS (L.map enc)) g tt te psw (itS (L.map enc)).fuel 0 [] h).To Ql := by
  refine lc_items (fun i acc g' => acc = [] ∧ g' = h) ⟨rfl, rfl⟩ ?_ ?_
  · rintro i w acc g' ei ⟨rfl, rfl⟩
    rw [List.getElem?_map] at ei
    obtain ⟨a, ea, rfl⟩ := Option.map_eq_some_iff.mp ei
    obtain ⟨ps1, e1, e2⟩ := he a (List.mem_of_getElem? ea)
    refine ⟨ps1, e1, e2 _ ?_⟩
    rw [Ite_false]
    exact ⟨rfl, rfl⟩
  · rintro acc g' ⟨rfl, rfl⟩
    exact q
end
def idx (p : Nat → Bool) (n : Nat) : List Nat := (List.range n).filter p
theorem idx_mem {p : Nat → Bool} {n i : Nat} : i ∈ idx p n ↔ i < n ∧ p i = true := by simp [idx]
theorem idx_up {p : Nat → Bool} {n : Nat} : (idx p n).Pairwise (· < ·) := (List.pairwise_lt_range).filter _
theorem idx_nd {p : Nat → Bool} {n : Nat} : (idx p n).Nodup := idx_up.imp fun h => Nat.ne_of_lt h
theorem idx_len {p : Nat → Bool} {n : Nat} : (idx p n).length ≤ n := Nat.le_trans (List.length_filter_le _ _) (by simp)
theorem idx_sort {p : Nat → Bool} {n : Nat} : sortI ((idx p n).map fun i : Nat => (i : Int)) = (idx p n).map fun i : Nat => (i : Int) := sort_up (by
  rw [List.pairwise_map]
  exact idx_up.imp fun h => by omega)
theorem sorted_dk {p : Nat → Bool} {n : Nat} {u : Nat → W} {k : Nat} {h : PH} (e : h[k]? = some (.dK (dkL (idx p n) u))) : lSortV (.ref k) h = some ((idx p n).map (fun i => W.int (i : Nat)), h) := by
  simp only [lSortV, intsOf, e, keys_dk, Option.map_some, idx_sort, List.map_map]
  rfl
theorem notIn_dk {l : List Nat} {u : Nat → W} {k t : Nat} {h : PH} (e : h[k]? = some (.dK (dkL l u))) : wNotIn (.int (t : Nat)) (.ref k) h = some (.bl (!decide (t ∈ l)), h) := by
  simp only [wNotIn, inW, e, keyW, Option.map_some, get_dk]
  by_cases c : t ∈ l <;> simp [c]
theorem ix_dk {l : List Nat} {u : Nat → W} {k t : Nat} {h : PH} (e : h[k]? = some (.dK (dkL l u))) (ht : t ∈ l) : wIx (.ref k) (.int (t : Nat)) h = some (u t, h) := by
  simp only [wIx, e, keyW, Option.bind_some, get_dk]
  rw [if_pos ht]
  rfl
theorem ne_idx {l : List Nat} {h : PH} : wNe (.fix (l.map fun i => W.int (i : Nat))) (.fix (l.map fun i => W.int (i : Nat))) h = some (.bl false, h) := by
  have : plW 1 (.fix (l.map fun i => W.int (i : Nat))) = true := by
    rw [pl_fix]
    exact pls_map _ _ fun _ _ => pl_int
  rw [wNe_pl this this (by decide) (by decide)]
  simp
section
variable {h : PH} {Ql : List W → PH → Prop} {psw : LS} {g : GM} {te : EM} {tt : BM}
theorem take_filter {α : Type} {L : List α} {p : α → Bool} {i : Nat} {a : α} (e : L[i]? = some a) : (L.take (i + 1)).filter p = (L.take i).filter p ++ (if p a then [a] else []) := by
  rw [List.take_succ, e, List.filter_append]
  cases q : p a <;> simp [q]
/-- a comprehension that lets some by -/
theorem lc_filt {α : Type} {L : List α} {enc u : α → W} (p : α → Bool) (hl : L.length ≤ 1000000) (he : ∀ a ∈ L, ∃ ps1, g (enc a) psw = some ps1 ∧ (∀ Q : Bool → PH → Prop, Q (p a) h → (tt ps1 h).To Q) ∧ (p a = true → ∀ Q : W → PH → Prop, Q (u a) h → (te ps1 h).To Q)) (q : Ql ((L.filter p).map u) h) :
    (lcGo (itS (L.map enc)) g tt te psw (itS (L.map enc)).fuel 0 [] h).To Ql := by
  refine lc_items (fun i acc g' => acc = ((L.take i).filter p).map u ∧ g' = h) ⟨rfl, rfl⟩ ?_ ?_
  · rintro i w acc g' ei ⟨rfl, rfl⟩
    rw [List.getElem?_map] at ei
    obtain ⟨a, ea, rfl⟩ := Option.map_eq_some_iff.mp ei
    have hi := (List.getElem?_eq_some_iff.mp ea).1
    obtain ⟨ps1, e1, e2, e3⟩ := he a (List.mem_of_getElem? ea)
    refine ⟨ps1, e1, e2 _ ?_⟩
    rw [take_filter ea]
    cases qa : p a with
    | false =>
      rw [Ite_false]
      simp
    | true =>
      rw [Ite_true]
      refine e3 qa _ ⟨?_, by simp, rfl⟩
      rw [List.length_map]
      have := List.length_filter_le p (L.take i)
      have : (L.take i).length ≤ L.length := by simp; omega
      omega
  · rintro acc g' ⟨rfl, rfl⟩
    have : L.take (L.map enc).length = L := List.take_of_length_le (by simp)
    rw [this]
    exact q
end
/-! numbers of rooms -/
def nW (l : List Nat) : List W := l.map fun i => W.int (i : Nat)
theorem nW_ints (l : List Nat) : nW l = (l.map fun i : Nat => (i : Int)).map W.int := by unfold nW; rw [List.map_map]; rfl
theorem nW_app (l m : List Nat) : nW l ++ nW m = nW (l ++ m) := by simp [nW]
@[simp] theorem nW_len (l : List Nat) : (nW l).length = l.length := by simp [nW]
theorem nW_pl (l : List Nat) {k : Nat} : plWs k (nW l) = true := by rw [nW_ints]; exact pls_ints _
theorem nW_inj {l m : List Nat} : nW l = nW m ↔ l = m := by
  unfold nW
  constructor
  · intro h
    refine List.map_inj_right (f := fun i : Nat => W.int (i : Int)) (fun a b e => ?_) |>.mp h
    have : (a : Int) = b := W.int.inj e
    omega
  · rintro rfl
    rfl
theorem nat_mem {t : Nat} {l : List Nat} : ((t : Int) ∈ l.map fun i : Nat => (i : Int)) ↔ t ∈ l := by
  rw [List.mem_map]
  constructor
  · rintro ⟨a, ha, e⟩
    have : a = t := by omega
    rw [← this]
    exact ha
  · intro h
    exact ⟨t, h, rfl⟩
theorem wIn_nW {t : Nat} {l : List Nat} {h : PH} : wIn (.int (t : Nat)) (.fix (nW l)) h = some (.bl (decide (t ∈ l)), h) := by
  rw [nW_ints, wIn_ints, decide_eq_decide.mpr nat_mem]
theorem wNotIn_nW {t : Nat} {l : List Nat} {h : PH} : wNotIn (.int (t : Nat)) (.fix (nW l)) h = some (.bl (!decide (t ∈ l)), h) := by
  rw [nW_ints, wNotIn_ints, decide_eq_decide.mpr nat_mem]
theorem wIn_nWt {t : Nat} {l : List Nat} {h : PH} : wIn (.int (t : Nat)) (.tup (nW l)) h = some (.bl (decide (t ∈ l)), h) := by
  have : inW (.int (t : Nat)) (.tup (nW l)) h = inW (.int (t : Nat)) (.fix (nW l)) h := rfl
  unfold wIn
  rw [this]
  exact wIn_nW
theorem wNotIn_nWt {t : Nat} {l : List Nat} {h : PH} : wNotIn (.int (t : Nat)) (.tup (nW l)) h = some (.bl (!decide (t ∈ l)), h) := by
  have : inW (.int (t : Nat)) (.tup (nW l)) h = inW (.int (t : Nat)) (.fix (nW l)) h := rfl
  unfold wNotIn
  rw [this]
  exact wNotIn_nW
theorem wEq_nW {l m : List Nat} {h : PH} : wEq (.fix (nW l)) (.fix (nW m)) h = some (.bl (decide (l = m)), h) := by
  rw [wEq_pl (n := 1) (m := 1) (by rw [pl_fix]; exact nW_pl l) (by rw [pl_fix]; exact nW_pl m) (by decide) (by decide)]
  congr 3
  exact decide_eq_decide.mpr ⟨fun z => nW_inj.mp (W.fix.inj z), fun z => by rw [z]⟩
theorem wNe_nW {l m : List Nat} {h : PH} : wNe (.fix (nW l)) (.fix (nW m)) h = some (.bl (!decide (l = m)), h) := by
  rw [wNe_pl (n := 1) (m := 1) (by rw [pl_fix]; exact nW_pl l) (by rw [pl_fix]; exact nW_pl m) (by decide) (by decide)]
  congr 4
  exact decide_eq_decide.mpr ⟨fun z => nW_inj.mp (W.fix.inj z), fun z => by rw [z]⟩
theorem nW_nil : nW [] = [] := rfl
theorem wEq_nW0 {l : List Nat} {h : PH} : wEq (.fix (nW l)) (.fix []) h = some (.bl (decide (l = [])), h) := wEq_nW (m := [])
theorem wNe_nW0 {l : List Nat} {h : PH} : wNe (.fix (nW l)) (.fix []) h = some (.bl (!decide (l = [])), h) := wNe_nW (m := [])
theorem wEq_ref0 {l : List Nat} {n : Nat} {h : PH} (e : h[n]? = some (.lst (nW l))) : wEq (.ref n) (.fix []) h = some (.bl (decide (l = [])), h) := by
  unfold wEq
  rw [eqB_lst (k := 1) (m := 1) e (nW_pl l) (by simp) (by decide) (by decide)]
  show some (W.bl _, h) = _
  congr 3
  refine decide_eq_decide.mpr ⟨fun z => ?_, fun z => by rw [z]; rfl⟩
  have := W.fix.inj z
  exact nW_inj.mp (this.trans nW_nil.symm)
/-! lists with few alike -/
theorem countP_two {α : Type} {p q r : α → Bool} : ∀ {l : List α}, (∀ x ∈ l, (p x = true ↔ q x = true ∨ r x = true) ∧ ¬ (q x = true ∧ r x = true)) → l.countP p = l.countP q + l.countP r
  | [], _ => rfl
  | a :: l, h => by
    have ih := countP_two fun x hx => h x (List.mem_cons_of_mem _ hx)
    have ha := h a List.mem_cons_self
    rw [List.countP_cons, List.countP_cons, List.countP_cons, ih]
    cases hp : p a <;> cases hq : q a <;> cases hr : r a <;> simp [hp, hq, hr] at ha ⊢ <;> omega
theorem len_count {c : Nat} : ∀ (n : Nat) (l : List Nat), (∀ x ∈ l, x < n) → (∀ x, l.count x ≤ c) → l.length ≤ n * c
  | 0, l, h, _ => by
    cases l with
    | nil => simp
    | cons a r => exact absurd (h a List.mem_cons_self) (by omega)
  | n + 1, l, h, k => by
    have e : l.countP (fun _ => true) = l.countP (fun x => decide (x < n)) + l.countP (fun x => x == n) := countP_two fun x hx => by
      have := h x hx
      by_cases q : x < n
      · have : ¬ x = n := by omega
        simp [q, this]
      · have : x = n := by omega
        simp [this]
    rw [List.countP_true, List.countP_eq_length_filter] at e
    have e2 : l.count n = l.countP (fun x => x == n) := rfl
    rw [← e2, ← List.countP_eq_length_filter, List.countP_eq_length_filter] at e
    have := len_count n (l.filter fun x => decide (x < n)) (fun x hx => by simpa using (List.mem_filter.mp hx).2) fun x => Nat.le_trans (List.Sublist.count_le x List.filter_sublist) (k x)
    have := k n
    rw [Nat.succ_mul]
    omega
end Mir

/-! ranks by rounds -/
namespace Mir
open PySem PySem.Spec PyProof.Rows L2
def Tg (rs : List Rm) (i : Nat) : List Nat := (rs.getD i (0, [])).2.map fun m => m.1.toNat
def Ow (rs : List Rm) (i : Nat) : Int := (rs.getD i (0, [])).1
def newR (rs : List Rm) (side : Int) (v : Nat → Option Nat) (i : Nat) : Bool :=
  decide (Tg rs i ≠ []) && ((decide (Ow rs i = side) && (Tg rs i).any fun t => (v t).isSome) || (Tg rs i).all fun t => (v t).isSome)
def Rk (rs : List Rm) (S : List Int) (side : Int) : Nat → Nat → Option Nat
  | 0, i => if (i : Int) ∈ S then some 0 else none
  | k + 1, i => match Rk rs S side k i with
    | some r => some r
    | none => if newR rs side (Rk rs S side k) i = true then some (k + 1) else none
/-- ranks below k -/
def Vk (rs : List Rm) (S : List Int) (side : Int) : Nat → Nat → Option Nat
  | 0, _ => none
  | k + 1, i => Rk rs S side k i
section
variable {rs : List Rm} {S : List Int} {side : Int}
theorem Rk_succ (k i : Nat) : Rk rs S side (k + 1) i = match Rk rs S side k i with
    | some r => some r
    | none => if newR rs side (Rk rs S side k) i = true then some (k + 1) else none := rfl
theorem Rk_keep {k i r : Nat} (h : Rk rs S side k i = some r) : Rk rs S side (k + 1) i = some r := by rw [Rk_succ, h]
theorem Rk_up {k m i r : Nat} (h : Rk rs S side k i = some r) (hm : k ≤ m) : Rk rs S side m i = some r := by
  induction m with
  | zero => have : k = 0 := by omega
            subst this; exact h
  | succ m ih =>
    by_cases q : k = m + 1
    · subst q; exact h
    · exact Rk_keep (ih (by omega))
theorem Rk_new {k i r : Nat} (h0 : Rk rs S side k i = none) (h : Rk rs S side (k + 1) i = some r) : r = k + 1 ∧ newR rs side (Rk rs S side k) i = true := by
  rw [Rk_succ, h0] at h
  dsimp only at h
  split at h
  · rename_i c
    exact ⟨(Option.some.inj h).symm, c⟩
  · cases h
theorem Rk_le {k i r : Nat} (h : Rk rs S side k i = some r) : r ≤ k := by
  induction k with
  | zero =>
    simp only [Rk] at h
    split at h
    · cases h; exact Nat.le_refl _
    · cases h
  | succ k ih =>
    cases q : Rk rs S side k i with
    | some r2 =>
      rw [Rk_keep q] at h
      cases h
      have := ih q
      omega
    | none => exact Nat.le_of_eq (Rk_new q h).1
/-- what is new at k has rank k -/
theorem Vk_new {k i r : Nat} (h0 : Vk rs S side k i = none) (h : Rk rs S side k i = some r) : r = k := by
  cases k with
  | zero => exact Nat.le_zero.mp (Rk_le h)
  | succ k => exact (Rk_new h0 h).1
theorem Vk_keep {k i r : Nat} (h : Vk rs S side k i = some r) : Rk rs S side k i = some r := by
  cases k with
  | zero => cases h
  | succ k => exact Rk_keep h
theorem newR_iff {v : Nat → Option Nat} {i : Nat} : newR rs side v i = true ↔ Tg rs i ≠ [] ∧ ((Ow rs i = side ∧ ∃ t ∈ Tg rs i, (v t).isSome = true) ∨ ∀ t ∈ Tg rs i, (v t).isSome = true) := by
  simp [newR, List.any_eq_true, List.all_eq_true]
/-- a new one has a move to the last ones -/
theorem new_step {k i : Nat} (h0 : Rk rs S side k i = none) (h : newR rs side (Rk rs S side k) i = true) : ∃ t ∈ Tg rs i, Vk rs S side k t = none ∧ (Rk rs S side k t).isSome = true := by
  obtain ⟨hne, hh⟩ := newR_iff.mp h
  have some1 : ∃ t ∈ Tg rs i, (Rk rs S side k t).isSome = true := by
    rcases hh with ⟨_, h⟩ | h
    · exact h
    · obtain ⟨t, ht⟩ := List.exists_mem_of_ne_nil _ hne
      exact ⟨t, ht, h t ht⟩
  cases k with
  | zero =>
    obtain ⟨t, ht, h⟩ := some1
    exact ⟨t, ht, rfl, h⟩
  | succ k =>
    apply Classical.byContradiction
    intro no
    have old : ∀ t ∈ Tg rs i, (Rk rs S side (k + 1) t).isSome = true → (Rk rs S side k t).isSome = true := fun t ht hs => by
      cases q : Rk rs S side k t with
      | some r => rfl
      | none => exact absurd ⟨t, ht, q, hs⟩ no
    have h1 : Rk rs S side k i = none := by
      cases q : Rk rs S side k i with
      | none => rfl
      | some r => rw [Rk_keep q] at h0; cases h0
    have : newR rs side (Rk rs S side k) i = true := newR_iff.mpr ⟨hne, by
      rcases hh with ⟨a, t, ht, b⟩ | h
      · exact .inl ⟨a, t, ht, old t ht b⟩
      · exact .inr fun t ht => old t ht (h t ht)⟩
    rw [Rk_succ, h1] at h0
    dsimp only at h0
    rw [if_pos this] at h0
    cases h0
theorem Rk_out {k i : Nat} (hS : ∀ x ∈ S, 0 ≤ x ∧ x < rs.length) (hi : rs.length ≤ i) : Rk rs S side k i = none := by
  induction k with
  | zero =>
    simp only [Rk]
    rw [if_neg]
    intro h
    have := (hS _ h).2
    omega
  | succ k ih =>
    rw [Rk_succ, ih]
    dsimp only
    rw [if_neg]
    intro h
    have := (newR_iff.mp h).1
    apply this
    unfold Tg
    rw [List.getD, List.getElem?_eq_none hi]
    rfl
/-- no more comes -/
theorem Rk_stab {k m : Nat} (h : ∀ i, Rk rs S side (k + 1) i = Rk rs S side k i) (hm : k ≤ m) : Rk rs S side m = Rk rs S side k := by
  induction m with
  | zero => have : k = 0 := by omega
            subst this; rfl
  | succ m ih =>
    by_cases q : k = m + 1
    · subst q; rfl
    · have e := ih (by omega)
      funext i
      have z := h i
      rw [Rk_succ] at z
      rw [Rk_succ, e]
      cases y : Rk rs S side k i with
      | some r => rfl
      | none =>
        rw [y] at z
        dsimp only at z ⊢
        by_cases c : newR rs side (Rk rs S side k) i = true
        · rw [if_pos c] at z; cases z
        · rw [if_neg c]
theorem Rk_none {m : Nat} (h : ∀ i, Rk rs S side 0 i = none) : ∀ i, Rk rs S side m i = none := by
  have : ∀ i, Rk rs S side 1 i = Rk rs S side 0 i := by
    intro i
    rw [h i]
    cases q : Rk rs S side 1 i with
    | none => rfl
    | some r =>
      obtain ⟨t, ht, _, hs⟩ := new_step (h i) (Rk_new (h i) q).2
      rw [h t] at hs
      cases hs
  intro i
  rw [Rk_stab this (Nat.zero_le m)]
  exact h i
/-- the rooms of rank k -/
def Lk (rs : List Rm) (S : List Int) (side : Int) (k : Nat) : List Nat := (List.range rs.length).filter fun i => (Vk rs S side k i).isNone && (Rk rs S side k i).isSome
theorem Lk_mem {k i : Nat} (hS : ∀ x ∈ S, 0 ≤ x ∧ x < rs.length) : i ∈ Lk rs S side k ↔ Vk rs S side k i = none ∧ (Rk rs S side k i).isSome = true := by
  unfold Lk
  simp only [List.mem_filter, List.mem_range, Bool.and_eq_true, Option.isNone_iff_eq_none]
  refine ⟨fun h => h.2, fun h => ⟨?_, h⟩⟩
  apply Classical.byContradiction
  intro hi
  rw [Rk_out hS (by omega)] at h
  cases h.2
theorem Lk_lt {k i : Nat} (h : i ∈ Lk rs S side k) : i < rs.length := List.mem_range.mp (List.mem_filter.mp h).1
theorem Lk_up {k : Nat} : (Lk rs S side k).Pairwise (· < ·) := (List.pairwise_lt_range).filter _
theorem Lk_nd {k : Nat} : (Lk rs S side k).Nodup := Lk_up.imp fun h => Nat.ne_of_lt h
/-- how many moves still lead to rooms without rank -/
def cnt (rs : List Rm) (S : List Int) (side : Int) (k i : Nat) : Nat := (Tg rs i).countP fun t => (Vk rs S side k t).isNone
theorem countP_split {α : Type} {p q r : α → Bool} : ∀ {l : List α}, (∀ x ∈ l, (p x = true ↔ q x = true ∨ r x = true) ∧ ¬ (q x = true ∧ r x = true)) → l.countP p = l.countP q + l.countP r
  | [], _ => rfl
  | a :: l, h => by
    have ih := countP_split (l := l) fun x hx => h x (List.mem_cons_of_mem _ hx)
    obtain ⟨h1, h2⟩ := h a List.mem_cons_self
    rw [List.countP_cons, List.countP_cons, List.countP_cons, ih]
    cases hp : p a <;> cases hq : q a <;> cases hr : r a <;> simp [hp, hq, hr] at h1 h2 ⊢ <;> omega
theorem cnt_next {k i : Nat} (hS : ∀ x ∈ S, 0 ≤ x ∧ x < rs.length) : cnt rs S side k i = cnt rs S side (k + 1) i + (Tg rs i).countP fun t => decide (t ∈ Lk rs S side k) := by
  unfold cnt
  refine countP_split fun t _ => ⟨?_, ?_⟩
  · simp only [Option.isNone_iff_eq_none, decide_eq_true_eq, Lk_mem hS]
    constructor
    · intro h
      cases q : Rk rs S side k t with
      | none => exact .inl q
      | some r => exact .inr ⟨h, rfl⟩
    · rintro (h | h)
      · cases q : Vk rs S side k t with
        | none => rfl
        | some r =>
          have := Vk_keep q
          rw [show Vk rs S side (k + 1) t = Rk rs S side k t from rfl, this] at h
          cases h
      · exact h.1
  · simp only [Option.isNone_iff_eq_none, decide_eq_true_eq, Lk_mem hS]
    rintro ⟨h1, _, h2⟩
    rw [show Rk rs S side k t = Vk rs S side (k + 1) t from rfl, h1] at h2
    cases h2
/-- the next ones, by what the program asks -/
theorem next_iff {k i : Nat} (hS : ∀ x ∈ S, 0 ≤ x ∧ x < rs.length) : i ∈ Lk rs S side (k + 1) ↔ Rk rs S side k i = none ∧ (∃ t ∈ Tg rs i, t ∈ Lk rs S side k) ∧ (Ow rs i = side ∨ cnt rs S side (k + 1) i = 0) := by
  rw [Lk_mem hS]
  have c0 : cnt rs S side (k + 1) i = 0 ↔ ∀ t ∈ Tg rs i, (Rk rs S side k t).isSome = true := by
    unfold cnt
    rw [List.countP_eq_zero]
    refine ⟨fun h t ht => ?_, fun h t ht => ?_⟩
    · have := h t ht
      rw [show Vk rs S side (k + 1) t = Rk rs S side k t from rfl] at this
      cases q : Rk rs S side k t with
      | none => rw [q] at this; exact absurd rfl this
      | some r => rfl
    · rw [show Vk rs S side (k + 1) t = Rk rs S side k t from rfl]
      have := h t ht
      cases q : Rk rs S side k t with
      | none => rw [q] at this; cases this
      | some r => simp
  rw [c0]
  constructor
  · rintro ⟨h1, h2⟩
    have h1 : Rk rs S side k i = none := h1
    cases q : Rk rs S side (k + 1) i with
    | none => rw [q] at h2; cases h2
    | some r =>
      have hn := (Rk_new h1 q).2
      obtain ⟨t, ht, a, b⟩ := new_step h1 hn
      exact ⟨h1, ⟨t, ht, (Lk_mem hS).mpr ⟨a, b⟩⟩, (newR_iff.mp hn).2.imp (fun z => z.1) id⟩
  · rintro ⟨h1, ⟨t, ht, hl⟩, h3⟩
    refine ⟨h1, ?_⟩
    have hs := ((Lk_mem hS).mp hl).2
    have : newR rs side (Rk rs S side k) i = true := newR_iff.mpr ⟨List.ne_nil_of_mem ht, h3.imp (fun z => ⟨z, t, ht, hs⟩) id⟩
    rw [Rk_succ, h1]
    dsimp only
    rw [if_pos this]
    rfl
/-- rooms without rank so far -/
def cN (rs : List Rm) (S : List Int) (side : Int) (k : Nat) : Nat := (List.range rs.length).countP fun i => (Vk rs S side k i).isNone
theorem cN_next {k : Nat} (h : Lk rs S side k ≠ []) : cN rs S side (k + 1) < cN rs S side k := by
  unfold cN
  have e : (List.range rs.length).countP (fun i => (Vk rs S side k i).isNone) = (List.range rs.length).countP (fun i => (Vk rs S side (k + 1) i).isNone) + (List.range rs.length).countP (fun i => (Vk rs S side k i).isNone && (Rk rs S side k i).isSome) := by
    refine countP_split fun i _ => ⟨?_, ?_⟩
    · rw [show Vk rs S side (k + 1) i = Rk rs S side k i from rfl]
      cases q : Rk rs S side k i with
      | none =>
        have : Vk rs S side k i = none := by
          cases z : Vk rs S side k i with
          | none => rfl
          | some r => rw [Vk_keep z] at q; cases q
        simp [this]
      | some r => simp
    · rw [show Vk rs S side (k + 1) i = Rk rs S side k i from rfl]
      cases q : Rk rs S side k i <;> simp
  rw [e]
  have : 0 < (List.range rs.length).countP (fun i => (Vk rs S side k i).isNone && (Rk rs S side k i).isSome) := by
    rw [List.countP_eq_length_filter]
    exact List.length_pos_iff.mpr h
  omega
theorem cN_zero : cN rs S side 0 = rs.length := by
  unfold cN
  have : (fun i => (Vk rs S side 0 i).isNone) = fun _ => true := rfl
  rw [this, List.countP_true, List.length_range]
/-- the rounds end: what they leave is R n -/
theorem Rk_end {k : Nat} (hS : ∀ x ∈ S, 0 ≤ x ∧ x < rs.length) (hk : k ≤ rs.length) (h : Lk rs S side k = []) : Vk rs S side k = Rk rs S side rs.length := by
  have same : ∀ i, Rk rs S side k i = Vk rs S side k i := by
    intro i
    cases q : Vk rs S side k i with
    | some r => exact Vk_keep q
    | none =>
      cases z : Rk rs S side k i with
      | none => rfl
      | some r =>
        have : i ∈ Lk rs S side k := (Lk_mem hS).mpr ⟨q, by rw [z]; rfl⟩
        rw [h] at this
        cases this
  cases k with
  | zero =>
    have : ∀ i, Rk rs S side 0 i = none := fun i => same i
    funext i
    rw [Rk_none this i]
    rfl
  | succ k => exact (Rk_stab (fun i => same i) (by omega)).symm
/-- of a room of that side: the least of the ranks that moves lead to is one less -/
theorem rank_step {k i r : Nat} (hi : Rk rs S side k i = some (r + 1)) (ho : Ow rs i = side) : (∃ t ∈ Tg rs i, Rk rs S side k t = some r) ∧ ∀ t ∈ Tg rs i, ∀ q, Rk rs S side k t = some q → r ≤ q := by
  have hk := Rk_le hi
  have hr : Rk rs S side (r + 1) i = some (r + 1) ∧ Rk rs S side r i = none := by
    have n1 : Rk rs S side r i = none := by
      cases q : Rk rs S side r i with
      | none => rfl
      | some x =>
        have := Rk_up q (show r ≤ k by omega)
        rw [hi] at this
        cases this
        have := Rk_le q
        omega
    refine ⟨?_, n1⟩
    cases q : Rk rs S side (r + 1) i with
    | some x => have := Rk_up q hk; rw [hi] at this; exact this.symm
    | none =>
      exfalso
      -- then it comes later, with a greater rank
      have later : ∀ m, r + 1 ≤ m → ∀ x, Rk rs S side m i = some x → r + 1 < x := by
        intro m hm
        induction m with
        | zero => omega
        | succ m ih =>
          intro x hx
          by_cases e : r + 1 = m + 1
          · rw [← e, q] at hx; cases hx
          · cases z : Rk rs S side m i with
            | some y => rw [Rk_keep z] at hx; cases hx; exact ih (by omega) _ z
            | none => have := (Rk_new z hx).1; omega
      have := later k hk _ hi
      omega
  have hn := (Rk_new hr.2 hr.1).2
  obtain ⟨t, ht, a, b⟩ := new_step hr.2 hn
  refine ⟨⟨t, ht, ?_⟩, fun t ht q hq => ?_⟩
  · cases z : Rk rs S side r t with
    | none => rw [z] at b; cases b
    | some x =>
      have := Vk_new a z
      subst this
      exact Rk_up z (by omega)
  · apply Classical.byContradiction
    intro lt
    have hq2 : Rk rs S side q t = some q := by
      cases z : Rk rs S side q t with
      | some x => have := Rk_up z (show q ≤ k by omega); rw [hq] at this; exact this.symm ▸ rfl
      | none =>
        exfalso
        have later : ∀ m, q ≤ m → ∀ x, Rk rs S side m t = some x → q < x := by
          intro m hm
          induction m with
          | zero => intro x hx; have : q = 0 := by omega
                    subst this; rw [z] at hx; cases hx
          | succ m ih =>
            intro x hx
            by_cases e : q = m + 1
            · subst e; rw [z] at hx; cases hx
            · cases z2 : Rk rs S side m t with
              | some y => rw [Rk_keep z2] at hx; cases hx; exact ih (by omega) _ z2
              | none => have := (Rk_new z2 hx).1; omega
        have := later k (by omega) _ hq
        omega
    have n0 : Rk rs S side q i = none := by
      cases z : Rk rs S side q i with
      | none => rfl
      | some x => have := Rk_up z (show q ≤ r by omega); rw [hr.2] at this; cases this
    have new : newR rs side (Rk rs S side q) i = true := newR_iff.mpr ⟨List.ne_nil_of_mem ht, .inl ⟨ho, t, ht, by rw [hq2]; rfl⟩⟩
    have : Rk rs S side (q + 1) i = some (q + 1) := by
      rw [Rk_succ, n0]
      dsimp only
      rw [if_pos new]
    have := Rk_up this (show q + 1 ≤ r by omega)
    rw [hr.2] at this
    cases this
end
end Mir

/-! the defs of law_k35_whole_least_purses: their computations and derivations; printed by gen.py -/
namespace Mir
open PySem PySem.Spec PyProof.Rows L2
def topAt (i : Nat) : Stmt := PySem.Challenge.pw_waitduel_k35_whole_least_purses.main.body.getD i (.Pass ⟨0, 0, 0, 0⟩)
abbrev st_is_among : Stmt := topAt 5
abbrev st_need_small : Stmt := topAt 10
abbrev st_need_rows : Stmt := topAt 13
abbrev st_Ldraw : Stmt := topAt 18
abbrev st_Lmixed : Stmt := topAt 19
abbrev st_Lplans : Stmt := topAt 22
abbrev st_Lwanted : Stmt := topAt 23
abbrev st_Lis_led : Stmt := topAt 24
abbrev st_Raising_ini : Stmt := match topAt 11 with
  | .ClassDef _ _ _ b _ _ _ _ _ _ _ => b.getD 0 (.Pass ⟨0, 0, 0, 0⟩)
  | _ => .Pass ⟨0, 0, 0, 0⟩
abbrev st_Raising_wanted : Stmt := match topAt 11 with
  | .ClassDef _ _ _ b _ _ _ _ _ _ _ => b.getD 1 (.Pass ⟨0, 0, 0, 0⟩)
  | _ => .Pass ⟨0, 0, 0, 0⟩
abbrev st_Sinking_ini : Stmt := match topAt 14 with
  | .ClassDef _ _ _ b _ _ _ _ _ _ _ => b.getD 0 (.Pass ⟨0, 0, 0, 0⟩)
  | _ => .Pass ⟨0, 0, 0, 0⟩
abbrev st_Sinking_due : Stmt := match topAt 14 with
  | .ClassDef _ _ _ b _ _ _ _ _ _ _ => b.getD 1 (.Pass ⟨0, 0, 0, 0⟩)
  | _ => .Pass ⟨0, 0, 0, 0⟩
abbrev st_need_room : Stmt := topAt 6
abbrev st_Lbelow : Stmt := topAt 20
abbrev st_Lof_plan : Stmt := topAt 25
abbrev st_Raising_due : Stmt := match topAt 11 with
  | .ClassDef _ _ _ b _ _ _ _ _ _ _ => b.getD 2 (.Pass ⟨0, 0, 0, 0⟩)
  | _ => .Pass ⟨0, 0, 0, 0⟩
abbrev st_Sinking_sink_rows : Stmt := match topAt 14 with
  | .ClassDef _ _ _ b _ _ _ _ _ _ _ => b.getD 2 (.Pass ⟨0, 0, 0, 0⟩)
  | _ => .Pass ⟨0, 0, 0, 0⟩
abbrev st_purse_rows : Stmt := topAt 12
abbrev st_Larena : Stmt := topAt 21
abbrev st_Raising_raise_room : Stmt := match topAt 11 with
  | .ClassDef _ _ _ b _ _ _ _ _ _ _ => b.getD 3 (.Pass ⟨0, 0, 0, 0⟩)
  | _ => .Pass ⟨0, 0, 0, 0⟩
abbrev st_Raising_raise_all : Stmt := match topAt 11 with
  | .ClassDef _ _ _ b _ _ _ _ _ _ _ => b.getD 4 (.Pass ⟨0, 0, 0, 0⟩)
  | _ => .Pass ⟨0, 0, 0, 0⟩
abbrev st_purses : Stmt := topAt 15
abbrev st_purse : Stmt := topAt 16
abbrev st_LAW : Stmt := topAt 26
def knL : List Str := ["BadRoom", "TooGreat"]
structure Dat where
  a_is_among : Addr
  d_is_among : FuncData
  a_need_small : Addr
  d_need_small : FuncData
  a_need_rows : Addr
  d_need_rows : FuncData
  a_Ldraw : Addr
  d_Ldraw : FuncData
  a_Lmixed : Addr
  d_Lmixed : FuncData
  a_Lplans : Addr
  d_Lplans : FuncData
  a_Lwanted : Addr
  d_Lwanted : FuncData
  a_Lis_led : Addr
  d_Lis_led : FuncData
  a_Raising_ini : Addr
  d_Raising_ini : FuncData
  a_Raising_wanted : Addr
  d_Raising_wanted : FuncData
  a_Sinking_ini : Addr
  d_Sinking_ini : FuncData
  a_Sinking_due : Addr
  d_Sinking_due : FuncData
  a_need_room : Addr
  d_need_room : FuncData
  a_Lbelow : Addr
  d_Lbelow : FuncData
  a_Lof_plan : Addr
  d_Lof_plan : FuncData
  a_Raising_due : Addr
  d_Raising_due : FuncData
  a_Sinking_sink_rows : Addr
  d_Sinking_sink_rows : FuncData
  a_purse_rows : Addr
  d_purse_rows : FuncData
  a_Larena : Addr
  d_Larena : FuncData
  a_Raising_raise_room : Addr
  d_Raising_raise_room : FuncData
  a_Raising_raise_all : Addr
  d_Raising_raise_all : FuncData
  a_purses : Addr
  d_purses : FuncData
  a_purse : Addr
  d_purse : FuncData
  a_LAW : Addr
  d_LAW : FuncData
  a_Raising : Addr
  a_Sinking : Addr
structure Txt (D : Dat) (K : PySem.W.Frag) (mg : Str → Option Value) : Prop where
  g_is_among : mg "is_among" = some (.ref D.a_is_among)
  f_is_among : Fun K "is_among" "is_among" st_is_among D.a_is_among D.d_is_among
  b_is_among : Binds K D.d_is_among ["thing", "least", "most"] []
  g_need_small : mg "need_small" = some (.ref D.a_need_small)
  f_need_small : Fun K "need_small" "need_small" st_need_small D.a_need_small D.d_need_small
  b_need_small : Binds K D.d_need_small ["arena"] []
  g_need_rows : mg "need_rows" = some (.ref D.a_need_rows)
  f_need_rows : Fun K "need_rows" "need_rows" st_need_rows D.a_need_rows D.d_need_rows
  b_need_rows : Binds K D.d_need_rows ["raising"] []
  g_Ldraw : mg "_law_draw" = some (.ref D.a_Ldraw)
  f_Ldraw : Fun K "_law_draw" "_law_draw" st_Ldraw D.a_Ldraw D.d_Ldraw
  b_Ldraw : Binds K D.d_Ldraw ["_law_script"] []
  g_Lmixed : mg "_law_mixed" = some (.ref D.a_Lmixed)
  f_Lmixed : Fun K "_law_mixed" "_law_mixed" st_Lmixed D.a_Lmixed D.d_Lmixed
  b_Lmixed : Binds K D.d_Lmixed ["_law_number", "_law_k"] []
  g_Lplans : mg "_law_plans" = some (.ref D.a_Lplans)
  f_Lplans : Fun K "_law_plans" "_law_plans" st_Lplans D.a_Lplans D.d_Lplans
  b_Lplans : Binds K D.d_Lplans ["_law_arena_here"] []
  g_Lwanted : mg "_law_wanted" = some (.ref D.a_Lwanted)
  f_Lwanted : Fun K "_law_wanted" "_law_wanted" st_Lwanted D.a_Lwanted D.d_Lwanted
  b_Lwanted : Binds K D.d_Lwanted ["_law_plan", "_law_found"] []
  g_Lis_led : mg "_law_is_led" = some (.ref D.a_Lis_led)
  f_Lis_led : Fun K "_law_is_led" "_law_is_led" st_Lis_led D.a_Lis_led D.d_Lis_led
  b_Lis_led : Binds K D.d_Lis_led ["_law_moves", "_law_lost"] []
  f_Raising_ini : Fun K "__init__" "Raising.__init__" st_Raising_ini D.a_Raising_ini D.d_Raising_ini
  b_Raising_ini : Binds K D.d_Raising_ini ["self", "arena"] []
  f_Raising_wanted : Fun K "wanted" "Raising.wanted" st_Raising_wanted D.a_Raising_wanted D.d_Raising_wanted
  b_Raising_wanted : Binds K D.d_Raising_wanted ["self", "move"] []
  mt_Raising_wanted : Meth K D.a_Raising "wanted" D.a_Raising_wanted
  f_Sinking_ini : Fun K "__init__" "Sinking.__init__" st_Sinking_ini D.a_Sinking_ini D.d_Sinking_ini
  b_Sinking_ini : Binds K D.d_Sinking_ini ["self", "raising"] []
  f_Sinking_due : Fun K "due" "Sinking.due" st_Sinking_due D.a_Sinking_due D.d_Sinking_due
  b_Sinking_due : Binds K D.d_Sinking_due ["self", "room"] []
  mt_Sinking_due : Meth K D.a_Sinking "due" D.a_Sinking_due
  g_need_room : mg "need_room" = some (.ref D.a_need_room)
  f_need_room : Fun K "need_room" "need_room" st_need_room D.a_need_room D.d_need_room
  b_need_room : Binds K D.d_need_room ["arena", "thing"] []
  g_Lbelow : mg "_law_below" = some (.ref D.a_Lbelow)
  f_Lbelow : Fun K "_law_below" "_law_below" st_Lbelow D.a_Lbelow D.d_Lbelow
  b_Lbelow : Binds K D.d_Lbelow ["_law_draw_here", "_law_many"] []
  g_Lof_plan : mg "_law_of_plan" = some (.ref D.a_Lof_plan)
  f_Lof_plan : Fun K "_law_of_plan" "_law_of_plan" st_Lof_plan D.a_Lof_plan D.d_Lof_plan
  b_Lof_plan : Binds K D.d_Lof_plan ["_law_plan"] []
  f_Raising_due : Fun K "due" "Raising.due" st_Raising_due D.a_Raising_due D.d_Raising_due
  b_Raising_due : Binds K D.d_Raising_due ["self", "room"] []
  mt_Raising_due : Meth K D.a_Raising "due" D.a_Raising_due
  f_Sinking_sink_rows : Fun K "sink_rows" "Sinking.sink_rows" st_Sinking_sink_rows D.a_Sinking_sink_rows D.d_Sinking_sink_rows
  b_Sinking_sink_rows : Binds K D.d_Sinking_sink_rows ["self"] []
  mt_Sinking_sink_rows : Meth K D.a_Sinking "sink_rows" D.a_Sinking_sink_rows
  g_purse_rows : mg "purse_rows" = some (.ref D.a_purse_rows)
  f_purse_rows : Fun K "purse_rows" "purse_rows" st_purse_rows D.a_purse_rows D.d_purse_rows
  b_purse_rows : Binds K D.d_purse_rows ["raising"] []
  g_Larena : mg "_law_arena" = some (.ref D.a_Larena)
  f_Larena : Fun K "_law_arena" "_law_arena" st_Larena D.a_Larena D.d_Larena
  b_Larena : Binds K D.d_Larena ["_law_draw_here", "_law_most", "_law_low", "_law_high"] []
  f_Raising_raise_room : Fun K "raise_room" "Raising.raise_room" st_Raising_raise_room D.a_Raising_raise_room D.d_Raising_raise_room
  b_Raising_raise_room : Binds K D.d_Raising_raise_room ["self", "room"] []
  mt_Raising_raise_room : Meth K D.a_Raising "raise_room" D.a_Raising_raise_room
  f_Raising_raise_all : Fun K "raise_all" "Raising.raise_all" st_Raising_raise_all D.a_Raising_raise_all D.d_Raising_raise_all
  b_Raising_raise_all : Binds K D.d_Raising_raise_all ["self"] []
  mt_Raising_raise_all : Meth K D.a_Raising "raise_all" D.a_Raising_raise_all
  g_purses : mg "purses" = some (.ref D.a_purses)
  f_purses : Fun K "purses" "purses" st_purses D.a_purses D.d_purses
  b_purses : Binds K D.d_purses ["arena"] []
  g_purse : mg "purse" = some (.ref D.a_purse)
  f_purse : Fun K "purse" "purse" st_purse D.a_purse D.d_purse
  b_purse : Binds K D.d_purse ["arena", "room"] []
  g_LAW : mg "law" = some (.ref D.a_LAW)
  f_LAW : Fun K "law" "law" st_LAW D.a_LAW D.d_LAW
  b_LAW : Binds K D.d_LAW ["_law_script"] []
  n_abs : mg "abs" = none
  n_any : mg "any" = none
  n_bool : mg "bool" = none
  n_dict : mg "dict" = none
  n_enumerate : mg "enumerate" = none
  n_int : mg "int" = none
  n_isinstance : mg "isinstance" = none
  n_len : mg "len" = none
  n_list : mg "list" = none
  n_max : mg "max" = none
  n_min : mg "min" = none
  n_range : mg "range" = none
  n_repr : mg "repr" = none
  n_tuple : mg "tuple" = none
  k_FEW_ROOMS : ∃ t, mg "FEW_ROOMS" = some (.int 24 t)
  k_SMALL_PRICE : ∃ t, mg "SMALL_PRICE" = some (.int 30 t)
  e_BadRoom : ECls K mg "BadRoom"
  e_TooGreat : ECls K mg "TooGreat"
  mg_Raising : mg "Raising" = some (.ref D.a_Raising)
  ns_Raising : PySem.W.nsIn K mainGlobals "Raising" = some (some (.ref D.a_Raising))
  cl_Raising : Cls K D.a_Raising
  mk_Raising : Mk K D.a_Raising D.a_Raising_ini
  nf_Raising_arena : NoAttr K D.a_Raising "arena"
  nf_Raising_bound : NoAttr K D.a_Raising "bound"
  nf_Raising_count : NoAttr K D.a_Raising "count"
  nf_Raising_lasts : NoAttr K D.a_Raising "lasts"
  nf_Raising_purses : NoAttr K D.a_Raising "purses"
  nf_Raising_ways : NoAttr K D.a_Raising "ways"
  mg_Sinking : mg "Sinking" = some (.ref D.a_Sinking)
  ns_Sinking : PySem.W.nsIn K mainGlobals "Sinking" = some (some (.ref D.a_Sinking))
  cl_Sinking : Cls K D.a_Sinking
  mk_Sinking : Mk K D.a_Sinking D.a_Sinking_ini
  nf_Sinking_arena : NoAttr K D.a_Sinking "arena"
  nf_Sinking_depths : NoAttr K D.a_Sinking "depths"
  nf_Sinking_sunk : NoAttr K D.a_Sinking "sunk"
def kc_arena : List Str := ["Raising", "Sinking"]
theorem cf_arena {K : PySem.W.Frag} {mg : Str → Option Value} {D : Dat} (T : Txt D K mg) : ∀ c ∈ kc_arena, IFld K c "arena" := fun c hc C e => by
  simp only [kc_arena, List.mem_cons, List.not_mem_nil, or_false] at hc
  rcases hc with rfl | rfl
  · rw [T.ns_Raising] at e; cases e; exact ⟨T.cl_Raising, T.nf_Raising_arena⟩
  · rw [T.ns_Sinking] at e; cases e; exact ⟨T.cl_Sinking, T.nf_Sinking_arena⟩
def kc_bound : List Str := ["Raising"]
theorem cf_bound {K : PySem.W.Frag} {mg : Str → Option Value} {D : Dat} (T : Txt D K mg) : ∀ c ∈ kc_bound, IFld K c "bound" := fun c hc C e => by
  simp only [kc_bound, List.mem_cons, List.not_mem_nil, or_false] at hc
  rcases hc with rfl
  · rw [T.ns_Raising] at e; cases e; exact ⟨T.cl_Raising, T.nf_Raising_bound⟩
def kc_count : List Str := ["Raising"]
theorem cf_count {K : PySem.W.Frag} {mg : Str → Option Value} {D : Dat} (T : Txt D K mg) : ∀ c ∈ kc_count, IFld K c "count" := fun c hc C e => by
  simp only [kc_count, List.mem_cons, List.not_mem_nil, or_false] at hc
  rcases hc with rfl
  · rw [T.ns_Raising] at e; cases e; exact ⟨T.cl_Raising, T.nf_Raising_count⟩
def kc_depths : List Str := ["Sinking"]
theorem cf_depths {K : PySem.W.Frag} {mg : Str → Option Value} {D : Dat} (T : Txt D K mg) : ∀ c ∈ kc_depths, IFld K c "depths" := fun c hc C e => by
  simp only [kc_depths, List.mem_cons, List.not_mem_nil, or_false] at hc
  rcases hc with rfl
  · rw [T.ns_Sinking] at e; cases e; exact ⟨T.cl_Sinking, T.nf_Sinking_depths⟩
def kc_lasts : List Str := ["Raising"]
theorem cf_lasts {K : PySem.W.Frag} {mg : Str → Option Value} {D : Dat} (T : Txt D K mg) : ∀ c ∈ kc_lasts, IFld K c "lasts" := fun c hc C e => by
  simp only [kc_lasts, List.mem_cons, List.not_mem_nil, or_false] at hc
  rcases hc with rfl
  · rw [T.ns_Raising] at e; cases e; exact ⟨T.cl_Raising, T.nf_Raising_lasts⟩
def kc_purses : List Str := ["Raising"]
theorem cf_purses {K : PySem.W.Frag} {mg : Str → Option Value} {D : Dat} (T : Txt D K mg) : ∀ c ∈ kc_purses, IFld K c "purses" := fun c hc C e => by
  simp only [kc_purses, List.mem_cons, List.not_mem_nil, or_false] at hc
  rcases hc with rfl
  · rw [T.ns_Raising] at e; cases e; exact ⟨T.cl_Raising, T.nf_Raising_purses⟩
def kc_sunk : List Str := ["Sinking"]
theorem cf_sunk {K : PySem.W.Frag} {mg : Str → Option Value} {D : Dat} (T : Txt D K mg) : ∀ c ∈ kc_sunk, IFld K c "sunk" := fun c hc C e => by
  simp only [kc_sunk, List.mem_cons, List.not_mem_nil, or_false] at hc
  rcases hc with rfl
  · rw [T.ns_Sinking] at e; cases e; exact ⟨T.cl_Sinking, T.nf_Sinking_sunk⟩
def kc_ways : List Str := ["Raising"]
theorem cf_ways {K : PySem.W.Frag} {mg : Str → Option Value} {D : Dat} (T : Txt D K mg) : ∀ c ∈ kc_ways, IFld K c "ways" := fun c hc C e => by
  simp only [kc_ways, List.mem_cons, List.not_mem_nil, or_false] at hc
  rcases hc with rfl
  · rw [T.ns_Raising] at e; cases e; exact ⟨T.cl_Raising, T.nf_Raising_ways⟩
/-! ### is_among -/
theorem sc_is_among : FnScope ["thing", "least", "most"] ["thing", "least", "most"] (defScope st_is_among) := ⟨rfl, rfl, rfl, by decide +kernel, rfl, by decide +kernel, by decide +kernel⟩
def b_is_among : SM :=
  (sRet (mAndV (mIsi "int" (mVar 0)) (mAndV (mNotV (mIsi "bool" (mVar 0))) (mChain wLe wLe (mVar 1) (mVar 0) (mVar 2)))))
def f_is_among : FM := runB 3 (b_is_among )
theorem o_is_among {P : Program} {w : World} {K : PySem.W.Frag} {mg : Str → Option Value} {base : Heap} {D : Dat} (T : Txt D K mg) :
    FnG P w K mg base 1 D.a_is_among D.d_is_among ["thing", "least", "most"] (SPm K 3 (f_is_among )) :=
  have S := sc_is_among
  ok_body (k := 0) T.f_is_among S fun cdv A outer s H E hr gd =>
    (sss_one (ss_ret (se_and (se_isi "int" (by decide) T.n_isinstance T.n_int (se_var 0) (by rfl)) (se_and (se_not (se_isi "bool" (by decide) T.n_isinstance T.n_bool (se_var 0) (by rfl))) (se_one (se_chain o_le p_le o_le p_le (se_var 1) (se_var 0) (se_var 2)))))))
/-! ### need_small -/
theorem sc_need_small : FnScope ["arena", "owner", "moves", "to", "price", "turns"] ["arena"] (defScope st_need_small) := ⟨rfl, rfl, rfl, by decide +kernel, rfl, by decide +kernel, by decide +kernel⟩
def b_need_small : SM :=
  (sSeq (sIf (mB (mOp wGt (mCall wLen (mCons (mOp wIx (mVar 0) (mC (.int 0))) mNil)) (mC (.int 24))))
  (sRaise "TooGreat")
  sNext)
  (sFor (mIter big (mOp wIx (mVar 0) (mC (.int 0)))) (gT (gCons' (gN 1) (gCons' (gN 2) gNil')))
  (sIf (mTru (mOn wAny (mLc (mIter big (mVar 2)) (gT (gCons' (gN 3) (gCons' (gN 4) (gCons' (gN 5) gNil')))) mYes (mOp wGt (mCall wAbs (mCons (mVar 4) mNil)) (mC (.int 30))) [3, 4, 5])))
  (sRaise "TooGreat")
  sNext)))
def f_need_small : FM := runB 6 (b_need_small )
theorem o_need_small {P : Program} {w : World} {K : PySem.W.Frag} {mg : Str → Option Value} {base : Heap} {D : Dat} (T : Txt D K mg) :
    FnG P w K mg base 1 D.a_need_small D.d_need_small ["arena"] (SPm K 1 (f_need_small )) :=
  have S := sc_need_small
  ok_body (k := 0) T.f_need_small S fun cdv A outer s H E hr gd =>
    (sss_cons (ss_if (st_cmp o_gt p_gt (se_callB c_len o_len T.n_len (by rfl) (sa_cons (se_sub' hr (se_var 0) se_int) sa_nil)) (se_globI T.k_FEW_ROOMS))
    (sss_one (ss_raise T.e_TooGreat rfl (takes_of rfl rfl rfl rfl)))
    sss_nil)
    (sss_one (ss_for (passes_of rfl) rfl (si_iter big (se_sub' hr (se_var 0) se_int)) (sg_tup rfl (sgs_cons (sg_name 1 S.nd) (sgs_cons (sg_name 2 S.nd) sgs_nil)) (fun _ _ _ e => gl_cons (fun _ _ _ e => gl_cons (fun _ _ _ e => gl_nil e) e) e))
    (sss_one (ss_if (st_tru (pg_callBM back_W (cr_any rfl) q_any T.n_any (by rfl) (sm_list (sl_lc [("to", 3), ("price", 4), ("turns", 5)] rfl S.nd (si_iter big (se_var 2)) (by kernel_rfl) (fun _ _ _ _ _ => (sg_tup rfl (sgs_cons (sg_name 3 S.nd) (sgs_cons (sg_name 4 S.nd) (sgs_cons (sg_name 5 S.nd) sgs_nil))) (fun _ _ _ e => gl_cons (fun _ _ _ e => gl_cons (fun _ _ _ e => gl_cons (fun _ _ _ e => gl_nil e) e) e) e))) (fun _ _ _ _ _ => sts_nil) (fun _ _ _ _ _ => (se_cmp o_gt p_gt (se_callB call_abs o_abs T.n_abs (by rfl) (sa_cons (se_var 4) sa_nil)) (se_globI T.k_SMALL_PRICE)))))))
    (sss_one (ss_raise T.e_TooGreat rfl (takes_of rfl rfl rfl rfl)))
    sss_nil)))))
/-! ### need_rows -/
theorem sc_need_rows : FnScope ["raising", "found", "room", "purse", "owner", "moves", "move"] ["raising"] (defScope st_need_rows) := ⟨rfl, rfl, rfl, by decide +kernel, rfl, by decide +kernel, by decide +kernel⟩
def b_need_rows : SM :=
  (sSeq (sAsg (mNew (mLst mNil)) (gN 1))
  (sSeq (sFor (mEnum big (mUn (fldW kc_purses "purses") (mVar 0))) (gT (gCons' (gN 2) (gCons' (gN 3) gNil')))
  (sIf (mB (mOp wIsNot (mVar 3) (mC .non)))
  (sSeq (sAsg (mOp wIx (mOp wIx (mUn (fldW kc_arena "arena") (mVar 0)) (mC (.int 0))) (mVar 2)) (gT (gCons' (gN 4) (gCons' (gN 5) gNil'))))
  (sSeq (sAsg (mIf (mAnd (mB (mOp wEq (mVar 4) (mC (.int 1)))) (mB (mOp wNe (mVar 5) (mTup mNil)))) (mCall wMax2 (mCons (mC (.int 0)) (mCons (mOp wIx (mUn (fldW kc_ways "ways") (mVar 0)) (mVar 2)) mNil))) (mUn wNeg (mC (.int 1)))) (gN 6))
  (sDrop (mMt "list" wAppend (mVar 1) (mCons (mTup (mCons (mVar 2) (mCons (mVar 3) (mCons (mOp wIx (mUn (fldW kc_lasts "lasts") (mVar 0)) (mVar 2)) (mCons (mVar 6) mNil))))) mNil)))))
  sNext))
  (sRet (mOn wTupQ (mSeq (mVar 1))))))
def f_need_rows : FM := runB 7 (b_need_rows )
theorem o_need_rows {P : Program} {w : World} {K : PySem.W.Frag} {mg : Str → Option Value} {base : Heap} {D : Dat} (T : Txt D K mg) :
    FnG P w K mg base 1 D.a_need_rows D.d_need_rows ["raising"] (SPm K 1 (f_need_rows )) :=
  have S := sc_need_rows
  ok_body (k := 0) T.f_need_rows S fun cdv A outer s H E hr gd =>
    (sss_cons (ss_set 1 S.nd (se_new (sl_lst sa_nil)))
    (sss_cons (ss_for (passes_of rfl) rfl (si_enum big T.n_enumerate (se_fldO (cf_purses T) (se_var 0))) (sg_tup rfl (sgs_cons (sg_name 2 S.nd) (sgs_cons (sg_name 3 S.nd) sgs_nil)) (fun _ _ _ e => gl_cons (fun _ _ _ e => gl_cons (fun _ _ _ e => gl_nil e) e) e))
    (sss_one (ss_if (st_cmp o_isNot p_isNot (se_var 3) se_non)
    (sss_cons (ss_asg (se_sub' hr (se_sub' hr (se_fldO (cf_arena T) (se_var 0)) se_int) (se_var 2)) (sg_tup rfl (sgs_cons (sg_name 4 S.nd) (sgs_cons (sg_name 5 S.nd) sgs_nil)) (fun _ _ _ e => gl_cons (fun _ _ _ e => gl_cons (fun _ _ _ e => gl_nil e) e) e)))
    (sss_cons (ss_set 6 S.nd (se_if (PW.pt (sw_and (st_cmp (o_eq hr) p_eq (se_var 4) se_int) (sw_and1 (st_cmp (o_ne hr) p_ne (se_var 5) (se_tup sa_nil))))) (se_callB (call_max2 rfl) o_max2 T.n_max (by rfl) (sa_cons se_int (sa_cons (se_sub' hr (se_fldO (cf_ways T) (se_var 0)) (se_var 2)) sa_nil))) (se_neg se_int)))
    (sss_one (ss_expr (se_append mt_append (se_var 1) (se_tup (sa_cons (se_var 2) (sa_cons (se_var 3) (sa_cons (se_sub' hr (se_fldO (cf_lasts T) (se_var 0)) (se_var 2)) (sa_cons (se_var 6) sa_nil))))))))))
    sss_nil)))
    (sss_one (ss_ret (pg_callTS back_W call_tuple_of q_tup T.n_tuple (by rfl) (sq_val (se_var 1)))))))
/-! ### _law_draw -/
theorem sc_Ldraw : FnScope ["_law_script", "_law_cells", "_law_found"] ["_law_script"] (defScope st_Ldraw) := ⟨rfl, rfl, rfl, by decide +kernel, rfl, by decide +kernel, by decide +kernel⟩
def b_Ldraw : SM :=
  (sSeq (sAsg (mIf (mB (mOp wNe (mVar 0) (mFix (mLst mNil)))) (mFix (mOn lId (mSeq (mSl (mVar 0) none (some (mC (.int 63))))))) (mFix (mLst (mCons (mC (.int 0)) mNil)))) (gN 1))
  (sSeq (sAsg (mDisp (((mC (.str "cells")), (mVar 1)) :: (((mC (.str "is_plain")), (mOp wEq (mOp wMod (mOp wIx (mVar 1) (mC (.int 0))) (mC (.int 2))) (mC (.int 1)))) :: []))) (gN 2))
  (sSeq (sDrop (mUpd1 (mVar 2) (mDisp (((mC (.str "at")), (mC (.int 0))) :: (((mC (.str "left")), (mOp wFdiv (mCall wAbs (mCons (mOp wIx (mVar 1) (mC (.int 0))) mNil)) (mC (.int 2)))) :: (((mC (.str "mixed")), (mC (.int 0))) :: []))))))
  (sRet (mVar 2)))))
def f_Ldraw : FM := runB 3 (b_Ldraw )
theorem o_Ldraw {P : Program} {w : World} {K : PySem.W.Frag} {mg : Str → Option Value} {base : Heap} {D : Dat} (T : Txt D K mg) :
    FnG P w K mg base 1 D.a_Ldraw D.d_Ldraw ["_law_script"] (SPm K 1 (f_Ldraw )) :=
  have S := sc_Ldraw
  ok_body (k := 0) T.f_Ldraw S fun cdv A outer s H E hr gd =>
    (sss_cons (ss_set 1 S.nd (se_if (st_cmp (o_ne hr) p_ne (se_var 0) (se_fix (sl_lst sa_nil))) (se_fix (pg_callTS back_L call_list_of q_list T.n_list (by rfl) (sq_val (se_slice (se_var 0) .none (.some se_int))))) (se_fix (sl_lst (sa_cons se_int sa_nil)))))
    (sss_cons (ss_set 2 S.nd (se_dict (sps_cons se_str (se_var 1) (sps_cons se_str (se_cmp (o_eq hr) p_eq (se_mod (se_sub' hr (se_var 1) se_int) se_int) se_int) sps_nil))))
    (sss_cons (ss_expr (se_upd1 (se_var 2) (se_dict (sps_cons se_str se_int (sps_cons se_str (se_fdiv (se_callB call_abs o_abs T.n_abs (by rfl) (sa_cons (se_sub' hr (se_var 1) se_int) sa_nil)) se_int) (sps_cons se_str se_int sps_nil))))))
    (sss_one (ss_ret (se_var 2))))))
/-! ### _law_mixed -/
theorem sc_Lmixed : FnScope ["_law_number", "_law_k"] ["_law_number", "_law_k"] (defScope st_Lmixed) := ⟨rfl, rfl, rfl, by decide +kernel, rfl, by decide +kernel, by decide +kernel⟩
def b_Lmixed : SM :=
  (sSeq (sAsg (mOp wMod (mOp wMul (mOp wAdd (mOp wAdd (mOp wAdd (mOp wMod (mVar 0) (mC (.int 2147483647))) (mOp wMul (mOp wMul (mC (.int 7919)) (mVar 1)) (mVar 1))) (mOp wMul (mC (.int 31)) (mVar 1))) (mC (.int 1))) (mC (.int 48271))) (mC (.int 2147483647))) (gN 0))
  (sRet (mOp wFdiv (mOp wMod (mOp wMul (mVar 0) (mC (.int 69621))) (mC (.int 2147483629))) (mC (.int 64)))))
def f_Lmixed : FM := runB 2 (b_Lmixed )
theorem o_Lmixed {P : Program} {w : World} {K : PySem.W.Frag} {mg : Str → Option Value} {base : Heap} {D : Dat} (T : Txt D K mg) :
    FnG P w K mg base 1 D.a_Lmixed D.d_Lmixed ["_law_number", "_law_k"] (SPm K 2 (f_Lmixed )) :=
  have S := sc_Lmixed
  ok_body (k := 0) T.f_Lmixed S fun cdv A outer s H E hr gd =>
    (sss_cons (ss_set 0 S.nd (se_mod (se_mul (se_add (se_add (se_add (se_mod (se_var 0) se_int) (se_mul (se_mul se_int (se_var 1)) (se_var 1))) (se_mul se_int (se_var 1))) se_int) se_int) se_int))
    (sss_one (ss_ret (se_fdiv (se_mod (se_mul (se_var 0) se_int) se_int) se_int))))
/-! ### _law_plans -/
theorem sc_Lplans : FnScope ["_law_arena_here", "_law_found", "_law_owner", "_law_moves", "_law_some", "_law_more", "_law_plan", "_law_move", "_law_one"] ["_law_arena_here"] (defScope st_Lplans) := ⟨rfl, rfl, rfl, by decide +kernel, rfl, by decide +kernel, by decide +kernel⟩
def b_Lplans : SM :=
  (sSeq (sAsg (mNew (mLst (mCons (mTup mNil) mNil))) (gN 1))
  (sSeq (sFor (mIter big (mOp wIx (mVar 0) (mC (.int 0)))) (gT (gCons' (gN 2) (gCons' (gN 3) gNil')))
  (sSeq (sAsg (mIf (mOr (mB (mOp wEq (mVar 2) (mC (.int 1)))) (mB (mOp wEq (mVar 3) (mTup mNil)))) (mFix (mLst (mCons (mVar 3) mNil))) (mFix (mLc (mIter big (mVar 3)) (gN 7) mYes (mTup (mCons (mVar 7) mNil)) [7]))) (gN 4))
  (sSeq (sAsg (mNew (mLst mNil)) (gN 5))
  (sSeq (sFor (mIter big (mVar 1)) (gN 6)
  (sDrop (mExt (mVar 5) (mLc (mIter big (mVar 4)) (gN 8) mYes (mOp wAdd (mVar 6) (mTup (mCons (mVar 8) mNil))) [8]))))
  (sAsg (mVar 5) (gN 1))))))
  (sRet (mVar 1))))
def f_Lplans : FM := runB 9 (b_Lplans )
theorem o_Lplans {P : Program} {w : World} {K : PySem.W.Frag} {mg : Str → Option Value} {base : Heap} {D : Dat} (T : Txt D K mg) :
    FnG P w K mg base 1 D.a_Lplans D.d_Lplans ["_law_arena_here"] (SPm K 1 (f_Lplans )) :=
  have S := sc_Lplans
  ok_body (k := 0) T.f_Lplans S fun cdv A outer s H E hr gd =>
    (sss_cons (ss_set 1 S.nd (se_new (sl_lst (sa_cons (se_tup sa_nil) sa_nil))))
    (sss_cons (ss_for (passes_of rfl) rfl (si_iter big (se_sub' hr (se_var 0) se_int)) (sg_tup rfl (sgs_cons (sg_name 2 S.nd) (sgs_cons (sg_name 3 S.nd) sgs_nil)) (fun _ _ _ e => gl_cons (fun _ _ _ e => gl_cons (fun _ _ _ e => gl_nil e) e) e))
    (sss_cons (ss_set 4 S.nd (se_if (PW.pt (sw_or (st_cmp (o_eq hr) p_eq (se_var 2) se_int) (sw_or1 (st_cmp (o_eq hr) p_eq (se_var 3) (se_tup sa_nil))))) (se_fix (sl_lst (sa_cons (se_var 3) sa_nil))) (se_fix (sl_lc [("_law_move", 7)] rfl S.nd (si_iter big (se_var 3)) (by kernel_rfl) (fun _ _ _ _ _ => (sg_name 7 S.nd)) (fun _ _ _ _ _ => sts_nil) (fun _ _ _ _ _ => (se_tup (sa_cons (se_var 7) sa_nil)))))))
    (sss_cons (ss_set 5 S.nd (se_new (sl_lst sa_nil)))
    (sss_cons (ss_for (passes_of rfl) rfl (si_iter big (se_var 1)) (sg_name 6 S.nd)
    (sss_one (ss_expr (se_extend (se_var 5) (sl_lc [("_law_one", 8)] rfl S.nd (si_iter big (se_var 4)) (by kernel_rfl) (fun _ _ _ _ _ => (sg_name 8 S.nd)) (fun _ _ _ _ _ => sts_nil) (fun _ _ _ _ _ => (se_add (se_var 6) (se_tup (sa_cons (se_var 8) sa_nil)))))))))
    (sss_one (ss_set 1 S.nd (se_var 5)))))))
    (sss_one (ss_ret (se_var 1)))))
/-! ### _law_wanted -/
theorem sc_Lwanted : FnScope ["_law_plan", "_law_found", "_law_moves", "_law_to", "_law_price", "_law_turns"] ["_law_plan", "_law_found"] (defScope st_Lwanted) := ⟨rfl, rfl, rfl, by decide +kernel, rfl, by decide +kernel, by decide +kernel⟩
def b_Lwanted : SM :=
  (sRet (mFix (mLc (mIter big (mVar 0)) (gN 2) mYes (mOn wMax (mLstOf (mOp wAdd (mFix (mLst (mCons (mC (.int 0)) mNil))) (mFix (mLc (mIter big (mVar 2)) (gT (gCons' (gN 3) (gCons' (gN 4) (gCons' (gN 5) gNil')))) mYes (mOp wAdd (mOp wIx (mVar 1) (mVar 3)) (mVar 4)) [3, 4, 5]))))) [2])))
def f_Lwanted : FM := runB 6 (b_Lwanted )
theorem o_Lwanted {P : Program} {w : World} {K : PySem.W.Frag} {mg : Str → Option Value} {base : Heap} {D : Dat} (T : Txt D K mg) :
    FnG P w K mg base 1 D.a_Lwanted D.d_Lwanted ["_law_plan", "_law_found"] (SPm K 2 (f_Lwanted )) :=
  have S := sc_Lwanted
  ok_body (k := 0) T.f_Lwanted S fun cdv A outer s H E hr gd =>
    (sss_one (ss_ret (se_fix (sl_lc [("_law_moves", 2)] rfl S.nd (si_iter big (se_var 0)) (by kernel_rfl) (fun _ _ _ _ _ => (sg_name 2 S.nd)) (fun _ _ _ _ _ => sts_nil) (fun _ _ _ _ _ => (pg_callBM back_W (cr_max rfl) q_max T.n_max (by rfl) (sm_val (se_add (se_fix (sl_lst (sa_cons se_int sa_nil))) (se_fix (sl_lc [("_law_to", 3), ("_law_price", 4), ("_law_turns", 5)] rfl S.nd (si_iter big (se_var 2)) (by kernel_rfl) (fun _ _ _ _ _ => (sg_tup rfl (sgs_cons (sg_name 3 S.nd) (sgs_cons (sg_name 4 S.nd) (sgs_cons (sg_name 5 S.nd) sgs_nil))) (fun _ _ _ e => gl_cons (fun _ _ _ e => gl_cons (fun _ _ _ e => gl_cons (fun _ _ _ e => gl_nil e) e) e) e))) (fun _ _ _ _ _ => sts_nil) (fun _ _ _ _ _ => (se_add (se_sub' hr (se_var 1) (se_var 3)) (se_var 4)))))))))))))
/-! ### _law_is_led -/
theorem sc_Lis_led : FnScope ["_law_moves", "_law_lost", "_law_to", "_law_price", "_law_turns"] ["_law_moves", "_law_lost"] (defScope st_Lis_led) := ⟨rfl, rfl, rfl, by decide +kernel, rfl, by decide +kernel, by decide +kernel⟩
def b_Lis_led : SM :=
  (sRet (mOp wNe (mFix (mLc (mIter big (mVar 0)) (gT (gCons' (gN 2) (gCons' (gN 3) (gCons' (gN 4) gNil')))) (mB (mOp wIn (mVar 2) (mVar 1))) (mVar 2) [2, 3, 4])) (mFix (mLst mNil))))
def f_Lis_led : FM := runB 5 (b_Lis_led )
theorem o_Lis_led {P : Program} {w : World} {K : PySem.W.Frag} {mg : Str → Option Value} {base : Heap} {D : Dat} (T : Txt D K mg) :
    FnG P w K mg base 1 D.a_Lis_led D.d_Lis_led ["_law_moves", "_law_lost"] (SPm K 2 (f_Lis_led )) :=
  have S := sc_Lis_led
  ok_body (k := 0) T.f_Lis_led S fun cdv A outer s H E hr gd =>
    (sss_one (ss_ret (se_cmp (o_ne hr) p_ne (se_fix (sl_lc [("_law_to", 2), ("_law_price", 3), ("_law_turns", 4)] rfl S.nd (si_iter big (se_var 0)) (by kernel_rfl) (fun _ _ _ _ _ => (sg_tup rfl (sgs_cons (sg_name 2 S.nd) (sgs_cons (sg_name 3 S.nd) (sgs_cons (sg_name 4 S.nd) sgs_nil))) (fun _ _ _ e => gl_cons (fun _ _ _ e => gl_cons (fun _ _ _ e => gl_cons (fun _ _ _ e => gl_nil e) e) e) e))) (fun _ _ _ _ _ => (sts_one (st_cmp (o_in hr) p_in (se_var 2) (se_var 1)))) (fun _ _ _ _ _ => (se_var 2)))) (se_fix (sl_lst sa_nil)))))
/-! ### Raising.__init__ -/
theorem sc_Raising_ini : FnScope ["self", "arena", "most", "owner", "moves", "to", "price", "turns"] ["self", "arena"] (defScope st_Raising_ini) := ⟨rfl, rfl, rfl, by decide +kernel, rfl, by decide +kernel, by decide +kernel⟩
def b_Raising_ini : SM :=
  (sSeq (sSetFld kc_arena "arena" (mVar 1) (mVar 0))
  (sSeq (sAsg (mC (.int 0)) (gN 2))
  (sSeq (sFor (mIter big (mOp wIx (mVar 1) (mC (.int 0)))) (gT (gCons' (gN 3) (gCons' (gN 4) gNil')))
  (sAsg (mOn wMax (mLstOf (mOp wAdd (mFix (mLst (mCons (mVar 2) mNil))) (mFix (mLc (mIter big (mVar 4)) (gT (gCons' (gN 5) (gCons' (gN 6) (gCons' (gN 7) gNil')))) mYes (mVar 6) [5, 6, 7]))))) (gN 2)))
  (sSeq (sSetFld kc_bound "bound" (mOp wMul (mOp wSub (mCall wLen (mCons (mOp wIx (mVar 1) (mC (.int 0))) mNil)) (mC (.int 1))) (mVar 2)) (mVar 0))
  (sSeq (sSetFld kc_purses "purses" (mNew (mRepL (mLst (mCons (mC (.int 0)) mNil)) (mCall wLen (mCons (mOp wIx (mVar 1) (mC (.int 0))) mNil)))) (mVar 0))
  (sSeq (sSetFld kc_lasts "lasts" (mNew (mRepL (mLst (mCons (mC (.int 0)) mNil)) (mCall wLen (mCons (mOp wIx (mVar 1) (mC (.int 0))) mNil)))) (mVar 0))
  (sSeq (sSetFld kc_ways "ways" (mNew (mRepL (mLst (mCons (mUn wNeg (mC (.int 1))) mNil)) (mCall wLen (mCons (mOp wIx (mVar 1) (mC (.int 0))) mNil)))) (mVar 0))
  (sSetFld kc_count "count" (mC (.int 0)) (mVar 0)))))))))
def f_Raising_ini : FM := runB 8 (b_Raising_ini )
theorem o_Raising_ini {P : Program} {w : World} {K : PySem.W.Frag} {mg : Str → Option Value} {base : Heap} {D : Dat} (T : Txt D K mg) :
    FnG P w K mg base 1 D.a_Raising_ini D.d_Raising_ini ["self", "arena"] (SPm K 2 (f_Raising_ini )) :=
  have S := sc_Raising_ini
  ok_body (k := 0) T.f_Raising_ini S fun cdv A outer s H E hr gd =>
    (sss_cons (ss_setfld (cf_arena T) (se_var 1) (se_var 0))
    (sss_cons (ss_set 2 S.nd se_int)
    (sss_cons (ss_for (passes_of rfl) rfl (si_iter big (se_sub' hr (se_var 1) se_int)) (sg_tup rfl (sgs_cons (sg_name 3 S.nd) (sgs_cons (sg_name 4 S.nd) sgs_nil)) (fun _ _ _ e => gl_cons (fun _ _ _ e => gl_cons (fun _ _ _ e => gl_nil e) e) e))
    (sss_one (ss_set 2 S.nd (pg_callBM back_W (cr_max rfl) q_max T.n_max (by rfl) (sm_val (se_add (se_fix (sl_lst (sa_cons (se_var 2) sa_nil))) (se_fix (sl_lc [("to", 5), ("price", 6), ("turns", 7)] rfl S.nd (si_iter big (se_var 4)) (by kernel_rfl) (fun _ _ _ _ _ => (sg_tup rfl (sgs_cons (sg_name 5 S.nd) (sgs_cons (sg_name 6 S.nd) (sgs_cons (sg_name 7 S.nd) sgs_nil))) (fun _ _ _ e => gl_cons (fun _ _ _ e => gl_cons (fun _ _ _ e => gl_cons (fun _ _ _ e => gl_nil e) e) e) e))) (fun _ _ _ _ _ => sts_nil) (fun _ _ _ _ _ => (se_var 6))))))))))
    (sss_cons (ss_setfld (cf_bound T) (se_mul (se_sub (se_callB c_len o_len T.n_len (by rfl) (sa_cons (se_sub' hr (se_var 1) se_int) sa_nil)) se_int) (se_var 2)) (se_var 0))
    (sss_cons (ss_setfld (cf_purses T) (se_new (sl_rep (sl_lst (sa_cons se_int sa_nil)) (se_callB c_len o_len T.n_len (by rfl) (sa_cons (se_sub' hr (se_var 1) se_int) sa_nil)))) (se_var 0))
    (sss_cons (ss_setfld (cf_lasts T) (se_new (sl_rep (sl_lst (sa_cons se_int sa_nil)) (se_callB c_len o_len T.n_len (by rfl) (sa_cons (se_sub' hr (se_var 1) se_int) sa_nil)))) (se_var 0))
    (sss_cons (ss_setfld (cf_ways T) (se_new (sl_rep (sl_lst (sa_cons (se_neg se_int) sa_nil)) (se_callB c_len o_len T.n_len (by rfl) (sa_cons (se_sub' hr (se_var 1) se_int) sa_nil)))) (se_var 0))
    (sss_one (ss_setfld (cf_count T) se_int (se_var 0))))))))))
/-! ### Raising.wanted -/
theorem sc_Raising_wanted : FnScope ["self", "move", "behind"] ["self", "move"] (defScope st_Raising_wanted) := ⟨rfl, rfl, rfl, by decide +kernel, rfl, by decide +kernel, by decide +kernel⟩
def b_Raising_wanted : SM :=
  (sSeq (sAsg (mOp wIx (mUn (fldW kc_purses "purses") (mVar 0)) (mOp wIx (mVar 1) (mC (.int 0)))) (gN 2))
  (sSeq (sIf (mB (mOp wIs (mVar 2) (mC .non)))
  (sRet (mOp wAdd (mUn (fldW kc_bound "bound") (mVar 0)) (mC (.int 1))))
  sNext)
  (sRet (mCall wMin2 (mCons (mOp wAdd (mUn (fldW kc_bound "bound") (mVar 0)) (mC (.int 1))) (mCons (mCall wMax2 (mCons (mC (.int 0)) (mCons (mOp wAdd (mOp wIx (mVar 1) (mC (.int 1))) (mVar 2)) mNil))) mNil))))))
def f_Raising_wanted : FM := runB 3 (b_Raising_wanted )
theorem o_Raising_wanted {P : Program} {w : World} {K : PySem.W.Frag} {mg : Str → Option Value} {base : Heap} {D : Dat} (T : Txt D K mg) :
    FnG P w K mg base 1 D.a_Raising_wanted D.d_Raising_wanted ["self", "move"] (SPm K 2 (f_Raising_wanted )) :=
  have S := sc_Raising_wanted
  ok_body (k := 0) T.f_Raising_wanted S fun cdv A outer s H E hr gd =>
    (sss_cons (ss_set 2 S.nd (se_sub' hr (se_fldO (cf_purses T) (se_var 0)) (se_sub' hr (se_var 1) se_int)))
    (sss_cons (ss_if (st_cmp o_is p_is (se_var 2) se_non)
    (sss_one (ss_ret (se_add (se_fldO (cf_bound T) (se_var 0)) se_int)))
    sss_nil)
    (sss_one (ss_ret (se_callB (call_min2 rfl) o_min2 T.n_min (by rfl) (sa_cons (se_add (se_fldO (cf_bound T) (se_var 0)) se_int) (sa_cons (se_callB (call_max2 rfl) o_max2 T.n_max (by rfl) (sa_cons se_int (sa_cons (se_add (se_sub' hr (se_var 1) se_int) (se_var 2)) sa_nil))) sa_nil)))))))
/-! ### Sinking.__init__ -/
theorem sc_Sinking_ini : FnScope ["self", "raising", "room", "purse"] ["self", "raising"] (defScope st_Sinking_ini) := ⟨rfl, rfl, rfl, by decide +kernel, rfl, by decide +kernel, by decide +kernel⟩
def b_Sinking_ini : SM :=
  (sSeq (sSetFld kc_arena "arena" (mUn (fldW kc_arena "arena") (mVar 1)) (mVar 0))
  (sSeq (sSetFld kc_sunk "sunk" (mFix (mLc (mEnum big (mUn (fldW kc_purses "purses") (mVar 1))) (gT (gCons' (gN 2) (gCons' (gN 3) gNil'))) (mB (mOp wIs (mVar 3) (mC .non))) (mVar 2) [2, 3])) (mVar 0))
  (sSetFld kc_depths "depths" (mOnV wDictP (mFix (mLc (mIter big (mUn (fldW kc_sunk "sunk") (mVar 0))) (gN 2) mYes (mTup (mCons (mVar 2) (mCons (mC (.int 0)) mNil))) [2]))) (mVar 0))))
def f_Sinking_ini : FM := runB 4 (b_Sinking_ini )
theorem o_Sinking_ini {P : Program} {w : World} {K : PySem.W.Frag} {mg : Str → Option Value} {base : Heap} {D : Dat} (T : Txt D K mg) :
    FnG P w K mg base 1 D.a_Sinking_ini D.d_Sinking_ini ["self", "raising"] (SPm K 2 (f_Sinking_ini )) :=
  have S := sc_Sinking_ini
  ok_body (k := 0) T.f_Sinking_ini S fun cdv A outer s H E hr gd =>
    (sss_cons (ss_setfld (cf_arena T) (se_fldO (cf_arena T) (se_var 1)) (se_var 0))
    (sss_cons (ss_setfld (cf_sunk T) (se_fix (sl_lc [("room", 2), ("purse", 3)] rfl S.nd (si_enum big T.n_enumerate (se_fldO (cf_purses T) (se_var 1))) (by kernel_rfl) (fun _ _ _ _ _ => (sg_tup rfl (sgs_cons (sg_name 2 S.nd) (sgs_cons (sg_name 3 S.nd) sgs_nil)) (fun _ _ _ e => gl_cons (fun _ _ _ e => gl_cons (fun _ _ _ e => gl_nil e) e) e))) (fun _ _ _ _ _ => (sts_one (st_cmp o_is p_is (se_var 3) se_non))) (fun _ _ _ _ _ => (se_var 2)))) (se_var 0))
    (sss_one (ss_setfld (cf_depths T) (pg_callTV back_W (call_dictP rfl) q_dictP T.n_dict (by rfl) (se_fix (sl_lc [("room", 2)] rfl S.nd (si_iter big (se_fldO (cf_sunk T) (se_var 0))) (by kernel_rfl) (fun _ _ _ _ _ => (sg_name 2 S.nd)) (fun _ _ _ _ _ => sts_nil) (fun _ _ _ _ _ => (se_tup (sa_cons (se_var 2) (sa_cons se_int sa_nil))))))) (se_var 0)))))
/-! ### Sinking.due -/
theorem sc_Sinking_due : FnScope ["self", "room", "owner", "moves", "some", "number", "to", "price", "turns", "deepest", "depth"] ["self", "room"] (defScope st_Sinking_due) := ⟨rfl, rfl, rfl, by decide +kernel, rfl, by decide +kernel, by decide +kernel⟩
def b_Sinking_due : SM :=
  (sSeq (sAsg (mOp wIx (mOp wIx (mUn (fldW kc_arena "arena") (mVar 0)) (mC (.int 0))) (mVar 1)) (gT (gCons' (gN 2) (gCons' (gN 3) gNil'))))
  (sSeq (sAsg (mNew (mLst mNil)) (gN 4))
  (sSeq (sFor (mEnum big (mVar 3)) (gT (gCons' (gN 5) (gCons' (gT (gCons' (gN 6) (gCons' (gN 7) (gCons' (gN 8) gNil')))) gNil')))
  (sIf (mB (mOp wIn (mVar 6) (mUn (fldW kc_depths "depths") (mVar 0))))
  (sDrop (mMt "list" wAppend (mVar 4) (mCons (mTup (mCons (mCall wMax2 (mCons (mC (.int 0)) (mCons (mOp wAdd (mOp wSub (mOp wIx (mUn (fldW kc_depths "depths") (mVar 0)) (mVar 6)) (mOp wMul (mOp wAdd (mCall wLen (mCons (mUn (fldW kc_sunk "sunk") (mVar 0)) mNil)) (mC (.int 1))) (mVar 7))) (mC (.int 1))) mNil))) (mCons (mVar 5) mNil))) mNil)))
  sNext))
  (sSeq (sIf (mB (mOp wEq (mVar 2) (mC (.int 1))))
  (sRet (mOn wMinP (mLstOf (mVar 4))))
  sNext)
  (sSeq (sAsg (mOn wMax (mLc (mIter big (mVar 4)) (gT (gCons' (gN 10) (gCons' (gN 5) gNil'))) mYes (mVar 10) [10, 5])) (gN 9))
  (sRet (mTup (mCons (mVar 9) (mCons (mUn wNeg (mC (.int 1))) mNil)))))))))
def f_Sinking_due : FM := runB 11 (b_Sinking_due )
theorem o_Sinking_due {P : Program} {w : World} {K : PySem.W.Frag} {mg : Str → Option Value} {base : Heap} {D : Dat} (T : Txt D K mg) :
    FnG P w K mg base 1 D.a_Sinking_due D.d_Sinking_due ["self", "room"] (SPm K 2 (f_Sinking_due )) :=
  have S := sc_Sinking_due
  ok_body (k := 0) T.f_Sinking_due S fun cdv A outer s H E hr gd =>
    (sss_cons (ss_asg (se_sub' hr (se_sub' hr (se_fldO (cf_arena T) (se_var 0)) se_int) (se_var 1)) (sg_tup rfl (sgs_cons (sg_name 2 S.nd) (sgs_cons (sg_name 3 S.nd) sgs_nil)) (fun _ _ _ e => gl_cons (fun _ _ _ e => gl_cons (fun _ _ _ e => gl_nil e) e) e)))
    (sss_cons (ss_set 4 S.nd (se_new (sl_lst sa_nil)))
    (sss_cons (ss_for (passes_of rfl) rfl (si_enum big T.n_enumerate (se_var 3)) (sg_tup rfl (sgs_cons (sg_name 5 S.nd) (sgs_cons (sg_tup rfl (sgs_cons (sg_name 6 S.nd) (sgs_cons (sg_name 7 S.nd) (sgs_cons (sg_name 8 S.nd) sgs_nil))) (fun _ _ _ e => gl_cons (fun _ _ _ e => gl_cons (fun _ _ _ e => gl_cons (fun _ _ _ e => gl_nil e) e) e) e)) sgs_nil)) (fun _ _ _ e => gl_cons (fun _ _ _ e => gl_cons (fun _ _ _ e => gl_nil e) e) e))
    (sss_one (ss_if (st_cmp (o_in hr) p_in (se_var 6) (se_fldO (cf_depths T) (se_var 0)))
    (sss_one (ss_expr (se_append mt_append (se_var 4) (se_tup (sa_cons (se_callB (call_max2 rfl) o_max2 T.n_max (by rfl) (sa_cons se_int (sa_cons (se_add (se_sub (se_sub' hr (se_fldO (cf_depths T) (se_var 0)) (se_var 6)) (se_mul (se_add (se_callB c_len o_len T.n_len (by rfl) (sa_cons (se_fldO (cf_sunk T) (se_var 0)) sa_nil)) se_int) (se_var 7))) se_int) sa_nil))) (sa_cons (se_var 5) sa_nil))))))
    sss_nil)))
    (sss_cons (ss_if (st_cmp (o_eq hr) p_eq (se_var 2) se_int)
    (sss_one (ss_ret (pg_callBM back_W (cr_minP hr rfl) q_minP T.n_min (by rfl) (sm_val (se_var 4)))))
    sss_nil)
    (sss_cons (ss_set 9 S.nd (pg_callBM back_W (cr_max rfl) q_max T.n_max (by rfl) (sm_list (sl_lc [("depth", 10), ("number", 5)] rfl S.nd (si_iter big (se_var 4)) (by kernel_rfl) (fun _ _ _ _ _ => (sg_tup rfl (sgs_cons (sg_name 10 S.nd) (sgs_cons (sg_name 5 S.nd) sgs_nil)) (fun _ _ _ e => gl_cons (fun _ _ _ e => gl_cons (fun _ _ _ e => gl_nil e) e) e))) (fun _ _ _ _ _ => sts_nil) (fun _ _ _ _ _ => (se_var 10))))))
    (sss_one (ss_ret (se_tup (sa_cons (se_var 9) (sa_cons (se_neg se_int) sa_nil))))))))))
/-! ### need_room -/
theorem sc_need_room : FnScope ["arena", "thing"] ["arena", "thing"] (defScope st_need_room) := ⟨rfl, rfl, rfl, by decide +kernel, rfl, by decide +kernel, by decide +kernel⟩
def b_need_room (c_is_among : FM) : SM :=
  (sIf (mNot (mTru (mFn 3 c_is_among (mCons (mVar 1) (mCons (mC (.int 0)) (mCons (mOp wSub (mCall wLen (mCons (mOp wIx (mVar 0) (mC (.int 0))) mNil)) (mC (.int 1))) mNil))))))
  (sRaise "BadRoom")
  sNext)
def f_need_room (c_is_among : FM) : FM := runB 2 (b_need_room c_is_among)
theorem o_need_room {P : Program} {w : World} {K : PySem.W.Frag} {mg : Str → Option Value} {base : Heap} {D : Dat} (T : Txt D K mg)
  {c_is_among : FM} (F_is_among : FnG P w K mg base 1 D.a_is_among D.d_is_among ["thing", "least", "most"] (SPm K 3 c_is_among)) :
    FnG P w K mg base 2 D.a_need_room D.d_need_room ["arena", "thing"] (SPm K 2 (f_need_room c_is_among)) :=
  have S := sc_need_room
  ok_body (k := 1) T.f_need_room S fun cdv A outer s H E hr gd =>
    (sss_one (ss_if (st_not (st_tru (se_call F_is_among T.b_is_among T.f_is_among.kp (hr.mono (by decide)) gd (takes_of rfl rfl rfl rfl) T.g_is_among (sa_cons (se_var 1) (sa_cons se_int (sa_cons (se_sub (se_callB c_len o_len T.n_len (by rfl) (sa_cons (se_sub' hr (se_var 0) se_int) sa_nil)) se_int) sa_nil))))))
    (sss_one (ss_raise T.e_BadRoom rfl (takes_of rfl rfl rfl rfl)))
    sss_nil))
/-! ### _law_below -/
theorem sc_Lbelow : FnScope ["_law_draw_here", "_law_many", "_law_cells", "_law_found", "_law_number"] ["_law_draw_here", "_law_many"] (defScope st_Lbelow) := ⟨rfl, rfl, rfl, by decide +kernel, rfl, by decide +kernel, by decide +kernel⟩
def b_Lbelow (c_Lmixed : FM) : SM :=
  (sSeq (sAsg (mOp wIx (mVar 0) (mC (.str "cells"))) (gN 2))
  (sSeq (sWhile big (mAnd (mTru (mOp wIx (mVar 0) (mC (.str "is_plain")))) (mAnd (mB (mOp wEq (mOp wIx (mVar 0) (mC (.str "left"))) (mC (.int 0)))) (mB (mOp wLt (mOp wAdd (mOp wIx (mVar 0) (mC (.str "at"))) (mC (.int 1))) (mCall wLen (mCons (mVar 2) mNil))))))
  (sSeq (sSetIx (mOp wAdd (mOp wIx (mVar 0) (mC (.str "at"))) (mC (.int 1))) (mVar 0) (mC (.str "at")))
  (sSetIx (mCall wAbs (mCons (mOp wIx (mVar 2) (mOp wIx (mVar 0) (mC (.str "at")))) mNil)) (mVar 0) (mC (.str "left")))))
  (sSeq (sIf (mAnd (mTru (mOp wIx (mVar 0) (mC (.str "is_plain")))) (mB (mOp wGt (mOp wIx (mVar 0) (mC (.str "left"))) (mC (.int 0)))))
  (sSeq (sAsg (mOp wMod (mOp wIx (mVar 0) (mC (.str "left"))) (mVar 1)) (gN 3))
  (sSeq (sSetIx (mOp wFdiv (mOp wIx (mVar 0) (mC (.str "left"))) (mVar 1)) (mVar 0) (mC (.str "left")))
  (sRet (mVar 3))))
  sNext)
  (sSeq (sSetIx (mOp wAdd (mOp wIx (mVar 0) (mC (.str "mixed"))) (mC (.int 1))) (mVar 0) (mC (.str "mixed")))
  (sSeq (sAsg (mFn 2 c_Lmixed (mCons (mOp wIx (mVar 2) (mOp wMod (mOp wIx (mVar 0) (mC (.str "mixed"))) (mCall wLen (mCons (mVar 2) mNil)))) (mCons (mOp wIx (mVar 0) (mC (.str "mixed"))) mNil))) (gN 4))
  (sRet (mOp wMod (mFn 2 c_Lmixed (mCons (mVar 4) (mCons (mC (.int 3)) mNil))) (mVar 1))))))))
def f_Lbelow (c_Lmixed : FM) : FM := runB 5 (b_Lbelow c_Lmixed)
theorem o_Lbelow {P : Program} {w : World} {K : PySem.W.Frag} {mg : Str → Option Value} {base : Heap} {D : Dat} (T : Txt D K mg)
  {c_Lmixed : FM} (F_Lmixed : FnG P w K mg base 1 D.a_Lmixed D.d_Lmixed ["_law_number", "_law_k"] (SPm K 2 c_Lmixed)) :
    FnG P w K mg base 2 D.a_Lbelow D.d_Lbelow ["_law_draw_here", "_law_many"] (SPm K 2 (f_Lbelow c_Lmixed)) :=
  have S := sc_Lbelow
  ok_body (k := 1) T.f_Lbelow S fun cdv A outer s H E hr gd =>
    (sss_cons (ss_set 2 S.nd (se_sub' hr (se_var 0) se_str))
    (sss_cons (ss_while big (passes_of rfl) (PW.pt (sw_and (st_tru (se_sub' hr (se_var 0) se_str)) (sw_and (st_cmp (o_eq hr) p_eq (se_sub' hr (se_var 0) se_str) se_int) (sw_and1 (st_cmp o_lt p_lt (se_add (se_sub' hr (se_var 0) se_str) se_int) (se_callB c_len o_len T.n_len (by rfl) (sa_cons (se_var 2) sa_nil)))))))
    (sss_cons (ss_setix hr (se_add (se_sub' hr (se_var 0) se_str) se_int) (se_var 0) se_str)
    (sss_one (ss_setix hr (se_callB call_abs o_abs T.n_abs (by rfl) (sa_cons (se_sub' hr (se_var 2) (se_sub' hr (se_var 0) se_str)) sa_nil)) (se_var 0) se_str))))
    (sss_cons (ss_if (PW.pt (sw_and (st_tru (se_sub' hr (se_var 0) se_str)) (sw_and1 (st_cmp o_gt p_gt (se_sub' hr (se_var 0) se_str) se_int))))
    (sss_cons (ss_set 3 S.nd (se_mod (se_sub' hr (se_var 0) se_str) (se_var 1)))
    (sss_cons (ss_setix hr (se_fdiv (se_sub' hr (se_var 0) se_str) (se_var 1)) (se_var 0) se_str)
    (sss_one (ss_ret (se_var 3)))))
    sss_nil)
    (sss_cons (ss_setix hr (se_add (se_sub' hr (se_var 0) se_str) se_int) (se_var 0) se_str)
    (sss_cons (ss_set 4 S.nd (se_call F_Lmixed T.b_Lmixed T.f_Lmixed.kp (hr.mono (by decide)) gd (takes_of rfl rfl rfl rfl) T.g_Lmixed (sa_cons (se_sub' hr (se_var 2) (se_mod (se_sub' hr (se_var 0) se_str) (se_callB c_len o_len T.n_len (by rfl) (sa_cons (se_var 2) sa_nil)))) (sa_cons (se_sub' hr (se_var 0) se_str) sa_nil))))
    (sss_one (ss_ret (se_mod (se_call F_Lmixed T.b_Lmixed T.f_Lmixed.kp (hr.mono (by decide)) gd (takes_of rfl rfl rfl rfl) T.g_Lmixed (sa_cons (se_var 4) (sa_cons se_int sa_nil))) (se_var 1)))))))))
/-! ### _law_of_plan -/
theorem sc_Lof_plan : FnScope ["_law_plan", "_law_found", "_law_turn", "_law_more", "_law_lost", "_law_room", "_law_moves", "_law_number"] ["_law_plan"] (defScope st_Lof_plan) := ⟨rfl, rfl, rfl, by decide +kernel, rfl, by decide +kernel, by decide +kernel⟩
def b_Lof_plan (c_Lwanted c_Lis_led : FM) : SM :=
  (sSeq (sAsg (mFix (mRepL (mLst (mCons (mC (.int 0)) mNil)) (mCall wLen (mCons (mVar 0) mNil)))) (gN 1))
  (sSeq (sFor (mIter big (mVar 0)) (gN 2)
  (sAsg (mFn 2 c_Lwanted (mCons (mVar 0) (mCons (mVar 1) mNil))) (gN 1)))
  (sSeq (sAsg (mFn 2 c_Lwanted (mCons (mVar 0) (mCons (mVar 1) mNil))) (gN 3))
  (sSeq (sAsg (mFix (mLc (mRange1 (mCall wLen (mCons (mVar 0) mNil))) (gN 5) (mB (mOp wGt (mOp wIx (mVar 3) (mVar 5)) (mOp wIx (mVar 1) (mVar 5)))) (mVar 5) [5])) (gN 4))
  (sSeq (sFor (mIter big (mVar 0)) (gN 2)
  (sAsg (mFix (mLc (mEnum big (mVar 0)) (gT (gCons' (gN 5) (gCons' (gN 6) gNil'))) (mOr (mB (mOp wIn (mVar 5) (mVar 4))) (mTru (mFn 2 c_Lis_led (mCons (mVar 6) (mCons (mVar 4) mNil))))) (mVar 5) [5, 6])) (gN 4)))
  (sRet (mFix (mLc (mEnum big (mVar 1)) (gT (gCons' (gN 5) (gCons' (gN 7) gNil'))) mYes (mIf (mB (mOp wIn (mVar 5) (mVar 4))) (mC .non) (mVar 7)) [5, 7]))))))))
def f_Lof_plan (c_Lwanted c_Lis_led : FM) : FM := runB 8 (b_Lof_plan c_Lwanted c_Lis_led)
theorem o_Lof_plan {P : Program} {w : World} {K : PySem.W.Frag} {mg : Str → Option Value} {base : Heap} {D : Dat} (T : Txt D K mg)
  {c_Lwanted : FM} (F_Lwanted : FnG P w K mg base 1 D.a_Lwanted D.d_Lwanted ["_law_plan", "_law_found"] (SPm K 2 c_Lwanted))
  {c_Lis_led : FM} (F_Lis_led : FnG P w K mg base 1 D.a_Lis_led D.d_Lis_led ["_law_moves", "_law_lost"] (SPm K 2 c_Lis_led)) :
    FnG P w K mg base 2 D.a_Lof_plan D.d_Lof_plan ["_law_plan"] (SPm K 1 (f_Lof_plan c_Lwanted c_Lis_led)) :=
  have S := sc_Lof_plan
  ok_body (k := 1) T.f_Lof_plan S fun cdv A outer s H E hr gd =>
    (sss_cons (ss_set 1 S.nd (se_fix (sl_rep (sl_lst (sa_cons se_int sa_nil)) (se_callB c_len o_len T.n_len (by rfl) (sa_cons (se_var 0) sa_nil)))))
    (sss_cons (ss_for (passes_of rfl) rfl (si_iter big (se_var 0)) (sg_name 2 S.nd)
    (sss_one (ss_set 1 S.nd (se_call F_Lwanted T.b_Lwanted T.f_Lwanted.kp (hr.mono (by decide)) gd (takes_of rfl rfl rfl rfl) T.g_Lwanted (sa_cons (se_var 0) (sa_cons (se_var 1) sa_nil))))))
    (sss_cons (ss_set 3 S.nd (se_call F_Lwanted T.b_Lwanted T.f_Lwanted.kp (hr.mono (by decide)) gd (takes_of rfl rfl rfl rfl) T.g_Lwanted (sa_cons (se_var 0) (sa_cons (se_var 1) sa_nil))))
    (sss_cons (ss_set 4 S.nd (se_fix (sl_lc [("_law_room", 5)] rfl S.nd (si_range1 T.n_range (se_callB c_len o_len T.n_len (by rfl) (sa_cons (se_var 0) sa_nil))) (by kernel_rfl) (fun _ _ _ _ _ => (sg_name 5 S.nd)) (fun _ _ _ _ _ => (sts_one (st_cmp o_gt p_gt (se_sub' hr (se_var 3) (se_var 5)) (se_sub' hr (se_var 1) (se_var 5))))) (fun _ _ _ _ _ => (se_var 5)))))
    (sss_cons (ss_for (passes_of rfl) rfl (si_iter big (se_var 0)) (sg_name 2 S.nd)
    (sss_one (ss_set 4 S.nd (se_fix (sl_lc [("_law_room", 5), ("_law_moves", 6)] rfl S.nd (si_enum big T.n_enumerate (se_var 0)) (by kernel_rfl) (fun _ _ _ _ _ => (sg_tup rfl (sgs_cons (sg_name 5 S.nd) (sgs_cons (sg_name 6 S.nd) sgs_nil)) (fun _ _ _ e => gl_cons (fun _ _ _ e => gl_cons (fun _ _ _ e => gl_nil e) e) e))) (fun _ _ _ _ _ => (sts_one (PW.pt (sw_or (st_cmp (o_in hr) p_in (se_var 5) (se_var 4)) (sw_or1 (st_tru (se_call F_Lis_led T.b_Lis_led T.f_Lis_led.kp (hr.mono (by decide)) gd takes0 T.g_Lis_led (sa_cons (se_var 6) (sa_cons (se_var 4) sa_nil))))))))) (fun _ _ _ _ _ => (se_var 5)))))))
    (sss_one (ss_ret (se_fix (sl_lc [("_law_room", 5), ("_law_number", 7)] rfl S.nd (si_enum big T.n_enumerate (se_var 1)) (by kernel_rfl) (fun _ _ _ _ _ => (sg_tup rfl (sgs_cons (sg_name 5 S.nd) (sgs_cons (sg_name 7 S.nd) sgs_nil)) (fun _ _ _ e => gl_cons (fun _ _ _ e => gl_cons (fun _ _ _ e => gl_nil e) e) e))) (fun _ _ _ _ _ => sts_nil) (fun _ _ _ _ _ => (se_if (st_cmp (o_in hr) p_in (se_var 5) (se_var 4)) se_non (se_var 7))))))))))))
/-! ### Raising.due -/
theorem sc_Raising_due : FnScope ["self", "room", "owner", "moves", "some", "best", "move"] ["self", "room"] (defScope st_Raising_due) := ⟨rfl, rfl, rfl, by decide +kernel, rfl, by decide +kernel, by decide +kernel⟩
def b_Raising_due (c_Raising_wanted : FM) : SM :=
  (sSeq (sAsg (mOp wIx (mOp wIx (mUn (fldW kc_arena "arena") (mVar 0)) (mC (.int 0))) (mVar 1)) (gT (gCons' (gN 2) (gCons' (gN 3) gNil'))))
  (sSeq (sIf (mB (mOp wEq (mVar 3) (mTup mNil)))
  (sRet (mTup (mCons (mC (.int 0)) (mCons (mUn wNeg (mC (.int 1))) mNil))))
  sNext)
  (sSeq (sAsg (mNew (mLc (mIter big (mVar 3)) (gN 6) mYes (mMth "Raising" "wanted" 2 c_Raising_wanted (mVar 0) (mCons (mVar 6) mNil)) [6])) (gN 4))
  (sSeq (sAsg (mIf (mB (mOp wEq (mVar 2) (mC (.int 0)))) (mOn wMin (mLstOf (mVar 4))) (mOn wMax (mLstOf (mVar 4)))) (gN 5))
  (sRet (mTup (mCons (mVar 5) (mCons (mMt "list" wIndex (mVar 4) (mCons (mVar 5) mNil)) mNil))))))))
def f_Raising_due (c_Raising_wanted : FM) : FM := runB 7 (b_Raising_due c_Raising_wanted)
theorem o_Raising_due {P : Program} {w : World} {K : PySem.W.Frag} {mg : Str → Option Value} {base : Heap} {D : Dat} (T : Txt D K mg)
  {c_Raising_wanted : FM} (F_Raising_wanted : FnG P w K mg base 1 D.a_Raising_wanted D.d_Raising_wanted ["self", "move"] (SPm K 2 c_Raising_wanted)) :
    FnG P w K mg base 2 D.a_Raising_due D.d_Raising_due ["self", "room"] (SPm K 2 (f_Raising_due c_Raising_wanted)) :=
  have S := sc_Raising_due
  ok_body (k := 1) T.f_Raising_due S fun cdv A outer s H E hr gd =>
    (sss_cons (ss_asg (se_sub' hr (se_sub' hr (se_fldO (cf_arena T) (se_var 0)) se_int) (se_var 1)) (sg_tup rfl (sgs_cons (sg_name 2 S.nd) (sgs_cons (sg_name 3 S.nd) sgs_nil)) (fun _ _ _ e => gl_cons (fun _ _ _ e => gl_cons (fun _ _ _ e => gl_nil e) e) e)))
    (sss_cons (ss_if (st_cmp (o_eq hr) p_eq (se_var 3) (se_tup sa_nil))
    (sss_one (ss_ret (se_tup (sa_cons se_int (sa_cons (se_neg se_int) sa_nil)))))
    sss_nil)
    (sss_cons (ss_setLc 4 [("move", 6)] rfl S.nd (si_iter big (se_var 3)) (by kernel_rfl) (fun _ _ _ _ _ => (sg_name 6 S.nd)) (fun _ _ _ _ _ => sts_nil) (fun _ _ _ _ _ => (se_meth T.ns_Raising T.cl_Raising T.mt_Raising_wanted F_Raising_wanted T.b_Raising_wanted (hr.mono (by decide)) gd takes0 (se_var 0) (sa_cons (se_var 6) sa_nil))))
    (sss_cons (ss_set 5 S.nd (se_if (st_cmp (o_eq hr) p_eq (se_var 2) se_int) (pg_callBM back_W (cr_min rfl) q_min T.n_min (by rfl) (sm_val (se_var 4))) (pg_callBM back_W (cr_max rfl) q_max T.n_max (by rfl) (sm_val (se_var 4)))))
    (sss_one (ss_ret (se_tup (sa_cons (se_var 5) (sa_cons (se_index (se_var 4) (se_var 5)) sa_nil)))))))))
/-! ### Sinking.sink_rows -/
theorem sc_Sinking_sink_rows : FnScope ["self", "is_deeper", "room", "depth"] ["self"] (defScope st_Sinking_sink_rows) := ⟨rfl, rfl, rfl, by decide +kernel, rfl, by decide +kernel, by decide +kernel⟩
def b_Sinking_sink_rows (c_Sinking_due : FM) : SM :=
  (sSeq (sAsg (mC (.bl true)) (gN 1))
  (sSeq (sWhile big (mTru (mVar 1))
  (sSeq (sAsg (mC (.bl false)) (gN 1))
  (sFor (mIter big (mUn (fldW kc_sunk "sunk") (mVar 0))) (gN 2)
  (sSeq (sAsg (mOp wIx (mMth "Sinking" "due" 2 c_Sinking_due (mVar 0) (mCons (mVar 2) mNil)) (mC (.int 0))) (gN 3))
  (sIf (mB (mOp wGt (mVar 3) (mOp wIx (mUn (fldW kc_depths "depths") (mVar 0)) (mVar 2))))
  (sSeq (sSetIx (mVar 3) (mUn (fldW kc_depths "depths") (mVar 0)) (mVar 2))
  (sAsg (mC (.bl true)) (gN 1)))
  sNext)))))
  (sRet (mOn wTupQ (mLc (mIter big (mUn (fldW kc_sunk "sunk") (mVar 0))) (gN 2) mYes (mTup (mCons (mVar 2) (mCons (mOp wSub (mC (.int 0)) (mOp wIx (mUn (fldW kc_depths "depths") (mVar 0)) (mVar 2))) (mCons (mOp wIx (mMth "Sinking" "due" 2 c_Sinking_due (mVar 0) (mCons (mVar 2) mNil)) (mC (.int 1))) mNil)))) [2])))))
def f_Sinking_sink_rows (c_Sinking_due : FM) : FM := runB 4 (b_Sinking_sink_rows c_Sinking_due)
theorem o_Sinking_sink_rows {P : Program} {w : World} {K : PySem.W.Frag} {mg : Str → Option Value} {base : Heap} {D : Dat} (T : Txt D K mg)
  {c_Sinking_due : FM} (F_Sinking_due : FnG P w K mg base 1 D.a_Sinking_due D.d_Sinking_due ["self", "room"] (SPm K 2 c_Sinking_due)) :
    FnG P w K mg base 2 D.a_Sinking_sink_rows D.d_Sinking_sink_rows ["self"] (SPm K 1 (f_Sinking_sink_rows c_Sinking_due)) :=
  have S := sc_Sinking_sink_rows
  ok_body (k := 1) T.f_Sinking_sink_rows S fun cdv A outer s H E hr gd =>
    (sss_cons (ss_set 1 S.nd se_bl)
    (sss_cons (ss_while big (passes_of rfl) (st_tru (se_var 1))
    (sss_cons (ss_set 1 S.nd se_bl)
    (sss_one (ss_for (passes_of rfl) rfl (si_iter big (se_fldO (cf_sunk T) (se_var 0))) (sg_name 2 S.nd)
    (sss_cons (ss_set 3 S.nd (se_sub' hr (se_meth T.ns_Sinking T.cl_Sinking T.mt_Sinking_due F_Sinking_due T.b_Sinking_due (hr.mono (by decide)) gd (takes_of rfl rfl rfl rfl) (se_var 0) (sa_cons (se_var 2) sa_nil)) se_int))
    (sss_one (ss_if (st_cmp o_gt p_gt (se_var 3) (se_sub' hr (se_fldO (cf_depths T) (se_var 0)) (se_var 2)))
    (sss_cons (ss_setix hr (se_var 3) (se_fldO (cf_depths T) (se_var 0)) (se_var 2))
    (sss_one (ss_set 1 S.nd se_bl)))
    sss_nil)))))))
    (sss_one (ss_ret (pg_callTS back_W call_tuple_of q_tup T.n_tuple (by rfl) (sq_list (sl_lc [("room", 2)] rfl S.nd (si_iter big (se_fldO (cf_sunk T) (se_var 0))) (by kernel_rfl) (fun _ _ _ _ _ => (sg_name 2 S.nd)) (fun _ _ _ _ _ => sts_nil) (fun _ _ _ _ _ => (se_tup (sa_cons (se_var 2) (sa_cons (se_sub se_int (se_sub' hr (se_fldO (cf_depths T) (se_var 0)) (se_var 2))) (sa_cons (se_sub' hr (se_meth T.ns_Sinking T.cl_Sinking T.mt_Sinking_due F_Sinking_due T.b_Sinking_due (hr.mono (by decide)) gd takes0 (se_var 0) (sa_cons (se_var 2) sa_nil)) se_int) sa_nil))))))))))))
/-! ### purse_rows -/
theorem sc_purse_rows : FnScope ["raising", "found", "room", "purse"] ["raising"] (defScope st_purse_rows) := ⟨rfl, rfl, rfl, by decide +kernel, rfl, by decide +kernel, by decide +kernel⟩
def b_purse_rows (c_Raising_due : FM) : SM :=
  (sSeq (sAsg (mNew (mLst mNil)) (gN 1))
  (sSeq (sFor (mEnum big (mUn (fldW kc_purses "purses") (mVar 0))) (gT (gCons' (gN 2) (gCons' (gN 3) gNil')))
  (sIf (mB (mOp wIsNot (mVar 3) (mC .non)))
  (sDrop (mMt "list" wAppend (mVar 1) (mCons (mTup (mCons (mVar 2) (mCons (mVar 3) (mCons (mIf (mB (mOp wEq (mOp wIx (mOp wIx (mOp wIx (mUn (fldW kc_arena "arena") (mVar 0)) (mC (.int 0))) (mVar 2)) (mC (.int 0))) (mC (.int 0)))) (mOp wIx (mMth "Raising" "due" 2 c_Raising_due (mVar 0) (mCons (mVar 2) mNil)) (mC (.int 1))) (mUn wNeg (mC (.int 1)))) mNil)))) mNil)))
  sNext))
  (sRet (mOn wTupQ (mSeq (mVar 1))))))
def f_purse_rows (c_Raising_due : FM) : FM := runB 4 (b_purse_rows c_Raising_due)
theorem o_purse_rows {P : Program} {w : World} {K : PySem.W.Frag} {mg : Str → Option Value} {base : Heap} {D : Dat} (T : Txt D K mg)
  {c_Raising_due : FM} (F_Raising_due : FnG P w K mg base 2 D.a_Raising_due D.d_Raising_due ["self", "room"] (SPm K 2 c_Raising_due)) :
    FnG P w K mg base 3 D.a_purse_rows D.d_purse_rows ["raising"] (SPm K 1 (f_purse_rows c_Raising_due)) :=
  have S := sc_purse_rows
  ok_body (k := 2) T.f_purse_rows S fun cdv A outer s H E hr gd =>
    (sss_cons (ss_set 1 S.nd (se_new (sl_lst sa_nil)))
    (sss_cons (ss_for (passes_of rfl) rfl (si_enum big T.n_enumerate (se_fldO (cf_purses T) (se_var 0))) (sg_tup rfl (sgs_cons (sg_name 2 S.nd) (sgs_cons (sg_name 3 S.nd) sgs_nil)) (fun _ _ _ e => gl_cons (fun _ _ _ e => gl_cons (fun _ _ _ e => gl_nil e) e) e))
    (sss_one (ss_if (st_cmp o_isNot p_isNot (se_var 3) se_non)
    (sss_one (ss_expr (se_append mt_append (se_var 1) (se_tup (sa_cons (se_var 2) (sa_cons (se_var 3) (sa_cons (se_if (st_cmp (o_eq hr) p_eq (se_sub' hr (se_sub' hr (se_sub' hr (se_fldO (cf_arena T) (se_var 0)) se_int) (se_var 2)) se_int) se_int) (se_sub' hr (se_meth T.ns_Raising T.cl_Raising T.mt_Raising_due F_Raising_due T.b_Raising_due (hr.mono (by decide)) gd (takes_of rfl rfl rfl rfl) (se_var 0) (sa_cons (se_var 2) sa_nil)) se_int) (se_neg se_int)) sa_nil)))))))
    sss_nil)))
    (sss_one (ss_ret (pg_callTS back_W call_tuple_of q_tup T.n_tuple (by rfl) (sq_val (se_var 1)))))))
/-! ### _law_arena -/
theorem sc_Larena : FnScope ["_law_draw_here", "_law_most", "_law_low", "_law_high", "_law_many", "_law_rooms", "_law_room", "_law_moves", "_law_k", "_law_to", "_law_price", "_law_marks", "_law_name"] ["_law_draw_here", "_law_most", "_law_low", "_law_high"] (defScope st_Larena) := ⟨rfl, rfl, rfl, by decide +kernel, rfl, by decide +kernel, by decide +kernel⟩
def b_Larena (c_Lbelow : FM) : SM :=
  (sSeq (sAsg (mOp wAdd (mC (.int 1)) (mFn 2 c_Lbelow (mCons (mVar 0) (mCons (mVar 1) mNil)))) (gN 4))
  (sSeq (sAsg (mNew (mLst mNil)) (gN 5))
  (sSeq (sFor (mRange1 (mVar 4)) (gN 6)
  (sSeq (sAsg (mNew (mLst mNil)) (gN 7))
  (sSeq (sFor (mRange1 (mOp wIx (mFix (mLst (mCons (mC (.int 1)) (mCons (mC (.int 2)) (mCons (mC (.int 2)) (mCons (mC (.int 3)) (mCons (mC (.int 1)) (mCons (mC (.int 4)) (mCons (mC (.int 2)) (mCons (mC (.int 0)) mNil)))))))))) (mFn 2 c_Lbelow (mCons (mVar 0) (mCons (mC (.int 8)) mNil))))) (gN 8)
  (sSeq (sAsg (mFn 2 c_Lbelow (mCons (mVar 0) (mCons (mVar 4) mNil))) (gN 9))
  (sSeq (sAsg (mOp wIx (mFix (mLst (mCons (mC (.int 0)) (mCons (mVar 2) (mCons (mVar 3) (mCons (mC (.int 1)) (mCons (mOp wAdd (mVar 2) (mFn 2 c_Lbelow (mCons (mVar 0) (mCons (mOp wAdd (mOp wSub (mVar 3) (mVar 2)) (mC (.int 1))) mNil)))) mNil))))))) (mFn 2 c_Lbelow (mCons (mVar 0) (mCons (mC (.int 5)) mNil)))) (gN 10))
  (sDrop (mMt "list" wAppend (mVar 7) (mCons (mTup (mCons (mVar 9) (mCons (mCall wMax2 (mCons (mVar 2) (mCons (mCall wMin2 (mCons (mVar 3) (mCons (mVar 10) mNil))) mNil))) (mCons (mFn 2 c_Lbelow (mCons (mVar 0) (mCons (mC (.int 2)) mNil))) mNil)))) mNil))))))
  (sDrop (mMt "list" wAppend (mVar 5) (mCons (mTup (mCons (mFn 2 c_Lbelow (mCons (mVar 0) (mCons (mC (.int 2)) mNil))) (mCons (mOn wTupQ (mSeq (mVar 7))) mNil))) mNil))))))
  (sSeq (sAsg (mNew (mLst mNil)) (gN 11))
  (sSeq (sFor (mIter big (mTup (mCons (mC (.str "here")) (mCons (mC (.str "there")) mNil)))) (gN 12)
  (sDrop (mMt "list" wAppend (mVar 11) (mCons (mTup (mCons (mVar 12) (mCons (mOn wTupQ (mLc (mRange1 (mVar 4)) (gN 6) (mB (mOp wEq (mFn 2 c_Lbelow (mCons (mVar 0) (mCons (mC (.int 4)) mNil))) (mC (.int 0)))) (mVar 6) [6])) mNil))) mNil))))
  (sRet (mTup (mCons (mOn wTupQ (mSeq (mVar 5))) (mCons (mOn wTupQ (mSeq (mVar 11))) mNil)))))))))
def f_Larena (c_Lbelow : FM) : FM := runB 13 (b_Larena c_Lbelow)
theorem o_Larena {P : Program} {w : World} {K : PySem.W.Frag} {mg : Str → Option Value} {base : Heap} {D : Dat} (T : Txt D K mg)
  {c_Lbelow : FM} (F_Lbelow : FnG P w K mg base 2 D.a_Lbelow D.d_Lbelow ["_law_draw_here", "_law_many"] (SPm K 2 c_Lbelow)) :
    FnG P w K mg base 3 D.a_Larena D.d_Larena ["_law_draw_here", "_law_most", "_law_low", "_law_high"] (SPm K 4 (f_Larena c_Lbelow)) :=
  have S := sc_Larena
  ok_body (k := 2) T.f_Larena S fun cdv A outer s H E hr gd =>
    (sss_cons (ss_set 4 S.nd (se_add se_int (se_call F_Lbelow T.b_Lbelow T.f_Lbelow.kp (hr.mono (by decide)) gd (takes_of rfl rfl rfl rfl) T.g_Lbelow (sa_cons (se_var 0) (sa_cons (se_var 1) sa_nil)))))
    (sss_cons (ss_set 5 S.nd (se_new (sl_lst sa_nil)))
    (sss_cons (ss_for (passes_of rfl) rfl (si_range1 T.n_range (se_var 4)) (sg_name 6 S.nd)
    (sss_cons (ss_set 7 S.nd (se_new (sl_lst sa_nil)))
    (sss_cons (ss_for (passes_of rfl) rfl (si_range1 T.n_range (se_sub' hr (se_fix (sl_lst (sa_cons se_int (sa_cons se_int (sa_cons se_int (sa_cons se_int (sa_cons se_int (sa_cons se_int (sa_cons se_int (sa_cons se_int sa_nil)))))))))) (se_call F_Lbelow T.b_Lbelow T.f_Lbelow.kp (hr.mono (by decide)) gd (takes_of rfl rfl rfl rfl) T.g_Lbelow (sa_cons (se_var 0) (sa_cons se_int sa_nil))))) (sg_name 8 S.nd)
    (sss_cons (ss_set 9 S.nd (se_call F_Lbelow T.b_Lbelow T.f_Lbelow.kp (hr.mono (by decide)) gd (takes_of rfl rfl rfl rfl) T.g_Lbelow (sa_cons (se_var 0) (sa_cons (se_var 4) sa_nil))))
    (sss_cons (ss_set 10 S.nd (se_sub' hr (se_fix (sl_lst (sa_cons se_int (sa_cons (se_var 2) (sa_cons (se_var 3) (sa_cons se_int (sa_cons (se_add (se_var 2) (se_call F_Lbelow T.b_Lbelow T.f_Lbelow.kp (hr.mono (by decide)) gd (takes_of rfl rfl rfl rfl) T.g_Lbelow (sa_cons (se_var 0) (sa_cons (se_add (se_sub (se_var 3) (se_var 2)) se_int) sa_nil)))) sa_nil))))))) (se_call F_Lbelow T.b_Lbelow T.f_Lbelow.kp (hr.mono (by decide)) gd (takes_of rfl rfl rfl rfl) T.g_Lbelow (sa_cons (se_var 0) (sa_cons se_int sa_nil)))))
    (sss_one (ss_expr (se_append mt_append (se_var 7) (se_tup (sa_cons (se_var 9) (sa_cons (se_callB (call_max2 rfl) o_max2 T.n_max (by rfl) (sa_cons (se_var 2) (sa_cons (se_callB (call_min2 rfl) o_min2 T.n_min (by rfl) (sa_cons (se_var 3) (sa_cons (se_var 10) sa_nil))) sa_nil))) (sa_cons (se_call F_Lbelow T.b_Lbelow T.f_Lbelow.kp (hr.mono (by decide)) gd (takes_of rfl rfl rfl rfl) T.g_Lbelow (sa_cons (se_var 0) (sa_cons se_int sa_nil))) sa_nil))))))))))
    (sss_one (ss_expr (se_append mt_append (se_var 5) (se_tup (sa_cons (se_call F_Lbelow T.b_Lbelow T.f_Lbelow.kp (hr.mono (by decide)) gd (takes_of rfl rfl rfl rfl) T.g_Lbelow (sa_cons (se_var 0) (sa_cons se_int sa_nil))) (sa_cons (pg_callTS back_W call_tuple_of q_tup T.n_tuple (by rfl) (sq_val (se_var 7))) sa_nil)))))))))
    (sss_cons (ss_set 11 S.nd (se_new (sl_lst sa_nil)))
    (sss_cons (ss_for (passes_of rfl) rfl (si_iter big (se_tup (sa_cons se_str (sa_cons se_str sa_nil)))) (sg_name 12 S.nd)
    (sss_one (ss_expr (se_append mt_append (se_var 11) (se_tup (sa_cons (se_var 12) (sa_cons (pg_callTS back_W call_tuple_of q_tup T.n_tuple (by rfl) (sq_list (sl_lc [("_law_room", 6)] rfl S.nd (si_range1 T.n_range (se_var 4)) (by kernel_rfl) (fun _ _ _ _ _ => (sg_name 6 S.nd)) (fun _ _ _ _ _ => (sts_one (st_cmp (o_eq hr) p_eq (se_call F_Lbelow T.b_Lbelow T.f_Lbelow.kp (hr.mono (by decide)) gd takes0 T.g_Lbelow (sa_cons (se_var 0) (sa_cons se_int sa_nil))) se_int))) (fun _ _ _ _ _ => (se_var 6))))) sa_nil)))))))
    (sss_one (ss_ret (se_tup (sa_cons (pg_callTS back_W call_tuple_of q_tup T.n_tuple (by rfl) (sq_val (se_var 5))) (sa_cons (pg_callTS back_W call_tuple_of q_tup T.n_tuple (by rfl) (sq_val (se_var 11))) sa_nil))))))))))
/-! ### Raising.raise_room -/
theorem sc_Raising_raise_room : FnScope ["self", "room", "best", "move"] ["self", "room"] (defScope st_Raising_raise_room) := ⟨rfl, rfl, rfl, by decide +kernel, rfl, by decide +kernel, by decide +kernel⟩
def b_Raising_raise_room (c_Raising_due : FM) : SM :=
  (sSeq (sAsg (mMth "Raising" "due" 2 c_Raising_due (mVar 0) (mCons (mVar 1) mNil)) (gT (gCons' (gN 2) (gCons' (gN 3) gNil'))))
  (sSeq (sIf (mOr (mB (mOp wIs (mOp wIx (mUn (fldW kc_purses "purses") (mVar 0)) (mVar 1)) (mC .non))) (mB (mOp wLe (mVar 2) (mOp wIx (mUn (fldW kc_purses "purses") (mVar 0)) (mVar 1)))))
  (sRet (mC (.bl false)))
  sNext)
  (sSeq (sSetFld kc_count "count" (mOp wAdd (mUn (fldW kc_count "count") (mVar 0)) (mC (.int 1))) (mVar 0))
  (sSeq (sSetIx (mIf (mB (mOp wLe (mVar 2) (mUn (fldW kc_bound "bound") (mVar 0)))) (mVar 2) (mC .non)) (mUn (fldW kc_purses "purses") (mVar 0)) (mVar 1))
  (sSeq (sSetIx (mUn (fldW kc_count "count") (mVar 0)) (mUn (fldW kc_lasts "lasts") (mVar 0)) (mVar 1))
  (sSeq (sSetIx (mVar 3) (mUn (fldW kc_ways "ways") (mVar 0)) (mVar 1))
  (sRet (mC (.bl true)))))))))
def f_Raising_raise_room (c_Raising_due : FM) : FM := runB 4 (b_Raising_raise_room c_Raising_due)
theorem o_Raising_raise_room {P : Program} {w : World} {K : PySem.W.Frag} {mg : Str → Option Value} {base : Heap} {D : Dat} (T : Txt D K mg)
  {c_Raising_due : FM} (F_Raising_due : FnG P w K mg base 2 D.a_Raising_due D.d_Raising_due ["self", "room"] (SPm K 2 c_Raising_due)) :
    FnG P w K mg base 3 D.a_Raising_raise_room D.d_Raising_raise_room ["self", "room"] (SPm K 2 (f_Raising_raise_room c_Raising_due)) :=
  have S := sc_Raising_raise_room
  ok_body (k := 2) T.f_Raising_raise_room S fun cdv A outer s H E hr gd =>
    (sss_cons (ss_asg (se_meth T.ns_Raising T.cl_Raising T.mt_Raising_due F_Raising_due T.b_Raising_due (hr.mono (by decide)) gd (takes_of rfl rfl rfl rfl) (se_var 0) (sa_cons (se_var 1) sa_nil)) (sg_tup rfl (sgs_cons (sg_name 2 S.nd) (sgs_cons (sg_name 3 S.nd) sgs_nil)) (fun _ _ _ e => gl_cons (fun _ _ _ e => gl_cons (fun _ _ _ e => gl_nil e) e) e)))
    (sss_cons (ss_if (PW.pt (sw_or (st_cmp o_is p_is (se_sub' hr (se_fldO (cf_purses T) (se_var 0)) (se_var 1)) se_non) (sw_or1 (st_cmp o_le p_le (se_var 2) (se_sub' hr (se_fldO (cf_purses T) (se_var 0)) (se_var 1))))))
    (sss_one (ss_ret se_bl))
    sss_nil)
    (sss_cons (ss_setfld (cf_count T) (se_add (se_fldO (cf_count T) (se_var 0)) se_int) (se_var 0))
    (sss_cons (ss_setix hr (se_if (st_cmp o_le p_le (se_var 2) (se_fldO (cf_bound T) (se_var 0))) (se_var 2) se_non) (se_fldO (cf_purses T) (se_var 0)) (se_var 1))
    (sss_cons (ss_setix hr (se_fldO (cf_count T) (se_var 0)) (se_fldO (cf_lasts T) (se_var 0)) (se_var 1))
    (sss_cons (ss_setix hr (se_var 3) (se_fldO (cf_ways T) (se_var 0)) (se_var 1))
    (sss_one (ss_ret se_bl))))))))
/-! ### Raising.raise_all -/
theorem sc_Raising_raise_all : FnScope ["self", "is_raised", "room"] ["self"] (defScope st_Raising_raise_all) := ⟨rfl, rfl, rfl, by decide +kernel, rfl, by decide +kernel, by decide +kernel⟩
def b_Raising_raise_all (c_Raising_raise_room : FM) : SM :=
  (sSeq (sAsg (mC (.bl true)) (gN 1))
  (sSeq (sWhile big (mTru (mVar 1))
  (sSeq (sAsg (mC (.bl false)) (gN 1))
  (sFor (mRange1 (mCall wLen (mCons (mUn (fldW kc_purses "purses") (mVar 0)) mNil))) (gN 2)
  (sIf (mTru (mMth "Raising" "raise_room" 2 c_Raising_raise_room (mVar 0) (mCons (mVar 2) mNil)))
  (sAsg (mC (.bl true)) (gN 1))
  sNext))))
  (sRet (mVar 0))))
def f_Raising_raise_all (c_Raising_raise_room : FM) : FM := runB 3 (b_Raising_raise_all c_Raising_raise_room)
theorem o_Raising_raise_all {P : Program} {w : World} {K : PySem.W.Frag} {mg : Str → Option Value} {base : Heap} {D : Dat} (T : Txt D K mg)
  {c_Raising_raise_room : FM} (F_Raising_raise_room : FnG P w K mg base 3 D.a_Raising_raise_room D.d_Raising_raise_room ["self", "room"] (SPm K 2 c_Raising_raise_room)) :
    FnG P w K mg base 4 D.a_Raising_raise_all D.d_Raising_raise_all ["self"] (SPm K 1 (f_Raising_raise_all c_Raising_raise_room)) :=
  have S := sc_Raising_raise_all
  ok_body (k := 3) T.f_Raising_raise_all S fun cdv A outer s H E hr gd =>
    (sss_cons (ss_set 1 S.nd se_bl)
    (sss_cons (ss_while big (passes_of rfl) (st_tru (se_var 1))
    (sss_cons (ss_set 1 S.nd se_bl)
    (sss_one (ss_for (passes_of rfl) rfl (si_range1 T.n_range (se_callB c_len o_len T.n_len (by rfl) (sa_cons (se_fldO (cf_purses T) (se_var 0)) sa_nil))) (sg_name 2 S.nd)
    (sss_one (ss_if (st_tru (se_meth T.ns_Raising T.cl_Raising T.mt_Raising_raise_room F_Raising_raise_room T.b_Raising_raise_room (hr.mono (by decide)) gd (takes_of rfl rfl rfl rfl) (se_var 0) (sa_cons (se_var 2) sa_nil)))
    (sss_one (ss_set 1 S.nd se_bl))
    sss_nil))))))
    (sss_one (ss_ret (se_var 0)))))
/-! ### purses -/
theorem sc_purses : FnScope ["arena"] ["arena"] (defScope st_purses) := ⟨rfl, rfl, rfl, by decide +kernel, rfl, by decide +kernel, by decide +kernel⟩
def b_purses (c_need_small c_Raising_raise_all c_Raising_ini : FM) : SM :=
  (sSeq (sDrop (mFn 1 c_need_small (mCons (mVar 0) mNil)))
  (sRet (mOn wTupQ (mSeq (mUn (fldW kc_purses "purses") (mMth0 "Raising" "raise_all" c_Raising_raise_all (mMake "Raising" 2 c_Raising_ini (mCons (mVar 0) mNil))))))))
def f_purses (c_need_small c_Raising_raise_all c_Raising_ini : FM) : FM := runB 1 (b_purses c_need_small c_Raising_raise_all c_Raising_ini)
theorem o_purses {P : Program} {w : World} {K : PySem.W.Frag} {mg : Str → Option Value} {base : Heap} {D : Dat} (T : Txt D K mg)
  {c_need_small : FM} (F_need_small : FnG P w K mg base 1 D.a_need_small D.d_need_small ["arena"] (SPm K 1 c_need_small))
  {c_Raising_raise_all : FM} (F_Raising_raise_all : FnG P w K mg base 4 D.a_Raising_raise_all D.d_Raising_raise_all ["self"] (SPm K 1 c_Raising_raise_all))
  {c_Raising_ini : FM} (F_Raising_ini : FnG P w K mg base 1 D.a_Raising_ini D.d_Raising_ini ["self", "arena"] (SPm K 2 c_Raising_ini)) :
    FnG P w K mg base 5 D.a_purses D.d_purses ["arena"] (SPm K 1 (f_purses c_need_small c_Raising_raise_all c_Raising_ini)) :=
  have S := sc_purses
  ok_body (k := 4) T.f_purses S fun cdv A outer s H E hr gd =>
    (sss_cons (ss_expr (se_call F_need_small T.b_need_small T.f_need_small.kp (hr.mono (by decide)) gd (takes_of rfl rfl rfl rfl) T.g_need_small (sa_cons (se_var 0) sa_nil)))
    (sss_one (ss_ret (pg_callTS back_W call_tuple_of q_tup T.n_tuple (by rfl) (sq_val (se_fldO (cf_purses T) (se_meth0 T.ns_Raising T.cl_Raising T.mt_Raising_raise_all F_Raising_raise_all T.b_Raising_raise_all (hr.mono (by decide)) gd (takes_of rfl rfl rfl rfl) (se_make T.ns_Raising T.mk_Raising F_Raising_ini T.b_Raising_ini (hr.mono (by decide)) gd (takes_of rfl rfl rfl rfl) T.mg_Raising (sa_cons (se_var 0) sa_nil)))))))))
/-! ### purse -/
theorem sc_purse : FnScope ["arena", "room", "raising", "sinks", "papers"] ["arena", "room"] (defScope st_purse) := ⟨rfl, rfl, rfl, by decide +kernel, rfl, by decide +kernel, by decide +kernel⟩
def b_purse (c_need_room c_need_small c_Raising_raise_all c_Raising_ini c_Sinking_sink_rows c_Sinking_ini c_purse_rows c_need_rows : FM) : SM :=
  (sSeq (sDrop (mFn 2 c_need_room (mCons (mVar 0) (mCons (mVar 1) mNil))))
  (sSeq (sDrop (mFn 1 c_need_small (mCons (mVar 0) mNil)))
  (sSeq (sAsg (mMth0 "Raising" "raise_all" c_Raising_raise_all (mMake "Raising" 2 c_Raising_ini (mCons (mVar 0) mNil))) (gN 2))
  (sSeq (sAsg (mTup (mCons (mC (.str "sinks")) (mCons (mMth0 "Sinking" "sink_rows" c_Sinking_sink_rows (mMake "Sinking" 2 c_Sinking_ini (mCons (mVar 2) mNil))) mNil))) (gN 3))
  (sSeq (sIf (mB (mOp wIs (mOp wIx (mUn (fldW kc_purses "purses") (mVar 2)) (mVar 1)) (mC .non)))
  (sRet (mTup (mCons (mTup (mCons (mC (.str "never")) mNil)) (mCons (mTup (mCons (mVar 3) mNil)) mNil))))
  sNext)
  (sSeq (sAsg (mTup (mCons (mTup (mCons (mC (.str "purses")) (mCons (mFn 1 c_purse_rows (mCons (mVar 2) mNil)) mNil))) (mCons (mTup (mCons (mC (.str "needs")) (mCons (mFn 1 c_need_rows (mCons (mVar 2) mNil)) mNil))) (mCons (mVar 3) mNil)))) (gN 4))
  (sRet (mTup (mCons (mTup (mCons (mC (.str "purse")) (mCons (mOp wIx (mUn (fldW kc_purses "purses") (mVar 2)) (mVar 1)) mNil))) (mCons (mVar 4) mNil))))))))))
def f_purse (c_need_room c_need_small c_Raising_raise_all c_Raising_ini c_Sinking_sink_rows c_Sinking_ini c_purse_rows c_need_rows : FM) : FM := runB 5 (b_purse c_need_room c_need_small c_Raising_raise_all c_Raising_ini c_Sinking_sink_rows c_Sinking_ini c_purse_rows c_need_rows)
theorem o_purse {P : Program} {w : World} {K : PySem.W.Frag} {mg : Str → Option Value} {base : Heap} {D : Dat} (T : Txt D K mg)
  {c_need_room : FM} (F_need_room : FnG P w K mg base 2 D.a_need_room D.d_need_room ["arena", "thing"] (SPm K 2 c_need_room))
  {c_need_small : FM} (F_need_small : FnG P w K mg base 1 D.a_need_small D.d_need_small ["arena"] (SPm K 1 c_need_small))
  {c_Raising_raise_all : FM} (F_Raising_raise_all : FnG P w K mg base 4 D.a_Raising_raise_all D.d_Raising_raise_all ["self"] (SPm K 1 c_Raising_raise_all))
  {c_Raising_ini : FM} (F_Raising_ini : FnG P w K mg base 1 D.a_Raising_ini D.d_Raising_ini ["self", "arena"] (SPm K 2 c_Raising_ini))
  {c_Sinking_sink_rows : FM} (F_Sinking_sink_rows : FnG P w K mg base 2 D.a_Sinking_sink_rows D.d_Sinking_sink_rows ["self"] (SPm K 1 c_Sinking_sink_rows))
  {c_Sinking_ini : FM} (F_Sinking_ini : FnG P w K mg base 1 D.a_Sinking_ini D.d_Sinking_ini ["self", "raising"] (SPm K 2 c_Sinking_ini))
  {c_purse_rows : FM} (F_purse_rows : FnG P w K mg base 3 D.a_purse_rows D.d_purse_rows ["raising"] (SPm K 1 c_purse_rows))
  {c_need_rows : FM} (F_need_rows : FnG P w K mg base 1 D.a_need_rows D.d_need_rows ["raising"] (SPm K 1 c_need_rows)) :
    FnG P w K mg base 5 D.a_purse D.d_purse ["arena", "room"] (SPm K 2 (f_purse c_need_room c_need_small c_Raising_raise_all c_Raising_ini c_Sinking_sink_rows c_Sinking_ini c_purse_rows c_need_rows)) :=
  have S := sc_purse
  ok_body (k := 4) T.f_purse S fun cdv A outer s H E hr gd =>
    (sss_cons (ss_expr (se_call F_need_room T.b_need_room T.f_need_room.kp (hr.mono (by decide)) gd (takes_of rfl rfl rfl rfl) T.g_need_room (sa_cons (se_var 0) (sa_cons (se_var 1) sa_nil))))
    (sss_cons (ss_expr (se_call F_need_small T.b_need_small T.f_need_small.kp (hr.mono (by decide)) gd (takes_of rfl rfl rfl rfl) T.g_need_small (sa_cons (se_var 0) sa_nil)))
    (sss_cons (ss_set 2 S.nd (se_meth0 T.ns_Raising T.cl_Raising T.mt_Raising_raise_all F_Raising_raise_all T.b_Raising_raise_all (hr.mono (by decide)) gd (takes_of rfl rfl rfl rfl) (se_make T.ns_Raising T.mk_Raising F_Raising_ini T.b_Raising_ini (hr.mono (by decide)) gd (takes_of rfl rfl rfl rfl) T.mg_Raising (sa_cons (se_var 0) sa_nil))))
    (sss_cons (ss_set 3 S.nd (se_tup (sa_cons se_str (sa_cons (se_meth0 T.ns_Sinking T.cl_Sinking T.mt_Sinking_sink_rows F_Sinking_sink_rows T.b_Sinking_sink_rows (hr.mono (by decide)) gd (takes_of rfl rfl rfl rfl) (se_make T.ns_Sinking T.mk_Sinking F_Sinking_ini T.b_Sinking_ini (hr.mono (by decide)) gd (takes_of rfl rfl rfl rfl) T.mg_Sinking (sa_cons (se_var 2) sa_nil))) sa_nil))))
    (sss_cons (ss_if (st_cmp o_is p_is (se_sub' hr (se_fldO (cf_purses T) (se_var 2)) (se_var 1)) se_non)
    (sss_one (ss_ret (se_tup (sa_cons (se_tup (sa_cons se_str sa_nil)) (sa_cons (se_tup (sa_cons (se_var 3) sa_nil)) sa_nil)))))
    sss_nil)
    (sss_cons (ss_set 4 S.nd (se_tup (sa_cons (se_tup (sa_cons se_str (sa_cons (se_call F_purse_rows T.b_purse_rows T.f_purse_rows.kp (hr.mono (by decide)) gd (takes_of rfl rfl rfl rfl) T.g_purse_rows (sa_cons (se_var 2) sa_nil)) sa_nil))) (sa_cons (se_tup (sa_cons se_str (sa_cons (se_call F_need_rows T.b_need_rows T.f_need_rows.kp (hr.mono (by decide)) gd (takes_of rfl rfl rfl rfl) T.g_need_rows (sa_cons (se_var 2) sa_nil)) sa_nil))) (sa_cons (se_var 3) sa_nil)))))
    (sss_one (ss_ret (se_tup (sa_cons (se_tup (sa_cons se_str (sa_cons (se_sub' hr (se_fldO (cf_purses T) (se_var 2)) (se_var 1)) sa_nil))) (sa_cons (se_var 4) sa_nil)))))))))))
/-! ### law -/
theorem sc_LAW : FnScope ["_law_script", "_law_draw_here", "_law_turn", "_law_high", "_law_arena_here", "_law_kept", "_law_least", "_law_plan", "_law_room", "_law_number", "_law_due"] ["_law_script"] (defScope st_LAW) := ⟨rfl, rfl, rfl, by decide +kernel, rfl, by decide +kernel, by decide +kernel⟩
def b_LAW (c_Ldraw c_Lbelow c_Larena c_Lplans c_Lof_plan c_purses c_purse : FM) : SM :=
  (sSeq (sAsg (mFn 1 c_Ldraw (mCons (mVar 0) mNil)) (gN 1))
  (sSeq (sFor (mRange1 (mOp wAdd (mC (.int 1)) (mOp wFdiv (mCall wLen (mCons (mSl (mVar 0) none (some (mC (.int 63)))) mNil)) (mC (.int 21))))) (gN 2)
  (sSeq (sAsg (mOp wIx (mFix (mLst (mCons (mC (.int 9)) (mCons (mC (.int 30)) mNil)))) (mFn 2 c_Lbelow (mCons (mVar 1) (mCons (mC (.int 2)) mNil)))) (gN 3))
  (sSeq (sAsg (mFn 4 c_Larena (mCons (mVar 1) (mCons (mC (.int 4)) (mCons (mOp wSub (mC (.int 0)) (mVar 3)) (mCons (mVar 3) mNil))))) (gN 4))
  (sSeq (sAsg (mCall wRepr (mCons (mVar 4) mNil)) (gN 5))
  (sSeq (sAsg (mNew (mRepL (mLst (mCons (mC .non) mNil)) (mCall wLen (mCons (mOp wIx (mVar 4) (mC (.int 0))) mNil)))) (gN 6))
  (sSeq (sFor (mIter big (mFn 1 c_Lplans (mCons (mVar 4) mNil))) (gN 7)
  (sFor (mEnum big (mFn 1 c_Lof_plan (mCons (mVar 7) mNil))) (gT (gCons' (gN 8) (gCons' (gN 9) gNil')))
  (sIf (mAnd (mB (mOp wIsNot (mVar 9) (mC .non))) (mOr (mB (mOp wIs (mOp wIx (mVar 6) (mVar 8)) (mC .non))) (mB (mOp wLt (mVar 9) (mOp wIx (mVar 6) (mVar 8))))))
  (sSetIx (mVar 9) (mVar 6) (mVar 8))
  sNext)))
  (sSeq (sIf (mB (mOp wNe (mCall wRepr (mCons (mFn 1 c_purses (mCons (mVar 4) mNil)) mNil)) (mCall wRepr (mCons (mOn wTupQ (mSeq (mVar 6))) mNil))))
  (sRet (mC (.bl false)))
  sNext)
  (sSeq (sFor (mEnum big (mVar 6)) (gT (gCons' (gN 8) (gCons' (gN 9) gNil')))
  (sSeq (sAsg (mIf (mB (mOp wIs (mVar 9) (mC .non))) (mTup (mCons (mC (.str "never")) mNil)) (mTup (mCons (mC (.str "purse")) (mCons (mVar 9) mNil)))) (gN 10))
  (sIf (mOr (mB (mOp wNe (mCall wRepr (mCons (mOp wIx (mFn 2 c_purse (mCons (mVar 4) (mCons (mVar 8) mNil))) (mC (.int 0))) mNil)) (mCall wRepr (mCons (mVar 10) mNil)))) (mB (mOp wNe (mCall wRepr (mCons (mFn 2 c_purse (mCons (mVar 4) (mCons (mVar 8) mNil))) mNil)) (mCall wRepr (mCons (mFn 2 c_purse (mCons (mVar 4) (mCons (mVar 8) mNil))) mNil)))))
  (sRet (mC (.bl false)))
  sNext)))
  (sIf (mB (mOp wNe (mCall wRepr (mCons (mVar 4) mNil)) (mVar 5)))
  (sRet (mC (.bl false)))
  sNext)))))))))
  (sRet (mC (.bl true)))))
def f_LAW (c_Ldraw c_Lbelow c_Larena c_Lplans c_Lof_plan c_purses c_purse : FM) : FM := runB 11 (b_LAW c_Ldraw c_Lbelow c_Larena c_Lplans c_Lof_plan c_purses c_purse)
theorem o_LAW {P : Program} {w : World} {K : PySem.W.Frag} {mg : Str → Option Value} {base : Heap} {D : Dat} (T : Txt D K mg)
  {c_Ldraw : FM} (F_Ldraw : FnG P w K mg base 1 D.a_Ldraw D.d_Ldraw ["_law_script"] (SPm K 1 c_Ldraw))
  {c_Lbelow : FM} (F_Lbelow : FnG P w K mg base 2 D.a_Lbelow D.d_Lbelow ["_law_draw_here", "_law_many"] (SPm K 2 c_Lbelow))
  {c_Larena : FM} (F_Larena : FnG P w K mg base 3 D.a_Larena D.d_Larena ["_law_draw_here", "_law_most", "_law_low", "_law_high"] (SPm K 4 c_Larena))
  {c_Lplans : FM} (F_Lplans : FnG P w K mg base 1 D.a_Lplans D.d_Lplans ["_law_arena_here"] (SPm K 1 c_Lplans))
  {c_Lof_plan : FM} (F_Lof_plan : FnG P w K mg base 2 D.a_Lof_plan D.d_Lof_plan ["_law_plan"] (SPm K 1 c_Lof_plan))
  {c_purses : FM} (F_purses : FnG P w K mg base 5 D.a_purses D.d_purses ["arena"] (SPm K 1 c_purses))
  {c_purse : FM} (F_purse : FnG P w K mg base 5 D.a_purse D.d_purse ["arena", "room"] (SPm K 2 c_purse)) :
    FnG P w K mg base 6 D.a_LAW D.d_LAW ["_law_script"] (SPm K 1 (f_LAW c_Ldraw c_Lbelow c_Larena c_Lplans c_Lof_plan c_purses c_purse)) :=
  have S := sc_LAW
  ok_body (k := 5) T.f_LAW S fun cdv A outer s H E hr gd =>
    (sss_cons (ss_set 1 S.nd (se_call F_Ldraw T.b_Ldraw T.f_Ldraw.kp (hr.mono (by decide)) gd (takes_of rfl rfl rfl rfl) T.g_Ldraw (sa_cons (se_var 0) sa_nil)))
    (sss_cons (ss_for (passes_of rfl) rfl (si_range1 T.n_range (se_add se_int (se_fdiv (se_callB c_len o_len T.n_len (by rfl) (sa_cons (se_slice (se_var 0) .none (.some se_int)) sa_nil)) se_int))) (sg_name 2 S.nd)
    (sss_cons (ss_set 3 S.nd (se_sub' hr (se_fix (sl_lst (sa_cons se_int (sa_cons se_int sa_nil)))) (se_call F_Lbelow T.b_Lbelow T.f_Lbelow.kp (hr.mono (by decide)) gd (takes_of rfl rfl rfl rfl) T.g_Lbelow (sa_cons (se_var 1) (sa_cons se_int sa_nil)))))
    (sss_cons (ss_set 4 S.nd (se_call F_Larena T.b_Larena T.f_Larena.kp (hr.mono (by decide)) gd (takes_of rfl rfl rfl rfl) T.g_Larena (sa_cons (se_var 1) (sa_cons se_int (sa_cons (se_sub se_int (se_var 3)) (sa_cons (se_var 3) sa_nil))))))
    (sss_cons (ss_set 5 S.nd (se_callB (c_repr hr gd) o_repr T.n_repr (by rfl) (sa_cons (se_var 4) sa_nil)))
    (sss_cons (ss_set 6 S.nd (se_new (sl_rep (sl_lst (sa_cons se_non sa_nil)) (se_callB c_len o_len T.n_len (by rfl) (sa_cons (se_sub' hr (se_var 4) se_int) sa_nil)))))
    (sss_cons (ss_for (passes_of rfl) rfl (si_iter big (se_call F_Lplans T.b_Lplans T.f_Lplans.kp (hr.mono (by decide)) gd (takes_of rfl rfl rfl rfl) T.g_Lplans (sa_cons (se_var 4) sa_nil))) (sg_name 7 S.nd)
    (sss_one (ss_for (passes_of rfl) rfl (si_enum big T.n_enumerate (se_call F_Lof_plan T.b_Lof_plan T.f_Lof_plan.kp (hr.mono (by decide)) gd (takes_of rfl rfl rfl rfl) T.g_Lof_plan (sa_cons (se_var 7) sa_nil))) (sg_tup rfl (sgs_cons (sg_name 8 S.nd) (sgs_cons (sg_name 9 S.nd) sgs_nil)) (fun _ _ _ e => gl_cons (fun _ _ _ e => gl_cons (fun _ _ _ e => gl_nil e) e) e))
    (sss_one (ss_if (PW.pt (sw_and (st_cmp o_isNot p_isNot (se_var 9) se_non) (sw_and1 (PW.pt (sw_or (st_cmp o_is p_is (se_sub' hr (se_var 6) (se_var 8)) se_non) (sw_or1 (st_cmp o_lt p_lt (se_var 9) (se_sub' hr (se_var 6) (se_var 8)))))))))
    (sss_one (ss_setix hr (se_var 9) (se_var 6) (se_var 8)))
    sss_nil)))))
    (sss_cons (ss_if (st_cmp (o_ne hr) p_ne (se_callB (c_repr hr gd) o_repr T.n_repr (by rfl) (sa_cons (se_call F_purses T.b_purses T.f_purses.kp (hr.mono (by decide)) gd (takes_of rfl rfl rfl rfl) T.g_purses (sa_cons (se_var 4) sa_nil)) sa_nil)) (se_callB (c_repr hr gd) o_repr T.n_repr (by rfl) (sa_cons (pg_callTS back_W call_tuple_of q_tup T.n_tuple (by rfl) (sq_val (se_var 6))) sa_nil)))
    (sss_one (ss_ret se_bl))
    sss_nil)
    (sss_cons (ss_for (passes_of rfl) rfl (si_enum big T.n_enumerate (se_var 6)) (sg_tup rfl (sgs_cons (sg_name 8 S.nd) (sgs_cons (sg_name 9 S.nd) sgs_nil)) (fun _ _ _ e => gl_cons (fun _ _ _ e => gl_cons (fun _ _ _ e => gl_nil e) e) e))
    (sss_cons (ss_set 10 S.nd (se_if (st_cmp o_is p_is (se_var 9) se_non) (se_tup (sa_cons se_str sa_nil)) (se_tup (sa_cons se_str (sa_cons (se_var 9) sa_nil)))))
    (sss_one (ss_if (PW.pt (sw_or (st_cmp (o_ne hr) p_ne (se_callB (c_repr hr gd) o_repr T.n_repr (by rfl) (sa_cons (se_sub' hr (se_call F_purse T.b_purse T.f_purse.kp (hr.mono (by decide)) gd (takes_of rfl rfl rfl rfl) T.g_purse (sa_cons (se_var 4) (sa_cons (se_var 8) sa_nil))) se_int) sa_nil)) (se_callB (c_repr hr gd) o_repr T.n_repr (by rfl) (sa_cons (se_var 10) sa_nil))) (sw_or1 (st_cmp (o_ne hr) p_ne (se_callB (c_repr hr gd) o_repr T.n_repr (by rfl) (sa_cons (se_call F_purse T.b_purse T.f_purse.kp (hr.mono (by decide)) gd (takes_of rfl rfl rfl rfl) T.g_purse (sa_cons (se_var 4) (sa_cons (se_var 8) sa_nil))) sa_nil)) (se_callB (c_repr hr gd) o_repr T.n_repr (by rfl) (sa_cons (se_call F_purse T.b_purse T.f_purse.kp (hr.mono (by decide)) gd (takes_of rfl rfl rfl rfl) T.g_purse (sa_cons (se_var 4) (sa_cons (se_var 8) sa_nil))) sa_nil))))))
    (sss_one (ss_ret se_bl))
    sss_nil))))
    (sss_one (ss_if (st_cmp (o_ne hr) p_ne (se_callB (c_repr hr gd) o_repr T.n_repr (by rfl) (sa_cons (se_var 4) sa_nil)) (se_var 5))
    (sss_one (ss_ret se_bl))
    sss_nil))))))))))
    (sss_one (ss_ret se_bl))))

end Mir

/-! rooms and their moves: small facts (shared) -/
namespace Mir
open PySem PySem.Spec PyProof.Rows L2
theorem iter_lst {n fuel : Nat} {h : PH} {xs : List W} (e : h[n]? = some (.lst xs)) : iterOf fuel (.ref n) h = some (itL n fuel) := by simp only [iterOf, e]
section
variable {rs : List Rm} {ks : List (Str × List Int)} {S : List Int}
theorem in_goals {x : Int} {h : PH} : wIn (.int x) (encI S) h = some (.bl (decide (x ∈ S)), h) := by
  unfold encI
  simp only [wIn, inW]
  rw [if_pos ⟨rfl, flat_ints S⟩, any_ints]
  rfl
theorem notIn_goals {x : Int} {h : PH} : wNotIn (.int x) (encI S) h = some (.bl (!decide (x ∈ S)), h) := by
  unfold encI
  simp only [wNotIn, inW]
  rw [if_pos ⟨rfl, flat_ints S⟩, any_ints]
  rfl
theorem ow_01 (hg : GRs rs.length rs) {i : Nat} (hi : i < rs.length) : Ow rs i = 0 ∨ Ow rs i = 1 := by
  have : rs.getD i (0, []) = rs[i] := by simp [List.getD, List.getElem?_eq_getElem hi]
  have h := hg _ (List.getElem_mem hi)
  unfold Ow
  rw [this]
  have := h.1
  have := h.2.1
  omega
theorem mvs_ok (hg : GRs rs.length rs) {i : Nat} (hi : i < rs.length) {m : Mv} (hm : m ∈ (rs.getD i (0, [])).2) : GM' rs.length m ∧ m.1.toNat ∈ Tg rs i := by
  have e : rs.getD i (0, []) = rs[i] := by simp [List.getD, List.getElem?_eq_getElem hi]
  have h := hg _ (List.getElem_mem hi)
  exact ⟨h.2.2.2 m (by rw [← e]; exact hm), List.mem_map.mpr ⟨m, hm, rfl⟩⟩
theorem tg_len2 (hg : GRs rs.length rs) (i : Nat) : (Tg rs i).length ≤ 24 := by
  unfold Tg
  rw [List.length_map]
  by_cases hi : i < rs.length
  · have : rs.getD i (0, []) = rs[i] := by simp [List.getD, List.getElem?_eq_getElem hi]
    rw [this]
    exact (hg _ (List.getElem_mem hi)).2.2.1
  · rw [List.getD, List.getElem?_eq_none (by omega)]
    simp
theorem tg_in (hg : GRs rs.length rs) {i t : Nat} (ht : t ∈ Tg rs i) : t < rs.length := by
  obtain ⟨m, hm, rfl⟩ := List.mem_map.mp ht
  by_cases hi : i < rs.length
  · have h := (mvs_ok hg hi hm).1
    have h1 := h.1
    have h2 := h.2.1
    omega
  · rw [List.getD, List.getElem?_eq_none (by omega)] at hm
    cases hm
end
end Mir

/-! games of purses, plain: numbers that do, their bound, that just one side's do (shared by laws 35-38) -/
namespace Mir
theorem ndu_le : ∀ {U L : List Nat}, U.Nodup → (∀ x ∈ U, x ∈ L) → U.length ≤ L.length
  | [], L, _, _ => Nat.zero_le _
  | a :: U, L, nd, h => by
    obtain ⟨n1, n2⟩ := List.nodup_cons.mp nd
    have := ndu_le n2 (L := L.erase a) fun x hx => (List.mem_erase_of_ne (fun z => n1 (by rw [← z]; exact hx))).mpr (h x (List.mem_cons_of_mem _ hx))
    have ha := h a List.mem_cons_self
    rw [List.length_erase_of_mem ha] at this
    have := List.length_pos_of_mem ha
    simp only [List.length_cons]
    omega
theorem ndu_len {U : List Nat} {n : Nat} (nd : U.Nodup) (h : ∀ x ∈ U, x < n) : U.length ≤ n := by
  have := ndu_le (L := List.range n) nd fun x hx => List.mem_range.mpr (h x hx)
  rwa [List.length_range] at this
def mx0 (l : List Int) : Int := l.foldl (fun m x => if x > m then x else m) 0
theorem mx0_is (l : List Int) : 0 ≤ mx0 l ∧ (∀ y ∈ l, y ≤ mx0 l) ∧ (mx0 l = 0 ∨ mx0 l ∈ l) := foldmax l 0
def okm (C : Nat → Prop) (q : Nat → Int) (r : Nat) (m : Nat × Int) : Prop := C m.1 ∧ m.2 + q m.1 ≤ q r
/-- numbers that do in some rooms: by one move of each own room, by all of the others -/
structure PoS (own : Nat → Bool) (mv : Nat → List (Nat × Int)) (C : Nat → Prop) (q : Nat → Int) : Prop where
  one : ∀ r, C r → own r = true → mv r = [] ∨ ∃ m ∈ mv r, okm C q r m
  all : ∀ r, C r → own r = false → ∀ m ∈ mv r, okm C q r m
def PoA (mv : Nat → List (Nat × Int)) (C : Nat → Prop) (q : Nat → Int) : Prop := ∀ r, C r → ∀ m ∈ mv r, okm C q r m
/-- what is wanted for so many moves, where the other one chooses all -/
def fnd (mv : Nat → List (Nat × Int)) : Nat → Nat → Int
  | 0, _ => 0
  | k + 1, r => mx0 ((mv r).map fun m => fnd mv k m.1 + m.2)
section
variable {own : Nat → Bool} {mv : Nat → List (Nat × Int)} {C : Nat → Prop} {q : Nat → Int} {k r n : Nat} {W : Int}
theorem fnd_0 : ∀ {k r : Nat}, 0 ≤ fnd mv k r
  | 0, _ => Int.le_refl 0
  | _ + 1, _ => (mx0_is _).1
theorem fnd_ge {m : Nat × Int} (h : m ∈ mv r) : fnd mv k m.1 + m.2 ≤ fnd mv (k + 1) r := (mx0_is _).2.1 _ (List.mem_map.mpr ⟨m, h, rfl⟩)
theorem fnd_is : fnd mv (k + 1) r = 0 ∨ ∃ m ∈ mv r, fnd mv (k + 1) r = fnd mv k m.1 + m.2 := by
  rcases (mx0_is ((mv r).map fun m => fnd mv k m.1 + m.2)).2.2 with z | z
  · exact .inl z
  · obtain ⟨m, hm, e⟩ := List.mem_map.mp z
    exact .inr ⟨m, hm, e.symm⟩
theorem fnd_up : ∀ {k r : Nat}, fnd mv k r ≤ fnd mv (k + 1) r
  | 0, _ => fnd_0
  | k + 1, r => by
    rcases fnd_is (mv := mv) (k := k) (r := r) with z | ⟨m, hm, z⟩
    · rw [z]; exact fnd_0
    · have := fnd_up (k := k) (r := m.1)
      have := fnd_ge (mv := mv) (k := k + 1) hm
      omega
theorem fnd_upL {i j : Nat} (h : i ≤ j) : fnd mv i r ≤ fnd mv j r := by
  induction j with
  | zero => rw [show i = 0 by omega]; exact Int.le_refl _
  | succ j ih =>
    by_cases e : i = j + 1
    · rw [e]; exact Int.le_refl _
    · exact Int.le_trans (ih (by omega)) fnd_up
theorem fnd_le (h : PoA mv C q) (h0 : ∀ r, C r → 0 ≤ q r) : ∀ {k r : Nat}, C r → fnd mv k r ≤ q r
  | 0, r, hr => h0 r hr
  | k + 1, r, hr => by
    rcases fnd_is (mv := mv) (k := k) (r := r) with z | ⟨m, hm, z⟩
    · rw [z]; exact h0 r hr
    · obtain ⟨a, b⟩ := h r hr m hm
      have := fnd_le h h0 (k := k) a
      omega
theorem fnd_bd (h : PoA mv C q) (hW : ∀ r, C r → ∀ m ∈ mv r, m.2 ≤ W) (w0 : 0 ≤ W) : ∀ {k r : Nat}, C r → fnd mv k r ≤ (k : Nat) * W
  | 0, r, hr => by simp [fnd]
  | k + 1, r, hr => by
    have e : ((k + 1 : Nat) : Int) * W = (k : Nat) * W + W := by rw [Int.natCast_succ, Int.add_mul, Int.one_mul]
    have p : 0 ≤ ((k : Nat) : Int) * W := Int.mul_nonneg (by omega) w0
    rcases fnd_is (mv := mv) (k := k) (r := r) with z | ⟨m, hm, z⟩
    · omega
    · have := fnd_bd h hW w0 (k := k) (h r hr m hm).1
      have := hW r hr m hm
      omega
/-- where more is wanted for a move more, there are as many unlike rooms and two more -/
theorem fnd_list (h : PoA mv C q) : ∀ {k r : Nat}, C r → fnd mv k r < fnd mv (k + 1) r → ∃ l : List Nat, l.length = k + 2 ∧ l.Nodup ∧ (∀ x ∈ l, C x) ∧ ∀ x ∈ l, ∃ i, i ≤ k + 1 ∧ q x - fnd mv i x ≤ q r - fnd mv (k + 1) r
  | 0, r, hr, hl => by
    rcases fnd_is (mv := mv) (k := 0) (r := r) with z | ⟨m, hm, z⟩
    · rw [z] at hl; exact absurd hl (by simp [fnd])
    · have z0 : fnd mv 0 m.1 = 0 := rfl
      have z1 : fnd mv 0 r = 0 := rfl
      obtain ⟨a, b⟩ := h r hr m hm
      have ne : m.1 ≠ r := fun e => by rw [e] at b; omega
      refine ⟨[r, m.1], rfl, by simp [Ne.symm ne], fun x hx => ?_, fun x hx => ?_⟩
      · simp only [List.mem_cons, List.not_mem_nil, or_false] at hx
        rcases hx with rfl | rfl
        · exact hr
        · exact a
      · simp only [List.mem_cons, List.not_mem_nil, or_false] at hx
        rcases hx with rfl | rfl
        · exact ⟨1, Nat.le_refl _, Int.le_refl _⟩
        · exact ⟨0, by omega, by omega⟩
  | k + 1, r, hr, hl => by
    rcases fnd_is (mv := mv) (k := k + 1) (r := r) with z | ⟨m, hm, z⟩
    · have := fnd_0 (mv := mv) (k := k + 1) (r := r)
      omega
    · obtain ⟨a, b⟩ := h r hr m hm
      have g := fnd_ge (mv := mv) (k := k) hm
      obtain ⟨l, e1, e2, e3, e4⟩ := fnd_list h (k := k) a (by omega)
      refine ⟨r :: l, by simp [e1], List.nodup_cons.mpr ⟨fun hx => ?_, e2⟩, fun x hx => ?_, fun x hx => ?_⟩
      · obtain ⟨i, i1, i2⟩ := e4 r hx
        have := fnd_upL (mv := mv) (r := r) i1
        omega
      · rcases List.mem_cons.mp hx with rfl | hx
        · exact hr
        · exact e3 x hx
      · rcases List.mem_cons.mp hx with rfl | hx
        · exact ⟨k + 2, Nat.le_refl _, Int.le_refl _⟩
        · obtain ⟨i, i1, i2⟩ := e4 x hx
          exact ⟨i, by omega, by omega⟩
theorem fnd_stop (h : PoA mv C q) (hn : ∀ r, C r → r < n) (hr : C r) (hk : n ≤ k + 1) : fnd mv (k + 1) r = fnd mv k r := by
  by_cases z : fnd mv k r < fnd mv (k + 1) r
  · obtain ⟨l, e1, e2, e3, _⟩ := fnd_list h hr z
    have := ndu_len e2 fun x hx => hn x (e3 x hx)
    omega
  · have := fnd_up (mv := mv) (k := k) (r := r)
    omega
theorem fnd_stopL (h : PoA mv C q) (hn : ∀ r, C r → r < n) (hr : C r) {j : Nat} (hk : n ≤ k + 1) (hj : k ≤ j) : fnd mv j r = fnd mv k r := by
  induction j with
  | zero => rw [show k = 0 by omega]
  | succ j ih =>
    by_cases e : k = j + 1
    · rw [e]
    · rw [fnd_stop h hn hr (by omega), ih (by omega)]
open Classical in
/-- own moves, picked -/
noncomputable def pickM (own : Nat → Bool) (mv : Nat → List (Nat × Int)) (C : Nat → Prop) (q : Nat → Int) (r : Nat) : List (Nat × Int) :=
  if h : own r = true ∧ ∃ m ∈ mv r, okm C q r m then [Classical.choose h.2] else mv r
theorem pick_in {m : Nat × Int} (hm : m ∈ pickM own mv C q r) : m ∈ mv r := by
  unfold pickM at hm
  split at hm
  · rename_i h
    rw [List.mem_singleton.mp hm]
    exact (Classical.choose_spec h.2).1
  · exact hm
theorem pick_no (h : own r = false) : pickM own mv C q r = mv r := by
  unfold pickM
  rw [dif_neg (by rw [h]; exact fun z => by cases z.1)]
theorem pick_own (h : PoS own mv C q) (hr : C r) (ho : own r = true) : mv r = [] ∧ pickM own mv C q r = [] ∨ ∃ m, pickM own mv C q r = [m] := by
  unfold pickM
  split
  · exact .inr ⟨_, rfl⟩
  · rename_i z
    rcases h.one r hr ho with y | y
    · exact .inl ⟨y, y⟩
    · exact absurd ⟨ho, y⟩ z
theorem pick_sa (h : PoS own mv C q) : PoA (pickM own mv C q) C q := fun r hr m hm => by
  cases ho : own r with
  | false => rw [pick_no ho] at hm; exact h.all r hr ho m hm
  | true =>
    unfold pickM at hm
    split at hm
    · rename_i z
      rw [List.mem_singleton.mp hm]
      exact (Classical.choose_spec z.2).2
    · rename_i z
      rcases h.one r hr ho with y | y
      · rw [y] at hm; cases hm
      · exact absurd ⟨ho, y⟩ z
theorem pick_ss {q' : Nat → Int} (h : PoS own mv C q) (h' : PoA (pickM own mv C q) C q') : PoS own mv C q' where
  one := fun r hr ho => by
    rcases pick_own h hr ho with ⟨a, _⟩ | ⟨m, e⟩
    · exact .inl a
    · have hm : m ∈ pickM own mv C q r := by rw [e]; exact List.mem_singleton.mpr rfl
      exact .inr ⟨m, pick_in hm, h' r hr m hm⟩
  all := fun r hr ho m hm => h' r hr m (by rw [pick_no ho]; exact hm)
theorem PoS.bd (h : PoS own mv C q) (h0 : ∀ r, C r → 0 ≤ q r) (hn : ∀ r, C r → r < n) (hW : ∀ r, C r → ∀ m ∈ mv r, m.2 ≤ W) (w0 : 0 ≤ W) :
    ∃ q', PoS own mv C q' ∧ ∀ r, C r → 0 ≤ q' r ∧ q' r ≤ q r ∧ q' r ≤ ((n - 1 : Nat) : Int) * W := by
  have sa := pick_sa h
  refine ⟨fnd (pickM own mv C q) (n - 1), pick_ss h fun r hr m hm => ⟨(sa r hr m hm).1, ?_⟩, fun r hr => ⟨fnd_0, fnd_le sa h0 hr, fnd_bd sa (fun r hr m hm => hW r hr m (pick_in hm)) w0 hr⟩⟩
  have := hn r hr
  have := fnd_ge (mv := pickM own mv C q) (k := n - 1) hm
  have := fnd_stop sa hn hr (k := n - 1) (by omega)
  omega
/-- a room more -/
theorem PoS.ext (h : PoS own mv C q) (h0 : ∀ r, C r → 0 ≤ q r) {x : Nat} (h1 : own x = true → mv x = [] ∨ ∃ m ∈ mv x, C m.1) (h2 : own x = false → ∀ m ∈ mv x, C m.1) :
    ∃ q', PoS own mv (fun r => C r ∨ r = x) q' ∧ ∀ r, C r ∨ r = x → 0 ≤ q' r := by
  classical
  by_cases hx : C x
  · have back : ∀ r, (C r ∨ r = x) → C r := fun r h => h.elim id (fun e => by rw [e]; exact hx)
    refine ⟨q, ⟨fun r hr ho => ?_, fun r hr ho m hm => ?_⟩, fun r hr => ?_⟩
    · have hr : C r := back r hr
      rcases h.one r hr ho with z | ⟨m, hm, a, b⟩
      · exact .inl z
      · exact .inr ⟨m, hm, .inl a, b⟩
    · have hr : C r := back r hr
      obtain ⟨a, b⟩ := h.all r hr ho m hm
      exact ⟨.inl a, b⟩
    · have hr : C r := back r hr
      exact h0 r hr
  let q' : Nat → Int := fun r => if r = x then mx0 ((mv x).map fun m => q m.1 + m.2) else q r
  have qC : ∀ r, C r → q' r = q r := fun r hr => if_neg fun (e : r = x) => hx (by rw [← e]; exact hr)
  have qx : q' x = mx0 ((mv x).map fun m => q m.1 + m.2) := if_pos rfl
  have ge : ∀ m ∈ mv x, C m.1 → okm (fun r => C r ∨ r = x) q' x m := fun m hm hc => by
    refine ⟨.inl hc, ?_⟩
    rw [qC _ hc, qx]
    have := (mx0_is ((mv x).map fun m => q m.1 + m.2)).2.1 _ (List.mem_map.mpr ⟨m, hm, rfl⟩)
    omega
  refine ⟨q', ⟨fun r hr ho => ?_, fun r hr ho m hm => ?_⟩, fun r hr => ?_⟩
  · by_cases e : r = x
    · subst e
      rcases h1 ho with z | ⟨m, hm, hc⟩
      · exact .inl z
      · exact .inr ⟨m, hm, ge m hm hc⟩
    · have hr : C r := hr.elim id fun z => absurd z e
      rcases h.one r hr ho with z | ⟨m, hm, a, b⟩
      · exact .inl z
      · exact .inr ⟨m, hm, .inl a, by rw [qC _ a, qC _ hr]; exact b⟩
  · by_cases e : r = x
    · subst e
      exact ge m hm (h2 ho m hm)
    · have hr : C r := hr.elim id fun z => absurd z e
      obtain ⟨a, b⟩ := h.all r hr ho m hm
      exact ⟨.inl a, by rw [qC _ a, qC _ hr]; exact b⟩
  · by_cases e : r = x
    · subst e
      rw [qx]
      exact (mx0_is _).1
    · have hr : C r := hr.elim id fun z => absurd z e
      rw [qC _ hr]
      exact h0 r hr
theorem PoS.add (h : PoS own mv C q) (c : Int) : PoS own mv C fun r => q r + c where
  one := fun r hr ho => (h.one r hr ho).imp id fun ⟨m, hm, a, b⟩ => ⟨m, hm, a, by show m.2 + (q m.1 + c) ≤ q r + c; omega⟩
  all := fun r hr ho m hm => ⟨(h.all r hr ho m hm).1, by have := (h.all r hr ho m hm).2; show m.2 + (q m.1 + c) ≤ q r + c; omega⟩
theorem low_of (q : Nat → Int) : ∀ n : Nat, ∃ L : Int, L ≤ 0 ∧ ∀ r, r < n → L ≤ q r
  | 0 => ⟨0, Int.le_refl _, fun r hr => by omega⟩
  | n + 1 => by
    obtain ⟨L, h0, h⟩ := low_of q n
    refine ⟨min L (q n), by omega, fun r hr => ?_⟩
    by_cases e : r = n
    · rw [e]; omega
    · have := h r (by omega)
      omega
theorem PoS.nn (h : PoS own mv C q) (hn : ∀ r, C r → r < n) : ∃ q', PoS own mv C q' ∧ ∀ r, C r → 0 ≤ q' r := by
  obtain ⟨L, l0, hL⟩ := low_of q n
  refine ⟨_, h.add (-L), fun r hr => ?_⟩
  have := hL r (hn r hr)
  show 0 ≤ q r + -L
  omega
end
/-! ### walks and rings -/
inductive Wk (mv : Nat → List (Nat × Int)) : Nat → List Nat → Nat → Int → Prop
  | nil (x : Nat) : Wk mv x [] x 0
  | cons {r x : Nat} {l : List Nat} {s : Int} (m : Nat × Int) (h : m ∈ mv r) (w : Wk mv m.1 l x s) : Wk mv r (r :: l) x (m.2 + s)
section
variable {own : Nat → Bool} {mv : Nat → List (Nat × Int)} {C Z : Nat → Prop} {q : Nat → Int} {k r x n : Nat} {W s : Int} {l : List Nat}
theorem Wk.head (w : Wk mv r l x s) : r ∈ l ∨ r = x := by
  cases w with
  | nil => exact .inr rfl
  | cons => exact .inl List.mem_cons_self
theorem Wk.pot (w : Wk mv r l x s) : l.Nodup → x ∉ l → ∃ q : Nat → Int, q x = 0 ∧ q r = s ∧ ∀ z ∈ l, ∃ m ∈ mv z, (m.1 ∈ l ∨ m.1 = x) ∧ m.2 + q m.1 = q z := by
  induction w with
  | nil x => exact fun _ _ => ⟨fun _ => 0, rfl, rfl, fun z hz => by cases hz⟩
  | @cons r x l s m hm w ih =>
    intro nd hx
    obtain ⟨n1, n2⟩ := List.nodup_cons.mp nd
    obtain ⟨q, h1, h2, h3⟩ := ih n2 fun z => hx (List.mem_cons_of_mem _ z)
    have xr : x ≠ r := fun e => hx (e ▸ List.mem_cons_self)
    have hd : m.1 ≠ r := fun e => by
      rcases w.head with z | z
      · exact n1 (e ▸ z)
      · exact xr (z.symm.trans e)
    refine ⟨fun z => if z = r then m.2 + s else q z, ?_, if_pos rfl, fun z hz => ?_⟩
    · show (if x = r then _ else q x) = 0
      rw [if_neg xr, h1]
    · rcases List.mem_cons.mp hz with rfl | hz
      · refine ⟨m, hm, ?_, ?_⟩
        · rcases w.head with y | y
          · exact .inl (List.mem_cons_of_mem _ y)
          · exact .inr y
        · show m.2 + (if m.1 = z then _ else q m.1) = if z = z then m.2 + s else q z
          rw [if_neg hd, if_pos rfl, h2]
      · obtain ⟨m', hm', a, b⟩ := h3 z hz
        have zr : z ≠ r := fun e => n1 (e ▸ hz)
        have mr : m'.1 ≠ r := fun e => by
          rcases a with y | y
          · exact n1 (e ▸ y)
          · exact xr (y.symm.trans e)
        refine ⟨m', hm', a.imp (fun y => List.mem_cons_of_mem _ y) id, ?_⟩
        show m'.2 + (if m'.1 = r then _ else q m'.1) = if z = r then _ else q z
        rw [if_neg mr, if_neg zr, b]
/-- a ring that costs nothing -/
theorem Wk.ring (w : Wk mv r l r s) (hl : l ≠ []) (nd : l.Nodup) (hs : s ≤ 0) : r ∈ l ∧ ∃ q : Nat → Int, ∀ z ∈ l, ∃ m ∈ mv z, m.1 ∈ l ∧ m.2 + q m.1 ≤ q z := by
  cases w with
  | nil => exact absurd rfl hl
  | @cons _ _ l s m hm w =>
    obtain ⟨n1, n2⟩ := List.nodup_cons.mp nd
    obtain ⟨q, h1, h2, h3⟩ := w.pot n2 n1
    refine ⟨List.mem_cons_self, q, fun z hz => ?_⟩
    rcases List.mem_cons.mp hz with rfl | hz
    · refine ⟨m, hm, ?_, by omega⟩
      rcases w.head with y | y
      · exact List.mem_cons_of_mem _ y
      · rw [y]; exact List.mem_cons_self
    · obtain ⟨m', hm', a, b⟩ := h3 z hz
      refine ⟨m', hm', ?_, by omega⟩
      rcases a with y | y
      · exact List.mem_cons_of_mem _ y
      · rw [y]; exact List.mem_cons_self
/-- the other side's weights -/
def mvB (W : Int) (mv : Nat → List (Nat × Int)) (r : Nat) : List (Nat × Int) := (mv r).map fun m => (m.1, 1 - W * m.2)
def Rg (mv : Nat → List (Nat × Int)) (Z : Nat → Prop) : Prop := ∃ (l : List Nat) (q : Nat → Int), l ≠ [] ∧ (∀ z ∈ l, Z z) ∧ ∀ z ∈ l, ∃ m ∈ mv z, m.1 ∈ l ∧ m.2 + q m.1 ≤ q z
theorem ring_or (hZ : ∀ l : List Nat, l.Nodup → (∀ x ∈ l, Z x) → l.length ≤ n) (cl : ∀ r, Z r → ∀ m ∈ mv r, Z m.1) (hW : (n : Int) < W) : ∀ {k r : Nat}, Z r → fnd (mvB W mv) k r < fnd (mvB W mv) (k + 1) r → Rg mv Z ∨ ∃ l : List Nat, l.length = k + 2 ∧ l.Nodup ∧ (∀ x ∈ l, Z x) ∧
    ∀ x ∈ l, ∃ l1 s i, Wk mv r l1 x s ∧ l1.Nodup ∧ x ∉ l1 ∧ (∀ y ∈ l1, y ∈ l) ∧ i ≤ k + 1 ∧ fnd (mvB W mv) (k + 1) r = (l1.length : Nat) - W * s + fnd (mvB W mv) i x := by
  have step : ∀ (k r : Nat), Z r → fnd (mvB W mv) k r < fnd (mvB W mv) (k + 1) r → ∃ m ∈ mv r, Z m.1 ∧ fnd (mvB W mv) (k + 1) r = fnd (mvB W mv) k m.1 + (1 - W * m.2) := fun k r hr hl => by
    rcases fnd_is (mv := mvB W mv) (k := k) (r := r) with z | ⟨m', hm', z⟩
    · have := fnd_0 (mv := mvB W mv) (k := k) (r := r)
      omega
    · obtain ⟨m, hm, rfl⟩ := List.mem_map.mp hm'
      exact ⟨m, hm, cl r hr m hm, z⟩
  have closing : ∀ (r : Nat) (m : Nat × Int) (l1 : List Nat) (s : Int), Z r → m ∈ mv r → Wk mv m.1 l1 r s → l1.Nodup → r ∉ l1 → (∀ y ∈ l1, Z y) → 0 < 1 - W * m.2 + ((l1.length : Nat) - W * s) → Rg mv Z := fun r m l1 s hr hm w nd nr hz hb => by
    have nd2 : (r :: l1).Nodup := List.nodup_cons.mpr ⟨nr, nd⟩
    have zz : ∀ y ∈ r :: l1, Z y := fun y hy => by
      rcases List.mem_cons.mp hy with rfl | hy
      · exact hr
      · exact hz y hy
    have hlen := hZ _ nd2 zz
    rw [List.length_cons] at hlen
    have hs : m.2 + s ≤ 0 := by
      apply Classical.byContradiction
      intro c
      have c : 1 ≤ m.2 + s := by omega
      have := Int.mul_le_mul_of_nonneg_left c (show 0 ≤ W by omega)
      rw [Int.mul_one, Int.mul_add] at this
      omega
    obtain ⟨_, q, hq⟩ := (Wk.cons m hm w).ring (by simp) nd2 hs
    exact ⟨r :: l1, q, by simp, zz, hq⟩
  intro k
  induction k with
  | zero =>
    intro r hr hl
    obtain ⟨m, hm, hz, e⟩ := step 0 r hr hl
    have z0 : fnd (mvB W mv) 0 m.1 = 0 := rfl
    have z1 : fnd (mvB W mv) 0 r = 0 := rfl
    by_cases c : m.1 = r
    · exact .inl (closing r m [] 0 hr hm (c ▸ Wk.nil _) List.nodup_nil (by simp) (fun y hy => by cases hy) (by simp; omega))
    · refine .inr ⟨[r, m.1], rfl, by simp [Ne.symm c], fun x hx => ?_, fun x hx => ?_⟩
      · simp only [List.mem_cons, List.not_mem_nil, or_false] at hx
        rcases hx with rfl | rfl
        · exact hr
        · exact hz
      · simp only [List.mem_cons, List.not_mem_nil, or_false] at hx
        rcases hx with rfl | rfl
        · exact ⟨[], 0, 1, Wk.nil _, List.nodup_nil, by simp, (fun y hy => by cases hy), Nat.le_refl _, by simp⟩
        · refine ⟨[r], m.2 + 0, 0, Wk.cons m hm (Wk.nil _), by simp, by simpa using c, fun y hy => by rw [List.mem_singleton.mp hy]; exact List.mem_cons_self, by omega, ?_⟩
          rw [e, Int.add_zero]
          simp
          omega
  | succ k ih =>
    intro r hr hl
    obtain ⟨m, hm, hz, e⟩ := step (k + 1) r hr hl
    have g := fnd_ge (mv := mvB W mv) (k := k) (r := r) (m := (m.1, 1 - W * m.2)) (List.mem_map.mpr ⟨m, hm, rfl⟩)
    rcases ih hz (by simp only at g; omega) with z | ⟨l, e1, e2, e3, e4⟩
    · exact .inl z
    · by_cases c : r ∈ l
      · obtain ⟨l1, s, i, w, nd, nx, sub, hi, es⟩ := e4 r c
        have := fnd_upL (mv := mvB W mv) (r := r) hi
        exact .inl (closing r m l1 s hr hm w nd nx (fun y hy => e3 y (sub y hy)) (by omega))
      · refine .inr ⟨r :: l, by simp [e1], List.nodup_cons.mpr ⟨c, e2⟩, fun x hx => ?_, fun x hx => ?_⟩
        · rcases List.mem_cons.mp hx with rfl | hx
          · exact hr
          · exact e3 x hx
        · rcases List.mem_cons.mp hx with rfl | hx
          · exact ⟨[], 0, k + 2, Wk.nil _, List.nodup_nil, by simp, (fun y hy => by cases hy), Nat.le_refl _, by simp⟩
          · obtain ⟨l1, s, i, w, nd, nx, sub, hi, es⟩ := e4 x hx
            have xr : x ≠ r := fun e => c (e ▸ hx)
            refine ⟨r :: l1, m.2 + s, i, Wk.cons m hm w, List.nodup_cons.mpr ⟨fun z => c (sub r z), nd⟩, fun z => ?_, fun y hy => ?_, by omega, ?_⟩
            · rcases List.mem_cons.mp z with z | z
              · exact xr z
              · exact nx z
            · rcases List.mem_cons.mp hy with rfl | hy
              · exact List.mem_cons_self
              · exact List.mem_cons_of_mem _ (sub y hy)
            · rw [e, es, Int.mul_add, List.length_cons]
              omega
/-- one side alone: a ring that costs nothing, or numbers by which each ring costs something -/
theorem ring_or_pot (hZ : ∀ l : List Nat, l.Nodup → (∀ x ∈ l, Z x) → l.length ≤ n) (cl : ∀ r, Z r → ∀ m ∈ mv r, Z m.1) (hW : (n : Int) < W) : Rg mv Z ∨ ∃ q, PoA (mvB W mv) Z q := by
  by_cases c : ∃ r, Z r ∧ fnd (mvB W mv) n r < fnd (mvB W mv) (n + 1) r
  · obtain ⟨r, hr, hl⟩ := c
    rcases ring_or hZ cl hW hr hl with z | ⟨l, e1, e2, e3, _⟩
    · exact .inl z
    · have := hZ l e2 e3
      omega
  · refine .inr ⟨fnd (mvB W mv) n, fun r hr m hm => ?_⟩
    obtain ⟨m', hm', e⟩ := List.mem_map.mp hm
    refine ⟨by rw [← e]; exact cl r hr m' hm', ?_⟩
    have := fnd_ge (mv := mvB W mv) (k := n) hm
    have : ¬ fnd (mvB W mv) n r < fnd (mvB W mv) (n + 1) r := fun z => c ⟨r, hr, z⟩
    omega
/-! ### just one side's numbers do -/
theorem sum_lt {f g : Nat → Nat} {x : Nat} : ∀ {L : List Nat}, (∀ y ∈ L, f y ≤ g y) → x ∈ L → f x < g x → (L.map f).sum < (L.map g).sum
  | [], _, h, _ => by cases h
  | a :: L, h, hx, hl => by
    rw [List.map_cons, List.map_cons, List.sum_cons, List.sum_cons]
    have ha := h a List.mem_cons_self
    have le : (L.map f).sum ≤ (L.map g).sum := by
      have h2 : ∀ y ∈ L, f y ≤ g y := fun y hy => h y (List.mem_cons_of_mem _ hy)
      clear h hx hl ha
      induction L with
      | nil => exact Nat.le_refl _
      | cons b L ih =>
        rw [List.map_cons, List.map_cons, List.sum_cons, List.sum_cons]
        have := h2 b List.mem_cons_self
        have := ih fun y hy => h2 y (List.mem_cons_of_mem _ hy)
        omega
    rcases List.mem_cons.mp hx with rfl | hx
    · omega
    · have := sum_lt (L := L) (fun y hy => h y (List.mem_cons_of_mem _ hy)) hx hl
      omega
def notO (own : Nat → Bool) (r : Nat) : Bool := !own r
def Do (own : Nat → Bool) (mv : Nat → List (Nat × Int)) (Z : Nat → Prop) : Prop := ∃ (C : Nat → Prop) (q : Nat → Int) (r : Nat), C r ∧ (∀ r, C r → Z r) ∧ PoS own mv C q
theorem Do.of_mono {mv' : Nat → List (Nat × Int)} {C : Nat → Prop} {q : Nat → Int} (h : PoS own mv' C q) (e : ∀ r, C r → mv' r = mv r) : PoS own mv C q where
  one := fun r hr ho => by rw [← e r hr]; exact h.one r hr ho
  all := fun r hr ho m hm => h.all r hr ho m (by rw [e r hr]; exact hm)
theorem det (L : List Nat) (hL : ∀ r, Z r → r ∈ L) (hZ : ∀ l : List Nat, l.Nodup → (∀ x ∈ l, Z x) → l.length ≤ n) (hW : (n : Int) < W) : ∀ (N : Nat) (mv : Nat → List (Nat × Int)), (L.map fun r => if own r then 0 else (mv r).length).sum ≤ N → (∀ r, Z r → mv r ≠ [] ∧ ∀ m ∈ mv r, Z m.1) →
    Do own mv Z ∨ ∃ h, PoS (notO own) (mvB W mv) Z h := by
  classical
  intro N
  induction N with
  | zero =>
    intro mv hN hmv
    -- no room of the other's
    have ow : ∀ r, Z r → own r = true := fun r hr => by
      cases ho : own r with
      | true => rfl
      | false =>
        exfalso
        have hlt := sum_lt (f := fun _ => 0) (g := fun r => if own r then 0 else (mv r).length) (x := r) (L := L) (fun y _ => Nat.zero_le _) (hL r hr) (by
          simp only [ho]
          exact List.length_pos_iff.mpr (hmv r hr).1)
        omega
    rcases ring_or_pot hZ (fun r hr => (hmv r hr).2) hW with ⟨l, q, h1, h2, h3⟩ | ⟨q, h⟩
    · obtain ⟨a, ha⟩ := List.exists_mem_of_ne_nil l h1
      refine .inl ⟨fun z => z ∈ l, q, a, ha, h2, ⟨fun r hr _ => .inr ?_, fun r hr ho => ?_⟩⟩
      · obtain ⟨m, hm, a, b⟩ := h3 r hr
        exact ⟨m, hm, a, b⟩
      · rw [ow r (h2 r hr)] at ho; cases ho
    · refine .inr ⟨q, ⟨fun r hr ho => ?_, fun r hr ho m hm => h r hr m hm⟩⟩
      rw [notO, ow r hr] at ho; cases ho
  | succ N ih =>
    intro mv hN hmv
    by_cases c : ∃ x, Z x ∧ own x = false ∧ 2 ≤ (mv x).length
    · obtain ⟨x, hx, ho, hl⟩ := c
      obtain ⟨m0, m1, t, e⟩ : ∃ m0 m1 t, mv x = m0 :: m1 :: t := by
        match h : mv x, hl with
        | a :: b :: t, _ => exact ⟨a, b, t, rfl⟩
      let mv1 : Nat → List (Nat × Int) := fun r => if r = x then [m0] else mv r
      let mv2 : Nat → List (Nat × Int) := fun r => if r = x then m1 :: t else mv r
      have e1 : mv1 x = [m0] := if_pos rfl
      have e2 : mv2 x = m1 :: t := if_pos rfl
      have f1 : ∀ r, r ≠ x → mv1 r = mv r := fun r hr => if_neg hr
      have f2 : ∀ r, r ≠ x → mv2 r = mv r := fun r hr => if_neg hr
      have less : ∀ mv' : Nat → List (Nat × Int), (∀ r, r ≠ x → mv' r = mv r) → (mv' x).length < (mv x).length → (L.map fun r => if own r then 0 else (mv' r).length).sum ≤ N := fun mv' h1 h2 => by
        have := sum_lt (f := fun r => if own r then 0 else (mv' r).length) (g := fun r => if own r then 0 else (mv r).length) (x := x) (L := L) (fun y _ => by
          by_cases ey : y = x
          · subst ey; simp only [ho]; exact Nat.le_of_lt h2
          · simp only [h1 y ey]; exact Nat.le_refl _) (hL x hx) (by simp only [ho]; exact h2)
        omega
      have ok1 : ∀ r, Z r → mv1 r ≠ [] ∧ ∀ m ∈ mv1 r, Z m.1 := fun r hr => by
        by_cases er : r = x
        · subst er
          rw [e1]
          exact ⟨by simp, fun m hm => (hmv r hr).2 m (by rw [e, List.mem_singleton.mp hm]; exact List.mem_cons_self)⟩
        · rw [f1 r er]; exact hmv r hr
      have ok2 : ∀ r, Z r → mv2 r ≠ [] ∧ ∀ m ∈ mv2 r, Z m.1 := fun r hr => by
        by_cases er : r = x
        · subst er
          rw [e2]
          exact ⟨by simp, fun m hm => (hmv r hr).2 m (by rw [e]; exact List.mem_cons_of_mem _ hm)⟩
        · rw [f2 r er]; exact hmv r hr
      have back : ∀ mv' : Nat → List (Nat × Int), (∀ r, r ≠ x → mv' r = mv r) → (∀ m ∈ mv' x, m ∈ mv x) → (mv' x ≠ []) → (∃ h, PoS (notO own) (mvB W mv') Z h) → ∃ h, PoS (notO own) (mvB W mv) Z h := fun mv' h1 h2 h3 ⟨h, hh⟩ => by
        refine ⟨h, ⟨fun r hr hor => ?_, fun r hr hor m hm => ?_⟩⟩
        · by_cases er : r = x
          · subst er
            rcases hh.one r hr hor with z | ⟨m, hm, a, b⟩
            · exact absurd (List.map_eq_nil_iff.mp z) h3
            · obtain ⟨m', hm', rfl⟩ := List.mem_map.mp hm
              exact .inr ⟨_, List.mem_map.mpr ⟨m', h2 m' hm', rfl⟩, a, b⟩
          · have := hh.one r hr hor
            unfold mvB at this ⊢
            rw [h1 r er] at this
            exact this
        · have er : r ≠ x := fun er => by rw [er, notO, ho] at hor; cases hor
          refine hh.all r hr hor m ?_
          unfold mvB at hm ⊢
          rw [h1 r er]
          exact hm
      rcases ih mv1 (less mv1 f1 (by rw [e1, e]; simp)) ok1 with d1 | d1
      · rcases ih mv2 (less mv2 f2 (by rw [e2, e]; simp)) ok2 with d2 | d2
        · obtain ⟨C1, q1, r1, c1, z1, s1⟩ := d1
          obtain ⟨C2, q2, r2, c2, z2, s2⟩ := d2
          by_cases x1 : C1 x
          · by_cases x2 : C2 x
            · let q : Nat → Int := fun r => if C1 r ∧ (¬ C2 r ∨ q1 r + q2 x ≤ q2 r + q1 x) then q1 r + q2 x else q2 r + q1 x
              have le1 : ∀ r, C1 r → q r ≤ q1 r + q2 x := fun r h => by
                show (if _ then _ else _) ≤ _
                split
                · exact Int.le_refl _
                · rename_i z
                  have : ¬ (¬ C2 r ∨ q1 r + q2 x ≤ q2 r + q1 x) := fun y => z ⟨h, y⟩
                  have : ¬ (q1 r + q2 x ≤ q2 r + q1 x) := fun y => this (.inr y)
                  have h3 : q2 r + q1 x ≤ q1 r + q2 x := by omega
                  exact h3
              have le2 : ∀ r, C2 r → q r ≤ q2 r + q1 x := fun r h => by
                show (if _ then _ else _) ≤ _
                split
                · rename_i z
                  rcases z.2 with y | y
                  · exact absurd h y
                  · exact y
                · exact Int.le_refl _
              have eq : ∀ r, (C1 r ∨ C2 r) → (C1 r ∧ q r = q1 r + q2 x) ∨ (C2 r ∧ q r = q2 r + q1 x) := fun r h => by
                by_cases z : C1 r ∧ (¬ C2 r ∨ q1 r + q2 x ≤ q2 r + q1 x)
                · exact .inl ⟨z.1, if_pos z⟩
                · refine .inr ⟨?_, if_neg z⟩
                  rcases h with h | h
                  · exact Classical.byContradiction fun y => z ⟨h, .inl y⟩
                  · exact h
              have qx : q x = q1 x + q2 x := by
                rcases eq x (.inl x1) with ⟨_, y⟩ | ⟨_, y⟩
                · exact y
                · rw [y]; omega
              refine .inl ⟨fun r => C1 r ∨ C2 r, q, x, .inl x1, fun r h => h.elim (z1 r) (z2 r), ⟨fun r hr hor => ?_, fun r hr hor m hm => ?_⟩⟩
              · have er : r ≠ x := fun er => by rw [er, ho] at hor; cases hor
                rcases eq r hr with ⟨y1, y2⟩ | ⟨y1, y2⟩
                · rcases s1.one r y1 hor with z | ⟨m, hm, a, b⟩
                  · rw [f1 r er] at z; exact .inl z
                  · rw [f1 r er] at hm
                    have := le1 _ a
                    exact .inr ⟨m, hm, .inl a, by omega⟩
                · rcases s2.one r y1 hor with z | ⟨m, hm, a, b⟩
                  · rw [f2 r er] at z; exact .inl z
                  · rw [f2 r er] at hm
                    have := le2 _ a
                    exact .inr ⟨m, hm, .inr a, by omega⟩
              · by_cases er : r = x
                · subst er
                  rw [e] at hm
                  rcases List.mem_cons.mp hm with rfl | hm
                  · obtain ⟨a, b⟩ := s1.all r x1 hor m (by rw [e1]; exact List.mem_singleton.mpr rfl)
                    have := le1 _ a
                    exact ⟨.inl a, by omega⟩
                  · obtain ⟨a, b⟩ := s2.all r x2 hor m (by rw [e2]; exact hm)
                    have := le2 _ a
                    exact ⟨.inr a, by omega⟩
                · rcases eq r hr with ⟨y1, y2⟩ | ⟨y1, y2⟩
                  · obtain ⟨a, b⟩ := s1.all r y1 hor m (by rw [f1 r er]; exact hm)
                    have := le1 _ a
                    exact ⟨.inl a, by omega⟩
                  · obtain ⟨a, b⟩ := s2.all r y1 hor m (by rw [f2 r er]; exact hm)
                    have := le2 _ a
                    exact ⟨.inr a, by omega⟩
            · exact .inl ⟨C2, q2, r2, c2, z2, Do.of_mono s2 fun r hr => f2 r fun er => x2 (er ▸ hr)⟩
          · exact .inl ⟨C1, q1, r1, c1, z1, Do.of_mono s1 fun r hr => f1 r fun er => x1 (er ▸ hr)⟩
        · exact .inr (back mv2 f2 (fun m hm => by rw [e2] at hm; rw [e]; exact List.mem_cons_of_mem _ hm) (by rw [e2]; simp) d2)
      · exact .inr (back mv1 f1 (fun m hm => by rw [e1] at hm; rw [e, List.mem_singleton.mp hm]; exact List.mem_cons_self) (by rw [e1]; simp) d1)
    · have one : ∀ r, Z r → own r = false → ∃ m, mv r = [m] := fun r hr ho => by
        have h1 := (hmv r hr).1
        have h2 : ¬ 2 ≤ (mv r).length := fun z => c ⟨r, hr, ho, z⟩
        match h : mv r, h1, h2 with
        | [m], _, _ => exact ⟨m, rfl⟩
        | a :: b :: t, _, z => exact absurd (by simp) z
      rcases ring_or_pot hZ (fun r hr => (hmv r hr).2) hW with ⟨l, q, h1, h2, h3⟩ | ⟨q, h⟩
      · obtain ⟨a, ha⟩ := List.exists_mem_of_ne_nil l h1
        refine .inl ⟨fun z => z ∈ l, q, a, ha, h2, ⟨fun r hr _ => .inr ?_, fun r hr ho m hm => ?_⟩⟩
        · obtain ⟨m, hm, a, b⟩ := h3 r hr
          exact ⟨m, hm, a, b⟩
        · obtain ⟨m', em⟩ := one r (h2 r hr) ho
          obtain ⟨m2, hm2, a, b⟩ := h3 r hr
          rw [em] at hm hm2
          rw [List.mem_singleton.mp hm, ← List.mem_singleton.mp hm2]
          exact ⟨a, b⟩
      · refine .inr ⟨q, ⟨fun r hr ho => ?_, fun r hr ho m hm => h r hr m hm⟩⟩
        have ho' : own r = false := by
          unfold notO at ho
          simpa using ho
        obtain ⟨m', em⟩ := one r hr ho'
        have hm : (m'.1, 1 - W * m'.2) ∈ mvB W mv r := List.mem_map.mpr ⟨m', by rw [em]; exact List.mem_singleton.mpr rfl, rfl⟩
        exact .inr ⟨_, hm, h r hr _ hm⟩
end
end Mir

/-! purses, plain: raising (shared by laws 35-38) -/
namespace Mir
open PySem PySem.Spec PyProof.Rows L2
def upZ {α : Type} (u : Nat → α) (r : Nat) (x : α) : Nat → α := fun i => if i = r then x else u i
theorem upZ_same {α : Type} {u : Nat → α} {r : Nat} {x : α} : upZ u r x r = x := by simp [upZ]
theorem upZ_ne {α : Type} {u : Nat → α} {r i : Nat} {x : α} (h : i ≠ r) : upZ u r x i = u i := by simp [upZ, h]
abbrev Mvz (rs : List Rm) (r : Nat) : List Mv := (rs.getD r (0, [])).2
def tgZ (rs : List Rm) (r n : Nat) : Nat := ((Mvz rs r).getD n (0, 0, 0)).1.toNat
def prZ (rs : List Rm) (r n : Nat) : Int := ((Mvz rs r).getD n (0, 0, 0)).2.1
def gmv (rs : List Rm) (r : Nat) : List (Nat × Int) := (Mvz rs r).map fun m => (m.1.toNat, m.2.1)
def gown (rs : List Rm) (r : Nat) : Bool := decide (Ow rs r = 0)
/-- what a move wants -/
def wantZ (B : Int) (o : Option Int) (price : Int) : Int := match o with
  | none => B + 1
  | some v => if (if price + v > 0 then price + v else 0) < B + 1 then (if price + v > 0 then price + v else 0) else B + 1
def wantI (B : Int) (p : Nat → Option Int) (m : Mv) : Int := wantZ B (p m.1.toNat) m.2.1
def dueB (rs : List Rm) (B : Int) (p : Nat → Option Int) (r : Nat) : Int :=
  if Mvz rs r = [] then 0 else if Ow rs r = 0 then (minI ((Mvz rs r).map (wantI B p))).getD 0 else (maxI ((Mvz rs r).map (wantI B p))).getD 0
def dueI (rs : List Rm) (B : Int) (p : Nat → Option Int) (r : Nat) : Int :=
  if Mvz rs r = [] then -1 else (((Mvz rs r).map (wantI B p)).findIdx fun z => decide (z = dueB rs B p r) : Nat)
theorem maxI_of {l : List Int} (h : l ≠ []) : ∃ v, maxI l = some v := by
  cases l with
  | nil => exact absurd rfl h
  | cons a r => exact ⟨_, rfl⟩
theorem minI_of {l : List Int} (h : l ≠ []) : ∃ v, minI l = some v := by
  cases l with
  | nil => exact absurd rfl h
  | cons a r => exact ⟨_, rfl⟩
section
variable {rs : List Rm} {B W : Int} {p : Nat → Option Int} {r n k : Nat}
theorem msz {k : Nat} (hk : k < (Mvz rs r).length) : (Mvz rs r)[k] ∈ Mvz rs r ∧ (Mvz rs r)[k].1.toNat = tgZ rs r k ∧ (Mvz rs r)[k].2.1 = prZ rs r k := by
  refine ⟨List.getElem_mem _, ?_, ?_⟩
  · unfold tgZ
    simp only [List.getD, List.getElem?_eq_getElem hk, Option.getD_some]
  · unfold prZ
    simp only [List.getD, List.getElem?_eq_getElem hk, Option.getD_some]
theorem msi {m : Mv} (h : m ∈ Mvz rs r) : ∃ k, k < (Mvz rs r).length ∧ m.1.toNat = tgZ rs r k ∧ m.2.1 = prZ rs r k := by
  obtain ⟨k, hk, e⟩ := List.getElem_of_mem h
  have := msz hk
  rw [e] at this
  exact ⟨k, hk, this.2⟩
theorem gmv_mem {m : Nat × Int} : m ∈ gmv rs r ↔ ∃ k, k < (Mvz rs r).length ∧ m = (tgZ rs r k, prZ rs r k) := by
  unfold gmv
  rw [List.mem_map]
  constructor
  · rintro ⟨x, hx, rfl⟩
    obtain ⟨k, h1, h2, h3⟩ := msi hx
    exact ⟨k, h1, by rw [h2, h3]⟩
  · rintro ⟨k, hk, rfl⟩
    obtain ⟨h1, h2, h3⟩ := msz hk
    exact ⟨_, h1, by rw [h2, h3]⟩
theorem gmv_nil : gmv rs r = [] ↔ Mvz rs r = [] := by unfold gmv; exact List.map_eq_nil_iff
theorem want_le : wantI B p (0, 0, 0) ≤ B + 1 ∧ True := by
  refine ⟨?_, trivial⟩
  unfold wantI wantZ
  split
  · exact Int.le_refl _
  · split <;> omega
theorem wantZ_le {o : Option Int} {x : Int} : wantZ B o x ≤ B + 1 := by
  unfold wantZ
  split
  · exact Int.le_refl _
  · split <;> omega
theorem wantZ_0 (hB : 0 ≤ B) {o : Option Int} {x : Int} : 0 ≤ wantZ B o x := by
  unfold wantZ
  split
  · omega
  · split
    · split <;> omega
    · omega
/-- what it tells where it is within the bound -/
theorem wantZ_is {o : Option Int} {x : Int} (h : wantZ B o x ≤ B) : ∃ u, o = some u ∧ x + u ≤ wantZ B o x ∧ (wantZ B o x = 0 ∨ wantZ B o x = x + u) := by
  cases o with
  | none => unfold wantZ at h; simp only at h; omega
  | some u =>
    refine ⟨u, rfl, ?_⟩
    unfold wantZ at h ⊢
    simp only at h ⊢
    split at h
    · rename_i z
      rw [if_pos z]
      split <;> omega
    · omega
theorem wantZ_lt {u x v : Int} (h0 : 0 ≤ v) (h : x + u ≤ v) (hv : v ≤ B) : wantZ B (some u) x ≤ v := by
  unfold wantZ
  simp only
  by_cases z : x + u > 0
  · rw [if_pos z, if_pos (by omega)]
    exact h
  · rw [if_neg z, if_pos (by omega)]
    exact h0
theorem due_nil (h : Mvz rs r = []) : dueB rs B p r = 0 ∧ dueI rs B p r = -1 := by
  unfold dueI dueB
  rw [if_pos h, if_pos h]
  exact ⟨rfl, rfl⟩
theorem due_is (h : Mvz rs r ≠ []) : ∃ k, k < (Mvz rs r).length ∧ dueI rs B p r = (k : Nat) ∧ wantZ B (p (tgZ rs r k)) (prZ rs r k) = dueB rs B p r ∧
    (Ow rs r = 0 → ∀ j, j < (Mvz rs r).length → dueB rs B p r ≤ wantZ B (p (tgZ rs r j)) (prZ rs r j)) ∧ (Ow rs r ≠ 0 → ∀ j, j < (Mvz rs r).length → wantZ B (p (tgZ rs r j)) (prZ rs r j) ≤ dueB rs B p r) := by
  have ne : (Mvz rs r).map (wantI B p) ≠ [] := fun z => h (List.map_eq_nil_iff.mp z)
  have wj : ∀ j (hj : j < (Mvz rs r).length), wantI B p (Mvz rs r)[j] = wantZ B (p (tgZ rs r j)) (prZ rs r j) := fun j hj => by
    obtain ⟨_, a, b⟩ := msz hj
    unfold wantI
    rw [a, b]
  have key : dueB rs B p r ∈ (Mvz rs r).map (wantI B p) ∧ (Ow rs r = 0 → ∀ y ∈ (Mvz rs r).map (wantI B p), dueB rs B p r ≤ y) ∧ (Ow rs r ≠ 0 → ∀ y ∈ (Mvz rs r).map (wantI B p), y ≤ dueB rs B p r) := by
    unfold dueB
    rw [if_neg h]
    by_cases ho : Ow rs r = 0
    · obtain ⟨v, hv⟩ := minI_of ne
      obtain ⟨a, b⟩ := minI_is hv
      rw [if_pos ho, hv]
      exact ⟨a, fun _ => b, fun z => absurd ho z⟩
    · obtain ⟨v, hv⟩ := maxI_of ne
      obtain ⟨a, b⟩ := maxI_is hv
      rw [if_neg ho, hv]
      exact ⟨a, fun z => absurd z ho, fun _ => b⟩
  obtain ⟨h1, h2, h3⟩ := key
  have hlt : (((Mvz rs r).map (wantI B p)).findIdx fun z => decide (z = dueB rs B p r)) < ((Mvz rs r).map (wantI B p)).length := List.findIdx_lt_length_of_exists ⟨_, h1, decide_eq_true rfl⟩
  have hg := List.findIdx_getElem (w := hlt)
  rw [List.length_map] at hlt
  rw [List.getElem_map] at hg
  have hg := of_decide_eq_true hg
  refine ⟨_, hlt, ?_, ?_, fun ho j hj => ?_, fun ho j hj => ?_⟩
  · unfold dueI
    rw [if_neg h]
  · rw [← wj _ hlt, hg]
  · rw [← wj j hj]
    exact h2 ho _ (List.mem_map.mpr ⟨_, List.getElem_mem _, rfl⟩)
  · rw [← wj j hj]
    exact h3 ho _ (List.mem_map.mpr ⟨_, List.getElem_mem _, rfl⟩)
theorem due_le (hB : 0 ≤ B) : 0 ≤ dueB rs B p r ∧ dueB rs B p r ≤ B + 1 := by
  by_cases h : Mvz rs r = []
  · rw [(due_nil h).1]; omega
  · obtain ⟨k, _, _, e, _⟩ := due_is (B := B) (p := p) h
    rw [← e]
    exact ⟨wantZ_0 hB, wantZ_le⟩
/-! ### raising -/
structure Rst where
  p : Nat → Option Int
  l : Nat → Int
  w : Nat → Int
  c : Int
def isUp (rs : List Rm) (B : Int) (st : Rst) (r : Nat) : Bool := match st.p r with
  | none => false
  | some v => decide (v < dueB rs B st.p r)
def upR (rs : List Rm) (B : Int) (st : Rst) (r : Nat) : Rst := ⟨upZ st.p r (if dueB rs B st.p r ≤ B then some (dueB rs B st.p r) else none), upZ st.l r (st.c + 1), upZ st.w r (dueI rs B st.p r), st.c + 1⟩
def valZ (B : Int) (o : Option Int) : Int := o.getD (B + 1)
def msrZ (n : Nat) (B : Int) (p : Nat → Option Int) : Nat := ((List.range n).map fun r => (B + 1 - valZ B (p r)).toNat).sum
def NdM (rs : List Rm) (st : Rst) (r : Nat) (v : Int) (k : Nat) : Prop := ∀ u, st.p (tgZ rs r k) = some u → v ≤ prZ rs r k + u ∧ (v = prZ rs r k + u → st.l (tgZ rs r k) < st.l r)
def LeastP (rs : List Rm) (B : Int) (p : Nat → Option Int) : Prop := ∀ (C : Nat → Prop) (q : Nat → Int), PoS (gown rs) (gmv rs) C q → (∀ r, C r → r < rs.length ∧ 0 ≤ q r ∧ q r ≤ B) → ∀ r, C r → ∃ v, p r = some v ∧ v ≤ q r
structure RaI (rs : List Rm) (B : Int) (st : Rst) : Prop where
  c0 : 0 ≤ st.c
  bd : ∀ r, r < rs.length → ∀ v, st.p r = some v → 0 ≤ v ∧ v ≤ B
  lb : ∀ r, r < rs.length → 0 ≤ st.l r ∧ st.l r ≤ st.c
  wb : ∀ r, r < rs.length → st.w r = -1 ∨ ∃ k, k < (Mvz rs r).length ∧ st.w r = (k : Nat)
  least : LeastP rs B st.p
  need : ∀ r, r < rs.length → ∀ v, st.p r = some v → 0 < v → Mvz rs r ≠ [] ∧ (Ow rs r = 1 → ∃ k, k < (Mvz rs r).length ∧ st.w r = (k : Nat) ∧ NdM rs st r v k) ∧ (Ow rs r ≠ 1 → ∀ k, k < (Mvz rs r).length → NdM rs st r v k)
  ms : st.c + msrZ rs.length B st.p ≤ rs.length * (B + 1)
def st0Z : Rst := ⟨fun _ => some 0, fun _ => 0, fun _ => -1, 0⟩
theorem sum_const {c : Nat} : ∀ n : Nat, ((List.range n).map fun _ => c).sum = n * c
  | 0 => by simp
  | n + 1 => by
    rw [List.range_succ, List.map_append, List.sum_append, sum_const n]
    simp [Nat.add_mul]
theorem ri0 (hB : 0 ≤ B) : RaI rs B st0Z := by
  refine ⟨Int.le_refl _, fun r _ v e => ?_, fun _ _ => ⟨Int.le_refl _, Int.le_refl _⟩, fun _ _ => .inl rfl, fun C q _ h r hr => ⟨0, rfl, (h r hr).2.1⟩, fun r _ v e hv => ?_, ?_⟩
  · cases e
    exact ⟨Int.le_refl _, hB⟩
  · cases e
    exact absurd hv (Int.lt_irrefl _)
  · have e : msrZ rs.length B st0Z.p = rs.length * (B + 1).toNat := by
      have e1 : (fun r : Nat => (B + 1 - valZ B (st0Z.p r)).toNat) = fun _ => (B + 1).toNat := by
        funext r
        show (B + 1 - 0).toNat = _
        rw [Int.sub_zero]
      unfold msrZ
      rw [e1, sum_const]
    rw [e]
    show (0 : Int) + _ ≤ _
    rw [Int.zero_add, Int.natCast_mul, show (((B + 1).toNat : Nat) : Int) = B + 1 by omega]
    exact Int.le_refl _
theorem tgz_lt (hg : GRs rs.length rs) (hr : r < rs.length) (hk : k < (Mvz rs r).length) : tgZ rs r k < rs.length := by
  have eR : rs.getD r (0, []) = rs[r] := by simp [List.getD, List.getElem?_eq_getElem hr]
  have g := hg _ (List.getElem_mem hr)
  rw [← eR] at g
  have gm := g.2.2.2 _ (msz hk).1
  have := (msz hk).2.1
  have := gm.1
  have := gm.2.1
  omega
theorem msr_up {st : Rst} (I : RaI rs B st) (hB : 0 ≤ B) (hr : r < rs.length) (h : isUp rs B st r = true) : msrZ rs.length B (upR rs B st r).p < msrZ rs.length B st.p := by
  unfold isUp at h
  cases e : st.p r with
  | none => rw [e] at h; cases h
  | some v =>
    rw [e] at h
    have h := of_decide_eq_true h
    have bd := I.bd r hr v e
    have dl := due_le (rs := rs) (p := st.p) (r := r) hB
    have vl : v < valZ B ((upR rs B st r).p r) ∧ valZ B ((upR rs B st r).p r) ≤ B + 1 := by
      show v < valZ B (upZ st.p r _ r) ∧ valZ B (upZ st.p r _ r) ≤ B + 1
      rw [upZ_same]
      unfold valZ
      split
      · exact ⟨h, dl.2⟩
      · exact ⟨show v < B + 1 by omega, Int.le_refl _⟩
    refine sum_lt (x := r) (fun y hy => ?_) (List.mem_range.mpr hr) ?_
    · by_cases ey : y = r
      · subst ey
        rw [e]
        show (B + 1 - _).toNat ≤ (B + 1 - v).toNat
        omega
      · have : (upR rs B st r).p y = st.p y := upZ_ne ey
        rw [this]
        exact Nat.le_refl _
    · rw [e]
      show (B + 1 - _).toNat < (B + 1 - v).toNat
      omega
theorem ri_up {st : Rst} (hg : GRs rs.length rs) (hB : 0 ≤ B) (I : RaI rs B st) (hr : r < rs.length) (h : isUp rs B st r = true) : RaI rs B (upR rs B st r) := by
  have ms := msr_up I hB hr h
  unfold isUp at h
  cases e : st.p r with
  | none => rw [e] at h; cases h
  | some v =>
  rw [e] at h
  have h := of_decide_eq_true h
  have bd := I.bd r hr v e
  have dl := due_le (rs := rs) (p := st.p) (r := r) hB
  obtain ⟨D, hD⟩ : ∃ D, D = dueB rs B st.p r := ⟨_, rfl⟩
  have hM : Mvz rs r ≠ [] := fun z => by
    rw [(due_nil z).1] at h
    omega
  obtain ⟨k, k1, k2, k3, k4, k5⟩ := due_is (B := B) (p := st.p) hM
  rw [← hD] at h dl k3 k4 k5
  have pr : (upR rs B st r).p r = if D ≤ B then some D else none := by rw [hD]; exact upZ_same
  have po : ∀ x, x ≠ r → (upR rs B st r).p x = st.p x := fun x hx => upZ_ne hx
  have lr : (upR rs B st r).l r = st.c + 1 := upZ_same
  have lo : ∀ x, x ≠ r → (upR rs B st r).l x = st.l x := fun x hx => upZ_ne hx
  have wr : (upR rs B st r).w r = (k : Nat) := by rw [← k2]; exact upZ_same
  have wo : ∀ x, x ≠ r → (upR rs B st r).w x = st.w x := fun x hx => upZ_ne hx
  -- the wanted of a move of r, told anew
  have nd : D ≤ B → ∀ j, j < (Mvz rs r).length → (∀ u0, st.p (tgZ rs r j) = some u0 → D ≤ prZ rs r j + u0) → NdM rs (upR rs B st r) r D j := fun hb j hj hw u hu => by
    by_cases et : tgZ rs r j = r
    · rw [et, pr, if_pos hb] at hu
      cases hu
      have := hw v (by rw [et, e])
      refine ⟨by omega, fun z => by omega⟩
    · rw [po _ et] at hu
      have := hw u hu
      refine ⟨this, fun _ => ?_⟩
      rw [lo _ et, lr]
      have := (I.lb _ (tgz_lt hg hr hj)).2
      omega
  refine ⟨?_, fun x hx y hy => ?_, fun x hx => ?_, fun x hx => ?_, fun C q hs hC x hx => ?_, fun x hx y hy hy0 => ?_, ?_⟩
  · have := I.c0
    show 0 ≤ st.c + 1
    omega
  · by_cases ex : x = r
    · subst ex
      rw [pr] at hy
      split at hy
      · cases hy
        omega
      · cases hy
    · rw [po x ex] at hy
      exact I.bd x hx y hy
  · by_cases ex : x = r
    · subst ex
      rw [lr]
      have := I.c0
      exact ⟨by omega, Int.le_refl _⟩
    · rw [lo x ex]
      have := I.lb x hx
      exact ⟨this.1, by show _ ≤ st.c + 1; omega⟩
  · by_cases ex : x = r
    · subst ex
      exact .inr ⟨k, k1, wr⟩
    · rw [wo x ex]
      exact I.wb x hx
  · by_cases ex : x = r
    · subst ex
      have q0 := hC x hx
      have le : D ≤ q x := by
        by_cases ho : Ow rs x = 0
        · rcases hs.one x hx (decide_eq_true ho) with z | ⟨m, hm, a, b⟩
          · exact absurd (gmv_nil.mp z) hM
          · obtain ⟨j, hj, rfl⟩ := gmv_mem.mp hm
            obtain ⟨u, hu, hle⟩ := I.least C q hs hC _ a
            have hu : st.p (tgZ rs x j) = some u := hu
            have hle : u ≤ q (tgZ rs x j) := hle
            have := wantZ_lt (B := B) (u := u) (x := prZ rs x j) (v := q x) q0.2.1 (by simp only at b; omega) q0.2.2
            have := k4 ho j hj
            rw [hu] at this
            omega
        · obtain ⟨a, b⟩ := hs.all x hx (decide_eq_false ho) (tgZ rs x k, prZ rs x k) (gmv_mem.mpr ⟨k, k1, rfl⟩)
          obtain ⟨u, hu, hle⟩ := I.least C q hs hC _ a
          have hu : st.p (tgZ rs x k) = some u := hu
          have hle : u ≤ q (tgZ rs x k) := hle
          have := wantZ_lt (B := B) (u := u) (x := prZ rs x k) (v := q x) q0.2.1 (by simp only at b; omega) q0.2.2
          rw [hu] at k3
          omega
      exact ⟨D, by rw [pr, if_pos (by omega)], le⟩
    · rw [po x ex]
      exact I.least C q hs hC x hx
  · by_cases ex : x = r
    · subst ex
      rw [pr] at hy
      split at hy
      · rename_i hb
        cases hy
        refine ⟨hM, fun ho => ⟨k, k1, wr, nd hb k k1 fun u0 hu0 => ?_⟩, fun ho j hj => nd hb j hj fun u0 hu0 => ?_⟩
        · have hk : wantZ B (st.p (tgZ rs x k)) (prZ rs x k) ≤ B := by omega
          obtain ⟨u, eu, _, h2⟩ := wantZ_is hk
          rw [eu] at hu0
          cases hu0
          omega
        · have ho0 : Ow rs x = 0 := (ow_01 hg hr).resolve_right ho
          have := k4 ho0 j hj
          by_cases hb2 : wantZ B (st.p (tgZ rs x j)) (prZ rs x j) ≤ B
          · obtain ⟨u, eu, _, h2⟩ := wantZ_is hb2
            rw [eu] at hu0
            cases hu0
            omega
          · rw [hu0] at hb2
            unfold wantZ at hb2
            simp only at hb2
            by_cases z : prZ rs x j + u0 > 0
            · rw [if_pos z] at hb2
              split at hb2 <;> omega
            · rw [if_neg z, if_pos (by omega)] at hb2
              omega
      · cases hy
    · rw [po x ex] at hy
      obtain ⟨h1, h2, h3⟩ := I.need x hx y hy hy0
      have keep : ∀ j, NdM rs st x y j → NdM rs (upR rs B st r) x y j := fun j hj u hu => by
        rw [lo x ex]
        by_cases et : tgZ rs x j = r
        · rw [et, pr] at hu
          split at hu
          · cases hu
            have := hj v (by rw [et, e])
            exact ⟨by omega, fun z => by omega⟩
          · cases hu
        · rw [po _ et] at hu
          rw [lo _ et]
          exact hj u hu
      refine ⟨h1, fun ho => ?_, fun ho j hj => keep j (h3 ho j hj)⟩
      obtain ⟨j, a, b, c⟩ := h2 ho
      exact ⟨j, a, by rw [wo x ex]; exact b, keep j c⟩
  · have := I.ms
    show st.c + 1 + (msrZ rs.length B (upR rs B st r).p : Nat) ≤ _
    omega
/-- at the end -/
structure RaE (rs : List Rm) (B : Int) (st : Rst) : Prop extends RaI rs B st where
  done : ∀ r, r < rs.length → isUp rs B st r = false
def FinP (rs : List Rm) (p : Nat → Option Int) (r : Nat) : Prop := r < rs.length ∧ p r ≠ none
theorem re_ss {st : Rst} (hg : GRs rs.length rs) (R : RaE rs B st) : PoS (gown rs) (gmv rs) (FinP rs st.p) (fun r => (st.p r).getD 0) ∧ ∀ r, FinP rs st.p r → 0 ≤ (st.p r).getD 0 ∧ (st.p r).getD 0 ≤ B := by
  have some_of : ∀ r, FinP rs st.p r → ∃ v, st.p r = some v ∧ dueB rs B st.p r ≤ v ∧ 0 ≤ v ∧ v ≤ B := fun r hr => by
    obtain ⟨v, hv⟩ := Option.ne_none_iff_exists'.mp hr.2
    have d := R.done r hr.1
    unfold isUp at d
    rw [hv] at d
    have := of_decide_eq_false d
    have := R.bd r hr.1 v hv
    exact ⟨v, hv, by omega, this.1, this.2⟩
  have mvk : ∀ r v, r < rs.length → ∀ k, k < (Mvz rs r).length → st.p r = some v → wantZ B (st.p (tgZ rs r k)) (prZ rs r k) ≤ v → v ≤ B → okm (FinP rs st.p) (fun r => (st.p r).getD 0) r (tgZ rs r k, prZ rs r k) := fun r v hr k hk hv hw hb => by
    obtain ⟨u, eu, h1, _⟩ := wantZ_is (B := B) (o := st.p (tgZ rs r k)) (x := prZ rs r k) (by omega)
    refine ⟨⟨tgz_lt hg hr hk, by rw [eu]; exact fun z => by cases z⟩, ?_⟩
    show prZ rs r k + (st.p (tgZ rs r k)).getD 0 ≤ (st.p r).getD 0
    rw [hv]
    rw [eu] at h1 hw ⊢
    show prZ rs r k + u ≤ v
    omega
  refine ⟨⟨fun r hr ho => ?_, fun r hr ho m hm => ?_⟩, fun r hr => ?_⟩
  · obtain ⟨v, hv, hd, v0, vB⟩ := some_of r hr
    by_cases hM : Mvz rs r = []
    · exact .inl (gmv_nil.mpr hM)
    · obtain ⟨k, k1, k2, k3, k4, k5⟩ := due_is (B := B) (p := st.p) hM
      exact .inr ⟨_, gmv_mem.mpr ⟨k, k1, rfl⟩, mvk r v hr.1 k k1 hv (by omega) vB⟩
  · obtain ⟨v, hv, hd, v0, vB⟩ := some_of r hr
    obtain ⟨j, hj, rfl⟩ := gmv_mem.mp hm
    have hM : Mvz rs r ≠ [] := fun z => by rw [z] at hj; cases hj
    obtain ⟨k, k1, k2, k3, k4, k5⟩ := due_is (B := B) (p := st.p) hM
    have := k5 (of_decide_eq_false ho) j hj
    exact mvk r v hr.1 j hj hv (by omega) vB
  · obtain ⟨v, hv, _, v0, vB⟩ := some_of r hr
    rw [hv]
    exact ⟨v0, vB⟩
/-- the greatest price, the bound -/
def PrW (rs : List Rm) (W : Int) : Prop := 0 ≤ W ∧ ∀ r, r < rs.length → ∀ k, k < (Mvz rs r).length → prZ rs r k ≤ W
theorem prw_gmv (hW : PrW rs W) {C : Nat → Prop} (hC : ∀ r, C r → r < rs.length) : ∀ r, C r → ∀ m ∈ gmv rs r, m.2 ≤ W := fun r hr m hm => by
  obtain ⟨k, hk, rfl⟩ := gmv_mem.mp hm
  exact hW.2 r (hC r hr) k hk
/-- numbers that do somewhere: the room has a purse, no greater one -/
theorem least_any {st : Rst} (I : LeastP rs B st.p) (hW : PrW rs W) (hB : B = ((rs.length - 1 : Nat) : Int) * W) {C : Nat → Prop} {q : Nat → Int} (h : PoS (gown rs) (gmv rs) C q) (h0 : ∀ r, C r → r < rs.length ∧ 0 ≤ q r) : ∀ r, C r → ∃ v, st.p r = some v ∧ v ≤ q r := by
  obtain ⟨q', s', b'⟩ := h.bd (n := rs.length) (fun r hr => (h0 r hr).2) (fun r hr => (h0 r hr).1) (prw_gmv hW fun r hr => (h0 r hr).1) hW.1
  intro r hr
  obtain ⟨v, hv, hle⟩ := I C q' s' (fun r hr => ⟨(h0 r hr).1, (b' r hr).1, by rw [hB]; exact (b' r hr).2.2⟩) r hr
  have := (b' r hr).2.1
  exact ⟨v, hv, by omega⟩
/-- rooms with no purse -/
theorem sunk_close {st : Rst} (hg : GRs rs.length rs) (R : RaE rs B st) (hW : PrW rs W) (hB : B = ((rs.length - 1 : Nat) : Int) * W) (hr : r < rs.length) (hn : st.p r = none) :
    (Ow rs r = 0 → Mvz rs r ≠ [] ∧ ∀ k, k < (Mvz rs r).length → st.p (tgZ rs r k) = none) ∧ (Ow rs r ≠ 0 → ∃ k, k < (Mvz rs r).length ∧ st.p (tgZ rs r k) = none) := by
  obtain ⟨s, b⟩ := re_ss hg R
  have no : ¬ ((gown rs r = true → gmv rs r = [] ∨ ∃ m ∈ gmv rs r, FinP rs st.p m.1) ∧ (gown rs r = false → ∀ m ∈ gmv rs r, FinP rs st.p m.1)) := fun ⟨z1, z2⟩ => by
    obtain ⟨q, sq, q0⟩ := s.ext (fun r hr => (b r hr).1) z1 z2
    obtain ⟨v, hv, _⟩ := least_any R.least hW hB sq (fun x hx => ⟨hx.elim (fun y => y.1) fun y => y ▸ hr, q0 x hx⟩) r (.inr rfl)
    rw [hn] at hv
    cases hv
  refine ⟨fun ho => ⟨fun z => ?_, fun k hk => ?_⟩, fun ho => ?_⟩
  · exact no ⟨fun _ => .inl (gmv_nil.mpr z), fun y => by rw [gown, decide_eq_true ho] at y; cases y⟩
  · refine Classical.byContradiction fun z => no ⟨fun _ => .inr ⟨_, gmv_mem.mpr ⟨k, hk, rfl⟩, tgz_lt hg hr hk, z⟩, fun y => by rw [gown, decide_eq_true ho] at y; cases y⟩
  · refine Classical.byContradiction fun z => no ⟨fun y => (by rw [gown, decide_eq_false ho] at y; cases y), fun _ m hm => ?_⟩
    obtain ⟨k, hk, rfl⟩ := gmv_mem.mp hm
    exact ⟨tgz_lt hg hr hk, fun y => z ⟨k, hk, y⟩⟩
end
end Mir

/-! purses, walked: Raising's heap, __init__, wanted, due, raise_room (shared by laws 35-38) -/
namespace Mir
open PySem PySem.Spec PyProof.Rows L2
def oW : Option Int → W
  | none => .non
  | some v => .int v
def puL (n : Nat) (p : Nat → Option Int) : List W := (List.range n).map fun r => oW (p r)
def inL (n : Nat) (c : Nat → Int) : List W := (List.range n).map fun r => .int (c r)
section
variable {n i : Nat} {p : Nat → Option Int} {c : Nat → Int} {x : Int} {o : Option Int}
theorem puL_len : (puL n p).length = n := by simp [puL]
theorem inL_len : (inL n c).length = n := by simp [inL]
theorem puL_get (h : i < n) : atI (puL n p) (i : Int) = some (oW (p i)) := by
  rw [atI_nat _ _ (by omega), Int.toNat_natCast]
  simp [puL, List.getElem?_range h]
theorem inL_get (h : i < n) : atI (inL n c) (i : Int) = some (.int (c i)) := by
  rw [atI_nat _ _ (by omega), Int.toNat_natCast]
  simp [inL, List.getElem?_range h]
theorem puL_at (h : i < n) : (puL n p)[i]? = some (oW (p i)) := by
  simp [puL, List.getElem?_range h]
theorem map_setZ {α : Type} {f g : Nat → α} {i n : Nat} {x : α} (hi : g i = x) (ho : ∀ k, k ≠ i → g k = f k) : ((List.range n).map f).set i x = (List.range n).map g := by
  refine List.ext_getElem? fun k => ?_
  by_cases h : k = i
  · subst h
    by_cases hk : k < n
    · rw [List.getElem?_set_self (by simpa using hk), List.getElem?_map, List.getElem?_range hk, Option.map_some, hi]
    · rw [List.getElem?_eq_none (by simp; omega), List.getElem?_eq_none (by simp; omega)]
  · rw [List.getElem?_set_ne (Ne.symm h), List.getElem?_map, List.getElem?_map]
    by_cases hk : k < n
    · rw [List.getElem?_range hk, Option.map_some, Option.map_some, ho k h]
    · rw [List.getElem?_eq_none (by simp; omega)]
      rfl
theorem puL_set : (puL n p).set i (oW o) = puL n (upZ p i o) := map_setZ (by rw [upZ_same]) fun k hk => by rw [upZ_ne hk]
theorem inL_set : (inL n c).set i (.int x) = inL n (upZ c i x) := map_setZ (by rw [upZ_same]) fun k hk => by rw [upZ_ne hk]
theorem isnon_oW : isNonW (oW o) = o.isNone := by cases o <;> rfl
end
def pzF (A : W) (B c : Int) : List (Str × W) := [("arena", A), ("bound", .int B), ("purses", .ref 1), ("lasts", .ref 2), ("ways", .ref 3), ("count", .int c)]
def PZ (rs : List Rm) (ks : List (Str × List Int)) (B : Int) (st : Rst) (e : PH) : PH :=
  .ins "Raising" (pzF (encA rs ks) B st.c) :: .lst (puL rs.length st.p) :: .lst (inL rs.length st.l) :: .lst (inL rs.length st.w) :: e
section
variable {rs : List Rm} {ks : List (Str × List Int)} {B : Int} {st : Rst} {e e2 : PH} {r : Nat} {o : OB}
theorem PZ_ins : (PZ rs ks B st e)[0]? = some (.ins "Raising" (pzF (encA rs ks) B st.c)) := rfl
theorem PZ_p : (PZ rs ks B st e)[1]? = some (.lst (puL rs.length st.p)) := rfl
theorem PZ_l : (PZ rs ks B st e)[2]? = some (.lst (inL rs.length st.l)) := rfl
theorem PZ_w : (PZ rs ks B st e)[3]? = some (.lst (inL rs.length st.w)) := rfl
theorem PZ_app : PZ rs ks B st e ++ e2 = PZ rs ks B st (e ++ e2) := by simp [PZ]
theorem PZ_last : (PZ rs ks B st (e ++ [o]))[(PZ rs ks B st e).length]? = some o := by
  rw [← PZ_app, List.getElem?_append_right (Nat.le_refl _), Nat.sub_self]
  rfl
theorem pz_arena : fldW kc_arena "arena" (.ref 0) (PZ rs ks B st e) = some (encA rs ks, PZ rs ks B st e) := fldW_ins PZ_ins (.head _)
theorem pz_bound : fldW kc_bound "bound" (.ref 0) (PZ rs ks B st e) = some (.int B, PZ rs ks B st e) := fldW_ins PZ_ins (.head _)
theorem pz_purses : fldW kc_purses "purses" (.ref 0) (PZ rs ks B st e) = some (.ref 1, PZ rs ks B st e) := fldW_ins PZ_ins (.head _)
theorem pz_lasts : fldW kc_lasts "lasts" (.ref 0) (PZ rs ks B st e) = some (.ref 2, PZ rs ks B st e) := fldW_ins PZ_ins (.head _)
theorem pz_ways : fldW kc_ways "ways" (.ref 0) (PZ rs ks B st e) = some (.ref 3, PZ rs ks B st e) := fldW_ins PZ_ins (.head _)
theorem pz_count : fldW kc_count "count" (.ref 0) (PZ rs ks B st e) = some (.int st.c, PZ rs ks B st e) := fldW_ins PZ_ins (.head _)
theorem rmZ {i : Nat} (hi : i < rs.length) : atI (rs.map encR) (i : Int) = some (encR (rs.getD i (0, []))) := by
  rw [atI_nat _ _ (by omega), Int.toNat_natCast, List.getElem?_map, List.getElem?_eq_getElem hi]
  simp [List.getD, List.getElem?_eq_getElem hi]
theorem neZ_Ms {ms : List Mv} {h : PH} : wEq (encMs ms) (.tup []) h = some (.bl (decide (ms = [])), h) := by
  rw [wEq_pl (n := 2) (m := 1) (by simp [encMs, pls_map encM ms fun m _ => show plW 1 (encM m) = true by simp [encM]]) (by simp) (by decide) (by decide)]
  congr 3
  refine decide_eq_decide.mpr ⟨fun z => ?_, fun z => by unfold encMs; rw [z]; rfl⟩
  unfold encMs at z
  exact List.map_eq_nil_iff.mp (W.tup.inj z)
theorem neZ_Ms' {ms : List Mv} {h : PH} : wNe (encMs ms) (.tup []) h = some (.bl (!decide (ms = [])), h) := by
  rw [wNe_pl (n := 2) (m := 1) (by simp [encMs, pls_map encM ms fun m _ => show plW 1 (encM m) = true by simp [encM]]) (by simp) (by decide) (by decide)]
  congr 3
  congr 1
  refine decide_eq_decide.mpr ⟨fun z => ?_, fun z => by unfold encMs; rw [z]; rfl⟩
  unfold encMs at z
  exact List.map_eq_nil_iff.mp (W.tup.inj z)
theorem wantedZ {m : Mv} (h0 : 0 ≤ m.1) (h1 : m.1 < rs.length) {Q : W → PH → Prop} (q : Q (.int (wantI B st.p m)) (PZ rs ks B st e)) : (f_Raising_wanted [.ref 0, encM m] (PZ rs ks B st e)).To Q := by
  unfold f_Raising_wanted
  rw [run_to, show startW 3 [W.ref 0, encM m] = [some (.ref 0), some (encM m), none] from rfl]
  unfold b_Raising_wanted
  have e1 : m.1 = (m.1.toNat : Nat) := by omega
  have ix : wIx (.ref 1) (.int m.1) (PZ rs ks B st e) = some (oW (st.p m.1.toNat), PZ rs ks B st e) := by
    rw [wIx_lst PZ_p, e1, puL_get (by omega)]
    rfl
  refine seq_go (ps1 := [some (.ref 0), some (encM m), some (oW (st.p m.1.toNat))]) (h1 := PZ rs ks B st e) (fun Q hQ => ?_) ?_
  · simp only [to_asg, to_op, to_un, to_var, to_C]
    refine ⟨_, rfl, ?_⟩
    rw [pz_purses, pto_some]
    refine ⟨_, rfl, ?_⟩
    rw [ix_M0, pto_some, ix, pto_some, gN_is, oto_some]
    exact hQ
  unfold wantI wantZ at q
  cases hp : st.p m.1.toNat with
  | none =>
    rw [hp] at q
    rw [to_seq, to_sif]
    simp [oW, pz_bound]
    exact q
  | some v =>
    rw [hp] at q
    rw [to_seq, to_sif]
    simp [oW, pz_bound]
    simp only [gt_iff_lt] at q
    exact q
theorem wMinZ {l : List Int} {v : Int} (h : minI l = some v) {g : PH} : wMin (l.map W.int) g = some (.int v, g) := by
  unfold wMin
  rw [ints_map, Option.bind_some, h]
  rfl
theorem wMaxZ {l : List Int} {v : Int} (h : maxI l = some v) {g : PH} : wMax (l.map W.int) g = some (.int v, g) := by
  unfold wMax
  rw [ints_map, Option.bind_some, h]
  rfl
theorem idxZ {l : List Int} {v : Int} (h : v ∈ l) {k : Nat} {g : PH} (e : g[k]? = some (.lst (l.map W.int))) : wIndex (.ref k) [.int v] g = some (.int ((l.findIdx fun z => decide (z = v) : Nat) : Int), g) := by
  have e2 : (l.map W.int).findIdx? (fun z => eqF z (.int v)) = some (l.findIdx fun z => decide (z = v)) := by
    rw [List.findIdx?_map]
    have : ((fun z => eqF z (.int v)) ∘ W.int) = fun z => decide (z = v) := by
      funext z
      show (z == v) = _
      rw [beq_dec]
    rw [this, List.findIdx?_eq_some_iff_getElem]
    have hl : l.findIdx (fun z => decide (z = v)) < l.length := List.findIdx_lt_length_of_exists ⟨v, h, decide_eq_true rfl⟩
    exact ⟨hl, List.findIdx_getElem (w := hl), fun j hj => by simpa using List.not_of_lt_findIdx hj⟩
  have fl : (l.map W.int).all flatW = true := by
    rw [List.all_map, List.all_eq_true]
    intro t _
    rfl
  unfold wIndex
  simp only [lstOf_lst e]
  rw [if_pos ⟨rfl, fl⟩, e2]
  rfl
theorem grZ (hg : GRs rs.length rs) (hr : r < rs.length) : GR rs.length (rs.getD r (0, [])) := by
  have : rs.getD r (0, []) = rs[r] := by simp [List.getD, List.getElem?_eq_getElem hr]
  rw [this]
  exact hg _ (List.getElem_mem hr)
theorem dueZ (hg : GRs rs.length rs) (hr : r < rs.length) {Q : W → PH → Prop} (q : ∀ e2, Q (.tup [.int (dueB rs B st.p r), .int (dueI rs B st.p r)]) (PZ rs ks B st (e ++ e2))) : (f_Raising_due f_Raising_wanted [.ref 0, .int (r : Nat)] (PZ rs ks B st e)).To Q := by
  unfold f_Raising_due
  rw [run_to, show startW 7 [W.ref 0, W.int (r : Nat)] = [some (.ref 0), some (.int (r : Nat)), none, none, none, none, none] from rfl]
  unfold b_Raising_due
  have eR : rs.getD r (0, []) = (Ow rs r, Mvz rs r) := rfl
  have gr := grZ hg hr
  rw [eR] at gr
  refine seq_go (ps1 := [some (.ref 0), some (.int (r : Nat)), some (.int (Ow rs r)), some (encMs (Mvz rs r)), none, none, none]) (h1 := PZ rs ks B st e) (fun Q hQ => ?_) ?_
  · rw [to_asg]
    simp only [to_op, to_un, to_var, to_C]
    refine ⟨_, rfl, ?_⟩
    rw [pz_arena, pto_some, ix_A0, pto_some]
    refine ⟨_, rfl, ?_⟩
    rw [wIx_tup, rmZ hr, Option.map_some, pto_some, eR]
    simp [encR]
    exact hQ
  by_cases hM : Mvz rs r = []
  · rw [to_seq, to_sif]
    simp only [to_mB, to_op, to_var, to_tup, to_nil]
    refine ⟨_, rfl, by simp, ?_⟩
    rw [neZ_Ms, pto_some, bto_bl, decide_eq_true hM]
    obtain ⟨a, b⟩ := due_nil (rs := rs) (B := B) (p := st.p) hM
    have := q []
    rw [a, b, List.append_nil] at this
    simp [wNeg]
    exact this
  refine seq_go (ps1 := [some (.ref 0), some (.int (r : Nat)), some (.int (Ow rs r)), some (encMs (Mvz rs r)), none, none, none]) (h1 := PZ rs ks B st e) (fun Q hQ => ?_) ?_
  · rw [to_sif]
    simp only [to_mB, to_op, to_var, to_tup, to_nil]
    refine ⟨_, rfl, by simp, ?_⟩
    rw [neZ_Ms, pto_some, bto_bl, decide_eq_false hM]
    simp
    exact hQ
  obtain ⟨G, hG⟩ : ∃ G, G = PZ rs ks B st (e ++ [.lst (((Mvz rs r).map (wantI B st.p)).map W.int)]) := ⟨_, rfl⟩
  obtain ⟨k, hk⟩ : ∃ k, k = (PZ rs ks B st e).length := ⟨_, rfl⟩
  have gk : G[k]? = some (.lst (((Mvz rs r).map (wantI B st.p)).map W.int)) := by rw [hG, hk]; exact PZ_last
  refine seq_go (ps1 := [some (.ref 0), some (.int (r : Nat)), some (.int (Ow rs r)), some (encMs (Mvz rs r)), some (.ref k), none, none]) (h1 := G) (fun Q hQ => ?_) ?_
  · rw [to_asg, to_new, to_lc, to_iter, to_var]
    refine ⟨_, rfl, ?_⟩
    rw [show encMs (Mvz rs r) = .tup ((Mvz rs r).map encM) from rfl, iterOf_tup, oto_some]
    refine lc_map (L := Mvz rs r) (enc := encM) (u := fun m => W.int (wantI B st.p m)) (by have := gr.2.2.1; simp only at this; omega) (fun m hm => ⟨_, rfl, fun Q q => ?_⟩) ?_
    · have gm := gr.2.2.2 m hm
      simp only [wipeW]
      rw [to_mth, to_var]
      refine ⟨_, rfl, insOf_ins PZ_ins rfl, ?_⟩
      simp only [to_cons, to_var, to_nil]
      refine ⟨_, rfl, rfl, ?_⟩
      exact wantedZ gm.1 gm.2.1 q
    · rw [gN_is, oto_some, ← hk, PZ_app]
      have : ((Mvz rs r).map fun m => W.int (wantI B st.p m)) = ((Mvz rs r).map (wantI B st.p)).map W.int := by rw [List.map_map]; rfl
      rw [this, ← hG]
      exact hQ
  have ne : (Mvz rs r).map (wantI B st.p) ≠ [] := fun z => hM (List.map_eq_nil_iff.mp z)
  obtain ⟨v1, hv1⟩ := minI_of ne
  obtain ⟨v2, hv2⟩ := maxI_of ne
  obtain ⟨D, hD⟩ : ∃ D, D = dueB rs B st.p r := ⟨_, rfl⟩
  have eD : D = if Ow rs r = 0 then v1 else v2 := by
    rw [hD]
    unfold dueB
    rw [if_neg hM, hv1, hv2]
    rfl
  have mD : D ∈ (Mvz rs r).map (wantI B st.p) := by
    rw [eD]
    split
    · exact (minI_is hv1).1
    · exact (maxI_is hv2).1
  refine seq_go (ps1 := [some (.ref 0), some (.int (r : Nat)), some (.int (Ow rs r)), some (encMs (Mvz rs r)), some (.ref k), some (.int D), none]) (h1 := G) (fun Q hQ => ?_) ?_
  · rw [to_asg, to_if]
    simp only [to_mB, to_op, to_var, to_C, to_on, to_lstm]
    refine ⟨_, rfl, ?_⟩
    rw [wEq_int, pto_some, bto_bl]
    refine .of (fun ho => ⟨_, rfl, ?_⟩) fun ho => ⟨_, rfl, ?_⟩
    · rw [lstOf_lst gk, oto_some, wMinZ hv1, pto_some, gN_is, oto_some]
      rw [if_pos ho] at eD
      rw [eD] at hQ
      exact hQ
    · rw [lstOf_lst gk, oto_some, wMaxZ hv2, pto_some, gN_is, oto_some]
      rw [if_neg ho] at eD
      rw [eD] at hQ
      exact hQ
  rw [to_ret, to_tup]
  simp only [to_cons, to_var, to_nil, to_mt]
  refine ⟨_, rfl, _, rfl, tyW_lst gk, _, rfl, ?_⟩
  rw [idxZ mD gk, pto_some]
  refine ⟨by simp, ?_⟩
  have eI : dueI rs B st.p r = ((((Mvz rs r).map (wantI B st.p)).findIdx fun z => decide (z = D) : Nat) : Int) := by
    unfold dueI
    rw [if_neg hM, hD]
  have := q [.lst (((Mvz rs r).map (wantI B st.p)).map W.int)]
  rw [eI, ← hD, ← hG] at this
  exact this
def roomS (rs : List Rm) (B : Int) (st : Rst) (r : Nat) : Rst := if isUp rs B st r = true then upR rs B st r else st
theorem putF_count {A : W} {B c c' : Int} : putFW "count" (.int c') (pzF A B c) = pzF A B c' := by
  unfold pzF
  simp only [putFW]
  rw [if_neg (by decide), if_neg (by decide), if_neg (by decide), if_neg (by decide), if_neg (by decide), if_pos trivial]
theorem raiseZ (hg : GRs rs.length rs) (hr : r < rs.length) {Q : W → PH → Prop} (q : ∀ e2, Q (.bl (isUp rs B st r)) (PZ rs ks B (roomS rs B st r) e2)) : (f_Raising_raise_room (f_Raising_due f_Raising_wanted) [.ref 0, .int (r : Nat)] (PZ rs ks B st e)).To Q := by
  unfold f_Raising_raise_room
  rw [run_to, show startW 4 [W.ref 0, W.int (r : Nat)] = [some (.ref 0), some (.int (r : Nat)), none, none] from rfl]
  unfold b_Raising_raise_room
  obtain ⟨D, hD⟩ : ∃ D, D = dueB rs B st.p r := ⟨_, rfl⟩
  obtain ⟨I, hI⟩ : ∃ I, I = dueI rs B st.p r := ⟨_, rfl⟩
  refine seq_op fun K hK => ?_
  rw [to_asg, to_mth, to_var]
  refine ⟨_, rfl, insOf_ins PZ_ins rfl, ?_⟩
  simp only [to_cons, to_var, to_nil]
  refine ⟨_, rfl, rfl, dueZ hg hr fun e2 => ?_⟩
  simp only [gT_is, gcons_is, gN_is, gnil_is, Option.bind_some, oto_some]
  rw [← hD, ← hI]
  refine hK _ _ ?_
  clear hK K
  generalize e ++ e2 = e
  have ix : ∀ e, wIx (.ref 1) (.int (r : Nat)) (PZ rs ks B st e) = some (oW (st.p r), PZ rs ks B st e) := fun e => by
    rw [wIx_lst PZ_p, puL_get hr]
    rfl
  show (sSeq _ _ [some (.ref 0), some (.int (r : Nat)), some (.int D), some (.int I)] (PZ rs ks B st e)).To _ _ _ _
  cases hu : isUp rs B st r with
  | false =>
    have ret : Q (.bl false) (PZ rs ks B st e) := by
      have := q e
      unfold roomS at this
      rw [hu] at this
      exact this
    unfold isUp at hu
    rw [to_seq, to_sif]
    simp only [to_or, to_mB, to_op, to_un, to_var, to_C]
    refine ⟨_, rfl, ?_⟩
    rw [pz_purses, pto_some]
    refine ⟨_, rfl, ?_⟩
    rw [ix, pto_some, wIs_non, pto_some, bto_bl, isnon_oW]
    cases hp : st.p r with
    | none => simp; exact ret
    | some v =>
      rw [hp] at hu
      have hu := of_decide_eq_false hu
      rw [← hD] at hu
      simp only [Option.isNone_some, Ite_false]
      refine ⟨_, rfl, _, rfl, ?_⟩
      rw [pz_purses, pto_some]
      refine ⟨_, rfl, ?_⟩
      rw [ix, pto_some, hp]
      show PTo (wLe (.int D) (.int v) _) _
      rw [wLe_int, pto_some, bto_bl, decide_eq_true (show D ≤ v by omega)]
      simp
      exact ret
  | true =>
    have ret : ∀ e2, Q (.bl true) (PZ rs ks B (upR rs B st r) e2) := fun e2 => by
      have := q e2
      unfold roomS at this
      rw [if_pos hu, hu] at this
      exact this
    unfold isUp at hu
    refine seq_go (ps1 := [some (.ref 0), some (.int (r : Nat)), some (.int D), some (.int I)]) (h1 := PZ rs ks B st e) (fun Q hQ => ?_) ?_
    · rw [to_sif]
      simp only [to_or, to_mB, to_op, to_un, to_var, to_C]
      refine ⟨_, rfl, ?_⟩
      rw [pz_purses, pto_some]
      refine ⟨_, rfl, ?_⟩
      rw [ix, pto_some, wIs_non, pto_some, bto_bl, isnon_oW]
      cases hp : st.p r with
      | none => rw [hp] at hu; cases hu
      | some v =>
        rw [hp] at hu
        have hu := of_decide_eq_true hu
        rw [← hD] at hu
        simp only [Option.isNone_some, Ite_false]
        refine ⟨_, rfl, _, rfl, ?_⟩
        rw [pz_purses, pto_some]
        refine ⟨_, rfl, ?_⟩
        rw [ix, pto_some, hp]
        show PTo (wLe (.int D) (.int v) _) _
        rw [wLe_int, pto_some, bto_bl, decide_eq_false (show ¬ D ≤ v by omega)]
        simp
        exact hQ
    refine seq_go (ps1 := [some (.ref 0), some (.int (r : Nat)), some (.int D), some (.int I)]) (h1 := PZ rs ks B ⟨st.p, st.l, st.w, st.c + 1⟩ e) (fun Q hQ => ?_) ?_
    · simp only [to_setfld, to_op, to_un, to_var, to_C]
      refine ⟨_, rfl, ?_⟩
      rw [pz_count, pto_some, wAdd_int, pto_some]
      refine ⟨_, rfl, ?_⟩
      rw [setFW_ins PZ_ins (show ("Raising" : Str) ∈ kc_count from .head _) (by simp [pzF]), putF_count, oto_some]
      exact hQ
    refine seq_go (ps1 := [some (.ref 0), some (.int (r : Nat)), some (.int D), some (.int I)]) (h1 := PZ rs ks B ⟨upZ st.p r (if D ≤ B then some D else none), st.l, st.w, st.c + 1⟩ e) (fun Q hQ => ?_) ?_
    · have fin : OTo (setW (.ref 1) (.int (r : Nat)) (oW (if D ≤ B then some D else none)) (PZ rs ks B ⟨st.p, st.l, st.w, st.c + 1⟩ e)) fun g => Q [some (.ref 0), some (.int (r : Nat)), some (.int D), some (.int I)] g := by
        rw [setW_lst PZ_p (by omega) (by rw [puL_len]; simpa using hr), oto_some, Int.toNat_natCast, puL_set]
        exact hQ
      rw [to_setix, to_if]
      simp only [to_mB, to_op, to_un, to_var, to_C]
      refine ⟨_, rfl, _, rfl, ?_⟩
      rw [pz_bound, pto_some, wLe_int, pto_some, bto_bl]
      refine .of (fun hb => ?_) fun hb => ?_
      · rw [if_pos hb] at fin
        refine ⟨_, rfl, _, rfl, ?_⟩
        rw [pz_purses, pto_some]
        exact ⟨_, rfl, fin⟩
      · rw [if_neg hb] at fin
        refine ⟨_, rfl, ?_⟩
        rw [pz_purses, pto_some]
        exact ⟨_, rfl, fin⟩
    refine seq_go (ps1 := [some (.ref 0), some (.int (r : Nat)), some (.int D), some (.int I)]) (h1 := PZ rs ks B ⟨upZ st.p r (if D ≤ B then some D else none), upZ st.l r (st.c + 1), st.w, st.c + 1⟩ e) (fun Q hQ => ?_) ?_
    · simp only [to_setix, to_un, to_var]
      refine ⟨_, rfl, ?_⟩
      rw [pz_count, pto_some]
      refine ⟨_, rfl, ?_⟩
      rw [pz_lasts, pto_some]
      refine ⟨_, rfl, ?_⟩
      rw [setW_lst PZ_l (by omega) (by rw [inL_len]; simpa using hr), oto_some, Int.toNat_natCast, inL_set]
      exact hQ
    have eU : upR rs B st r = ⟨upZ st.p r (if D ≤ B then some D else none), upZ st.l r (st.c + 1), upZ st.w r I, st.c + 1⟩ := by
      rw [hD, hI]
      rfl
    rw [to_seq, to_setix]
    simp only [to_un, to_var]
    refine ⟨_, rfl, _, rfl, ?_⟩
    rw [pz_ways, pto_some]
    refine ⟨_, rfl, ?_⟩
    rw [setW_lst PZ_w (by omega) (by rw [inL_len]; simpa using hr), oto_some, Int.toNat_natCast, inL_set]
    simp only [to_ret, to_C]
    have := ret e
    rw [eU] at this
    exact this
end
end Mir

/-! purses, walked: raise_all, __init__, need_small, the rows (shared by laws 35-38) -/
namespace Mir
open PySem PySem.Spec PyProof.Rows L2
section
variable {N B C : LS → PH → Prop} {R : W → PH → Prop} {ps : LS} {h : PH} {M : SM} {Ql : List W → PH → Prop}
theorem for_enumL {n fuel : Nat} {items : List W} {g : GM} (hf : items.length < fuel) (I : Nat → LS → PH → Prop) (stay : ∀ i ps h, I i ps h → h[n]? = some (.lst items)) (h0 : I 0 ps h)
    (step : ∀ (i : Nat) (w : W) ps h, items[i]? = some w → I i ps h → ∃ ps1, g (.tup [.int (i : Nat), w]) ps = some ps1 ∧ (M ps1 h).To (I (i + 1)) R N (I (i + 1))) (fin : ∀ ps h, I items.length ps h → N ps h) :
    (forGo (itE (itL n fuel)) g M (itE (itL n fuel)).fuel 0 ps h).To N R B C :=
  for_gen (items := pairsW items) I (fun i ps h q => by rw [pairs_get]; simp only [itE, itL, stay i ps h q]; cases items[i]? <;> rfl) (fun i w ps h e q => by
    rw [pairs_get] at e
    obtain ⟨w', e1, rfl⟩ := Option.map_eq_some_iff.mp e
    exact step i w' ps h e1 q) (fun ps h q => fin ps h (by simpa [pairsW] using q)) _ 0 ps h (Nat.zero_le _) (by simpa [pairsW, itE, itL] using hf) h0
theorem lc_enumL {n fuel : Nat} {items : List W} {g : GM} {tt : BM} {te : EM} {psw : LS} (hf : items.length < fuel) (J : Nat → List W → PH → Prop) (stay : ∀ i acc h, J i acc h → h[n]? = some (.lst items)) (h0 : J 0 [] h)
    (step : ∀ (i : Nat) (w : W) acc h, items[i]? = some w → J i acc h → ∃ ps1, g (.tup [.int (i : Nat), w]) psw = some ps1 ∧ (tt ps1 h).To fun b h2 => Ite b ((te ps1 h2).To fun x h3 => acc.length < 16777216 ∧ J (i + 1) (acc ++ [x]) h3) (J (i + 1) acc h2)) (fin : ∀ acc h, J items.length acc h → Ql acc h) :
    (lcGo (itE (itL n fuel)) g tt te psw (itE (itL n fuel)).fuel 0 [] h).To Ql :=
  lc_gen (items := pairsW items) J (fun i acc h q => by rw [pairs_get]; simp only [itE, itL, stay i acc h q]; cases items[i]? <;> rfl) (fun i w acc h e q => by
    rw [pairs_get] at e
    obtain ⟨w', e1, rfl⟩ := Option.map_eq_some_iff.mp e
    exact step i w' acc h e1 q) (fun acc h q => fin acc h (by simpa [pairsW] using q)) _ 0 [] h (Nat.zero_le _) (by simpa [pairsW, itE, itL] using hf) h0
theorem iterE_lst {k n : Nat} {xs : List W} (e : h[n]? = some (.lst xs)) : iterE k (.ref n) h = some (itE (itL n k)) := by simp only [iterE, e]
end
section
variable {rs : List Rm} {ks : List (Str × List Int)} {B : Int} {st : Rst} {e e2 : PH} {r : Nat} {o o2 : OB}
/-! ### raise_all -/
def raO (rs : List Rm) (ks : List (Str × List Int)) (B : Int) (v : Nat) (ps : LS) (g : PH) : Prop := ∃ (st : Rst) (e : PH) (f : Bool) (s2 : Option W), ps = [some (.ref 0), some (.bl f), s2] ∧ g = PZ rs ks B st e ∧ RaI rs B st ∧ v = msrZ rs.length B st.p + (if f then 1 else 0) ∧ (f = false → ∀ r, r < rs.length → isUp rs B st r = false)
def raN (rs : List Rm) (ks : List (Str × List Int)) (B : Int) (st : Rst) (i : Nat) (ps : LS) (g : PH) : Prop := ∃ (st' : Rst) (e : PH) (f : Bool) (s2 : Option W), ps = [some (.ref 0), some (.bl f), s2] ∧ g = PZ rs ks B st' e ∧ RaI rs B st' ∧ (f = false → st' = st ∧ ∀ r, r < i → isUp rs B st r = false) ∧ (f = true → msrZ rs.length B st'.p < msrZ rs.length B st.p)
abbrev F_room : FM := f_Raising_raise_room (f_Raising_due f_Raising_wanted)
theorem raiseallZ (hg : GRs rs.length rs) (hn : rs.length ≤ 600) (hB : 0 ≤ B) (hF : (rs.length : Int) * (B + 1) < 1000000) {Q : W → PH → Prop} (q : ∀ st e2, RaE rs B st → Q (.ref 0) (PZ rs ks B st e2)) :
    (f_Raising_raise_all F_room [.ref 0] (PZ rs ks B st0Z e)).To Q := by
  unfold f_Raising_raise_all
  rw [run_to, show startW 3 [W.ref 0] = [some (.ref 0), none, none] from rfl]
  unfold b_Raising_raise_all
  have I0 := ri0 (rs := rs) hB
  refine seq_go (ps1 := [some (.ref 0), some (.bl true), none]) (h1 := PZ rs ks B st0Z e) (fun K hK => by simp; exact hK) ?_
  refine seq_cut (fun ps g => ∃ (st : Rst) (e : PH) (s2 : Option W), ps = [some (.ref 0), some (.bl false), s2] ∧ g = PZ rs ks B st e ∧ RaE rs B st) ?_ ?_
  · rw [to_while]
    refine while_inv (raO rs ks B) ?_ big (msrZ rs.length B st0Z.p + 1) _ _ ?_ ⟨st0Z, e, true, none, rfl, rfl, I0, rfl, fun z => by cases z⟩
    · rintro v ps g ⟨st, e, f, s2, rfl, rfl, I, rfl, hf⟩
      cases f with
      | false =>
        simp [tru]
        exact ⟨st, ⟨e, rfl⟩, { I with done := hf rfl }⟩
      | true =>
        simp [tru]
        refine seq_go (ps1 := [some (.ref 0), some (.bl false), s2]) (h1 := PZ rs ks B st e) (fun K hK => by simp; exact hK) ?_
        rw [to_for]
        have ln : wLen [.ref 1] (PZ rs ks B st e) = some (.int (rs.length : Nat), PZ rs ks B st e) := by rw [wLen_lst PZ_p, puL_len]
        simp only [to_range1, to_call, to_cons, to_un, to_var, to_nil]
        refine ⟨_, rfl, ?_⟩
        rw [pz_purses, pto_some, ln, pto_some]
        refine ⟨_, rfl, ⟨by omega, by omega⟩, ?_⟩
        rw [Int.toNat_natCast]
        refine for_items (raN rs ks B st) ⟨st, e, false, _, rfl, rfl, I, fun _ => ⟨rfl, fun r hr => by omega⟩, fun z => by cases z⟩ ?_ fun ps g z => ?_
        · rintro i w ps g ei ⟨st', e, f, s2, rfl, rfl, I', h1, h2⟩
          obtain ⟨hi, rfl⟩ := range_get ei
          have z0 : (0 : Int) + (i : Nat) = (i : Nat) := by omega
          rw [z0]
          refine ⟨_, rfl, ?_⟩
          rw [to_sif, to_tru, to_mth]
          rw [to_var]
          refine ⟨_, rfl, insOf_ins PZ_ins rfl, ?_⟩
          simp only [to_cons, to_var, to_nil]
          refine ⟨_, rfl, rfl, ?_⟩
          refine raiseZ hg hi fun e2 => ?_
          cases hu : isUp rs B st' i with
          | false =>
            have er : roomS rs B st' i = st' := by unfold roomS; rw [hu]; rfl
            rw [er]
            simp [tru]
            refine ⟨st', e2, f, _, rfl, rfl, I', fun z => ?_, h2⟩
            obtain ⟨a, b⟩ := h1 z
            refine ⟨a, fun r hr => ?_⟩
            by_cases e : r = i
            · rw [e, ← a]; exact hu
            · exact b r (by omega)
          | true =>
            have er : roomS rs B st' i = upR rs B st' i := by unfold roomS; rw [if_pos hu]
            have m1 := msr_up I' hB hi hu
            rw [er]
            simp [tru]
            refine ⟨_, e2, true, _, rfl, rfl, ri_up hg hB I' hi hu, fun z => (by cases z), fun _ => ?_⟩
            cases f with
            | false =>
              obtain ⟨a, _⟩ := h1 rfl
              rw [← a]
              exact m1
            | true => exact Nat.lt_trans m1 (h2 rfl)
        · obtain ⟨st', e, f, s2, rfl, rfl, I', h1, h2⟩ := z
          cases f with
          | false =>
            obtain ⟨a, b⟩ := h1 rfl
            subst a
            exact ⟨msrZ rs.length B st'.p, by simp, st', e, false, _, rfl, rfl, I', by simp, fun _ r hr => b r (by rw [range_len]; exact hr)⟩
          | true =>
            have := h2 rfl
            exact ⟨msrZ rs.length B st'.p + 1, by simp; omega, st', e, true, _, rfl, rfl, I', by simp, fun z => by cases z⟩
    · have h1 := I0.ms
      have h2 : st0Z.c = 0 := rfl
      unfold big
      omega
  rintro ps g ⟨st, e, s2, rfl, rfl, R⟩
  simp
  exact q st e R
/-! ### __init__ -/
def mxs (m : Int) (l : List Int) : Int := l.foldl (fun m x => if x > m then x else m) m
def mostF (m : Int) (r : Rm) : Int := mxs m (r.2.map fun x => x.2.1)
def mostZ (rs : List Rm) : Int := rs.foldl mostF 0
theorem mostF_is (m : Int) (r : Rm) : m ≤ mostF m r ∧ (∀ x ∈ r.2, x.2.1 ≤ mostF m r) ∧ ∀ X, m ≤ X → (∀ x ∈ r.2, x.2.1 ≤ X) → mostF m r ≤ X := by
  obtain ⟨h1, h2, h3⟩ := foldmax (r.2.map fun x => x.2.1) m
  refine ⟨h1, fun x hx => h2 _ (List.mem_map.mpr ⟨x, hx, rfl⟩), fun X hm hX => ?_⟩
  rcases h3 with z | z
  · show List.foldl _ m _ ≤ X
    rw [z]; exact hm
  · obtain ⟨x, hx, e⟩ := List.mem_map.mp z
    show List.foldl _ m _ ≤ X
    rw [← e]
    exact hX x hx
theorem most_fold : ∀ (l : List Rm) (m : Int), m ≤ l.foldl mostF m ∧ (∀ r ∈ l, ∀ x ∈ r.2, x.2.1 ≤ l.foldl mostF m) ∧ ∀ X, m ≤ X → (∀ r ∈ l, ∀ x ∈ r.2, x.2.1 ≤ X) → l.foldl mostF m ≤ X
  | [], m => ⟨Int.le_refl _, fun r hr => (by cases hr), fun X h _ => h⟩
  | a :: l, m => by
    obtain ⟨a1, a2, a3⟩ := mostF_is m a
    obtain ⟨h1, h2, h3⟩ := most_fold l (mostF m a)
    rw [List.foldl_cons]
    refine ⟨by omega, fun r hr x hx => ?_, fun X hm hX => h3 X (a3 X hm fun x hx => hX a List.mem_cons_self x hx) fun r hr => hX r (List.mem_cons_of_mem _ hr)⟩
    rcases List.mem_cons.mp hr with rfl | hr
    · have := a2 x hx
      omega
    · exact h2 r hr x hx
theorem mostW : PrW rs (mostZ rs) := by
  obtain ⟨h1, h2, h3⟩ := most_fold rs 0
  refine ⟨h1, fun r hr k hk => ?_⟩
  obtain ⟨a, _, b⟩ := msz hk
  have e1 : rs.getD r (0, []) = rs[r] := by simp [List.getD, List.getElem?_eq_getElem hr]
  have e2 : ∀ m ∈ Mvz rs r, m.2.1 ≤ mostZ rs := fun m hm => by
    have e3 : Mvz rs r = rs[r].2 := by unfold Mvz; rw [e1]
    rw [e3] at hm
    exact h2 _ (List.getElem_mem hr) m hm
  rw [← b]
  exact e2 _ a
theorem most_le {X : Int} (h0 : 0 ≤ X) (h : ∀ r ∈ rs, ∀ x ∈ r.2, x.2.1 ≤ X) : mostZ rs ≤ X := (most_fold rs 0).2.2 X h0 h
def bndZ (rs : List Rm) : Int := ((rs.length - 1 : Nat) : Int) * mostZ rs
theorem zf2 {a b : W} : putFW "bound" b [("arena", a)] = ([("arena", a), ("bound", b)] : List (Str × W)) := by
  simp only [putFW]
  rw [if_neg (by decide)]
theorem zf3 {a b c : W} : putFW "purses" c [("arena", a), ("bound", b)] = ([("arena", a), ("bound", b), ("purses", c)] : List (Str × W)) := by
  simp only [putFW]
  rw [if_neg (by decide), if_neg (by decide)]
theorem zf4 {a b c d : W} : putFW "lasts" d [("arena", a), ("bound", b), ("purses", c)] = ([("arena", a), ("bound", b), ("purses", c), ("lasts", d)] : List (Str × W)) := by
  simp only [putFW]
  rw [if_neg (by decide), if_neg (by decide), if_neg (by decide)]
theorem zf5 {a b c d e : W} : putFW "ways" e [("arena", a), ("bound", b), ("purses", c), ("lasts", d)] = ([("arena", a), ("bound", b), ("purses", c), ("lasts", d), ("ways", e)] : List (Str × W)) := by
  simp only [putFW]
  rw [if_neg (by decide), if_neg (by decide), if_neg (by decide), if_neg (by decide)]
theorem zf6 {a b c d e f : W} : putFW "count" f [("arena", a), ("bound", b), ("purses", c), ("lasts", d), ("ways", e)] = ([("arena", a), ("bound", b), ("purses", c), ("lasts", d), ("ways", e), ("count", f)] : List (Str × W)) := by
  simp only [putFW]
  rw [if_neg (by decide), if_neg (by decide), if_neg (by decide), if_neg (by decide), if_neg (by decide)]
theorem flat_one {x : W} : ∀ n : Nat, (List.replicate n [x]).flatten = List.replicate n x
  | 0 => rfl
  | n + 1 => by rw [List.replicate_succ, List.flatten_cons, flat_one n]; rfl
theorem rep_map {x : W} {n : Nat} : List.replicate n x = (List.range n).map fun _ => x := by
  refine List.ext_getElem? fun k => ?_
  by_cases h : k < n
  · rw [List.getElem?_replicate, if_pos h, List.getElem?_map, List.getElem?_range h]; rfl
  · rw [List.getElem?_eq_none (by simp; omega), List.getElem?_eq_none (by simp; omega)]
theorem riniZ (hn : rs.length ≤ 600) (h1 : 1 ≤ rs.length) (hg : GRs rs.length rs) :
    (f_Raising_ini [.ref 0, encA rs ks] [.ins "Raising" []]).To fun w g => w = .non ∧ g = PZ rs ks (bndZ rs) st0Z [] := by
  unfold f_Raising_ini
  rw [run_to, show startW 8 [W.ref 0, encA rs ks] = [some (.ref 0), some (encA rs ks), none, none, none, none, none, none] from rfl]
  unfold b_Raising_ini
  refine seq_go (ps1 := [some (.ref 0), some (encA rs ks), none, none, none, none, none, none]) (h1 := [.ins "Raising" [("arena", encA rs ks)]]) (fun Q hQ => ?_) ?_
  · simp
    rw [setFW_ins (c := "Raising") (fs := []) rfl (show ("Raising" : Str) ∈ kc_arena from .head _) (by decide), oto_some]
    exact hQ
  refine seq_go (ps1 := [some (.ref 0), some (encA rs ks), some (.int 0), none, none, none, none, none]) (h1 := [.ins "Raising" [("arena", encA rs ks)]]) (fun Q hQ => by simp; exact hQ) ?_
  obtain ⟨H, hH⟩ : ∃ H : PH, H = [.ins "Raising" [("arena", encA rs ks)]] := ⟨_, rfl⟩
  rw [← hH]
  refine seq_cut (fun ps g => ∃ s3 s4 : Option W, ps = [some (.ref 0), some (encA rs ks), some (.int (mostZ rs)), s3, s4, none, none, none] ∧ g = H) ?_ ?_
  · rw [to_for]
    simp
    refine for_items (fun i ps g => ∃ s3 s4 : Option W, ps = [some (.ref 0), some (encA rs ks), some (.int ((rs.take i).foldl mostF 0)), s3, s4, none, none, none] ∧ g = H) ⟨none, none, rfl, rfl⟩ ?_ ?_
    · rintro i w ps g ei ⟨s3, s4, rfl, hg0⟩
      rw [hg0]
      rw [List.getElem?_map] at ei
      obtain ⟨x, ex, rfl⟩ := Option.map_eq_some_iff.mp ei
      have hx := List.mem_of_getElem? ex
      refine ⟨_, rfl, ?_⟩
      rw [to_asg, to_on, to_lstm, to_op, to_fix, to_lst]
      simp only [to_cons, to_var, to_nil]
      refine ⟨_, rfl, by simp, ?_⟩
      rw [to_fix, to_lc, to_iter, to_var]
      refine ⟨_, rfl, ?_⟩
      rw [show encMs x.2 = .tup (x.2.map encM) from rfl, iterOf_tup, oto_some]
      have l24 := (hg x hx).2.2.1
      refine lc_map (L := x.2) (enc := encM) (u := fun m => W.int m.2.1) (by omega) (fun m hm => ⟨_, rfl, fun Q q => ?_⟩) ?_
      · simp [wipeW]
        exact q
      · rw [wAdd_fix, if_pos (by simp; omega), pto_some, lstOf_fix, oto_some]
        have e1 : [W.int ((rs.take i).foldl mostF 0)] ++ x.2.map (fun m => W.int m.2.1) = (((rs.take i).foldl mostF 0) :: x.2.map fun m => m.2.1).map W.int := by
          rw [List.map_cons, List.map_map]
          rfl
        have e2 : (rs.take (i + 1)).foldl mostF 0 = mostF ((rs.take i).foldl mostF 0) x := by
          rw [List.take_succ, ex]
          simp
        rw [e1, wMaxZ (v := mostF ((rs.take i).foldl mostF 0) x) rfl, pto_some, gN_is, oto_some, e2]
        exact ⟨_, _, rfl, rfl⟩
    · rintro ps g ⟨s3, s4, rfl, hg0⟩
      rw [List.length_map, List.take_length, hg0]
      exact ⟨⟨_, _, rfl⟩, rfl⟩
  rintro ps g ⟨s3, s4, rfl, rfl⟩
  have ln : ∀ h, wLen [.tup (rs.map encR)] h = some (.int (rs.length : Nat), h) := fun h => by rw [wLen_tup, List.length_map]
  have bd : ((rs.length : Nat) : Int) - 1 = ((rs.length - 1 : Nat) : Int) := by omega
  refine seq_go (ps1 := [some (.ref 0), some (encA rs ks), some (.int (mostZ rs)), s3, s4, none, none, none]) (h1 := [.ins "Raising" [("arena", encA rs ks), ("bound", .int (bndZ rs))]]) (fun Q hQ => ?_) ?_
  · rw [to_setfld]
    simp only [to_op, to_call, to_cons, to_var, to_C, to_nil]
    refine ⟨_, rfl, ?_⟩
    rw [ix_A0, pto_some, ln, pto_some, wSub_int, pto_some]
    refine ⟨_, rfl, ?_⟩
    rw [wMul_int, if_pos (.inl (by omega)), pto_some]
    refine ⟨_, rfl, ?_⟩
    rw [hH, setFW_ins (c := "Raising") (fs := [("arena", encA rs ks)]) rfl (show ("Raising" : Str) ∈ kc_bound from .head _) (by simp), zf2, oto_some, bd]
    exact hQ
  have rp : ∀ (x : W) (ps : LS) (h : PH) (Ql : List W → PH → Prop) (m : EM), ps[1]? = some (some (encA rs ks)) → (∀ Q : W → PH → Prop, Q x h → (m ps h).To Q) → Ql ((List.range rs.length).map fun _ => x) h → ((mRepL (mLst (mCons m mNil)) (mCall wLen (mCons (mOp wIx (mVar 1) (mC (.int 0))) mNil))) ps h).To Ql := fun x ps h Ql m hp hm q => by
    rw [to_repL, to_lst, to_cons]
    refine hm _ ?_
    simp only [to_nil, to_call, to_cons, to_op, to_var, to_C]
    refine ⟨by simp, _, hp, ?_⟩
    rw [ix_A0, pto_some, ln, pto_some]
    refine ⟨_, rfl, ⟨by omega, by omega, by simp; omega⟩, ?_⟩
    rw [Int.toNat_natCast, flat_one, rep_map]
    exact q
  refine seq_go (ps1 := [some (.ref 0), some (encA rs ks), some (.int (mostZ rs)), s3, s4, none, none, none]) (h1 := [.ins "Raising" [("arena", encA rs ks), ("bound", .int (bndZ rs)), ("purses", .ref 1)], .lst (puL rs.length st0Z.p)]) (fun Q hQ => ?_) ?_
  · rw [to_setfld, to_new]
    refine rp (.int 0) _ _ _ _ rfl (fun Q q => by rw [to_C]; exact q) ?_
    rw [to_var]
    refine ⟨_, rfl, ?_⟩
    rw [setFW_ins (c := "Raising") (fs := [("arena", encA rs ks), ("bound", .int (bndZ rs))]) rfl (show ("Raising" : Str) ∈ kc_purses from .head _) (by simp), oto_some]
    have := zf3 (a := encA rs ks) (b := .int (bndZ rs)) (c := .ref 1)
    simp only [List.length_cons, List.length_nil, List.cons_append, List.nil_append, List.set_cons_zero]
    rw [this]
    exact hQ
  refine seq_go (ps1 := [some (.ref 0), some (encA rs ks), some (.int (mostZ rs)), s3, s4, none, none, none]) (h1 := [.ins "Raising" [("arena", encA rs ks), ("bound", .int (bndZ rs)), ("purses", .ref 1), ("lasts", .ref 2)], .lst (puL rs.length st0Z.p), .lst (inL rs.length st0Z.l)]) (fun Q hQ => ?_) ?_
  · rw [to_setfld, to_new]
    refine rp (.int 0) _ _ _ _ rfl (fun Q q => by rw [to_C]; exact q) ?_
    rw [to_var]
    refine ⟨_, rfl, ?_⟩
    rw [setFW_ins (c := "Raising") (fs := [("arena", encA rs ks), ("bound", .int (bndZ rs)), ("purses", .ref 1)]) rfl (show ("Raising" : Str) ∈ kc_lasts from .head _) (by simp), oto_some]
    have := zf4 (a := encA rs ks) (b := .int (bndZ rs)) (c := .ref 1) (d := .ref 2)
    simp only [List.length_cons, List.length_nil, List.cons_append, List.nil_append, List.set_cons_zero]
    rw [this]
    exact hQ
  refine seq_go (ps1 := [some (.ref 0), some (encA rs ks), some (.int (mostZ rs)), s3, s4, none, none, none]) (h1 := [.ins "Raising" [("arena", encA rs ks), ("bound", .int (bndZ rs)), ("purses", .ref 1), ("lasts", .ref 2), ("ways", .ref 3)], .lst (puL rs.length st0Z.p), .lst (inL rs.length st0Z.l), .lst (inL rs.length st0Z.w)]) (fun Q hQ => ?_) ?_
  · rw [to_setfld, to_new]
    refine rp (.int (-1)) _ _ _ _ rfl (fun Q q => by rw [to_un, to_C, wNeg_int, pto_some]; exact q) ?_
    rw [to_var]
    refine ⟨_, rfl, ?_⟩
    rw [setFW_ins (c := "Raising") (fs := [("arena", encA rs ks), ("bound", .int (bndZ rs)), ("purses", .ref 1), ("lasts", .ref 2)]) rfl (show ("Raising" : Str) ∈ kc_ways from .head _) (by simp), oto_some]
    have := zf5 (a := encA rs ks) (b := .int (bndZ rs)) (c := .ref 1) (d := .ref 2) (e := .ref 3)
    simp only [List.length_cons, List.length_nil, List.cons_append, List.nil_append, List.set_cons_zero]
    rw [this]
    exact hQ
  rw [to_setfld, to_C, to_var]
  refine ⟨_, rfl, ?_⟩
  rw [setFW_ins (c := "Raising") (fs := [("arena", encA rs ks), ("bound", .int (bndZ rs)), ("purses", .ref 1), ("lasts", .ref 2), ("ways", .ref 3)]) rfl (show ("Raising" : Str) ∈ kc_count from .head _) (by simp), oto_some, zf6]
  exact ⟨rfl, rfl⟩
/-! ### need_small -/
def SmlZ (rs : List Rm) : Prop := rs.length ≤ 24 ∧ ∀ r ∈ rs, ∀ m ∈ r.2, -30 ≤ m.2.1 ∧ m.2.1 ≤ 30
theorem boolsZ : ∀ l : List Bool, bools (l.map W.bl) = some l
  | [] => rfl
  | b :: r => by simp [bools, boolsZ r]
theorem anyZ {x : Rm} (h24 : x.2.length ≤ 24) {s0 s3 s4 s5 : Option W} {h : PH} {Qb : Bool → PH → Prop} (q : Qb (x.2.any fun m => decide (30 < if m.2.1 < 0 then -m.2.1 else m.2.1)) h) :
    ((mTru (mOn wAny (mLc (mIter big (mVar 2)) (gT (gCons' (gN 3) (gCons' (gN 4) (gCons' (gN 5) gNil')))) mYes (mOp wGt (mCall wAbs (mCons (mVar 4) mNil)) (mC (.int 30))) [3, 4, 5]))) [s0, some (.int x.1), some (encMs x.2), s3, s4, s5] h).To Qb := by
  rw [to_tru, to_on, to_lc, to_iter, to_var]
  refine ⟨_, rfl, ?_⟩
  rw [show encMs x.2 = .tup (x.2.map encM) from rfl, iterOf_tup, oto_some]
  refine lc_map (L := x.2) (enc := encM) (u := fun m => .bl (decide (30 < if m.2.1 < 0 then -m.2.1 else m.2.1))) (by omega) (fun m hm => ⟨_, rfl, fun Q q => ?_⟩) ?_
  · simp [wipeW]
    exact q
  · have e : (x.2.map fun m => W.bl (decide (30 < if m.2.1 < 0 then -m.2.1 else m.2.1))) = (x.2.map fun m => decide (30 < if m.2.1 < 0 then -m.2.1 else m.2.1)).map W.bl := by rw [List.map_map]; rfl
    unfold wAny
    rw [e, boolsZ, Option.map_some, pto_some]
    have e2 : ((x.2.map fun m => decide (30 < if m.2.1 < 0 then -m.2.1 else m.2.1)).any fun b => b) = x.2.any fun m => decide (30 < if m.2.1 < 0 then -m.2.1 else m.2.1) := by
      rw [List.any_map]
      rfl
    rw [e2]
    simp [tru]
    exact q
theorem needsZ (hg : GRs rs.length rs) (hs : SmlZ rs) {h : PH} {Q : W → PH → Prop} (q : Q .non h) : (f_need_small [encA rs ks] h).To Q := by
  unfold f_need_small
  rw [run_to, show startW 6 [encA rs ks] = [some (encA rs ks), none, none, none, none, none] from rfl]
  unfold b_need_small
  refine seq_go (ps1 := [some (encA rs ks), none, none, none, none, none]) (h1 := h) (fun K hK => ?_) ?_
  · rw [to_sif]
    have ln : ∀ h, wLen [.tup (rs.map encR)] h = some (.int (rs.length : Nat), h) := fun h => by rw [wLen_tup, List.length_map]
    simp only [to_mB, to_op, to_call, to_cons, to_var, to_C, to_nil]
    refine ⟨_, rfl, ?_⟩
    rw [ix_A0, pto_some, ln, pto_some, wGt_int, pto_some, bto_bl, decide_eq_false (show ¬ (24 : Int) < rs.length by have := hs.1; omega)]
    simp
    exact hK
  rw [to_for]
  simp
  refine for_items (fun _ ps g => ∃ (s1 s2 s3 s4 s5 : Option W), ps = [some (encA rs ks), s1, s2, s3, s4, s5] ∧ g = h) ⟨none, none, none, none, none, rfl, rfl⟩ ?_ ?_
  · rintro i w ps g ei ⟨s1, s2, s3, s4, s5, rfl, rfl⟩
    rw [List.getElem?_map] at ei
    obtain ⟨x, ex, rfl⟩ := Option.map_eq_some_iff.mp ei
    have hx := List.mem_of_getElem? ex
    refine ⟨_, rfl, ?_⟩
    rw [to_sif]
    refine anyZ (hg x hx).2.2.1 ?_
    have : (x.2.any fun m => decide (30 < if m.2.1 < 0 then -m.2.1 else m.2.1)) = false := by
      rw [List.any_eq_false]
      intro m hm
      have := hs.2 x hx m hm
      simp only [decide_eq_true_eq]
      split <;> omega
    rw [this, Ite_false, to_next]
    exact ⟨_, _, _, _, _, rfl, rfl⟩
  · rintro ps g ⟨s1, s2, s3, s4, s5, rfl, rfl⟩
    exact q
/-! ### the rows -/
theorem PZ_at : (PZ rs ks B st (e ++ o :: e2))[(PZ rs ks B st e).length]? = some o := by
  rw [← PZ_app, List.getElem?_append_right (Nat.le_refl _), Nat.sub_self]
  rfl
theorem PZ_put : (PZ rs ks B st (e ++ o :: e2)).set (PZ rs ks B st e).length o2 = PZ rs ks B st (e ++ o2 :: e2) := by
  rw [← PZ_app, List.set_append_right _ _ (Nat.le_refl _), Nat.sub_self, ← PZ_app]
  rfl
def inP (p : Nat → Option Int) (r : Nat) : Bool := (p r).isSome
def mineRow (rs : List Rm) (B : Int) (p : Nat → Option Int) (r : Nat) : W := .tup [.int (r : Nat), oW (p r), .int (if Ow rs r = 0 then dueI rs B p r else -1)]
def needMv (rs : List Rm) (st : Rst) (r : Nat) : Int := if Ow rs r = 1 ∧ Mvz rs r ≠ [] then (if st.w r > 0 then st.w r else 0) else -1
def needRow (rs : List Rm) (st : Rst) (r : Nat) : W := .tup [.int (r : Nat), oW (st.p r), .int (st.l r), .int (needMv rs st r)]
theorem filt_more {p : Nat → Bool} {f : Nat → W} {i : Nat} : ((List.range (i + 1)).filter p).map f = ((List.range i).filter p).map f ++ (if p i then [f i] else []) := by
  rw [List.range_succ, List.filter_append, List.map_append]
  congr 1
  by_cases h : p i = true
  · rw [if_pos h]; simp [h]
  · rw [if_neg h]; simp [h]
theorem mineRowsZ (hg : GRs rs.length rs) (hn : rs.length ≤ 600) {Q : W → PH → Prop} (q : ∀ e2, Q (.tup ((idx (inP st.p) rs.length).map (mineRow rs B st.p))) (PZ rs ks B st (e ++ e2))) : (f_purse_rows (f_Raising_due f_Raising_wanted) [.ref 0] (PZ rs ks B st e)).To Q := by
  unfold f_purse_rows
  rw [run_to, show startW 4 [W.ref 0] = [some (.ref 0), none, none, none] from rfl]
  unfold b_purse_rows
  obtain ⟨k, hk⟩ : ∃ k, k = (PZ rs ks B st e).length := ⟨_, rfl⟩
  refine seq_go (ps1 := [some (.ref 0), some (.ref k), none, none]) (h1 := PZ rs ks B st (e ++ .lst [] :: [])) (fun K hK => by simp; rw [PZ_app, ← hk]; exact hK) ?_
  refine seq_cut (fun ps g => ∃ s2 s3 e2, ps = [some (.ref 0), some (.ref k), s2, s3] ∧ g = PZ rs ks B st (e ++ .lst ((idx (inP st.p) rs.length).map (mineRow rs B st.p)) :: e2)) ?_ ?_
  · rw [to_for, to_enum, to_un, to_var]
    refine ⟨_, rfl, ?_⟩
    rw [pz_purses, pto_some, iterE_lst PZ_p, oto_some]
    refine for_enumL (items := puL rs.length st.p) (by rw [puL_len]; unfold big; omega) (fun i ps g => ∃ s2 s3 e2, ps = [some (.ref 0), some (.ref k), s2, s3] ∧ g = PZ rs ks B st (e ++ .lst (((List.range i).filter (inP st.p)).map (mineRow rs B st.p)) :: e2)) (fun i ps g z => by obtain ⟨_, _, _, _, rfl⟩ := z; exact PZ_p) ⟨none, none, [], rfl, rfl⟩ ?_ ?_
    · rintro i w ps g ei ⟨s2, s3, e2, rfl, rfl⟩
      have hi : i < rs.length := by
        have := (List.getElem?_eq_some_iff.mp ei).1
        rwa [puL_len] at this
      rw [puL_at hi] at ei
      cases ei
      refine ⟨_, rfl, ?_⟩
      obtain ⟨acc, hacc⟩ : ∃ acc, acc = ((List.range i).filter (inP st.p)).map (mineRow rs B st.p) := ⟨_, rfl⟩
      have accl : acc.length ≤ 600 := by
        rw [hacc, List.length_map]
        have := List.length_filter_le (inP st.p) (List.range i)
        rw [List.length_range] at this
        omega
      rw [filt_more, ← hacc]
      rw [to_sif]
      simp only [to_mB, to_op, to_var, to_C]
      refine ⟨_, rfl, ?_⟩
      rw [wIsNot_non, pto_some, bto_bl, isnon_oW]
      cases hp : st.p i with
      | none =>
        simp [inP, hp]
        exact ⟨_, rfl⟩
      | some v =>
        have fin : ∀ (x : Int) (e3 : PH), x = (if Ow rs i = 0 then dueI rs B st.p i else -1) → PTo (wAppend (.ref k) [.tup [.int (i : Nat), oW (some v), .int x]] (PZ rs ks B st (e ++ .lst acc :: e3))) fun _ g => ∃ s2 s3 e2, [some (.ref 0), some (.ref k), some (W.int (i : Nat)), some (oW (some v))] = [some (.ref 0), some (.ref k), s2, s3] ∧ g = PZ rs ks B st (e ++ .lst (acc ++ [mineRow rs B st.p i]) :: e2) := fun x e3 ex => by
          rw [hk, wAppend_lst PZ_at, if_pos (by omega), pto_some, PZ_put]
          refine ⟨_, _, e3, rfl, ?_⟩
          unfold mineRow
          rw [ex, hp]
        simp only [Option.isNone_some, Bool.not_false, Ite_true, inP, Option.isSome_some, if_true, hp]
        rw [to_drop, to_mt, to_var]
        refine ⟨_, rfl, by rw [hk]; exact tyW_lst PZ_at, ?_⟩
        rw [to_cons, to_tup, to_cons, to_var]
        refine ⟨_, rfl, ?_⟩
        rw [to_cons, to_var]
        refine ⟨_, rfl, ?_⟩
        rw [to_cons, to_if]
        simp only [to_mB, to_op, to_un, to_var, to_C]
        refine ⟨_, rfl, ?_⟩
        rw [pz_arena, pto_some, ix_A0, pto_some]
        refine ⟨_, rfl, ?_⟩
        rw [wIx_tup, rmZ hi, Option.map_some, pto_some, ix_R0, pto_some, wEq_int, pto_some, bto_bl]
        refine .of (fun ho => ?_) fun ho => ?_
        · rw [to_mth, to_var]
          refine ⟨_, rfl, insOf_ins PZ_ins rfl, ?_⟩
          simp only [to_cons, to_var, to_nil]
          refine ⟨_, rfl, rfl, dueZ hg hi fun e3 => ?_⟩
          rw [wIx_tup, at1, Option.map_some, pto_some]
          refine ⟨by simp, ?_⟩
          rw [show (e ++ .lst acc :: e2) ++ e3 = e ++ .lst acc :: (e2 ++ e3) by simp]
          refine fin _ _ ?_
          rw [if_pos]
          exact ho
        · rw [wNeg_int, pto_some]
          simp only [to_nil]
          refine ⟨by simp, fin _ _ ?_⟩
          rw [if_neg]
          exact ho
    · rintro ps g ⟨s2, s3, e2, rfl, rfl⟩
      rw [puL_len]
      exact ⟨_, _, _, rfl, rfl⟩
  rintro ps g ⟨s2, s3, e2, rfl, rfl⟩
  rw [to_ret, to_on, to_seqm, to_var]
  refine ⟨_, rfl, ?_⟩
  rw [hk, seqOf_lst PZ_at, oto_some, wTupQ_is, pto_some]
  exact q _
theorem needRowsZ (hg : GRs rs.length rs) (hn : rs.length ≤ 600) {Q : W → PH → Prop} (q : ∀ e2, Q (.tup ((idx (inP st.p) rs.length).map (needRow rs st))) (PZ rs ks B st (e ++ e2))) : (f_need_rows [.ref 0] (PZ rs ks B st e)).To Q := by
  unfold f_need_rows
  rw [run_to, show startW 7 [W.ref 0] = [some (.ref 0), none, none, none, none, none, none] from rfl]
  unfold b_need_rows
  obtain ⟨k, hk⟩ : ∃ k, k = (PZ rs ks B st e).length := ⟨_, rfl⟩
  refine seq_go (ps1 := [some (.ref 0), some (.ref k), none, none, none, none, none]) (h1 := PZ rs ks B st (e ++ .lst [] :: [])) (fun K hK => by simp; rw [PZ_app, ← hk]; exact hK) ?_
  refine seq_cut (fun ps g => ∃ s2 s3 s4 s5 s6, ps = [some (.ref 0), some (.ref k), s2, s3, s4, s5, s6] ∧ g = PZ rs ks B st (e ++ [.lst ((idx (inP st.p) rs.length).map (needRow rs st))])) ?_ ?_
  · rw [to_for, to_enum, to_un, to_var]
    refine ⟨_, rfl, ?_⟩
    rw [pz_purses, pto_some, iterE_lst PZ_p, oto_some]
    refine for_enumL (items := puL rs.length st.p) (by rw [puL_len]; unfold big; omega) (fun i ps g => ∃ s2 s3 s4 s5 s6, ps = [some (.ref 0), some (.ref k), s2, s3, s4, s5, s6] ∧ g = PZ rs ks B st (e ++ [.lst (((List.range i).filter (inP st.p)).map (needRow rs st))])) (fun i ps g z => by obtain ⟨_, _, _, _, _, _, rfl⟩ := z; exact PZ_p) ⟨none, none, none, none, none, rfl, rfl⟩ ?_ ?_
    · rintro i w ps g ei ⟨s2, s3, s4, s5, s6, rfl, rfl⟩
      have hi : i < rs.length := by
        have := (List.getElem?_eq_some_iff.mp ei).1
        rwa [puL_len] at this
      rw [puL_at hi] at ei
      cases ei
      refine ⟨_, rfl, ?_⟩
      obtain ⟨acc, hacc⟩ : ∃ acc, acc = ((List.range i).filter (inP st.p)).map (needRow rs st) := ⟨_, rfl⟩
      have accl : acc.length ≤ 600 := by
        rw [hacc, List.length_map]
        have := List.length_filter_le (inP st.p) (List.range i)
        rw [List.length_range] at this
        omega
      rw [filt_more, ← hacc]
      rw [to_sif]
      simp only [to_mB, to_op, to_var, to_C]
      refine ⟨_, rfl, ?_⟩
      rw [wIsNot_non, pto_some, bto_bl, isnon_oW]
      cases hp : st.p i with
      | none =>
        simp [inP, hp]
      | some v =>
        have eR : rs.getD i (0, []) = (Ow rs i, Mvz rs i) := rfl
        simp only [Option.isNone_some, Bool.not_false, Ite_true, inP, Option.isSome_some, if_true, hp]
        refine seq_go (ps1 := [some (.ref 0), some (.ref k), some (.int (i : Nat)), some (oW (some v)), some (.int (Ow rs i)), some (encMs (Mvz rs i)), s6]) (h1 := PZ rs ks B st (e ++ [.lst acc])) (fun K hK => ?_) ?_
        · simp only [to_asg, to_op, to_un, to_var, to_C]
          refine ⟨_, rfl, ?_⟩
          rw [pz_arena, pto_some, ix_A0, pto_some]
          refine ⟨_, rfl, ?_⟩
          rw [wIx_tup, rmZ hi, Option.map_some, pto_some, eR]
          simp [encR]
          exact hK
        refine seq_go (ps1 := [some (.ref 0), some (.ref k), some (.int (i : Nat)), some (oW (some v)), some (.int (Ow rs i)), some (encMs (Mvz rs i)), some (.int (needMv rs st i))]) (h1 := PZ rs ks B st (e ++ [.lst acc])) (fun K hK => ?_) ?_
        · rw [to_asg, to_if, to_and]
          simp only [to_mB, to_op, to_var, to_C, to_tup, to_nil, to_un, to_call, to_cons]
          refine ⟨_, rfl, ?_⟩
          rw [wEq_int, pto_some, bto_bl]
          unfold needMv at hK
          refine .of (fun ho => ?_) fun ho => ?_
          · refine ⟨_, rfl, by simp, ?_⟩
            rw [neZ_Ms', pto_some, bto_bl]
            by_cases hM : Mvz rs i = []
            · rw [if_neg (fun z => z.2 hM)] at hK
              rw [decide_eq_true hM, Bool.not_true, Ite_false, wNeg_int, pto_some, gN_is, oto_some]
              exact hK
            · rw [if_pos ⟨ho, hM⟩] at hK
              rw [decide_eq_false hM, Bool.not_false, Ite_true]
              refine ⟨_, rfl, ?_⟩
              rw [pz_ways, pto_some]
              refine ⟨_, rfl, ?_⟩
              rw [wIx_lst PZ_w, inL_get hi, Option.map_some, pto_some, wMax2_int, pto_some, gN_is, oto_some]
              exact hK
          · rw [if_neg (fun z => ho z.1)] at hK
            rw [Ite_false, wNeg_int, pto_some, gN_is, oto_some]
            exact hK
        simp only [to_drop, to_mt, to_var, to_cons, to_tup, to_nil, to_op, to_un]
        refine ⟨_, rfl, by rw [hk]; exact tyW_lst PZ_at, _, rfl, _, rfl, _, rfl, ?_⟩
        rw [pz_lasts, pto_some]
        refine ⟨_, rfl, ?_⟩
        rw [wIx_lst PZ_l, inL_get hi, Option.map_some, pto_some]
        refine ⟨_, rfl, by simp, ?_⟩
        rw [hk, wAppend_lst PZ_at, if_pos (by omega), pto_some, PZ_put]
        refine ⟨_, _, _, _, _, rfl, ?_⟩
        unfold needRow
        rw [hp]
    · rintro ps g ⟨s2, s3, s4, s5, s6, rfl, rfl⟩
      rw [puL_len]
      exact ⟨_, _, _, _, _, rfl, rfl⟩
  rintro ps g ⟨s2, s3, s4, s5, s6, rfl, rfl⟩
  rw [to_ret, to_on, to_seqm, to_var]
  refine ⟨_, rfl, ?_⟩
  rw [hk, seqOf_lst PZ_at, oto_some, wTupQ_is, pto_some]
  exact q _
end
end Mir

/-! purses, plain: sinking (shared by laws 35-38) -/
namespace Mir
open PySem PySem.Spec PyProof.Rows L2
def isNn (p : Nat → Option Int) (r : Nat) : Bool := (p r).isNone
def snk (rs : List Rm) (p : Nat → Option Int) : List Nat := idx (isNn p) rs.length
def mvZ (rs : List Rm) (p : Nat → Option Int) (r : Nat) : List (Nat × Int) := (gmv rs r).filter fun m => isNn p m.1
def wdZ (rs : List Rm) (p : Nat → Option Int) : Int := ((snk rs p).length : Nat) + 1
/-- how deep a move makes a room lie -/
def svZ (W : Int) (d : Nat → Int) (t : Nat) (x : Int) : Int := if d t - W * x + 1 > 0 then d t - W * x + 1 else 0
/-- what due tells -/
structure SDue (rs : List Rm) (p : Nat → Option Int) (d : Nat → Int) (r : Nat) (b i : Int) : Prop where
  his : Ow rs r = 1 → ∃ k, k < (Mvz rs r).length ∧ p (tgZ rs r k) = none ∧ i = (k : Nat) ∧ b = svZ (wdZ rs p) d (tgZ rs r k) (prZ rs r k) ∧ ∀ j, j < (Mvz rs r).length → p (tgZ rs r j) = none → b ≤ svZ (wdZ rs p) d (tgZ rs r j) (prZ rs r j)
  mine : Ow rs r ≠ 1 → i = -1 ∧ ∃ k, k < (Mvz rs r).length ∧ p (tgZ rs r k) = none ∧ b = svZ (wdZ rs p) d (tgZ rs r k) (prZ rs r k) ∧ ∀ j, j < (Mvz rs r).length → p (tgZ rs r j) = none → svZ (wdZ rs p) d (tgZ rs r j) (prZ rs r j) ≤ b
section
variable {rs : List Rm} {B W X : Int} {p : Nat → Option Int} {d h : Nat → Int} {r n k : Nat} {b i : Int}
theorem snk_mem : r ∈ snk rs p ↔ r < rs.length ∧ p r = none := by
  unfold snk
  rw [idx_mem]
  unfold isNn
  rw [Option.isNone_iff_eq_none]
theorem snk_nd : (snk rs p).Nodup := idx_nd
theorem snk_len : (snk rs p).length ≤ rs.length := idx_len
theorem mvZ_mem {m : Nat × Int} : m ∈ mvZ rs p r ↔ ∃ k, k < (Mvz rs r).length ∧ m = (tgZ rs r k, prZ rs r k) ∧ p (tgZ rs r k) = none := by
  unfold mvZ
  rw [List.mem_filter, gmv_mem]
  unfold isNn
  constructor
  · rintro ⟨⟨k, hk, rfl⟩, hn⟩
    exact ⟨k, hk, rfl, Option.isNone_iff_eq_none.mp hn⟩
  · rintro ⟨k, hk, rfl, hn⟩
    exact ⟨⟨k, hk, rfl⟩, Option.isNone_iff_eq_none.mpr hn⟩
/-- where no purse does there are numbers of the other side's that do -/
theorem sink_pot {st : Rst} (hg : GRs rs.length rs) (R : RaE rs B st) (hW : PrW rs W) (hB : B = ((rs.length - 1 : Nat) : Int) * W) (hX : 0 ≤ X) (hl : ∀ r, r < rs.length → ∀ k, k < (Mvz rs r).length → -X ≤ prZ rs r k) :
    ∃ h, PoS (notO (gown rs)) (mvB (wdZ rs st.p) (mvZ rs st.p)) (fun r => r ∈ snk rs st.p) h ∧ ∀ r, r ∈ snk rs st.p → 0 ≤ h r ∧ h r ≤ ((rs.length - 1 : Nat) : Int) * (1 + wdZ rs st.p * X) := by
  have W0 : 0 ≤ wdZ rs st.p := by unfold wdZ; omega
  have hmv : ∀ r, r ∈ snk rs st.p → mvZ rs st.p r ≠ [] ∧ ∀ m ∈ mvZ rs st.p r, m.1 ∈ snk rs st.p := fun r hr => by
    obtain ⟨h1, h2⟩ := snk_mem.mp hr
    obtain ⟨c1, c2⟩ := sunk_close hg R hW hB h1 h2
    refine ⟨fun z => ?_, fun m hm => ?_⟩
    · by_cases ho : Ow rs r = 0
      · obtain ⟨a, b⟩ := c1 ho
        have hl := List.length_pos_iff.mpr a
        have : (tgZ rs r 0, prZ rs r 0) ∈ mvZ rs st.p r := mvZ_mem.mpr ⟨0, hl, rfl, b 0 hl⟩
        rw [z] at this
        cases this
      · obtain ⟨k, hk, hn⟩ := c2 ho
        have : (tgZ rs r k, prZ rs r k) ∈ mvZ rs st.p r := mvZ_mem.mpr ⟨k, hk, rfl, hn⟩
        rw [z] at this
        cases this
    · obtain ⟨k, hk, rfl, hn⟩ := mvZ_mem.mp hm
      exact snk_mem.mpr ⟨tgz_lt hg h1 hk, hn⟩
  rcases det (own := gown rs) (Z := fun r => r ∈ snk rs st.p) (n := (snk rs st.p).length) (W := wdZ rs st.p) (snk rs st.p) (fun r hr => hr) (fun l nd hl => ndu_le nd hl) (by unfold wdZ; omega) _ (mvZ rs st.p) (Nat.le_refl _) hmv with ⟨C, q, r0, hr0, hC, hs⟩ | ⟨h, hh⟩
  · exfalso
    classical
    obtain ⟨s, b⟩ := re_ss hg R
    obtain ⟨L, L0, hL⟩ := low_of q rs.length
    have B0 : 0 ≤ B := by
      rw [hB]
      exact Int.mul_nonneg (by omega) hW.1
    let q' : Nat → Int := fun r => if C r then q r + (W + B - L) else (st.p r).getD 0
    have qC : ∀ r, C r → q' r = q r + (W + B - L) := fun r hr => if_pos hr
    have qF : ∀ r, FinP rs st.p r → ¬ C r ∧ q' r = (st.p r).getD 0 := fun r hr => by
      have nc : ¬ C r := fun z => hr.2 (snk_mem.mp (hC r z)).2
      exact ⟨nc, if_neg nc⟩
    have up : ∀ r, C r → W + B ≤ q' r := fun r hr => by
      have := hL r (snk_mem.mp (hC r hr)).1
      rw [qC r hr]
      omega
    have sq : PoS (gown rs) (gmv rs) (fun r => C r ∨ FinP rs st.p r) q' := by
      refine ⟨fun r hr ho => ?_, fun r hr ho m hm => ?_⟩
      · rcases hr with hr | hr
        · rcases hs.one r hr ho with z | ⟨m, hm, a, c⟩
          · exact absurd z (hmv r (hC r hr)).1
          · refine .inr ⟨m, (List.mem_filter.mp hm).1, .inl a, ?_⟩
            rw [qC _ a, qC _ hr]
            omega
        · rcases s.one r hr ho with z | ⟨m, hm, a, c⟩
          · exact .inl z
          · refine .inr ⟨m, hm, .inr a, ?_⟩
            rw [(qF _ a).2, (qF _ hr).2]
            exact c
      · rcases hr with hr | hr
        · obtain ⟨k, hk, rfl⟩ := gmv_mem.mp hm
          have hr1 := (snk_mem.mp (hC r hr)).1
          by_cases hn : st.p (tgZ rs r k) = none
          · obtain ⟨a, c⟩ := hs.all r hr ho _ (mvZ_mem.mpr ⟨k, hk, rfl, hn⟩)
            refine ⟨.inl a, ?_⟩
            rw [qC _ a, qC _ hr]
            omega
          · have fp : FinP rs st.p (tgZ rs r k) := ⟨tgz_lt hg hr1 hk, hn⟩
            refine ⟨.inr fp, ?_⟩
            have h1 := up r hr
            have h2 := (b _ fp).2
            have h3 := hW.2 r hr1 k hk
            rw [(qF _ fp).2]
            show prZ rs r k + _ ≤ _
            omega
        · obtain ⟨a, c⟩ := s.all r hr ho m hm
          refine ⟨.inr a, ?_⟩
          rw [(qF _ a).2, (qF _ hr).2]
          exact c
    obtain ⟨v, hv, _⟩ := least_any R.least hW hB sq (fun r hr => by
      rcases hr with hr | hr
      · have := up r hr
        have := hW.1
        exact ⟨(snk_mem.mp (hC r hr)).1, by omega⟩
      · rw [(qF _ hr).2]
        exact ⟨hr.1, (b r hr).1⟩) r0 (.inl hr0)
    rw [(snk_mem.mp (hC r0 hr0)).2] at hv
    cases hv
  · obtain ⟨h1, s1, n1⟩ := hh.nn (n := rs.length) fun r hr => (snk_mem.mp hr).1
    have p0 : 0 ≤ wdZ rs st.p * X := Int.mul_nonneg W0 hX
    obtain ⟨h2, s2, b2⟩ := s1.bd (n := rs.length) (W := 1 + wdZ rs st.p * X) n1 (fun r hr => (snk_mem.mp hr).1) (fun r hr m hm => by
      obtain ⟨m', hm', rfl⟩ := List.mem_map.mp hm
      obtain ⟨k, hk, rfl, hn⟩ := mvZ_mem.mp hm'
      have := hl r (snk_mem.mp hr).1 k hk
      have h3 : wdZ rs st.p * (-X) ≤ wdZ rs st.p * prZ rs r k := Int.mul_le_mul_of_nonneg_left this W0
      rw [Int.mul_neg] at h3
      show 1 - wdZ rs st.p * prZ rs r k ≤ _
      omega) (by omega)
    exact ⟨h2, s2, fun r hr => ⟨(b2 r hr).1, (b2 r hr).2.2⟩⟩
/-- what due tells is no more than such numbers -/
theorem due_pot (hs : PoS (notO (gown rs)) (mvB (wdZ rs p) (mvZ rs p)) (fun r => r ∈ snk rs p) h) (h0 : ∀ r, r ∈ snk rs p → 0 ≤ h r) (hd : ∀ r, r ∈ snk rs p → d r ≤ h r) (hr : r ∈ snk rs p) (ow : Ow rs r = 0 ∨ Ow rs r = 1) (D : SDue rs p d r b i) : 0 ≤ b ∧ b ≤ h r := by
  have sv0 : ∀ t x, 0 ≤ svZ (wdZ rs p) d t x := fun t x => by unfold svZ; split <;> omega
  have ok : ∀ k, okm (fun r => r ∈ snk rs p) h r (tgZ rs r k, 1 - wdZ rs p * prZ rs r k) → svZ (wdZ rs p) d (tgZ rs r k) (prZ rs r k) ≤ h r := fun k ⟨a, c⟩ => by
    have h1 := hd _ a
    have h2 := h0 r hr
    have c : 1 - wdZ rs p * prZ rs r k + h (tgZ rs r k) ≤ h r := c
    have h1 : d (tgZ rs r k) ≤ h (tgZ rs r k) := h1
    unfold svZ
    split <;> omega
  by_cases ho : Ow rs r = 1
  · obtain ⟨k, hk, hn, _, e, le⟩ := D.his ho
    refine ⟨by rw [e]; exact sv0 _ _, ?_⟩
    rcases hs.one r hr (by unfold notO gown; rw [decide_eq_false (by omega)]; rfl) with z | ⟨m, hm, a⟩
    · have : (tgZ rs r k, prZ rs r k) ∈ mvZ rs p r := mvZ_mem.mpr ⟨k, hk, rfl, hn⟩
      rw [List.map_eq_nil_iff.mp z] at this
      cases this
    · obtain ⟨m', hm', rfl⟩ := List.mem_map.mp hm
      obtain ⟨j, hj, rfl, hn'⟩ := mvZ_mem.mp hm'
      exact Int.le_trans (le j hj hn') (ok j a)
  · obtain ⟨_, k, hk, hn, e, le⟩ := D.mine ho
    have a := hs.all r hr (by unfold notO gown; rw [decide_eq_true (by omega)]; rfl) (tgZ rs r k, 1 - wdZ rs p * prZ rs r k) (List.mem_map.mpr ⟨_, mvZ_mem.mpr ⟨k, hk, rfl, hn⟩, rfl⟩)
    exact ⟨by rw [e]; exact sv0 _ _, by rw [e]; exact ok k a⟩
end
end Mir

/-! purses, walked: Sinking (shared by laws 35-38) -/
namespace Mir
open PySem PySem.Spec PyProof.Rows L2
theorem lc_mapZ {α : Type} {n fuel : Nat} {h : PH} {Ql : List W → PH → Prop} {psw : LS} {g : GM} {te : EM} {L : List α} {enc u : α → W} (hl : L.length ≤ 1000000) (hf : L.length < fuel) (e : h[n]? = some (.lst (L.map enc))) (he : ∀ a ∈ L, ∃ ps1, g (enc a) psw = some ps1 ∧ ∀ Q : W → PH → Prop, Q (u a) h → (te ps1 h).To Q) (q : Ql (L.map u) h) :
    (lcGo (itL n fuel) g mYes te psw (itL n fuel).fuel 0 [] h).To Ql := by
  refine lc_live (items := L.map enc) (by simpa using hf) (fun i acc g' => acc = (L.take i).map u ∧ g' = h) (fun i acc g' z => by rw [z.2]; exact e) ⟨rfl, rfl⟩ ?_ ?_
  · rintro i w acc g' ei ⟨rfl, rfl⟩
    rw [List.getElem?_map] at ei
    obtain ⟨a, ea, rfl⟩ := Option.map_eq_some_iff.mp ei
    have hi := (List.getElem?_eq_some_iff.mp ea).1
    obtain ⟨ps1, e1, e2⟩ := he a (List.mem_of_getElem? ea)
    refine ⟨ps1, e1, ?_⟩
    rw [to_yes, Ite_true]
    refine e2 _ ⟨by simp; omega, ?_, rfl⟩
    rw [List.take_succ, ea]
    simp
  · rintro acc g' ⟨rfl, rfl⟩
    have : L.take (L.map enc).length = L := List.take_of_length_le (by simp)
    rw [this]
    exact q
theorem in_dkZ {l : List Nat} {u : Nat → W} {k t : Nat} {h : PH} (e : h[k]? = some (.dK (dkL l u))) : wIn (.int (t : Nat)) (.ref k) h = some (.bl (decide (t ∈ l)), h) := by
  simp only [wIn, inW, e, keyW, Option.map_some, get_dk]
  by_cases c : t ∈ l <;> simp [c]
theorem put_dkZ {l : List Nat} {u : Nat → W} {x : Nat} {w : W} (hx : x ∈ l) : putKW (dkL l u) (.inl (x : Int)) w = dkL l (upZ u x w) := by
  unfold putKW
  have h1 : (dkL l u).any (fun kv => decide (kv.1 = .inl (x : Int))) = true := by
    refine List.any_eq_true.mpr ⟨(.inl (x : Int), u x), List.mem_map.mpr ⟨x, hx, rfl⟩, by simp⟩
  rw [if_pos h1]
  unfold dkL
  rw [List.map_map]
  refine List.map_congr_left fun i _ => ?_
  simp only [Function.comp_apply]
  by_cases e : i = x
  · subst e
    simp [upZ_same]
  · rw [if_neg (fun z => e (by have : (i : Int) = x := Sum.inl.inj z; omega)), upZ_ne e]
def prW2 (k : Int × Int) : W := .tup [.int k.1, .int k.2]
theorem minPZ {l : List (Int × Int)} {h : PH} (hl : ∀ k ∈ l, 0 ≤ k.2 ∧ k.2 < 1000) (hne : l ≠ []) : ∃ k, k ∈ l ∧ (∀ x ∈ l, k.1 ≤ x.1) ∧ wMinP (l.map prW2) h = some (prW2 k, h) := by
  have e1 : ∀ l : List (Int × Int), prsW (l.map prW2) = some l := fun l => by
    induction l with
    | nil => rfl
    | cons a r ih =>
      simp only [List.map_cons, prW2, prsW] at ih ⊢
      rw [ih]
      rfl
  have sm : l.all smallP2 = true := by
    rw [List.all_eq_true]
    intro k hk
    have := hl k hk
    unfold smallP2
    rw [Bool.and_eq_true]
    exact ⟨decide_eq_true this.1, decide_eq_true this.2⟩
  cases em : minI (l.map codeP) with
  | none =>
    cases l with
    | nil => exact absurd rfl hne
    | cons a r => simp [minI] at em
  | some m =>
    obtain ⟨m1, m2⟩ := minI_is em
    obtain ⟨k, hk, ek⟩ := List.mem_map.mp m1
    have k2 := hl k hk
    unfold codeP at ek
    refine ⟨k, hk, fun x hx => ?_, ?_⟩
    · have := m2 _ (List.mem_map.mpr ⟨x, hx, rfl⟩)
      unfold codeP at this
      have := hl x hx
      omega
    · unfold wMinP
      rw [e1, Option.bind_some, if_pos sm, em, Option.map_some]
      have a : m / 1000 = k.1 := by omega
      have b : m % 1000 = k.2 := by omega
      rw [a, b]
      rfl
def skF (A : W) (Zs : List Nat) (k : Nat) : List (Str × W) := [("arena", A), ("sunk", .fix (nW Zs)), ("depths", .ref k)]
def SK (G : PH) (A : W) (Zs : List Nat) (d : Nat → Int) (e : PH) : PH := G ++ .ins "Sinking" (skF A Zs (G.length + 1)) :: .dK (dkL Zs fun r => .int (d r)) :: e
section
variable {rs : List Rm} {ks : List (Str × List Int)} {G : PH} {A : W} {Zs : List Nat} {d : Nat → Int} {p : Nat → Option Int} {e e2 : PH} {r : Nat} {o o2 : OB} {x : Int}
theorem SK_ins : (SK G A Zs d e)[G.length]? = some (.ins "Sinking" (skF A Zs (G.length + 1))) := by
  unfold SK
  rw [List.getElem?_append_right (Nat.le_refl _), Nat.sub_self]
  rfl
theorem SK_d : (SK G A Zs d e)[G.length + 1]? = some (.dK (dkL Zs fun r => .int (d r))) := by
  unfold SK
  rw [List.getElem?_append_right (by omega), show G.length + 1 - G.length = 1 by omega]
  rfl
theorem SK_app : SK G A Zs d e ++ e2 = SK G A Zs d (e ++ e2) := by simp [SK]
theorem SK_at : (SK G A Zs d (e ++ o :: e2))[(SK G A Zs d e).length]? = some o := by
  rw [← SK_app, List.getElem?_append_right (Nat.le_refl _), Nat.sub_self]
  rfl
theorem SK_put : (SK G A Zs d (e ++ o :: e2)).set (SK G A Zs d e).length o2 = SK G A Zs d (e ++ o2 :: e2) := by
  rw [← SK_app, List.set_append_right _ _ (Nat.le_refl _), Nat.sub_self, ← SK_app]
  rfl
theorem SK_set (hr : r ∈ Zs) (hl : Zs.length < 16777216) : setW (.ref (G.length + 1)) (.int (r : Nat)) (.int x) (SK G A Zs d e) = some (SK G A Zs (upZ d r x) e) := by
  rw [setW_dK SK_d (k := .inl (r : Int)) rfl (by simpa [dkL] using hl), put_dkZ hr]
  congr 1
  unfold SK
  rw [List.set_append_right _ _ (by omega), show G.length + 1 - G.length = 1 by omega]
  simp only [List.set_cons_succ, List.set_cons_zero]
  have : (upZ (fun r => W.int (d r)) r (.int x)) = fun r' => W.int (upZ d r x r') := by
    funext r'
    by_cases h : r' = r
    · subst h; rw [upZ_same, upZ_same]
    · rw [upZ_ne h, upZ_ne h]
  rw [this]
theorem sk_arena : fldW kc_arena "arena" (.ref G.length) (SK G A Zs d e) = some (A, SK G A Zs d e) := fldW_ins SK_ins (show ("Sinking" : Str) ∈ kc_arena from .tail _ (.head _))
theorem sk_sunk : fldW kc_sunk "sunk" (.ref G.length) (SK G A Zs d e) = some (.fix (nW Zs), SK G A Zs d e) := fldW_ins SK_ins (show ("Sinking" : Str) ∈ kc_sunk from .head _)
theorem sk_depths : fldW kc_depths "depths" (.ref G.length) (SK G A Zs d e) = some (.ref (G.length + 1), SK G A Zs d e) := fldW_ins SK_ins (show ("Sinking" : Str) ∈ kc_depths from .head _)
/-! ### __init__ -/
theorem qf2 {a b : W} : putFW "sunk" b [("arena", a)] = ([("arena", a), ("sunk", b)] : List (Str × W)) := by
  simp only [putFW]
  rw [if_neg (by decide)]
theorem qf3 {a b c : W} : putFW "depths" c [("arena", a), ("sunk", b)] = ([("arena", a), ("sunk", b), ("depths", c)] : List (Str × W)) := by
  simp only [putFW]
  rw [if_neg (by decide), if_neg (by decide)]
theorem siniZ {B : Int} {st : Rst} (hn : rs.length ≤ 600) (hG : G = PZ rs ks B st e) :
    (f_Sinking_ini [.ref G.length, .ref 0] (G ++ [.ins "Sinking" []])).To fun w g => w = .non ∧ g = SK G (encA rs ks) (snk rs st.p) (fun _ => 0) [] := by
  unfold f_Sinking_ini
  rw [run_to, show startW 4 [W.ref G.length, W.ref 0] = [some (.ref G.length), some (.ref 0), none, none] from rfl]
  unfold b_Sinking_ini
  have old : ∀ i, i < G.length → ∀ o : OB, (G ++ [o])[i]? = G[i]? := fun i hi o => List.getElem?_append_left hi
  have gl : 4 ≤ G.length := by rw [hG]; simp [PZ]
  have g0 : ∀ o : OB, (G ++ [o])[0]? = some (.ins "Raising" (pzF (encA rs ks) B st.c)) := fun o => by rw [old 0 (by omega), hG]; rfl
  have g1 : ∀ o : OB, (G ++ [o])[1]? = some (.lst (puL rs.length st.p)) := fun o => by rw [old 1 (by omega), hG]; rfl
  have at' : ∀ o : OB, (G ++ [o])[G.length]? = some o := fun o => by simp
  have set' : ∀ o o2 : OB, (G ++ [o]).set G.length o2 = G ++ [o2] := fun o o2 => by simp
  refine seq_go (ps1 := [some (.ref G.length), some (.ref 0), none, none]) (h1 := G ++ [.ins "Sinking" [("arena", encA rs ks)]]) (fun Q hQ => ?_) ?_
  · simp only [to_setfld, to_un, to_var]
    refine ⟨_, rfl, ?_⟩
    rw [fldW_ins (g0 _) (show ("Raising" : Str) ∈ kc_arena from .head _)]
    show PTo (some (encA rs ks, _)) _
    rw [pto_some]
    refine ⟨_, rfl, ?_⟩
    rw [setFW_ins (at' _) (show ("Sinking" : Str) ∈ kc_arena from .tail _ (.head _)) (by simp), oto_some, set']
    exact hQ
  refine seq_go (ps1 := [some (.ref G.length), some (.ref 0), none, none]) (h1 := G ++ [.ins "Sinking" [("arena", encA rs ks), ("sunk", .fix (nW (snk rs st.p)))]]) (fun Q hQ => ?_) ?_
  · obtain ⟨H, hH⟩ : ∃ H, H = G ++ [.ins "Sinking" [("arena", encA rs ks)]] := ⟨_, rfl⟩
    have h1 : H[1]? = some (.lst (puL rs.length st.p)) := by rw [hH]; exact g1 _
    have h0 : H[0]? = some (.ins "Raising" (pzF (encA rs ks) B st.c)) := by rw [hH]; exact g0 _
    rw [← hH, to_setfld, to_fix, to_lc, to_enum, to_un, to_var]
    refine ⟨_, rfl, ?_⟩
    rw [fldW_ins h0 (show ("Raising" : Str) ∈ kc_purses from .head _)]
    show PTo (some (W.ref 1, _)) _
    rw [pto_some, iterE_lst h1, oto_some]
    refine lc_enumL (items := puL rs.length st.p) (by rw [puL_len]; unfold big; omega) (fun i acc g => acc = nW ((List.range i).filter (isNn st.p)) ∧ g = H) (fun i acc g z => by rw [z.2]; exact h1) ⟨rfl, rfl⟩ ?_ ?_
    · rintro i w acc g ei ⟨rfl, rfl⟩
      have hi : i < rs.length := by
        have := (List.getElem?_eq_some_iff.mp ei).1
        rwa [puL_len] at this
      rw [puL_at hi] at ei
      cases ei
      refine ⟨_, rfl, ?_⟩
      have fm := filt_more (p := isNn st.p) (f := fun i : Nat => W.int (i : Nat)) (i := i)
      have accl : ((List.range i).filter (isNn st.p)).length ≤ 600 := by
        have := List.length_filter_le (isNn st.p) (List.range i)
        rw [List.length_range] at this
        omega
      simp [wipeW]
      rw [isnon_oW]
      show Ite (isNn st.p i) _ _
      unfold nW
      rw [fm]
      cases hp : isNn st.p i with
      | true => simp; omega
      | false => simp
    · rintro acc g ⟨rfl, rfl⟩
      rw [puL_len, to_var]
      refine ⟨_, rfl, ?_⟩
      rw [hH, setFW_ins (at' _) (show ("Sinking" : Str) ∈ kc_sunk from .head _) (by simp), oto_some, set', qf2]
      exact hQ
  have sl := snk_len (rs := rs) (p := st.p)
  obtain ⟨H, hH⟩ : ∃ H, H = G ++ [.ins "Sinking" [("arena", encA rs ks), ("sunk", .fix (nW (snk rs st.p)))]] := ⟨_, rfl⟩
  have hl : H.length = G.length + 1 := by rw [hH]; simp
  have hi : H[G.length]? = some (.ins "Sinking" [("arena", encA rs ks), ("sunk", .fix (nW (snk rs st.p)))]) := by rw [hH]; simp
  rw [← hH, to_setfld, to_onV, to_fix, to_lc, to_iter, to_un, to_var]
  refine ⟨_, rfl, ?_⟩
  rw [fldW_ins hi (show ("Sinking" : Str) ∈ kc_sunk from .head _)]
  show PTo (some (W.fix (nW (snk rs st.p)), _)) _
  rw [pto_some, iterOf_fix, oto_some]
  refine lc_map (L := snk rs st.p) (enc := fun i : Nat => W.int (i : Nat)) (u := fun i => .tup [.int (i : Nat), .int 0]) (by omega) (fun i hi => ⟨_, rfl, fun Q q => ?_⟩) ?_
  · simp [wipeW]
    exact q
  · rw [to_dictP, pairs_dk (u := fun _ => W.int 0), oto_some, merge_dk snk_nd, to_var]
    refine ⟨_, rfl, ?_⟩
    rw [setFW_ins (c := "Sinking") (fs := [("arena", encA rs ks), ("sunk", .fix (nW (snk rs st.p)))]) (by rw [List.getElem?_append_left (by omega)]; exact hi) (show ("Sinking" : Str) ∈ kc_depths from .head _) (by simp), oto_some, hl]
    refine ⟨rfl, ?_⟩
    have q3 := qf3 (a := encA rs ks) (b := .fix (nW (snk rs st.p))) (c := .ref (G.length + 1))
    rw [q3, hH]
    unfold SK skF
    simp
/-! ### due -/
def skI (rs : List Rm) (p : Nat → Option Int) (d : Nat → Int) (r i : Nat) : List (Int × Int) := ((List.range i).filter fun k => isNn p (tgZ rs r k)).map fun k => (svZ (wdZ rs p) d (tgZ rs r k) (prZ rs r k), ((k : Nat) : Int))
theorem skI_mem {i : Nat} {x : Int × Int} : x ∈ skI rs p d r i ↔ ∃ k, k < i ∧ p (tgZ rs r k) = none ∧ x = (svZ (wdZ rs p) d (tgZ rs r k) (prZ rs r k), ((k : Nat) : Int)) := by
  unfold skI
  rw [List.mem_map]
  constructor
  · rintro ⟨k, hk, rfl⟩
    obtain ⟨a, b⟩ := List.mem_filter.mp hk
    exact ⟨k, List.mem_range.mp a, Option.isNone_iff_eq_none.mp b, rfl⟩
  · rintro ⟨k, hk, hn, rfl⟩
    exact ⟨k, List.mem_filter.mpr ⟨List.mem_range.mpr hk, Option.isNone_iff_eq_none.mpr hn⟩, rfl⟩
theorem sdueZ (hg : GRs rs.length rs) (hn : rs.length ≤ 600) (hr : r < rs.length) (ne : ∃ k, k < (Mvz rs r).length ∧ p (tgZ rs r k) = none) {Q : W → PH → Prop}
    (q : ∀ b i e2, SDue rs p d r b i → Q (.tup [.int b, .int i]) (SK G (encA rs ks) (snk rs p) d (e ++ e2))) : (f_Sinking_due [.ref G.length, .int (r : Nat)] (SK G (encA rs ks) (snk rs p) d e)).To Q := by
  unfold f_Sinking_due
  rw [run_to, show startW 11 [W.ref G.length, W.int (r : Nat)] = [some (.ref G.length), some (.int (r : Nat)), none, none, none, none, none, none, none, none, none] from rfl]
  unfold b_Sinking_due
  have eR : rs.getD r (0, []) = (Ow rs r, Mvz rs r) := rfl
  have gr := grZ hg hr
  rw [eR] at gr
  have h24 : (Mvz rs r).length ≤ 24 := gr.2.2.1
  obtain ⟨Zs, hZ⟩ : ∃ Zs, Zs = snk rs p := ⟨_, rfl⟩
  have zl : Zs.length ≤ rs.length := by rw [hZ]; exact snk_len
  rw [← hZ] at q ⊢
  obtain ⟨A, hA⟩ : ∃ A, A = encA rs ks := ⟨_, rfl⟩
  rw [← hA] at q ⊢
  refine seq_go (ps1 := [some (.ref G.length), some (.int (r : Nat)), some (.int (Ow rs r)), some (encMs (Mvz rs r)), none, none, none, none, none, none, none]) (h1 := SK G A Zs d e) (fun Q hQ => ?_) ?_
  · rw [to_asg]
    simp only [to_op, to_un, to_var, to_C]
    refine ⟨_, rfl, ?_⟩
    rw [sk_arena, pto_some, hA, ix_A0, pto_some]
    refine ⟨_, rfl, ?_⟩
    rw [wIx_tup, rmZ hr, Option.map_some, pto_some, eR]
    simp [encR]
    rw [← hA]
    exact hQ
  obtain ⟨k, hk⟩ : ∃ k, k = (SK G A Zs d e).length := ⟨_, rfl⟩
  refine seq_go (ps1 := [some (.ref G.length), some (.int (r : Nat)), some (.int (Ow rs r)), some (encMs (Mvz rs r)), some (.ref k), none, none, none, none, none, none]) (h1 := SK G A Zs d (e ++ [.lst []])) (fun Q hQ => ?_) ?_
  · simp
    rw [SK_app, ← hk]
    exact hQ
  refine seq_cut (fun ps g => ∃ s5 s6 s7 s8 : Option W, ps = [some (.ref G.length), some (.int (r : Nat)), some (.int (Ow rs r)), some (encMs (Mvz rs r)), some (.ref k), s5, s6, s7, s8, none, none] ∧ g = SK G A Zs d (e ++ [.lst ((skI rs p d r (Mvz rs r).length).map prW2)])) ?_ ?_
  · rw [to_for]
    simp
    refine for_enum (fun i ps g => ∃ s5 s6 s7 s8 : Option W, ps = [some (.ref G.length), some (.int (r : Nat)), some (.int (Ow rs r)), some (encMs (Mvz rs r)), some (.ref k), s5, s6, s7, s8, none, none] ∧ g = SK G A Zs d (e ++ [.lst ((skI rs p d r i).map prW2)])) ⟨none, none, none, none, rfl, rfl⟩ ?_ ?_
    · rintro i w ps g ei ⟨s5, s6, s7, s8, rfl, rfl⟩
      rw [List.getElem?_map] at ei
      obtain ⟨m, em, rfl⟩ := Option.map_eq_some_iff.mp ei
      have hi := (List.getElem?_eq_some_iff.mp em).1
      have e1 : (Mvz rs r)[i] = m := (List.getElem?_eq_some_iff.mp em).2
      obtain ⟨mm, mt, mp⟩ := msz hi
      rw [e1] at mm mt mp
      have gm := gr.2.2.2 m mm
      have m0 : m.1 = (tgZ rs r i : Nat) := by
        have := gm.1
        omega
      refine ⟨_, rfl, ?_⟩
      obtain ⟨acc, hacc⟩ : ∃ acc, acc = (skI rs p d r i).map prW2 := ⟨_, rfl⟩
      have accl : acc.length ≤ 24 := by
        rw [hacc, List.length_map]
        unfold skI
        rw [List.length_map]
        have := List.length_filter_le (fun k => isNn p (tgZ rs r k)) (List.range i)
        rw [List.length_range] at this
        omega
      have more : (skI rs p d r (i + 1)).map prW2 = acc ++ (if isNn p (tgZ rs r i) then [prW2 (svZ (wdZ rs p) d (tgZ rs r i) (prZ rs r i), ((i : Nat) : Int))] else []) := by
        rw [hacc]
        unfold skI
        rw [List.map_map, List.map_map]
        exact filt_more (p := fun k => isNn p (tgZ rs r k)) (f := prW2 ∘ fun k => (svZ (wdZ rs p) d (tgZ rs r k) (prZ rs r k), ((k : Nat) : Int)))
      rw [more, ← hacc]
      have inZ : decide (tgZ rs r i ∈ Zs) = isNn p (tgZ rs r i) := by
        rw [hZ]
        unfold isNn
        cases hp : p (tgZ rs r i) with
        | none => exact decide_eq_true (snk_mem.mpr ⟨tgz_lt hg hr hi, hp⟩)
        | some v =>
          refine decide_eq_false fun z => ?_
          have := (snk_mem.mp z).2
          rw [hp] at this
          cases this
      rw [to_sif]
      simp only [to_mB, to_op, to_un, to_var]
      refine ⟨_, rfl, _, rfl, ?_⟩
      rw [sk_depths, pto_some, m0, in_dkZ SK_d, pto_some, bto_bl, inZ]
      cases hp : isNn p (tgZ rs r i) with
      | false =>
        rw [Ite_false, to_next]
        simp
      | true =>
        have hmem : tgZ rs r i ∈ Zs := by
          rw [hp] at inZ
          exact of_decide_eq_true inZ
        rw [Ite_true]
        simp only [to_drop, to_mt, to_var, to_cons, to_tup, to_nil, to_op, to_un, to_call, to_C]
        refine ⟨_, rfl, by rw [hk]; exact tyW_lst SK_at, _, rfl, ?_⟩
        rw [sk_depths, pto_some]
        refine ⟨_, rfl, ?_⟩
        rw [ix_dk SK_d hmem, pto_some]
        refine ⟨_, rfl, ?_⟩
        rw [sk_sunk, pto_some, wLen_fix, nW_len, pto_some, wAdd_int, pto_some]
        refine ⟨_, rfl, ?_⟩
        rw [wMul_int, if_pos (.inl (by omega)), pto_some, wSub_int, pto_some, wAdd_int, pto_some, wMax2_int, pto_some]
        refine ⟨_, rfl, by simp, ?_⟩
        rw [hk, wAppend_lst SK_at, if_pos (by omega), pto_some, SK_put]
        refine ⟨_, _, _, _, rfl, ?_⟩
        have ew : ((Zs.length : Nat) : Int) + 1 = wdZ rs p := by rw [hZ]; rfl
        rw [ew, mp]
        rfl
    · rintro ps g ⟨s5, s6, s7, s8, rfl, rfl⟩
      rw [List.length_map]
      exact ⟨⟨_, _, _, _, rfl⟩, rfl⟩
  rintro ps g ⟨s5, s6, s7, s8, rfl, rfl⟩
  obtain ⟨L, hL⟩ : ∃ L, L = skI rs p d r (Mvz rs r).length := ⟨_, rfl⟩
  have ll : L.length ≤ 24 := by
    rw [hL]
    unfold skI
    rw [List.length_map]
    have := List.length_filter_le (fun k => isNn p (tgZ rs r k)) (List.range (Mvz rs r).length)
    rw [List.length_range] at this
    omega
  have Lne : L ≠ [] := by
    obtain ⟨k, k1, k2⟩ := ne
    have : (svZ (wdZ rs p) d (tgZ rs r k) (prZ rs r k), ((k : Nat) : Int)) ∈ L := by rw [hL]; exact skI_mem.mpr ⟨k, k1, k2, rfl⟩
    exact fun z => by rw [z] at this; cases this
  rw [← hL]
  have lo : lstOf (.ref k) (SK G A Zs d (e ++ [.lst (L.map prW2)])) = some (L.map prW2) := by rw [hk]; exact lstOf_lst SK_at
  have it : iterOf big (.ref k) (SK G A Zs d (e ++ [.lst (L.map prW2)])) = some (itL k big) := by rw [hk]; simp only [iterOf, SK_at]
  rw [to_seq, to_sif]
  simp only [to_mB, to_op, to_var, to_C]
  refine ⟨_, rfl, ?_⟩
  rw [wEq_int, pto_some, bto_bl]
  refine .of (fun ho => ?_) fun ho => ?_
  · obtain ⟨x, x1, x2, x3⟩ := minPZ (l := L) (h := SK G A Zs d (e ++ [.lst (L.map prW2)])) (fun y hy => by
      rw [hL] at hy
      obtain ⟨j, j1, _, rfl⟩ := skI_mem.mp hy
      exact ⟨by show (0 : Int) ≤ j; omega, by show (j : Int) < 1000; omega⟩) Lne
    rw [to_ret, to_on, to_lstm, to_var]
    refine ⟨_, rfl, ?_⟩
    rw [lo, oto_some, x3, pto_some]
    rw [hL] at x1
    obtain ⟨j, j1, j2, rfl⟩ := skI_mem.mp x1
    refine q _ _ _ ⟨fun _ => ⟨j, j1, j2, rfl, rfl, fun j' h1 h2 => ?_⟩, fun z => absurd ho z⟩
    exact x2 _ (by rw [hL]; exact skI_mem.mpr ⟨j', h1, h2, rfl⟩)
  · rw [to_next]
    have ne1 : L.map Prod.fst ≠ [] := fun z => Lne (List.map_eq_nil_iff.mp z)
    obtain ⟨v, hv⟩ := maxI_of ne1
    obtain ⟨v1, v2⟩ := maxI_is hv
    refine seq_go (ps1 := [some (.ref G.length), some (.int (r : Nat)), some (.int (Ow rs r)), some (encMs (Mvz rs r)), some (.ref k), s5, s6, s7, s8, some (.int v), none]) (h1 := SK G A Zs d (e ++ [.lst (L.map prW2)])) (fun Q hQ => ?_) ?_
    · rw [to_asg, to_on, to_lc, to_iter, to_var]
      refine ⟨_, rfl, ?_⟩
      rw [it, oto_some]
      refine lc_mapZ (L := L) (enc := prW2) (u := fun x => W.int x.1) (by omega) (by unfold big; omega) (by rw [hk]; exact SK_at) (fun x _ => ⟨_, rfl, fun Q q => ?_⟩) ?_
      · simp [wipeW]
        exact q
      · have : (L.map fun x => W.int x.1) = (L.map Prod.fst).map W.int := by rw [List.map_map]; rfl
        rw [this, wMaxZ hv, pto_some, gN_is, oto_some]
        exact hQ
    obtain ⟨x, x1, rfl⟩ := List.mem_map.mp v1
    rw [hL] at x1
    obtain ⟨j, j1, j2, rfl⟩ := skI_mem.mp x1
    have fin := q (svZ (wdZ rs p) d (tgZ rs r j) (prZ rs r j)) (-1) [.lst (L.map prW2)] ⟨fun z => absurd z ho, fun _ => ⟨rfl, j, j1, j2, rfl, fun j' h1 h2 => v2 _ (List.mem_map.mpr ⟨_, by rw [hL]; exact skI_mem.mpr ⟨j', h1, h2, rfl⟩, rfl⟩)⟩⟩
    simp
    exact fin
end
end Mir

/-! Mir: repr of plain data with numbers of up to fifteen figures (shared) -/
namespace Mir
open PySem PySem.Spec PyProof.Rows L2
mutual
/-- small numbers, plain signs, nothing of the heap -/
def smV : W → Bool
  | .int i => decide (i.natAbs < 1000000000000000)
  | .str x => x.cps.toList.all fun c => decide (c < 16 ^ 8)
  | .tup xs => smVs xs
  | .fix xs => smVs xs
  | .ref _ => false
  | .exc _ => false
  | _ => true
def smVs : List W → Bool
  | [] => true
  | x :: xs => smV x && smVs xs
end
mutual
/-- how great at most -/
def wV : W → Nat
  | .int _ => 50
  | .str x => x.cps.size
  | .tup xs => wVs xs
  | .fix xs => wVs xs
  | _ => 0
def wVs : List W → Nat
  | [] => 0
  | x :: xs => wV x + 1 + wVs xs
end
mutual
theorem smV_of : ∀ w : W, smV w = true → (dT w).leavesShort 16 = true ∧ (dT w).showable = true ∧ (dT w).hasDict = false ∧ (dT w).weight ≤ wV w
  | .non, _ => ⟨rfl, rfl, rfl, by simp [dT, PyData.weight]⟩
  | .bl b, _ => ⟨rfl, rfl, rfl, by simp [dT, PyData.weight]⟩
  | .int i, h => by
    have h : i.natAbs < 1000000000000000 := by simpa [smV] using h
    have e := int_text_length_le10 (a := i) (k := 15) (by decide) (by simpa using h)
    have l2 : i.natAbs ≠ 0 → i.natAbs.log2 < 50 := fun z => (Nat.log2_lt z).mpr (by omega)
    refine ⟨?_, ?_, rfl, ?_⟩
    · have e2 : (PyData.shown (.int i)).length ≤ 16 := by
        show (Str.ofString (toString i)).length ≤ 16
        rw [PySem.ofString_length]
        exact e
      simp only [dT, PyData.leavesShort]
      exact decide_eq_true e2
    · simp only [dT, PyData.showable, decide_eq_true_eq]
      by_cases z : i.natAbs = 0
      · rw [z]; decide
      · have := l2 z
        omega
    · simp only [dT, PyData.weight, wV]
      split
      · omega
      · rename_i z
        have : i.natAbs ≠ 0 := fun q => z (by simpa using q)
        have := l2 this
        omega
  | .str x, h => ⟨by simpa [dT, PyData.leavesShort, smV] using h, rfl, rfl, by simp [dT, PyData.weight, wV]⟩
  | .ref _, h => by simp [smV] at h
  | .exc _, h => by simp [smV] at h
  | .tup xs, h => by
    obtain ⟨a, b, c, d⟩ := smVs_of xs (by simpa only [smV] using h)
    exact ⟨by simpa only [dT, PyData.leavesShort] using a, by simpa only [dT, PyData.showable] using b, by simpa only [dT, PyData.hasDict] using c, by simpa only [dT, PyData.weight, wV] using d⟩
  | .fix xs, h => by
    obtain ⟨a, b, c, d⟩ := smVs_of xs (by simpa only [smV] using h)
    exact ⟨by simpa only [dT, PyData.leavesShort] using a, by simpa only [dT, PyData.showable] using b, by simpa only [dT, PyData.hasDict] using c, by simpa only [dT, PyData.weight, wV] using d⟩
theorem smVs_of : ∀ ws : List W, smVs ws = true → PyData.leavesShortAll 16 (dTs ws) = true ∧ PyData.showableAll (dTs ws) = true ∧ PyData.hasDictAll (dTs ws) = false ∧ PyData.weightAll (dTs ws) ≤ wVs ws
  | [], _ => ⟨rfl, rfl, rfl, by simp [dTs, PyData.weightAll]⟩
  | x :: xs, h => by
    simp only [smVs, Bool.and_eq_true] at h
    obtain ⟨a, b, c, d⟩ := smV_of x h.1
    obtain ⟨a2, b2, c2, d2⟩ := smVs_of xs h.2
    exact ⟨by simp only [dTs, PyData.leavesShortAll, a, a2, Bool.and_self], by simp only [dTs, PyData.showableAll, b, b2, Bool.and_self], by simp only [dTs, PyData.hasDictAll, c, c2, Bool.or_self], by simp only [dTs, PyData.weightAll, wVs]; omega⟩
end
theorem repr_tupV {xs : List W} {n : Nat} {h : PH} (hp : plW n (.tup xs) = true) (hn : n ≤ 100) (hs : smV (.tup xs) = true) (hw : wV (.tup xs) ≤ 900000) : wRepr [.tup xs] h = some (.str (dT (.tup xs)).shown, h) := by
  obtain ⟨a, b, c⟩ := dat_pl (datL 4 h) n (.tup xs) hp
  obtain ⟨s1, s2, s3, s4⟩ := smV_of (.tup xs) hs
  have l := PyData.shown_le 16 (by decide) _ s1
  have e : dat h (.tup xs) = some (dT (.tup xs)) := a
  simp only [wRepr, e]
  rw [if_pos ⟨s2, s3, by omega, by omega⟩]
@[simp] theorem smV_int {i : Int} : smV (.int i) = decide (i.natAbs < 1000000000000000) := by simp only [smV]
@[simp] theorem smV_str {x : Str} : smV (.str x) = x.cps.toList.all fun c => decide (c < 16 ^ 8) := by simp only [smV]
@[simp] theorem smV_tup {xs : List W} : smV (.tup xs) = smVs xs := by simp only [smV]
@[simp] theorem smV_fix {xs : List W} : smV (.fix xs) = smVs xs := by simp only [smV]
@[simp] theorem smVs_nil : smVs [] = true := by simp only [smVs]
@[simp] theorem smVs_cons {x : W} {xs : List W} : smVs (x :: xs) = (smV x && smVs xs) := by simp only [smVs]
@[simp] theorem wV_int {i : Int} : wV (.int i) = 50 := by simp only [wV]
@[simp] theorem wV_str {x : Str} : wV (.str x) = x.cps.size := by simp only [wV]
@[simp] theorem wV_tup {xs : List W} : wV (.tup xs) = wVs xs := by simp only [wV]
@[simp] theorem wV_fix {xs : List W} : wV (.fix xs) = wVs xs := by simp only [wV]
@[simp] theorem wVs_nil : wVs [] = 0 := by simp only [wVs]
@[simp] theorem wVs_cons {x : W} {xs : List W} : wVs (x :: xs) = wV x + 1 + wVs xs := by simp only [wVs]
theorem smVs_map {α : Type} (f : α → W) (l : List α) (h : ∀ a ∈ l, smV (f a) = true) : smVs (l.map f) = true := by
  induction l with
  | nil => rfl
  | cons a r ih => simp only [List.map_cons, smVs_cons, h a List.mem_cons_self, ih fun b hb => h b (List.mem_cons_of_mem _ hb), Bool.and_self]
theorem wVs_map {α : Type} (f : α → W) (l : List α) (k : Nat) (h : ∀ a ∈ l, wV (f a) ≤ k) : wVs (l.map f) ≤ (k + 1) * l.length := by
  induction l with
  | nil => simp
  | cons a r ih =>
    have h1 := h a List.mem_cons_self
    have h2 := ih fun b hb => h b (List.mem_cons_of_mem _ hb)
    simp only [List.map_cons, wVs_cons, List.length_cons, Nat.mul_add, Nat.mul_one]
    omega
end Mir

/-! what repr tells of plain data is a sound text (shared) -/
namespace Mir
open PySem PySem.Spec PyProof.Rows L2
theorem ok_app {a b : Str} (ha : PyData.strOk a = true) (hb : PyData.strOk b = true) : PyData.strOk (a ++ b) = true := by
  unfold PyData.strOk at ha hb ⊢
  show (a.cps ++ b.cps).all _ = true
  rw [Array.all_append, ha, hb]
  rfl
theorem ok_of (s : String) : PyData.strOk (Str.ofString s) = true := by
  rw [Str.ofString_eq_toList]
  unfold PyData.strOk
  rw [← Array.all_toList, List.all_eq_true]
  intro c hc
  obtain ⟨x, hx, rfl⟩ := List.mem_map.mp (by simpa using hc)
  have h := x.valid
  simp only [UInt32.isValidChar, Nat.isValidChar] at h
  have : x.toNat = x.val.toNat := rfl
  exact decide_eq_true (by omega)
theorem ok_from : ∀ {ts : List Str} {k : Nat} {acc : Str}, PyData.strOk acc = true → (∀ t ∈ ts, PyData.strOk t = true) → PyData.strOk (textFrom k acc ts) = true
  | [], k, acc, h, _ => h
  | t :: r, k, acc, h, h2 => by
    show PyData.strOk (textFrom (k + 1) (acc ++ (if k > 0 then ", " else "" : String) ++ t) r) = true
    exact ok_from (ok_app (ok_app h (ok_of _)) (h2 t List.mem_cons_self)) fun x hx => h2 x (List.mem_cons_of_mem _ hx)
theorem ok_join {sep : Str} (hs : PyData.strOk sep = true) : ∀ {ts : List Str}, (∀ t ∈ ts, PyData.strOk t = true) → PyData.strOk (Str.join sep ts) = true
  | [], _ => by simp [Str.join, Str.empty, PyData.strOk]
  | [x], h => h x List.mem_cons_self
  | x :: y :: r, h => by
    show PyData.strOk (x ++ sep ++ Str.join sep (y :: r)) = true
    exact ok_app (ok_app (h x List.mem_cons_self) hs) (ok_join hs fun t ht => h t (List.mem_cons_of_mem _ ht))
mutual
/-- its texts are shown soundly -/
def okV : W → Bool
  | .str x => PyData.strOk (reprText x)
  | .tup xs => okVs xs
  | .fix xs => okVs xs
  | .ref _ => false
  | .exc _ => false
  | _ => true
def okVs : List W → Bool
  | [] => true
  | x :: xs => okV x && okVs xs
end
mutual
theorem okV_of : ∀ w : W, okV w = true → PyData.strOk (dT w).shown = true
  | .non, _ => ok_of _
  | .bl b, _ => by cases b <;> exact ok_of _
  | .int i, _ => by
    show PyData.strOk (PyData.shown (.int i)) = true
    unfold PyData.shown
    exact ok_of _
  | .str x, h => by
    show PyData.strOk (PyData.shown (.str x)) = true
    unfold PyData.shown
    simpa only [okV] using h
  | .ref _, h => by simp [okV] at h
  | .exc _, h => by simp [okV] at h
  | .tup xs, h => by
    show PyData.strOk (PyData.shown (.tuple (dTs xs))) = true
    unfold PyData.shown tupleText
    exact ok_app (ok_app (ok_of _) (ok_join (ok_of _) (okVs_of xs (by simpa only [okV] using h)))) (ok_of _)
  | .fix xs, h => by
    show PyData.strOk (PyData.shown (.list (dTs xs))) = true
    unfold PyData.shown listText
    exact ok_app (ok_from (ok_of _) (okVs_of xs (by simpa only [okV] using h))) (ok_of _)
theorem okVs_of : ∀ ws : List W, okVs ws = true → ∀ t ∈ PyData.shownAll (dTs ws), PyData.strOk t = true
  | [], _ => fun t ht => by simp [dTs, PyData.shownAll] at ht
  | x :: xs, h => fun t ht => by
    simp only [okVs, Bool.and_eq_true] at h
    simp only [dTs, PyData.shownAll, List.mem_cons] at ht
    rcases ht with rfl | ht
    · exact okV_of x h.1
    · exact okVs_of xs h.2 t ht
end
@[simp] theorem okV_int {i : Int} : okV (.int i) = true := by simp only [okV]
@[simp] theorem okV_non : okV .non = true := by simp only [okV]
@[simp] theorem okV_str {x : Str} : okV (.str x) = PyData.strOk (reprText x) := by simp only [okV]
@[simp] theorem okV_tup {xs : List W} : okV (.tup xs) = okVs xs := by simp only [okV]
@[simp] theorem okV_fix {xs : List W} : okV (.fix xs) = okVs xs := by simp only [okV]
@[simp] theorem okVs_nil : okVs [] = true := by simp only [okVs]
@[simp] theorem okVs_cons {x : W} {xs : List W} : okVs (x :: xs) = (okV x && okVs xs) := by simp only [okVs]
theorem okVs_map {α : Type} (f : α → W) (l : List α) (h : ∀ a ∈ l, okV (f a) = true) : okVs (l.map f) = true := by
  induction l with
  | nil => rfl
  | cons a r ih => simp only [List.map_cons, okVs_cons, h a List.mem_cons_self, ih fun b hb => h b (List.mem_cons_of_mem _ hb), Bool.and_self]
/-- repr of a tuple of plain data: some sound text -/
theorem repr_ok {xs : List W} {n : Nat} (hp : plW n (.tup xs) = true) (hn : n ≤ 100) (hs : smV (.tup xs) = true) (hw : wV (.tup xs) ≤ 900000) (ho : okV (.tup xs) = true) : ∃ t : Str, PyData.strOk t = true ∧ ∀ h, wRepr [.tup xs] h = some (.str t, h) :=
  ⟨_, okV_of _ ho, fun h => repr_tupV hp hn hs hw⟩
end Mir

/-! purses, walked: sink_rows, purse, purses (shared by laws 35-38) -/
namespace Mir
open PySem PySem.Spec PyProof.Rows L2
theorem sum_leZ {f : Nat → Nat} {c : Nat} : ∀ {L : List Nat}, (∀ r ∈ L, f r ≤ c) → (L.map f).sum ≤ L.length * c
  | [], _ => by simp
  | a :: L, h => by
    have := sum_leZ (L := L) fun r hr => h r (List.mem_cons_of_mem _ hr)
    have := h a List.mem_cons_self
    rw [List.map_cons, List.sum_cons, List.length_cons, Nat.add_mul]
    omega
theorem nW_at {Zs : List Nat} {i : Nat} {w : W} (e : (nW Zs)[i]? = some w) : ∃ r, Zs[i]? = some r ∧ w = .int (r : Nat) := by
  unfold nW at e
  rw [List.getElem?_map] at e
  obtain ⟨r, er, rfl⟩ := Option.map_eq_some_iff.mp e
  exact ⟨r, er, rfl⟩
theorem take_moreZ {Zs : List Nat} {i r : Nat} (e : Zs[i]? = some r) : Zs.take (i + 1) = Zs.take i ++ [r] := by
  rw [List.take_succ, e]
  rfl
def SEnd (rs : List Rm) (p : Nat → Option Int) (d : Nat → Int) : Prop := ∀ r, r ∈ snk rs p → ∀ b i, SDue rs p d r b i → b ≤ d r
def SMvs (rs : List Rm) (p : Nat → Option Int) (d mvs : Nat → Int) (r : Nat) : Prop := ∃ b, SDue rs p d r b (mvs r)
def sinkRow (d mvs : Nat → Int) (r : Nat) : W := .tup [.int (r : Nat), .int (0 - d r), .int (mvs r)]
section
variable {rs : List Rm} {ks : List (Str × List Int)} {G : PH} {p : Nat → Option Int} {d h : Nat → Int} {e : PH} {r : Nat} {b b' i i' : Int}
theorem sdue_one (D : SDue rs p d r b i) (D' : SDue rs p d r b' i') : b = b' := by
  by_cases ho : Ow rs r = 1
  · obtain ⟨k, h1, h2, _, h4, h5⟩ := D.his ho
    obtain ⟨k', g1, g2, _, g4, g5⟩ := D'.his ho
    have := h5 k' g1 g2
    have := g5 k h1 h2
    omega
  · obtain ⟨_, k, h1, h2, h4, h5⟩ := D.mine ho
    obtain ⟨_, k', g1, g2, g4, g5⟩ := D'.mine ho
    have := h5 k' g1 g2
    have := g5 k h1 h2
    omega
def SI' (rs : List Rm) (p : Nat → Option Int) (h d : Nat → Int) : Prop := ∀ r, r ∈ snk rs p → 0 ≤ d r ∧ d r ≤ h r
def msS (L : List Nat) (h d : Nat → Int) : Nat := (L.map fun r => (h r - d r).toNat).sum
theorem ms_less {L : List Nat} {x : Int} (hL : ∀ r ∈ L, d r ≤ h r) (hr : r ∈ L) (h1 : d r < x) (h2 : x ≤ h r) : msS L h (upZ d r x) < msS L h d := by
  refine sum_lt (x := r) (fun y hy => ?_) hr ?_
  · by_cases ey : y = r
    · subst ey
      rw [upZ_same]
      omega
    · rw [upZ_ne ey]
      exact Nat.le_refl _
  · rw [upZ_same]
    omega
abbrev F_sink : FM := f_Sinking_sink_rows f_Sinking_due
def sko (rs : List Rm) (ks : List (Str × List Int)) (G : PH) (p : Nat → Option Int) (h : Nat → Int) (v : Nat) (ps : LS) (g : PH) : Prop := ∃ (d : Nat → Int) (e : PH) (f : Bool) (s2 s3 : Option W), ps = [some (.ref G.length), some (.bl f), s2, s3] ∧ g = SK G (encA rs ks) (snk rs p) d e ∧ SI' rs p h d ∧ v = msS (snk rs p) h d + (if f then 1 else 0) ∧ (f = false → SEnd rs p d)
def skn (rs : List Rm) (ks : List (Str × List Int)) (G : PH) (p : Nat → Option Int) (h d : Nat → Int) (i : Nat) (ps : LS) (g : PH) : Prop := ∃ (d' : Nat → Int) (e : PH) (f : Bool) (s2 s3 : Option W), ps = [some (.ref G.length), some (.bl f), s2, s3] ∧ g = SK G (encA rs ks) (snk rs p) d' e ∧ SI' rs p h d' ∧ (f = false → d' = d ∧ ∀ r, r ∈ (snk rs p).take i → ∀ b i, SDue rs p d r b i → b ≤ d r) ∧ (f = true → msS (snk rs p) h d' < msS (snk rs p) h d)
theorem sinkrowsZ (hg : GRs rs.length rs) (hn : rs.length ≤ 24) (hs : PoS (notO (gown rs)) (mvB (wdZ rs p) (mvZ rs p)) (fun r => r ∈ snk rs p) h) (hb : ∀ r, r ∈ snk rs p → 0 ≤ h r ∧ h r ≤ 600000) (ne : ∀ r, r ∈ snk rs p → ∃ k, k < (Mvz rs r).length ∧ p (tgZ rs r k) = none)
    {Q : W → PH → Prop} (q : ∀ d mvs e2, SI' rs p h d → SEnd rs p d → (∀ r, r ∈ snk rs p → SMvs rs p d mvs r) → Q (.tup ((snk rs p).map (sinkRow d mvs))) (SK G (encA rs ks) (snk rs p) d e2)) :
    (f_Sinking_sink_rows f_Sinking_due [.ref G.length] (SK G (encA rs ks) (snk rs p) (fun _ => 0) e)).To Q := by
  unfold f_Sinking_sink_rows
  rw [run_to, show startW 4 [W.ref G.length] = [some (.ref G.length), none, none, none] from rfl]
  unfold b_Sinking_sink_rows
  have sl := snk_len (rs := rs) (p := p)
  have lt : ∀ r, r ∈ snk rs p → r < rs.length := fun r hr => (snk_mem.mp hr).1
  have h00 : ∀ r, r ∈ snk rs p → 0 ≤ h r := fun r hr => (hb r hr).1
  refine seq_go (ps1 := [some (.ref G.length), some (.bl true), none, none]) (h1 := SK G (encA rs ks) (snk rs p) (fun _ => 0) e) (fun K hK => by simp; exact hK) ?_
  refine seq_cut (fun ps g => ∃ (d : Nat → Int) (e : PH) (s2 s3 : Option W), ps = [some (.ref G.length), some (.bl false), s2, s3] ∧ g = SK G (encA rs ks) (snk rs p) d e ∧ SI' rs p h d ∧ SEnd rs p d) ?_ ?_
  · rw [to_while]
    refine while_inv (sko rs ks G p h) ?_ big (msS (snk rs p) h (fun _ => 0) + 1) _ _ ?_ ⟨fun _ => 0, e, true, none, none, rfl, rfl, fun r hr => ⟨Int.le_refl _, h00 r hr⟩, rfl, fun z => by cases z⟩
    · rintro v ps g ⟨d, e, f, s2, s3, rfl, rfl, I, rfl, hf⟩
      cases f with
      | false =>
        rw [to_tru, to_var]
        refine ⟨_, rfl, ?_⟩
        show OTo (some false) _
        rw [oto_some, Ite_false]
        exact ⟨d, e, _, _, rfl, rfl, I, hf rfl⟩
      | true =>
        rw [to_tru, to_var]
        refine ⟨_, rfl, ?_⟩
        show OTo (some true) _
        rw [oto_some, Ite_true]
        refine seq_go (ps1 := [some (.ref G.length), some (.bl false), s2, s3]) (h1 := SK G (encA rs ks) (snk rs p) d e) (fun K hK => by simp; exact hK) ?_
        rw [to_for, to_iter, to_un, to_var]
        refine ⟨_, rfl, ?_⟩
        rw [sk_sunk, pto_some, iterOf_fix, oto_some]
        refine for_items (skn rs ks G p h d) ⟨d, e, false, _, _, rfl, rfl, I, fun _ => ⟨rfl, fun r hr => by simp at hr⟩, fun z => by cases z⟩ ?_ fun ps g z => ?_
        · rintro i w ps g ei ⟨d', e, f, s2, s3, rfl, rfl, I', h1, h2⟩
          obtain ⟨r, er, rfl⟩ := nW_at ei
          have hr := List.mem_of_getElem? er
          have tk := take_moreZ er
          have ow := ow_01 hg (lt r hr)
          refine ⟨_, rfl, ?_⟩
          refine seq_op fun K hK => ?_
          rw [to_asg, to_op, to_mth, to_var]
          refine ⟨_, rfl, insOf_ins SK_ins rfl, ?_⟩
          simp only [to_cons, to_var, to_nil]
          refine ⟨_, rfl, rfl, ?_⟩
          refine sdueZ hg (by omega) (lt r hr) (ne r hr) fun b k e2 D => ?_
          rw [to_C, wIx_tup, at0, Option.map_some, pto_some, gN_is, oto_some]
          refine hK _ _ ?_
          clear hK K
          generalize e ++ e2 = e
          have bh := due_pot hs h00 (fun r hr => (I' r hr).2) hr ow D
          rw [to_sif]
          simp only [to_mB, to_op, to_un, to_var]
          refine ⟨_, rfl, _, rfl, ?_⟩
          rw [sk_depths, pto_some]
          refine ⟨_, rfl, ?_⟩
          rw [ix_dk SK_d hr, pto_some, wGt_int, pto_some, bto_bl]
          refine .of (fun hlt => ?_) fun hlt => ?_
          · refine seq_go (ps1 := [some (.ref G.length), some (.bl f), some (.int (r : Nat)), some (.int b)]) (h1 := SK G (encA rs ks) (snk rs p) (upZ d' r b) e) (fun K hK => ?_) ?_
            · simp only [to_setix, to_var, to_un]
              refine ⟨_, rfl, _, rfl, ?_⟩
              rw [sk_depths, pto_some]
              refine ⟨_, rfl, ?_⟩
              rw [SK_set hr (by omega), oto_some]
              exact hK
            · rw [to_asg, to_C, gN_is, oto_some]
              have m1 := ms_less (L := snk rs p) (h := h) (fun r hr => (I' r hr).2) hr hlt bh.2
              refine ⟨_, e, true, _, _, rfl, rfl, fun x hx => ?_, fun z => (by cases z), fun _ => ?_⟩
              · by_cases ex : x = r
                · subst ex
                  rw [upZ_same]
                  exact bh
                · rw [upZ_ne ex]
                  exact I' x hx
              · cases f with
                | false =>
                  obtain ⟨a, _⟩ := h1 rfl
                  rw [← a]
                  exact m1
                | true => exact Nat.lt_trans m1 (h2 rfl)
          · rw [to_next]
            refine ⟨d', e, f, _, _, rfl, rfl, I', fun z => ?_, h2⟩
            obtain ⟨a, c⟩ := h1 z
            refine ⟨a, fun x hx b' k' D' => ?_⟩
            rw [tk] at hx
            rcases List.mem_append.mp hx with hx | hx
            · exact c x hx b' k' D'
            · rw [List.mem_singleton.mp hx] at D' ⊢
              rw [a] at D hlt
              have := sdue_one D D'
              omega
        · obtain ⟨d', e, f, s2, s3, rfl, rfl, I', h1, h2⟩ := z
          cases f with
          | false =>
            obtain ⟨a, c⟩ := h1 rfl
            subst a
            rw [nW_len, List.take_length] at c
            exact ⟨msS (snk rs p) h d', by simp, d', e, false, _, _, rfl, rfl, I', by simp, fun _ => c⟩
          | true =>
            have := h2 rfl
            exact ⟨msS (snk rs p) h d' + 1, by simp; omega, d', e, true, _, _, rfl, rfl, I', by simp, fun z => by cases z⟩
    · have h1 : msS (snk rs p) h (fun _ => 0) ≤ (snk rs p).length * 600000 := sum_leZ fun r hr => by
        have := (hb r hr).2
        show (h r - 0).toNat ≤ 600000
        omega
      unfold big
      omega
  rintro ps g ⟨d, e, s2, s3, rfl, rfl, I, S⟩
  rw [to_ret, to_on, to_lc, to_iter, to_un, to_var]
  refine ⟨_, rfl, ?_⟩
  rw [sk_sunk, pto_some, iterOf_fix, oto_some]
  refine lc_items (fun i acc g => ∃ mvs e, (∀ r, r ∈ (snk rs p).take i → SMvs rs p d mvs r) ∧ acc = ((snk rs p).take i).map (sinkRow d mvs) ∧ g = SK G (encA rs ks) (snk rs p) d e) ⟨fun _ => 0, e, fun r hr => by simp at hr, rfl, rfl⟩ ?_ ?_
  · rintro i w acc g ei ⟨mvs, e, hm, rfl, rfl⟩
    obtain ⟨r, er, rfl⟩ := nW_at ei
    have hr := List.mem_of_getElem? er
    have tk := take_moreZ er
    have hil := (List.getElem?_eq_some_iff.mp er).1
    refine ⟨_, rfl, ?_⟩
    rw [to_yes, Ite_true, to_tup]
    simp only [wipeW]
    simp only [to_cons, to_var, to_nil, to_op, to_C, to_un]
    refine ⟨_, rfl, _, rfl, ?_⟩
    rw [sk_depths, pto_some]
    refine ⟨_, rfl, ?_⟩
    rw [ix_dk SK_d hr, pto_some, wSub_int, pto_some, to_mth, to_var]
    refine ⟨_, rfl, insOf_ins SK_ins rfl, ?_⟩
    simp only [to_cons, to_var, to_nil]
    refine ⟨_, rfl, rfl, ?_⟩
    refine sdueZ hg (by omega) (lt r hr) (ne r hr) fun b k e2 D => ?_
    rw [wIx_tup, at1, Option.map_some, pto_some]
    have nin : r ∉ (snk rs p).take i := by
      have := (List.take_sublist (i + 1) (snk rs p)).nodup (snk_nd (rs := rs) (p := p))
      rw [tk, List.nodup_append] at this
      exact fun z => this.2.2 r z r (List.mem_singleton.mpr rfl) rfl
    refine ⟨by simp, by rw [List.length_map, List.length_take]; omega, upZ mvs r k, _, fun x hx => ?_, ?_, rfl⟩
    · rw [tk] at hx
      rcases List.mem_append.mp hx with hx | hx
      · have ex : x ≠ r := fun z => nin (z ▸ hx)
        obtain ⟨b', hb'⟩ := hm x hx
        exact ⟨b', by rw [upZ_ne ex]; exact hb'⟩
      · rw [List.mem_singleton.mp hx]
        exact ⟨b, by rw [upZ_same]; exact D⟩
    · rw [tk, List.map_append]
      congr 1
      · refine List.map_congr_left fun x hx => ?_
        have ex : x ≠ r := fun z => nin (z ▸ hx)
        unfold sinkRow
        rw [upZ_ne ex]
      · unfold sinkRow
        rw [List.map_cons, List.map_nil, upZ_same]
  · rintro acc g ⟨mvs, e, hm, rfl, rfl⟩
    rw [nW_len, List.take_length] at hm ⊢
    rw [wTupQ_is, pto_some]
    exact q d mvs e I S hm
/-! ### small arenas -/
theorem sml_rm (hs : SmlZ rs) (hr : r < rs.length) {k : Nat} (hk : k < (Mvz rs r).length) : -30 ≤ prZ rs r k ∧ prZ rs r k ≤ 30 := by
  obtain ⟨a, _, b⟩ := msz hk
  have e1 : rs.getD r (0, []) = rs[r] := by simp [List.getD, List.getElem?_eq_getElem hr]
  have e3 : Mvz rs r = rs[r].2 := by unfold Mvz; rw [e1]
  have key : ∀ m ∈ Mvz rs r, -30 ≤ m.2.1 ∧ m.2.1 ≤ 30 := fun m hm => by
    rw [e3] at hm
    exact hs.2 _ (List.getElem_mem hr) m hm
  rw [← b]
  exact key _ a
theorem bnd_is (hs : SmlZ rs) : 0 ≤ bndZ rs ∧ bndZ rs ≤ 690 := by
  have h1 := most_le (rs := rs) (X := 30) (by decide) fun r hr x hx => (hs.2 r hr x hx).2
  have h0 := (mostW (rs := rs)).1
  have hn := hs.1
  unfold bndZ
  refine ⟨Int.mul_nonneg (by omega) h0, ?_⟩
  have a : ((rs.length - 1 : Nat) : Int) * mostZ rs ≤ ((rs.length - 1 : Nat) : Int) * 30 := Int.mul_le_mul_of_nonneg_left h1 (by omega)
  omega
/-- what purse knows at its end -/
structure PurR (rs : List Rm) (st : Rst) (d mvs : Nat → Int) : Prop where
  re : RaE rs (bndZ rs) st
  db : ∀ r, r ∈ snk rs st.p → 0 ≤ d r ∧ d r ≤ 20000
  de : SEnd rs st.p d
  dm : ∀ r, r ∈ snk rs st.p → SMvs rs st.p d mvs r
def sinksW (rs : List Rm) (st : Rst) (d mvs : Nat → Int) : W := .tup [.str "sinks", .tup ((snk rs st.p).map (sinkRow d mvs))]
def purseW (rs : List Rm) (st : Rst) (d mvs : Nat → Int) (r : Nat) : W := match st.p r with
  | none => .tup [.tup [.str "never"], .tup [sinksW rs st d mvs]]
  | some v => .tup [.tup [.str "purse", .int v], .tup [.tup [.str "purses", .tup ((idx (inP st.p) rs.length).map (mineRow rs (bndZ rs) st.p))], .tup [.str "needs", .tup ((idx (inP st.p) rs.length).map (needRow rs st))], sinksW rs st d mvs]]
theorem needZ {i : Nat} (hi : i < rs.length) (hl : rs.length ≤ 600) {hp : PH} {Q : W → PH → Prop} (q : Q .non hp) : (f_need_room f_is_among [encA rs ks, .int (i : Nat)] hp).To Q := by
  unfold f_need_room
  rw [run_to, show startW 2 [encA rs ks, W.int (i : Nat)] = [some (encA rs ks), some (.int (i : Nat))] from rfl]
  unfold b_need_room
  rw [to_sif]
  simp [f_is_among]
  rw [run_to, show startW 3 [W.int (i : Nat), W.int 0, W.int ((rs.length : Int) - 1)] = [some (W.int (i : Nat)), some (W.int 0), some (W.int ((rs.length : Int) - 1))] from rfl]
  unfold b_is_among
  simp
  exact .yes (by omega) q
theorem raisingZ (hg : GRs rs.length rs) (hs : SmlZ rs) (h1 : 1 ≤ rs.length) {ps : LS} {m : EM} (hm : ∀ Q : W → PH → Prop, Q (encA rs ks) [] → (m ps []).To Q) {Q : W → PH → Prop} (q : ∀ st e2, RaE rs (bndZ rs) st → Q (.ref 0) (PZ rs ks (bndZ rs) st e2)) :
    ((mMth0 "Raising" "raise_all" (f_Raising_raise_all F_room) (mMake "Raising" 2 f_Raising_ini (mCons m mNil))) ps []).To Q := by
  have hn := hs.1
  have bd := bnd_is hs
  rw [to_mth0, to_make, to_cons]
  refine hm _ ?_
  rw [to_nil]
  refine ⟨rfl, (riniZ (by omega) h1 hg).mono fun w g z => ?_⟩
  obtain ⟨rfl, rfl⟩ := z
  refine ⟨rfl, insOf_ins PZ_ins rfl, ?_⟩
  refine raiseallZ hg (by omega) bd.1 ?_ q
  have : ((rs.length : Nat) : Int) * (bndZ rs + 1) ≤ 24 * (bndZ rs + 1) := Int.mul_le_mul_of_nonneg_right (by omega) (by omega)
  omega
abbrev F_purses : FM := f_purses f_need_small (f_Raising_raise_all F_room) f_Raising_ini
abbrev F_purse : FM := f_purse (f_need_room f_is_among) f_need_small (f_Raising_raise_all F_room) f_Raising_ini F_sink f_Sinking_ini (f_purse_rows (f_Raising_due f_Raising_wanted)) f_need_rows
theorem purses_run (hg : GRs rs.length rs) (hs : SmlZ rs) (h1 : 1 ≤ rs.length) : (F_purses [encA rs ks] []).To fun w g => ∃ st, RaE rs (bndZ rs) st ∧ w = .tup (puL rs.length st.p) := by
  unfold F_purses f_purses
  rw [run_to, show startW 1 [encA rs ks] = [some (encA rs ks)] from rfl]
  unfold b_purses
  refine seq_go (ps1 := [some (encA rs ks)]) (h1 := []) (fun Q hQ => ?_) ?_
  · rw [to_drop, to_fn]
    simp only [to_cons, to_var, to_nil]
    exact ⟨_, rfl, rfl, needsZ hg hs hQ⟩
  rw [to_ret, to_on, to_seqm, to_un]
  refine raisingZ hg hs h1 (fun Q q => by rw [to_var]; exact ⟨_, rfl, q⟩) fun st e R => ?_
  rw [pz_purses, pto_some, seqOf_lst PZ_p, oto_some, wTupQ_is, pto_some]
  exact ⟨st, R, rfl⟩
theorem purse_run (hg : GRs rs.length rs) (hs : SmlZ rs) (hr : r < rs.length) : (F_purse [encA rs ks, .int (r : Nat)] []).To fun w g => ∃ st d mvs, PurR rs st d mvs ∧ w = purseW rs st d mvs r := by
  have h1 : 1 ≤ rs.length := by omega
  have hn := hs.1
  have bd := bnd_is hs
  unfold F_purse f_purse
  rw [run_to, show startW 5 [encA rs ks, W.int (r : Nat)] = [some (encA rs ks), some (.int (r : Nat)), none, none, none] from rfl]
  unfold b_purse
  refine seq_go (ps1 := [some (encA rs ks), some (.int (r : Nat)), none, none, none]) (h1 := []) (fun Q hQ => ?_) ?_
  · rw [to_drop, to_fn]
    simp only [to_cons, to_var, to_nil]
    exact ⟨_, rfl, _, rfl, rfl, needZ hr (by omega) hQ⟩
  refine seq_go (ps1 := [some (encA rs ks), some (.int (r : Nat)), none, none, none]) (h1 := []) (fun Q hQ => ?_) ?_
  · rw [to_drop, to_fn]
    simp only [to_cons, to_var, to_nil]
    exact ⟨_, rfl, rfl, needsZ hg hs hQ⟩
  refine seq_op fun K hK => ?_
  rw [to_asg]
  refine raisingZ hg hs h1 (fun Q q => by rw [to_var]; exact ⟨_, rfl, q⟩) fun st e R => ?_
  rw [gN_is, oto_some]
  refine hK _ _ ?_
  clear hK K
  have lw : wdZ rs st.p ≤ 25 := by
    have := snk_len (rs := rs) (p := st.p)
    unfold wdZ
    omega
  have w0 : 0 ≤ wdZ rs st.p := by unfold wdZ; omega
  obtain ⟨h, hh, hb⟩ := sink_pot hg R mostW rfl (X := 30) (by decide) fun r hr k hk => (sml_rm hs hr hk).1
  have hb2 : ∀ r, r ∈ snk rs st.p → 0 ≤ h r ∧ h r ≤ 20000 := fun r hr => by
    obtain ⟨a, b⟩ := hb r hr
    refine ⟨a, ?_⟩
    have c : ((rs.length - 1 : Nat) : Int) * (1 + wdZ rs st.p * 30) ≤ 23 * (1 + wdZ rs st.p * 30) := Int.mul_le_mul_of_nonneg_right (by omega) (by omega)
    omega
  have ne : ∀ r, r ∈ snk rs st.p → ∃ k, k < (Mvz rs r).length ∧ st.p (tgZ rs r k) = none := fun r hr => by
    obtain ⟨a, b⟩ := snk_mem.mp hr
    obtain ⟨c1, c2⟩ := sunk_close hg R mostW rfl a b
    by_cases ho : Ow rs r = 0
    · obtain ⟨x, y⟩ := c1 ho
      exact ⟨0, List.length_pos_iff.mpr x, y 0 (List.length_pos_iff.mpr x)⟩
    · exact c2 ho
  obtain ⟨G, hG⟩ : ∃ G, G = PZ rs ks (bndZ rs) st e := ⟨_, rfl⟩
  show (sSeq _ _ [some (encA rs ks), some (.int (r : Nat)), some (.ref 0), none, none] (PZ rs ks (bndZ rs) st e)).To _ _ _ _
  rw [← hG]
  refine seq_op fun K hK => ?_
  rw [to_asg, to_tup, to_cons, to_C, to_cons, to_mth0, to_make, to_cons, to_var]
  refine ⟨_, rfl, ?_⟩
  rw [to_nil]
  refine ⟨rfl, (siniZ (by omega) hG).mono fun w g z => ?_⟩
  obtain ⟨rfl, rfl⟩ := z
  refine ⟨rfl, insOf_ins SK_ins rfl, ?_⟩
  refine sinkrowsZ hg hn hh (fun r hr => ⟨(hb2 r hr).1, by have := (hb2 r hr).2; omega⟩) ne fun d mvs e2 I S M => ?_
  rw [to_nil]
  refine ⟨by simp, ?_⟩
  rw [gN_is, oto_some]
  refine hK _ _ ?_
  clear hK K
  have PR : PurR rs st d mvs := ⟨R, fun r hr => ⟨(I r hr).1, Int.le_trans (I r hr).2 (hb2 r hr).2⟩, S, M⟩
  obtain ⟨e3, he3⟩ : ∃ e3, SK G (encA rs ks) (snk rs st.p) d e2 = PZ rs ks (bndZ rs) st e3 := ⟨_, by rw [hG]; unfold SK; rw [PZ_app]⟩
  show (sSeq _ _ [some (encA rs ks), some (.int (r : Nat)), some (.ref 0), some (sinksW rs st d mvs), none] (SK G (encA rs ks) (snk rs st.p) d e2)).To _ _ _ _
  rw [he3]
  clear he3
  have ix : ∀ e, wIx (.ref 1) (.int (r : Nat)) (PZ rs ks (bndZ rs) st e) = some (oW (st.p r), PZ rs ks (bndZ rs) st e) := fun e => by
    rw [wIx_lst PZ_p, puL_get hr]
    rfl
  obtain ⟨SW, hSW⟩ : ∃ SW, SW = sinksW rs st d mvs := ⟨_, rfl⟩
  rw [← hSW]
  cases hp : st.p r with
  | none =>
    rw [to_seq, to_sif]
    simp only [to_mB, to_op, to_un, to_var]
    refine ⟨_, rfl, ?_⟩
    rw [pz_purses, pto_some]
    refine ⟨_, rfl, ?_⟩
    rw [ix, pto_some, to_C, wIs_non, pto_some, bto_bl, isnon_oW, hp]
    simp
    refine ⟨st, d, mvs, PR, ?_⟩
    unfold purseW
    rw [hp, hSW]
  | some v =>
    refine seq_go (ps1 := [some (encA rs ks), some (.int (r : Nat)), some (.ref 0), some SW, none]) (h1 := PZ rs ks (bndZ rs) st e3) (fun Q hQ => ?_) ?_
    · rw [to_sif]
      simp only [to_mB, to_op, to_un, to_var]
      refine ⟨_, rfl, ?_⟩
      rw [pz_purses, pto_some]
      refine ⟨_, rfl, ?_⟩
      rw [ix, pto_some, to_C, wIs_non, pto_some, bto_bl, isnon_oW, hp]
      simp
      exact hQ
    refine seq_op fun K hK => ?_
    rw [to_asg, to_tup, to_cons, to_tup, to_cons, to_C, to_cons, to_fn]
    simp only [to_cons, to_var, to_nil]
    refine ⟨_, rfl, rfl, ?_⟩
    refine mineRowsZ hg (by omega) fun e4 => ?_
    refine ⟨by simp, ?_⟩
    rw [to_tup, to_cons, to_C, to_cons, to_fn]
    simp only [to_cons, to_var, to_nil]
    refine ⟨_, rfl, rfl, ?_⟩
    refine needRowsZ hg (by omega) fun e5 => ?_
    refine ⟨by simp, _, rfl, by simp, ?_⟩
    rw [gN_is, oto_some]
    refine hK _ _ ?_
    clear hK K
    rw [to_ret, to_tup, to_cons, to_tup, to_cons, to_C, to_cons, to_op, to_un, to_var]
    refine ⟨_, rfl, ?_⟩
    rw [pz_purses, pto_some, to_var]
    refine ⟨_, rfl, ?_⟩
    rw [ix, pto_some, hp]
    simp only [to_nil, to_cons, to_var]
    refine ⟨by simp, _, rfl, by simp, ?_⟩
    refine ⟨st, d, mvs, PR, ?_⟩
    unfold purseW
    rw [hp, hSW]
    rfl
end
end Mir

/-! purses: what is told, as text; on any heap (shared by laws 35-38) -/
namespace Mir
open PySem PySem.Spec PyProof.Rows L2
def wordOkZ (x : Str) : Bool := PyData.strOk x && (x.cps.toList.all fun c => decide (c < 16 ^ 8)) && decide (x.cps.size ≤ 10) && PyData.strOk (reprText x)
theorem wordOk_ofZ {x : Str} (h : wordOkZ x = true) : PyData.strOk x = true ∧ (x.cps.toList.all fun c => decide (c < 16 ^ 8)) = true ∧ x.cps.size ≤ 10 ∧ PyData.strOk (reprText x) = true := by
  unfold wordOkZ at h
  simp only [Bool.and_eq_true] at h
  exact ⟨h.1.1.1, h.1.1.2, of_decide_eq_true h.1.2, h.2⟩
theorem rows_okZ {α : Type} (f : α → W) (l : List α) (n m : Nat) (hl : l.length ≤ m) (h : ∀ a ∈ l, ∃ ns : List Int, f a = .tup (ns.map W.int) ∧ ns.length ≤ n ∧ ∀ i ∈ ns, i.natAbs < 1000000000000000) :
    plW 2 (.tup (l.map f)) = true ∧ smV (.tup (l.map f)) = true ∧ wV (.tup (l.map f)) ≤ (51 * n + 1) * m ∧ okV (.tup (l.map f)) = true := by
  refine ⟨?_, ?_, ?_, ?_⟩
  · rw [pl_tup]
    refine pls_map _ _ fun a ha => ?_
    obtain ⟨ns, e, _, _⟩ := h a ha
    rw [e, pl_tup]
    exact pls_ints _
  · rw [smV_tup]
    refine smVs_map _ _ fun a ha => ?_
    obtain ⟨ns, e, _, hb⟩ := h a ha
    rw [e, smV_tup]
    exact smVs_map _ _ fun i hi => by rw [smV_int]; exact decide_eq_true (hb i hi)
  · rw [wV_tup]
    refine Nat.le_trans (wVs_map _ _ (51 * n) fun a ha => ?_) (Nat.mul_le_mul_left _ hl)
    obtain ⟨ns, e, hn, _⟩ := h a ha
    rw [e, wV_tup]
    refine Nat.le_trans (wVs_map _ _ 50 fun i _ => by rw [wV_int]; exact Nat.le_refl _) (Nat.mul_le_mul_left _ hn)
  · rw [okV_tup]
    refine okVs_map _ _ fun a ha => ?_
    obtain ⟨ns, e, _, _⟩ := h a ha
    rw [e, okV_tup]
    exact okVs_map _ _ fun i _ => okV_int
section
variable {rs : List Rm} {ks : List (Str × List Int)} {st : Rst} {d mvs : Nat → Int} {r : Nat} {B : Int} {p : Nat → Option Int}
theorem ms24 (hg : GRs rs.length rs) (hr : r < rs.length) : (Mvz rs r).length ≤ 24 := (grZ hg hr).2.2.1
theorem mine_ns (hg : GRs rs.length rs) (hs : SmlZ rs) (R : RaE rs (bndZ rs) st) (hr : r ∈ idx (inP st.p) rs.length) : ∃ v mvv, st.p r = some v ∧ 0 ≤ v ∧ v ≤ 690 ∧ mineRow rs (bndZ rs) st.p r = .tup ([(r : Int), v, mvv].map W.int) ∧ mvv = (if Ow rs r = 0 then dueI rs (bndZ rs) st.p r else -1) ∧ -1 ≤ mvv ∧ mvv < 24 := by
  obtain ⟨h1, h2⟩ := idx_mem.mp hr
  have bd := bnd_is hs
  obtain ⟨v, hv⟩ := Option.isSome_iff_exists.mp h2
  have vb := R.bd r h1 v hv
  refine ⟨v, _, hv, vb.1, by omega, by unfold mineRow; rw [hv]; rfl, rfl, ?_⟩
  split
  · by_cases hM : Mvz rs r = []
    · rw [(due_nil hM).2]
      omega
    · obtain ⟨k, k1, k2, _⟩ := due_is (B := bndZ rs) (p := st.p) hM
      have := ms24 hg h1
      omega
  · omega
theorem need_ns (hg : GRs rs.length rs) (hs : SmlZ rs) (R : RaE rs (bndZ rs) st) (hr : r ∈ idx (inP st.p) rs.length) : ∃ v, st.p r = some v ∧ needRow rs st r = .tup ([(r : Int), v, st.l r, needMv rs st r].map W.int) ∧ 0 ≤ v ∧ v ≤ 690 ∧ 0 ≤ st.l r ∧ st.l r ≤ 20000 ∧ -1 ≤ needMv rs st r ∧ needMv rs st r < 24 := by
  obtain ⟨h1, h2⟩ := idx_mem.mp hr
  have bd := bnd_is hs
  obtain ⟨v, hv⟩ := Option.isSome_iff_exists.mp h2
  have vb := R.bd r h1 v hv
  have lb := R.lb r h1
  have ms := R.ms
  have nb : ((rs.length : Nat) : Int) * (bndZ rs + 1) ≤ 24 * (bndZ rs + 1) := Int.mul_le_mul_of_nonneg_right (by have := hs.1; omega) (by omega)
  refine ⟨v, hv, by unfold needRow; rw [hv]; rfl, vb.1, by omega, lb.1, by omega, ?_⟩
  unfold needMv
  split
  · split
    · rcases R.wb r h1 with z | ⟨k, k1, k2⟩
      · rw [z]; omega
      · have := ms24 hg h1
        rw [k2]
        omega
    · omega
  · omega
theorem sink_ns (hg : GRs rs.length rs) (P : PurR rs st d mvs) (hr : r ∈ snk rs st.p) : sinkRow d mvs r = .tup ([(r : Int), 0 - d r, mvs r].map W.int) ∧ 0 ≤ d r ∧ d r ≤ 20000 ∧ -1 ≤ mvs r ∧ mvs r < 24 := by
  obtain ⟨b, D⟩ := P.dm r hr
  have h1 := (snk_mem.mp hr).1
  have := P.db r hr
  refine ⟨rfl, this.1, this.2, ?_⟩
  by_cases ho : Ow rs r = 1
  · obtain ⟨k, k1, _, k3, _⟩ := D.his ho
    have := ms24 hg h1
    omega
  · have := (D.mine ho).1
    omega
theorem purseW_ok (hg : GRs rs.length rs) (hs : SmlZ rs) (hr : r < rs.length) (P : PurR rs st d mvs) : ∃ t : Str, PyData.strOk t = true ∧ ∀ h, wRepr [purseW rs st d mvs r] h = some (.str t, h) := by
  have hn := hs.1
  have il := idx_len (p := inP st.p) (n := rs.length)
  have sl := snk_len (rs := rs) (p := st.p)
  obtain ⟨a1, a2, a3, a4⟩ := rows_okZ (mineRow rs (bndZ rs) st.p) (idx (inP st.p) rs.length) 3 24 (by omega) fun a ha => by
    obtain ⟨v, mvv, _, v0, v1, e, _, m0, m1⟩ := mine_ns hg hs P.re ha
    have := (idx_mem.mp ha).1
    refine ⟨_, e, Nat.le_refl _, fun i hi => ?_⟩
    simp only [List.mem_cons, List.not_mem_nil, or_false] at hi
    rcases hi with rfl | rfl | rfl <;> omega
  obtain ⟨b1, b2, b3, b4⟩ := rows_okZ (needRow rs st) (idx (inP st.p) rs.length) 4 24 (by omega) fun a ha => by
    obtain ⟨v, _, e, v0, v1, l0, l1, m0, m1⟩ := need_ns hg hs P.re ha
    have := (idx_mem.mp ha).1
    refine ⟨_, e, Nat.le_refl _, fun i hi => ?_⟩
    simp only [List.mem_cons, List.not_mem_nil, or_false] at hi
    rcases hi with rfl | rfl | rfl | rfl <;> omega
  obtain ⟨c1, c2, c3, c4⟩ := rows_okZ (sinkRow d mvs) (snk rs st.p) 3 24 (by omega) fun a ha => by
    obtain ⟨e, d0, d1, m0, m1⟩ := sink_ns hg P ha
    have := (snk_mem.mp ha).1
    refine ⟨_, e, Nat.le_refl _, fun i hi => ?_⟩
    simp only [List.mem_cons, List.not_mem_nil, or_false] at hi
    rcases hi with rfl | rfl | rfl <;> omega
  have w1 := wordOk_ofZ (x := "purse") (by decide +kernel)
  have w2 := wordOk_ofZ (x := "purses") (by decide +kernel)
  have w3 := wordOk_ofZ (x := "needs") (by decide +kernel)
  have w4 := wordOk_ofZ (x := "sinks") (by decide +kernel)
  have w5 := wordOk_ofZ (x := "never") (by decide +kernel)
  obtain ⟨A, hA⟩ : ∃ A, A = W.tup ((idx (inP st.p) rs.length).map (mineRow rs (bndZ rs) st.p)) := ⟨_, rfl⟩
  obtain ⟨B, hB⟩ : ∃ B, B = W.tup ((idx (inP st.p) rs.length).map (needRow rs st)) := ⟨_, rfl⟩
  obtain ⟨C, hC⟩ : ∃ C, C = W.tup ((snk rs st.p).map (sinkRow d mvs)) := ⟨_, rfl⟩
  rw [← hA] at a1 a2 a3 a4
  rw [← hB] at b1 b2 b3 b4
  rw [← hC] at c1 c2 c3 c4
  unfold purseW sinksW
  rw [← hA, ← hB, ← hC]
  split
  · refine repr_ok (n := 5) ?_ (by decide) ?_ ?_ ?_
    · simp only [pl_tup, pls_cons, pls_nil, pl_str, pl_int, w5.1, w4.1, c1, Bool.and_true]
    · simp only [smV_tup, smVs_cons, smVs_nil, smV_str, smV_int, w5.2.1, w4.2.1, c2, Bool.and_true, Bool.true_and]
    · simp only [wV_tup, wVs_cons, wVs_nil, wV_str, wV_int]
      have := w5.2.2.1
      have := w4.2.2.1
      omega
    · simp only [okV_tup, okVs_cons, okVs_nil, okV_str, okV_int, w5.2.2.2, w4.2.2.2, c4, Bool.and_true]
  · rename_i v hv
    have hv1 : v.natAbs < 1000000000000000 := by
      have := P.re.bd r hr v hv
      have := bnd_is hs
      omega
    refine repr_ok (n := 5) ?_ (by decide) ?_ ?_ ?_
    · simp only [pl_tup, pls_cons, pls_nil, pl_str, pl_int, w1.1, w2.1, w3.1, w4.1, a1, b1, c1, Bool.and_true]
    · simp only [smV_tup, smVs_cons, smVs_nil, smV_str, smV_int, w1.2.1, w2.2.1, w3.2.1, w4.2.1, a2, b2, c2, Bool.and_true, Bool.true_and]
      exact decide_eq_true hv1
    · simp only [wV_tup, wVs_cons, wVs_nil, wV_str, wV_int]
      have := w1.2.2.1
      have := w2.2.2.1
      have := w3.2.2.1
      have := w4.2.2.1
      omega
    · simp only [okV_tup, okVs_cons, okVs_nil, okV_str, okV_int, w1.2.2.2, w2.2.2.2, w3.2.2.2, w4.2.2.2, a4, b4, c4, Bool.and_true]
theorem puL_ok (hs : SmlZ rs) (R : RaE rs (bndZ rs) st) : ∃ t : Str, PyData.strOk t = true ∧ ∀ h, wRepr [.tup (puL rs.length st.p)] h = some (.str t, h) := by
  have hn := hs.1
  have bd := bnd_is hs
  refine repr_ok (n := 1) ?_ (by decide) ?_ ?_ ?_
  · rw [pl_tup]
    refine pls_map _ _ fun r _ => ?_
    cases st.p r <;> simp [oW]
  · rw [smV_tup]
    refine smVs_map _ _ fun r hr => ?_
    cases hp : st.p r with
    | none => rfl
    | some v =>
      have := R.bd r (List.mem_range.mp hr) v hp
      show smV (.int v) = true
      rw [smV_int]
      exact decide_eq_true (by omega)
  · rw [wV_tup]
    refine Nat.le_trans (wVs_map _ _ 50 fun r _ => ?_) ?_
    · cases st.p r with
      | none => exact Nat.zero_le _
      | some v =>
        show wV (.int v) ≤ 50
        rw [wV_int]
        exact Nat.le_refl _
    · rw [List.length_range]
      omega
  · rw [okV_tup]
    refine okVs_map _ _ fun r _ => ?_
    cases st.p r with
    | none => exact okV_non
    | some v => exact okV_int
theorem refs_puL : refsWs (puL rs.length p) = [] := refs_map _ _ fun r _ => by cases p r <;> rfl
theorem refs_purseW : refsW (purseW rs st d mvs r) = [] := by
  have a : refsWs ((idx (inP st.p) rs.length).map (mineRow rs (bndZ rs) st.p)) = [] := refs_map _ _ fun r _ => by unfold mineRow; cases st.p r <;> simp [oW]
  have b : refsWs ((idx (inP st.p) rs.length).map (needRow rs st)) = [] := refs_map _ _ fun r _ => by unfold needRow; cases st.p r <;> simp [oW]
  have c : refsWs ((snk rs st.p).map (sinkRow d mvs)) = [] := refs_map _ _ fun r _ => by unfold sinkRow; simp
  unfold purseW sinksW
  split <;> simp [a, b, c]
def S_purses : FM := lift0 F_purses
theorem fits_purses : Fits F_purses S_purses := fits_lift0 _
def S_purse : FM := lift0 F_purse
theorem fits_purse : Fits F_purse S_purse := fits_lift0 _
theorem purses_to {h : PH} (hg : GRs rs.length rs) (hs : SmlZ rs) (h1 : 1 ≤ rs.length) {Q : W → PH → Prop} (q : ∀ st, RaE rs (bndZ rs) st → Q (.tup (puL rs.length st.p)) h) : (S_purses [encA rs ks] h).To Q :=
  lift0_to (P := fun w => ∃ st, RaE rs (bndZ rs) st ∧ w = .tup (puL rs.length st.p)) (by simp) ((purses_run hg hs h1).mono fun w g z => by
    obtain ⟨st, a, rfl⟩ := z
    exact ⟨by rw [refs_tup]; exact refs_puL, st, a, rfl⟩) fun w z => by
      obtain ⟨st, a, rfl⟩ := z
      exact q st a
theorem purse_to {h : PH} (hg : GRs rs.length rs) (hs : SmlZ rs) (hr : r < rs.length) {Q : W → PH → Prop} (q : ∀ st d mvs, PurR rs st d mvs → Q (purseW rs st d mvs r) h) : (S_purse [encA rs ks, .int (r : Nat)] h).To Q :=
  lift0_to (P := fun w => ∃ st d mvs, PurR rs st d mvs ∧ w = purseW rs st d mvs r) (by simp) ((purse_run hg hs hr).mono fun w g z => by
    obtain ⟨st, d, mvs, a, rfl⟩ := z
    exact ⟨refs_purseW, st, d, mvs, a, rfl⟩) fun w z => by
      obtain ⟨st, d, mvs, a, rfl⟩ := z
      exact q st d mvs a
/-- told once and for all -/
theorem purse_is (hg : GRs rs.length rs) (hs : SmlZ rs) (hr : r < rs.length) : ∃ st d mvs, PurR rs st d mvs ∧ ∀ h, S_purse [encA rs ks, .int (r : Nat)] h = .ok (purseW rs st d mvs r) h := by
  obtain ⟨w, g, e, st, d, mvs, a, rfl⟩ := (purse_run (ks := ks) hg hs hr).is
  exact ⟨st, d, mvs, a, fun h => lift0_plain (by simp) e refs_purseW⟩
/-- two ends tell the same purses -/
theorem re_same {st' : Rst} (hg : GRs rs.length rs) (R : RaE rs (bndZ rs) st) (R' : RaE rs (bndZ rs) st') (hr : r < rs.length) : st.p r = st'.p r := by
  have key : ∀ {a b : Rst}, RaE rs (bndZ rs) a → RaE rs (bndZ rs) b → ∀ v, b.p r = some v → ∃ u, a.p r = some u ∧ u ≤ v := fun {a b} A B v hv => by
    obtain ⟨s, bd⟩ := re_ss hg B
    obtain ⟨u, hu, le⟩ := least_any A.least mostW rfl s (fun x hx => ⟨hx.1, (bd x hx).1⟩) r ⟨hr, by rw [hv]; exact fun z => by cases z⟩
    rw [hv] at le
    exact ⟨u, hu, le⟩
  cases h : st.p r with
  | none =>
    cases h' : st'.p r with
    | none => rfl
    | some v =>
      obtain ⟨u, hu, _⟩ := key R R' v h'
      rw [h] at hu
      cases hu
  | some u =>
    obtain ⟨v, hv, h1⟩ := key R' R u h
    obtain ⟨u', hu', h2⟩ := key R R' v hv
    rw [h] at hu'
    cases hu'
    rw [hv]
    congr 1
    omega
end
end Mir

/-! laws 31 to 38: what is drawn from (shared) -/
namespace Mir
open PySem PySem.Spec PyProof.Rows L2
abbrev kS (s : String) : Key := .inr (PySem.Str.ofString s)
@[simp] theorem kne_cells_is_plain : (PySem.Str.ofString "cells" = PySem.Str.ofString "is_plain") = False := eq_false (by decide +kernel)
@[simp] theorem kne_cells_at : (PySem.Str.ofString "cells" = PySem.Str.ofString "at") = False := eq_false (by decide +kernel)
@[simp] theorem kne_cells_left : (PySem.Str.ofString "cells" = PySem.Str.ofString "left") = False := eq_false (by decide +kernel)
@[simp] theorem kne_cells_mixed : (PySem.Str.ofString "cells" = PySem.Str.ofString "mixed") = False := eq_false (by decide +kernel)
@[simp] theorem kne_is_plain_cells : (PySem.Str.ofString "is_plain" = PySem.Str.ofString "cells") = False := eq_false (by decide +kernel)
@[simp] theorem kne_is_plain_at : (PySem.Str.ofString "is_plain" = PySem.Str.ofString "at") = False := eq_false (by decide +kernel)
@[simp] theorem kne_is_plain_left : (PySem.Str.ofString "is_plain" = PySem.Str.ofString "left") = False := eq_false (by decide +kernel)
@[simp] theorem kne_is_plain_mixed : (PySem.Str.ofString "is_plain" = PySem.Str.ofString "mixed") = False := eq_false (by decide +kernel)
@[simp] theorem kne_at_cells : (PySem.Str.ofString "at" = PySem.Str.ofString "cells") = False := eq_false (by decide +kernel)
@[simp] theorem kne_at_is_plain : (PySem.Str.ofString "at" = PySem.Str.ofString "is_plain") = False := eq_false (by decide +kernel)
@[simp] theorem kne_at_left : (PySem.Str.ofString "at" = PySem.Str.ofString "left") = False := eq_false (by decide +kernel)
@[simp] theorem kne_at_mixed : (PySem.Str.ofString "at" = PySem.Str.ofString "mixed") = False := eq_false (by decide +kernel)
@[simp] theorem kne_left_cells : (PySem.Str.ofString "left" = PySem.Str.ofString "cells") = False := eq_false (by decide +kernel)
@[simp] theorem kne_left_is_plain : (PySem.Str.ofString "left" = PySem.Str.ofString "is_plain") = False := eq_false (by decide +kernel)
@[simp] theorem kne_left_at : (PySem.Str.ofString "left" = PySem.Str.ofString "at") = False := eq_false (by decide +kernel)
@[simp] theorem kne_left_mixed : (PySem.Str.ofString "left" = PySem.Str.ofString "mixed") = False := eq_false (by decide +kernel)
@[simp] theorem kne_mixed_cells : (PySem.Str.ofString "mixed" = PySem.Str.ofString "cells") = False := eq_false (by decide +kernel)
@[simp] theorem kne_mixed_is_plain : (PySem.Str.ofString "mixed" = PySem.Str.ofString "is_plain") = False := eq_false (by decide +kernel)
@[simp] theorem kne_mixed_at : (PySem.Str.ofString "mixed" = PySem.Str.ofString "at") = False := eq_false (by decide +kernel)
@[simp] theorem kne_mixed_left : (PySem.Str.ofString "mixed" = PySem.Str.ofString "left") = False := eq_false (by decide +kernel)
def t2O (cs : List Int) (d : Bool) (a l m : Int) : OB := .dK [(kS "cells", .fix (cs.map .int)), (kS "is_plain", .bl d), (kS "at", .int a), (kS "left", .int l), (kS "mixed", .int m)]
def IsT2 (B : Int) (o : OB) : Prop := ∃ cs d a l m, o = t2O cs d a l m ∧ cs ≠ [] ∧ cs.length ≤ 63 ∧ 0 ≤ a ∧ a < cs.length ∧ 0 ≤ m ∧ m ≤ B
theorem IsT2.up {B B' : Int} {o : OB} (t : IsT2 B o) (h : B ≤ B') : IsT2 B' o := by
  obtain ⟨cs, d, a, l, m, rfl, h1, h2, h3, h4, h5, h6⟩ := t
  exact ⟨cs, d, a, l, m, rfl, h1, h2, h3, h4, h5, by omega⟩
theorem IsT2.refs {B : Int} {o : OB} (t : IsT2 B o) : refsO o = [] := by
  obtain ⟨cs, d, a, r, s, rfl, _⟩ := t
  simp [t2O, refsO, refsK]
section
variable {cs : List Int} {d : Bool} {a l m : Int}
theorem t2_cells {g : PH} : wIx (.ref 0) (.str (PySem.Str.ofString "cells")) (t2O cs d a l m :: g) = some (.fix (cs.map .int), t2O cs d a l m :: g) := by
  simp only [t2O, wIx, List.getElem?_cons_zero, keyW, Option.bind_some]
  rw [show getK [(kS "cells", W.fix (cs.map .int)), (kS "is_plain", .bl d), (kS "at", .int a), (kS "left", .int l), (kS "mixed", .int m)] (kS "cells") = some (.fix (cs.map .int)) by simp [getK]]
  rfl
theorem t2_is_plain {g : PH} : wIx (.ref 0) (.str (PySem.Str.ofString "is_plain")) (t2O cs d a l m :: g) = some (.bl d, t2O cs d a l m :: g) := by
  simp only [t2O, wIx, List.getElem?_cons_zero, keyW, Option.bind_some]
  rw [show getK [(kS "cells", W.fix (cs.map .int)), (kS "is_plain", .bl d), (kS "at", .int a), (kS "left", .int l), (kS "mixed", .int m)] (kS "is_plain") = some (.bl d) by simp [getK]]
  rfl
theorem t2_at {g : PH} : wIx (.ref 0) (.str (PySem.Str.ofString "at")) (t2O cs d a l m :: g) = some (.int a, t2O cs d a l m :: g) := by
  simp only [t2O, wIx, List.getElem?_cons_zero, keyW, Option.bind_some]
  rw [show getK [(kS "cells", W.fix (cs.map .int)), (kS "is_plain", .bl d), (kS "at", .int a), (kS "left", .int l), (kS "mixed", .int m)] (kS "at") = some (.int a) by simp [getK]]
  rfl
theorem t2_left {g : PH} : wIx (.ref 0) (.str (PySem.Str.ofString "left")) (t2O cs d a l m :: g) = some (.int l, t2O cs d a l m :: g) := by
  simp only [t2O, wIx, List.getElem?_cons_zero, keyW, Option.bind_some]
  rw [show getK [(kS "cells", W.fix (cs.map .int)), (kS "is_plain", .bl d), (kS "at", .int a), (kS "left", .int l), (kS "mixed", .int m)] (kS "left") = some (.int l) by simp [getK]]
  rfl
theorem t2_mixed {g : PH} : wIx (.ref 0) (.str (PySem.Str.ofString "mixed")) (t2O cs d a l m :: g) = some (.int m, t2O cs d a l m :: g) := by
  simp only [t2O, wIx, List.getElem?_cons_zero, keyW, Option.bind_some]
  rw [show getK [(kS "cells", W.fix (cs.map .int)), (kS "is_plain", .bl d), (kS "at", .int a), (kS "left", .int l), (kS "mixed", .int m)] (kS "mixed") = some (.int m) by simp [getK]]
  rfl
theorem t2set_at {g : PH} {v : Int} : setW (.ref 0) (.str (PySem.Str.ofString "at")) (.int v) (t2O cs d a l m :: g) = some (t2O cs d v l m :: g) := by
  simp only [t2O, setW, List.getElem?_cons_zero, keyW]
  rw [if_pos (by simp), show putKW [(kS "cells", W.fix (cs.map .int)), (kS "is_plain", .bl d), (kS "at", .int a), (kS "left", .int l), (kS "mixed", .int m)] (kS "at") (.int v) = [(kS "cells", W.fix (cs.map .int)), (kS "is_plain", .bl d), (kS "at", .int v), (kS "left", .int l), (kS "mixed", .int m)] from by simp [putKW]]
  simp [t2O]
theorem t2set_left {g : PH} {v : Int} : setW (.ref 0) (.str (PySem.Str.ofString "left")) (.int v) (t2O cs d a l m :: g) = some (t2O cs d a v m :: g) := by
  simp only [t2O, setW, List.getElem?_cons_zero, keyW]
  rw [if_pos (by simp), show putKW [(kS "cells", W.fix (cs.map .int)), (kS "is_plain", .bl d), (kS "at", .int a), (kS "left", .int l), (kS "mixed", .int m)] (kS "left") (.int v) = [(kS "cells", W.fix (cs.map .int)), (kS "is_plain", .bl d), (kS "at", .int a), (kS "left", .int v), (kS "mixed", .int m)] from by simp [putKW]]
  simp [t2O]
theorem t2set_mixed {g : PH} {v : Int} : setW (.ref 0) (.str (PySem.Str.ofString "mixed")) (.int v) (t2O cs d a l m :: g) = some (t2O cs d a l v :: g) := by
  simp only [t2O, setW, List.getElem?_cons_zero, keyW]
  rw [if_pos (by simp), show putKW [(kS "cells", W.fix (cs.map .int)), (kS "is_plain", .bl d), (kS "at", .int a), (kS "left", .int l), (kS "mixed", .int m)] (kS "mixed") (.int v) = [(kS "cells", W.fix (cs.map .int)), (kS "is_plain", .bl d), (kS "at", .int a), (kS "left", .int l), (kS "mixed", .int v)] from by simp [putKW]]
  simp [t2O]
end
end Mir

/-! laws 31 to 38: _law_draw, _law_below -/
namespace Mir
open PySem PySem.Spec PyProof.Rows L2
section
variable {cs : List Int} {d : Bool} {a l m : Int}
theorem cell2 {cs : List Int} {i : Int} {h : PH} (h0 : 0 ≤ i) (h1 : i < cs.length) : ∃ c, wIx (.fix (cs.map .int)) (.int i) h = some (.int c, h) := by
  have hi : i.toNat < cs.length := by omega
  refine ⟨cs[i.toNat], ?_⟩
  show (atI _ i).map _ = _
  rw [atI_nat _ _ h0, List.getElem?_map, List.getElem?_eq_getElem hi]
  rfl
theorem mixed2_to {x k : Int} {h : PH} {Q : W → PH → Prop} (k0 : 0 ≤ k) (k1 : k ≤ 1000000) (q : ∀ r, 0 ≤ r → Q (.int r) h) : (f_Lmixed [.int x, .int k] h).To Q := by
  unfold f_Lmixed
  rw [run_to, show startW 2 [W.int x, .int k] = [some (.int x), some (.int k)] from rfl]
  unfold b_Lmixed
  obtain ⟨y, hy⟩ : ∃ y, y = (x % 2147483647 + 7919 * k * k + 31 * k + 1) * 48271 % 2147483647 := ⟨_, rfl⟩
  refine seq_go (ps1 := [some (.int y), some (.int k)]) (h1 := h) (fun K hK => ?_) ?_
  · simp
    rw [← hy]
    exact ⟨.inr ⟨by omega, by omega⟩, hK⟩
  · have y1 : 0 ≤ y * 69621 % 2147483629 := Int.emod_nonneg _ (by decide)
    simp
    refine ⟨by decide, q _ ?_⟩
    omega
def blI (cs : List Int) (d : Bool) (m : Int) (mm : Int) (v : Nat) (ps : LS) (g : PH) : Prop := ∃ (a l : Int), ps = [some (.ref 0), some (.int mm), some (.fix (cs.map .int)), none, none] ∧ g = [t2O cs d a l m] ∧ 0 ≤ a ∧ a < cs.length ∧ v = (cs.length - a).toNat
def blE (cs : List Int) (d : Bool) (m : Int) (mm : Int) (ps : LS) (g : PH) : Prop := ∃ (a l : Int), ps = [some (.ref 0), some (.int mm), some (.fix (cs.map .int)), none, none] ∧ g = [t2O cs d a l m] ∧ 0 ≤ a ∧ a < cs.length
def blR (B mm : Int) (w : W) (g : PH) : Prop := ∃ o2 g2, g = o2 :: g2 ∧ refsO o2 = [] ∧ refsW w = [] ∧ (∃ r, w = .int r ∧ 0 ≤ r ∧ r < mm) ∧ IsT2 (B + 1) o2
theorem below_run {B : Int} {o : OB} (t : IsT2 B o) (hB : B < 1000000) {mm : Int} (hm : 0 < mm) (hs : mm < 1152921504606846976) : (f_Lbelow f_Lmixed [.ref 0, .int mm] [o]).To (blR B mm) := by
  obtain ⟨cs, d, a, l, m, rfl, c0, c1, a0, a1, m0, m1⟩ := t
  have hl : 0 < cs.length := List.length_pos_iff.mpr c0
  have mk : ∀ a l m : Int, 0 ≤ a → a < cs.length → 0 ≤ m → m ≤ B + 1 → IsT2 (B + 1) (t2O cs d a l m) := fun a l m h1 h2 h3 h4 => ⟨_, _, _, _, _, rfl, c0, c1, h1, h2, h3, h4⟩
  have log : mm.natAbs.log2 < 9000 := log_lit mm (by omega) hs
  unfold f_Lbelow
  rw [run_to, show startW 5 [W.ref 0, .int mm] = [some (.ref 0), some (.int mm), none, none, none] from rfl]
  unfold b_Lbelow
  refine seq_go (ps1 := [some (.ref 0), some (.int mm), some (.fix (cs.map .int)), none, none]) (h1 := [t2O cs d a l m]) (fun K hK => ?_) ?_
  · simp [t2_cells]
    exact hK
  refine seq_cut (blE cs d m mm) ?_ ?_
  · rw [to_while]
    refine while_inv (blI cs d m mm) ?_ big (cs.length - a).toNat _ _ (by unfold big; omega) ⟨a, l, rfl, rfl, a0, a1, rfl⟩
    rintro v ps g ⟨a, l, rfl, rfl, a0, a1, rfl⟩
    have done : blE cs d m mm [some (.ref 0), some (.int mm), some (.fix (cs.map .int)), none, none] [t2O cs d a l m] := ⟨a, l, rfl, rfl, a0, a1⟩
    simp [t2_is_plain, t2_left, t2_at, tru]
    refine .ofB (fun _ => ?_) fun _ => done
    refine .of (fun _ => ?_) fun _ => done
    refine .of (fun hlt => ?_) fun _ => done
    refine seq_op fun K hK => ?_
    simp [t2_at, t2set_at]
    refine hK _ _ ?_
    clear hK K
    obtain ⟨c, hc⟩ := cell2 (cs := cs) (i := a + 1) (h := [t2O cs d (a + 1) l m]) (by omega) hlt
    simp [t2_at, hc, t2set_left]
    exact ⟨(cs.length - (a + 1)).toNat, by omega, a + 1, _, rfl, rfl, by omega, by omega, rfl⟩
  rintro ps g ⟨a, l, rfl, rfl, a0, a1⟩
  have fin : ∀ (N : LS → PH → Prop) (R : W → PH → Prop) (B1 C : LS → PH → Prop), (∀ w g, blR B mm w g → R w g) → ((sSeq (sSetIx (mOp wAdd (mOp wIx (mVar 0) (mC (.str "mixed"))) (mC (.int 1))) (mVar 0) (mC (.str "mixed")))
      (sSeq (sAsg (mFn 2 f_Lmixed (mCons (mOp wIx (mVar 2) (mOp wMod (mOp wIx (mVar 0) (mC (.str "mixed"))) (mCall wLen (mCons (mVar 2) mNil)))) (mCons (mOp wIx (mVar 0) (mC (.str "mixed"))) mNil))) (gN 4))
      (sRet (mOp wMod (mFn 2 f_Lmixed (mCons (mVar 4) (mCons (mC (.int 3)) mNil))) (mVar 1))))) [some (.ref 0), some (.int mm), some (.fix (cs.map .int)), none, none] [t2O cs d a l m]).To N R B1 C := fun N R B1 C hR => by
    refine seq_op fun K hK => ?_
    simp [t2_mixed, t2set_mixed]
    refine hK _ _ ?_
    clear hK K
    refine seq_op fun K hK => ?_
    obtain ⟨c, hc⟩ := cell2 (cs := cs) (i := (m + 1) % (cs.length : Int)) (h := [t2O cs d a l (m + 1)]) (Int.emod_nonneg _ (by omega)) (Int.emod_lt_of_pos _ (by omega))
    simp [t2_mixed, hc]
    refine ⟨hl, mixed2_to (by omega) (by omega) fun r hr => ?_⟩
    refine hK _ _ ?_
    clear hK K
    simp
    refine mixed2_to (by omega) (by omega) fun r2 hr2 => ?_
    simp
    exact ⟨hm, hR _ _ ⟨_, _, rfl, (mk _ _ _ a0 a1 (by omega) (by omega)).refs, rfl, ⟨_, rfl, Int.emod_nonneg _ (by omega), Int.emod_lt_of_pos _ hm⟩, mk _ _ _ a0 a1 (by omega) (by omega)⟩⟩
  rw [to_seq, to_sif]
  simp [t2_is_plain, t2_left, tru]
  refine .ofB (fun _ => ?_) fun _ => ?_
  · refine .of (fun _ => ?_) fun _ => ?_
    · refine seq_op fun K hK => ?_
      simp [t2_left]
      refine ⟨hm, hK _ _ ?_⟩
      clear hK K
      refine seq_op fun K hK => ?_
      simp [t2_left, t2set_left]
      refine ⟨⟨hm, log⟩, hK _ _ ?_⟩
      clear hK K
      simp
      exact ⟨_, _, rfl, (mk _ _ _ a0 a1 (by omega) (by omega)).refs, rfl, ⟨_, rfl, Int.emod_nonneg _ (by omega), Int.emod_lt_of_pos _ hm⟩, mk _ _ _ a0 a1 (by omega) (by omega)⟩
    · exact fin _ _ _ _ fun w g z => z
  · exact fin _ _ _ _ fun w g z => z
def S_below : FM := lift1 (f_Lbelow f_Lmixed)
theorem fits_Lbelow : Fits (f_Lbelow f_Lmixed) S_below := fits_lift1 _
theorem below_to {B : Int} {o : OB} {h : PH} {n : Nat} (e : h[n]? = some o) (t : IsT2 B o) (hB : B < 1000000) {mm : Int} (hm : 0 < mm) (hs : mm < 1152921504606846976) {Q : W → PH → Prop} (q : ∀ r o2, 0 ≤ r → r < mm → IsT2 (B + 1) o2 → Q (.int r) (h.set n o2)) : (S_below [.ref n, .int mm] h).To Q :=
  lift1_to (P := fun w o2 => (∃ r, w = .int r ∧ 0 ≤ r ∧ r < mm) ∧ IsT2 (B + 1) o2) e t.refs (by simp) ((below_run t hB hm hs).mono fun w g z => by
    obtain ⟨o2, g2, rfl, z1, z2, z3, z4⟩ := z
    exact ⟨o2, g2, rfl, z1, z2, z3, z4⟩) fun w o2 z => by
      obtain ⟨⟨r, rfl, z1, z2⟩, z3⟩ := z
      exact q r o2 z1 z2 z3
theorem cut2_to {xs : List W} {i : Int} (h0 : 0 ≤ i) : cutW xs none (some i) = xs.take i.toNat := by
  obtain ⟨k, rfl⟩ : ∃ k : Nat, i = k := ⟨i.toNat, by omega⟩
  unfold cutW
  rw [HT.sIx_none, HT.sIx_nat]
  simp [List.take_eq_take_iff]
theorem cut2_from {xs : List W} {i : Int} (h0 : 0 ≤ i) : cutW xs (some i) none = xs.drop i.toNat := by
  obtain ⟨k, rfl⟩ : ∃ k : Nat, i = k := ⟨i.toNat, by omega⟩
  unfold cutW
  rw [HT.sIx_none, HT.sIx_nat]
  rw [List.take_of_length_le (by simp)]
  by_cases h : k ≤ xs.length
  · simp [h]
  · have : xs.length ≤ k := by omega
    simp [this]
theorem to_upd {m m1 : EM} {ps : LS} {h : PH} {Q : W → PH → Prop} : (mUpd1 m m1 ps h).To Q = (m ps h).To fun x g => isDW x g = true ∧ (m1 ps g).To fun y g => PTo (dUpd1 x y g) Q := by
  unfold mUpd1
  rw [to_bind]
  congr 1
  funext x g
  rw [to_ite]
  congr 1
  rw [to_bind]
  congr 1
  funext y g
  rw [to_ofO]
theorem wNe_ints {ns : List Int} {h : PH} : wNe (.fix (ns.map W.int)) (.fix []) h = some (.bl (!decide (ns = [])), h) := wNe_nil
def drR (w : W) (g : PH) : Prop := w = .ref 0 ∧ ∃ o o2, g = [o, o2] ∧ IsT2 0 o
theorem draw_run (ns : List Int) (hn : ns.length ≤ 63) : (f_Ldraw [.fix (ns.map W.int)] []).To drR := by
  unfold f_Ldraw
  rw [run_to, show startW 3 [W.fix (ns.map W.int)] = [some (.fix (ns.map W.int)), none, none] from rfl]
  unfold b_Ldraw
  obtain ⟨cs, hcs⟩ : ∃ cs, cs = if ns = [] then [0] else ns := ⟨_, rfl⟩
  have c0 : cs ≠ [] := by
    rw [hcs]
    split
    · simp
    · assumption
  have c1 : cs.length ≤ 63 := by
    rw [hcs]
    split
    · simp
    · exact hn
  have hl : 0 < cs.length := List.length_pos_iff.mpr c0
  refine seq_go (ps1 := [some (.fix (ns.map W.int)), some (.fix (cs.map .int)), none]) (h1 := []) (fun K hK => ?_) ?_
  · by_cases q : ns = []
    · rw [if_pos q] at hcs
      subst q hcs
      have : wNe (.fix []) (.fix []) [] = some (.bl false, []) := wNe_ints (ns := [])
      simp [this]
      exact hK
    · rw [if_neg q] at hcs
      subst hcs
      simp [q]
      have : wSl (.fix (cs.map W.int)) none (some 63) [] = some (.fix (cs.map W.int), []) := by
        show some (W.fix (cutW (cs.map W.int) none (some 63)), []) = _
        rw [cut2_to (by decide), List.take_of_length_le (by simpa using hn)]
      rw [this]
      simp
      exact hK
  obtain ⟨c, hc⟩ : ∃ c, atI (cs.map W.int) 0 = some (.int c) := by
    obtain ⟨c, t, rfl⟩ := List.exists_cons_of_ne_nil c0
    exact ⟨c, at0⟩
  refine seq_go (ps1 := [some (.fix (ns.map W.int)), some (.fix (cs.map .int)), some (.ref 0)]) (h1 := [.dK [(kS "cells", .fix (cs.map .int)), (kS "is_plain", .bl (decide (c % 2 = 1)))]]) (fun K hK => ?_) ?_
  · simp [hc, keysOf, keyW, mergeW, putKW]
    exact hK
  refine seq_go (ps1 := [some (.fix (ns.map W.int)), some (.fix (cs.map .int)), some (.ref 0)]) (h1 := [t2O cs (decide (c % 2 = 1)) 0 ((if c < 0 then -c else c) / 2) 0, .dK [(kS "at", .int 0), (kS "left", .int ((if c < 0 then -c else c) / 2)), (kS "mixed", .int 0)]]) (fun K hK => ?_) ?_
  · rw [to_drop, to_upd, to_var]
    refine ⟨_, rfl, rfl, ?_⟩
    simp [hc, keysOf, keyW, mergeW, putKW]
    refine ⟨by decide, ?_⟩
    simp [dUpd1, mergeW, putKW]
    exact hK
  · simp
    exact ⟨rfl, _, _, rfl, cs, _, _, _, _, rfl, c0, c1, Int.le_refl _, by omega, Int.le_refl _, Int.le_refl _⟩
end
end Mir

/-! laws 31 to 38: _law_arena -/
namespace Mir
open PySem PySem.Spec PyProof.Rows L2
theorem below0 {B : Int} {o : OB} (t : IsT2 B o) (hB : B < 1000000) {mm : Int} (hm : 0 < mm) (hs : mm < 1152921504606846976) {g : PH} {Q : W → PH → Prop} (q : ∀ r o2, 0 ≤ r → r < mm → IsT2 (B + 1) o2 → Q (.int r) (o2 :: g)) : (S_below [.ref 0, .int mm] (o :: g)).To Q :=
  below_to (n := 0) rfl t hB hm hs fun r o2 a b c => by simpa using q r o2 a b c
def lcT (B : Int) (rest : PH) (i : Nat) (acc : List W) (h : PH) : Prop := ∃ o l, h = o :: rest ∧ acc = l.map W.int ∧ l.length ≤ i ∧ incr i l ∧ IsT2 (B + i) o
theorem lc_drawT {B : Int} {o : OB} (d : IsT2 B o) (hB : B < 900000) (n : Nat) (hn : n ≤ 600) {psw : LS} {a : Nat} (rest : PH) (ha : a < psw.length) (h0 : psw[0]? = some (some (.ref 0))) (ha0 : a ≠ 0)
    {Ql : List W → PH → Prop} (q : ∀ l o2, GI n l → IsT2 (B + n) o2 → Ql (l.map W.int) (o2 :: rest)) :
    (lcGo (itS (rangeW 0 n)) (gN a) (mB (mOp wEq (mFn 2 S_below (mCons (mVar 0) (mCons (mC (.int 4)) mNil))) (mC (.int 0)))) (mVar a) psw (itS (rangeW 0 n)).fuel 0 [] (o :: rest)).To Ql := by
  refine lc_items (lcT B rest) ⟨o, [], rfl, rfl, by simp, ⟨.nil, fun _ z => (by cases z)⟩, by simpa using d⟩ ?_ ?_
  · rintro i w acc h e ⟨o2, l, rfl, rfl, hl, hx, d2⟩
    obtain ⟨hi, rfl⟩ := range_get e
    refine ⟨_, rfl, ?_⟩
    rw [to_mB, to_op, to_fn, to_cons, to_var]
    refine ⟨.ref 0, by rw [List.getElem?_set_ne ha0]; exact h0, ?_⟩
    simp only [to_cons, to_C, to_nil]
    refine ⟨rfl, below0 d2 (by omega) (by decide) (by decide) fun r o3 a1 a2 d3 => ?_⟩
    simp
    refine .of (fun _ => ?_) fun _ => ⟨o3, l, rfl, rfl, by omega, hx.up (by omega), d3.up (by omega)⟩
    rw [List.getElem?_set_self ha]
    simp
    exact ⟨by omega, o3, l ++ [(i : Int)], rfl, by simp, by simp; omega, hx.snoc, d3.up (by omega)⟩
  · rintro acc h ⟨o2, l, rfl, rfl, hl, hx, d2⟩
    rw [range_len] at hl d2 hx
    exact q l o2 ⟨hl, hx⟩ d2
/-- a move with a price between two bounds -/
def GMp (lo hi : Int) (n : Nat) (m : Mv) : Prop := 0 ≤ m.1 ∧ m.1 < n ∧ lo ≤ m.2.1 ∧ m.2.1 ≤ hi ∧ 0 ≤ m.2.2 ∧ m.2.2 ≤ 1
def GRp (lo hi : Int) (n : Nat) (r : Rm) : Prop := 0 ≤ r.1 ∧ r.1 ≤ 1 ∧ r.2.length ≤ 4 ∧ ∀ m ∈ r.2, GMp lo hi n m
def ajT (most lo hi B : Int) (n : Nat) (rs : List Rm) (gb : PH) (i : Int) (j : Nat) (ps : LS) (g : PH) : Prop := ∃ (o2 : OB) (ms : List Mv) (s8 s9 s10 : Option W), ps = [some (.ref 0), some (.int most), some (.int lo), some (.int hi), some (.int (n : Nat)), some (.ref 1), some (.int i), some (.ref (2 + gb.length)), s8, s9, s10, none, none] ∧
  g = o2 :: .lst (rs.map encR) :: (gb ++ [.lst (ms.map encM)]) ∧ ms.length = j ∧ (∀ m ∈ ms, GMp lo hi n m) ∧ IsT2 (B + 4 * j) o2
def aiT (most lo hi B : Int) (n : Nat) (i : Nat) (ps : LS) (g : PH) : Prop := ∃ (o2 : OB) (rs : List Rm) (gb : PH) (s6 s7 s8 s9 s10 : Option W), ps = [some (.ref 0), some (.int most), some (.int lo), some (.int hi), some (.int (n : Nat)), some (.ref 1), s6, s7, s8, s9, s10, none, none] ∧
  g = o2 :: .lst (rs.map encR) :: gb ∧ rs.length = i ∧ (∀ r ∈ rs, GRp lo hi n r) ∧ IsT2 (B + 40 * i) o2
theorem gb_at (o a : OB) (gb : PH) (b : OB) : (o :: a :: (gb ++ [b]) : List OB)[2 + gb.length]? = some b := by
  rw [show 2 + gb.length = gb.length + 1 + 1 by omega]
  simp
theorem gb_set (o a : OB) (gb : PH) (b c : OB) : (o :: a :: (gb ++ [b]) : List OB).set (2 + gb.length) c = o :: a :: (gb ++ [c]) := by
  rw [show 2 + gb.length = gb.length + 1 + 1 by omega]
  simp
theorem loopT {B : Int} {o : OB} (d : IsT2 B o) (hB : B < 900000) (most : Int) {lo hi : Int} (l1 : -1000 ≤ lo) (l2 : lo ≤ hi) (l3 : hi ≤ 1000) (n : Nat) (hn : 1 ≤ n) (hn2 : n ≤ 600) {R : W → PH → Prop} {BB C : LS → PH → Prop} :
    (sFor (mRange1 (mVar 4)) (gN 6)
      (sSeq (sAsg (mNew (mLst mNil)) (gN 7))
      (sSeq (sFor (mRange1 (mOp wIx (mFix (mLst (mCons (mC (.int 1)) (mCons (mC (.int 2)) (mCons (mC (.int 2)) (mCons (mC (.int 3)) (mCons (mC (.int 1)) (mCons (mC (.int 4)) (mCons (mC (.int 2)) (mCons (mC (.int 0)) mNil)))))))))) (mFn 2 S_below (mCons (mVar 0) (mCons (mC (.int 8)) mNil))))) (gN 8)
      (sSeq (sAsg (mFn 2 S_below (mCons (mVar 0) (mCons (mVar 4) mNil))) (gN 9))
      (sSeq (sAsg (mOp wIx (mFix (mLst (mCons (mC (.int 0)) (mCons (mVar 2) (mCons (mVar 3) (mCons (mC (.int 1)) (mCons (mOp wAdd (mVar 2) (mFn 2 S_below (mCons (mVar 0) (mCons (mOp wAdd (mOp wSub (mVar 3) (mVar 2)) (mC (.int 1))) mNil)))) mNil))))))) (mFn 2 S_below (mCons (mVar 0) (mCons (mC (.int 5)) mNil)))) (gN 10))
      (sDrop (mMt "list" wAppend (mVar 7) (mCons (mTup (mCons (mVar 9) (mCons (mCall wMax2 (mCons (mVar 2) (mCons (mCall wMin2 (mCons (mVar 3) (mCons (mVar 10) mNil))) mNil))) (mCons (mFn 2 S_below (mCons (mVar 0) (mCons (mC (.int 2)) mNil))) mNil)))) mNil))))))
      (sDrop (mMt "list" wAppend (mVar 5) (mCons (mTup (mCons (mFn 2 S_below (mCons (mVar 0) (mCons (mC (.int 2)) mNil))) (mCons (mOn wTupQ (mSeq (mVar 7))) mNil))) mNil)))))
      [some (.ref 0), some (.int most), some (.int lo), some (.int hi), some (.int (n : Nat)), some (.ref 1), none, none, none, none, none, none, none] [o, .lst []]).To (aiT most lo hi B n n) R BB C := by
  rw [to_for]
  simp
  refine ⟨by omega, ?_⟩
  refine for_items (aiT most lo hi B n) ⟨o, [], [], none, none, none, none, none, rfl, rfl, rfl, fun _ z => (by cases z), by simpa using d⟩ ?_ fun ps h z => by simpa using z
  rintro i w ps h e ⟨o2, rs, gb, s6, s7, s8, s9, s10, rfl, rfl, hl, hg, d2⟩
  obtain ⟨hi', rfl⟩ := range_get e
  refine ⟨_, rfl, ?_⟩
  have hb2 : B + 40 * (i : Int) < 900000 + 24000 := by omega
  refine seq_go (ps1 := [some (.ref 0), some (.int most), some (.int lo), some (.int hi), some (.int (n : Nat)), some (.ref 1), some (.int (0 + (i : Nat))), some (.ref (2 + gb.length)), s8, s9, s10, none, none]) (h1 := o2 :: .lst (rs.map encR) :: (gb ++ [.lst []])) (fun K hK => ?_) ?_
  · simp
    have : gb.length + 1 + 1 = 2 + gb.length := by omega
    rw [this]
    exact (by simpa using hK)
  refine seq_cut (fun ps g => ∃ j, j < 5 ∧ ajT most lo hi (B + 40 * i + 1) n rs gb (0 + (i : Nat)) j ps g) ?_ ?_
  · rw [to_for]
    simp
    refine below0 d2 (by omega) (by decide) (by decide) fun r o4 b1 b2 d4 => ?_
    have hm : ∃ k : Int, 0 ≤ k ∧ k < 5 ∧ atI [W.int 1, .int 2, .int 2, .int 3, .int 1, .int 4, .int 2, .int 0] r = some (.int k) := by
      have : r = 0 ∨ r = 1 ∨ r = 2 ∨ r = 3 ∨ r = 4 ∨ r = 5 ∨ r = 6 ∨ r = 7 := by omega
      rcases this with rfl | rfl | rfl | rfl | rfl | rfl | rfl | rfl
      all_goals rw [atI_nat _ _ (by decide)]
      · exact ⟨1, by decide, by decide, rfl⟩
      · exact ⟨2, by decide, by decide, rfl⟩
      · exact ⟨2, by decide, by decide, rfl⟩
      · exact ⟨3, by decide, by decide, rfl⟩
      · exact ⟨1, by decide, by decide, rfl⟩
      · exact ⟨4, by decide, by decide, rfl⟩
      · exact ⟨2, by decide, by decide, rfl⟩
      · exact ⟨0, by decide, by decide, rfl⟩
    obtain ⟨k, k0, k1, ek⟩ := hm
    simp [ek]
    refine ⟨⟨by omega, by omega⟩, ?_⟩
    refine for_items (ajT most lo hi (B + 40 * i + 1) n rs gb (0 + (i : Nat))) ⟨o4, [], s8, s9, s10, by simp, by simp, rfl, fun _ z => (by cases z), d4.up (by omega)⟩ ?_ fun ps h z => ⟨k.toNat, by omega, by simpa using z⟩
    rintro j w ps h e ⟨o5, ms, t8, t9, t10, rfl, rfl, hml, hmg, d5⟩
    obtain ⟨hj, rfl⟩ := range_get e
    refine ⟨_, rfl, ?_⟩
    refine seq_op fun K hK => ?_
    simp
    refine below0 d5 (by omega) (by omega) (by omega) fun to o6 c1 c2 d6 => ?_
    refine hK _ _ ?_
    clear hK K
    refine seq_op fun K hK => ?_
    simp
    refine below0 d6 (by omega) (by omega) (by omega) fun v o7 e1 e2 d7 => ?_
    simp
    refine below0 d7 (by omega) (by decide) (by decide) fun v2 o8 e3 e4 d8 => ?_
    simp
    refine oto_at e3 (by simp; omega) fun w ew mw => ?_
    simp at mw
    have key : ∃ p, w = W.int p ∧ -1000 ≤ p ∧ p ≤ 1000 := by
      rcases mw with rfl | rfl | rfl | rfl | rfl <;> exact ⟨_, rfl, by omega, by omega⟩
    obtain ⟨p, rfl, h3, h4⟩ := key
    refine hK _ _ ?_
    clear hK K
    rw [to_drop, to_mt, to_var]
    refine ⟨_, rfl, tyW_lst (gb_at _ _ _ _), ?_⟩
    simp
    obtain ⟨pp, hpp⟩ : ∃ pp, pp = if lo < (if p < hi then p else hi) then (if p < hi then p else hi) else lo := ⟨_, rfl⟩
    have p1 : lo ≤ pp ∧ pp ≤ hi := by
      rw [hpp]
      split <;> split <;> omega
    try rw [← hpp]
    refine below0 d8 (by omega) (by decide) (by decide) fun u o9 f1 f2 d9 => ?_
    rw [wAppend_lst (gb_at _ _ _ _), if_pos (by simp; omega), pto_some, gb_set]
    refine ⟨o9, ms ++ [(to, pp, u)], _, _, _, rfl, by simp [encM], by simp [hml], ?_, d9.up (by omega)⟩
    intro m hm
    rcases List.mem_append.mp hm with z | z
    · exact hmg m z
    · rw [List.mem_singleton.mp z]
      exact ⟨c1, c2, p1.1, p1.2, f1, by show u ≤ 1; omega⟩
  · rintro ps g ⟨j, hj, o5, ms, t8, t9, t10, rfl, rfl, hml, hmg, d5⟩
    simp [tyW]
    refine below0 d5 (by omega) (by decide) (by decide) fun ow o6 a1 a2 d6 => ?_
    have sq : seqOf (.ref (2 + gb.length)) (o6 :: .lst (rs.map encR) :: (gb ++ [.lst (ms.map encM)])) = some (ms.map encM) := by
      simp only [seqOf, gb_at]
    simp [sq, wAppend]
    refine ⟨by omega, o6, rs ++ [(ow, ms)], gb ++ [.lst (ms.map encM)], _, _, _, _, _, rfl, by simp [encR, encMs], by simp [hl], ?_, d6.up (by omega)⟩
    intro r hr
    rcases List.mem_append.mp hr with z | z
    · exact hg r z
    · rw [List.mem_singleton.mp z]
      exact ⟨a1, by show ow ≤ 1; omega, by show ms.length ≤ 4; omega, hmg⟩
end Mir

/-! laws 31 to 38: _law_arena, the whole -/
namespace Mir
open PySem PySem.Spec PyProof.Rows L2
def GT (most lo hi : Int) (rs : List Rm) (ks : List (Str × List Int)) : Prop := ∃ (g1 g2 : List Int), 1 ≤ rs.length ∧ (rs.length : Int) ≤ most ∧ (∀ r ∈ rs, GRp lo hi rs.length r) ∧ ks = [(("here" : Str), g1), (("there" : Str), g2)] ∧ GI rs.length g1 ∧ GI rs.length g2
def mkT (most lo hi B : Int) (rs : List Rm) (gb : PH) (i : Nat) (ps : LS) (g : PH) : Prop := ∃ (o2 : OB) (ks : List (Str × List Int)) (s6 s7 s8 s9 s10 s12 : Option W), ps = [some (.ref 0), some (.int most), some (.int lo), some (.int hi), some (.int (rs.length : Nat)), some (.ref 1), s6, s7, s8, s9, s10, some (.ref (2 + gb.length)), s12] ∧
  g = o2 :: .lst (rs.map encR) :: (gb ++ [.lst (ks.map encK)]) ∧ IsT2 (B + 12 * i) o2 ∧ ks.map Prod.fst = (["here", "there"] : List Str).take i ∧ ∀ k ∈ ks, GI rs.length k.2
def atR (most lo hi B : Int) (w : W) (g : PH) : Prop := ∃ o2 g2 rs ks, g = o2 :: g2 ∧ w = encA rs ks ∧ GT most lo hi rs ks ∧ IsT2 (B + 1000) o2
theorem arenaT_run {B : Int} {o : OB} (d : IsT2 B o) (hB : B < 800000) {most lo hi : Int} (m1 : 1 ≤ most) (m2 : most ≤ 12) (l1 : -1000 ≤ lo) (l2 : lo ≤ hi) (l3 : hi ≤ 1000) :
    (f_Larena S_below [.ref 0, .int most, .int lo, .int hi] [o]).To (atR most lo hi B) := by
  unfold f_Larena
  rw [run_to, show startW 13 [W.ref 0, W.int most, W.int lo, W.int hi] = [some (.ref 0), some (.int most), some (.int lo), some (.int hi), none, none, none, none, none, none, none, none, none] from rfl]
  unfold b_Larena
  refine seq_op fun K hK => ?_
  simp
  refine below0 d (by omega) (by omega) (by omega) fun r0 o2 a1 a2 d2 => ?_
  simp
  refine hK _ _ ?_
  clear hK K
  obtain ⟨n, hn⟩ : ∃ n : Nat, (1 + r0 : Int) = n := ⟨(1 + r0).toNat, by omega⟩
  rw [hn]
  rw [to_seq, to_asg, to_new, to_lst, to_nil]
  refine ⟨Nat.zero_le _, ?_⟩
  rw [gN_is, oto_some]
  refine seq_cut (aiT most lo hi (B + 1) n n) (loopT d2 (by omega) most l1 l2 l3 n (by omega) (by omega)) ?_
  rintro ps g ⟨o4, rs, gb, s6, s7, s8, s9, s10, rfl, rfl, hl, hg, d4⟩
  have hB2 : B + 1 + 40 * (n : Int) ≤ B + 481 := by omega
  have d5 := d4.up hB2
  subst hl
  refine seq_go (ps1 := [some (.ref 0), some (.int most), some (.int lo), some (.int hi), some (.int (rs.length : Nat)), some (.ref 1), s6, s7, s8, s9, s10, some (.ref (2 + gb.length)), none]) (h1 := o4 :: .lst (rs.map encR) :: (gb ++ [.lst []])) (fun K hK => ?_) ?_
  · simp
    have : gb.length + 1 + 1 = 2 + gb.length := by omega
    rw [this]
    exact (by simpa using hK)
  refine seq_cut (mkT most lo hi (B + 481) rs gb 2) ?_ ?_
  · rw [to_for]
    simp
    refine for_items (mkT most lo hi (B + 481) rs gb) ⟨o4, [], _, _, _, _, _, _, rfl, rfl, by simpa using d5, rfl, fun _ z => (by cases z)⟩ ?_ fun ps h z => by simpa using z
    rintro i w ps g ei ⟨o6, ks, t6, t7, t8, t9, t10, t12, rfl, rfl, d6, hks, hkg⟩
    have hi2 : i < 2 := by simpa using (List.getElem?_eq_some_iff.mp ei).1
    obtain ⟨nm, rfl, enm⟩ : ∃ nm : Str, w = .str nm ∧ (["here", "there"] : List Str)[i]? = some nm := by
      have : i = 0 ∨ i = 1 := by omega
      rcases this with rfl | rfl
      · simp at ei; exact ⟨_, ei.symm, rfl⟩
      · simp at ei; exact ⟨_, ei.symm, rfl⟩
    refine ⟨_, rfl, ?_⟩
    rw [to_drop, to_mt, to_var]
    refine ⟨_, rfl, tyW_lst (gb_at _ _ _ _), ?_⟩
    rw [to_cons, to_tup, to_cons, to_var]
    refine ⟨_, rfl, ?_⟩
    rw [to_cons, to_on, to_lc, to_range1, to_var]
    refine ⟨_, rfl, _, rfl, ⟨by omega, by omega⟩, ?_⟩
    rw [Int.toNat_natCast]
    refine lc_drawT (a := 6) d6 (by omega) rs.length (by omega) _ ?_ ?_ (by decide) fun l o7 gl d7 => ?_
    · simp [wipeW]
    · simp [wipeW]
    have kl : ks.length ≤ 2 := by
      have := congrArg List.length hks
      simp at this
      omega
    simp
    rw [wAppend_lst (gb_at _ _ _ _), if_pos (by simp; omega), pto_some, gb_set]
    refine ⟨o7, ks ++ [(nm, l)], _, _, _, _, _, _, rfl, by simp [encK, encI], d7.up (by omega), ?_, ?_⟩
    · rw [List.map_append, hks, List.take_succ, enm]
      rfl
    · intro k hk
      rcases List.mem_append.mp hk with z | z
      · exact hkg k z
      · rw [List.mem_singleton.mp z]
        exact gl
  · rintro ps g ⟨o6, ks, t6, t7, t8, t9, t10, t12, rfl, rfl, d6, hks, hkg⟩
    obtain ⟨g1, g2, rfl⟩ : ∃ g1 g2, ks = [(("here" : Str), g1), (("there" : Str), g2)] := by
      have hl := congrArg List.length hks
      match ks, hl with
      | [a, b], _ =>
        obtain ⟨a1, a2⟩ := a
        obtain ⟨b1, b2⟩ := b
        have hks : [a1, b1] = (["here", "there"] : List Str) := hks
        simp only [List.cons.injEq, and_true] at hks
        exact ⟨a2, b2, by rw [hks.1, hks.2]⟩
    have sq : seqOf (.ref (2 + gb.length)) (o6 :: .lst (rs.map encR) :: (gb ++ [.lst [encK (("here" : Str), g1), encK (("there" : Str), g2)]])) = some [encK (("here" : Str), g1), encK (("there" : Str), g2)] := by
      simp only [seqOf, gb_at]
    have sq1 : ∀ gg, seqOf (.ref 1) (o6 :: .lst (rs.map encR) :: gg) = some (rs.map encR) := fun gg => rfl
    rw [to_ret, to_tup, to_cons, to_on, to_seqm, to_var]
    refine ⟨_, rfl, ?_⟩
    rw [sq1, oto_some]
    simp [sq]
    exact ⟨_, _, rs, _, rfl, rfl, ⟨g1, g2, by omega, by omega, hg, rfl, hkg _ (List.mem_cons_self), hkg _ (List.mem_cons_of_mem _ List.mem_cons_self)⟩, d6.up (by omega)⟩
def S_arenaT : FM := lift1 (f_Larena S_below)
theorem fits_Larena : Fits (f_Larena S_below) S_arenaT := fits_lift1 _
theorem arenaT_to {B : Int} {o : OB} (d : IsT2 B o) (hB : B < 800000) {most lo hi : Int} (m1 : 1 ≤ most) (m2 : most ≤ 12) (l1 : -1000 ≤ lo) (l2 : lo ≤ hi) (l3 : hi ≤ 1000) {g : PH} {Q : W → PH → Prop}
    (q : ∀ rs ks o2, GT most lo hi rs ks → IsT2 (B + 1000) o2 → Q (encA rs ks) (o2 :: g)) : (S_arenaT [.ref 0, .int most, .int lo, .int hi] (o :: g)).To Q :=
  lift1_to (P := fun w o2 => ∃ rs ks, w = encA rs ks ∧ GT most lo hi rs ks ∧ IsT2 (B + 1000) o2) (n := 0) rfl d.refs (by simp) ((arenaT_run d hB m1 m2 l1 l2 l3).mono fun w g z => by
    obtain ⟨o2, g2, rs, ks, rfl, rfl, z1, z2⟩ := z
    exact ⟨o2, g2, rfl, z2.refs, refs_A _ _, rs, ks, rfl, z1, z2⟩) fun w o2 z => by
      obtain ⟨rs, ks, rfl, z1, z2⟩ := z
      simpa using q rs ks o2 z1 z2
end Mir

/-! laws 35-38: arenas as drawn (shared) -/
namespace Mir
open PySem PySem.Spec PyProof.Rows L2
theorem gr_ofZ {lo hi : Int} {n : Nat} {r : Rm} (l1 : -1000 ≤ lo) (l3 : hi ≤ 1000) (h : GRp lo hi n r) : GR n r := ⟨h.1, h.2.1, by have := h.2.2.1; omega, fun m hm => by
  have := h.2.2.2 m hm
  exact ⟨this.1, this.2.1, by have := this.2.2.1; omega, by have := this.2.2.2.1; omega, this.2.2.2.2.1, this.2.2.2.2.2⟩⟩
theorem nats_ofZ {n : Nat} {l : List Int} (h : incr n l) : ∃ Sn : List Nat, l = (Sn.map fun i : Nat => (i : Int)) ∧ Sn.Nodup ∧ ∀ x ∈ Sn, x < n := by
  refine ⟨l.map Int.toNat, ?_, ?_, fun x hx => ?_⟩
  · rw [List.map_map]
    have : l.map ((fun i : Nat => (i : Int)) ∘ Int.toNat) = l.map id := List.map_congr_left fun x hx => by
      have := (h.2 x hx).1
      simp only [Function.comp_apply, id]
      omega
    rw [this, List.map_id]
  · have := h.1
    unfold List.Nodup
    rw [List.pairwise_map]
    refine List.Pairwise.imp_of_mem (fun {a b} ha hb hab => ?_) this
    have := (h.2 a ha).1
    omega
  · obtain ⟨y, hy, rfl⟩ := List.mem_map.mp hx
    have := h.2 y hy
    omega
theorem encA_smZ {rs : List Rm} {ks : List (Str × List Int)} (hn : rs.length ≤ 12) (hg : GRs rs.length rs) {x y : Str} (hx : wordOkZ x = true) (hy : wordOkZ y = true) {g1 g2 : List Int} (e : ks = [(x, g1), (y, g2)]) (i1 : GI rs.length g1) (i2 : GI rs.length g2) :
    plW 5 (encA rs ks) = true ∧ smV (encA rs ks) = true ∧ wV (encA rs ks) ≤ 60000 := by
  have wx := wordOk_ofZ hx
  have wy := wordOk_ofZ hy
  have sI : ∀ g : List Int, GI rs.length g → smVs (g.map W.int) = true ∧ wVs (g.map W.int) ≤ 51 * 12 := fun g hg => by
    refine ⟨smVs_map _ _ fun a ha => ?_, ?_⟩
    · have := hg.2.2 a ha
      rw [smV_int]
      exact decide_eq_true (by omega)
    · refine Nat.le_trans (wVs_map _ _ 50 fun a _ => by rw [wV_int]; exact Nat.le_refl _) (Nat.mul_le_mul_left _ ?_)
      have := hg.1
      omega
  have sM : ∀ r ∈ rs, smV (encR r) = true ∧ wV (encR r) ≤ 4000 := fun r hr => by
    have gr := hg r hr
    have a : smVs (r.2.map encM) = true := smVs_map _ _ fun m hm => by
      have gm := gr.2.2.2 m hm
      have h1 := gm.1
      have h2 := gm.2.1
      have h3 := gm.2.2.1
      have h4 := gm.2.2.2.1
      have h5 := gm.2.2.2.2.1
      have h6 := gm.2.2.2.2.2
      unfold encM
      simp only [smV_tup, smVs_cons, smVs_nil, smV_int, Bool.and_true, Bool.and_eq_true]
      exact ⟨decide_eq_true (by omega), decide_eq_true (by omega), decide_eq_true (by omega)⟩
    have b : wVs (r.2.map encM) ≤ (153 + 1) * 24 := Nat.le_trans (wVs_map _ _ 153 fun m _ => by
      unfold encM
      simp only [wV_tup, wVs_cons, wVs_nil, wV_int]
      omega) (Nat.mul_le_mul_left _ gr.2.2.1)
    have h1 := gr.1
    have h2 := gr.2.1
    unfold encR encMs
    simp only [smV_tup, smVs_cons, smVs_nil, smV_int, wV_tup, wVs_cons, wVs_nil, wV_int, a, Bool.and_true]
    exact ⟨decide_eq_true (by omega), by omega⟩
  obtain ⟨a1, a2⟩ := sI g1 i1
  obtain ⟨b1, b2⟩ := sI g2 i2
  have c1 : smVs (rs.map encR) = true := smVs_map _ _ fun r hr => (sM r hr).1
  have c2 : wVs (rs.map encR) ≤ (4000 + 1) * 12 := Nat.le_trans (wVs_map _ _ 4000 fun r hr => (sM r hr).2) (Nat.mul_le_mul_left _ hn)
  have p1 : plWs 3 (rs.map encR) = true := pls_map _ _ fun r _ => by
    have : plWs 1 (r.2.map encM) = true := pls_map _ _ fun m _ => by unfold encM; simp
    unfold encR encMs
    simp only [pl_tup, pls_cons, pls_nil, pl_int, this, Bool.and_true]
  subst e
  have h1 := wx.2.2.1
  have h2 := wy.2.2.1
  refine ⟨?_, ?_, ?_⟩
  · unfold encA
    simp only [pl_tup, pls_cons, pls_nil, p1, List.map_cons, List.map_nil, encK, encI, pl_str, wx.1, wy.1, pls_ints, Bool.and_true]
  · unfold encA encK encI
    simp only [smV_tup, smVs_cons, smVs_nil, smV_str, List.map_cons, List.map_nil, c1, a1, b1, wx.2.1, wy.2.1, Bool.and_true]
  · unfold encA encK encI
    simp only [wV_tup, wVs_cons, wVs_nil, wV_str, List.map_cons, List.map_nil]
    omega
theorem GTZ_gr {most lo hi : Int} (l1 : -1000 ≤ lo) (l3 : hi ≤ 1000) {rs : List Rm} {ks : List (Str × List Int)} (ga : GT most lo hi rs ks) : 1 ≤ rs.length ∧ (rs.length : Int) ≤ most ∧ GRs rs.length rs ∧ ∀ r ∈ rs, ∀ m ∈ r.2, lo ≤ m.2.1 ∧ m.2.1 ≤ hi := by
  obtain ⟨g1, g2, n1, n10, hgp, hks, i1, i2⟩ := ga
  exact ⟨n1, n10, fun r hr => gr_ofZ l1 l3 (hgp r hr), fun r hr m hm => by
    have := (hgp r hr).2.2.2 m hm
    exact ⟨this.2.2.1, this.2.2.2.1⟩⟩
theorem GTZ_repr {most lo hi : Int} (hm : most ≤ 12) (l1 : -1000 ≤ lo) (l3 : hi ≤ 1000) {rs : List Rm} {ks : List (Str × List Int)} (ga : GT most lo hi rs ks) : ∃ t : Str, ∀ g, wRepr [encA rs ks] g = some (.str t, g) := by
  obtain ⟨_, _, hg, _⟩ := GTZ_gr l1 l3 ga
  obtain ⟨g1, g2, n1, n10, hgp, hks, i1, i2⟩ := ga
  obtain ⟨p1, p2, p3⟩ := encA_smZ (by omega) hg (x := "here") (y := "there") (by decide +kernel) (by decide +kernel) hks i1 i2
  exact ⟨_, fun g => repr_tupV p1 (by decide) p2 (Nat.le_trans p3 (by decide))⟩
end Mir

/-! law_k35, plain: plans -/
namespace Mir
open PySem PySem.Spec PyProof.Rows L2
def somePl (r : Rm) : List (List Mv) := if r.1 = 1 ∨ r.2 = [] then [r.2] else r.2.map fun m => [m]
def plansF (F : List (List (List Mv))) (r : Rm) : List (List (List Mv)) := (F.map fun pl => (somePl r).map fun one => pl ++ [one]).flatten
def plansL (rs : List Rm) : List (List (List Mv)) := rs.foldl plansF [[]]
structure Pl (pl : List (List Mv)) (rs : List Rm) : Prop where
  len : pl.length = rs.length
  at' : ∀ i, i < rs.length → pl.getD i [] ∈ somePl (rs.getD i (0, []))
def pmv (pl : List (List Mv)) (r : Nat) : List (Nat × Int) := (pl.getD r []).map fun m => (m.1.toNat, m.2.1)
section
variable {rs : List Rm} {pl : List (List Mv)} {r n k : Nat}
theorem getD_left {α : Type} {a : List α} {b : List α} {i : Nat} {d : α} (h : i < a.length) : (a ++ b).getD i d = a.getD i d := by
  simp [List.getD, List.getElem?_append_left h]
theorem getD_last {α : Type} {a : List α} {x d : α} : (a ++ [x]).getD a.length d = x := by
  simp [List.getD]
theorem plans_step {F : List (List (List Mv))} {r : Rm} : pl ∈ plansF F r ↔ ∃ p0 ∈ F, ∃ one ∈ somePl r, pl = p0 ++ [one] := by
  unfold plansF
  rw [List.mem_flatten]
  constructor
  · rintro ⟨l, hl, hp⟩
    obtain ⟨p0, h0, rfl⟩ := List.mem_map.mp hl
    obtain ⟨one, h1, rfl⟩ := List.mem_map.mp hp
    exact ⟨p0, h0, one, h1, rfl⟩
  · rintro ⟨p0, h0, one, h1, rfl⟩
    exact ⟨_, List.mem_map.mpr ⟨p0, h0, rfl⟩, List.mem_map.mpr ⟨one, h1, rfl⟩⟩
theorem plans_snoc {l : List Rm} {x : Rm} : plansL (l ++ [x]) = plansF (plansL l) x := by
  unfold plansL
  rw [List.foldl_append]
  rfl
theorem plans_mem : ∀ (m : Nat) (rs : List Rm), rs.length = m → ∀ pl, (pl ∈ plansL rs ↔ Pl pl rs) := by
  intro m
  induction m with
  | zero =>
    intro rs hl pl
    have : rs = [] := List.length_eq_zero_iff.mp hl
    subst this
    unfold plansL
    rw [List.foldl_nil, List.mem_singleton]
    exact ⟨fun e => ⟨by rw [e]; rfl, fun i hi => by cases hi⟩, fun h => List.length_eq_zero_iff.mp h.len⟩
  | succ m ih =>
    intro rs hl pl
    obtain ⟨l, x, rfl⟩ : ∃ l x, rs = l ++ [x] := by
      have hne : rs ≠ [] := fun z => by rw [z] at hl; cases hl
      exact ⟨_, _, (List.dropLast_concat_getLast hne).symm⟩
    have hl2 : l.length = m := by simpa using hl
    rw [plans_snoc, plans_step]
    constructor
    · rintro ⟨p0, h0, one, h1, rfl⟩
      have P := (ih l hl2 p0).mp h0
      refine ⟨by simp [P.len], fun i hi => ?_⟩
      by_cases e : i < l.length
      · rw [getD_left (a := p0) (by rw [P.len]; exact e), getD_left (a := l) e]
        exact P.at' i e
      · have e : i = l.length := by simp at hi; omega
        subst e
        rw [getD_last, ← P.len, getD_last]
        exact h1
    · intro P
      have pl1 : pl.length = l.length + 1 := by simpa using P.len
      obtain ⟨p0, one, rfl⟩ : ∃ p0 one, pl = p0 ++ [one] := by
        have hne : pl ≠ [] := fun z => by rw [z] at pl1; cases pl1
        exact ⟨_, _, (List.dropLast_concat_getLast hne).symm⟩
      have l0 : p0.length = l.length := by simpa using pl1
      refine ⟨p0, (ih l hl2 p0).mpr ⟨l0, fun i hi => ?_⟩, one, ?_, rfl⟩
      · have := P.at' i (by simp; omega)
        rwa [getD_left (a := p0) (by omega), getD_left (a := l) hi] at this
      · have := P.at' l.length (by simp)
        rw [getD_last, ← l0, getD_last] at this
        exact this
theorem plansF_len {F : List (List (List Mv))} {x : Rm} : (plansF F x).length = F.length * (somePl x).length := by
  unfold plansF
  induction F with
  | nil => simp
  | cons a F ih =>
    rw [List.map_cons, List.flatten_cons, List.length_append, ih, List.length_map, List.length_cons, Nat.add_mul]
    omega
theorem some_len {x : Rm} (h : x.2.length ≤ 24) : (somePl x).length ≤ 24 := by
  unfold somePl
  split
  · simp
  · rw [List.length_map]; exact h
theorem plans_len : ∀ (m : Nat) (rs : List Rm), rs.length = m → (∀ r ∈ rs, r.2.length ≤ 24) → (plansL rs).length ≤ 24 ^ m := by
  intro m
  induction m with
  | zero =>
    intro rs hl _
    have : rs = [] := List.length_eq_zero_iff.mp hl
    subst this
    exact Nat.le_refl _
  | succ m ih =>
    intro rs hl hr
    obtain ⟨l, x, rfl⟩ : ∃ l x, rs = l ++ [x] := by
      have hne : rs ≠ [] := fun z => by rw [z] at hl; cases hl
      exact ⟨_, _, (List.dropLast_concat_getLast hne).symm⟩
    have h1 := ih l (by simpa using hl) fun r h => hr r (List.mem_append_left _ h)
    rw [plans_snoc, plansF_len, Nat.pow_succ]
    exact Nat.mul_le_mul h1 (some_len (hr x (List.mem_append_right _ (List.mem_singleton.mpr rfl))))
/-- a plan's moves -/
theorem pl_is (P : Pl pl rs) (hr : r < rs.length) : (pl.getD r [] = Mvz rs r ∧ (Ow rs r = 1 ∨ Mvz rs r = [])) ∨ (Ow rs r ≠ 1 ∧ ∃ m ∈ Mvz rs r, pl.getD r [] = [m]) := by
  have h := P.at' r hr
  unfold somePl at h
  split at h
  · rename_i z
    exact .inl ⟨List.mem_singleton.mp h, z⟩
  · rename_i z
    obtain ⟨m, hm, e⟩ := List.mem_map.mp h
    exact .inr ⟨fun y => z (.inl y), m, hm, e.symm⟩
theorem pmv_sub (P : Pl pl rs) (hr : r < rs.length) : ∀ m ∈ pmv pl r, m ∈ gmv rs r := fun m hm => by
  unfold pmv at hm
  unfold gmv
  rcases pl_is P hr with ⟨e, _⟩ | ⟨_, x, hx, e⟩
  · rwa [e] at hm
  · rw [e] at hm
    rw [List.mem_singleton.mp hm]
    exact List.mem_map.mpr ⟨x, hx, rfl⟩
theorem pmv_lt (hg : GRs rs.length rs) (P : Pl pl rs) (hr : r < rs.length) : ∀ m ∈ pmv pl r, m.1 < rs.length := fun m hm => by
  obtain ⟨k, hk, rfl⟩ := gmv_mem.mp (pmv_sub P hr m hm)
  exact tgz_lt hg hr hk
theorem poa_pos {C : Nat → Prop} {q : Nat → Int} (hC : ∀ r, C r → r < rs.length) (ow : ∀ r, r < rs.length → Ow rs r = 0 ∨ Ow rs r = 1) (P : Pl pl rs) (h : PoA (pmv pl) C q) : PoS (gown rs) (gmv rs) C q := by
  refine ⟨fun r hr ho => ?_, fun r hr ho m hm => ?_⟩
  · rcases pl_is P (hC r hr) with ⟨e, z⟩ | ⟨_, x, hx, e⟩
    · have ho := of_decide_eq_true ho
      rcases z with z | z
      · omega
      · exact .inl (gmv_nil.mpr z)
    · have hm : (x.1.toNat, x.2.1) ∈ pmv pl r := by unfold pmv; rw [e]; exact List.mem_singleton.mpr rfl
      exact .inr ⟨_, pmv_sub P (hC r hr) _ hm, h r hr _ hm⟩
  · have ho := of_decide_eq_false ho
    have o1 : Ow rs r = 1 := (ow r (hC r hr)).resolve_left ho
    refine h r hr m ?_
    rcases pl_is P (hC r hr) with ⟨e, z⟩ | ⟨z, _⟩
    · unfold pmv
      rw [e]
      exact hm
    · exact absurd o1 z
/-! ### lost rooms -/
def lostB (n : Nat) (mv : Nat → List (Nat × Int)) : Nat → Nat → Bool
  | 0, r => decide (fnd mv n r < fnd mv (n + 1) r)
  | k + 1, r => lostB n mv k r || (mv r).any fun m => lostB n mv k m.1
variable {mv : Nat → List (Nat × Int)}
theorem lost_up (h : lostB n mv k r = true) {j : Nat} (hj : k ≤ j) : lostB n mv j r = true := by
  induction j with
  | zero => rwa [show k = 0 by omega] at h
  | succ j ih =>
    by_cases e : k = j + 1
    · rwa [e] at h
    · unfold lostB
      rw [ih (by omega)]
      rfl
theorem lost_list (cl : ∀ r, r < n → ∀ m ∈ mv r, m.1 < n) : ∀ {k r : Nat}, r < n → lostB n mv (k + 1) r = true → lostB n mv k r = false → ∃ l : List Nat, l.length = k + 2 ∧ l.Nodup ∧ ∀ x ∈ l, x < n ∧ lostB n mv (k + 1) x = true
  | 0, r, hr, h1, h2 => by
    have h3 := h1
    unfold lostB at h3
    rw [h2, Bool.false_or, List.any_eq_true] at h3
    obtain ⟨m, hm, e⟩ := h3
    refine ⟨[r, m.1], rfl, ?_, fun x hx => ?_⟩
    · have : r ≠ m.1 := fun z => by rw [← z, h2] at e; cases e
      simp [this]
    · simp only [List.mem_cons, List.not_mem_nil, or_false] at hx
      rcases hx with rfl | rfl
      · exact ⟨hr, h1⟩
      · exact ⟨cl r hr m hm, lost_up e (Nat.zero_le _)⟩
  | k + 1, r, hr, h1, h2 => by
    have h3 := h1
    unfold lostB at h3
    rw [h2, Bool.false_or, List.any_eq_true] at h3
    obtain ⟨m, hm, e⟩ := h3
    have e2 : lostB n mv k m.1 = false := by
      cases z : lostB n mv k m.1 with
      | false => rfl
      | true =>
        have h4 := h2
        unfold lostB at h4
        rw [Bool.or_eq_false_iff] at h4
        have := List.any_eq_false.mp h4.2 m hm
        exact absurd z (by simpa using this)
    obtain ⟨l, l1, l2, l3⟩ := lost_list cl (cl r hr m hm) e e2
    refine ⟨r :: l, by simp [l1], List.nodup_cons.mpr ⟨fun z => ?_, l2⟩, fun x hx => ?_⟩
    · have := (l3 r z).2
      rw [h2] at this
      cases this
    · rcases List.mem_cons.mp hx with rfl | hx
      · exact ⟨hr, h1⟩
      · exact ⟨(l3 x hx).1, lost_up (l3 x hx).2 (by omega)⟩
theorem lost_stop (cl : ∀ r, r < n → ∀ m ∈ mv r, m.1 < n) (hr : r < n) (h : lostB n mv n r = false) : ∀ m ∈ mv r, lostB n mv n m.1 = false := fun m hm => by
  cases z : lostB n mv n m.1 with
  | false => rfl
  | true =>
    exfalso
    obtain ⟨k, rfl⟩ : ∃ k : Nat, n = k + 1 := ⟨n - 1, (Nat.sub_add_cancel (Nat.lt_of_le_of_lt (Nat.zero_le r) hr)).symm⟩
    have h4 := h
    unfold lostB at h4
    rw [Bool.or_eq_false_iff] at h4
    have e : lostB (k + 1) mv k m.1 = false := by simpa using List.any_eq_false.mp h4.2 m hm
    obtain ⟨l, l1, l2, l3⟩ := lost_list cl (cl r hr m hm) z e
    have := ndu_len l2 fun x hx => (l3 x hx).1
    omega
/-- what a plan wants -/
def vP (rs : List Rm) (pl : List (List Mv)) (r : Nat) : Option Int := if lostB rs.length (pmv pl) rs.length r = true then none else some (fnd (pmv pl) rs.length r)
variable {st : Rst}
theorem plan_no (hg : GRs rs.length rs) (R : RaE rs (bndZ rs) st) (P : Pl pl rs) (hr : r < rs.length) {v : Int} (h : vP rs pl r = some v) : ∃ u, st.p r = some u ∧ u ≤ v := by
  have cl : ∀ r, r < rs.length → ∀ m ∈ pmv pl r, m.1 < rs.length := fun r hr => pmv_lt hg P hr
  have sa : PoA (pmv pl) (fun r => r < rs.length ∧ lostB rs.length (pmv pl) rs.length r = false) (fnd (pmv pl) rs.length) := fun x hx m hm => by
    refine ⟨⟨cl x hx.1 m hm, lost_stop cl hx.1 hx.2 m hm⟩, ?_⟩
    have n0 : ¬ fnd (pmv pl) rs.length x < fnd (pmv pl) (rs.length + 1) x := fun z => by
      have : lostB rs.length (pmv pl) 0 x = true := decide_eq_true z
      have h2 : lostB rs.length (pmv pl) rs.length x = false := hx.2
      rw [lost_up this (Nat.zero_le _)] at h2
      cases h2
    have := fnd_ge (mv := pmv pl) (k := rs.length) hm
    omega
  have ps := poa_pos (fun r hr => hr.1) (fun r hr => ow_01 hg hr) P sa
  unfold vP at h
  split at h
  · cases h
  · rename_i z
    cases h
    exact least_any R.least mostW rfl ps (fun x hx => ⟨hx.1, fnd_0⟩) r ⟨hr, by simpa using z⟩
theorem plan_yes (hg : GRs rs.length rs) (R : RaE rs (bndZ rs) st) : ∃ pl, Pl pl rs ∧ ∀ r, r < rs.length → ∀ u, st.p r = some u → ∃ v, vP rs pl r = some v ∧ v ≤ u := by
  obtain ⟨s, b⟩ := re_ss hg R
  have ch : ∀ r, ∃ c : List Mv, r < rs.length → c ∈ somePl (rs.getD r (0, [])) ∧ (FinP rs st.p r → ∀ m ∈ c, okm (FinP rs st.p) (fun r => (st.p r).getD 0) r (m.1.toNat, m.2.1)) := fun r => by
    by_cases hr : r < rs.length
    · by_cases hc : Ow rs r = 1 ∨ Mvz rs r = []
      · refine ⟨Mvz rs r, fun _ => ⟨?_, fun hf m hm => ?_⟩⟩
        · have hc2 : (rs.getD r (0, [])).1 = 1 ∨ (rs.getD r (0, [])).2 = [] := hc
          unfold somePl
          rw [if_pos hc2]
          exact List.mem_singleton.mpr rfl
        · rcases hc with z | z
          · exact s.all r hf (decide_eq_false (by omega)) _ (List.mem_map.mpr ⟨m, hm, rfl⟩)
          · rw [z] at hm; cases hm
      · have ho : Ow rs r = 0 := (ow_01 hg hr).resolve_right fun z => hc (.inl z)
        have in1 : ∀ m ∈ Mvz rs r, [m] ∈ somePl (rs.getD r (0, [])) := fun m hm => by
          have hc2 : ¬ ((rs.getD r (0, [])).1 = 1 ∨ (rs.getD r (0, [])).2 = []) := hc
          unfold somePl
          rw [if_neg hc2]
          exact List.mem_map.mpr ⟨m, hm, rfl⟩
        by_cases hf : FinP rs st.p r
        · rcases s.one r hf (decide_eq_true ho) with z | ⟨m, hm, ok⟩
          · exact absurd (gmv_nil.mp z) fun y => hc (.inr y)
          · obtain ⟨x, hx, rfl⟩ := List.mem_map.mp hm
            exact ⟨[x], fun _ => ⟨in1 x hx, fun _ y hy => by rw [List.mem_singleton.mp hy]; exact ok⟩⟩
        · obtain ⟨x, hx⟩ := List.exists_mem_of_ne_nil _ fun y => hc (.inr y)
          exact ⟨[x], fun _ => ⟨in1 x hx, fun z => absurd z hf⟩⟩
    · exact ⟨[], fun z => absurd z hr⟩
  obtain ⟨c, hc⟩ := Classical.axiomOfChoice ch
  obtain ⟨pl, hpl⟩ : ∃ pl, pl = (List.range rs.length).map c := ⟨_, rfl⟩
  have at' : ∀ r, r < rs.length → pl.getD r [] = c r := fun r hr => by
    rw [hpl]
    simp [List.getD, List.getElem?_range hr]
  have P : Pl pl rs := ⟨by rw [hpl]; simp, fun i hi => by rw [at' i hi]; exact (hc i hi).1⟩
  have sa : PoA (pmv pl) (FinP rs st.p) (fun r => (st.p r).getD 0) := fun x hx m hm => by
    unfold pmv at hm
    rw [at' x hx.1] at hm
    obtain ⟨y, hy, rfl⟩ := List.mem_map.mp hm
    exact (hc x hx.1).2 hx y hy
  have nl : ∀ k x, FinP rs st.p x → lostB rs.length (pmv pl) k x = false := fun k => by
    induction k with
    | zero =>
      intro x hx
      refine decide_eq_false fun z => ?_
      have := fnd_stop (n := rs.length) (k := rs.length) sa (fun r hr => hr.1) hx (by omega)
      omega
    | succ k ih =>
      intro x hx
      unfold lostB
      rw [ih x hx, Bool.false_or, List.any_eq_false]
      intro m hm
      rw [ih m.1 (sa x hx m hm).1]
      simp
  refine ⟨pl, P, fun r hr u hu => ?_⟩
  have hf : FinP rs st.p r := ⟨hr, by rw [hu]; exact fun z => by cases z⟩
  refine ⟨fnd (pmv pl) rs.length r, ?_, ?_⟩
  · unfold vP
    rw [nl _ r hf]
    rfl
  · have := fnd_le sa (fun r hr => (b r hr).1) (k := rs.length) hf
    rw [hu] at this
    exact this
end
end Mir

/-! law_k35: plans and what they want, walked -/
namespace Mir
open PySem PySem.Spec PyProof.Rows L2
def encPl (pl : List (List Mv)) : W := .tup (pl.map encMs)
theorem rv_at {H e : PH} {o : OB} : (H ++ o :: e)[H.length]? = some o := by
  rw [List.getElem?_append_right (Nat.le_refl _), Nat.sub_self]
  rfl
theorem rv_put {H e : PH} {o o2 : OB} : (H ++ o :: e).set H.length o2 = H ++ o2 :: e := by
  rw [List.set_append_right _ _ (Nat.le_refl _), Nat.sub_self]
  rfl
section
variable {rs : List Rm} {ks : List (Str × List Int)}
theorem some_W {x : Rm} : (if x.1 = 1 ∨ x.2 = [] then W.fix [encMs x.2] else W.fix (x.2.map fun m => encMs [m])) = W.fix ((somePl x).map encMs) := by
  unfold somePl
  split
  · rfl
  · rw [List.map_map]
    rfl
def plO (rs : List Rm) (ks : List (Str × List Int)) (i : Nat) (ps : LS) (g : PH) : Prop := ∃ (k : Nat) (s2 s3 s4 s5 s6 : Option W), ps = [some (encA rs ks), some (.ref k), s2, s3, s4, s5, s6, none, none] ∧ g[k]? = some (.lst ((plansL (rs.take i)).map encPl))
theorem plans_run (hn : rs.length ≤ 4) (hg : GRs rs.length rs) : (f_Lplans [encA rs ks] []).To fun w g => ∃ k, w = .ref k ∧ g[k]? = some (.lst ((plansL rs).map encPl)) := by
  unfold f_Lplans
  rw [run_to, show startW 9 [encA rs ks] = [some (encA rs ks), none, none, none, none, none, none, none, none] from rfl]
  unfold b_Lplans
  refine seq_go (ps1 := [some (encA rs ks), some (.ref 0), none, none, none, none, none, none, none]) (h1 := [.lst [.tup []]]) (fun K hK => by simp; exact hK) ?_
  refine seq_cut (plO rs ks rs.length) ?_ ?_
  · rw [to_for]
    simp
    refine for_items (plO rs ks) ⟨0, none, none, none, none, none, rfl, rfl⟩ ?_ fun ps g z => by rwa [List.length_map] at z
    rintro i w ps g ei ⟨k, s2, s3, s4, s5, s6, rfl, hk⟩
    rw [List.getElem?_map] at ei
    obtain ⟨x, ex, rfl⟩ := Option.map_eq_some_iff.mp ei
    have hil := (List.getElem?_eq_some_iff.mp ex).1
    have hx := List.mem_of_getElem? ex
    have l24 := (hg x hx).2.2.1
    have hkl := (List.getElem?_eq_some_iff.mp hk).1
    have tk : rs.take (i + 1) = rs.take i ++ [x] := by rw [List.take_succ, ex]; rfl
    obtain ⟨F, hF⟩ : ∃ F, F = plansL (rs.take i) := ⟨_, rfl⟩
    have nx : plansL (rs.take (i + 1)) = plansF F x := by rw [tk, plans_snoc, hF]
    have Fl : (plansF F x).length ≤ 400000 := by
      rw [← nx]
      have h1 := plans_len (rs.take (i + 1)).length (rs.take (i + 1)) rfl fun r hr => (hg r (List.mem_of_mem_take hr)).2.2.1
      have h2 : (rs.take (i + 1)).length ≤ 4 := by rw [List.length_take]; omega
      have h3 : 24 ^ (rs.take (i + 1)).length ≤ 24 ^ 4 := Nat.pow_le_pow_right (by decide) h2
      omega
    have Fl0 : F.length ≤ 400000 := by
      have h1 := plans_len (rs.take i).length (rs.take i) rfl fun r hr => (hg r (List.mem_of_mem_take hr)).2.2.1
      have h2 : (rs.take i).length ≤ 4 := by rw [List.length_take]; omega
      have h3 : 24 ^ (rs.take i).length ≤ 24 ^ 4 := Nat.pow_le_pow_right (by decide) h2
      rw [hF]
      omega
    rw [← hF] at hk
    refine ⟨_, rfl, ?_⟩
    refine seq_go (ps1 := [some (encA rs ks), some (.ref k), some (.int x.1), some (encMs x.2), some (.fix ((somePl x).map encMs)), s5, s6, none, none]) (h1 := g) (fun K hK => ?_) ?_
    · rw [← some_W] at hK
      rw [to_asg, to_if, to_or]
      simp only [to_mB, to_op, to_var, to_C, to_tup, to_nil]
      refine ⟨_, rfl, ?_⟩
      rw [wEq_int, pto_some, bto_bl]
      refine .of (fun h1 => ?_) fun h1 => ?_
      · rw [if_pos (.inl h1)] at hK
        rw [Ite_true]
        simp
        exact hK
      · refine ⟨_, rfl, by simp, ?_⟩
        rw [neZ_Ms, pto_some, bto_bl]
        refine .of (fun h2 => ?_) fun h2 => ?_
        · rw [if_pos (.inr h2)] at hK
          simp
          exact hK
        · rw [if_neg (fun z => z.elim h1 h2)] at hK
          rw [to_fix, to_lc, to_iter, to_var]
          refine ⟨_, rfl, ?_⟩
          rw [show encMs x.2 = .tup (x.2.map encM) from rfl, iterOf_tup, oto_some]
          refine lc_map (L := x.2) (enc := encM) (u := fun m => encMs [m]) (by omega) (fun m hm => ⟨_, rfl, fun Q q => ?_⟩) ?_
          · simp [wipeW]
            exact q
          · rw [gN_is, oto_some]
            exact hK
    refine seq_go (ps1 := [some (encA rs ks), some (.ref k), some (.int x.1), some (encMs x.2), some (.fix ((somePl x).map encMs)), some (.ref g.length), s6, none, none]) (h1 := g ++ .lst [] :: []) (fun K hK => by simp; exact hK) ?_
    refine seq_cut (fun ps g2 => ∃ s6 : Option W, ps = [some (encA rs ks), some (.ref k), some (.int x.1), some (encMs x.2), some (.fix ((somePl x).map encMs)), some (.ref g.length), s6, none, none] ∧ g2 = g ++ .lst ((plansF F x).map encPl) :: []) ?_ ?_
    · rw [to_for, to_iter, to_var]
      refine ⟨_, rfl, ?_⟩
      have hk2 : ∀ o, (g ++ o :: [])[k]? = some (.lst (F.map encPl)) := fun o => by rw [List.getElem?_append_left hkl]; exact hk
      rw [iter_lst (hk2 _), oto_some]
      refine for_live (items := F.map encPl) (by simp; unfold big; omega) (fun j ps g2 => ∃ s6 : Option W, ps = [some (encA rs ks), some (.ref k), some (.int x.1), some (encMs x.2), some (.fix ((somePl x).map encMs)), some (.ref g.length), s6, none, none] ∧ g2 = g ++ .lst ((plansF (F.take j) x).map encPl) :: []) (fun j ps g2 z => by obtain ⟨_, _, rfl⟩ := z; exact hk2 _) ⟨_, rfl, rfl⟩ ?_ ?_
      · rintro j w ps g2 ej ⟨s6, rfl, rfl⟩
        rw [List.getElem?_map] at ej
        obtain ⟨pl, epl, rfl⟩ := Option.map_eq_some_iff.mp ej
        have hjl := (List.getElem?_eq_some_iff.mp epl).1
        have tj : F.take (j + 1) = F.take j ++ [pl] := by rw [List.take_succ, epl]; rfl
        have st : plansF (F.take (j + 1)) x = plansF (F.take j) x ++ (somePl x).map fun one => pl ++ [one] := by
          rw [tj]
          unfold plansF
          simp
        have sl := some_len l24
        have l1 : (plansF (F.take j) x).length ≤ 400000 := by
          rw [plansF_len, List.length_take]
          have h := plansF_len (F := F) (x := x)
          have : min j F.length * (somePl x).length ≤ F.length * (somePl x).length := Nat.mul_le_mul_right _ (Nat.min_le_right _ _)
          omega
        refine ⟨_, rfl, ?_⟩
        rw [to_drop, to_ext, to_var]
        refine ⟨_, rfl, tyW_lst rv_at, ?_⟩
        rw [to_lc, to_iter, to_var]
        refine ⟨_, rfl, ?_⟩
        rw [iterOf_fix, oto_some]
        refine lc_map (L := somePl x) (enc := encMs) (u := fun one => encPl (pl ++ [one])) (by omega) (fun one hone => ⟨_, rfl, fun Q q => ?_⟩) ?_
        · have pll : pl.length ≤ 600 := by
            have hm : pl ∈ plansL (rs.take i) := by rw [← hF]; exact List.mem_of_getElem? epl
            have := ((plans_mem _ _ rfl pl).mp hm).len
            rw [List.length_take] at this
            omega
          have e1 : encPl pl = .tup (pl.map encMs) := rfl
          simp only [wipeW]
          simp only [to_op, to_var, to_tup, to_cons, to_nil]
          refine ⟨_, rfl, _, rfl, by simp, ?_⟩
          rw [e1, wAdd_tup, if_pos (by simp; omega), pto_some]
          have e2 : encPl (pl ++ [one]) = .tup (pl.map encMs ++ [encMs one]) := by unfold encPl; simp
          rw [e2] at q
          exact q
        · refine ⟨_, _, rfl, rv_at, by simp; omega, ?_⟩
          rw [rv_put, st, List.map_append, List.map_map]
          exact ⟨_, rfl, rfl⟩
      · rintro ps g2 ⟨s6, rfl, rfl⟩
        rw [List.length_map, List.take_length]
        exact ⟨_, rfl, rfl⟩
    rintro ps g2 ⟨s6, rfl, rfl⟩
    rw [to_asg, to_var]
    refine ⟨_, rfl, ?_⟩
    rw [gN_is, oto_some]
    refine ⟨g.length, _, _, _, _, _, rfl, ?_⟩
    rw [nx]
    exact rv_at
  rintro ps g ⟨k, s2, s3, s4, s5, s6, rfl, hk⟩
  rw [List.take_length] at hk
  rw [to_ret, to_var]
  exact ⟨_, rfl, k, rfl, hk⟩
theorem refs_encPl {pl : List (List Mv)} : refsW (encPl pl) = [] := by
  unfold encPl
  rw [refs_tup]
  exact refs_map _ _ fun m _ => by simp
def S_plans : FM := lift0 f_Lplans
theorem fits_Lplans : Fits f_Lplans S_plans := fits_lift0 _
theorem plans_to {h : PH} (hn : rs.length ≤ 4) (hg : GRs rs.length rs) {Q : W → PH → Prop} (q : Q (.ref h.length) (h ++ [.lst ((plansL rs).map encPl)])) : (S_plans [encA rs ks] h).To Q :=
  lift0_lst (P := fun xs => xs = (plansL rs).map encPl) (by simp) ((plans_run hn hg).mono fun w g z => by
    obtain ⟨k, rfl, hk⟩ := z
    exact ⟨k, _, rfl, hk, refs_map _ _ fun _ _ => refs_encPl, rfl⟩) fun xs e => by rw [e]; exact q
/-! ### what a plan wants -/
variable {pl : List (List Mv)} {h : PH}
theorem plan_mm (hg : GRs rs.length rs) (P : Pl pl rs) {r : Nat} (hr : r < rs.length) : (pl.getD r []).length ≤ 24 ∧ ∀ m ∈ pl.getD r [], 0 ≤ m.1 ∧ m.1 < rs.length := by
  have gr := grZ hg hr
  rcases pl_is P hr with ⟨e, _⟩ | ⟨_, x, hx, e⟩
  · rw [e]
    exact ⟨gr.2.2.1, fun m hm => ⟨(gr.2.2.2 m hm).1, (gr.2.2.2 m hm).2.1⟩⟩
  · rw [e]
    refine ⟨by simp, fun m hm => ?_⟩
    rw [List.mem_singleton.mp hm]
    exact ⟨(gr.2.2.2 x hx).1, (gr.2.2.2 x hx).2.1⟩
theorem pl_items (P : Pl pl rs) : pl.map encMs = (List.range rs.length).map fun r => encMs (pl.getD r []) := by
  refine List.ext_getElem? fun i => ?_
  rw [List.getElem?_map, List.getElem?_map]
  by_cases hi : i < rs.length
  · have hp : i < pl.length := by rw [P.len]; exact hi
    rw [List.getElem?_range hi, List.getElem?_eq_getElem hp]
    simp [List.getD, List.getElem?_eq_getElem hp]
  · rw [List.getElem?_eq_none (by rw [P.len]; omega), List.getElem?_eq_none (by simp; omega)]
    rfl
theorem wanted_to (hn : rs.length ≤ 600) (hg : GRs rs.length rs) (P : Pl pl rs) {k : Nat} {Q : W → PH → Prop} (q : Q (.fix (inL rs.length (fnd (pmv pl) (k + 1)))) h) : (f_Lwanted [encPl pl, .fix (inL rs.length (fnd (pmv pl) k))] h).To Q := by
  unfold f_Lwanted
  rw [run_to, show startW 6 [encPl pl, W.fix (inL rs.length (fnd (pmv pl) k))] = [some (encPl pl), some (.fix (inL rs.length (fnd (pmv pl) k))), none, none, none, none] from rfl]
  unfold b_Lwanted
  rw [to_ret, to_fix, to_lc, to_iter, to_var]
  refine ⟨_, rfl, ?_⟩
  rw [show encPl pl = .tup (pl.map encMs) from rfl, iterOf_tup, oto_some, pl_items P]
  refine lc_map (L := List.range rs.length) (enc := fun r => encMs (pl.getD r [])) (u := fun r => W.int (fnd (pmv pl) (k + 1) r)) (by rw [List.length_range]; omega) (fun r hr => ⟨_, rfl, fun Q q => ?_⟩) ?_
  · have hr := List.mem_range.mp hr
    obtain ⟨ml, mm⟩ := plan_mm hg P hr
    simp only [wipeW]
    rw [to_on, to_lstm, to_op, to_fix, to_lst]
    simp only [to_cons, to_C, to_nil]
    refine ⟨by simp, ?_⟩
    rw [to_fix, to_lc, to_iter, to_var]
    refine ⟨_, rfl, ?_⟩
    rw [show encMs (pl.getD r []) = .tup ((pl.getD r []).map encM) from rfl, iterOf_tup, oto_some]
    refine lc_map (L := pl.getD r []) (enc := encM) (u := fun m => W.int (fnd (pmv pl) k m.1.toNat + m.2.1)) (by omega) (fun m hm => ⟨_, rfl, fun Q q => ?_⟩) ?_
    · have gm := mm m hm
      have e1 : m.1 = (m.1.toNat : Nat) := by omega
      simp only [wipeW]
      simp only [to_op, to_var]
      refine ⟨_, rfl, _, rfl, ?_⟩
      show PTo (wIx (.fix (inL rs.length (fnd (pmv pl) k))) (.int m.1) h) _
      rw [wIx_fix, e1, inL_get (by omega), Option.map_some, pto_some]
      refine ⟨_, rfl, ?_⟩
      show PTo (wAdd (.int _) (.int m.2.1) h) _
      rw [wAdd_int, pto_some]
      exact q
    · rw [wAdd_fix, if_pos (by rw [List.length_map]; simp only [List.length_cons, List.length_nil]; omega), pto_some, lstOf_fix, oto_some]
      have e2 : [W.int 0] ++ (pl.getD r []).map (fun m => W.int (fnd (pmv pl) k m.1.toNat + m.2.1)) = (0 :: (pl.getD r []).map fun m => fnd (pmv pl) k m.1.toNat + m.2.1).map W.int := by
        rw [List.map_cons, List.map_map]
        rfl
      have e3 : fnd (pmv pl) (k + 1) r = mx0 ((pl.getD r []).map fun m => fnd (pmv pl) k m.1.toNat + m.2.1) := by
        show mx0 (((pl.getD r []).map fun m => (m.1.toNat, m.2.1)).map fun m => fnd (pmv pl) k m.1 + m.2) = _
        rw [List.map_map]
        rfl
      rw [e2, wMaxZ (v := mx0 ((pl.getD r []).map fun m => fnd (pmv pl) k m.1.toNat + m.2.1)) rfl, pto_some]
      rw [e3] at q
      exact q
  · exact q
theorem isled_to {ms : List Mv} {L : List Nat} (hl : ms.length ≤ 24) (h0 : ∀ m ∈ ms, 0 ≤ m.1) {Q : W → PH → Prop} (q : Q (.bl (ms.any fun m => decide (m.1.toNat ∈ L))) h) : (f_Lis_led [encMs ms, .fix (nW L)] h).To Q := by
  unfold f_Lis_led
  rw [run_to, show startW 5 [encMs ms, W.fix (nW L)] = [some (encMs ms), some (.fix (nW L)), none, none, none] from rfl]
  unfold b_Lis_led
  rw [to_ret, to_op, to_fix, to_lc, to_iter, to_var]
  refine ⟨_, rfl, ?_⟩
  rw [show encMs ms = .tup (ms.map encM) from rfl, iterOf_tup, oto_some]
  refine lc_filt (L := ms) (enc := encM) (u := fun m => W.int m.1) (fun m => decide (m.1.toNat ∈ L)) (by omega) (fun m hm => ⟨_, rfl, fun Q q => ?_, fun _ Q q => ?_⟩) ?_
  · have := h0 m hm
    have e1 : m.1 = (m.1.toNat : Nat) := by omega
    simp only [wipeW]
    simp only [to_mB, to_op, to_var]
    refine ⟨_, rfl, _, rfl, ?_⟩
    show PTo (wIn (.int m.1) (.fix (nW L)) h) _
    rw [e1, wIn_nW, pto_some, bto_bl]
    exact q
  · simp [wipeW]
    exact q
  · have e2 : ((ms.filter fun m => decide (m.1.toNat ∈ L)).map fun m => W.int m.1) = ((ms.filter fun m => decide (m.1.toNat ∈ L)).map fun m => m.1).map W.int := by rw [List.map_map]; rfl
    rw [e2]
    simp only [to_fix, to_lst, to_nil]
    refine ⟨by simp, ?_⟩
    rw [wNe_nil, pto_some]
    have e3 : (!decide (((ms.filter fun m => decide (m.1.toNat ∈ L)).map fun m => m.1) = [])) = ms.any fun m => decide (m.1.toNat ∈ L) := by
      rw [Bool.eq_iff_iff]
      simp
    rw [e3]
    exact q
def lostL (rs : List Rm) (pl : List (List Mv)) (k : Nat) : List Nat := idx (lostB rs.length (pmv pl) k) rs.length
theorem ofplan_to (hn : rs.length ≤ 600) (hg : GRs rs.length rs) (P : Pl pl rs) {Q : W → PH → Prop} (q : Q (.fix (puL rs.length (vP rs pl))) h) : (f_Lof_plan f_Lwanted f_Lis_led [encPl pl] h).To Q := by
  unfold f_Lof_plan
  rw [run_to, show startW 8 [encPl pl] = [some (encPl pl), none, none, none, none, none, none, none] from rfl]
  unfold b_Lof_plan
  have itP : ∀ n g, iterOf n (encPl pl) g = some (itS (pl.map encMs)) := fun n g => rfl
  have itE' : ∀ n g, iterE n (encPl pl) g = some (itE (itS (pl.map encMs))) := fun n g => rfl
  have lnP : ∀ g, wLen [encPl pl] g = some (.int (rs.length : Nat), g) := fun g => by
    show some (W.int ((pl.map encMs).length : Nat), g) = _
    rw [List.length_map, P.len]
  obtain ⟨EP, hEP⟩ : ∃ EP, EP = encPl pl := ⟨_, rfl⟩
  rw [← hEP]
  rw [← hEP] at itP itE' lnP
  refine seq_go (ps1 := [some EP, some (.fix (inL rs.length (fnd (pmv pl) 0))), none, none, none, none, none, none]) (h1 := h) (fun K hK => ?_) ?_
  · rw [to_asg, to_fix, to_repL]
    simp only [to_lst, to_cons, to_C, to_nil, to_call, to_var]
    refine ⟨by simp, _, rfl, ?_⟩
    rw [lnP, pto_some]
    refine ⟨_, rfl, ⟨by omega, by omega, by simp; omega⟩, ?_⟩
    rw [Int.toNat_natCast, flat_one, rep_map, gN_is, oto_some]
    exact hK
  refine seq_cut (fun ps g => ∃ s2 : Option W, ps = [some EP, some (.fix (inL rs.length (fnd (pmv pl) rs.length))), s2, none, none, none, none, none] ∧ g = h) ?_ ?_
  · rw [to_for, to_iter, to_var]
    refine ⟨_, rfl, ?_⟩
    rw [itP, oto_some]
    refine for_items (fun i ps g => ∃ s2 : Option W, ps = [some EP, some (.fix (inL rs.length (fnd (pmv pl) i))), s2, none, none, none, none, none] ∧ g = h) ⟨_, rfl, rfl⟩ ?_ ?_
    · rintro i w ps g ei ⟨s2, rfl, rfl⟩
      refine ⟨_, rfl, ?_⟩
      rw [to_asg, to_fn]
      simp only [to_cons, to_var, to_nil]
      refine ⟨_, rfl, _, rfl, rfl, ?_⟩
      rw [hEP]
      refine wanted_to hn hg P ?_
      rw [gN_is, oto_some]
      exact ⟨_, rfl, rfl⟩
    · rintro ps g ⟨s2, rfl, rfl⟩
      rw [List.length_map, P.len]
      exact ⟨_, rfl, rfl⟩
  rintro ps g ⟨s2, rfl, rfl⟩
  refine seq_go (ps1 := [some EP, some (.fix (inL rs.length (fnd (pmv pl) rs.length))), s2, some (.fix (inL rs.length (fnd (pmv pl) (rs.length + 1)))), none, none, none, none]) (h1 := g) (fun K hK => ?_) ?_
  · rw [to_asg, to_fn]
    simp only [to_cons, to_var, to_nil]
    refine ⟨_, rfl, _, rfl, rfl, ?_⟩
    rw [hEP]
    refine wanted_to hn hg P ?_
    rw [gN_is, oto_some, ← hEP]
    exact hK
  refine seq_go (ps1 := [some EP, some (.fix (inL rs.length (fnd (pmv pl) rs.length))), s2, some (.fix (inL rs.length (fnd (pmv pl) (rs.length + 1)))), some (.fix (nW (lostL rs pl 0))), none, none, none]) (h1 := g) (fun K hK => ?_) ?_
  · rw [to_asg, to_fix, to_lc, to_range1]
    simp only [to_call, to_cons, to_var, to_nil]
    refine ⟨_, rfl, ?_⟩
    rw [lnP, pto_some]
    refine ⟨_, rfl, ⟨by omega, by omega⟩, ?_⟩
    rw [Int.toNat_natCast]
    refine lc_filt (L := List.range rs.length) (enc := fun r : Nat => W.int (0 + (r : Nat))) (u := fun r : Nat => W.int (r : Nat)) (lostB rs.length (pmv pl) 0) (by simp; omega) (fun r hr => ⟨_, rfl, fun Q q => ?_, fun _ Q q => ?_⟩) ?_
    · have hr := List.mem_range.mp hr
      have z0 : (0 : Int) + (r : Nat) = (r : Nat) := by omega
      rw [z0]
      simp only [wipeW]
      simp only [to_mB, to_op, to_var]
      refine ⟨_, rfl, _, rfl, ?_⟩
      rw [wIx_fix, inL_get hr, Option.map_some, pto_some]
      refine ⟨_, rfl, _, rfl, ?_⟩
      rw [wIx_fix, inL_get hr, Option.map_some, pto_some, wGt_int, pto_some, bto_bl]
      exact q
    · have z0 : (0 : Int) + (r : Nat) = (r : Nat) := by omega
      rw [z0]
      simp [wipeW]
      exact q
    · rw [gN_is, oto_some]
      exact hK
  refine seq_cut (fun ps g2 => ∃ s2 : Option W, ps = [some EP, some (.fix (inL rs.length (fnd (pmv pl) rs.length))), s2, some (.fix (inL rs.length (fnd (pmv pl) (rs.length + 1)))), some (.fix (nW (lostL rs pl rs.length))), none, none, none] ∧ g2 = g) ?_ ?_
  · rw [to_for, to_iter, to_var]
    refine ⟨_, rfl, ?_⟩
    rw [itP, oto_some]
    refine for_items (fun i ps g2 => ∃ s2 : Option W, ps = [some EP, some (.fix (inL rs.length (fnd (pmv pl) rs.length))), s2, some (.fix (inL rs.length (fnd (pmv pl) (rs.length + 1)))), some (.fix (nW (lostL rs pl i))), none, none, none] ∧ g2 = g) ⟨_, rfl, rfl⟩ ?_ ?_
    · rintro i w ps g2 ei ⟨s2, rfl, rfl⟩
      refine ⟨_, rfl, ?_⟩
      rw [to_asg, to_fix, to_lc, to_enum, to_var]
      refine ⟨_, rfl, ?_⟩
      rw [itE', oto_some]
      have ll := idx_len (p := lostB rs.length (pmv pl) i) (n := rs.length)
      refine lc_enum (fun j acc g3 => acc = nW ((List.range j).filter (lostB rs.length (pmv pl) (i + 1))) ∧ g3 = g2) ⟨rfl, rfl⟩ ?_ ?_
      · rintro j w acc g3 ej ⟨rfl, rfl⟩
        rw [pl_items P, List.getElem?_map] at ej
        obtain ⟨j', ej', rfl⟩ := Option.map_eq_some_iff.mp ej
        have hj : j < rs.length := by
          have := (List.getElem?_eq_some_iff.mp ej').1
          rwa [List.length_range] at this
        rw [List.getElem?_range hj] at ej'
        cases ej'
        obtain ⟨ml, mm⟩ := plan_mm hg P hj
        have fm := filt_more (p := lostB rs.length (pmv pl) (i + 1)) (f := fun i : Nat => W.int (i : Nat)) (i := j)
        have accl : ((List.range j).filter (lostB rs.length (pmv pl) (i + 1))).length ≤ 600 := by
          have := List.length_filter_le (lostB rs.length (pmv pl) (i + 1)) (List.range j)
          rw [List.length_range] at this
          omega
        have inL' : ∀ t, t < rs.length → decide (t ∈ lostL rs pl i) = lostB rs.length (pmv pl) i t := fun t ht => by
          unfold lostL
          rw [Bool.eq_iff_iff, decide_eq_true_iff, idx_mem]
          exact ⟨fun z => z.2, fun z => ⟨ht, z⟩⟩
        have step : lostB rs.length (pmv pl) (i + 1) j = (lostB rs.length (pmv pl) i j || (pl.getD j []).any fun m => decide (m.1.toNat ∈ lostL rs pl i)) := by
          show (lostB rs.length (pmv pl) i j || ((pl.getD j []).map fun m => (m.1.toNat, m.2.1)).any fun m => lostB rs.length (pmv pl) i m.1) = _
          rw [List.any_map]
          congr 1
          rw [Bool.eq_iff_iff, List.any_eq_true, List.any_eq_true]
          constructor
          · rintro ⟨m, hm, z⟩
            have := mm m hm
            exact ⟨m, hm, by rw [inL' _ (by omega)]; exact z⟩
          · rintro ⟨m, hm, z⟩
            have := mm m hm
            exact ⟨m, hm, by rw [inL' _ (by omega)] at z; exact z⟩
        refine ⟨_, rfl, ?_⟩
        have fin : ∀ b, b = lostB rs.length (pmv pl) (i + 1) j → Ite b ((mVar 5 [some EP, some (.fix (inL rs.length (fnd (pmv pl) rs.length))), some w, some (.fix (inL rs.length (fnd (pmv pl) (rs.length + 1)))), some (.fix (nW (lostL rs pl i))), some (.int (j : Nat)), some (encMs (pl.getD j [])), none] g3).To fun x h3 => (nW ((List.range j).filter (lostB rs.length (pmv pl) (i + 1)))).length < 16777216 ∧ (nW ((List.range j).filter (lostB rs.length (pmv pl) (i + 1))) ++ [x] = nW ((List.range (j + 1)).filter (lostB rs.length (pmv pl) (i + 1))) ∧ h3 = g3))
            (nW ((List.range j).filter (lostB rs.length (pmv pl) (i + 1))) = nW ((List.range (j + 1)).filter (lostB rs.length (pmv pl) (i + 1))) ∧ g3 = g3) := fun b eb => by
          subst eb
          unfold nW
          rw [fm]
          cases hc : lostB rs.length (pmv pl) (i + 1) j with
          | true => simp; omega
          | false => simp
        simp only [wipeW]
        rw [to_or, to_mB, to_op, to_var]
        refine ⟨_, rfl, ?_⟩
        rw [to_var]
        refine ⟨_, rfl, ?_⟩
        rw [wIn_nW, pto_some, bto_bl, inL' j hj]
        cases hc : lostB rs.length (pmv pl) i j with
        | true =>
          rw [Ite_true]
          exact fin true (by rw [step, hc]; rfl)
        | false =>
          rw [Ite_false, to_tru, to_fn, to_cons, to_var]
          refine ⟨_, rfl, ?_⟩
          rw [to_cons, to_var]
          refine ⟨_, rfl, ?_⟩
          rw [to_nil]
          refine ⟨rfl, isled_to ml (fun m hm => (mm m hm).1) ?_⟩
          show OTo (some _) _
          rw [oto_some]
          exact fin _ (by rw [step, hc, Bool.false_or])
      · rintro acc g3 ⟨rfl, rfl⟩
        rw [List.length_map, P.len, gN_is, oto_some]
        exact ⟨_, rfl, rfl⟩
    · rintro ps g2 ⟨s2, rfl, rfl⟩
      rw [List.length_map, P.len]
      exact ⟨_, rfl, rfl⟩
  rintro ps g2 ⟨s2', rfl, rfl⟩
  rw [to_ret, to_fix, to_lc, to_enum, to_var]
  refine ⟨_, rfl, ?_⟩
  rw [iterE_fix, oto_some]
  refine lc_enum (fun j acc g3 => acc = (List.range j).map (fun r => oW (vP rs pl r)) ∧ g3 = g2) ⟨rfl, rfl⟩ ?_ ?_
  · rintro j w acc g3 ej ⟨rfl, rfl⟩
    have hj : j < rs.length := by
      have := (List.getElem?_eq_some_iff.mp ej).1
      rwa [inL_len] at this
    have ew : w = .int (fnd (pmv pl) rs.length j) := by
      unfold inL at ej
      rw [List.getElem?_map, List.getElem?_range hj] at ej
      exact (Option.some.inj ej).symm
    subst ew
    have inL' : decide (j ∈ lostL rs pl rs.length) = lostB rs.length (pmv pl) rs.length j := by
      unfold lostL
      rw [Bool.eq_iff_iff, decide_eq_true_iff, idx_mem]
      exact ⟨fun z => z.2, fun z => ⟨hj, z⟩⟩
    refine ⟨_, rfl, ?_⟩
    rw [to_yes, Ite_true, to_if]
    simp only [wipeW]
    simp only [to_mB, to_op, to_var, to_C]
    refine ⟨_, rfl, _, rfl, ?_⟩
    rw [wIn_nW, pto_some, bto_bl, inL', List.range_succ, List.map_append]
    have ev : oW (vP rs pl j) = if lostB rs.length (pmv pl) rs.length j = true then W.non else .int (fnd (pmv pl) rs.length j) := by
      unfold vP
      split <;> rfl
    cases hc : lostB rs.length (pmv pl) rs.length j with
    | true =>
      rw [hc] at ev
      rw [Ite_true]
      refine ⟨by simp; omega, ?_, rfl⟩
      rw [List.map_cons, List.map_nil, ev]
      rfl
    | false =>
      rw [hc] at ev
      rw [Ite_false]
      refine ⟨_, rfl, by simp; omega, ?_, rfl⟩
      rw [List.map_cons, List.map_nil, ev]
      rfl
  · rintro acc g3 ⟨rfl, rfl⟩
    rw [inL_len]
    exact q
end
end Mir

/-! law_k35: the law's run -/
namespace Mir
open PySem PySem.Spec PyProof.Rows L2
abbrev F_LAW35 : FM := f_LAW f_Ldraw S_below S_arenaT S_plans (f_Lof_plan f_Lwanted f_Lis_led) S_purses S_purse
def ansZ : Option Int → W
  | none => .tup [.str "never"]
  | some v => .tup [.str "purse", .int v]
theorem ansZ_repr {o : Option Int} (h0 : ∀ v, o = some v → v.natAbs < 1000000000000000) : ∃ t : Str, ∀ h, wRepr [ansZ o] h = some (.str t, h) := by
  cases o with
  | none =>
    have w1 := wordOk_ofZ (x := "never") (by decide +kernel)
    have := w1.2.2.1
    obtain ⟨t, _, e⟩ := repr_ok (xs := [.str "never"]) (n := 2) (by simp only [pl_tup, pls_cons, pls_nil, pl_str, pl_int, w1.1, Bool.and_true]) (by decide)
      (by simp only [smV_tup, smVs_cons, smVs_nil, smV_str, smV_int, w1.2.1, Bool.and_true, Bool.true_and])
      (by simp only [wV_tup, wVs_cons, wVs_nil, wV_str, wV_int]; omega)
      (by simp only [okV_tup, okVs_cons, okVs_nil, okV_str, okV_int, w1.2.2.2, Bool.and_true])
    exact ⟨t, e⟩
  | some v =>
    have w1 := wordOk_ofZ (x := "purse") (by decide +kernel)
    have := w1.2.2.1
    obtain ⟨t, _, e⟩ := repr_ok (xs := [.str "purse", .int v]) (n := 2) (by simp only [pl_tup, pls_cons, pls_nil, pl_str, pl_int, w1.1, Bool.and_true]) (by decide)
      (by simp only [smV_tup, smVs_cons, smVs_nil, smV_str, smV_int, w1.2.1, Bool.and_true, Bool.true_and]; exact decide_eq_true (h0 v rfl))
      (by simp only [wV_tup, wVs_cons, wVs_nil, wV_str, wV_int]; omega)
      (by simp only [okV_tup, okVs_cons, okVs_nil, okV_str, okV_int, w1.2.2.2, Bool.and_true])
    exact ⟨t, e⟩
def updO (old v : Option Int) : Option Int := match v with
  | none => old
  | some x => match old with
    | none => some x
    | some y => if x < y then some x else some y
structure LeI (rs : List Rm) (done : List (List (List Mv))) (f : Nat → Option Int) : Prop where
  le : ∀ pl ∈ done, ∀ r, r < rs.length → ∀ v, vP rs pl r = some v → ∃ u, f r = some u ∧ u ≤ v
  at' : ∀ r, r < rs.length → ∀ u, f r = some u → ∃ pl ∈ done, vP rs pl r = some u
theorem lei_step {rs : List Rm} {done : List (List (List Mv))} {pl : List (List Mv)} {f f' : Nat → Option Int} (I : LeI rs done f) (h : ∀ r, r < rs.length → f' r = updO (f r) (vP rs pl r)) : LeI rs (done ++ [pl]) f' := by
  refine ⟨fun p hp r hr v hv => ?_, fun r hr u hu => ?_⟩
  · rw [h r hr]
    rcases List.mem_append.mp hp with hp | hp
    · obtain ⟨u, hu, le⟩ := I.le p hp r hr v hv
      rw [hu]
      unfold updO
      cases vP rs pl r with
      | none => exact ⟨u, rfl, le⟩
      | some x =>
        simp only
        split
        · exact ⟨x, rfl, by omega⟩
        · exact ⟨u, rfl, le⟩
    · rw [List.mem_singleton.mp hp] at hv
      rw [hv]
      unfold updO
      cases f r with
      | none => exact ⟨v, rfl, Int.le_refl _⟩
      | some y =>
        simp only
        split
        · exact ⟨v, rfl, Int.le_refl _⟩
        · exact ⟨y, rfl, by omega⟩
  · rw [h r hr] at hu
    unfold updO at hu
    cases hv : vP rs pl r with
    | none =>
      rw [hv] at hu
      obtain ⟨p, hp, e⟩ := I.at' r hr u hu
      exact ⟨p, List.mem_append_left _ hp, e⟩
    | some x =>
      rw [hv] at hu
      cases hf : f r with
      | none =>
        rw [hf] at hu
        cases hu
        exact ⟨pl, List.mem_append_right _ (List.mem_singleton.mpr rfl), hv⟩
      | some y =>
        rw [hf] at hu
        simp only at hu
        split at hu
        · cases hu
          exact ⟨pl, List.mem_append_right _ (List.mem_singleton.mpr rfl), hv⟩
        · cases hu
          obtain ⟨p, hp, e⟩ := I.at' r hr _ hf
          exact ⟨p, List.mem_append_left _ hp, e⟩
theorem lei_end {rs : List Rm} {f : Nat → Option Int} {st : Rst} (hg : GRs rs.length rs) (I : LeI rs (plansL rs) f) (R : RaE rs (bndZ rs) st) {r : Nat} (hr : r < rs.length) : f r = st.p r := by
  have mem : ∀ pl, pl ∈ plansL rs ↔ Pl pl rs := fun pl => plans_mem _ _ rfl pl
  have up : ∀ u, f r = some u → ∃ w, st.p r = some w ∧ w ≤ u := fun u hu => by
    obtain ⟨pl, hp, e⟩ := I.at' r hr u hu
    exact plan_no hg R ((mem pl).mp hp) hr e
  obtain ⟨pl, P, hpl⟩ := plan_yes hg R
  have dn : ∀ w, st.p r = some w → ∃ u, f r = some u ∧ u ≤ w := fun w hw => by
    obtain ⟨v, hv, le⟩ := hpl r hr w hw
    obtain ⟨u, hu, le2⟩ := I.le pl ((mem pl).mpr P) r hr v hv
    exact ⟨u, hu, by omega⟩
  cases hf : f r with
  | none =>
    cases hp : st.p r with
    | none => rfl
    | some w =>
      obtain ⟨u, hu, _⟩ := dn w hp
      rw [hf] at hu
      cases hu
  | some u =>
    obtain ⟨w, hw, l1⟩ := up u hf
    obtain ⟨u', hu', l2⟩ := dn w hw
    rw [hf] at hu'
    cases hu'
    rw [hw]
    congr 1
    omega
def w35I (X : W) (i : Nat) (ps : LS) (g : PH) : Prop := ∃ (o : OB) (e : PH) (s2 s3 s4 s5 s6 s7 s8 s9 s10 : Option W), ps = [some X, some (.ref 0), s2, s3, s4, s5, s6, s7, s8, s9, s10] ∧ g = o :: e ∧ IsT2 (2000 * i) o
theorem law_run (ns : List Int) (hn : ns.length ≤ 63) : (F_LAW35 [.fix (ns.map W.int)] []).To fun w _ => w = .bl true := by
  unfold F_LAW35 f_LAW
  rw [run_to, show startW 11 [W.fix (ns.map W.int)] = [some (.fix (ns.map W.int)), none, none, none, none, none, none, none, none, none, none] from rfl]
  unfold b_LAW
  obtain ⟨X, hX⟩ : ∃ X, X = W.fix (ns.map W.int) := ⟨_, rfl⟩
  refine seq_cut (w35I X 0) ?_ ?_
  · simp
    refine (draw_run ns hn).mono fun w g z => ?_
    obtain ⟨rfl, o, o2, rfl, d⟩ := z
    rw [← hX]
    exact ⟨o, [o2], none, none, none, none, none, none, none, none, none, rfl, rfl, by simpa using d⟩
  rintro ps g ⟨o, e, s2, s3, s4, s5, s6, s7, s8, s9, s10, rfl, rfl, d⟩
  obtain ⟨k, hk, hk8⟩ : ∃ k : Nat, k = 1 + ns.length / 21 ∧ k ≤ 8 := ⟨_, rfl, by omega⟩
  refine seq_cut (w35I X k) ?_ ?_
  · rw [to_for]
    have sl : ∀ g, wSl X none (some 63) g = some (.fix (ns.map W.int), g) := fun g => by
      rw [hX]
      show some (W.fix (cutW (ns.map W.int) none (some 63)), g) = _
      rw [cut2_to (by decide), List.take_of_length_le (by simpa using hn)]
    simp [sl]
    refine ⟨by decide, ?_, ?_⟩
    · omega
    have ek : (1 + (ns.length : Int) / 21).toNat = k := by omega
    rw [ek]
    refine for_items (w35I X) ⟨o, e, s2, s3, s4, s5, s6, s7, s8, s9, s10, rfl, rfl, d⟩ ?_ fun ps g z => by rwa [range_len] at z
    clear s2 s3 s4 s5 s6 s7 s8 s9 s10 d o e
    rintro i w ps g ei ⟨o, e, s2, s3, s4, s5, s6, s7, s8, s9, s10, rfl, rfl, d⟩
    obtain ⟨hi, rfl⟩ := range_get ei
    refine ⟨_, rfl, ?_⟩
    refine seq_op fun K hK => ?_
    simp
    refine below0 d (by omega) (by decide) (by decide) fun v o1 v0 v1 d1 => ?_
    have hm : ∃ hi : Int, 0 ≤ hi ∧ hi ≤ 30 ∧ atI [W.int 9, W.int 30] v = some (.int hi) := by
      have : v = 0 ∨ v = 1 := by omega
      rcases this with rfl | rfl
      · exact ⟨9, by decide, by decide, at0⟩
      · exact ⟨30, by decide, by decide, at1⟩
    obtain ⟨hi, h0, h1, em⟩ := hm
    simp [em]
    refine hK _ _ ?_
    clear hK K
    refine seq_op fun K hK => ?_
    simp
    refine arenaT_to d1 (by omega) (by decide) (by decide) (by omega) (by omega) (by omega) fun rs ks o2 ga d2 => ?_
    refine hK _ _ ?_
    clear hK K
    obtain ⟨Kp, hKp⟩ := GTZ_repr (by decide) (by omega) (by omega) ga
    obtain ⟨n1, n4, hg, hpr⟩ := GTZ_gr (by omega) (by omega) ga
    have hs : SmlZ rs := ⟨by omega, fun r hr m hm => by have := hpr r hr m hm; omega⟩
    refine seq_op fun K hK => ?_
    simp [hKp]
    refine hK _ _ ?_
    clear hK K
    obtain ⟨A, hA⟩ : ∃ A, A = encA rs ks := ⟨_, rfl⟩
    have i0 : ∀ h, wIx A (.int 0) h = some (.tup (rs.map encR), h) := fun h => by rw [hA]; exact ix_A0
    obtain ⟨H, hH⟩ : ∃ H : PH, H = o2 :: e := ⟨_, rfl⟩
    show (sSeq _ _ [some X, some (.ref 0), some (.int (i : Nat)), some (.int hi), some (encA rs ks), some (.str Kp), s6, s7, s8, s9, s10] (o2 :: e)).To _ _ _ _
    rw [← hA] at hKp ⊢
    rw [← hH]
    refine seq_go (ps1 := [some X, some (.ref 0), some (.int (i : Nat)), some (.int hi), some A, some (.str Kp), some (.ref H.length), s7, s8, s9, s10]) (h1 := H ++ .lst (puL rs.length fun _ => none) :: []) (fun K hK => ?_) ?_
    · have ln : ∀ h, wLen [.tup (rs.map encR)] h = some (.int (rs.length : Nat), h) := fun h => by rw [wLen_tup, List.length_map]
      rw [to_asg, to_new, to_repL, to_lst]
      simp only [to_cons, to_C, to_nil, to_call, to_op, to_var]
      refine ⟨by simp, _, rfl, ?_⟩
      rw [i0, pto_some, ln, pto_some]
      refine ⟨_, rfl, ⟨by omega, by omega, by simp; omega⟩, ?_⟩
      rw [Int.toNat_natCast, flat_one, rep_map, gN_is, oto_some]
      exact hK
    obtain ⟨PW, hPW⟩ : ∃ PW, PW = OB.lst ((plansL rs).map encPl) := ⟨_, rfl⟩
    refine seq_cut (fun ps g => ∃ (f : Nat → Option Int) (s7 s8 s9 : Option W), ps = [some X, some (.ref 0), some (.int (i : Nat)), some (.int hi), some A, some (.str Kp), some (.ref H.length), s7, s8, s9, s10] ∧ g = H ++ .lst (puL rs.length f) :: [PW] ∧ LeI rs (plansL rs) f) ?_ ?_
    · rw [to_for, to_iter, to_fn]
      simp only [to_cons, to_var, to_nil]
      refine ⟨_, rfl, rfl, ?_⟩
      rw [hA]
      refine plans_to (by omega) hg ?_
      rw [← hA, ← hPW]
      have app : (H ++ OB.lst (puL rs.length fun _ => none) :: []) ++ [PW] = H ++ .lst (puL rs.length fun _ => none) :: [PW] := by simp
      have at2 : ∀ o, (H ++ o :: [PW])[H.length + 1]? = some PW := fun o => by
        rw [List.getElem?_append_right (by omega), show H.length + 1 - H.length = 1 by omega]
        rfl
      have ll : (H ++ OB.lst (puL rs.length fun _ => none) :: []).length = H.length + 1 := by simp
      have pl4 : (plansL rs).length ≤ 24 ^ 4 := Nat.le_trans (plans_len _ rs rfl fun r hr => (hg r hr).2.2.1) (Nat.pow_le_pow_right (by decide) (by omega))
      have at3 : ∀ o, (H ++ o :: [PW])[H.length + 1]? = some (.lst ((plansL rs).map encPl)) := fun o => by rw [at2, hPW]
      rw [app, ll, iter_lst (at3 _), oto_some]
      refine for_live (items := (plansL rs).map encPl) (by simp; unfold big; omega) (fun j ps g => ∃ (f : Nat → Option Int) (s7 s8 s9 : Option W), ps = [some X, some (.ref 0), some (.int (i : Nat)), some (.int hi), some A, some (.str Kp), some (.ref H.length), s7, s8, s9, s10] ∧ g = H ++ .lst (puL rs.length f) :: [PW] ∧ LeI rs ((plansL rs).take j) f) (fun j ps g z => by obtain ⟨_, _, _, _, _, rfl, _⟩ := z; exact at3 _) ⟨fun _ => none, _, _, _, rfl, rfl, fun pl hp => by simp at hp, fun r hr u hu => by cases hu⟩ ?_ ?_
      · rintro j w ps g ej ⟨f, s7, s8, s9, rfl, rfl, I⟩
        rw [List.getElem?_map] at ej
        obtain ⟨pl, epl, rfl⟩ := Option.map_eq_some_iff.mp ej
        have P : Pl pl rs := (plans_mem _ _ rfl pl).mp (List.mem_of_getElem? epl)
        have tk : (plansL rs).take (j + 1) = (plansL rs).take j ++ [pl] := by rw [List.take_succ, epl]; rfl
        refine ⟨_, rfl, ?_⟩
        rw [to_for, to_enum, to_fn]
        simp only [to_cons, to_var, to_nil]
        refine ⟨_, rfl, rfl, ?_⟩
        refine ofplan_to (by omega) hg P ?_
        rw [iterE_fix, oto_some]
        refine for_enum (fun m ps g => ∃ (s8 s9 : Option W), ps = [some X, some (.ref 0), some (.int (i : Nat)), some (.int hi), some A, some (.str Kp), some (.ref H.length), some (encPl pl), s8, s9, s10] ∧ g = H ++ .lst (puL rs.length fun r => if r < m then updO (f r) (vP rs pl r) else f r) :: [PW]) ⟨_, _, rfl, by simp⟩ ?_ ?_
        · rintro m w ps g emm ⟨s8, s9, rfl, rfl⟩
          have hm : m < rs.length := by
            have := (List.getElem?_eq_some_iff.mp emm).1
            rwa [puL_len] at this
          rw [puL_at hm] at emm
          cases emm
          refine ⟨_, rfl, ?_⟩
          obtain ⟨F, hF⟩ : ∃ F : Nat → Option Int, F = fun r => if r < m then updO (f r) (vP rs pl r) else f r := ⟨_, rfl⟩
          have Fm : F m = f m := by rw [hF]; simp
          have ix : wIx (.ref H.length) (.int (m : Nat)) (H ++ .lst (puL rs.length F) :: [PW]) = some (oW (f m), H ++ .lst (puL rs.length F) :: [PW]) := by
            rw [wIx_lst rv_at, puL_get hm, Fm]
            rfl
          have nx : ∀ x, x = updO (f m) (vP rs pl m) → upZ F m x = fun r => if r < m + 1 then updO (f r) (vP rs pl r) else f r := fun x ex => by
            funext r
            by_cases e : r = m
            · subst e
              rw [upZ_same, if_pos (by omega), ex]
            · rw [upZ_ne e, hF]
              simp only
              by_cases e2 : r < m
              · rw [if_pos e2, if_pos (by omega)]
              · rw [if_neg e2, if_neg (by omega)]
          have same : updO (f m) (vP rs pl m) = f m → F = fun r => if r < m + 1 then updO (f r) (vP rs pl r) else f r := fun ex => by
            rw [← nx (f m) ex.symm]
            funext r
            by_cases e : r = m
            · subst e
              rw [upZ_same, Fm]
            · rw [upZ_ne e]
          rw [← hF]
          have fin0 : updO (f m) (vP rs pl m) = f m → ∃ (s8' s9' : Option W), [some X, some (.ref 0), some (.int (i : Nat)), some (.int hi), some A, some (.str Kp), some (.ref H.length), some (encPl pl), some (.int (m : Nat)), some (oW (vP rs pl m)), s10] = [some X, some (.ref 0), some (.int (i : Nat)), some (.int hi), some A, some (.str Kp), some (.ref H.length), some (encPl pl), s8', s9', s10] ∧ H ++ .lst (puL rs.length F) :: [PW] = H ++ .lst (puL rs.length fun r => if r < m + 1 then updO (f r) (vP rs pl r) else f r) :: [PW] := fun ex => ⟨_, _, rfl, by rw [← same ex]⟩
          rw [to_sif]
          simp only [to_and, to_or, to_mB, to_op, to_var, to_C]
          refine ⟨_, rfl, ?_⟩
          rw [wIsNot_non, pto_some, bto_bl, isnon_oW]
          cases hv : vP rs pl m with
          | none =>
            rw [hv] at fin0
            simp
            have := fin0 rfl
            simpa using this
          | some x =>
            rw [hv] at fin0 nx
            simp only [Option.isNone_some, Bool.not_false, Ite_true]
            refine ⟨_, rfl, _, rfl, ?_⟩
            rw [ix, pto_some, wIs_non, pto_some, bto_bl, isnon_oW]
            have setit : updO (f m) (some x) = some x → ((sSetIx (mVar 9) (mVar 6) (mVar 8)) [some X, some (.ref 0), some (.int (i : Nat)), some (.int hi), some A, some (.str Kp), some (.ref H.length), some (encPl pl), some (.int (m : Nat)), some (oW (some x)), s10] (H ++ .lst (puL rs.length F) :: [PW])).To (fun ps g => ∃ (s8 s9 : Option W), ps = [some X, some (.ref 0), some (.int (i : Nat)), some (.int hi), some A, some (.str Kp), some (.ref H.length), some (encPl pl), s8, s9, s10] ∧ g = H ++ .lst (puL rs.length fun r => if r < m + 1 then updO (f r) (vP rs pl r) else f r) :: [PW]) (fun w _ => w = .bl true) (fun _ _ => False) (fun ps g => ∃ (s8 s9 : Option W), ps = [some X, some (.ref 0), some (.int (i : Nat)), some (.int hi), some A, some (.str Kp), some (.ref H.length), some (encPl pl), s8, s9, s10] ∧ g = H ++ .lst (puL rs.length fun r => if r < m + 1 then updO (f r) (vP rs pl r) else f r) :: [PW]) := fun ex => by
              simp only [to_setix, to_var]
              refine ⟨_, rfl, _, rfl, _, rfl, ?_⟩
              rw [setW_lst rv_at (by omega) (by rw [puL_len]; simpa using hm), oto_some, Int.toNat_natCast, rv_put, puL_set, nx (some x) ex.symm]
              exact ⟨_, _, rfl, rfl⟩
            cases hf : f m with
            | none =>
              rw [hf] at setit
              simp only [Option.isNone_none, Ite_true]
              exact (setit rfl).mono (fun _ _ z => z) (fun _ _ z => z) (fun _ _ z => z.elim) fun _ _ z => z
            | some y =>
              rw [hf] at setit fin0
              simp only [Option.isNone_some, Ite_false]
              refine ⟨_, rfl, _, rfl, _, rfl, ?_⟩
              rw [ix, pto_some, hf]
              show PTo (wLt (.int x) (.int y) _) _
              rw [wLt_int, pto_some, bto_bl]
              refine .of (fun hlt => ?_) fun hlt => ?_
              · exact (setit (by unfold updO; simp only; rw [if_pos hlt])).mono (fun _ _ z => z) (fun _ _ z => z) (fun _ _ z => z.elim) fun _ _ z => z
              · rw [to_next]
                exact fin0 (by unfold updO; simp only; rw [if_neg hlt])
        · rintro ps g ⟨s8, s9, rfl, rfl⟩
          rw [puL_len]
          refine ⟨_, _, _, _, rfl, rfl, ?_⟩
          rw [tk]
          exact lei_step I fun r hr => if_pos hr
      · rintro ps g ⟨f, s7, s8, s9, rfl, rfl, I⟩
        rw [List.length_map, List.take_length] at I
        exact ⟨f, _, _, _, rfl, rfl, I⟩
    rintro ps g ⟨f, s7, s8, s9, rfl, rfl, I⟩
    obtain ⟨G, hG⟩ : ∃ G, G = H ++ .lst (puL rs.length f) :: [PW] := ⟨_, rfl⟩
    have gk : G[H.length]? = some (.lst (puL rs.length f)) := by rw [hG]; exact rv_at
    rw [← hG]
    refine seq_go (ps1 := [some X, some (.ref 0), some (.int (i : Nat)), some (.int hi), some A, some (.str Kp), some (.ref H.length), s7, s8, s9, s10]) (h1 := G) (fun K hK => ?_) ?_
    · rw [to_sif, to_mB, to_op, to_call, to_cons, to_fn]
      simp only [to_cons, to_var, to_C, to_nil]
      refine ⟨_, rfl, rfl, ?_⟩
      rw [hA]
      refine purses_to hg hs n1 fun st R => ?_
      obtain ⟨t, _, et⟩ := puL_ok hs R
      rw [et, pto_some]
      have e1 : puL rs.length st.p = puL rs.length f := List.map_congr_left fun r hr => by rw [lei_end hg I R (List.mem_range.mp hr)]
      rw [e1] at et
      simp only [to_call, to_cons, to_on, to_seqm, to_var, to_nil]
      refine ⟨_, rfl, ?_⟩
      rw [seqOf_lst gk, oto_some, wTupQ_is, pto_some, et, pto_some, wNe_str, pto_some, bto_bl, decide_eq_true rfl]
      simp
      rw [← hA]
      exact hK
    refine seq_cut (fun ps g => ∃ s8 s9 s10 : Option W, ps = [some X, some (.ref 0), some (.int (i : Nat)), some (.int hi), some A, some (.str Kp), some (.ref H.length), s7, s8, s9, s10] ∧ g = G) ?_ ?_
    · rw [to_for, to_enum, to_var]
      refine ⟨_, rfl, ?_⟩
      rw [iterE_lst gk, oto_some]
      refine for_enumL (items := puL rs.length f) (by rw [puL_len]; unfold big; omega) (fun _ ps g => ∃ s8 s9 s10 : Option W, ps = [some X, some (.ref 0), some (.int (i : Nat)), some (.int hi), some A, some (.str Kp), some (.ref H.length), s7, s8, s9, s10] ∧ g = G) (fun j ps g z => by obtain ⟨_, _, _, _, e⟩ := z; rw [e]; exact gk) ⟨_, _, _, rfl, rfl⟩ ?_ fun ps g z => z
      rintro r w ps g er ⟨s8, s9, s10, rfl, hgG⟩
      rw [hgG]
      have hr : r < rs.length := by
        have := (List.getElem?_eq_some_iff.mp er).1
        rwa [puL_len] at this
      rw [puL_at hr] at er
      cases er
      refine ⟨_, rfl, ?_⟩
      obtain ⟨st, d, mvs, PR, ep⟩ := purse_is (ks := ks) hg hs hr
      rw [← hA] at ep
      have ef := lei_end hg I PR.re hr
      have vb : ∀ v, f r = some v → v.natAbs < 1000000000000000 := fun v hv => by
        rw [ef] at hv
        have := PR.re.bd r hr v hv
        have := bnd_is hs
        omega
      obtain ⟨t, et⟩ := ansZ_repr vb
      obtain ⟨t2, _, et2⟩ := purseW_ok hg hs hr PR
      have p0 : ∀ h, wIx (purseW rs st d mvs r) (.int 0) h = some (ansZ (f r), h) := fun h => by
        rw [ef]
        unfold purseW
        cases st.p r <;> rfl
      obtain ⟨PU, hPU⟩ : ∃ PU, PU = purseW rs st d mvs r := ⟨_, rfl⟩
      rw [← hPU] at ep et2 p0
      refine seq_go (ps1 := [some X, some (.ref 0), some (.int (i : Nat)), some (.int hi), some A, some (.str Kp), some (.ref H.length), s7, some (.int (r : Nat)), some (oW (f r)), some (ansZ (f r))]) (h1 := G) (fun K hK => ?_) ?_
      · rw [to_asg, to_if]
        simp only [to_mB, to_op, to_var, to_C, to_tup, to_cons, to_nil]
        refine ⟨_, rfl, ?_⟩
        rw [wIs_non, pto_some, bto_bl, isnon_oW]
        cases hf : f r with
        | none =>
          rw [hf] at hK
          simp
          exact hK
        | some v =>
          rw [hf] at hK
          simp
          exact hK
      rw [to_sif, to_or, to_mB, to_op, to_call, to_cons, to_op, to_fn]
      simp only [to_cons, to_var, to_nil, to_C]
      refine ⟨_, rfl, _, rfl, rfl, ?_⟩
      rw [ep, to_ok, p0, pto_some, et, pto_some]
      simp only [to_call, to_cons, to_var, to_nil]
      refine ⟨_, rfl, ?_⟩
      rw [et, pto_some, wNe_str, pto_some, bto_bl, decide_eq_true rfl, Bool.not_true, Ite_false]
      rw [to_mB, to_op, to_call, to_cons, to_fn]
      simp only [to_cons, to_var, to_nil, to_C]
      refine ⟨_, rfl, _, rfl, rfl, ?_⟩
      rw [ep, to_ok, et2, pto_some]
      simp only [to_call, to_cons, to_fn, to_var, to_nil]
      refine ⟨_, rfl, _, rfl, rfl, ?_⟩
      rw [ep, to_ok, et2, pto_some, wNe_str, pto_some, bto_bl, decide_eq_true rfl]
      simp
    rintro ps g ⟨s8, s9, s10, rfl, rfl⟩
    rw [to_sif]
    simp [hKp]
    rw [hG, hH]
    exact ⟨o2, _, _, _, _, _, _, _, _, _, _, rfl, rfl, d2.up (by omega)⟩
  rintro ps g ⟨o, e, s2, s3, s4, s5, s6, s7, s8, s9, s10, rfl, rfl, d⟩
  simp
theorem law_ok : LawOk F_LAW35 := by
  intro ns hn hb
  obtain ⟨w, g, e, rfl⟩ := (law_run ns hn).is
  exact ⟨g, e⟩
end Mir

/-! the head of law_k35_whole_least_purses; printed by gen.py -/
namespace Mir
open PySem PySem.Spec PyProof.Rows L2
def r_need_room : FM := f_need_room f_is_among
def r_Lof_plan : FM := f_Lof_plan f_Lwanted f_Lis_led
def r_Raising_due : FM := f_Raising_due f_Raising_wanted
def r_Sinking_sink_rows : FM := f_Sinking_sink_rows f_Sinking_due
def r_purse_rows : FM := f_purse_rows r_Raising_due
def r_Raising_raise_room : FM := f_Raising_raise_room r_Raising_due
def r_Raising_raise_all : FM := f_Raising_raise_all r_Raising_raise_room
def r_LAW : FM := f_LAW f_Ldraw S_below S_arenaT S_plans r_Lof_plan S_purses S_purse
theorem g_is_among {P : Program} {w : World} {K : PySem.W.Frag} {mg : Str → Option Value} {base : Heap} {D : Dat} (T : Txt D K mg) : FnG P w K mg base 1 D.a_is_among D.d_is_among ["thing", "least", "most"] (SPm K 3 f_is_among) := o_is_among T 
theorem g_need_small {P : Program} {w : World} {K : PySem.W.Frag} {mg : Str → Option Value} {base : Heap} {D : Dat} (T : Txt D K mg) : FnG P w K mg base 1 D.a_need_small D.d_need_small ["arena"] (SPm K 1 f_need_small) := o_need_small T 
theorem g_need_rows {P : Program} {w : World} {K : PySem.W.Frag} {mg : Str → Option Value} {base : Heap} {D : Dat} (T : Txt D K mg) : FnG P w K mg base 1 D.a_need_rows D.d_need_rows ["raising"] (SPm K 1 f_need_rows) := o_need_rows T 
theorem g_Ldraw {P : Program} {w : World} {K : PySem.W.Frag} {mg : Str → Option Value} {base : Heap} {D : Dat} (T : Txt D K mg) : FnG P w K mg base 1 D.a_Ldraw D.d_Ldraw ["_law_script"] (SPm K 1 f_Ldraw) := o_Ldraw T 
theorem g_Lmixed {P : Program} {w : World} {K : PySem.W.Frag} {mg : Str → Option Value} {base : Heap} {D : Dat} (T : Txt D K mg) : FnG P w K mg base 1 D.a_Lmixed D.d_Lmixed ["_law_number", "_law_k"] (SPm K 2 f_Lmixed) := o_Lmixed T 
theorem g_Lplans {P : Program} {w : World} {K : PySem.W.Frag} {mg : Str → Option Value} {base : Heap} {D : Dat} (T : Txt D K mg) : FnG P w K mg base 1 D.a_Lplans D.d_Lplans ["_law_arena_here"] (SPm K 1 S_plans) := fits_ok (o_Lplans T ) fits_Lplans
theorem g_Lwanted {P : Program} {w : World} {K : PySem.W.Frag} {mg : Str → Option Value} {base : Heap} {D : Dat} (T : Txt D K mg) : FnG P w K mg base 1 D.a_Lwanted D.d_Lwanted ["_law_plan", "_law_found"] (SPm K 2 f_Lwanted) := o_Lwanted T 
theorem g_Lis_led {P : Program} {w : World} {K : PySem.W.Frag} {mg : Str → Option Value} {base : Heap} {D : Dat} (T : Txt D K mg) : FnG P w K mg base 1 D.a_Lis_led D.d_Lis_led ["_law_moves", "_law_lost"] (SPm K 2 f_Lis_led) := o_Lis_led T 
theorem g_Raising_ini {P : Program} {w : World} {K : PySem.W.Frag} {mg : Str → Option Value} {base : Heap} {D : Dat} (T : Txt D K mg) : FnG P w K mg base 1 D.a_Raising_ini D.d_Raising_ini ["self", "arena"] (SPm K 2 f_Raising_ini) := o_Raising_ini T 
theorem g_Raising_wanted {P : Program} {w : World} {K : PySem.W.Frag} {mg : Str → Option Value} {base : Heap} {D : Dat} (T : Txt D K mg) : FnG P w K mg base 1 D.a_Raising_wanted D.d_Raising_wanted ["self", "move"] (SPm K 2 f_Raising_wanted) := o_Raising_wanted T 
theorem g_Sinking_ini {P : Program} {w : World} {K : PySem.W.Frag} {mg : Str → Option Value} {base : Heap} {D : Dat} (T : Txt D K mg) : FnG P w K mg base 1 D.a_Sinking_ini D.d_Sinking_ini ["self", "raising"] (SPm K 2 f_Sinking_ini) := o_Sinking_ini T 
theorem g_Sinking_due {P : Program} {w : World} {K : PySem.W.Frag} {mg : Str → Option Value} {base : Heap} {D : Dat} (T : Txt D K mg) : FnG P w K mg base 1 D.a_Sinking_due D.d_Sinking_due ["self", "room"] (SPm K 2 f_Sinking_due) := o_Sinking_due T 
theorem g_need_room {P : Program} {w : World} {K : PySem.W.Frag} {mg : Str → Option Value} {base : Heap} {D : Dat} (T : Txt D K mg) : FnG P w K mg base 2 D.a_need_room D.d_need_room ["arena", "thing"] (SPm K 2 r_need_room) := o_need_room T (g_is_among T)
theorem g_Lbelow {P : Program} {w : World} {K : PySem.W.Frag} {mg : Str → Option Value} {base : Heap} {D : Dat} (T : Txt D K mg) : FnG P w K mg base 2 D.a_Lbelow D.d_Lbelow ["_law_draw_here", "_law_many"] (SPm K 2 S_below) := fits_ok (o_Lbelow T (g_Lmixed T)) fits_Lbelow
theorem g_Lof_plan {P : Program} {w : World} {K : PySem.W.Frag} {mg : Str → Option Value} {base : Heap} {D : Dat} (T : Txt D K mg) : FnG P w K mg base 2 D.a_Lof_plan D.d_Lof_plan ["_law_plan"] (SPm K 1 r_Lof_plan) := o_Lof_plan T (g_Lwanted T) (g_Lis_led T)
theorem g_Raising_due {P : Program} {w : World} {K : PySem.W.Frag} {mg : Str → Option Value} {base : Heap} {D : Dat} (T : Txt D K mg) : FnG P w K mg base 2 D.a_Raising_due D.d_Raising_due ["self", "room"] (SPm K 2 r_Raising_due) := o_Raising_due T (g_Raising_wanted T)
theorem g_Sinking_sink_rows {P : Program} {w : World} {K : PySem.W.Frag} {mg : Str → Option Value} {base : Heap} {D : Dat} (T : Txt D K mg) : FnG P w K mg base 2 D.a_Sinking_sink_rows D.d_Sinking_sink_rows ["self"] (SPm K 1 r_Sinking_sink_rows) := o_Sinking_sink_rows T (g_Sinking_due T)
theorem g_purse_rows {P : Program} {w : World} {K : PySem.W.Frag} {mg : Str → Option Value} {base : Heap} {D : Dat} (T : Txt D K mg) : FnG P w K mg base 3 D.a_purse_rows D.d_purse_rows ["raising"] (SPm K 1 r_purse_rows) := o_purse_rows T (g_Raising_due T)
theorem g_Larena {P : Program} {w : World} {K : PySem.W.Frag} {mg : Str → Option Value} {base : Heap} {D : Dat} (T : Txt D K mg) : FnG P w K mg base 3 D.a_Larena D.d_Larena ["_law_draw_here", "_law_most", "_law_low", "_law_high"] (SPm K 4 S_arenaT) := fits_ok (o_Larena T (g_Lbelow T)) fits_Larena
theorem g_Raising_raise_room {P : Program} {w : World} {K : PySem.W.Frag} {mg : Str → Option Value} {base : Heap} {D : Dat} (T : Txt D K mg) : FnG P w K mg base 3 D.a_Raising_raise_room D.d_Raising_raise_room ["self", "room"] (SPm K 2 r_Raising_raise_room) := o_Raising_raise_room T (g_Raising_due T)
theorem g_Raising_raise_all {P : Program} {w : World} {K : PySem.W.Frag} {mg : Str → Option Value} {base : Heap} {D : Dat} (T : Txt D K mg) : FnG P w K mg base 4 D.a_Raising_raise_all D.d_Raising_raise_all ["self"] (SPm K 1 r_Raising_raise_all) := o_Raising_raise_all T (g_Raising_raise_room T)
theorem g_purses {P : Program} {w : World} {K : PySem.W.Frag} {mg : Str → Option Value} {base : Heap} {D : Dat} (T : Txt D K mg) : FnG P w K mg base 5 D.a_purses D.d_purses ["arena"] (SPm K 1 S_purses) := fits_ok (o_purses T (g_need_small T) (g_Raising_raise_all T) (g_Raising_ini T)) fits_purses
theorem g_purse {P : Program} {w : World} {K : PySem.W.Frag} {mg : Str → Option Value} {base : Heap} {D : Dat} (T : Txt D K mg) : FnG P w K mg base 5 D.a_purse D.d_purse ["arena", "room"] (SPm K 2 S_purse) := fits_ok (o_purse T (g_need_room T) (g_need_small T) (g_Raising_raise_all T) (g_Raising_ini T) (g_Sinking_sink_rows T) (g_Sinking_ini T) (g_purse_rows T) (g_need_rows T)) fits_purse
theorem g_LAW {P : Program} {w : World} {K : PySem.W.Frag} {mg : Str → Option Value} {base : Heap} {D : Dat} (T : Txt D K mg) : FnG P w K mg base 6 D.a_LAW D.d_LAW ["_law_script"] (SPm K 1 r_LAW) := o_LAW T (g_Ldraw T) (g_Lbelow T) (g_Larena T) (g_Lplans T) (g_Lof_plan T) (g_purses T) (g_purse T)
theorem all_mk {P : Program} {w : World} {K : PySem.W.Frag} {h : Heap} {mg : Str → Option Value} {fa : Addr} (X : K.In h) (G : h.Ns mainGlobals mg) (hfa : mg "law" = some (.ref fa))
    {C_Raising : Addr}
    {C_Sinking : Addr}
    {f0 : Addr} {oc0 kV0 dc0 pm0 cd0 ct0 : Value} {od0 an0 : Option Addr} {sl0 : Array (Option Value)}
    {f1 : Addr} {oc1 kV1 dc1 pm1 cd1 ct1 : Value} {od1 an1 : Option Addr} {sl1 : Array (Option Value)}
    {f2 : Addr} {oc2 kV2 dc2 pm2 cd2 ct2 : Value} {od2 an2 : Option Addr} {sl2 : Array (Option Value)}
    {f3 : Addr} {oc3 kV3 dc3 pm3 cd3 ct3 : Value} {od3 an3 : Option Addr} {sl3 : Array (Option Value)}
    {f4 : Addr} {oc4 kV4 dc4 pm4 cd4 ct4 : Value} {od4 an4 : Option Addr} {sl4 : Array (Option Value)}
    {f5 : Addr} {oc5 kV5 dc5 pm5 cd5 ct5 : Value} {od5 an5 : Option Addr} {sl5 : Array (Option Value)}
    {f6 : Addr} {oc6 kV6 dc6 pm6 cd6 ct6 : Value} {od6 an6 : Option Addr} {sl6 : Array (Option Value)}
    {f7 : Addr} {oc7 kV7 dc7 pm7 cd7 ct7 : Value} {od7 an7 : Option Addr} {sl7 : Array (Option Value)}
    {f8 : Addr} {oc8 kV8 dc8 pm8 cd8 ct8 : Value} {od8 an8 : Option Addr} {sl8 : Array (Option Value)}
    {f9 : Addr} {oc9 kV9 dc9 pm9 cd9 ct9 : Value} {od9 an9 : Option Addr} {sl9 : Array (Option Value)}
    {f10 : Addr} {oc10 kV10 dc10 pm10 cd10 ct10 : Value} {od10 an10 : Option Addr} {sl10 : Array (Option Value)}
    {f11 : Addr} {oc11 kV11 dc11 pm11 cd11 ct11 : Value} {od11 an11 : Option Addr} {sl11 : Array (Option Value)}
    {f12 : Addr} {oc12 kV12 dc12 pm12 cd12 ct12 : Value} {od12 an12 : Option Addr} {sl12 : Array (Option Value)}
    {f13 : Addr} {oc13 kV13 dc13 pm13 cd13 ct13 : Value} {od13 an13 : Option Addr} {sl13 : Array (Option Value)}
    {f14 : Addr} {oc14 kV14 dc14 pm14 cd14 ct14 : Value} {od14 an14 : Option Addr} {sl14 : Array (Option Value)}
    {f15 : Addr} {oc15 kV15 dc15 pm15 cd15 ct15 : Value} {od15 an15 : Option Addr} {sl15 : Array (Option Value)}
    {f16 : Addr} {oc16 kV16 dc16 pm16 cd16 ct16 : Value} {od16 an16 : Option Addr} {sl16 : Array (Option Value)}
    {f17 : Addr} {oc17 kV17 dc17 pm17 cd17 ct17 : Value} {od17 an17 : Option Addr} {sl17 : Array (Option Value)}
    {f18 : Addr} {oc18 kV18 dc18 pm18 cd18 ct18 : Value} {od18 an18 : Option Addr} {sl18 : Array (Option Value)}
    {f19 : Addr} {oc19 kV19 dc19 pm19 cd19 ct19 : Value} {od19 an19 : Option Addr} {sl19 : Array (Option Value)}
    {f20 : Addr} {oc20 kV20 dc20 pm20 cd20 ct20 : Value} {od20 an20 : Option Addr} {sl20 : Array (Option Value)}
    {f21 : Addr} {oc21 kV21 dc21 pm21 cd21 ct21 : Value} {od21 an21 : Option Addr} {sl21 : Array (Option Value)}
    {f22 : Addr} {oc22 kV22 dc22 pm22 cd22 ct22 : Value} {od22 an22 : Option Addr} {sl22 : Array (Option Value)}
    {f23 : Addr} {oc23 kV23 dc23 pm23 cd23 ct23 : Value} {od23 an23 : Option Addr} {sl23 : Array (Option Value)}
    {C_BadRoom : Addr}
    {C_TooGreat : Addr}
    (a_Raising : PySem.W.nsIn K mainGlobals "Raising" = some (some (.ref C_Raising))) (g_Raising : PySem.W.plainGet K C_Raising Str.empty = true) (h_Raising : PySem.W.hasDictIn K C_Raising = true) (o_Raising : PySem.W.plainOver K C_Raising = true) (s_Raising : PySem.W.findIn K (.ref C_Raising) "__setattr__" = some (some (.builtin "object.__setattr__"))) (m_Raising : PySem.W.makesIn K C_Raising = true) (p_Raising : PySem.W.keepIn K (.ref C_Raising) = true)
    (n_Raising_arena : PySem.W.findIn K (.ref C_Raising) "arena" = some none)
    (n_Raising_bound : PySem.W.findIn K (.ref C_Raising) "bound" = some none)
    (n_Raising_count : PySem.W.findIn K (.ref C_Raising) "count" = some none)
    (n_Raising_lasts : PySem.W.findIn K (.ref C_Raising) "lasts" = some none)
    (n_Raising_purses : PySem.W.findIn K (.ref C_Raising) "purses" = some none)
    (n_Raising_ways : PySem.W.findIn K (.ref C_Raising) "ways" = some none)
    (a_Sinking : PySem.W.nsIn K mainGlobals "Sinking" = some (some (.ref C_Sinking))) (g_Sinking : PySem.W.plainGet K C_Sinking Str.empty = true) (h_Sinking : PySem.W.hasDictIn K C_Sinking = true) (o_Sinking : PySem.W.plainOver K C_Sinking = true) (s_Sinking : PySem.W.findIn K (.ref C_Sinking) "__setattr__" = some (some (.builtin "object.__setattr__"))) (m_Sinking : PySem.W.makesIn K C_Sinking = true) (p_Sinking : PySem.W.keepIn K (.ref C_Sinking) = true)
    (n_Sinking_arena : PySem.W.findIn K (.ref C_Sinking) "arena" = some none)
    (n_Sinking_depths : PySem.W.findIn K (.ref C_Sinking) "depths" = some none)
    (n_Sinking_sunk : PySem.W.findIn K (.ref C_Sinking) "sunk" = some none)
    (a0 : PySem.W.nsIn K mainGlobals "is_among" = some (some (.ref f0))) (l0 : K.lookup f0 = some ⟨oc0, od0, .func (PySem.W.fnOf "is_among" "is_among" (defArgs st_is_among) (defBody st_is_among) (defScope st_is_among) .none kV0 dc0 pm0 an0 cd0 ct0), sl0⟩) (c0 : PySem.W.codeIn K cd0 "is_among" = true) (k0 : PySem.W.keepIn K (.ref f0) = true)
    (a1 : PySem.W.nsIn K mainGlobals "need_small" = some (some (.ref f1))) (l1 : K.lookup f1 = some ⟨oc1, od1, .func (PySem.W.fnOf "need_small" "need_small" (defArgs st_need_small) (defBody st_need_small) (defScope st_need_small) .none kV1 dc1 pm1 an1 cd1 ct1), sl1⟩) (c1 : PySem.W.codeIn K cd1 "need_small" = true) (k1 : PySem.W.keepIn K (.ref f1) = true)
    (a2 : PySem.W.nsIn K mainGlobals "need_rows" = some (some (.ref f2))) (l2 : K.lookup f2 = some ⟨oc2, od2, .func (PySem.W.fnOf "need_rows" "need_rows" (defArgs st_need_rows) (defBody st_need_rows) (defScope st_need_rows) .none kV2 dc2 pm2 an2 cd2 ct2), sl2⟩) (c2 : PySem.W.codeIn K cd2 "need_rows" = true) (k2 : PySem.W.keepIn K (.ref f2) = true)
    (a3 : PySem.W.nsIn K mainGlobals "_law_draw" = some (some (.ref f3))) (l3 : K.lookup f3 = some ⟨oc3, od3, .func (PySem.W.fnOf "_law_draw" "_law_draw" (defArgs st_Ldraw) (defBody st_Ldraw) (defScope st_Ldraw) .none kV3 dc3 pm3 an3 cd3 ct3), sl3⟩) (c3 : PySem.W.codeIn K cd3 "_law_draw" = true) (k3 : PySem.W.keepIn K (.ref f3) = true)
    (a4 : PySem.W.nsIn K mainGlobals "_law_mixed" = some (some (.ref f4))) (l4 : K.lookup f4 = some ⟨oc4, od4, .func (PySem.W.fnOf "_law_mixed" "_law_mixed" (defArgs st_Lmixed) (defBody st_Lmixed) (defScope st_Lmixed) .none kV4 dc4 pm4 an4 cd4 ct4), sl4⟩) (c4 : PySem.W.codeIn K cd4 "_law_mixed" = true) (k4 : PySem.W.keepIn K (.ref f4) = true)
    (a5 : PySem.W.nsIn K mainGlobals "_law_plans" = some (some (.ref f5))) (l5 : K.lookup f5 = some ⟨oc5, od5, .func (PySem.W.fnOf "_law_plans" "_law_plans" (defArgs st_Lplans) (defBody st_Lplans) (defScope st_Lplans) .none kV5 dc5 pm5 an5 cd5 ct5), sl5⟩) (c5 : PySem.W.codeIn K cd5 "_law_plans" = true) (k5 : PySem.W.keepIn K (.ref f5) = true)
    (a6 : PySem.W.nsIn K mainGlobals "_law_wanted" = some (some (.ref f6))) (l6 : K.lookup f6 = some ⟨oc6, od6, .func (PySem.W.fnOf "_law_wanted" "_law_wanted" (defArgs st_Lwanted) (defBody st_Lwanted) (defScope st_Lwanted) .none kV6 dc6 pm6 an6 cd6 ct6), sl6⟩) (c6 : PySem.W.codeIn K cd6 "_law_wanted" = true) (k6 : PySem.W.keepIn K (.ref f6) = true)
    (a7 : PySem.W.nsIn K mainGlobals "_law_is_led" = some (some (.ref f7))) (l7 : K.lookup f7 = some ⟨oc7, od7, .func (PySem.W.fnOf "_law_is_led" "_law_is_led" (defArgs st_Lis_led) (defBody st_Lis_led) (defScope st_Lis_led) .none kV7 dc7 pm7 an7 cd7 ct7), sl7⟩) (c7 : PySem.W.codeIn K cd7 "_law_is_led" = true) (k7 : PySem.W.keepIn K (.ref f7) = true)
    (a8 : PySem.W.findIn K (.ref C_Raising) "__init__" = some (some (.ref f8))) (z8 : PySem.W.isFn K (.ref f8) = true) (l8 : K.lookup f8 = some ⟨oc8, od8, .func (PySem.W.fnOf "__init__" "Raising.__init__" (defArgs st_Raising_ini) (defBody st_Raising_ini) (defScope st_Raising_ini) .none kV8 dc8 pm8 an8 cd8 ct8), sl8⟩) (c8 : PySem.W.codeIn K cd8 "Raising.__init__" = true) (k8 : PySem.W.keepIn K (.ref f8) = true)
    (a9 : PySem.W.findIn K (.ref C_Raising) "wanted" = some (some (.ref f9))) (z9 : PySem.W.isFn K (.ref f9) = true) (l9 : K.lookup f9 = some ⟨oc9, od9, .func (PySem.W.fnOf "wanted" "Raising.wanted" (defArgs st_Raising_wanted) (defBody st_Raising_wanted) (defScope st_Raising_wanted) .none kV9 dc9 pm9 an9 cd9 ct9), sl9⟩) (c9 : PySem.W.codeIn K cd9 "Raising.wanted" = true) (k9 : PySem.W.keepIn K (.ref f9) = true)
    (a10 : PySem.W.findIn K (.ref C_Sinking) "__init__" = some (some (.ref f10))) (z10 : PySem.W.isFn K (.ref f10) = true) (l10 : K.lookup f10 = some ⟨oc10, od10, .func (PySem.W.fnOf "__init__" "Sinking.__init__" (defArgs st_Sinking_ini) (defBody st_Sinking_ini) (defScope st_Sinking_ini) .none kV10 dc10 pm10 an10 cd10 ct10), sl10⟩) (c10 : PySem.W.codeIn K cd10 "Sinking.__init__" = true) (k10 : PySem.W.keepIn K (.ref f10) = true)
    (a11 : PySem.W.findIn K (.ref C_Sinking) "due" = some (some (.ref f11))) (z11 : PySem.W.isFn K (.ref f11) = true) (l11 : K.lookup f11 = some ⟨oc11, od11, .func (PySem.W.fnOf "due" "Sinking.due" (defArgs st_Sinking_due) (defBody st_Sinking_due) (defScope st_Sinking_due) .none kV11 dc11 pm11 an11 cd11 ct11), sl11⟩) (c11 : PySem.W.codeIn K cd11 "Sinking.due" = true) (k11 : PySem.W.keepIn K (.ref f11) = true)
    (a12 : PySem.W.nsIn K mainGlobals "need_room" = some (some (.ref f12))) (l12 : K.lookup f12 = some ⟨oc12, od12, .func (PySem.W.fnOf "need_room" "need_room" (defArgs st_need_room) (defBody st_need_room) (defScope st_need_room) .none kV12 dc12 pm12 an12 cd12 ct12), sl12⟩) (c12 : PySem.W.codeIn K cd12 "need_room" = true) (k12 : PySem.W.keepIn K (.ref f12) = true)
    (a13 : PySem.W.nsIn K mainGlobals "_law_below" = some (some (.ref f13))) (l13 : K.lookup f13 = some ⟨oc13, od13, .func (PySem.W.fnOf "_law_below" "_law_below" (defArgs st_Lbelow) (defBody st_Lbelow) (defScope st_Lbelow) .none kV13 dc13 pm13 an13 cd13 ct13), sl13⟩) (c13 : PySem.W.codeIn K cd13 "_law_below" = true) (k13 : PySem.W.keepIn K (.ref f13) = true)
    (a14 : PySem.W.nsIn K mainGlobals "_law_of_plan" = some (some (.ref f14))) (l14 : K.lookup f14 = some ⟨oc14, od14, .func (PySem.W.fnOf "_law_of_plan" "_law_of_plan" (defArgs st_Lof_plan) (defBody st_Lof_plan) (defScope st_Lof_plan) .none kV14 dc14 pm14 an14 cd14 ct14), sl14⟩) (c14 : PySem.W.codeIn K cd14 "_law_of_plan" = true) (k14 : PySem.W.keepIn K (.ref f14) = true)
    (a15 : PySem.W.findIn K (.ref C_Raising) "due" = some (some (.ref f15))) (z15 : PySem.W.isFn K (.ref f15) = true) (l15 : K.lookup f15 = some ⟨oc15, od15, .func (PySem.W.fnOf "due" "Raising.due" (defArgs st_Raising_due) (defBody st_Raising_due) (defScope st_Raising_due) .none kV15 dc15 pm15 an15 cd15 ct15), sl15⟩) (c15 : PySem.W.codeIn K cd15 "Raising.due" = true) (k15 : PySem.W.keepIn K (.ref f15) = true)
    (a16 : PySem.W.findIn K (.ref C_Sinking) "sink_rows" = some (some (.ref f16))) (z16 : PySem.W.isFn K (.ref f16) = true) (l16 : K.lookup f16 = some ⟨oc16, od16, .func (PySem.W.fnOf "sink_rows" "Sinking.sink_rows" (defArgs st_Sinking_sink_rows) (defBody st_Sinking_sink_rows) (defScope st_Sinking_sink_rows) .none kV16 dc16 pm16 an16 cd16 ct16), sl16⟩) (c16 : PySem.W.codeIn K cd16 "Sinking.sink_rows" = true) (k16 : PySem.W.keepIn K (.ref f16) = true)
    (a17 : PySem.W.nsIn K mainGlobals "purse_rows" = some (some (.ref f17))) (l17 : K.lookup f17 = some ⟨oc17, od17, .func (PySem.W.fnOf "purse_rows" "purse_rows" (defArgs st_purse_rows) (defBody st_purse_rows) (defScope st_purse_rows) .none kV17 dc17 pm17 an17 cd17 ct17), sl17⟩) (c17 : PySem.W.codeIn K cd17 "purse_rows" = true) (k17 : PySem.W.keepIn K (.ref f17) = true)
    (a18 : PySem.W.nsIn K mainGlobals "_law_arena" = some (some (.ref f18))) (l18 : K.lookup f18 = some ⟨oc18, od18, .func (PySem.W.fnOf "_law_arena" "_law_arena" (defArgs st_Larena) (defBody st_Larena) (defScope st_Larena) .none kV18 dc18 pm18 an18 cd18 ct18), sl18⟩) (c18 : PySem.W.codeIn K cd18 "_law_arena" = true) (k18 : PySem.W.keepIn K (.ref f18) = true)
    (a19 : PySem.W.findIn K (.ref C_Raising) "raise_room" = some (some (.ref f19))) (z19 : PySem.W.isFn K (.ref f19) = true) (l19 : K.lookup f19 = some ⟨oc19, od19, .func (PySem.W.fnOf "raise_room" "Raising.raise_room" (defArgs st_Raising_raise_room) (defBody st_Raising_raise_room) (defScope st_Raising_raise_room) .none kV19 dc19 pm19 an19 cd19 ct19), sl19⟩) (c19 : PySem.W.codeIn K cd19 "Raising.raise_room" = true) (k19 : PySem.W.keepIn K (.ref f19) = true)
    (a20 : PySem.W.findIn K (.ref C_Raising) "raise_all" = some (some (.ref f20))) (z20 : PySem.W.isFn K (.ref f20) = true) (l20 : K.lookup f20 = some ⟨oc20, od20, .func (PySem.W.fnOf "raise_all" "Raising.raise_all" (defArgs st_Raising_raise_all) (defBody st_Raising_raise_all) (defScope st_Raising_raise_all) .none kV20 dc20 pm20 an20 cd20 ct20), sl20⟩) (c20 : PySem.W.codeIn K cd20 "Raising.raise_all" = true) (k20 : PySem.W.keepIn K (.ref f20) = true)
    (a21 : PySem.W.nsIn K mainGlobals "purses" = some (some (.ref f21))) (l21 : K.lookup f21 = some ⟨oc21, od21, .func (PySem.W.fnOf "purses" "purses" (defArgs st_purses) (defBody st_purses) (defScope st_purses) .none kV21 dc21 pm21 an21 cd21 ct21), sl21⟩) (c21 : PySem.W.codeIn K cd21 "purses" = true) (k21 : PySem.W.keepIn K (.ref f21) = true)
    (a22 : PySem.W.nsIn K mainGlobals "purse" = some (some (.ref f22))) (l22 : K.lookup f22 = some ⟨oc22, od22, .func (PySem.W.fnOf "purse" "purse" (defArgs st_purse) (defBody st_purse) (defScope st_purse) .none kV22 dc22 pm22 an22 cd22 ct22), sl22⟩) (c22 : PySem.W.codeIn K cd22 "purse" = true) (k22 : PySem.W.keepIn K (.ref f22) = true)
    (a23 : PySem.W.nsIn K mainGlobals "law" = some (some (.ref f23))) (l23 : K.lookup f23 = some ⟨oc23, od23, .func (PySem.W.fnOf "law" "law" (defArgs st_LAW) (defBody st_LAW) (defScope st_LAW) .none kV23 dc23 pm23 an23 cd23 ct23), sl23⟩) (c23 : PySem.W.codeIn K cd23 "law" = true) (k23 : PySem.W.keepIn K (.ref f23) = true)
    (a_BadRoom : PySem.W.nsIn K mainGlobals "BadRoom" = some (some (.ref C_BadRoom)))
    (a_TooGreat : PySem.W.nsIn K mainGlobals "TooGreat" = some (some (.ref C_TooGreat)))
    (kp_BadRoom : PySem.W.keepIn K (.ref C_BadRoom) = true)
    (sb_BadRoom : PySem.W.subIn K (.ref C_BadRoom) (.type "BaseException") = some true)
    (ty_BadRoom : PySem.W.typeIn K (.ref C_BadRoom) = some (.type "type"))
    (xi_BadRoom : PySem.W.excIn K C_BadRoom [.type "ValueError", .type "Exception", .type "BaseException", .type "object"] "ValueError.__new__" = true)
    (kp_TooGreat : PySem.W.keepIn K (.ref C_TooGreat) = true)
    (sb_TooGreat : PySem.W.subIn K (.ref C_TooGreat) (.type "BaseException") = some true)
    (ty_TooGreat : PySem.W.typeIn K (.ref C_TooGreat) = some (.type "type"))
    (xi_TooGreat : PySem.W.excIn K C_TooGreat [.type "ValueError", .type "Exception", .type "BaseException", .type "object"] "ValueError.__new__" = true)
    (n_abs : PySem.W.nsIn K mainGlobals "abs" = some none)
    (n_any : PySem.W.nsIn K mainGlobals "any" = some none)
    (n_bool : PySem.W.nsIn K mainGlobals "bool" = some none)
    (n_dict : PySem.W.nsIn K mainGlobals "dict" = some none)
    (n_enumerate : PySem.W.nsIn K mainGlobals "enumerate" = some none)
    (n_int : PySem.W.nsIn K mainGlobals "int" = some none)
    (n_isinstance : PySem.W.nsIn K mainGlobals "isinstance" = some none)
    (n_len : PySem.W.nsIn K mainGlobals "len" = some none)
    (n_list : PySem.W.nsIn K mainGlobals "list" = some none)
    (n_max : PySem.W.nsIn K mainGlobals "max" = some none)
    (n_min : PySem.W.nsIn K mainGlobals "min" = some none)
    (n_range : PySem.W.nsIn K mainGlobals "range" = some none)
    (n_repr : PySem.W.nsIn K mainGlobals "repr" = some none)
    (n_tuple : PySem.W.nsIn K mainGlobals "tuple" = some none)
    {t_FEW_ROOMS : Tok} (v_FEW_ROOMS : PySem.W.nsIn K mainGlobals "FEW_ROOMS" = some (some (.int 24 t_FEW_ROOMS)))
    {t_SMALL_PRICE : Tok} (v_SMALL_PRICE : PySem.W.nsIn K mainGlobals "SMALL_PRICE" = some (some (.int 30 t_SMALL_PRICE))) :
    ∃ fd : FuncData, (∀ (s : Shared) (u : Value), BindsTo s fd ⟨[u], []⟩ [("_law_script", u)]) ∧ ∀ base : Heap, K.In base → base.Ns mainGlobals mg → FnG P w K mg base 6 fa fd ["_law_script"] (SPm K 1 r_LAW) := by
  have e := hfa.symm.trans (PySem.W.mg_of X G a23)
  cases e
  let D : Dat := ⟨f0, (PySem.W.fnOf "is_among" "is_among" (defArgs st_is_among) (defBody st_is_among) (defScope st_is_among) .none kV0 dc0 pm0 an0 cd0 ct0), f1, (PySem.W.fnOf "need_small" "need_small" (defArgs st_need_small) (defBody st_need_small) (defScope st_need_small) .none kV1 dc1 pm1 an1 cd1 ct1), f2, (PySem.W.fnOf "need_rows" "need_rows" (defArgs st_need_rows) (defBody st_need_rows) (defScope st_need_rows) .none kV2 dc2 pm2 an2 cd2 ct2), f3, (PySem.W.fnOf "_law_draw" "_law_draw" (defArgs st_Ldraw) (defBody st_Ldraw) (defScope st_Ldraw) .none kV3 dc3 pm3 an3 cd3 ct3), f4, (PySem.W.fnOf "_law_mixed" "_law_mixed" (defArgs st_Lmixed) (defBody st_Lmixed) (defScope st_Lmixed) .none kV4 dc4 pm4 an4 cd4 ct4), f5, (PySem.W.fnOf "_law_plans" "_law_plans" (defArgs st_Lplans) (defBody st_Lplans) (defScope st_Lplans) .none kV5 dc5 pm5 an5 cd5 ct5), f6, (PySem.W.fnOf "_law_wanted" "_law_wanted" (defArgs st_Lwanted) (defBody st_Lwanted) (defScope st_Lwanted) .none kV6 dc6 pm6 an6 cd6 ct6), f7, (PySem.W.fnOf "_law_is_led" "_law_is_led" (defArgs st_Lis_led) (defBody st_Lis_led) (defScope st_Lis_led) .none kV7 dc7 pm7 an7 cd7 ct7), f8, (PySem.W.fnOf "__init__" "Raising.__init__" (defArgs st_Raising_ini) (defBody st_Raising_ini) (defScope st_Raising_ini) .none kV8 dc8 pm8 an8 cd8 ct8), f9, (PySem.W.fnOf "wanted" "Raising.wanted" (defArgs st_Raising_wanted) (defBody st_Raising_wanted) (defScope st_Raising_wanted) .none kV9 dc9 pm9 an9 cd9 ct9), f10, (PySem.W.fnOf "__init__" "Sinking.__init__" (defArgs st_Sinking_ini) (defBody st_Sinking_ini) (defScope st_Sinking_ini) .none kV10 dc10 pm10 an10 cd10 ct10), f11, (PySem.W.fnOf "due" "Sinking.due" (defArgs st_Sinking_due) (defBody st_Sinking_due) (defScope st_Sinking_due) .none kV11 dc11 pm11 an11 cd11 ct11), f12, (PySem.W.fnOf "need_room" "need_room" (defArgs st_need_room) (defBody st_need_room) (defScope st_need_room) .none kV12 dc12 pm12 an12 cd12 ct12), f13, (PySem.W.fnOf "_law_below" "_law_below" (defArgs st_Lbelow) (defBody st_Lbelow) (defScope st_Lbelow) .none kV13 dc13 pm13 an13 cd13 ct13), f14, (PySem.W.fnOf "_law_of_plan" "_law_of_plan" (defArgs st_Lof_plan) (defBody st_Lof_plan) (defScope st_Lof_plan) .none kV14 dc14 pm14 an14 cd14 ct14), f15, (PySem.W.fnOf "due" "Raising.due" (defArgs st_Raising_due) (defBody st_Raising_due) (defScope st_Raising_due) .none kV15 dc15 pm15 an15 cd15 ct15), f16, (PySem.W.fnOf "sink_rows" "Sinking.sink_rows" (defArgs st_Sinking_sink_rows) (defBody st_Sinking_sink_rows) (defScope st_Sinking_sink_rows) .none kV16 dc16 pm16 an16 cd16 ct16), f17, (PySem.W.fnOf "purse_rows" "purse_rows" (defArgs st_purse_rows) (defBody st_purse_rows) (defScope st_purse_rows) .none kV17 dc17 pm17 an17 cd17 ct17), f18, (PySem.W.fnOf "_law_arena" "_law_arena" (defArgs st_Larena) (defBody st_Larena) (defScope st_Larena) .none kV18 dc18 pm18 an18 cd18 ct18), f19, (PySem.W.fnOf "raise_room" "Raising.raise_room" (defArgs st_Raising_raise_room) (defBody st_Raising_raise_room) (defScope st_Raising_raise_room) .none kV19 dc19 pm19 an19 cd19 ct19), f20, (PySem.W.fnOf "raise_all" "Raising.raise_all" (defArgs st_Raising_raise_all) (defBody st_Raising_raise_all) (defScope st_Raising_raise_all) .none kV20 dc20 pm20 an20 cd20 ct20), f21, (PySem.W.fnOf "purses" "purses" (defArgs st_purses) (defBody st_purses) (defScope st_purses) .none kV21 dc21 pm21 an21 cd21 ct21), f22, (PySem.W.fnOf "purse" "purse" (defArgs st_purse) (defBody st_purse) (defScope st_purse) .none kV22 dc22 pm22 an22 cd22 ct22), fa, (PySem.W.fnOf "law" "law" (defArgs st_LAW) (defBody st_LAW) (defScope st_LAW) .none kV23 dc23 pm23 an23 cd23 ct23), C_Raising, C_Sinking⟩
  have T : Txt D K mg := {
    mg_Raising := PySem.W.mg_of X G a_Raising
    ns_Raising := a_Raising
    cl_Raising := ⟨g_Raising, h_Raising, o_Raising, s_Raising⟩
    mk_Raising := ⟨m_Raising, a8, z8, p_Raising⟩
    nf_Raising_arena := n_Raising_arena
    nf_Raising_bound := n_Raising_bound
    nf_Raising_count := n_Raising_count
    nf_Raising_lasts := n_Raising_lasts
    nf_Raising_purses := n_Raising_purses
    nf_Raising_ways := n_Raising_ways
    mg_Sinking := PySem.W.mg_of X G a_Sinking
    ns_Sinking := a_Sinking
    cl_Sinking := ⟨g_Sinking, h_Sinking, o_Sinking, s_Sinking⟩
    mk_Sinking := ⟨m_Sinking, a10, z10, p_Sinking⟩
    nf_Sinking_arena := n_Sinking_arena
    nf_Sinking_depths := n_Sinking_depths
    nf_Sinking_sunk := n_Sinking_sunk
    g_is_among := PySem.W.mg_of X G a0
    f_is_among := fun_mk l0 c0 k0
    b_is_among := Fun.binds (fun_mk (st := st_is_among) l0 c0 k0) (ps := ["thing", "least", "most"]) fun _ _ _ _ _ _ us hl => match us, hl with | [_, _, _], _ => rfl
    g_need_small := PySem.W.mg_of X G a1
    f_need_small := fun_mk l1 c1 k1
    b_need_small := Fun.binds (fun_mk (st := st_need_small) l1 c1 k1) (ps := ["arena"]) fun _ _ _ _ _ _ us hl => match us, hl with | [_], _ => rfl
    g_need_rows := PySem.W.mg_of X G a2
    f_need_rows := fun_mk l2 c2 k2
    b_need_rows := Fun.binds (fun_mk (st := st_need_rows) l2 c2 k2) (ps := ["raising"]) fun _ _ _ _ _ _ us hl => match us, hl with | [_], _ => rfl
    g_Ldraw := PySem.W.mg_of X G a3
    f_Ldraw := fun_mk l3 c3 k3
    b_Ldraw := Fun.binds (fun_mk (st := st_Ldraw) l3 c3 k3) (ps := ["_law_script"]) fun _ _ _ _ _ _ us hl => match us, hl with | [_], _ => rfl
    g_Lmixed := PySem.W.mg_of X G a4
    f_Lmixed := fun_mk l4 c4 k4
    b_Lmixed := Fun.binds (fun_mk (st := st_Lmixed) l4 c4 k4) (ps := ["_law_number", "_law_k"]) fun _ _ _ _ _ _ us hl => match us, hl with | [_, _], _ => rfl
    g_Lplans := PySem.W.mg_of X G a5
    f_Lplans := fun_mk l5 c5 k5
    b_Lplans := Fun.binds (fun_mk (st := st_Lplans) l5 c5 k5) (ps := ["_law_arena_here"]) fun _ _ _ _ _ _ us hl => match us, hl with | [_], _ => rfl
    g_Lwanted := PySem.W.mg_of X G a6
    f_Lwanted := fun_mk l6 c6 k6
    b_Lwanted := Fun.binds (fun_mk (st := st_Lwanted) l6 c6 k6) (ps := ["_law_plan", "_law_found"]) fun _ _ _ _ _ _ us hl => match us, hl with | [_, _], _ => rfl
    g_Lis_led := PySem.W.mg_of X G a7
    f_Lis_led := fun_mk l7 c7 k7
    b_Lis_led := Fun.binds (fun_mk (st := st_Lis_led) l7 c7 k7) (ps := ["_law_moves", "_law_lost"]) fun _ _ _ _ _ _ us hl => match us, hl with | [_, _], _ => rfl
    f_Raising_ini := fun_mk l8 c8 k8
    b_Raising_ini := Fun.binds (fun_mk (st := st_Raising_ini) l8 c8 k8) (ps := ["self", "arena"]) fun _ _ _ _ _ _ us hl => match us, hl with | [_, _], _ => rfl
    f_Raising_wanted := fun_mk l9 c9 k9
    b_Raising_wanted := Fun.binds (fun_mk (st := st_Raising_wanted) l9 c9 k9) (ps := ["self", "move"]) fun _ _ _ _ _ _ us hl => match us, hl with | [_, _], _ => rfl
    mt_Raising_wanted := ⟨a9, z9, k9⟩
    f_Sinking_ini := fun_mk l10 c10 k10
    b_Sinking_ini := Fun.binds (fun_mk (st := st_Sinking_ini) l10 c10 k10) (ps := ["self", "raising"]) fun _ _ _ _ _ _ us hl => match us, hl with | [_, _], _ => rfl
    f_Sinking_due := fun_mk l11 c11 k11
    b_Sinking_due := Fun.binds (fun_mk (st := st_Sinking_due) l11 c11 k11) (ps := ["self", "room"]) fun _ _ _ _ _ _ us hl => match us, hl with | [_, _], _ => rfl
    mt_Sinking_due := ⟨a11, z11, k11⟩
    g_need_room := PySem.W.mg_of X G a12
    f_need_room := fun_mk l12 c12 k12
    b_need_room := Fun.binds (fun_mk (st := st_need_room) l12 c12 k12) (ps := ["arena", "thing"]) fun _ _ _ _ _ _ us hl => match us, hl with | [_, _], _ => rfl
    g_Lbelow := PySem.W.mg_of X G a13
    f_Lbelow := fun_mk l13 c13 k13
    b_Lbelow := Fun.binds (fun_mk (st := st_Lbelow) l13 c13 k13) (ps := ["_law_draw_here", "_law_many"]) fun _ _ _ _ _ _ us hl => match us, hl with | [_, _], _ => rfl
    g_Lof_plan := PySem.W.mg_of X G a14
    f_Lof_plan := fun_mk l14 c14 k14
    b_Lof_plan := Fun.binds (fun_mk (st := st_Lof_plan) l14 c14 k14) (ps := ["_law_plan"]) fun _ _ _ _ _ _ us hl => match us, hl with | [_], _ => rfl
    f_Raising_due := fun_mk l15 c15 k15
    b_Raising_due := Fun.binds (fun_mk (st := st_Raising_due) l15 c15 k15) (ps := ["self", "room"]) fun _ _ _ _ _ _ us hl => match us, hl with | [_, _], _ => rfl
    mt_Raising_due := ⟨a15, z15, k15⟩
    f_Sinking_sink_rows := fun_mk l16 c16 k16
    b_Sinking_sink_rows := Fun.binds (fun_mk (st := st_Sinking_sink_rows) l16 c16 k16) (ps := ["self"]) fun _ _ _ _ _ _ us hl => match us, hl with | [_], _ => rfl
    mt_Sinking_sink_rows := ⟨a16, z16, k16⟩
    g_purse_rows := PySem.W.mg_of X G a17
    f_purse_rows := fun_mk l17 c17 k17
    b_purse_rows := Fun.binds (fun_mk (st := st_purse_rows) l17 c17 k17) (ps := ["raising"]) fun _ _ _ _ _ _ us hl => match us, hl with | [_], _ => rfl
    g_Larena := PySem.W.mg_of X G a18
    f_Larena := fun_mk l18 c18 k18
    b_Larena := Fun.binds (fun_mk (st := st_Larena) l18 c18 k18) (ps := ["_law_draw_here", "_law_most", "_law_low", "_law_high"]) fun _ _ _ _ _ _ us hl => match us, hl with | [_, _, _, _], _ => rfl
    f_Raising_raise_room := fun_mk l19 c19 k19
    b_Raising_raise_room := Fun.binds (fun_mk (st := st_Raising_raise_room) l19 c19 k19) (ps := ["self", "room"]) fun _ _ _ _ _ _ us hl => match us, hl with | [_, _], _ => rfl
    mt_Raising_raise_room := ⟨a19, z19, k19⟩
    f_Raising_raise_all := fun_mk l20 c20 k20
    b_Raising_raise_all := Fun.binds (fun_mk (st := st_Raising_raise_all) l20 c20 k20) (ps := ["self"]) fun _ _ _ _ _ _ us hl => match us, hl with | [_], _ => rfl
    mt_Raising_raise_all := ⟨a20, z20, k20⟩
    g_purses := PySem.W.mg_of X G a21
    f_purses := fun_mk l21 c21 k21
    b_purses := Fun.binds (fun_mk (st := st_purses) l21 c21 k21) (ps := ["arena"]) fun _ _ _ _ _ _ us hl => match us, hl with | [_], _ => rfl
    g_purse := PySem.W.mg_of X G a22
    f_purse := fun_mk l22 c22 k22
    b_purse := Fun.binds (fun_mk (st := st_purse) l22 c22 k22) (ps := ["arena", "room"]) fun _ _ _ _ _ _ us hl => match us, hl with | [_, _], _ => rfl
    g_LAW := PySem.W.mg_of X G a23
    f_LAW := fun_mk l23 c23 k23
    b_LAW := Fun.binds (fun_mk (st := st_LAW) l23 c23 k23) (ps := ["_law_script"]) fun _ _ _ _ _ _ us hl => match us, hl with | [_], _ => rfl
    e_BadRoom := ⟨_, PySem.W.mg_of X G a_BadRoom, a_BadRoom, kp_BadRoom, sb_BadRoom, ty_BadRoom, xi_BadRoom⟩
    e_TooGreat := ⟨_, PySem.W.mg_of X G a_TooGreat, a_TooGreat, kp_TooGreat, sb_TooGreat, ty_TooGreat, xi_TooGreat⟩
    n_abs := PySem.W.mg_none_of X G n_abs
    n_any := PySem.W.mg_none_of X G n_any
    n_bool := PySem.W.mg_none_of X G n_bool
    n_dict := PySem.W.mg_none_of X G n_dict
    n_enumerate := PySem.W.mg_none_of X G n_enumerate
    n_int := PySem.W.mg_none_of X G n_int
    n_isinstance := PySem.W.mg_none_of X G n_isinstance
    n_len := PySem.W.mg_none_of X G n_len
    n_list := PySem.W.mg_none_of X G n_list
    n_max := PySem.W.mg_none_of X G n_max
    n_min := PySem.W.mg_none_of X G n_min
    n_range := PySem.W.mg_none_of X G n_range
    n_repr := PySem.W.mg_none_of X G n_repr
    n_tuple := PySem.W.mg_none_of X G n_tuple
    k_FEW_ROOMS := ⟨_, PySem.W.mg_of X G v_FEW_ROOMS⟩
    k_SMALL_PRICE := ⟨_, PySem.W.mg_of X G v_SMALL_PRICE⟩ }
  exact ⟨D.d_LAW, fun s u => .of_eq rfl, fun base _ _ => g_LAW T⟩

theorem head : PySem.Challenge.rw_waitduel_k35_whole_least_purses.Holds := by
  w_on; o_law; k_head; (case hw => w_witness2)
  k_fill
  refine walk_m (l := PySem.Challenge.rw_waitduel_k35_whole_least_purses) (k := 6) (x := "_law_script") (F := r_LAW) rfl rfl ⟨rfl, by decide, by decide⟩ (fun w h Y => PySem.W.kIn_of Y) law_ok ?F
  case F =>
    intro w mg fa h KX G hmg
    refine' all_mk KX G hmg ?a_Raising ?g_Raising ?h_Raising ?o_Raising ?s_Raising ?m_Raising ?p_Raising ?n_Raising_arena ?n_Raising_bound ?n_Raising_count ?n_Raising_lasts ?n_Raising_purses ?n_Raising_ways ?a_Sinking ?g_Sinking ?h_Sinking ?o_Sinking ?s_Sinking ?m_Sinking ?p_Sinking ?n_Sinking_arena ?n_Sinking_depths ?n_Sinking_sunk ?a0 ?l0 ?c0 ?k0 ?a1 ?l1 ?c1 ?k1 ?a2 ?l2 ?c2 ?k2 ?a3 ?l3 ?c3 ?k3 ?a4 ?l4 ?c4 ?k4 ?a5 ?l5 ?c5 ?k5 ?a6 ?l6 ?c6 ?k6 ?a7 ?l7 ?c7 ?k7 ?a8 ?z8 ?l8 ?c8 ?k8 ?a9 ?z9 ?l9 ?c9 ?k9 ?a10 ?z10 ?l10 ?c10 ?k10 ?a11 ?z11 ?l11 ?c11 ?k11 ?a12 ?l12 ?c12 ?k12 ?a13 ?l13 ?c13 ?k13 ?a14 ?l14 ?c14 ?k14 ?a15 ?z15 ?l15 ?c15 ?k15 ?a16 ?z16 ?l16 ?c16 ?k16 ?a17 ?l17 ?c17 ?k17 ?a18 ?l18 ?c18 ?k18 ?a19 ?z19 ?l19 ?c19 ?k19 ?a20 ?z20 ?l20 ?c20 ?k20 ?a21 ?l21 ?c21 ?k21 ?a22 ?l22 ?c22 ?k22 ?a23 ?l23 ?c23 ?k23 ?a_BadRoom ?a_TooGreat ?kp_BadRoom ?sb_BadRoom ?ty_BadRoom ?xi_BadRoom ?kp_TooGreat ?sb_TooGreat ?ty_TooGreat ?xi_TooGreat ?n_abs ?n_any ?n_bool ?n_dict ?n_enumerate ?n_int ?n_isinstance ?n_len ?n_list ?n_max ?n_min ?n_range ?n_repr ?n_tuple ?v_FEW_ROOMS ?v_SMALL_PRICE
    (case a_Raising => k_is)
    (case g_Raising => k_is)
    (case h_Raising => k_is)
    (case o_Raising => k_is)
    (case s_Raising => k_is)
    (case m_Raising => k_is)
    (case p_Raising => k_is)
    (case n_Raising_arena => k_is)
    (case n_Raising_bound => k_is)
    (case n_Raising_count => k_is)
    (case n_Raising_lasts => k_is)
    (case n_Raising_purses => k_is)
    (case n_Raising_ways => k_is)
    (case a_Sinking => k_is)
    (case g_Sinking => k_is)
    (case h_Sinking => k_is)
    (case o_Sinking => k_is)
    (case s_Sinking => k_is)
    (case m_Sinking => k_is)
    (case p_Sinking => k_is)
    (case n_Sinking_arena => k_is)
    (case n_Sinking_depths => k_is)
    (case n_Sinking_sunk => k_is)
    (case a0 => k_is)
    (case l0 => k_is)
    (case c0 => k_is)
    (case k0 => k_is)
    (case a1 => k_is)
    (case l1 => k_is)
    (case c1 => k_is)
    (case k1 => k_is)
    (case a2 => k_is)
    (case l2 => k_is)
    (case c2 => k_is)
    (case k2 => k_is)
    (case a3 => k_is)
    (case l3 => k_is)
    (case c3 => k_is)
    (case k3 => k_is)
    (case a4 => k_is)
    (case l4 => k_is)
    (case c4 => k_is)
    (case k4 => k_is)
    (case a5 => k_is)
    (case l5 => k_is)
    (case c5 => k_is)
    (case k5 => k_is)
    (case a6 => k_is)
    (case l6 => k_is)
    (case c6 => k_is)
    (case k6 => k_is)
    (case a7 => k_is)
    (case l7 => k_is)
    (case c7 => k_is)
    (case k7 => k_is)
    (case a8 => k_is)
    (case z8 => k_is)
    (case l8 => k_is)
    (case c8 => k_is)
    (case k8 => k_is)
    (case a9 => k_is)
    (case z9 => k_is)
    (case l9 => k_is)
    (case c9 => k_is)
    (case k9 => k_is)
    (case a10 => k_is)
    (case z10 => k_is)
    (case l10 => k_is)
    (case c10 => k_is)
    (case k10 => k_is)
    (case a11 => k_is)
    (case z11 => k_is)
    (case l11 => k_is)
    (case c11 => k_is)
    (case k11 => k_is)
    (case a12 => k_is)
    (case l12 => k_is)
    (case c12 => k_is)
    (case k12 => k_is)
    (case a13 => k_is)
    (case l13 => k_is)
    (case c13 => k_is)
    (case k13 => k_is)
    (case a14 => k_is)
    (case l14 => k_is)
    (case c14 => k_is)
    (case k14 => k_is)
    (case a15 => k_is)
    (case z15 => k_is)
    (case l15 => k_is)
    (case c15 => k_is)
    (case k15 => k_is)
    (case a16 => k_is)
    (case z16 => k_is)
    (case l16 => k_is)
    (case c16 => k_is)
    (case k16 => k_is)
    (case a17 => k_is)
    (case l17 => k_is)
    (case c17 => k_is)
    (case k17 => k_is)
    (case a18 => k_is)
    (case l18 => k_is)
    (case c18 => k_is)
    (case k18 => k_is)
    (case a19 => k_is)
    (case z19 => k_is)
    (case l19 => k_is)
    (case c19 => k_is)
    (case k19 => k_is)
    (case a20 => k_is)
    (case z20 => k_is)
    (case l20 => k_is)
    (case c20 => k_is)
    (case k20 => k_is)
    (case a21 => k_is)
    (case l21 => k_is)
    (case c21 => k_is)
    (case k21 => k_is)
    (case a22 => k_is)
    (case l22 => k_is)
    (case c22 => k_is)
    (case k22 => k_is)
    (case a23 => k_is)
    (case l23 => k_is)
    (case c23 => k_is)
    (case k23 => k_is)
    (case a_BadRoom => k_is)
    (case a_TooGreat => k_is)
    (case kp_BadRoom => k_is)
    (case sb_BadRoom => k_is)
    (case ty_BadRoom => k_is)
    (case xi_BadRoom => k_exc)
    (case kp_TooGreat => k_is)
    (case sb_TooGreat => k_is)
    (case ty_TooGreat => k_is)
    (case xi_TooGreat => k_exc)
    (case n_abs => k_is)
    (case n_any => k_is)
    (case n_bool => k_is)
    (case n_dict => k_is)
    (case n_enumerate => k_is)
    (case n_int => k_is)
    (case n_isinstance => k_is)
    (case n_len => k_is)
    (case n_list => k_is)
    (case n_max => k_is)
    (case n_min => k_is)
    (case n_range => k_is)
    (case n_repr => k_is)
    (case n_tuple => k_is)
    (case v_FEW_ROOMS => k_is)
    (case v_SMALL_PRICE => k_is)
end Mir

theorem PySem.Challenge.cw_waitduel_k35_whole_least_purses_holds : PySem.Challenge.rw_waitduel_k35_whole_least_purses.Holds := by
  exact Mir.head
