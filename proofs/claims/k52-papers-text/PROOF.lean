import PyProof.Rows.All
import Wide.All
import OpenK.AllK
import Wide.FinOn
import HandS.ForMost
import HandS.Exc
import HandS.TryOnly
import HandS.TryMany
import HandS.ExcOwn
import HandS.ExcInit
import HandS.WordsExc
import HandS.IsInst
import HandS.TupAny
import PyProof.StrBlock2
import HandS.TupMul
import HandS.Wide
import HandS.Style
import HandS.TupLe
import HandS.Iter
import PyProof.ListOps
import PyProof.Rows.SeqMore
import HandS.SortInts
import HandS.Conv
import KE.GoesEnum
import HandS.Zip
import HandS.RevRange
import HandS.Rev
import HandS.Small
import HandS.WordsDict
import PyProof.ReprRoads
import HandS.Ends
import HandS.EndBits
import HandS.RaiseMore
import PyProof.ReprLen
import KE.KExcIs
import HandS.ExcIs
import HandS.ExcValue
import HandS.ExcField
import HandS.More
import HandS.Dict
import PyProof.TupleOfSeq
import HandS.Deep
import PyProof.P3In
import KE.KRevSl
import HandS.SetFor
import HandS.Replace
import HandS.ReplaceLit
import HandS.Codes
import PySem.Challenge.RW_waitduel_k52_papers_as_text
import PyProof.StrLawsReplace
set_option Elab.async false
set_option linter.all false
set_option maxRecDepth 100000
set_option maxHeartbeats 4000000
/-! Mir: a heap of one's own in plain data (immutable things are trees, what changes stands at a number), and how it lies in HandS's heap. -/
namespace Mir
open PySem L2

/-- a plain thing in an exception's field -/
inductive PV where
  | non
  | bl (b : Bool)
  | int (i : Int)
  | str (x : Str)
def PV.v : PV → V
  | .non => .non
  | .bl b => .bl b
  | .int i => .int i
  | .str x => .str x
/-- an exception: its class by name, its own fields -/
structure XV where
  c : Str
  fs : List (Str × PV)
/-- an exception's object at a -/
def exV (C : Addr) (d : Option Addr) (a : Addr) : HO := .ext fun h => ∃ (oe : Obj) (vs : Array Value), h.get? a = some oe ∧ Zc (.ref C) d oe ∧ oe.data = .fields vs
/-- an exception of the class that is named so, its dict at d -/
def XRep (K : PySem.W.Frag) (_ : List Addr) (H : Hp) (x : XV) (c : Value) (d : Option Addr) : Prop :=
  (∃ C : Addr, c = .ref C ∧ PySem.W.nsIn K mainGlobals x.c = some (some (.ref C))) ∧ ((d = none ∧ x.fs = []) ∨ ∃ dd : Addr, d = some dd ∧ H dd = some (.xd (x.fs.map fun p => (p.1, p.2.v))))
/-- an exception that is kept -/
def ExR (K : PySem.W.Frag) (H : Hp) (x : XV) (a : Addr) : Prop := ∃ (C : Addr) (d : Option Addr), XRep K [] H x (.ref C) d ∧ H a = some (exV C d a)
/-- a value: immutable things as trees, mutable ones by number; fix: a list that never changes -/
inductive W where
  | non
  | bl (b : Bool)
  | int (i : Int)
  | str (x : Str)
  | tup (xs : List W)
  | fix (xs : List W)
  | exc (x : XV)
  | ref (n : Nat)

/-- what stands at a number -/
inductive OB where
  | lst (xs : List W)
  | dK (kvs : List (Key × W))
  | ins (c : Str) (fs : List (Str × W))
  | lk (kvs : List (Key × W))

abbrev PH := List OB
abbrev LS := List (Option W)

/-- a list that never changes: locked, or of the written part -/
def FixL (K : PySem.W.Frag) (H : Hp) (a : Addr) (xs : List V) : Prop :=
  (∃ o, H a = some (.frz o (.lst xs))) ∨
    ∃ (o : Obj) (its : Array Value) (n : Nat), K.lookup a = some o ∧ o.cls = .type "list" ∧ o.dict = none ∧ o.data = .seq its n ∧ its.size ≤ sizeLine ∧ Vals xs its.toList
theorem FixL.seq {K : PySem.W.Frag} {H : Hp} {a : Addr} {xs : List V} (h : FixL K H a xs) : SqL K H a xs := by
  rcases h with ⟨o, h⟩ | h
  · exact .inl (.inr ⟨o, h⟩)
  · exact .inr h

mutual
def Rep (K : PySem.W.Frag) (f : List Addr) (H : Hp) : W → V → Prop
  | .non, v => v = .non
  | .bl b, v => v = .bl b
  | .int i, v => v = .int i
  | .str x, v => v = .str x
  | .tup xs, v => ∃ a vs, v = .ref a ∧ SqT K H a vs ∧ Reps K f H xs vs
  | .fix xs, v => ∃ a vs, v = .ref a ∧ FixL K H a vs ∧ Reps K f H xs vs
  | .exc x, v => ∃ a, v = .ref a ∧ ExR K H x a
  | .ref n, v => ∃ a, v = .ref a ∧ f[n]? = some a
def Reps (K : PySem.W.Frag) (f : List Addr) (H : Hp) : List W → List V → Prop
  | [], vs => vs = []
  | x :: xs, vs => ∃ v r, vs = v :: r ∧ Rep K f H x v ∧ Reps K f H xs r
end

/-- all that stood outside of f stands -/
def Grow (f : List Addr) (H H' : Hp) : Prop := ∀ a o, H a = some o → a ∉ f → H' a = some o
/-- f' goes on behind f -/
def Ext (f f' : List Addr) : Prop := ∃ g, f' = f ++ g
theorem Ext.refl (f : List Addr) : Ext f f := ⟨[], by simp⟩
theorem Ext.trans {f g k : List Addr} (a : Ext f g) (b : Ext g k) : Ext f k := by
  obtain ⟨x, rfl⟩ := a
  obtain ⟨y, rfl⟩ := b
  exact ⟨x ++ y, by simp⟩
theorem Ext.get {f g : List Addr} (a : Ext f g) {n : Nat} {x : Addr} (h : f[n]? = some x) : g[n]? = some x := by
  obtain ⟨y, rfl⟩ := a
  rw [List.getElem?_append_left (List.getElem?_eq_some_iff.mp h).1]
  exact h
theorem Ext.mem {f g : List Addr} (a : Ext f g) {x : Addr} (h : x ∈ f) : x ∈ g := by
  obtain ⟨y, rfl⟩ := a
  exact List.mem_append_left _ h
theorem Ext.snoc (f : List Addr) (p : Addr) : Ext f (f ++ [p]) := ⟨[p], rfl⟩
theorem Grow.refl (f : List Addr) (H : Hp) : Grow f H H := fun _ _ e _ => e

/-- the things that a tree leans on stay -/
structure Stay (K : PySem.W.Frag) (H H' : Hp) : Prop where
  t : ∀ a xs, SqT K H a xs → SqT K H' a xs
  l : ∀ a xs, FixL K H a xs → FixL K H' a xs
  e : ∀ a φ, H a = some (.ext φ) → H' a = some (.ext φ)
  d : ∀ a gs, H a = some (.xd gs) → H' a = some (.xd gs)
theorem Stay.refl (K : PySem.W.Frag) (H : Hp) : Stay K H H := ⟨fun _ _ h => h, fun _ _ h => h, fun _ _ h => h, fun _ _ h => h⟩
theorem Stay.trans {K : PySem.W.Frag} {H H1 H2 : Hp} (a : Stay K H H1) (b : Stay K H1 H2) : Stay K H H2 :=
  ⟨fun x xs h => b.t x xs (a.t x xs h), fun x xs h => b.l x xs (a.l x xs h), fun x xs h => b.e x xs (a.e x xs h), fun x xs h => b.d x xs (a.d x xs h)⟩
theorem XRep.mono {K : PySem.W.Frag} {f f' : List Addr} {H H' : Hp} (s : Stay K H H') {x : XV} {c : Value} {d : Option Addr} (r : XRep K f H x c d) : XRep K f' H' x c d := by
  obtain ⟨h1, h2 | ⟨dd, e1, e2⟩⟩ := r
  · exact ⟨h1, .inl h2⟩
  · exact ⟨h1, .inr ⟨dd, e1, s.d _ _ e2⟩⟩
theorem ExR.mono {K : PySem.W.Frag} {H H' : Hp} (s : Stay K H H') {x : XV} {a : Addr} (r : ExR K H x a) : ExR K H' x a := by
  obtain ⟨C, d, h1, h2⟩ := r
  exact ⟨C, d, h1.mono s, s.e _ _ h2⟩

mutual
theorem Rep.mono {K : PySem.W.Frag} {f f' : List Addr} {H H' : Hp} (e : Ext f f') (s : Stay K H H') : ∀ (w : W) (v : V), Rep K f H w v → Rep K f' H' w v
  | .non, v, h => by simpa only [Rep] using h
  | .bl b, v, h => by simpa only [Rep] using h
  | .int i, v, h => by simpa only [Rep] using h
  | .str x, v, h => by simpa only [Rep] using h
  | .tup xs, v, h => by
    simp only [Rep] at h ⊢
    obtain ⟨a, vs, h1, h2, h3⟩ := h
    exact ⟨a, vs, h1, s.t a vs h2, Reps.mono e s xs vs h3⟩
  | .fix xs, v, h => by
    simp only [Rep] at h ⊢
    obtain ⟨a, vs, h1, h2, h3⟩ := h
    exact ⟨a, vs, h1, s.l a vs h2, Reps.mono e s xs vs h3⟩
  | .exc x, v, h => by
    simp only [Rep] at h ⊢
    obtain ⟨a, h1, h2⟩ := h
    exact ⟨a, h1, h2.mono s⟩
  | .ref n, v, h => by
    simp only [Rep] at h ⊢
    obtain ⟨a, h1, h2⟩ := h
    exact ⟨a, h1, e.get h2⟩
theorem Reps.mono {K : PySem.W.Frag} {f f' : List Addr} {H H' : Hp} (e : Ext f f') (s : Stay K H H') : ∀ (ws : List W) (vs : List V), Reps K f H ws vs → Reps K f' H' ws vs
  | [], vs, h => by simpa only [Reps] using h
  | x :: xs, vs, h => by
    simp only [Reps] at h ⊢
    obtain ⟨v, r, h1, h2, h3⟩ := h
    exact ⟨v, r, h1, Rep.mono e s x v h2, Reps.mono e s xs r h3⟩
end

theorem Reps.length {K : PySem.W.Frag} {f : List Addr} {H : Hp} : ∀ {ws : List W} {vs : List V}, Reps K f H ws vs → ws.length = vs.length
  | [], vs, h => by
    simp only [Reps] at h
    subst h
    rfl
  | x :: xs, vs, h => by
    simp only [Reps] at h
    obtain ⟨v, r, rfl, _, h3⟩ := h
    simp only [List.length_cons, Reps.length h3]
theorem Reps.get {K : PySem.W.Frag} {f : List Addr} {H : Hp} : ∀ {ws : List W} {vs : List V} {i : Nat} {w : W}, Reps K f H ws vs → ws[i]? = some w → ∃ v, vs[i]? = some v ∧ Rep K f H w v
  | [], vs, i, w, h, e => by simp at e
  | x :: xs, vs, 0, w, h, e => by
    simp only [Reps] at h
    obtain ⟨v, r, rfl, h2, _⟩ := h
    simp at e
    subst e
    exact ⟨v, by simp, h2⟩
  | x :: xs, vs, i + 1, w, h, e => by
    simp only [Reps] at h
    obtain ⟨v, r, rfl, _, h3⟩ := h
    simp only [List.getElem?_cons_succ] at e ⊢
    exact Reps.get h3 e
theorem Reps.getv {K : PySem.W.Frag} {f : List Addr} {H : Hp} {ws : List W} {vs : List V} {i : Nat} {v : V} (h : Reps K f H ws vs) (e : vs[i]? = some v) : ∃ w, ws[i]? = some w ∧ Rep K f H w v := by
  have hl := h.length
  have hi : i < ws.length := by rw [hl]; exact (List.getElem?_eq_some_iff.mp e).1
  obtain ⟨v', e', r⟩ := h.get (List.getElem?_eq_getElem hi)
  rw [e] at e'
  cases e'
  exact ⟨_, List.getElem?_eq_getElem hi, r⟩
theorem Reps.append {K : PySem.W.Frag} {f : List Addr} {H : Hp} : ∀ {ws zs : List W} {vs us : List V}, Reps K f H ws vs → Reps K f H zs us → Reps K f H (ws ++ zs) (vs ++ us)
  | [], zs, vs, us, h, k => by
    simp only [Reps] at h
    subst h
    exact k
  | x :: xs, zs, vs, us, h, k => by
    simp only [Reps] at h
    obtain ⟨v, r, rfl, h2, h3⟩ := h
    simp only [List.cons_append, Reps]
    exact ⟨v, r ++ us, rfl, h2, Reps.append h3 k⟩
theorem Reps.one {K : PySem.W.Frag} {f : List Addr} {H : Hp} {w : W} {v : V} (h : Rep K f H w v) : Reps K f H [w] [v] := by
  simp only [Reps]
  exact ⟨v, [], rfl, h, rfl⟩
theorem Reps.nil {K : PySem.W.Frag} {f : List Addr} {H : Hp} : Reps K f H [] [] := by simp only [Reps]
theorem Reps.cons {K : PySem.W.Frag} {f : List Addr} {H : Hp} {w : W} {v : V} {ws : List W} {vs : List V} (h : Rep K f H w v) (k : Reps K f H ws vs) : Reps K f H (w :: ws) (v :: vs) := by
  simp only [Reps]
  exact ⟨v, vs, rfl, h, k⟩
theorem Reps.nil_inv {K : PySem.W.Frag} {f : List Addr} {H : Hp} {vs : List V} (h : Reps K f H [] vs) : vs = [] := by simpa only [Reps] using h
theorem Reps.cons_inv {K : PySem.W.Frag} {f : List Addr} {H : Hp} {w : W} {ws : List W} {vs : List V} (h : Reps K f H (w :: ws) vs) : ∃ v r, vs = v :: r ∧ Rep K f H w v ∧ Reps K f H ws r := by simpa only [Reps] using h
theorem Reps.set {K : PySem.W.Frag} {f : List Addr} {H : Hp} {w : W} {v : V} (r : Rep K f H w v) : ∀ {ws : List W} {vs : List V} (i : Nat), Reps K f H ws vs → Reps K f H (ws.set i w) (vs.set i v)
  | [], vs, i, h => by
    simp only [Reps] at h
    subst h
    simp only [List.set_nil, Reps]
  | x :: xs, vs, 0, h => by
    obtain ⟨u, t, rfl, h1, h2⟩ := h.cons_inv
    simp only [List.set_cons_zero]
    exact .cons r h2
  | x :: xs, vs, i + 1, h => by
    obtain ⟨u, t, rfl, h1, h2⟩ := h.cons_inv
    simp only [List.set_cons_succ]
    exact .cons h1 (Reps.set r i h2)
theorem Reps.drop {K : PySem.W.Frag} {f : List Addr} {H : Hp} : ∀ {ws : List W} {vs : List V} (n : Nat), Reps K f H ws vs → Reps K f H (ws.drop n) (vs.drop n)
  | ws, vs, 0, h => h
  | [], vs, n + 1, h => by
    simp only [Reps] at h
    subst h
    simp only [List.drop_nil, Reps]
  | x :: xs, vs, n + 1, h => by
    obtain ⟨u, t, rfl, h1, h2⟩ := h.cons_inv
    exact Reps.drop n h2
theorem Reps.take {K : PySem.W.Frag} {f : List Addr} {H : Hp} : ∀ {ws : List W} {vs : List V} (n : Nat), Reps K f H ws vs → Reps K f H (ws.take n) (vs.take n)
  | ws, vs, 0, h => by simp only [List.take_zero, Reps]
  | [], vs, n + 1, h => by
    simp only [Reps] at h
    subst h
    simp only [List.take_nil, Reps]
  | x :: xs, vs, n + 1, h => by
    obtain ⟨u, t, rfl, h1, h2⟩ := h.cons_inv
    exact .cons h1 (Reps.take n h2)
theorem Reps.reverse {K : PySem.W.Frag} {f : List Addr} {H : Hp} : ∀ {ws : List W} {vs : List V}, Reps K f H ws vs → Reps K f H ws.reverse vs.reverse
  | [], vs, h => by
    simp only [Reps] at h
    subst h
    simp only [List.reverse_nil, Reps]
  | x :: xs, vs, h => by
    obtain ⟨u, t, rfl, h1, h2⟩ := h.cons_inv
    rw [List.reverse_cons, List.reverse_cons]
    exact (Reps.reverse h2).append (.one h1)

/-- pairs by key -/
def KRep {κ : Type} (K : PySem.W.Frag) (f : List Addr) (H : Hp) : List (κ × W) → List (κ × V) → Prop
  | [], kvs => kvs = []
  | (k, w) :: r, kvs => ∃ v s, kvs = (k, v) :: s ∧ Rep K f H w v ∧ KRep K f H r s
theorem KRep.mono {κ : Type} {K : PySem.W.Frag} {f f' : List Addr} {H H' : Hp} (e : Ext f f') (s : Stay K H H') : ∀ (ws : List (κ × W)) (vs : List (κ × V)), KRep K f H ws vs → KRep K f' H' ws vs
  | [], vs, h => h
  | (k, w) :: r, vs, h => by
    obtain ⟨v, t, h1, h2, h3⟩ := h
    exact ⟨v, t, h1, Rep.mono e s w v h2, KRep.mono e s r t h3⟩
theorem KRep.length {κ : Type} {K : PySem.W.Frag} {f : List Addr} {H : Hp} : ∀ {ws : List (κ × W)} {vs : List (κ × V)}, KRep K f H ws vs → ws.length = vs.length
  | [], vs, h => by
    have h : vs = [] := h
    subst h
    rfl
  | (k, w) :: r, vs, h => by
    obtain ⟨v, t, rfl, h2, h3⟩ := h
    simp only [List.length_cons, KRep.length h3]

/-- how an object lies at a -/
def ObjR (K : PySem.W.Frag) (f : List Addr) (H : Hp) : OB → Addr → Prop
  | .lst xs, a => ∃ vs, H a = some (.lst vs) ∧ Reps K f H xs vs
  | .dK kvs, a => ∃ vs, H a = some (.dK vs) ∧ KRep K f H kvs vs
  | .ins c fs, a => ∃ C dx vs, PySem.W.nsIn K mainGlobals c = some (some (.ref C)) ∧ H a = some (.ins C dx vs) ∧ KRep K f H fs vs
  | .lk kvs, a => ∃ o vs, H a = some (.frz o (.dK vs)) ∧ KRep K f H kvs vs
/-- what may stand at a -/
def Mov : HO → Prop
  | .lst _ => True
  | .dK _ => True
  | .ins _ _ _ => True
  | .frz _ (.dK _) => True
  | _ => False
theorem ObjR.mov {K : PySem.W.Frag} {f : List Addr} {H : Hp} {o : OB} {a : Addr} (h : ObjR K f H o a) : ∃ u, H a = some u ∧ Mov u := by
  cases o with
  | lst xs => obtain ⟨vs, h, _⟩ := h; exact ⟨_, h, trivial⟩
  | dK kvs => obtain ⟨vs, h, _⟩ := h; exact ⟨_, h, trivial⟩
  | ins c fs => obtain ⟨C, dx, vs, _, h, _⟩ := h; exact ⟨_, h, trivial⟩
  | lk kvs => obtain ⟨o, vs, h, _⟩ := h; exact ⟨_, h, trivial⟩
theorem ObjR.mono {K : PySem.W.Frag} {f f' : List Addr} {H H' : Hp} {o : OB} {a : Addr} (e : Ext f f') (s : Stay K H H') (same : H' a = H a) (h : ObjR K f H o a) : ObjR K f' H' o a := by
  cases o with
  | lst xs => obtain ⟨vs, h1, h2⟩ := h; exact ⟨vs, same.trans h1, Reps.mono e s _ _ h2⟩
  | dK kvs => obtain ⟨vs, h1, h2⟩ := h; exact ⟨vs, same.trans h1, KRep.mono e s _ _ h2⟩
  | ins c fs => obtain ⟨C, dx, vs, h0, h1, h2⟩ := h; exact ⟨C, dx, vs, h0, same.trans h1, KRep.mono e s _ _ h2⟩
  | lk kvs => obtain ⟨o, vs, h1, h2⟩ := h; exact ⟨o, vs, same.trans h1, KRep.mono e s _ _ h2⟩

/-- the own heap lies in HandS's -/
structure Sim (K : PySem.W.Frag) (f : List Addr) (h : PH) (H : Hp) : Prop where
  len : f.length = h.length
  nd : f.Nodup
  obj : ∀ (n : Nat) (o : OB), h[n]? = some o → ∃ a, f[n]? = some a ∧ ObjR K f H o a

theorem Sim.mov {K : PySem.W.Frag} {f : List Addr} {h : PH} {H : Hp} (s : Sim K f h H) {a : Addr} (ha : a ∈ f) : ∃ u, H a = some u ∧ Mov u := by
  obtain ⟨n, hn, e⟩ := List.getElem_of_mem ha
  have hn2 : n < h.length := by rw [← s.len]; exact hn
  obtain ⟨b, hb, r⟩ := s.obj n h[n] (List.getElem?_eq_getElem hn2)
  rw [List.getElem?_eq_getElem hn] at hb
  cases hb
  rw [e] at r
  exact r.mov
theorem Sim.fresh {K : PySem.W.Frag} {f : List Addr} {h : PH} {H : Hp} (s : Sim K f h H) {p : Addr} (hp : H p = none) : p ∉ f := fun hm => by
  obtain ⟨u, e, _⟩ := s.mov hm
  rw [hp] at e
  cases e
/-- growth keeps the trees -/
theorem Sim.stay {K : PySem.W.Frag} {f : List Addr} {h : PH} {H H' : Hp} (s : Sim K f h H) (g : Grow f H H') : Stay K H H' := by
  have key : ∀ a u, H a = some u → ¬ Mov u → H' a = some u := fun a u e nm => g a u e fun hm => by
    obtain ⟨u', e', m⟩ := s.mov hm
    rw [e] at e'
    cases e'
    exact nm m
  refine ⟨fun a xs r => ?_, fun a xs r => ?_, fun a φ r => key _ _ r id, fun a gs r => key _ _ r id⟩
  · rcases r with (r | ⟨o, r⟩) | r
    · exact .inl (.inl (key _ _ r id))
    · exact .inl (.inr ⟨o, key _ _ r id⟩)
    · exact .inr r
  · rcases r with ⟨o, r⟩ | r
    · exact .inl ⟨o, key _ _ r id⟩
    · exact .inr r
/-- growth, step by step -/
theorem Grow.trans {K : PySem.W.Frag} {f f1 : List Addr} {h : PH} {H H1 H2 : Hp} (s : Sim K f h H) {h1 : PH} (s1 : Sim K f1 h1 H1) (e : Ext f f1) (a : Grow f H H1) (b : Grow f1 H1 H2) (new : ∀ x ∈ f1, x ∉ f → H x = none) : Grow f H H2 := fun x o hx hn =>
  b x o (a x o hx hn) fun hm => by
    have := new x hm hn
    rw [hx] at this
    cases this
end Mir

/-! Mir: readings by computations over the own heap. -/
namespace Mir
open PySem L2

inductive Res (α : Type) where
  | ok (a : α) (h : PH)
  | exc (x : XV) (h : PH)
  | stuck
inductive SRes where
  | nx (ps : LS) (h : PH)
  | rt (w : W) (h : PH)
  | bk (ps : LS) (h : PH)
  | ct (ps : LS) (h : PH)
  | exc (x : XV) (ps : LS) (h : PH)
  | stuck
def Res.bind {α β : Type} : Res α → (α → PH → Res β) → Res β
  | .ok a h, k => k a h
  | .exc x h, _ => .exc x h
  | .stuck, _ => .stuck
def Res.map {α β : Type} (g : α → β) : Res α → Res β
  | .ok a h => .ok (g a) h
  | .exc x h => .exc x h
  | .stuck => .stuck

/-- from one state to a later one -/
structure Step (K : PySem.W.Frag) (f : List Addr) (H : Hp) (f' : List Addr) (h' : PH) (H' : Hp) : Prop where
  ext : Ext f f'
  new : ∀ x ∈ f', x ∉ f → H x = none
  grow : Grow f H H'
  lk : ∀ (a : Addr) (o : Obj) (us : List (Key × V)), H a = some (.frz o (.dK us)) → H' a = some (.frz o (.dK us))
  sim : Sim K f' h' H'
theorem Step.refl {K : PySem.W.Frag} {f : List Addr} {h : PH} {H : Hp} (s : Sim K f h H) : Step K f H f h H := ⟨.refl f, fun x a b => absurd a b, .refl f H, fun _ _ _ e => e, s⟩
theorem Step.trans {K : PySem.W.Frag} {f f1 f2 : List Addr} {h1 h2 : PH} {H H1 H2 : Hp} (a : Step K f H f1 h1 H1) (b : Step K f1 H1 f2 h2 H2) : Step K f H f2 h2 H2 := by
  refine ⟨a.ext.trans b.ext, fun x hx hn => ?_, fun x o hx hn => ?_, fun x o us e => b.lk _ _ _ (a.lk _ _ _ e), b.sim⟩
  · by_cases m : x ∈ f1
    · exact a.new x m hn
    · have q := b.new x hx m
      cases e : H x with
      | none => rfl
      | some o =>
        rw [a.grow x o e hn] at q
        cases q
  · refine b.grow x o (a.grow x o hx hn) fun m => ?_
    rw [a.new x m hn] at hx
    cases hx
theorem Step.stay {K : PySem.W.Frag} {f f' : List Addr} {h h' : PH} {H H' : Hp} (s : Sim K f h H) (a : Step K f H f' h' H') : Stay K H H' := s.stay a.grow
theorem Step.rep {K : PySem.W.Frag} {f f' : List Addr} {h h' : PH} {H H' : Hp} (s : Sim K f h H) (a : Step K f H f' h' H') {w : W} {v : V} (r : Rep K f H w v) : Rep K f' H' w v := Rep.mono a.ext (a.stay s) w v r
theorem Step.reps {K : PySem.W.Frag} {f f' : List Addr} {h h' : PH} {H H' : Hp} (s : Sim K f h H) (a : Step K f H f' h' H') {w : List W} {v : List V} (r : Reps K f H w v) : Reps K f' H' w v := Reps.mono a.ext (a.stay s) w v r

/-- the slots -/
def SRep (K : PySem.W.Frag) (f : List Addr) (H : Hp) (ps : LS) (σ : L2.St) : Prop :=
  ps.length = σ.length ∧ ∀ (i : Nat) (w : W), ps[i]? = some (some w) → ∃ v, σ[i]? = some (some v) ∧ Rep K f H w v
theorem SRep.mono {K : PySem.W.Frag} {f f' : List Addr} {H H' : Hp} {ps : LS} {σ : L2.St} (e : Ext f f') (s : Stay K H H') (r : SRep K f H ps σ) : SRep K f' H' ps σ :=
  ⟨r.1, fun i w q => by
    obtain ⟨v, h1, h2⟩ := r.2 i w q
    exact ⟨v, h1, Rep.mono e s w v h2⟩⟩
theorem Step.srep {K : PySem.W.Frag} {f f' : List Addr} {h h' : PH} {H H' : Hp} (s : Sim K f h H) (a : Step K f H f' h' H') {ps : LS} {σ : L2.St} (r : SRep K f H ps σ) : SRep K f' H' ps σ := r.mono a.ext (a.stay s)
theorem SRep.set {K : PySem.W.Frag} {f : List Addr} {H : Hp} {ps : LS} {σ : L2.St} (r : SRep K f H ps σ) (i : Nat) {w : W} {v : V} (q : Rep K f H w v) : SRep K f H (ps.set i (some w)) (σ.set i (some v)) := by
  refine ⟨by simp only [List.length_set]; exact r.1, fun j u e => ?_⟩
  by_cases hj : i = j
  · subst hj
    by_cases hi : i < ps.length
    · rw [List.getElem?_set_self hi] at e
      cases e
      exact ⟨v, List.getElem?_set_self (by rw [← r.1]; exact hi), q⟩
    · rw [List.getElem?_eq_none (by simpa using hi)] at e
      cases e
  · rw [List.getElem?_set_ne hj] at e ⊢
    exact r.2 j u e
/-- slots forgotten -/
theorem SRep.unset {K : PySem.W.Frag} {f : List Addr} {H : Hp} {ps : LS} {σ : L2.St} (r : SRep K f H ps σ) (i : Nat) : SRep K f H (ps.set i none) (σ.set i none) := by
  refine ⟨by simp only [List.length_set]; exact r.1, fun j u e => ?_⟩
  by_cases hj : i = j
  · subst hj
    by_cases hi : i < ps.length
    · rw [List.getElem?_set_self hi] at e
      cases e
    · rw [List.getElem?_eq_none (by simpa using hi)] at e
      cases e
  · rw [List.getElem?_set_ne hj] at e ⊢
    exact r.2 j u e


abbrev RR (α β : Type) := Hp → List Addr → Hp → α → β → Prop
/-- what is wanted behind a computation -/
def Post {α β : Type} (K : PySem.W.Frag) (R : RR α β) (f : List Addr) (H : Hp) (r : Res α) (Q : β → Hp → Prop) (E : XK) : Prop :=
  match r with
  | .ok a h' => ∀ f' H' b, Step K f H f' h' H' → R H f' H' a b → Q b H'
  | .exc x h' => ∀ f' H' c d, Step K f H f' h' H' → XRep K f' H' x c d → E c d H'
  | .stuck => False
/-- a relation whose newness goes back along a step -/
def Back {α β : Type} (K : PySem.W.Frag) (R : RR α β) : Prop := ∀ (f f1 : List Addr) (h h1 : PH) (H H1 : Hp) (f' : List Addr) (H' : Hp) (a : α) (b : β), Sim K f h H → Step K f H f1 h1 H1 → R H1 f' H' a b → R H f' H' a b

theorem Post.mono {α β : Type} {K : PySem.W.Frag} {R : RR α β} {f : List Addr} {H : Hp} {r : Res α} {Q Q' : β → Hp → Prop} {E E' : XK} (h : Post K R f H r Q E) (hQ : ∀ b H', Q b H' → Q' b H') (hE : ∀ c d H', E c d H' → E' c d H') : Post K R f H r Q' E' := by
  cases r with
  | ok a h' => exact fun f' H' b s q => hQ _ _ (h f' H' b s q)
  | exc x h' => exact fun f' H' c d s q => hE _ _ _ (h f' H' c d s q)
  | stuck => exact h
theorem Post.bind {α β γ δ : Type} {K : PySem.W.Frag} {R : RR α β} {R1 : RR γ δ} {f : List Addr} {h : PH} {H : Hp} {r : Res γ} {k : γ → PH → Res α} {Q : β → Hp → Prop} {E : XK} (s : Sim K f h H) (hb : Back K R) (p : Post K R f H (r.bind k) Q E) :
    Post K R1 f H r (fun b H1 => ∃ f1 h1 a, Step K f H f1 h1 H1 ∧ R1 H f1 H1 a b ∧ Post K R f1 H1 (k a h1) Q E) E := by
  cases r with
  | stuck => exact p
  | exc x h' => exact p
  | ok a h1 =>
    intro f1 H1 b s1 q1
    refine ⟨f1, h1, a, s1, q1, ?_⟩
    have p : Post K R f H (k a h1) Q E := p
    cases e : k a h1 with
    | stuck => rw [e] at p; exact p
    | exc x h2 =>
      rw [e] at p
      exact fun f2 H2 c d s2 q2 => p f2 H2 c d (s1.trans s2) q2
    | ok a2 h2 =>
      rw [e] at p
      exact fun f2 H2 b2 s2 q2 => p f2 H2 b2 (s1.trans s2) (hb _ _ _ _ _ _ _ _ _ _ s s1 q2)

abbrev RW (K : PySem.W.Frag) : RR W V := fun _ f H w v => Rep K f H w v
abbrev RA (K : PySem.W.Frag) : RR (List W) (List V) := fun _ f H w v => Reps K f H w v
abbrev RB : RR Bool Bool := fun _ _ _ a b => a = b
/-- a list that none else knows -/
abbrev RL (K : PySem.W.Frag) : RR (List W) V := fun H0 f H ws v => ∃ p vs, v = .ref p ∧ H0 p = none ∧ p ∉ f ∧ H p = some (.lst vs) ∧ Reps K f H ws vs
theorem back_W {K : PySem.W.Frag} : Back K (RW K) := fun _ _ _ _ _ _ _ _ _ _ _ _ q => q
theorem back_A {K : PySem.W.Frag} : Back K (RA K) := fun _ _ _ _ _ _ _ _ _ _ _ _ q => q
theorem back_B {K : PySem.W.Frag} : Back K RB := fun _ _ _ _ _ _ _ _ _ _ _ _ q => q
theorem Step.none_back {K : PySem.W.Frag} {f f1 : List Addr} {h h1 : PH} {H H1 : Hp} (s : Sim K f h H) (s1 : Step K f H f1 h1 H1) {p : Addr} (e : H1 p = none) : H p = none := by
  cases q : H p with
  | none => rfl
  | some o =>
    by_cases m : p ∈ f
    · obtain ⟨u, e', _⟩ := s1.sim.mov (s1.ext.mem m)
      rw [e] at e'
      cases e'
    · rw [s1.grow p o q m] at e
      cases e
theorem back_L {K : PySem.W.Frag} : Back K (RL K) := fun _ _ _ _ _ _ _ _ _ _ s s1 ⟨p, vs, h1, h2, h3⟩ => ⟨p, vs, h1, s1.none_back s h2, h3⟩

/-! ### the readings -/
abbrev EM := LS → PH → Res W
abbrev LM := LS → PH → Res (List W)
abbrev BM := LS → PH → Res Bool
abbrev SM := LS → PH → SRes
/-- the reading by a computation -/
def tG {α β : Type} (K : PySem.W.Frag) (R : RR α β) (W0 : WX) (m : LS → PH → Res α) : L2.St → Hp → (β → Hp → Prop) → Prop :=
  fun σ H Q => ∃ f h ps, Sim K f h H ∧ SRep K f H ps σ ∧ Post K R f H (m ps h) Q fun c d H' => W0 c d σ H'
abbrev tE (K : PySem.W.Frag) (W0 : WX) (m : EM) : TE := tG K (RW K) W0 m
abbrev tL (K : PySem.W.Frag) (W0 : WX) (m : LM) : TE := tG K (RL K) W0 m
abbrev tA (K : PySem.W.Frag) (W0 : WX) (m : LM) : TA := tG K (RA K) W0 m
abbrev tT (K : PySem.W.Frag) (W0 : WX) (m : BM) : TT := tG K RB W0 m
abbrev SE (X : Cx) (W0 : WX) (e : Expr) (m : EM) : Prop := PE X e (tE X.K W0 m)
abbrev SL (X : Cx) (W0 : WX) (e : Expr) (m : LM) : Prop := PE X e (tL X.K W0 m)
abbrev SA (X : Cx) (W0 : WX) (es : List Expr) (m : LM) : Prop := PA X es (tA X.K W0 m)
abbrev ST (X : Cx) (W0 : WX) (e : Expr) (m : BM) : Prop := PT X e (tT X.K W0 m)
abbrev SW (X : Cx) (W0 : WX) (e : Expr) (m : BM) : Prop := PW X e (tT X.K W0 m)

theorem pe_imp {X : Cx} {e : Expr} {t t' : TE} (h : PE X e t) (i : ∀ σ H Q, t' σ H Q → t σ H Q) : PE X e t' := ⟨fun pins s σ H Q I q => h.run pins s σ H Q I (i σ H Q q)⟩
theorem pt_imp {X : Cx} {e : Expr} {t t' : TT} (h : PT X e t) (i : ∀ σ H Q, t' σ H Q → t σ H Q) : PT X e t' := ⟨fun pins s σ H Q I q => h.run pins s σ H Q I (i σ H Q q)⟩
theorem pw_imp {X : Cx} {e : Expr} {t t' : TT} (h : PW X e t) (i : ∀ σ H Q, t' σ H Q → t σ H Q) : PW X e t' := ⟨fun wh pins s σ H Q I q => h.run wh pins s σ H Q I (i σ H Q q)⟩
theorem pa_imp {X : Cx} {es : List Expr} {t t' : TA} (h : PA X es t) (i : ∀ σ H Q, t' σ H Q → t σ H Q) : PA X es t' := ⟨fun pos pins s σ H Q I q => h.run pos pins s σ H Q I (i σ H Q q)⟩
theorem ps_imp {X : Cx} {st : Stmt} {t t' : TS} (h : L2.PS X st t) (i : ∀ D σ H, t' D σ H → t D σ H) : L2.PS X st t' := ⟨fun pins s σ H D I q => h.run pins s σ H D I (i D σ H q)⟩
theorem pss_imp {X : Cx} {st : List Stmt} {t t' : TS} (h : PSs X st t) (i : ∀ D σ H, t' D σ H → t D σ H) : PSs X st t' := ⟨fun pins s σ H D I q => h.run pins s σ H D I (i D σ H q)⟩

/-- one computation, then another one, over the same slots -/
theorem tG_bind {α β γ δ : Type} {K : PySem.W.Frag} {R : RR α β} {R1 : RR γ δ} {W0 : WX} {m1 : LS → PH → Res γ} {k : γ → LS → PH → Res α} {σ : L2.St} {H : Hp} {Q : β → Hp → Prop} (hb : Back K R)
    (h : tG K R W0 (fun ps h => (m1 ps h).bind fun a h1 => k a ps h1) σ H Q) :
    tG K R1 W0 m1 σ H fun b H1 => ∃ f0 H0 h0, Sim K f0 h0 H0 ∧ ∃ f1 h1 ps a, Step K f0 H0 f1 h1 H1 ∧ SRep K f1 H1 ps σ ∧ R1 H0 f1 H1 a b ∧ Post K R f1 H1 (k a ps h1) Q fun c d H' => W0 c d σ H' := by
  obtain ⟨f, h, ps, s, r, p⟩ := h
  refine ⟨f, h, ps, s, r, (Post.bind (R1 := R1) s hb p).mono (fun b H1 hh => ?_) fun c d H' e => e⟩
  obtain ⟨f1, h1, a, s1, q1, p1⟩ := hh
  exact ⟨f, H, h, s, f1, h1, ps, a, s1, s1.srep s r, q1, p1⟩
end Mir

/-! Mir: expressions. -/
namespace Mir
open PySem L2

def Res.ofO {α : Type} : Option (α × PH) → Res α
  | some (a, h) => .ok a h
  | none => .stuck
def mVar (i : Nat) : EM := fun ps h => match ps[i]? with
  | some (some w) => .ok w h
  | _ => .stuck
def mC (w : W) : EM := fun _ h => .ok w h
def mOp (o : W → W → PH → Option (W × PH)) (m1 m2 : EM) : EM := fun ps h => (m1 ps h).bind fun x h1 => (m2 ps h1).bind fun y h2 => .ofO (o x y h2)
def mUn (o : W → PH → Option (W × PH)) (m : EM) : EM := fun ps h => (m ps h).bind fun x h1 => .ofO (o x h1)

/-- what an operation by values asks, from the computation -/
def Op2 (K : PySem.W.Frag) (r : R2) (o : W → W → PH → Option (W × PH)) : Prop :=
  ∀ (f : List Addr) (h : PH) (H : Hp) (x y : W) (v u : V) (Q : VK) (E : XK), Sim K f h H → Rep K f H x v → Rep K f H y u → Post K (RW K) f H (.ofO (o x y h)) Q E → r v u H Q
def Op1 (K : PySem.W.Frag) (r : V → Hp → VK → Prop) (o : W → PH → Option (W × PH)) : Prop :=
  ∀ (f : List Addr) (h : PH) (H : Hp) (x : W) (v : V) (Q : VK) (E : XK), Sim K f h H → Rep K f H x v → Post K (RW K) f H (.ofO (o x h)) Q E → r v H Q

section
variable {X : Cx} {W0 : WX} {a b c : Expr} {pos : Pos} {m1 m2 m3 : EM}

theorem post_pure {K : PySem.W.Frag} {f : List Addr} {h : PH} {H : Hp} {w : W} {v : V} {Q : VK} {E : XK} (s : Sim K f h H) (p : Post K (RW K) f H (.ok w h) Q E) (r : Rep K f H w v) : Q v H := p f H v (.refl s) r

theorem se_var (i : Nat) {x : Str} (hN : X.N[i]? = some x := by rfl) (hv : Vis X.env.scope x := by first | exact Or.inl rfl | exact Or.inr (Or.inl rfl) | exact Or.inr (Or.inr rfl)) (hd : (x == ("__debug__" : Str)) = false := by decide)
    (hcd : (x == ("__classdict__" : Str)) = false := by decide) : SE X W0 (.Name x pos) (mVar i) := pe_imp (pe_var hN hv hd hcd) fun σ H Q h => by
  obtain ⟨f, h, ps, s, r, p⟩ := h
  unfold mVar at p
  split at p
  · rename_i w e
    obtain ⟨v, h1, h2⟩ := r.2 i w e
    exact ⟨v, h1, post_pure s p h2⟩
  · exact p.elim
theorem se_const {e : Expr} {v : V} {w : W} (h : PE X e (tC v)) (r : ∀ f H, Rep X.K f H w v) : SE X W0 e (mC w) := pe_imp h fun σ H Q h => by
  obtain ⟨f, h, ps, s, _, p⟩ := h
  exact post_pure s p (r f H)
theorem se_int {i j} : SE X W0 (.Constant (.int i) j pos) (mC (.int i)) := se_const pe_int fun f H => by simp only [Rep]
theorem se_str {x j} : SE X W0 (.Constant (.str x) j pos) (mC (.str x)) := se_const pe_str fun f H => by simp only [Rep]
theorem se_bl {x j} : SE X W0 (.Constant (.bool x) j pos) (mC (.bl x)) := se_const pe_bl fun f H => by simp only [Rep]
theorem se_non {j} : SE X W0 (.Constant .none j pos) (mC .non) := se_const pe_non fun f H => by simp only [Rep]
/-- a constant of the module's top -/
theorem se_glob {x : Str} {v : V} {u : Value} {w : W} (r : ∀ f H, Rep X.K f H w v) (hm : X.mg x = some u) (rv : RelV v u) (hg : Gl X x := by rfl) (hd : (x == ("__debug__" : Str)) = false := by decide) : SE X W0 (.Name x pos) (mC w) :=
  se_const (pe_glob hg hm rv hd) r

theorem tE_bin {K : PySem.W.Frag} {r : R2} {o : W → W → PH → Option (W × PH)} (ho : Op2 K r o) {σ : L2.St} {H : Hp} {Q : VK} (h : tE K W0 (mOp o m1 m2) σ H Q) : tOp r (tE K W0 m1) (tE K W0 m2) σ H Q := by
  obtain ⟨f, h, ps, s, sr, p⟩ := h
  refine ⟨f, h, ps, s, sr, (Post.bind s back_W p).mono (fun v H1 hh => ?_) fun _ _ _ e => e⟩
  obtain ⟨f1, h1, x, s1, q1, p1⟩ := hh
  refine ⟨f1, h1, ps, s1.sim, s1.srep s sr, (Post.bind s1.sim back_W p1).mono (fun u H2 hh => ?_) fun _ _ _ e => e⟩
  obtain ⟨f2, h2, y, s2, q2, p2⟩ := hh
  exact ho f2 h2 H2 x y v u Q _ s2.sim (s2.rep s1.sim q1) q2 p2
theorem se_bin {op : Operator} {r : R2} {o : W → W → PH → Option (W × PH)} (hr : OpR X (binaryOp op) r) (ho : Op2 X.K r o) (ha : SE X W0 a m1) (hb : SE X W0 b m2) : SE X W0 (.BinOp a op b pos) (mOp o m1 m2) :=
  pe_imp (pe_op hr ha hb) fun _ _ _ h => tE_bin ho h
theorem se_un {op : UnaryOp} {r : V → Hp → VK → Prop} {o : W → PH → Option (W × PH)} (hr : UnR X (unaryOp op) r) (ho : Op1 X.K r o) (ha : SE X W0 a m1) : SE X W0 (.UnaryOp op a pos) (mUn o m1) :=
  pe_imp (pe_un hr ha) fun σ H Q h => by
    obtain ⟨f, h, ps, s, sr, p⟩ := h
    refine ⟨f, h, ps, s, sr, (Post.bind s back_W p).mono (fun v H1 hh => ?_) fun _ _ _ e => e⟩
    obtain ⟨f1, h1, x, s1, q1, p1⟩ := hh
    exact ho f1 h1 H1 x v Q _ s1.sim q1 p1
/-- a comparison as a value -/
theorem se_cmp {op : CmpOp} {r : R2} {o : W → W → PH → Option (W × PH)} (hr : OpR X (compareOp op) r) (ho : Op2 X.K r o) (ha : SE X W0 a m1) (hb : SE X W0 b m2) (hm : behindInMarks op b = false := by first | exact nomark _ | with_unfolding_all rfl) :
    SE X W0 (.Compare a [op] [b] pos) (mOp o m1 m2) := pe_imp (pe_cmpR hr ha hb hm) fun _ _ _ h => tE_bin ho h
/-- a[b] -/
theorem se_ix {r : R2} {o : W → W → PH → Option (W × PH)} (hr : IxR X r) (ho : Op2 X.K r o) (ha : SE X W0 a m1) (hb : SE X W0 b m2) (hs : PlainIx b := by exact fun _ _ => rfl) : SE X W0 (.Subscript a b pos) (mOp o m1 m2) :=
  pe_imp (pe_ix hr ha hb hs) fun _ _ _ h => tE_bin ho h

/-! ### tests -/
/-- a bool, as a test -/
def toB : W → PH → Res Bool
  | .bl b, h => .ok b h
  | _, _ => .stuck
def mB (m : EM) : BM := fun ps h => (m ps h).bind toB
theorem post_bl {K : PySem.W.Frag} {f : List Addr} {h : PH} {H : Hp} {x : W} {v : V} {Q : Bool → Hp → Prop} {E : XK} (s : Sim K f h H) (r : Rep K f H x v)
    (p : Post K RB f H (toB x h) Q E) : ∃ k, v = .bl k ∧ Q k H := by
  cases x with
  | bl b =>
    have e : v = .bl b := by simpa only [Rep] using r
    exact ⟨b, e, p f H b (.refl s) rfl⟩
  | _ => exact p.elim
theorem tT_test {K : PySem.W.Frag} {σ : L2.St} {H : Hp} {Q : Bool → Hp → Prop} (h : tT K W0 (mB m1) σ H Q) : tTest (tE K W0 m1) σ H Q := by
  obtain ⟨f, h, ps, s, sr, p⟩ := h
  refine ⟨f, h, ps, s, sr, (Post.bind s back_B p).mono (fun v H1 hh => ?_) fun _ _ _ e => e⟩
  obtain ⟨f1, h1, x, s1, q1, p1⟩ := hh
  exact post_bl s1.sim q1 p1
theorem st_cmp {op : CmpOp} {r : R2} {o : W → W → PH → Option (W × PH)} (hr : OpR X (compareOp op) r) (ho : Op2 X.K r o) (ha : SE X W0 a m1) (hb : SE X W0 b m2) (hm : behindInMarks op b = false := by first | exact nomark _ | with_unfolding_all rfl) :
    ST X W0 (.Compare a [op] [b] pos) (mB (mOp o m1 m2)) := pt_imp (pt_cmpR hr ha hb hm) fun σ H Q h => by
  obtain ⟨f, h, ps, s, sr, p⟩ := h
  have q : tE X.K W0 (mOp o m1 m2) σ H fun x H' => ∃ k, x = .bl k ∧ Q k H' := by
    refine ⟨f, h, ps, s, sr, (Post.bind s back_B p).mono (fun v H1 hh => ?_) fun _ _ _ e => e⟩
    obtain ⟨f1, h1, x, s1, q1, p1⟩ := hh
    exact post_bl s1.sim q1 p1
  exact tE_bin ho q
/-- any expression whose value is a bool, as a test -/
theorem st_val {e : Expr} (ha : SE X W0 e m1) (he : ∀ whole, isTrue e X.env whole = (do let v ← whole; standAt e.pos; holding [v] (truthy v)) := by intro _; rfl) : ST X W0 e (mB m1) :=
  pt_imp (pt_val ha he) fun σ H Q h => tT_test h

/-- a truth by the own heap -/
def tru : W → PH → Option Bool
  | .non, _ => some false
  | .bl b, _ => some b
  | .int i, _ => some (i != 0)
  | .str y, _ => if y.length ≤ sizeLine then some ((y.length : Int) != 0) else none
  | .tup xs, _ => some (!xs.isEmpty)
  | .fix xs, _ => some (!xs.isEmpty)
  | .exc _, _ => none
  | .ref n, h => match h[n]? with
    | some (.lst xs) => some (!xs.isEmpty)
    | some (.dK kvs) => some (!kvs.isEmpty)
    | _ => none
def mTru (m : EM) : BM := fun ps h => (m ps h).bind fun x h1 => match tru x h1 with
  | some b => .ok b h1
  | none => .stuck
theorem Reps.isEmpty {K : PySem.W.Frag} {f : List Addr} {H : Hp} {ws : List W} {vs : List V} (h : Reps K f H ws vs) : ws.isEmpty = vs.isEmpty := by
  cases ws with
  | nil =>
    rw [h.nil_inv]
    rfl
  | cons w r =>
    obtain ⟨v, t, rfl, _, _⟩ := h.cons_inv
    rfl
theorem KRep.isEmpty {κ : Type} {K : PySem.W.Frag} {f : List Addr} {H : Hp} {ws : List (κ × W)} {vs : List (κ × V)} (h : KRep K f H ws vs) : ws.isEmpty = vs.isEmpty := by
  cases ws with
  | nil =>
    have e : vs = [] := h
    rw [e]
    rfl
  | cons w r =>
    obtain ⟨v, t, rfl, _, _⟩ := h
    rfl
theorem Sim.at {K : PySem.W.Frag} {f : List Addr} {h : PH} {H : Hp} (s : Sim K f h H) {n : Nat} {o : OB} {v : V} (e : h[n]? = some o) (r : Rep K f H (.ref n) v) : ∃ a, v = .ref a ∧ f[n]? = some a ∧ ObjR K f H o a := by
  simp only [Rep] at r
  obtain ⟨a, h1, h2⟩ := r
  obtain ⟨b, h3, h4⟩ := s.obj n o e
  rw [h2] at h3
  cases h3
  exact ⟨a, h1, h2, h4⟩
theorem truV_of {K : PySem.W.Frag} {f : List Addr} {h : PH} {H : Hp} {x : W} {v : V} {k : Bool} (s : Sim K f h H) (r : Rep K f H x v) (e : tru x h = some k) : TruV K v H k := by
  cases x with
  | non => simp only [Rep] at r; subst r; simp only [tru, Option.some.injEq] at e; exact e.symm
  | bl b => simp only [Rep] at r; subst r; simp only [tru, Option.some.injEq] at e; exact e.symm
  | int i => simp only [Rep] at r; subst r; simp only [tru, Option.some.injEq] at e; exact e.symm
  | str y =>
    simp only [Rep] at r; subst r
    simp only [tru] at e
    split at e
    · rename_i hl
      simp only [Option.some.injEq] at e
      exact ⟨hl, e.symm⟩
    · cases e
  | tup xs =>
    simp only [Rep] at r
    obtain ⟨a, vs, rfl, h1, h2⟩ := r
    simp only [tru, Option.some.injEq] at e
    exact .inr (.inl ⟨vs, h1, by rw [← e, h2.isEmpty]⟩)
  | fix xs =>
    simp only [Rep] at r
    obtain ⟨a, vs, rfl, h1, h2⟩ := r
    simp only [tru, Option.some.injEq] at e
    exact .inl ⟨vs, h1.seq, by rw [← e, h2.isEmpty]⟩
  | exc _ => cases e
  | ref n =>
    simp only [tru] at e
    split at e
    · rename_i xs hn
      obtain ⟨a, rfl, _, vs, h1, h2⟩ := s.at hn r
      simp only [Option.some.injEq] at e
      exact .inl ⟨vs, SqL.of h1, by rw [← e, h2.isEmpty]⟩
    · rename_i xs hn
      obtain ⟨a, rfl, _, vs, h1, h2⟩ := s.at hn r
      simp only [Option.some.injEq] at e
      exact .inr (.inr ⟨vs, h1, by rw [← e, h2.isEmpty]⟩)
    · cases e
theorem st_tru {e : Expr} (ha : SE X W0 e m1) (he : ∀ whole, isTrue e X.env whole = (do let v ← whole; standAt e.pos; holding [v] (truthy v)) := by intro _; rfl) : ST X W0 e (mTru m1) :=
  pt_imp (pt_truth ha he) fun σ H Q h => by
    obtain ⟨f, h, ps, s, sr, p⟩ := h
    refine ⟨f, h, ps, s, sr, (Post.bind s back_B p).mono (fun v H1 hh => ?_) fun _ _ _ e => e⟩
    obtain ⟨f1, h1, x, s1, q1, p1⟩ := hh
    cases e : tru x h1 with
    | none => simp only [e] at p1; exact p1.elim
    | some k =>
      simp only [e] at p1
      exact ⟨k, truV_of s1.sim q1 e, p1 f1 H1 k (.refl s1.sim) rfl⟩

def mAnd (m n : BM) : BM := fun ps h => (m ps h).bind fun b h1 => if b = true then n ps h1 else .ok false h1
def mOr (m n : BM) : BM := fun ps h => (m ps h).bind fun b h1 => if b = true then .ok true h1 else n ps h1
def mNot (m : BM) : BM := fun ps h => (m ps h).bind fun b h1 => .ok (!b) h1
variable {n1 n2 : BM} {rest : List Expr}
theorem sw_and1 (ha : ST X W0 a n1) : SW X W0 (.BoolOp .And [a] pos) n1 := pw_and1 ha
theorem sw_or1 (ha : ST X W0 a n1) : SW X W0 (.BoolOp .Or [a] pos) n1 := pw_or1 ha
theorem sw_and (ha : ST X W0 a n1) (hb : SW X W0 (.BoolOp .And (b :: rest) pos) n2) : SW X W0 (.BoolOp .And (a :: b :: rest) pos) (mAnd n1 n2) := pw_imp (pw_and ha hb) fun σ H Q h => by
  obtain ⟨f, h, ps, s, sr, p⟩ := h
  refine ⟨f, h, ps, s, sr, (Post.bind s back_B p).mono (fun v H1 hh => ?_) fun _ _ _ e => e⟩
  obtain ⟨f1, h1, x, s1, q1, p1⟩ := hh
  cases q1
  by_cases hx : v = true
  · rw [if_pos hx] at p1 ⊢
    exact ⟨f1, h1, ps, s1.sim, s1.srep s sr, p1⟩
  · rw [if_neg hx] at p1 ⊢
    exact p1 f1 H1 _ (.refl s1.sim) rfl
theorem sw_or (ha : ST X W0 a n1) (hb : SW X W0 (.BoolOp .Or (b :: rest) pos) n2) : SW X W0 (.BoolOp .Or (a :: b :: rest) pos) (mOr n1 n2) := pw_imp (pw_or ha hb) fun σ H Q h => by
  obtain ⟨f, h, ps, s, sr, p⟩ := h
  refine ⟨f, h, ps, s, sr, (Post.bind s back_B p).mono (fun v H1 hh => ?_) fun _ _ _ e => e⟩
  obtain ⟨f1, h1, x, s1, q1, p1⟩ := hh
  cases q1
  by_cases hx : v = true
  · rw [if_pos hx] at p1 ⊢
    exact p1 f1 H1 _ (.refl s1.sim) rfl
  · rw [if_neg hx] at p1 ⊢
    exact ⟨f1, h1, ps, s1.sim, s1.srep s sr, p1⟩
theorem st_not (ha : ST X W0 a n1) : ST X W0 (.UnaryOp .Not a pos) (mNot n1) := pt_imp (pt_not ha) fun σ H Q h => by
  obtain ⟨f, h, ps, s, sr, p⟩ := h
  refine ⟨f, h, ps, s, sr, (Post.bind s back_B p).mono (fun v H1 hh => ?_) fun _ _ _ e => e⟩
  obtain ⟨f1, h1, x, s1, q1, p1⟩ := hh
  cases q1
  exact p1 f1 H1 _ (.refl s1.sim) rfl
/-- a if t else b -/
def mIf (t : BM) (m n : EM) : EM := fun ps h => (t ps h).bind fun b h1 => if b = true then m ps h1 else n ps h1
theorem se_if (hc : ST X W0 c n1) (ha : SE X W0 a m1) (hb : SE X W0 b m2) : SE X W0 (.IfExp c a b pos) (mIf n1 m1 m2) := pe_imp (pe_ifExp hc ha hb) fun σ H Q h => by
  obtain ⟨f, h, ps, s, sr, p⟩ := h
  refine ⟨f, h, ps, s, sr, (Post.bind s back_W p).mono (fun v H1 hh => ?_) fun _ _ _ e => e⟩
  obtain ⟨f1, h1, x, s1, q1, p1⟩ := hh
  cases q1
  by_cases hx : v = true
  · rw [if_pos hx] at p1 ⊢
    exact ⟨f1, h1, ps, s1.sim, s1.srep s sr, p1⟩
  · rw [if_neg hx] at p1 ⊢
    exact ⟨f1, h1, ps, s1.sim, s1.srep s sr, p1⟩
/-- and, or, not as values: of bools -/
def mAndV (m n : EM) : EM := fun ps h => (m ps h).bind fun x h1 => match x with
  | .bl b => if b = true then n ps h1 else .ok (.bl false) h1
  | _ => .stuck
def mOrV (m n : EM) : EM := fun ps h => (m ps h).bind fun x h1 => match x with
  | .bl b => if b = true then .ok (.bl true) h1 else n ps h1
  | _ => .stuck
def mNotV (m : EM) : EM := fun ps h => (m ps h).bind fun x h1 => match x with
  | .bl b => .ok (.bl (!b)) h1
  | _ => .stuck
theorem se_one {op} (h : SE X W0 a m1) : SE X W0 (.BoolOp op [a] pos) m1 := pe_one h
theorem se_and (ha : SE X W0 a m1) (hb : SE X W0 (.BoolOp .And (b :: rest) pos) m2) : SE X W0 (.BoolOp .And (a :: b :: rest) pos) (mAndV m1 m2) := pe_imp (pe_and ha hb) fun σ H Q h => by
  obtain ⟨f, h, ps, s, sr, p⟩ := h
  refine ⟨f, h, ps, s, sr, (Post.bind s back_W p).mono (fun v H1 hh => ?_) fun _ _ _ e => e⟩
  obtain ⟨f1, h1, x, s1, q1, p1⟩ := hh
  cases x with
  | bl k =>
    have e : v = .bl k := by simpa only [Rep] using q1
    refine ⟨k, e, ?_⟩
    dsimp only at p1
    by_cases hx : k = true
    · rw [if_pos hx] at p1 ⊢
      exact ⟨f1, h1, ps, s1.sim, s1.srep s sr, p1⟩
    · rw [if_neg hx] at p1 ⊢
      exact p1 f1 H1 _ (.refl s1.sim) (by simp only [Rep])
  | _ => exact p1.elim
theorem se_or (ha : SE X W0 a m1) (hb : SE X W0 (.BoolOp .Or (b :: rest) pos) m2) : SE X W0 (.BoolOp .Or (a :: b :: rest) pos) (mOrV m1 m2) := pe_imp (pe_or ha hb) fun σ H Q h => by
  obtain ⟨f, h, ps, s, sr, p⟩ := h
  refine ⟨f, h, ps, s, sr, (Post.bind s back_W p).mono (fun v H1 hh => ?_) fun _ _ _ e => e⟩
  obtain ⟨f1, h1, x, s1, q1, p1⟩ := hh
  cases x with
  | bl k =>
    have e : v = .bl k := by simpa only [Rep] using q1
    refine ⟨k, e, ?_⟩
    dsimp only at p1
    by_cases hx : k = true
    · rw [if_pos hx] at p1 ⊢
      exact p1 f1 H1 _ (.refl s1.sim) (by simp only [Rep])
    · rw [if_neg hx] at p1 ⊢
      exact ⟨f1, h1, ps, s1.sim, s1.srep s sr, p1⟩
  | _ => exact p1.elim
theorem se_not (ha : SE X W0 a m1) : SE X W0 (.UnaryOp .Not a pos) (mNotV m1) := pe_imp (pe_not ha) fun σ H Q h => by
  obtain ⟨f, h, ps, s, sr, p⟩ := h
  refine ⟨f, h, ps, s, sr, (Post.bind s back_W p).mono (fun v H1 hh => ?_) fun _ _ _ e => e⟩
  obtain ⟨f1, h1, x, s1, q1, p1⟩ := hh
  cases x with
  | bl k =>
    have e : v = .bl k := by simpa only [Rep] using q1
    exact ⟨k, e, p1 f1 H1 _ (.refl s1.sim) (by simp only [Rep])⟩
  | _ => exact p1.elim

/-! ### argument lists, displays -/
def mNil : LM := fun _ h => .ok [] h
def mCons (m : EM) (r : LM) : LM := fun ps h => (m ps h).bind fun x h1 => (r ps h1).bind fun xs h2 => .ok (x :: xs) h2
variable {es : List Expr} {l1 l2 : LM} {e : Expr}
theorem sa_nil : SA X W0 [] mNil := pa_imp pa_nil fun σ H Q h => by
  obtain ⟨f, h, ps, s, sr, p⟩ := h
  exact p f H [] (.refl s) .nil
theorem sa_cons (ha : SE X W0 e m1) (hr : SA X W0 es l1) (hs : starEach (e :: es) X.env = (false, eval e X.env) :: starEach es X.env := by rfl) : SA X W0 (e :: es) (mCons m1 l1) := pa_imp (pa_cons ha hr hs) fun σ H Q h => by
  obtain ⟨f, h, ps, s, sr, p⟩ := h
  refine ⟨f, h, ps, s, sr, (Post.bind s back_A p).mono (fun v H1 hh => ?_) fun _ _ _ e => e⟩
  obtain ⟨f1, h1, x, s1, q1, p1⟩ := hh
  refine ⟨f1, h1, ps, s1.sim, s1.srep s sr, (Post.bind s1.sim back_A p1).mono (fun vs H2 hh => ?_) fun _ _ _ e => e⟩
  obtain ⟨f2, h2, xs, s2, q2, p2⟩ := hh
  exact p2 f2 H2 _ (.refl s2.sim) (.cons (s2.rep s1.sim q1) q2)

/-- an object of no one's, new -/
theorem Sim.other {K : PySem.W.Frag} {f : List Addr} {h : PH} {H : Hp} (s : Sim K f h H) {p : Addr} {o : HO} (hp : H p = none) : Step K f H f h (upd H p o) := by
  have nf := s.fresh hp
  have g : Grow f H (upd H p o) := fun a u e hn => by rw [upd_ne (ne_of_none e hp)]; exact e
  refine ⟨.refl f, fun x a b => absurd a b, g, fun a o us e => by rw [upd_ne (ne_of_none e hp)]; exact e, s.len, s.nd, fun n ob e => ?_⟩
  obtain ⟨a, h1, h2⟩ := s.obj n ob e
  have ha : a ∈ f := List.mem_of_getElem? h1
  exact ⟨a, h1, h2.mono (.refl f) (s.stay g) (upd_ne fun z => nf (z ▸ ha))⟩
def mTup (l : LM) : EM := fun ps h => (l ps h).bind fun xs h1 => if xs.length ≤ 16777216 then .ok (.tup xs) h1 else .stuck
theorem se_tup {x1} (ha : SA X W0 es l1) : SE X W0 (.Tuple es x1 pos) (mTup l1) := pe_imp (pe_tup ha) fun σ H Q h => by
  obtain ⟨f, h, ps, s, sr, p⟩ := h
  refine ⟨f, h, ps, s, sr, (Post.bind s back_W p).mono (fun vs H1 hh => ?_) fun _ _ _ e => e⟩
  obtain ⟨f1, h1, xs, s1, q1, p1⟩ := hh
  by_cases hl : xs.length ≤ 16777216
  · rw [if_pos hl] at p1
    refine ⟨by rw [← q1.length, sizeLine_eq]; exact hl, fun q hq => p1 f1 _ _ (s1.sim.other hq) ?_⟩
    simp only [Rep]
    exact ⟨q, vs, rfl, SqT.of upd_same, Reps.mono (.refl f1) (s1.sim.stay (s1.sim.other hq).grow) _ _ q1⟩
  · rw [if_neg hl] at p1
    exact p1.elim
/-- a list display -/
def mLst (l : LM) : LM := fun ps h => (l ps h).bind fun xs h1 => if xs.length ≤ 16777216 then .ok xs h1 else .stuck
theorem sl_lst (ha : SA X W0 es l1) : SL X W0 (.List es pos) (mLst l1) := pe_imp (pe_lst ha) fun σ H Q h => by
  obtain ⟨f, h, ps, s, sr, p⟩ := h
  refine ⟨f, h, ps, s, sr, (Post.bind s back_L p).mono (fun vs H1 hh => ?_) fun _ _ _ e => e⟩
  obtain ⟨f1, h1, xs, s1, q1, p1⟩ := hh
  by_cases hl : xs.length ≤ 16777216
  · rw [if_pos hl] at p1
    refine ⟨by rw [← q1.length, sizeLine_eq]; exact hl, fun q hq => p1 f1 _ _ (s1.sim.other hq) ?_⟩
    exact ⟨q, vs, rfl, hq, s1.sim.fresh hq, upd_same, Reps.mono (.refl f1) (s1.sim.stay (s1.sim.other hq).grow) _ _ q1⟩
  · rw [if_neg hl] at p1
    exact p1.elim
/-- a new list, at a number of its own -/
def mNew (l : LM) : EM := fun ps h => (l ps h).bind fun xs h1 => .ok (.ref h1.length) (h1 ++ [.lst xs])
theorem Sim.take_in {K : PySem.W.Frag} {f : List Addr} {h : PH} {H : Hp} (s : Sim K f h H) {p : Addr} {o : OB} (np : p ∉ f) (ho : ObjR K f H o p) : Sim K (f ++ [p]) (h ++ [o]) H := by
  have st : Stay K H H := .refl K H
  refine ⟨by simp [s.len], List.nodup_append.mpr ⟨s.nd, by simp, ?_⟩, fun n ob e => ?_⟩
  · intro a ha b hb
    rw [List.mem_singleton] at hb
    subst hb
    exact fun z => np (z ▸ ha)
  · by_cases hn : n < h.length
    · rw [List.getElem?_append_left hn] at e
      obtain ⟨a, h1, h2⟩ := s.obj n ob e
      exact ⟨a, (Ext.snoc f p).get h1, h2.mono (.snoc f p) st rfl⟩
    · rw [List.getElem?_append_right (by omega)] at e
      have e2 : n - h.length = 0 := by
        cases k : n - h.length with
        | zero => rfl
        | succ j => rw [k] at e; simp at e
      rw [e2] at e
      simp only [List.getElem?_cons_zero, Option.some.injEq] at e
      subst e
      refine ⟨p, ?_, ho.mono (.snoc f p) st rfl⟩
      rw [List.getElem?_append_right (by rw [s.len]; omega)]
      have e3 : n - f.length = 0 := by rw [s.len]; exact e2
      rw [e3]
      rfl
theorem se_new (ha : SL X W0 e l1) : SE X W0 e (mNew l1) := pe_imp ha fun σ H Q h => by
  obtain ⟨f, h, ps, s, sr, p⟩ := h
  refine ⟨f, h, ps, s, sr, ?_⟩
  have p : Post X.K (RW X.K) f H ((l1 ps h).bind fun xs h1 => .ok (.ref h1.length) (h1 ++ [.lst xs])) Q _ := p
  cases e : l1 ps h with
  | stuck => rw [e] at p; exact p
  | exc x h' => rw [e] at p; exact p
  | ok xs h1 =>
    rw [e] at p
    intro f1 H1 v s1 q1
    obtain ⟨q, vs, rfl, hq, nq, eq, rq⟩ := q1
    refine p (f1 ++ [q]) H1 (.ref q) ⟨s1.ext.trans (.snoc f1 q), fun x hx hn => ?_, s1.grow, s1.lk, s1.sim.take_in nq ⟨vs, eq, rq⟩⟩ ?_
    · rcases List.mem_append.mp hx with m | m
      · exact s1.new x m hn
      · rw [List.mem_singleton] at m
        rw [m]
        exact hq
    · simp only [Rep]
      refine ⟨q, rfl, ?_⟩
      rw [List.getElem?_append_right (by rw [s1.sim.len]; omega), s1.sim.len]
      simp
end
end Mir

/-! Mir: operators. -/
namespace Mir
open PySem PySem.Spec PyProof.Rows L2

theorem Op2.or {K : PySem.W.Frag} {r r' : R2} {o : W → W → PH → Option (W × PH)} (h : ∀ (f : List Addr) (h : PH) (H : Hp) (x y : W) (v u : V) (Q : VK) (E : XK), Sim K f h H → Rep K f H x v → Rep K f H y u → Post K (RW K) f H (.ofO (o x y h)) Q E → r v u H Q ∨ r' v u H Q) :
    Op2 K (fun x y H Q => r x y H Q ∨ r' x y H Q) o := h
section
variable {K : PySem.W.Frag} {f : List Addr} {h : PH} {H : Hp} {x y : W} {v u : V} {Q : VK} {E : XK}
theorem rep_int {i : Int} : Rep K f H (.int i) v ↔ v = .int i := by simp only [Rep]
theorem rep_bl {i : Bool} : Rep K f H (.bl i) v ↔ v = .bl i := by simp only [Rep]
theorem rep_str {i : Str} : Rep K f H (.str i) v ↔ v = .str i := by simp only [Rep]
theorem rep_non : Rep K f H .non v ↔ v = .non := by simp only [Rep]
theorem rep_tup {xs : List W} : Rep K f H (.tup xs) v ↔ ∃ a vs, v = .ref a ∧ SqT K H a vs ∧ Reps K f H xs vs := by simp only [Rep]
theorem rep_exc {x : XV} : Rep K f H (.exc x) v ↔ ∃ a, v = .ref a ∧ ExR K H x a := by simp only [Rep]
theorem rep_fix {xs : List W} : Rep K f H (.fix xs) v ↔ ∃ a vs, v = .ref a ∧ FixL K H a vs ∧ Reps K f H xs vs := by simp only [Rep]
theorem post_ok {w : W} (s : Sim K f h H) (p : Post K (RW K) f H (.ofO (some (w, h))) Q E) {v : V} (r : Rep K f H w v) : Q v H := post_pure s p r
/-- a new tuple -/
theorem post_tup {xs : List W} {vs : List V} (s : Sim K f h H) (p : Post K (RW K) f H (.ofO (some (.tup xs, h))) Q E) (r : Reps K f H xs vs) {q : Addr} (hq : H q = none) : Q (.ref q) (upd H q (.tup vs)) :=
  p f _ _ (s.other hq) (rep_tup.mpr ⟨q, vs, rfl, SqT.of upd_same, Reps.mono (.refl f) (s.stay (s.other hq).grow) _ _ r⟩)
end

/-! ### a fresh list stays as it is from now on -/
abbrev QF (Q : VK) : VK := fun v H1 => Q v H1 ∨ ∃ a vs, v = .ref a ∧ H1 a = some (.lst vs) ∧ ∀ o, Q v (upd H1 a (.frz o (.lst vs)))
theorem pe_frz {X : Cx} {e : Expr} {t : TE} (h : PE X e t) : PE X e (fun σ H Q => t σ H (QF Q)) := by
  refine ⟨fun pins s σ H Q I q => thn (h.run pins s σ H _ I q) fun u s1 hh => ?_⟩
  obtain ⟨x, H1, I1, r, q1⟩ := hh
  rcases q1 with q1 | ⟨a, vs, rfl, e1, q1⟩
  · exact ⟨x, H1, I1, r, q1⟩
  · obtain ⟨o, I2⟩ := I1.lock e1 trivial
    exact ⟨_, _, I2, r, q1 o⟩
theorem stay_frz {K : PySem.W.Frag} {H : Hp} {D : Addr} {vs : List V} {o : Obj} (e : H D = some (.lst vs)) : Stay K H (upd H D (.frz o (.lst vs))) := by
  have key : ∀ a u, H a = some u → (∀ xs, u ≠ .lst xs) → upd H D (.frz o (.lst vs)) a = some u := fun a u e2 n => by
    rw [upd_ne (fun z => by subst z; rw [e] at e2; cases e2; exact n _ rfl)]
    exact e2
  refine ⟨fun a xs r => ?_, fun a xs r => ?_, fun a φ r => key _ _ r (fun _ z => by cases z), fun a gs r => key _ _ r (fun _ z => by cases z)⟩
  · rcases r with (r | ⟨o, r⟩) | r
    · exact .inl (.inl (key _ _ r (fun _ z => by cases z)))
    · exact .inl (.inr ⟨o, key _ _ r (fun _ z => by cases z)⟩)
    · exact .inr r
  · rcases r with ⟨o, r⟩ | r
    · exact .inl ⟨o, key _ _ r (fun _ z => by cases z)⟩
    · exact .inr r
theorem Step.freeze {K : PySem.W.Frag} {f f1 : List Addr} {h1 : PH} {H H1 : Hp} (st : Step K f H f1 h1 H1) {D : Addr} {vs : List V} {o : Obj} (hD : H D = none) (nd : D ∉ f1) (e : H1 D = some (.lst vs)) : Step K f H f1 h1 (upd H1 D (.frz o (.lst vs))) :=
  ⟨st.ext, st.new, fun a u ea na => by
    rw [upd_ne (fun z => by subst z; rw [hD] at ea; cases ea)]
    exact st.grow a u ea na, fun a o us ea => by
    have := st.lk a o us ea
    rw [upd_ne (fun z => by subst z; rw [e] at this; cases this)]
    exact this, st.sim.len, st.sim.nd, fun n ob q => by
    obtain ⟨a, h1, h2⟩ := st.sim.obj n ob q
    exact ⟨a, h1, h2.mono (.refl f1) (stay_frz e) (upd_ne fun z => nd (z ▸ List.mem_of_getElem? h1))⟩⟩
/-- a list that none will change -/
def mFix (l : LM) : EM := fun ps h => (l ps h).bind fun xs h1 => .ok (.fix xs) h1
theorem se_fix {X : Cx} {W0 : WX} {e : Expr} {l1 : LM} (ha : SL X W0 e l1) : SE X W0 e (mFix l1) := pe_imp (pe_frz ha) fun σ H Q h => by
  obtain ⟨f, h, ps, s, sr, p⟩ := h
  refine ⟨f, h, ps, s, sr, ?_⟩
  have p : Post X.K (RW X.K) f H ((l1 ps h).bind fun xs h1 => .ok (.fix xs) h1) Q _ := p
  cases e : l1 ps h with
  | stuck => rw [e] at p; exact p
  | exc x h' => rw [e] at p; exact p
  | ok xs h1 =>
    rw [e] at p
    intro f1 H1 v s1 q1
    obtain ⟨q, vs, rfl, hq, nq, eq, rq⟩ := q1
    exact .inr ⟨q, vs, rfl, eq, fun o => p f1 _ _ (s1.freeze hq nq eq) (rep_fix.mpr ⟨q, vs, rfl, .inl ⟨o, upd_same⟩, Reps.mono (.refl f1) (stay_frz eq) _ _ rq⟩)⟩
section
variable {K : PySem.W.Frag} {f : List Addr} {h : PH} {H : Hp} {Q : VK} {E : XK}
theorem post_fix {xs : List W} {vs : List V} (s : Sim K f h H) (p : Post K (RW K) f H (.ofO (some (.fix xs, h))) Q E) (r : Reps K f H xs vs) {q : Addr} (hq : H q = none) : QF Q (.ref q) (upd H q (.lst vs)) :=
  .inr ⟨q, vs, rfl, upd_same, fun o => by
    have st := s.other (o := .lst vs) hq
    exact p f _ _ (st.freeze hq (s.fresh hq) upd_same) (rep_fix.mpr ⟨q, vs, rfl, .inl ⟨o, upd_same⟩, Reps.mono (.refl f) ((s.stay st.grow).trans (stay_frz upd_same)) _ _ r⟩)⟩
end
/-- as Op2; a list told is one that none will change -/
def Op2F (K : PySem.W.Frag) (r : R2) (o : W → W → PH → Option (W × PH)) : Prop :=
  ∀ (f : List Addr) (h : PH) (H : Hp) (x y : W) (v u : V) (Q : VK) (E : XK), Sim K f h H → Rep K f H x v → Rep K f H y u → Post K (RW K) f H (.ofO (o x y h)) Q E → r v u H (QF Q)
theorem se_binF {X : Cx} {W0 : WX} {a b : Expr} {pos : Pos} {m1 m2 : EM} {op : Operator} {r : R2} {o : W → W → PH → Option (W × PH)} (hr : OpR X (binaryOp op) r) (ho : Op2F X.K r o) (ha : SE X W0 a m1) (hb : SE X W0 b m2) : SE X W0 (.BinOp a op b pos) (mOp o m1 m2) :=
  pe_imp (pe_frz (pe_op hr ha hb)) fun σ H Q h => by
    obtain ⟨f, h, ps, s, sr, p⟩ := h
    refine ⟨f, h, ps, s, sr, (Post.bind (R1 := RW X.K) s back_W p).mono (fun v H1 hh => ?_) fun _ _ _ e => e⟩
    obtain ⟨f1, h1, x, s1, q1, p1⟩ := hh
    refine ⟨f1, h1, ps, s1.sim, s1.srep s sr, (Post.bind (R1 := RW X.K) s1.sim back_W p1).mono (fun u H2 hh => ?_) fun _ _ _ e => e⟩
    obtain ⟨f2, h2, y, s2, q2, p2⟩ := hh
    exact ho f2 h2 H2 x y v u Q _ s2.sim (s2.rep s1.sim q1) q2 p2
def lstOf : W → PH → Option (List W)
  | .fix xs, _ => some xs
  | .ref n, h => match h[n]? with
    | some (.lst xs) => some xs
    | _ => none
  | _, _ => none
theorem lstOf_rep {K : PySem.W.Frag} {f : List Addr} {h : PH} {H : Hp} {x : W} {v : V} {ws : List W} (s : Sim K f h H) (r : Rep K f H x v) (e : lstOf x h = some ws) : ∃ a vs, v = .ref a ∧ SqL K H a vs ∧ Reps K f H ws vs := by
  cases x with
  | fix xs =>
    obtain ⟨a, vs, rfl, h1, h2⟩ := rep_fix.mp r
    cases e
    exact ⟨a, vs, rfl, h1.seq, h2⟩
  | ref n =>
    simp only [lstOf] at e
    split at e
    · rename_i xs hn
      obtain ⟨a, rfl, _, vs, h1, h2⟩ := s.at hn r
      cases e
      exact ⟨a, vs, rfl, SqL.of h1, h2⟩
    · cases e
  | _ => cases e

/-! ### whole numbers -/
def wI (g : Int → Int → Option W) : W → W → PH → Option (W × PH)
  | .int i, .int j, h => (g i j).map fun w => (w, h)
  | _, _, _ => none
theorem wI_of {g : Int → Int → Option W} {x y : W} {h : PH} {w : W × PH} (e : wI g x y h = some w) : ∃ i j z, x = .int i ∧ y = .int j ∧ g i j = some z ∧ w = (z, h) := by
  unfold wI at e
  split at e
  · rename_i i j
    cases e2 : g i j with
    | none => rw [e2] at e; cases e
    | some z =>
      rw [e2] at e
      exact ⟨i, j, z, rfl, rfl, e2, (Option.some.inj e).symm⟩
  · cases e
theorem op2_I {K : PySem.W.Frag} {C : Int → Int → Prop} {g : Int → Int → V} {k : Int → Int → Option W} (hk : ∀ i j w, k i j = some w → C i j ∧ ∀ f H, Rep K f H w (g i j)) : Op2 K (rI C g) (wI k) := by
  intro f h H x y v u Q E s rx ry p
  cases e : wI k x y h with
  | none => rw [e] at p; exact p.elim
  | some w =>
    rw [e] at p
    obtain ⟨i, j, z, rfl, rfl, e2, rfl⟩ := wI_of e
    obtain ⟨c, r⟩ := hk i j z e2
    exact ⟨i, j, rep_int.mp rx, rep_int.mp ry, c, post_ok s p (r f H)⟩
theorem op2_I0 {K : PySem.W.Frag} {g : Int → Int → V} {k : Int → Int → Option W} (hk : ∀ i j w, k i j = some w → ∀ f H, Rep K f H w (g i j)) : Op2 K (rI0 g) (wI k) := by
  intro f h H x y v u Q E s rx ry p
  cases e : wI k x y h with
  | none => rw [e] at p; exact p.elim
  | some w =>
    rw [e] at p
    obtain ⟨i, j, z, rfl, rfl, e2, rfl⟩ := wI_of e
    exact ⟨i, j, rep_int.mp rx, rep_int.mp ry, post_ok s p (hk i j z e2 f H)⟩
def wSub := wI fun i j => some (.int (i - j))
def wMod := wI fun i j => if 0 < j then some (.int (i % j)) else none
def wFdiv := wI fun i j => if 0 < j ∧ j.natAbs.log2 < 9000 then some (.int (i / j)) else none
def wPow := wI fun i j => if 0 ≤ j ∧ j ≤ 1000000 ∧ i.natAbs < 2 ^ 64 then some (.int (i ^ j.toNat)) else none
section
variable {K : PySem.W.Frag} {X : Cx} {W0 : WX} {a b : Expr} {pos : Pos} {m1 m2 : EM}
theorem se_sub (ha : SE X W0 a m1) (hb : SE X W0 b m2) : SE X W0 (.BinOp a .Sub b pos) (mOp wSub m1 m2) :=
  se_bin op_sub (op2_I0 fun i j w e f H => by cases e; simp only [Rep]) ha hb
theorem se_mod (ha : SE X W0 a m1) (hb : SE X W0 b m2) : SE X W0 (.BinOp a .Mod b pos) (mOp wMod m1 m2) :=
  se_bin op_mod (op2_I fun i j w e => by
    split at e
    · rename_i c
      cases e
      exact ⟨c, fun f H => by simp only [Rep]⟩
    · cases e) ha hb
theorem se_fdiv (ha : SE X W0 a m1) (hb : SE X W0 b m2) : SE X W0 (.BinOp a .FloorDiv b pos) (mOp wFdiv m1 m2) :=
  se_bin op_fdivW (op2_I fun i j w e => by
    split at e
    · rename_i c
      cases e
      exact ⟨c, fun f H => by simp only [Rep]⟩
    · cases e) ha hb
theorem se_pow (ha : SE X W0 a m1) (hb : SE X W0 b m2) : SE X W0 (.BinOp a .Pow b pos) (mOp wPow m1 m2) :=
  se_bin op_pow (op2_I fun i j w e => by
    split at e
    · rename_i c
      cases e
      exact ⟨c, fun f H => by simp only [Rep]⟩
    · cases e) ha hb
def wNeg : W → PH → Option (W × PH)
  | .int i, h => some (.int (-i), h)
  | _, _ => none
theorem se_neg (ha : SE X W0 a m1) : SE X W0 (.UnaryOp .USub a pos) (mUn wNeg m1) := se_un un_neg (fun f h H x v Q E s r p => by
  unfold wNeg at p
  split at p
  · exact ⟨_, rep_int.mp r, post_ok s p (rep_int.mpr rfl)⟩
  · exact p.elim) ha

/-! ### + -/
def wAdd : W → W → PH → Option (W × PH)
  | .int i, .int j, h => some (.int (i + j), h)
  | .str x, .str y, h => if x.length + y.length ≤ 16777216 then some (.str (x ++ y), h) else none
  | .tup xs, .tup ys, h => if xs.length + ys.length ≤ 16777216 then some (.tup (xs ++ ys), h) else none
  | x, y, h => match lstOf x h, lstOf y h with
    | some xs, some ys => if xs.length + ys.length ≤ 16777216 then some (.fix (xs ++ ys), h) else none
    | _, _ => none
/-- two lists, of any sort -/
abbrev rCatS (K : PySem.W.Frag) : R2 := fun x y H Q => ∃ l b xs zs, x = .ref l ∧ y = .ref b ∧ SqL K H l xs ∧ SqL K H b zs ∧ xs.length + zs.length ≤ 16777216 ∧ ∀ p, H p = none → Q (.ref p) (upd H p (.lst (xs ++ zs)))
theorem op_catS {X : Cx} : OpR X (binaryOp .Add) (rCatS X.K) := by
  intro pins s σ H x y v u Q I rx ry h
  obtain ⟨l, b, xs, zs, rfl, rfl, hx, hy, hz, q⟩ := h
  cases rx
  cases ry
  obtain ⟨i1, r1, ⟨⟨c1, d1, t1, sl1⟩, n1, e1, k1, w1, z1⟩, _⟩ := I.list hx
  obtain ⟨i2, r2, ⟨⟨c2, d2, t2, sl2⟩, n2, e2, k2, w2, z2⟩, _⟩ := I.list hy
  simp only at k1 w1 z1 k2 w2 z2
  subst k1 w1 z1 k2 w2 z2
  have hl : i1.toArray.size + i2.toArray.size ≤ sizeLine := by
    rw [List.size_toArray, List.size_toArray, ← r1.length, ← r2.length, sizeLine_eq]
    exact hz
  refine concat_meets ⟨_, e1, rfl⟩ ⟨_, e2, rfl⟩ noFill_list_add seq_list_add PySem.F.slot_list_add PySem.F.entry_list_add (PySem.F.args_list_add_2 _ _)
    (list_addW l b i1.toArray i2.toArray n1 n2 none none sl1 sl2 hl) ⟨e1, e2, ?_⟩
  have ea : i1.toArray ++ i2.toArray = (i1 ++ i2).toArray := by simp
  rw [ea]
  have hz2 : (xs ++ zs).length ≤ sizeLine := by
    rw [List.length_append, sizeLine_eq]
    exact hz
  exact ⟨.ref _, _, I.lnew (t' := s.toks) (r1.append r2) hz2, rfl, q _ I.fresh⟩
theorem op2_add : Op2F K (fun x y H Q => rI0 (fun i j => .int (i + j)) x y H Q ∨ (∃ i j, x = .str i ∧ y = .str j ∧ i.length + j.length ≤ sizeLine ∧ Q (.str (i ++ j)) H) ∨ rCatA K x y H Q ∨ rCatS K x y H Q) wAdd := by
  intro f h H x y v u Q E s rx ry p
  unfold wAdd at p
  split at p
  · exact .inl ⟨_, _, rep_int.mp rx, rep_int.mp ry, .inl (post_ok s p (rep_int.mpr rfl))⟩
  · split at p
    · rename_i c
      exact .inr (.inl ⟨_, _, rep_str.mp rx, rep_str.mp ry, by rw [sizeLine_eq]; exact c, .inl (post_ok s p (rep_str.mpr rfl))⟩)
    · exact p.elim
  · split at p
    · rename_i c
      obtain ⟨a, vs, rfl, ha, ra⟩ := rep_tup.mp rx
      obtain ⟨b, us, rfl, hb, rb⟩ := rep_tup.mp ry
      refine .inr (.inr (.inl ⟨a, b, vs, us, rfl, rfl, ha, hb, by rw [← ra.length, ← rb.length, sizeLine_eq]; exact c, fun e => .inl ?_, fun _ e => .inl ?_, fun _ _ q hq => .inl (post_tup s p (ra.append rb) hq)⟩))
      · subst e
        refine post_ok s p (rep_tup.mpr ⟨b, us, rfl, hb, ?_⟩)
        exact ra.append rb
      · subst e
        refine post_ok s p (rep_tup.mpr ⟨a, vs, rfl, ha, ?_⟩)
        have z := ra.append rb
        rw [List.append_nil] at z
        exact z
    · exact p.elim
  · split at p
    · rename_i xs ys e1 e2
      split at p
      · rename_i c
        obtain ⟨a, vs, rfl, ha, ra⟩ := lstOf_rep s rx e1
        obtain ⟨b, us, rfl, hb, rb⟩ := lstOf_rep s ry e2
        exact .inr (.inr (.inr ⟨a, b, vs, us, rfl, rfl, ha, hb, by rw [← ra.length, ← rb.length]; exact c, fun q hq => post_fix s p (ra.append rb) hq⟩))
      · exact p.elim
    · exact p.elim
theorem se_add (ha : SE X W0 a m1) (hb : SE X W0 b m2) : SE X W0 (.BinOp a .Add b pos) (mOp wAdd m1 m2) := se_binF (op_add.or (op_add_str.or (op_catA.or op_catS))) op2_add ha hb
/-- two lists: a fresh one -/
def mCat (m1 m2 : EM) : LM := fun ps h => (m1 ps h).bind fun x h1 => (m2 ps h1).bind fun y h2 => match lstOf x h2, lstOf y h2 with
  | some xs, some ys => if xs.length + ys.length ≤ 16777216 then .ok (xs ++ ys) h2 else .stuck
  | _, _ => .stuck
theorem sl_cat (ha : SE X W0 a m1) (hb : SE X W0 b m2) : SL X W0 (.BinOp a .Add b pos) (mCat m1 m2) := pe_imp (pe_op op_catS ha hb) fun σ H Q h => by
  obtain ⟨f, h, ps, s, sr, p⟩ := h
  refine ⟨f, h, ps, s, sr, (Post.bind (R1 := RW X.K) s back_L p).mono (fun v H1 hh => ?_) fun _ _ _ e => e⟩
  obtain ⟨f1, h1, x, s1, q1, p1⟩ := hh
  refine ⟨f1, h1, ps, s1.sim, s1.srep s sr, (Post.bind (R1 := RW X.K) s1.sim back_L p1).mono (fun u H2 hh => ?_) fun _ _ _ e => e⟩
  obtain ⟨f2, h2, y, s2, q2, p2⟩ := hh
  split at p2
  · rename_i xs ys e1 e2
    split at p2
    · rename_i c
      obtain ⟨a, vs, rfl, ha, ra⟩ := lstOf_rep s2.sim (s2.rep s1.sim q1) e1
      obtain ⟨b, us, rfl, hb, rb⟩ := lstOf_rep s2.sim q2 e2
      refine ⟨a, b, vs, us, rfl, rfl, ha, hb, by rw [← ra.length, ← rb.length]; exact c, fun q hq => ?_⟩
      have st := s2.sim.other (o := .lst (vs ++ us)) hq
      exact p2 f2 _ _ st ⟨q, _, rfl, hq, s2.sim.fresh hq, upd_same, Reps.mono (.refl f2) (s2.sim.stay st.grow) _ _ (ra.append rb)⟩
    · exact p2.elim
  · exact p2.elim

/-! ### * -/
def wMul : W → W → PH → Option (W × PH)
  | .int i, .int j, h => if (-(2 ^ 64) < i ∧ i < 2 ^ 64) ∨ (-(2 ^ 64) < j ∧ j < 2 ^ 64) then some (.int (i * j), h) else none
  | .tup xs, .int k, h => if xs ≠ [] ∧ 2 ≤ k ∧ k ≤ 1000 ∧ xs.length ≤ 1000 then some (.tup (List.replicate k.toNat xs).flatten, h) else none
  | .str z, .int k, h => if z.length ≤ 1000 ∧ -1000 ≤ k ∧ k ≤ 10000 then some (.str (Txt.mul z k), h) else none
  | _, _, _ => none
theorem mulS_ok {z : Str} {k : Int} (h1 : z.length ≤ 1000) (h2 : -1000 ≤ k) (h3 : k ≤ 10000) : MulOk z k := by
  refine ⟨by rw [decide_eq_false (by omega), decide_eq_false (by omega)]; rfl, fun a _ => ?_, fun a _ => ?_⟩
  · have : (1000 : Int) ≤ (2 ^ 63 - 1) / k := (Int.le_ediv_iff_mul_le (by omega)).mpr (by omega)
    omega
  · have : z.length * k.toNat ≤ 1000 * 10000 := Nat.mul_le_mul h1 (by omega)
    unfold Builtin.Str.tooLong
    rw [sizeLine_eq]
    exact decide_eq_false (by omega)
abbrev rMulS : R2 := fun x y H Q => ∃ z k, x = .str z ∧ y = .int k ∧ z.length ≤ 1000 ∧ -1000 ≤ k ∧ k ≤ 10000 ∧ Q (.str (Txt.mul z k)) H
theorem op_mulS {X : Cx} : OpR X (binaryOp .Mult) rMulS := by
  intro pins s σ H x y v u Q I rx ry h
  obtain ⟨z, k, rfl, rfl, h1, h2, h3, q⟩ := h
  obtain ⟨t, rfl⟩ := rx
  obtain ⟨t', rfl⟩ := ry
  exact PySem.SB.mul (mulS_ok h1 h2 h3) fun t' tk => ⟨.str _, H, I.tok _, ⟨_, rfl⟩, q⟩
theorem Reps.rep_flat {K : PySem.W.Frag} {f : List Addr} {H : Hp} {ws : List W} {vs : List V} (r : Reps K f H ws vs) : ∀ n : Nat, Reps K f H (List.replicate n ws).flatten (List.replicate n vs).flatten
  | 0 => by simp only [List.replicate_zero, List.flatten_nil, Reps]
  | n + 1 => by
    rw [List.replicate_succ, List.replicate_succ, List.flatten_cons, List.flatten_cons]
    exact r.append (Reps.rep_flat r n)
theorem op2_mul : Op2 K (fun x y H Q => rI CMul (fun i j => .int (i * j)) x y H Q ∨ rRepT K x y H Q ∨ rMulS x y H Q) wMul := by
  intro f h H x y v u Q E s rx ry p
  unfold wMul at p
  split at p
  · split at p
    · rename_i c
      exact .inl ⟨_, _, rep_int.mp rx, rep_int.mp ry, c, post_ok s p (rep_int.mpr rfl)⟩
    · exact p.elim
  · split at p
    · rename_i c
      obtain ⟨a, vs, rfl, ha, ra⟩ := rep_tup.mp rx
      refine .inr <| .inl ⟨a, _, vs, rfl, rep_int.mp ry, ha, fun e => ?_, c.2.1, c.2.2.1, by rw [← ra.length]; exact c.2.2.2, fun q hq => post_tup s p (ra.rep_flat _) hq⟩
      subst e
      have z := ra.length
      exact c.1 (List.length_eq_zero_iff.mp z)
    · exact p.elim
  · split at p
    · rename_i c
      exact .inr <| .inr ⟨_, _, rep_str.mp rx, rep_int.mp ry, c.1, c.2.1, c.2.2, post_ok s p (rep_str.mpr rfl)⟩
    · exact p.elim
  · exact p.elim
theorem se_mul (ha : SE X W0 a m1) (hb : SE X W0 b m2) : SE X W0 (.BinOp a .Mult b pos) (mOp wMul m1 m2) := se_bin (op_mul.or (op_repT.or op_mulS)) op2_mul ha hb
end
end Mir

/-! Mir: comparisons. -/
namespace Mir
open PySem L2

/-! ### order -/
def wCmp (p : Int → Int → Bool) (q : List Nat → List Nat → Bool) : W → W → PH → Option (W × PH)
  | .int i, .int j, h => some (.bl (p i j), h)
  | .str x, .str y, h => some (.bl (q x.cps.toList y.cps.toList), h)
  | _, _, _ => none
def wLt := wCmp (fun i j => decide (i < j)) fun x y => decide (x < y)
def wLe := wCmp (fun i j => decide (i ≤ j)) fun x y => !decide (y < x)
def wGt := wCmp (fun i j => decide (j < i)) fun x y => decide (y < x)
def wGe := wCmp (fun i j => decide (j ≤ i)) fun x y => !decide (x < y)
section
variable {K : PySem.W.Frag} {X : Cx} {W0 : WX} {a b c : Expr} {pos : Pos} {m1 m2 m3 : EM}
theorem op2_cmp {p : Int → Int → Bool} {q : List Nat → List Nat → Bool} {r : R2} (hr : ∀ (i j : Str) (H : Hp) (Q : VK), Q (.bl (q i.cps.toList j.cps.toList)) H → r (.str i) (.str j) H Q) : Op2 K (fun x y H Q => rI0 (fun i j => .bl (p i j)) x y H Q ∨ r x y H Q) (wCmp p q) := by
  intro f h H x y v u Q E s rx ry z
  unfold wCmp at z
  split at z
  · exact .inl ⟨_, _, rep_int.mp rx, rep_int.mp ry, post_ok s z (rep_bl.mpr rfl)⟩
  · have e1 := rep_str.mp rx
    have e2 := rep_str.mp ry
    subst e1 e2
    exact .inr (hr _ _ _ _ (post_ok s z (rep_bl.mpr rfl)))
  · exact z.elim
abbrev rSS (q : List Nat → List Nat → Bool) : R2 := fun x y H Q => ∃ i j, x = .str i ∧ y = .str j ∧ Q (.bl (q i.cps.toList j.cps.toList)) H
theorem o_lt : OpR X (compareOp .Lt) (fun x y H Q => rI0 (fun i j => .bl (decide (i < j))) x y H Q ∨ rSS (fun x y => decide (x < y)) x y H Q) := op_lt.or op_lt_str
theorem o_le : OpR X (compareOp .LtE) (fun x y H Q => rI0 (fun i j => .bl (decide (i ≤ j))) x y H Q ∨ rSS (fun x y => !decide (y < x)) x y H Q) := op_le.or op_le_str
theorem o_gt : OpR X (compareOp .Gt) (fun x y H Q => rI0 (fun i j => .bl (decide (j < i))) x y H Q ∨ rSS (fun x y => decide (y < x)) x y H Q) := op_gt.or op_gt_str
theorem o_ge : OpR X (compareOp .GtE) (fun x y H Q => rI0 (fun i j => .bl (decide (j ≤ i))) x y H Q ∨ rSS (fun x y => !decide (x < y)) x y H Q) := op_ge.or op_ge_str
theorem p_lt : Op2 K (fun x y H Q => rI0 (fun i j => .bl (decide (i < j))) x y H Q ∨ rSS (fun x y => decide (x < y)) x y H Q) wLt := op2_cmp fun i j H Q q => ⟨i, j, rfl, rfl, q⟩
theorem p_le : Op2 K (fun x y H Q => rI0 (fun i j => .bl (decide (i ≤ j))) x y H Q ∨ rSS (fun x y => !decide (y < x)) x y H Q) wLe := op2_cmp fun i j H Q q => ⟨i, j, rfl, rfl, q⟩
theorem p_gt : Op2 K (fun x y H Q => rI0 (fun i j => .bl (decide (j < i))) x y H Q ∨ rSS (fun x y => decide (y < x)) x y H Q) wGt := op2_cmp fun i j H Q q => ⟨i, j, rfl, rfl, q⟩
theorem p_ge : Op2 K (fun x y H Q => rI0 (fun i j => .bl (decide (j ≤ i))) x y H Q ∨ rSS (fun x y => !decide (x < y)) x y H Q) wGe := op2_cmp fun i j H Q q => ⟨i, j, rfl, rfl, q⟩

/-- a op1 b op2 c -/
def mChain (o o' : W → W → PH → Option (W × PH)) (m1 m2 m3 : EM) : EM := fun ps h => (m1 ps h).bind fun x h1 => (m2 ps h1).bind fun y h2 => (Res.ofO (o x y h2)).bind fun z h3 => match z with
  | .bl k => if k = true then (m3 ps h3).bind fun w h4 => .ofO (o' y w h4) else .ok (.bl false) h3
  | _ => .stuck
/-- an operation that keeps its operands' trees -/
theorem tE_chain {r r' : R2} {o o' : W → W → PH → Option (W × PH)} (ho : Op2 K r o) (ho' : Op2 K r' o') {σ : L2.St} {H : Hp} {Q : VK} (h : tE K W0 (mChain o o' m1 m2 m3) σ H Q) : tChain r r' (tE K W0 m1) (tE K W0 m2) (tE K W0 m3) σ H Q := by
  obtain ⟨f, h, ps, s, sr, p⟩ := h
  refine ⟨f, h, ps, s, sr, (Post.bind s back_W p).mono (fun v H1 hh => ?_) fun _ _ _ e => e⟩
  obtain ⟨f1, h1, x, s1, q1, p1⟩ := hh
  refine ⟨f1, h1, ps, s1.sim, s1.srep s sr, (Post.bind s1.sim back_W p1).mono (fun u H2 hh => ?_) fun _ _ _ e => e⟩
  obtain ⟨f2, h2, y, s2, q2, p2⟩ := hh
  refine ho f2 h2 H2 x y v u _ (fun c d H' => W0 c d σ H') s2.sim (s2.rep s1.sim q1) q2 ((Post.bind (R1 := RW K) s2.sim back_W p2).mono (fun t H3 hh => ?_) fun _ _ _ e => e)
  obtain ⟨f3, h3, z, s3, q3, p3⟩ := hh
  cases z with
  | bl k =>
    refine ⟨k, rep_bl.mp q3, ?_⟩
    dsimp only at p3
    by_cases hk : k = true
    · rw [if_pos hk] at p3 ⊢
      refine ⟨f3, h3, ps, s3.sim, s3.srep s2.sim (s2.srep s1.sim (s1.srep s sr)), (Post.bind s3.sim back_W p3).mono (fun w H4 hh => ?_) fun _ _ _ e => e⟩
      obtain ⟨f4, h4, w', s4, q4, p4⟩ := hh
      exact ho' f4 h4 H4 y w' u w Q _ s4.sim (s4.rep s3.sim (s3.rep s2.sim q2)) q4 p4
    · rw [if_neg hk] at p3 ⊢
      exact p3 f3 H3 _ (.refl s3.sim) (rep_bl.mpr rfl)
  | _ => exact p3.elim
theorem se_chain {op op' : CmpOp} {r r' : R2} {o o' : W → W → PH → Option (W × PH)} (hr : OpR X (compareOp op) r) (ho : Op2 X.K r o) (hr' : OpR X (compareOp op') r') (ho' : Op2 X.K r' o') (ha : SE X W0 a m1) (hb : SE X W0 b m2) (hc : SE X W0 c m3)
    (hm : lastMarks [op, op'] [b, c] = false := by with_unfolding_all rfl) : SE X W0 (.Compare a [op, op'] [b, c] pos) (mChain o o' m1 m2 m3) :=
  pe_imp (pe_chain hr hr' ha hb hc hm) fun _ _ _ h => tE_chain ho ho' h
theorem st_chain {op op' : CmpOp} {r r' : R2} {o o' : W → W → PH → Option (W × PH)} (hr : OpR X (compareOp op) r) (ho : Op2 X.K r o) (hr' : OpR X (compareOp op') r') (ho' : Op2 X.K r' o') (ha : SE X W0 a m1) (hb : SE X W0 b m2) (hc : SE X W0 c m3)
    (hm : lastMarks [op, op'] [b, c] = false := by with_unfolding_all rfl) : ST X W0 (.Compare a [op, op'] [b, c] pos) (mB (mChain o o' m1 m2 m3)) :=
  pt_imp (pt_chain hr hr' ha hb hc hm) fun σ H Q h => by
    obtain ⟨f, h, ps, s, sr, p⟩ := h
    have q : tE X.K W0 (mChain o o' m1 m2 m3) σ H fun x H' => ∃ k, x = .bl k ∧ Q k H' := by
      refine ⟨f, h, ps, s, sr, (Post.bind s back_B p).mono (fun v H1 hh => ?_) fun _ _ _ e => e⟩
      obtain ⟨f1, h1, x, s1, q1, p1⟩ := hh
      exact post_bl s1.sim q1 p1
    exact tE_chain ho ho' q

/-! ### ==: data -/
mutual
def datS (look : Nat → Option PyData) : W → Option PyData
  | .non => some .none
  | .bl b => some (.bool b)
  | .int i => some (.int i)
  | .str x => some (.str x)
  | .tup xs => (datSs look xs).map .tuple
  | .fix xs => (datSs look xs).map .list
  | .exc _ => none
  | .ref n => look n
def datSs (look : Nat → Option PyData) : List W → Option (List PyData)
  | [] => some []
  | x :: xs => match datS look x, datSs look xs with
    | some d, some ds => some (d :: ds)
    | _, _ => none
end
def datL : Nat → PH → Nat → Option PyData
  | 0, _, _ => none
  | n + 1, h, k => match h[k]? with
    | some (.lst xs) => (datSs (datL n h) xs).map .list
    | _ => none
abbrev dat (h : PH) (w : W) : Option PyData := datS (datL 4 h) w
mutual
theorem dp_of {f : List Addr} {H : Hp} {look : Nat → Option PyData} (hl : ∀ (n : Nat) (d : PyData) (v : V), look n = some d → Rep K f H (.ref n) v → Dp K H v d) : ∀ (w : W) (v : V) (d : PyData), datS look w = some d → Rep K f H w v → Dp K H v d
  | .non, v, d, e, r => by
    rw [rep_non.mp r]
    simp only [datS, Option.some.injEq] at e
    subst e
    exact .non
  | .bl b, v, d, e, r => by
    rw [rep_bl.mp r]
    simp only [datS, Option.some.injEq] at e
    subst e
    exact .bl b
  | .int b, v, d, e, r => by
    rw [rep_int.mp r]
    simp only [datS, Option.some.injEq] at e
    subst e
    exact .int b
  | .str b, v, d, e, r => by
    rw [rep_str.mp r]
    simp only [datS, Option.some.injEq] at e
    subst e
    exact .str b
  | .tup xs, v, d, e, r => by
    obtain ⟨a, vs, rfl, h1, h2⟩ := rep_tup.mp r
    simp only [datS] at e
    obtain ⟨ds, e1, rfl⟩ := Option.map_eq_some_iff.mp e
    exact .tup h1 (dp_all hl xs vs ds e1 h2)
  | .fix xs, v, d, e, r => by
    obtain ⟨a, vs, rfl, h1, h2⟩ := rep_fix.mp r
    simp only [datS] at e
    obtain ⟨ds, e1, rfl⟩ := Option.map_eq_some_iff.mp e
    exact .lst h1.seq (dp_all hl xs vs ds e1 h2)
  | .exc _, v, d, e, r => by simp [datS] at e
  | .ref n, v, d, e, r => by
    simp only [datS] at e
    exact hl n d v e r
theorem dp_all {f : List Addr} {H : Hp} {look : Nat → Option PyData} (hl : ∀ (n : Nat) (d : PyData) (v : V), look n = some d → Rep K f H (.ref n) v → Dp K H v d) : ∀ (ws : List W) (vs : List V) (ds : List PyData), datSs look ws = some ds → Reps K f H ws vs → DpAll K H vs ds
  | [], vs, ds, e, r => by
    rw [r.nil_inv]
    simp only [datSs, Option.some.injEq] at e
    subst e
    exact .nil
  | x :: xs, vs, ds, e, r => by
    obtain ⟨v, t, rfl, h1, h2⟩ := r.cons_inv
    simp only [datSs] at e
    split at e
    · rename_i d ds' e1 e2
      cases e
      exact .cons (dp_of hl x v d e1 h1) (dp_all hl xs t ds' e2 h2)
    · cases e
end
theorem dp_look {f : List Addr} {h : PH} {H : Hp} (s : Sim K f h H) : ∀ (m n : Nat) (d : PyData) (v : V), datL m h n = some d → Rep K f H (.ref n) v → Dp K H v d
  | 0, n, d, v, e, r => by simp [datL] at e
  | m + 1, n, d, v, e, r => by
    simp only [datL] at e
    split at e
    · rename_i xs hn
      obtain ⟨a, rfl, _, vs, h1, h2⟩ := s.at hn r
      obtain ⟨ds, e1, rfl⟩ := Option.map_eq_some_iff.mp e
      exact .lst (SqL.of h1) (dp_all (dp_look s m) xs vs ds e1 h2)
    · cases e
theorem dp {f : List Addr} {h : PH} {H : Hp} (s : Sim K f h H) {w : W} {v : V} {d : PyData} (e : dat h w = some d) (r : Rep K f H w v) : Dp K H v d := dp_of (dp_look s 4) w v d e r

/-- == by the own heap -/
def eqB : W → W → PH → Option Bool
  | .int i, .int j, _ => some (i == j)
  | .str i, .str j, _ => some (i == j)
  | .non, .non, _ => some true
  | .non, .int _, _ => some false
  | .int _, .non, _ => some false
  | .non, .str _, _ => some false
  | .str _, .non, _ => some false
  | .int _, .str _, _ => some false
  | .str _, .int _, _ => some false
  | .bl i, .bl j, _ => some (i == j)
  | x, y, h => match dat h x, dat h y with
    | some d, some e => if SeqAt.shaped d = true ∧ SeqAt.shaped e = true then some (PyData.eqv d e) else none
    | _, _ => none
def wEq (x y : W) (h : PH) : Option (W × PH) := (eqB x y h).map fun b => (.bl b, h)
def wNe (x y : W) (h : PH) : Option (W × PH) := (eqB x y h).map fun b => (.bl (!b), h)
theorem eqB_of {f : List Addr} {h : PH} {H : Hp} {x y : W} {v u : V} {b : Bool} (s : Sim K f h H) (rx : Rep K f H x v) (ry : Rep K f H y u) (e : eqB x y h = some b) :
    (scal v u = true ∧ decide (v = u) = b) ∨ ∃ d e, Dp K H v d ∧ Dp K H u e ∧ SeqAt.shaped d = true ∧ SeqAt.shaped e = true ∧ PyData.eqv d e = b := by
  unfold eqB at e
  split at e
  · rw [rep_int.mp rx, rep_int.mp ry]
    exact .inl ⟨rfl, by rw [dec_int]; exact Option.some.inj e⟩
  · rw [rep_str.mp rx, rep_str.mp ry]
    exact .inl ⟨rfl, by rw [dec_str]; exact Option.some.inj e⟩
  · rw [rep_non.mp rx, rep_non.mp ry]
    exact .inl ⟨rfl, by simpa using e⟩
  · rw [rep_non.mp rx, rep_int.mp ry]
    exact .inl ⟨rfl, by simpa using e⟩
  · rw [rep_int.mp rx, rep_non.mp ry]
    exact .inl ⟨rfl, by simpa using e⟩
  · rw [rep_non.mp rx, rep_str.mp ry]
    exact .inl ⟨rfl, by simpa using e⟩
  · rw [rep_str.mp rx, rep_non.mp ry]
    exact .inl ⟨rfl, by simpa using e⟩
  · rw [rep_int.mp rx, rep_str.mp ry]
    exact .inl ⟨rfl, by simpa using e⟩
  · rw [rep_str.mp rx, rep_int.mp ry]
    exact .inl ⟨rfl, by simpa using e⟩
  · rw [rep_bl.mp rx, rep_bl.mp ry]
    exact .inl ⟨rfl, by rw [dec_bl]; exact Option.some.inj e⟩
  · split at e
    · rename_i d d' e1 e2
      split at e
      · rename_i c
        exact .inr ⟨d, d', dp s e1 rx, dp s e2 ry, c.1, c.2, Option.some.inj e⟩
      · cases e
    · cases e
theorem p_eq : Op2 K (fun x y H Q => rEq x y H Q ∨ rEqD K x y H Q) wEq := by
  intro f h H x y v u Q E s rx ry p
  unfold wEq at p
  cases e : eqB x y h with
  | none => rw [e] at p; exact p.elim
  | some b =>
    rw [e] at p
    rcases eqB_of s rx ry e with ⟨h1, h2⟩ | ⟨d, d', h1, h2, h3, h4, h5⟩
    · exact .inl ⟨h1, by rw [h2]; exact post_ok s p (rep_bl.mpr rfl)⟩
    · exact .inr ⟨d, d', h1, h2, h3, h4, by rw [h5]; exact post_ok s p (rep_bl.mpr rfl)⟩
theorem p_ne : Op2 K (fun x y H Q => rNe x y H Q ∨ rNeD K x y H Q) wNe := by
  intro f h H x y v u Q E s rx ry p
  unfold wNe at p
  cases e : eqB x y h with
  | none => rw [e] at p; exact p.elim
  | some b =>
    rw [e] at p
    rcases eqB_of s rx ry e with ⟨h1, h2⟩ | ⟨d, d', h1, h2, h3, h4, h5⟩
    · exact .inl ⟨h1, by rw [h2]; exact post_ok s p (rep_bl.mpr rfl)⟩
    · exact .inr ⟨d, d', h1, h2, h3, h4, by rw [h5]; exact post_ok s p (rep_bl.mpr rfl)⟩
theorem o_eq {k : Nat} (hr : Room k X.A) : OpR X (compareOp .Eq) (fun x y H Q => rEq x y H Q ∨ rEqD X.K x y H Q) := op_eq.or (op_eqD hr.units)
theorem o_ne {k : Nat} (hr : Room k X.A) : OpR X (compareOp .NotEq) (fun x y H Q => rNe x y H Q ∨ rNeD X.K x y H Q) := op_ne.or (op_neD hr.units)

/-! ### is -/
def isNonW : W → Bool
  | .non => true
  | _ => false
def wIs : W → W → PH → Option (W × PH)
  | x, .non, h => some (.bl (isNonW x), h)
  | .bl a, .bl b, h => some (.bl (decide (a = b)), h)
  | _, _, _ => none
def wIsNot : W → W → PH → Option (W × PH)
  | x, .non, h => some (.bl (!isNonW x), h)
  | .bl a, .bl b, h => some (.bl (!decide (a = b)), h)
  | _, _, _ => none
theorem rep_is_non {f : List Addr} {H : Hp} {x : W} {v : V} (r : Rep K f H x v) : decide (v = V.non) = isNonW x := by
  cases x with
  | non => rw [rep_non.mp r]; rfl
  | bl _ => rw [rep_bl.mp r]; rfl
  | int _ => rw [rep_int.mp r]; rfl
  | str _ => rw [rep_str.mp r]; rfl
  | tup _ => obtain ⟨a, vs, rfl, _⟩ := rep_tup.mp r; rfl
  | fix _ => obtain ⟨a, vs, rfl, _⟩ := rep_fix.mp r; rfl
  | exc _ => obtain ⟨a, rfl, _⟩ := rep_exc.mp r; rfl
  | ref _ =>
    simp only [Rep] at r
    obtain ⟨a, rfl, _⟩ := r
    rfl
theorem p_is : Op2 K (fun x y H Q => (y = .non ∧ Q (.bl (decide (x = .non))) H) ∨ rIsB x y H Q) wIs := by
  intro f h H x y v u Q E s rx ry p
  unfold wIs at p
  split at p
  · exact .inl ⟨rep_non.mp ry, by rw [rep_is_non rx]; exact post_ok s p (rep_bl.mpr rfl)⟩
  · exact .inr ⟨_, _, rep_bl.mp rx, rep_bl.mp ry, post_ok s p (rep_bl.mpr rfl)⟩
  · exact p.elim
theorem p_isNot : Op2 K (fun x y H Q => (y = .non ∧ Q (.bl (!decide (x = .non))) H) ∨ rNotB x y H Q) wIsNot := by
  intro f h H x y v u Q E s rx ry p
  unfold wIsNot at p
  split at p
  · refine .inl ⟨rep_non.mp ry, ?_⟩
    rw [rep_is_non rx]
    exact post_ok s p (rep_bl.mpr rfl)
  · exact .inr ⟨_, _, rep_bl.mp rx, rep_bl.mp ry, post_ok s p (rep_bl.mpr rfl)⟩
  · exact p.elim
theorem o_is : OpR X (compareOp .Is) (fun x y H Q => (y = .non ∧ Q (.bl (decide (x = .non))) H) ∨ rIsB x y H Q) := op_isN.or op_isBl
theorem o_isNot : OpR X (compareOp .IsNot) (fun x y H Q => (y = .non ∧ Q (.bl (!decide (x = .non))) H) ∨ rNotB x y H Q) := op_notN.or op_notBl
end
end Mir

/-! Mir: in, subscripts, slices. -/
namespace Mir
open PySem L2

/-! ### flat things -/
def flatW : W → Bool
  | .non => true
  | .bl _ => true
  | .int _ => true
  | .str _ => true
  | _ => false
def eqF : W → W → Bool
  | .non, .non => true
  | .bl a, .bl b => a == b
  | .bl a, .int b => (if a then 1 else 0) == b
  | .int a, .bl b => a == (if b then 1 else 0)
  | .int a, .int b => a == b
  | .str a, .str b => a == b
  | _, _ => false
def keyW : W → Option Key
  | .int i => some (.inl i)
  | .str x => some (.inr x)
  | _ => none
def getK {κ : Type} [DecidableEq κ] (kvs : List (κ × W)) (k : κ) : Option W := (kvs.find? fun kv => decide (kv.1 = k)).map (·.2)
def putKW {κ : Type} [DecidableEq κ] (kvs : List (κ × W)) (k : κ) (w : W) : List (κ × W) :=
  if (kvs.any fun kv => decide (kv.1 = k)) then kvs.map fun kv => if kv.1 = k then (kv.1, w) else kv else kvs ++ [(k, w)]
section
variable {K : PySem.W.Frag} {f : List Addr} {h : PH} {H : Hp} {x y : W} {v u : V} {Q : VK} {E : XK}
theorem flat_of (r : Rep K f H x v) (e : flatW x = true) : flatV v = true := by
  cases x with
  | non => rw [rep_non.mp r]; rfl
  | bl b => rw [rep_bl.mp r]; rfl
  | int i => rw [rep_int.mp r]; rfl
  | str s => rw [rep_str.mp r]; rfl
  | _ => cases e
theorem eqF_of (r : Rep K f H x v) (q : Rep K f H y u) (e : flatW x = true) (e2 : flatW y = true) : eqV v u = eqF x y := by
  cases x with
  | non => rw [rep_non.mp r]; cases y with
    | non => rw [rep_non.mp q]; rfl
    | bl b => rw [rep_bl.mp q]; rfl
    | int i => rw [rep_int.mp q]; rfl
    | str s => rw [rep_str.mp q]; rfl
    | _ => cases e2
  | bl b => rw [rep_bl.mp r]; cases y with
    | non => rw [rep_non.mp q]; rfl
    | bl b => rw [rep_bl.mp q]; rfl
    | int i => rw [rep_int.mp q]; rfl
    | str s => rw [rep_str.mp q]; rfl
    | _ => cases e2
  | int i => rw [rep_int.mp r]; cases y with
    | non => rw [rep_non.mp q]; rfl
    | bl b => rw [rep_bl.mp q]; rfl
    | int i => rw [rep_int.mp q]; rfl
    | str s => rw [rep_str.mp q]; rfl
    | _ => cases e2
  | str s => rw [rep_str.mp r]; cases y with
    | non => rw [rep_non.mp q]; rfl
    | bl b => rw [rep_bl.mp q]; rfl
    | int i => rw [rep_int.mp q]; rfl
    | str s => rw [rep_str.mp q]; rfl
    | _ => cases e2
  | _ => cases e
theorem flats_of : ∀ {xs : List W} {vs : List V}, Reps K f H xs vs → xs.all flatW = true → vs.all flatV = true
  | [], vs, r, _ => by rw [r.nil_inv]; rfl
  | w :: ws, vs, r, e => by
    obtain ⟨v, t, rfl, h1, h2⟩ := r.cons_inv
    rw [List.all_cons, Bool.and_eq_true] at e ⊢
    exact ⟨flat_of h1 e.1, flats_of h2 e.2⟩
theorem inV_of {x : W} {v : V} (r : Rep K f H x v) (e : flatW x = true) : ∀ {xs : List W} {vs : List V}, Reps K f H xs vs → xs.all flatW = true → inV v vs = xs.any fun y => eqF y x
  | [], vs, q, _ => by rw [q.nil_inv]; rfl
  | w :: ws, vs, q, e2 => by
    obtain ⟨u, t, rfl, h1, h2⟩ := q.cons_inv
    rw [List.all_cons, Bool.and_eq_true] at e2
    have ih := inV_of r e h2 e2.2
    unfold inV at ih ⊢
    rw [List.any_cons, List.any_cons, ih, eqF_of h1 r e2.1 e]
theorem key_rep {k : Key} (e : keyW x = some k) (r : Rep K f H x v) : v = kV k := by
  cases x with
  | int i => cases e; exact rep_int.mp r
  | str s => cases e; exact rep_str.mp r
  | _ => cases e
theorem KRep.get {κ : Type} [DecidableEq κ] : ∀ {ws : List (κ × W)} {vs : List (κ × V)} (k : κ), KRep K f H ws vs → match getK ws k with
    | some w => ∃ v, valV vs k = some v ∧ Rep K f H w v
    | none => valV vs k = none
  | [], vs, k, r => by
    have e : vs = [] := r
    subst e
    rfl
  | (j, w) :: ws, vs, k, r => by
    obtain ⟨v, t, rfl, h1, h2⟩ := r
    have ih := KRep.get k h2
    by_cases e : j = k
    · have a : getK ((j, w) :: ws) k = some w := by simp [getK, List.find?_cons, e]
      rw [a]
      exact ⟨v, valV_pos e, h1⟩
    · have a : getK ((j, w) :: ws) k = getK ws k := by simp [getK, List.find?_cons, e]
      rw [a, valV_neg (p := (j, v)) e]
      exact ih
theorem KRep.any {κ : Type} [DecidableEq κ] : ∀ {ws : List (κ × W)} {vs : List (κ × V)} (k : κ), KRep K f H ws vs → (ws.any fun kv => decide (kv.1 = k)) = vs.any fun kv => decide (kv.1 = k)
  | [], vs, k, r => by
    have e : vs = [] := r
    subst e
    rfl
  | (j, w) :: ws, vs, k, r => by
    obtain ⟨v, t, rfl, h1, h2⟩ := r
    rw [List.any_cons, List.any_cons, KRep.any k h2]
theorem KRep.map {κ : Type} [DecidableEq κ] {w : W} {v : V} (q : Rep K f H w v) : ∀ {ws : List (κ × W)} {vs : List (κ × V)} (k : κ), KRep K f H ws vs → KRep K f H (ws.map fun kv => if kv.1 = k then (kv.1, w) else kv) (vs.map fun kv => if kv.1 = k then (kv.1, v) else kv)
  | [], vs, k, r => by
    have e : vs = [] := r
    subst e
    rfl
  | (j, z) :: ws, vs, k, r => by
    obtain ⟨u, t, rfl, h1, h2⟩ := r
    have ih := KRep.map q k h2
    rw [List.map_cons, List.map_cons]
    by_cases e : j = k
    · rw [if_pos e, if_pos e]
      exact ⟨v, _, rfl, q, ih⟩
    · rw [if_neg e, if_neg e]
      exact ⟨u, _, rfl, h1, ih⟩
theorem KRep.snoc {κ : Type} {w : W} {v : V} (q : Rep K f H w v) : ∀ {ws : List (κ × W)} {vs : List (κ × V)} (k : κ), KRep K f H ws vs → KRep K f H (ws ++ [(k, w)]) (vs ++ [(k, v)])
  | [], vs, k, r => by
    have e : vs = [] := r
    subst e
    exact ⟨v, [], rfl, q, rfl⟩
  | (j, z) :: ws, vs, k, r => by
    obtain ⟨u, t, rfl, h1, h2⟩ := r
    exact ⟨u, _, rfl, h1, KRep.snoc q k h2⟩
theorem KRep.put {κ : Type} [DecidableEq κ] {w : W} {v : V} (q : Rep K f H w v) {ws : List (κ × W)} {vs : List (κ × V)} (k : κ) (r : KRep K f H ws vs) : KRep K f H (putKW ws k w) (putK vs k v) := by
  unfold putKW putK
  rw [r.any k]
  by_cases c : (vs.any fun kv => decide (kv.1 = k)) = true
  · rw [if_pos c, if_pos c]
    exact r.map q k
  · rw [if_neg c, if_neg c]
    exact r.snoc q k
/-- a new list at a number -/
theorem post_new {xs : List W} {vs : List V} (s : Sim K f h H) (p : Post K (RW K) f H (.ofO (some (.ref h.length, h ++ [.lst xs]))) Q E) (r : Reps K f H xs vs) {q : Addr} (hq : H q = none) : Q (.ref q) (upd H q (.lst vs)) := by
  have st := s.other (o := .lst vs) hq
  have nq := s.fresh hq
  refine p (f ++ [q]) _ _ ⟨.snoc f q, fun x hx hn => ?_, st.grow, st.lk, st.sim.take_in nq ⟨vs, upd_same, Reps.mono (.refl f) (s.stay st.grow) _ _ r⟩⟩ ?_
  · rcases List.mem_append.mp hx with m | m
    · exact absurd m hn
    · rw [List.mem_singleton] at m
      rw [m]
      exact hq
  · simp only [Rep]
    refine ⟨q, rfl, ?_⟩
    rw [List.getElem?_append_right (by rw [s.len]; omega), s.len]
    simp
end

/-! ### in -/
def inW (x y : W) (h : PH) : Option Bool :=
  match y with
  | .tup ys => if flatW x = true ∧ ys.all flatW = true then some (ys.any fun z => eqF z x) else none
  | .fix ys => if flatW x = true ∧ ys.all flatW = true then some (ys.any fun z => eqF z x) else none
  | .str z => match x with
    | .str c => if c.cps.size = 1 then some (decide (c.cps.getD 0 0 ∈ z.cps.toList)) else some (!(Builtin.Str.occurrences z c 0 z.length 1).isEmpty)
    | _ => none
  | .ref n => match h[n]? with
    | some (.lst ys) => if flatW x = true ∧ ys.all flatW = true then some (ys.any fun z => eqF z x) else none
    | some (.dK kvs) => (keyW x).map fun k => (getK kvs k).isSome
    | some (.lk kvs) => (keyW x).map fun k => (getK kvs k).isSome
    | _ => none
  | _ => none
theorem DGet.fz {H : Hp} {a : Addr} {o : Obj} {kvs : List (Key × V)} {k : Key} (e : H a = some (.frz o (.dK kvs))) : DGet H a (kV k) (valV kvs k) := .inl ⟨kvs, k, .inr ⟨o, e⟩, rfl, rfl⟩
def wIn (x y : W) (h : PH) : Option (W × PH) := (inW x y h).map fun b => (.bl b, h)
def wNotIn (x y : W) (h : PH) : Option (W × PH) := (inW x y h).map fun b => (.bl (!b), h)
abbrev rDIn (neg : Bool) : R2 := fun x y H Q => ∃ a o, y = .ref a ∧ DGet H a x o ∧ Q (.bl (if neg then !o.isSome else o.isSome)) H
abbrev rInSg (neg : Bool) : R2 := fun x y H Q => ∃ (c : Nat) (z : Str), x = .str ⟨#[c]⟩ ∧ y = .str z ∧ Q (.bl (if neg then !decide (c ∈ z.cps.toList) else decide (c ∈ z.cps.toList))) H
abbrev rInStr (neg : Bool) : R2 := fun x y H Q => ∃ i j, x = .str i ∧ y = .str j ∧ Q (.bl (if neg then !(!(Builtin.Str.occurrences j i 0 j.length 1).isEmpty) else !(Builtin.Str.occurrences j i 0 j.length 1).isEmpty)) H
abbrev rInAll (K : PySem.W.Frag) (neg : Bool) : R2 := fun x y H Q => rIn K neg x y H Q ∨ rInSg neg x y H Q ∨ rInStr neg x y H Q ∨ rDIn neg x y H Q
section
variable {K : PySem.W.Frag} {X : Cx} {W0 : WX} {a b c : Expr} {pos : Pos} {m1 m2 m3 : EM}
theorem o_dIn {k : Nat} (hr : Room k X.A) : OpR X (compareOp .In) (rDIn false) := by
  intro pins s σ H x y v u Q I rx ry h
  obtain ⟨a, o, rfl, g, q⟩ := h
  cases ry
  have hu : X.A.units + 1 < cLine := by have := hr.units; omega
  exact d_in hu I g rx fun s' I' => ⟨.bl o.isSome, H, I', rfl, q⟩
theorem o_dNotIn {k : Nat} (hr : Room k X.A) : OpR X (compareOp .NotIn) (rDIn true) := by
  intro pins s σ H x y v u Q I rx ry h
  obtain ⟨a, o, rfl, g, q⟩ := h
  cases ry
  have hu : X.A.units + 1 < cLine := by have := hr.units; omega
  exact d_notIn hu I g rx fun s' I' => ⟨.bl (!o.isSome), H, I', rfl, q⟩
theorem o_in {k : Nat} (hr : Room k X.A) : OpR X (compareOp .In) (rInAll X.K false) := op_in_seq.or (op_in_sign.or (op_in_str.or (o_dIn hr)))
theorem o_notIn {k : Nat} (hr : Room k X.A) : OpR X (compareOp .NotIn) (rInAll X.K true) := op_notIn_seq.or (op_notIn_sign.or (op_notin_str.or (o_dNotIn hr)))
theorem str_one {c : Str} (h : c.cps.size = 1) : c = ⟨#[c.cps.getD 0 0]⟩ := by
  obtain ⟨cs⟩ := c
  have h : cs.size = 1 := h
  obtain ⟨z, rfl⟩ := Array.size_eq_one_iff.mp h
  rfl
theorem p_in_gen (neg : Bool) : Op2 K (rInAll K neg) (fun x y h => (inW x y h).map fun b => (.bl (if neg then !b else b), h)) := by
  intro f h H x y v u Q E s rx ry p
  dsimp only at p
  cases e : inW x y h with
  | none => rw [e] at p; exact p.elim
  | some b =>
    rw [e] at p
    have q : Q (.bl (if neg then !b else b)) H := post_ok s p (rep_bl.mpr rfl)
    clear p
    cases y with
    | tup ys =>
      obtain ⟨a, vs, rfl, h1, h2⟩ := rep_tup.mp ry
      simp only [inW] at e
      split at e
      · rename_i c
        refine .inl ⟨a, vs, rfl, .inr h1, flat_of rx c.1, flats_of h2 c.2, ?_⟩
        rw [inV_of rx c.1 h2 c.2, Option.some.inj e]
        exact q
      · cases e
    | fix ys =>
      obtain ⟨a, vs, rfl, h1, h2⟩ := rep_fix.mp ry
      simp only [inW] at e
      split at e
      · rename_i c
        refine .inl ⟨a, vs, rfl, .inl h1.seq, flat_of rx c.1, flats_of h2 c.2, ?_⟩
        rw [inV_of rx c.1 h2 c.2, Option.some.inj e]
        exact q
      · cases e
    | str z =>
      have ey := rep_str.mp ry
      subst ey
      simp only [inW] at e
      split at e
      · rename_i c
        have ex := rep_str.mp rx
        subst ex
        split at e
        · rename_i hc
          refine .inr (.inl ⟨c.cps.getD 0 0, z, by rw [← str_one hc], rfl, ?_⟩)
          rw [Option.some.inj e]
          exact q
        · refine .inr (.inr (.inl ⟨c, z, rfl, rfl, ?_⟩))
          rw [Option.some.inj e]
          exact q
      · cases e
    | ref n =>
      simp only [inW] at e
      split at e
      · rename_i ys hn
        obtain ⟨a, rfl, _, vs, h1, h2⟩ := s.at hn ry
        split at e
        · rename_i c
          refine .inl ⟨a, vs, rfl, .inl (SqL.of h1), flat_of rx c.1, flats_of h2 c.2, ?_⟩
          rw [inV_of rx c.1 h2 c.2, Option.some.inj e]
          exact q
        · cases e
      · rename_i kvs hn
        obtain ⟨a, rfl, _, vs, h1, h2⟩ := s.at hn ry
        obtain ⟨k, hk, rfl⟩ := Option.map_eq_some_iff.mp e
        have hv := key_rep hk rx
        subst hv
        refine .inr (.inr (.inr ⟨a, valV vs k, rfl, DGet.k h1, ?_⟩))
        have g := KRep.get k h2
        have g2 : (valV vs k).isSome = (getK kvs k).isSome := by
          cases e3 : getK kvs k with
          | none => rw [e3] at g; rw [g]; rfl
          | some w =>
            rw [e3] at g
            obtain ⟨z, g1, _⟩ := g
            rw [g1]
            rfl
        rw [g2]
        exact q
      · rename_i kvs hn
        obtain ⟨a, rfl, _, o, vs, h1, h2⟩ := s.at hn ry
        obtain ⟨k, hk, rfl⟩ := Option.map_eq_some_iff.mp e
        have hv := key_rep hk rx
        subst hv
        refine .inr (.inr (.inr ⟨a, valV vs k, rfl, DGet.fz h1, ?_⟩))
        have g := KRep.get k h2
        have g2 : (valV vs k).isSome = (getK kvs k).isSome := by
          cases e3 : getK kvs k with
          | none => rw [e3] at g; rw [g]; rfl
          | some w =>
            rw [e3] at g
            obtain ⟨z, g1, _⟩ := g
            rw [g1]
            rfl
        rw [g2]
        exact q
      · cases e
    | _ => cases e
theorem p_in : Op2 K (rInAll K false) wIn := p_in_gen false
theorem p_notIn : Op2 K (rInAll K true) wNotIn := p_in_gen true

/-! ### a[b] -/
abbrev rDGet : R2 := fun x y H Q => ∃ a v, x = .ref a ∧ DGet H a y (some v) ∧ Q v H
theorem ix_dict {k : Nat} (hr : Room k X.A) : IxR X rDGet := by
  intro value slice pins s σ H x y v u Q I rx ry h hs
  obtain ⟨a, z, rfl, g, q⟩ := h
  cases rx
  have hu : X.A.units + 1 < cLine := by have := hr.units; omega
  exact PyProof.Rows.tail_any (dict_typeIs I g) PySem.F.slot_dict_getitem.lookup (d_getItem hu I g ry fun w' s' I' r' => ⟨z, H, I', r', q⟩) hs
def wIx (x y : W) (h : PH) : Option (W × PH) :=
  match x with
  | .tup xs => match y with
    | .int i => (atI xs i).map fun w => (w, h)
    | _ => none
  | .fix xs => match y with
    | .int i => (atI xs i).map fun w => (w, h)
    | _ => none
  | .str z => match y with
    | .int i => if z.length ≤ 16777216 then (atI z.cps.toList i).map fun c => (.str ⟨#[c]⟩, h) else none
    | _ => none
  | .ref n => match h[n]? with
    | some (.lst xs) => match y with
      | .int i => (atI xs i).map fun w => (w, h)
      | _ => none
    | some (.dK kvs) => (keyW y).bind fun k => (getK kvs k).map fun w => (w, h)
    | some (.lk kvs) => (keyW y).bind fun k => (getK kvs k).map fun w => (w, h)
    | _ => none
  | _ => none
theorem Reps.atI {f : List Addr} {H : Hp} {ws : List W} {vs : List V} {i : Int} {w : W} (r : Reps K f H ws vs) (e : L2.atI ws i = some w) : ∃ v, L2.atI vs i = some v ∧ Rep K f H w v := by
  unfold L2.atI at e ⊢
  rw [← r.length]
  cases e1 : ixN ws.length i with
  | none => rw [e1] at e; cases e
  | some j =>
    rw [e1] at e
    obtain ⟨v, h1, h2⟩ := r.get e
    exact ⟨v, h1, h2⟩
abbrev rIxAll (K : PySem.W.Frag) : R2 := fun x y H Q => rIx K x y H Q ∨ rDGet x y H Q
theorem ix_all {k : Nat} (hr : Room k X.A) : IxR X (rIxAll X.K) := ix_seq.or (ix_dict hr)
theorem p_ix : Op2 K (rIxAll K) wIx := by
  intro f h H x y v u Q E s rx ry p
  cases x with
  | tup xs =>
    obtain ⟨a, vs, rfl, h1, h2⟩ := rep_tup.mp rx
    cases y with
    | int i =>
      have ey := rep_int.mp ry
      subst ey
      simp only [wIx] at p
      cases e : L2.atI xs i with
      | none => rw [e] at p; exact p.elim
      | some w =>
        rw [e] at p
        obtain ⟨z, h3, h4⟩ := h2.atI e
        exact .inl (.inr (.inl ⟨a, vs, i, z, rfl, rfl, h1, h3, post_ok s p h4⟩))
    | _ => exact p.elim
  | fix xs =>
    obtain ⟨a, vs, rfl, h1, h2⟩ := rep_fix.mp rx
    cases y with
    | int i =>
      have ey := rep_int.mp ry
      subst ey
      simp only [wIx] at p
      cases e : L2.atI xs i with
      | none => rw [e] at p; exact p.elim
      | some w =>
        rw [e] at p
        obtain ⟨z, h3, h4⟩ := h2.atI e
        exact .inl (.inl ⟨a, vs, i, z, rfl, rfl, h1.seq, h3, post_ok s p h4⟩)
    | _ => exact p.elim
  | str z =>
    have ex := rep_str.mp rx
    subst ex
    cases y with
    | int i =>
      have ey := rep_int.mp ry
      subst ey
      simp only [wIx] at p
      split at p
      · rename_i hz
        cases e : L2.atI z.cps.toList i with
        | none => rw [e] at p; exact p.elim
        | some c =>
          rw [e] at p
          exact .inl (.inr (.inr ⟨z, i, c, rfl, rfl, by rw [sizeLine_eq]; exact hz, e, post_ok s p (rep_str.mpr rfl)⟩))
      · exact p.elim
    | _ => exact p.elim
  | ref n =>
    simp only [wIx] at p
    split at p
    · rename_i xs hn
      obtain ⟨a, rfl, _, vs, h1, h2⟩ := s.at hn rx
      split at p
      · rename_i i
        have ey := rep_int.mp ry
        subst ey
        cases e : L2.atI xs i with
        | none => rw [e] at p; exact p.elim
        | some w =>
          rw [e] at p
          obtain ⟨z, h3, h4⟩ := h2.atI e
          exact .inl (.inl ⟨a, vs, i, z, rfl, rfl, SqL.of h1, h3, post_ok s p h4⟩)
      · exact p.elim
    · rename_i kvs hn
      obtain ⟨a, rfl, _, vs, h1, h2⟩ := s.at hn rx
      cases e : keyW y with
      | none => rw [e] at p; exact p.elim
      | some k =>
        rw [e] at p
        have hv := key_rep e ry
        subst hv
        have g := KRep.get k h2
        cases e2 : getK kvs k with
        | none => simp only [Option.bind_some, e2] at p; exact p.elim
        | some w =>
          simp only [Option.bind_some, e2] at p
          rw [e2] at g
          obtain ⟨z, g1, g2⟩ := g
          exact .inr ⟨a, z, rfl, g1 ▸ DGet.k h1, post_ok s p g2⟩
    · rename_i kvs hn
      obtain ⟨a, rfl, _, o, vs, h1, h2⟩ := s.at hn rx
      cases e : keyW y with
      | none => rw [e] at p; exact p.elim
      | some k =>
        rw [e] at p
        have hv := key_rep e ry
        subst hv
        have g := KRep.get k h2
        cases e2 : getK kvs k with
        | none => simp only [Option.bind_some, e2] at p; exact p.elim
        | some w =>
          simp only [Option.bind_some, e2] at p
          rw [e2] at g
          obtain ⟨z, g1, g2⟩ := g
          exact .inr ⟨a, z, rfl, g1 ▸ DGet.fz h1, post_ok s p g2⟩
    · exact p.elim
  | _ => exact p.elim
theorem se_sub' {k : Nat} (hr : Room k X.A) (ha : SE X W0 a m1) (hb : SE X W0 b m2) (hs : PlainIx b := by exact fun _ _ => rfl) : SE X W0 (.Subscript a b pos) (mOp wIx m1 m2) := se_ix (ix_all hr) p_ix ha hb hs
end
end Mir

/-! Mir: slices, calls of built-ins. -/
namespace Mir
open PySem L2

/-! ### sequences -/
abbrev RQ (K : PySem.W.Frag) : RR (List W) V := fun _ f H ws v => ∃ a vs, v = .ref a ∧ (SqL K H a vs ∨ SqT K H a vs) ∧ Reps K f H ws vs
abbrev SQ (X : Cx) (W0 : WX) (e : Expr) (m : LM) : Prop := PE X e (tG X.K (RQ X.K) W0 m)
theorem back_Q {K : PySem.W.Frag} : Back K (RQ K) := fun _ _ _ _ _ _ _ _ _ _ _ _ q => q
def seqOf : W → PH → Option (List W)
  | .tup xs, _ => some xs
  | .fix xs, _ => some xs
  | .ref n, h => match h[n]? with
    | some (.lst xs) => some xs
    | _ => none
  | _, _ => none
def mSeq (m : EM) : LM := fun ps h => (m ps h).bind fun x h1 => match seqOf x h1 with
  | some xs => .ok xs h1
  | none => .stuck
section
variable {K : PySem.W.Frag} {X : Cx} {W0 : WX} {a b c e : Expr} {pos : Pos} {m1 m2 m3 : EM} {l1 l2 : LM}
theorem seqOf_rep {f : List Addr} {h : PH} {H : Hp} {x : W} {v : V} {ws : List W} (s : Sim K f h H) (r : Rep K f H x v) (e : seqOf x h = some ws) : ∃ a vs, v = .ref a ∧ (SqL K H a vs ∨ SqT K H a vs) ∧ Reps K f H ws vs := by
  cases x with
  | tup xs =>
    obtain ⟨a, vs, rfl, h1, h2⟩ := rep_tup.mp r
    cases e
    exact ⟨a, vs, rfl, .inr h1, h2⟩
  | fix xs =>
    obtain ⟨a, vs, rfl, h1, h2⟩ := rep_fix.mp r
    cases e
    exact ⟨a, vs, rfl, .inl h1.seq, h2⟩
  | ref n =>
    simp only [seqOf] at e
    split at e
    · rename_i xs hn
      obtain ⟨a, rfl, _, vs, h1, h2⟩ := s.at hn r
      cases e
      exact ⟨a, vs, rfl, .inl (SqL.of h1), h2⟩
    · cases e
  | _ => cases e
theorem sq_list (h : SL X W0 e l1) : SQ X W0 e l1 := pe_imp h fun σ H Q h => by
  obtain ⟨f, h, ps, s, sr, p⟩ := h
  refine ⟨f, h, ps, s, sr, ?_⟩
  cases e : l1 ps h with
  | stuck => rw [e] at p; exact p
  | exc x h' => rw [e] at p; exact p
  | ok xs h1 =>
    rw [e] at p
    intro f1 H1 v s1 q1
    obtain ⟨q, vs, rfl, hq, nq, eq, rq⟩ := q1
    exact p f1 H1 _ s1 ⟨q, vs, rfl, .inl (SqL.of eq), rq⟩
theorem sq_val (h : SE X W0 e m1) : SQ X W0 e (mSeq m1) := pe_imp h fun σ H Q h => by
  obtain ⟨f, h, ps, s, sr, p⟩ := h
  refine ⟨f, h, ps, s, sr, (Post.bind s back_Q p).mono (fun v H1 hh => ?_) fun _ _ _ e => e⟩
  obtain ⟨f1, h1, x, s1, q1, p1⟩ := hh
  cases e : seqOf x h1 with
  | none => simp only [e] at p1; exact p1.elim
  | some ws =>
    simp only [e] at p1
    exact p1 f1 H1 v (.refl s1.sim) (seqOf_rep s1.sim q1 e)

/-! ### slices -/
def mPart : Option EM → LS → PH → Res (Option Int)
  | none, _, h => .ok none h
  | some m, ps, h => (m ps h).bind fun x h1 => match x with
    | .int i => .ok (some i) h1
    | _ => .stuck
def cutW (xs : List W) (lo hi : Option Int) : List W := (xs.drop (HT.sIx xs.length 0 lo)).take (HT.sIx xs.length xs.length hi - HT.sIx xs.length 0 lo)
def wSl (x : W) (lo hi : Option Int) (h : PH) : Option (W × PH) :=
  match x with
  | .tup xs => some (.tup (cutW xs lo hi), h)
  | .str z => if z.length ≤ 16777216 then some (.str (cutS z lo hi), h) else none
  | .fix xs => some (.fix (cutW xs lo hi), h)
  | .ref n => match h[n]? with
    | some (.lst xs) => some (.fix (cutW xs lo hi), h)
    | _ => none
  | _ => none
def mSl (m : EM) (lo hi : Option EM) : EM := fun ps h => (m ps h).bind fun x h1 => (mPart lo ps h1).bind fun l h2 => (mPart hi ps h2).bind fun u h3 => .ofO (wSl x l u h3)
/-- a part of a slice -/
inductive SPO (X : Cx) (W0 : WX) : Option Expr → Option EM → Prop where
  | none : SPO X W0 none none
  | some {e : Expr} {m : EM} (h : SE X W0 e m) : SPO X W0 (some e) (some m)
abbrev RI : RR (Option Int) (Option Int) := fun _ _ _ a b => a = b
theorem back_I : Back K RI := fun _ _ _ _ _ _ _ _ _ _ _ _ q => q
theorem SPO.po {e : Option Expr} {m : Option EM} (h : SPO X W0 e m) : ∃ t, PO X e t ∧ ∀ σ H Q, tG X.K RI W0 (mPart m) σ H Q → t σ H Q := by
  cases h with
  | none =>
    refine ⟨_, po_none, fun σ H Q h => ?_⟩
    obtain ⟨f, h, ps, s, sr, p⟩ := h
    exact p f H Option.none (.refl s) rfl
  | some h =>
    refine ⟨_, po_some h, fun σ H Q h => ?_⟩
    obtain ⟨f, h, ps, s, sr, p⟩ := h
    refine ⟨f, h, ps, s, sr, (Post.bind s back_I p).mono (fun v H1 hh => ?_) fun _ _ _ e => e⟩
    obtain ⟨f1, h1, x, s1, q1, p1⟩ := hh
    cases x with
    | int i => exact ⟨i, rep_int.mp q1, p1 f1 H1 _ (.refl s1.sim) rfl⟩
    | _ => exact p1.elim
theorem Reps.cut {f : List Addr} {H : Hp} {ws : List W} {vs : List V} (r : Reps K f H ws vs) (lo hi : Option Int) : Reps K f H (cutW ws lo hi) (cutV vs lo hi) := by
  unfold cutW cutV
  rw [r.length]
  exact (r.drop _).take _
theorem cut_all (xs : List V) (lo hi : Option Int) (h : HT.sIx xs.length 0 lo = 0 ∧ HT.sIx xs.length xs.length hi = xs.length) : cutV xs lo hi = xs := by
  unfold cutV
  rw [h.1, h.2]
  simp
abbrev rSlAll (K : PySem.W.Frag) : V → Option Int → Option Int → Hp → VK → Prop := fun x lo hi H Q => rSlL K x lo hi H Q ∨ rSlA K x lo hi H Q ∨ rSlS x lo hi H Q
theorem sl_all : SlR X (rSlAll X.K) := sl_list.or (sl_tupA.or sl_str)
theorem wSl_rule {f : List Addr} {h : PH} {H : Hp} {x : W} {v : V} {lo hi : Option Int} {Q : VK} {E : XK} (s : Sim K f h H) (rx : Rep K f H x v) (p : Post K (RW K) f H (.ofO (wSl x lo hi h)) Q E) : rSlAll K v lo hi H (QF Q) := by
  cases x with
  | tup xs =>
    obtain ⟨a, vs, rfl, h1, h2⟩ := rep_tup.mp rx
    refine .inr (.inl ⟨a, vs, rfl, h1, fun c => .inl ?_, fun _ q hq => .inl (post_tup s p (h2.cut lo hi) hq)⟩)
    refine post_ok s p (rep_tup.mpr ⟨a, vs, rfl, h1, ?_⟩)
    have z := h2.cut lo hi
    rw [cut_all vs lo hi c] at z
    exact z
  | str z =>
    have ex := rep_str.mp rx
    subst ex
    simp only [wSl] at p
    split at p
    · rename_i hz
      exact .inr (.inr ⟨z, rfl, by rw [sizeLine_eq]; exact hz, .inl (post_ok s p (rep_str.mpr rfl))⟩)
    · exact p.elim
  | fix xs =>
    obtain ⟨a, vs, rfl, h1, h2⟩ := rep_fix.mp rx
    exact .inl ⟨a, vs, rfl, h1.seq, fun q hq => post_fix s p (h2.cut lo hi) hq⟩
  | ref n =>
    simp only [wSl] at p
    split at p
    · rename_i xs hn
      obtain ⟨a, rfl, _, vs, h1, h2⟩ := s.at hn rx
      exact .inl ⟨a, vs, rfl, SqL.of h1, fun q hq => post_fix s p (h2.cut lo hi) hq⟩
    · exact p.elim
  | _ => exact p.elim
theorem se_slice {lo hi : Option Expr} {ml mh : Option EM} {p2 : Pos} (ha : SE X W0 a m1) (hl : SPO X W0 lo ml) (hh : SPO X W0 hi mh) : SE X W0 (.Subscript a (.Slice lo hi none p2) pos) (mSl m1 ml mh) := by
  obtain ⟨tl, pl, il⟩ := hl.po
  obtain ⟨th, ph, ih⟩ := hh.po
  refine pe_imp (pe_frz (pe_slice sl_all ha pl ph)) fun σ H Q h => ?_
  obtain ⟨f, h, ps, s, sr, p⟩ := h
  refine ⟨f, h, ps, s, sr, (Post.bind s back_W p).mono (fun v H1 hh => ?_) fun _ _ _ e => e⟩
  obtain ⟨f1, h1, x, s1, q1, p1⟩ := hh
  refine il σ H1 _ ⟨f1, h1, ps, s1.sim, s1.srep s sr, (Post.bind (R1 := RI) s1.sim back_W p1).mono (fun l H2 hh => ?_) fun _ _ _ e => e⟩
  obtain ⟨f2, h2, l', s2, q2, p2⟩ := hh
  cases q2
  refine ih σ H2 _ ⟨f2, h2, ps, s2.sim, s2.srep s1.sim (s1.srep s sr), (Post.bind (R1 := RI) s2.sim back_W p2).mono (fun u H3 hh => ?_) fun _ _ _ e => e⟩
  obtain ⟨f3, h3, u', s3, q3, p3⟩ := hh
  cases q3
  exact wSl_rule s3.sim (s3.rep s2.sim (s2.rep s1.sim q1)) p3

/-! ### calls of built-ins -/
def OpC (K : PySem.W.Frag) (r : List V → Hp → VK → Prop) (o : List W → PH → Option (W × PH)) : Prop :=
  ∀ (f : List Addr) (h : PH) (H : Hp) (xs : List W) (vs : List V) (Q : VK) (E : XK), Sim K f h H → Reps K f H xs vs → Post K (RW K) f H (.ofO (o xs h)) Q E → r vs H Q
def mCall (o : List W → PH → Option (W × PH)) (l : LM) : EM := fun ps h => (l ps h).bind fun xs h1 => .ofO (o xs h1)
variable {x : Str} {id T : String} {r : List V → Hp → VK → Prop} {o : List W → PH → Option (W × PH)} {es : List Expr} {p : Pos}
theorem tE_call (ho : OpC K r o) {σ : L2.St} {H : Hp} {Q : VK} (h : tE K W0 (mCall o l1) σ H Q) : tCB r (tA K W0 l1) σ H Q := by
  obtain ⟨f, h, ps, s, sr, p⟩ := h
  refine ⟨f, h, ps, s, sr, (Post.bind s back_W p).mono (fun v H1 hh => ?_) fun _ _ _ e => e⟩
  obtain ⟨f1, h1, x, s1, q1, p1⟩ := hh
  exact ho f1 h1 H1 x v Q _ s1.sim q1 p1
theorem se_callB (hc : CallR X (.builtin id) r) (ho : OpC X.K r o) (hm : X.mg x = none) (hv : bootBuiltins x = some (.builtin id)) (ha : SA X W0 (e :: es) l1) (hg : Gl X x := by rfl) (hn : x ≠ "__name__" := by decide) (hdb : (x == ("__debug__" : Str)) = false := by decide)
    (he : starEach (e :: es) X.env = (false, eval e X.env) :: starEach es X.env := by rfl) (hpl : (backTo pos (starEach es X.env)).any (·.1) = false := by rfl) : SE X W0 (.Call (.Name x p) (e :: es) [] pos) (mCall o l1) :=
  pe_imp (pe_callB hc hg hm hv ha hn hdb he hpl) fun _ _ _ h => tE_call ho h
theorem se_callT (hc : CallR X (.type T) r) (ho : OpC X.K r o) (hm : X.mg x = none) (hv : bootBuiltins x = some (.type T)) (ha : SA X W0 (e :: es) l1) (hg : Gl X x := by rfl) (hn : x ≠ "__name__" := by decide) (hdb : (x == ("__debug__" : Str)) = false := by decide)
    (he : starEach (e :: es) X.env = (false, eval e X.env) :: starEach es X.env := by rfl) (hpl : (backTo pos (starEach es X.env)).any (·.1) = false := by rfl) : SE X W0 (.Call (.Name x p) (e :: es) [] pos) (mCall o l1) :=
  pe_imp (pe_callTy hc hg hm hv ha hn hdb he hpl) fun _ _ _ h => tE_call ho h
/-- one argument, a sequence -/
def OpS {α : Type} (K : PySem.W.Frag) (R : RR α V) (r : List V → Hp → VK → Prop) (o : List W → PH → Option (α × PH)) : Prop :=
  ∀ (f : List Addr) (h : PH) (H : Hp) (a : Addr) (ws : List W) (vs : List V) (Q : VK) (E : XK), Sim K f h H → (SqL K H a vs ∨ SqT K H a vs) → Reps K f H ws vs → Post K R f H (.ofO (o ws h)) Q E → r [.ref a] H Q
def mOn {α : Type} (o : List W → PH → Option (α × PH)) (l : LM) : LS → PH → Res α := fun ps h => (l ps h).bind fun xs h1 => .ofO (o xs h1)
theorem tG_on {α : Type} {R : RR α V} {o : List W → PH → Option (α × PH)} (hb : Back K R) (ho : OpS K R r o) {σ : L2.St} {H : Hp} {Q : VK} (h : tG K R W0 (mOn o l1) σ H Q) : tCB r (tCons (tG K (RQ K) W0 l1) tNil) σ H Q := by
  obtain ⟨f, h, ps, s, sr, p⟩ := h
  refine ⟨f, h, ps, s, sr, (Post.bind s hb p).mono (fun v H1 hh => ?_) fun _ _ _ e => e⟩
  obtain ⟨f1, h1, ws, s1, q1, p1⟩ := hh
  obtain ⟨a, vs, rfl, hq, rr⟩ := q1
  exact ho f1 h1 H1 a ws vs Q _ s1.sim hq rr p1
theorem pg_callBS {α : Type} {R : RR α V} {o : List W → PH → Option (α × PH)} (hb : Back X.K R) (hc : CallR X (.builtin id) r) (ho : OpS X.K R r o) (hm : X.mg x = none) (hv : bootBuiltins x = some (.builtin id)) (ha : SQ X W0 e l1) (hg : Gl X x := by rfl) (hn : x ≠ "__name__" := by decide) (hdb : (x == ("__debug__" : Str)) = false := by decide)
    (he : starEach [e] X.env = (false, eval e X.env) :: starEach [] X.env := by rfl) (hpl : (backTo pos (starEach [] X.env)).any (·.1) = false := by rfl) : PE X (.Call (.Name x p) [e] [] pos) (tG X.K R W0 (mOn o l1)) :=
  pe_imp (pe_callB hc hg hm hv (pa_cons ha pa_nil he) hn hdb he hpl) fun _ _ _ h => tG_on hb ho h
theorem pg_callTS {α : Type} {R : RR α V} {o : List W → PH → Option (α × PH)} (hb : Back X.K R) (hc : CallR X (.type T) r) (ho : OpS X.K R r o) (hm : X.mg x = none) (hv : bootBuiltins x = some (.type T)) (ha : SQ X W0 e l1) (hg : Gl X x := by rfl) (hn : x ≠ "__name__" := by decide) (hdb : (x == ("__debug__" : Str)) = false := by decide)
    (he : starEach [e] X.env = (false, eval e X.env) :: starEach [] X.env := by rfl) (hpl : (backTo pos (starEach [] X.env)).any (·.1) = false := by rfl) : PE X (.Call (.Name x p) [e] [] pos) (tG X.K R W0 (mOn o l1)) :=
  pe_imp (pe_callTy hc hg hm hv (pa_cons ha pa_nil he) hn hdb he hpl) fun _ _ _ h => tG_on hb ho h
end
end Mir

/-! Mir: built-ins, one by one. -/
namespace Mir
open PySem L2

theorem CallR.or {X : Cx} {f : Value} {r r' : List V → Hp → VK → Prop} (h : CallR X f r) (h' : CallR X f r') : CallR X f (fun xs H Q => r xs H Q ∨ r' xs H Q) := by
  intro pins s σ H xs us Q I rr q
  rcases q with q | q
  · exact h pins s σ H xs us Q I rr q
  · exact h' pins s σ H xs us Q I rr q
/-! ### lists alone -/
abbrev RM (K : PySem.W.Frag) : RR (List W) V := fun _ f H ws v => ∃ a vs, v = .ref a ∧ SqL K H a vs ∧ Reps K f H ws vs
abbrev SMq (X : Cx) (W0 : WX) (e : Expr) (m : LM) : Prop := PE X e (tG X.K (RM X.K) W0 m)
theorem back_M {K : PySem.W.Frag} : Back K (RM K) := fun _ _ _ _ _ _ _ _ _ _ _ _ q => q
def mLstOf (m : EM) : LM := fun ps h => (m ps h).bind fun x h1 => match lstOf x h1 with
  | some xs => .ok xs h1
  | none => .stuck
section
variable {K : PySem.W.Frag} {X : Cx} {W0 : WX} {a b c e : Expr} {pos : Pos} {m1 m2 m3 : EM} {l1 l2 : LM}
theorem sm_list (h : SL X W0 e l1) : SMq X W0 e l1 := pe_imp h fun σ H Q h => by
  obtain ⟨f, h, ps, s, sr, p⟩ := h
  refine ⟨f, h, ps, s, sr, ?_⟩
  cases e : l1 ps h with
  | stuck => rw [e] at p; exact p
  | exc x h' => rw [e] at p; exact p
  | ok xs h1 =>
    rw [e] at p
    intro f1 H1 v s1 q1
    obtain ⟨q, vs, rfl, hq, nq, eq, rq⟩ := q1
    exact p f1 H1 _ s1 ⟨q, vs, rfl, SqL.of eq, rq⟩
theorem sm_val (h : SE X W0 e m1) : SMq X W0 e (mLstOf m1) := pe_imp h fun σ H Q h => by
  obtain ⟨f, h, ps, s, sr, p⟩ := h
  refine ⟨f, h, ps, s, sr, (Post.bind s back_M p).mono (fun v H1 hh => ?_) fun _ _ _ e => e⟩
  obtain ⟨f1, h1, x, s1, q1, p1⟩ := hh
  cases e : lstOf x h1 with
  | none => simp only [e] at p1; exact p1.elim
  | some ws =>
    simp only [e] at p1
    exact p1 f1 H1 v (.refl s1.sim) (lstOf_rep s1.sim q1 e)
def OpM {α : Type} (K : PySem.W.Frag) (R : RR α V) (r : List V → Hp → VK → Prop) (o : List W → PH → Option (α × PH)) : Prop :=
  ∀ (f : List Addr) (h : PH) (H : Hp) (a : Addr) (ws : List W) (vs : List V) (Q : VK) (E : XK), Sim K f h H → SqL K H a vs → Reps K f H ws vs → Post K R f H (.ofO (o ws h)) Q E → r [.ref a] H Q
variable {x : Str} {id T : String} {r : List V → Hp → VK → Prop} {es : List Expr} {p : Pos}
theorem tG_onM {α : Type} {R : RR α V} {o : List W → PH → Option (α × PH)} (hb : Back K R) (ho : OpM K R r o) {σ : L2.St} {H : Hp} {Q : VK} (h : tG K R W0 (mOn o l1) σ H Q) : tCB r (tCons (tG K (RM K) W0 l1) tNil) σ H Q := by
  obtain ⟨f, h, ps, s, sr, p⟩ := h
  refine ⟨f, h, ps, s, sr, (Post.bind s hb p).mono (fun v H1 hh => ?_) fun _ _ _ e => e⟩
  obtain ⟨f1, h1, ws, s1, q1, p1⟩ := hh
  obtain ⟨a, vs, rfl, hq, rr⟩ := q1
  exact ho f1 h1 H1 a ws vs Q _ s1.sim hq rr p1
theorem pg_callBM {α : Type} {R : RR α V} {o : List W → PH → Option (α × PH)} (hb : Back X.K R) (hc : CallR X (.builtin id) r) (ho : OpM X.K R r o) (hm : X.mg x = none) (hv : bootBuiltins x = some (.builtin id)) (ha : SMq X W0 e l1) (hg : Gl X x := by rfl) (hn : x ≠ "__name__" := by decide) (hdb : (x == ("__debug__" : Str)) = false := by decide)
    (he : starEach [e] X.env = (false, eval e X.env) :: starEach [] X.env := by rfl) (hpl : (backTo pos (starEach [] X.env)).any (·.1) = false := by rfl) : PE X (.Call (.Name x p) [e] [] pos) (tG X.K R W0 (mOn o l1)) :=
  pe_imp (pe_callB hc hg hm hv (pa_cons ha pa_nil he) hn hdb he hpl) fun _ _ _ h => tG_onM hb ho h

/-! ### len -/
def wLenQ (ws : List W) (h : PH) : Option (W × PH) := some (.int ws.length, h)
def wLen : List W → PH → Option (W × PH)
  | [.str x], h => if x.length ≤ 16777216 then some (.int x.length, h) else none
  | [.tup xs], h => some (.int xs.length, h)
  | [.fix xs], h => some (.int xs.length, h)
  | [.ref n], h => match h[n]? with
    | some (.lst xs) => some (.int xs.length, h)
    | some (.dK kvs) => some (.int kvs.length, h)
    | _ => none
  | _, _ => none
abbrev rLenV (K : PySem.W.Frag) : List V → Hp → VK → Prop := fun xs H Q => ∃ x n, xs = [x] ∧ LenV K x H n ∧ Q (.int n) H
abbrev rLenD : List V → Hp → VK → Prop := fun xs H Q => ∃ a kvs, xs = [.ref a] ∧ Rd H a (.dK kvs) ∧ Q (.int (kvs.length : Nat)) H
theorem c_lenD : CallR X (.builtin "len") rLenD := by
  intro pins s σ H xs us Q I r h
  obtain ⟨a, kvs, rfl, e, q⟩ := h
  obtain ⟨u, rfl, rx⟩ := vals1 r
  cases rx
  exact d_len I e fun t s' I' => ⟨.int kvs.length, H, I', ⟨t, rfl⟩, q⟩
theorem c_len : CallR X (.builtin "len") (fun xs H Q => rLenV X.K xs H Q ∨ rLenD xs H Q) := CallR.or call_len c_lenD
theorem q_len : OpS K (RW K) (fun xs H Q => rLenV K xs H Q ∨ rLenD xs H Q) wLenQ := by
  intro f h H a ws vs Q E s hq r p
  refine .inl ⟨.ref a, vs.length, rfl, ?_, by rw [← r.length]; exact post_ok s p (rep_int.mpr rfl)⟩
  rcases hq with hq | hq
  · exact .inl ⟨vs, hq, rfl⟩
  · exact .inr ⟨vs, hq, rfl⟩
theorem o_len : OpC K (fun xs H Q => rLenV K xs H Q ∨ rLenD xs H Q) wLen := by
  intro f h H xs vs Q E s r p
  unfold wLen at p
  split at p
  · obtain ⟨v, t, rfl, h1, h2⟩ := r.cons_inv
    have e1 := rep_str.mp h1
    have e2 := h2.nil_inv
    subst e1 e2
    split at p
    · rename_i hz
      exact .inl ⟨_, _, rfl, ⟨by rw [sizeLine_eq]; exact hz, rfl⟩, post_ok s p (rep_int.mpr rfl)⟩
    · exact p.elim
  · obtain ⟨v, t, rfl, h1, h2⟩ := r.cons_inv
    obtain ⟨a, vs, rfl, h3, h4⟩ := rep_tup.mp h1
    have e2 := h2.nil_inv
    subst e2
    exact .inl ⟨_, vs.length, rfl, .inr ⟨vs, h3, rfl⟩, by rw [← h4.length]; exact post_ok s p (rep_int.mpr rfl)⟩
  · obtain ⟨v, t, rfl, h1, h2⟩ := r.cons_inv
    obtain ⟨a, vs, rfl, h3, h4⟩ := rep_fix.mp h1
    have e2 := h2.nil_inv
    subst e2
    exact .inl ⟨_, vs.length, rfl, .inl ⟨vs, h3.seq, rfl⟩, by rw [← h4.length]; exact post_ok s p (rep_int.mpr rfl)⟩
  · obtain ⟨v, t, rfl, h1, h2⟩ := r.cons_inv
    have e2 := h2.nil_inv
    subst e2
    split at p
    · rename_i hn
      obtain ⟨a, rfl, _, vs, h3, h4⟩ := s.at hn h1
      exact .inl ⟨_, vs.length, rfl, .inl ⟨vs, SqL.of h3, rfl⟩, by rw [← h4.length]; exact post_ok s p (rep_int.mpr rfl)⟩
    · rename_i hn
      obtain ⟨a, rfl, _, vs, h3, h4⟩ := s.at hn h1
      exact .inr ⟨a, vs, rfl, .inl h3, by rw [← h4.length]; exact post_ok s p (rep_int.mpr rfl)⟩
    · exact p.elim
  · exact p.elim

/-! ### all, any, sum -/
def bools : List W → Option (List Bool)
  | [] => some []
  | .bl b :: r => (bools r).map (b :: ·)
  | _ :: _ => none
def intsW : List W → Option (List Int)
  | [] => some []
  | .int b :: r => (intsW r).map (b :: ·)
  | _ :: _ => none
def strsW : List W → Option (List Str)
  | [] => some []
  | .str b :: r => (strsW r).map (b :: ·)
  | _ :: _ => none
theorem bools_rep {f : List Addr} {H : Hp} : ∀ {ws : List W} {vs : List V} {bs : List Bool}, bools ws = some bs → Reps K f H ws vs → vs = bs.map V.bl
  | [], vs, bs, e, r => by
    cases e
    exact r.nil_inv
  | .bl b :: ws, vs, bs, e, r => by
    obtain ⟨v, t, rfl, h1, h2⟩ := r.cons_inv
    obtain ⟨cs, e1, rfl⟩ := Option.map_eq_some_iff.mp e
    rw [rep_bl.mp h1, bools_rep e1 h2]
    rfl
  | .non :: _, _, _, e, _ => by cases e
  | .int _ :: _, _, _, e, _ => by cases e
  | .str _ :: _, _, _, e, _ => by cases e
  | .tup _ :: _, _, _, e, _ => by cases e
  | .fix _ :: _, _, _, e, _ => by cases e
  | .exc _ :: _, _, _, e, _ => by cases e
  | .ref _ :: _, _, _, e, _ => by cases e
theorem intsW_rep {f : List Addr} {H : Hp} : ∀ {ws : List W} {vs : List V} {bs : List Int}, intsW ws = some bs → Reps K f H ws vs → vs = bs.map V.int
  | [], vs, bs, e, r => by
    cases e
    exact r.nil_inv
  | .int b :: ws, vs, bs, e, r => by
    obtain ⟨v, t, rfl, h1, h2⟩ := r.cons_inv
    obtain ⟨cs, e1, rfl⟩ := Option.map_eq_some_iff.mp e
    rw [rep_int.mp h1, intsW_rep e1 h2]
    rfl
  | .non :: _, _, _, e, _ => by cases e
  | .bl _ :: _, _, _, e, _ => by cases e
  | .str _ :: _, _, _, e, _ => by cases e
  | .tup _ :: _, _, _, e, _ => by cases e
  | .fix _ :: _, _, _, e, _ => by cases e
  | .exc _ :: _, _, _, e, _ => by cases e
  | .ref _ :: _, _, _, e, _ => by cases e
theorem strsW_rep {f : List Addr} {H : Hp} : ∀ {ws : List W} {vs : List V} {bs : List Str}, strsW ws = some bs → Reps K f H ws vs → vs = bs.map V.str
  | [], vs, bs, e, r => by
    cases e
    exact r.nil_inv
  | .str b :: ws, vs, bs, e, r => by
    obtain ⟨v, t, rfl, h1, h2⟩ := r.cons_inv
    obtain ⟨cs, e1, rfl⟩ := Option.map_eq_some_iff.mp e
    rw [rep_str.mp h1, strsW_rep e1 h2]
    rfl
  | .non :: _, _, _, e, _ => by cases e
  | .bl _ :: _, _, _, e, _ => by cases e
  | .int _ :: _, _, _, e, _ => by cases e
  | .tup _ :: _, _, _, e, _ => by cases e
  | .fix _ :: _, _, _, e, _ => by cases e
  | .exc _ :: _, _, _, e, _ => by cases e
  | .ref _ :: _, _, _, e, _ => by cases e
theorem reps_ints {f : List Addr} {H : Hp} : ∀ (bs : List Int), Reps K f H (bs.map W.int) (bs.map V.int)
  | [] => .nil
  | b :: bs => .cons (rep_int.mpr rfl) (reps_ints bs)
theorem reps_strs {f : List Addr} {H : Hp} : ∀ (bs : List Str), Reps K f H (bs.map W.str) (bs.map V.str)
  | [] => .nil
  | b :: bs => .cons (rep_str.mpr rfl) (reps_strs bs)
def wAll (ws : List W) (h : PH) : Option (W × PH) := (bools ws).map fun bs => (.bl (bs.all fun b => b), h)
def wAny (ws : List W) (h : PH) : Option (W × PH) := (bools ws).map fun bs => (.bl (bs.any fun b => b), h)
def wSum (ws : List W) (h : PH) : Option (W × PH) := (intsW ws).map fun bs => (.int bs.sum, h)
theorem q_all : OpM K (RW K) (rAll K) wAll := by
  intro f h H a ws vs Q E s hq r p
  unfold wAll at p
  cases e : bools ws with
  | none => rw [e] at p; exact p.elim
  | some bs =>
    rw [e] at p
    have ev := bools_rep e r
    subst ev
    exact ⟨a, bs, rfl, hq, post_ok s p (rep_bl.mpr rfl)⟩
theorem q_any : OpM K (RW K) (rAny K) wAny := by
  intro f h H a ws vs Q E s hq r p
  unfold wAny at p
  cases e : bools ws with
  | none => rw [e] at p; exact p.elim
  | some bs =>
    rw [e] at p
    have ev := bools_rep e r
    subst ev
    exact ⟨a, bs, rfl, hq, post_ok s p (rep_bl.mpr rfl)⟩
theorem q_sum : OpM K (RW K) (rSum K) wSum := by
  intro f h H a ws vs Q E s hq r p
  unfold wSum at p
  cases e : intsW ws with
  | none => rw [e] at p; exact p.elim
  | some bs =>
    rw [e] at p
    have ev := intsW_rep e r
    subst ev
    exact ⟨a, bs, rfl, hq, post_ok s p (rep_int.mpr rfl)⟩
/-- the greatest, the least of a list that isn't empty -/
def maxI : List Int → Option Int
  | [] => none
  | a :: r => some (r.foldl (fun m x => if x > m then x else m) a)
def minI : List Int → Option Int
  | [] => none
  | a :: r => some (r.foldl (fun m x => if x < m then x else m) a)
theorem foldmax (r : List Int) : ∀ (a : Int), a ≤ r.foldl (fun m x => if x > m then x else m) a ∧ (∀ y ∈ r, y ≤ r.foldl (fun m x => if x > m then x else m) a) ∧ (r.foldl (fun m x => if x > m then x else m) a = a ∨ r.foldl (fun m x => if x > m then x else m) a ∈ r) := by
  induction r with
  | nil => intro a; simp
  | cons b r ih =>
    intro a
    rw [List.foldl_cons]
    have hc : ∃ c, c = (if b > a then b else a) ∧ a ≤ c ∧ b ≤ c ∧ (c = a ∨ c = b) := by
      refine ⟨_, rfl, ?_, ?_, ?_⟩
      · split <;> omega
      · split <;> omega
      · split <;> simp
    obtain ⟨c, e, c1, c2, c3⟩ := hc
    rw [← e]
    obtain ⟨h1, h2, h3⟩ := ih c
    refine ⟨by omega, fun y hy => ?_, ?_⟩
    · rcases List.mem_cons.mp hy with e | e
      · omega
      · exact h2 y e
    · rcases h3 with h3 | h3
      · rw [h3]
        rcases c3 with c3 | c3
        · exact .inl c3
        · rw [c3]
          exact .inr List.mem_cons_self
      · exact .inr (List.mem_cons_of_mem _ h3)
theorem foldmin (r : List Int) : ∀ (a : Int), r.foldl (fun m x => if x < m then x else m) a ≤ a ∧ (∀ y ∈ r, r.foldl (fun m x => if x < m then x else m) a ≤ y) ∧ (r.foldl (fun m x => if x < m then x else m) a = a ∨ r.foldl (fun m x => if x < m then x else m) a ∈ r) := by
  induction r with
  | nil => intro a; simp
  | cons b r ih =>
    intro a
    rw [List.foldl_cons]
    have hc : ∃ c, c = (if b < a then b else a) ∧ c ≤ a ∧ c ≤ b ∧ (c = a ∨ c = b) := by
      refine ⟨_, rfl, ?_, ?_, ?_⟩
      · split <;> omega
      · split <;> omega
      · split <;> simp
    obtain ⟨c, e, c1, c2, c3⟩ := hc
    rw [← e]
    obtain ⟨h1, h2, h3⟩ := ih c
    refine ⟨by omega, fun y hy => ?_, ?_⟩
    · rcases List.mem_cons.mp hy with e | e
      · omega
      · exact h2 y e
    · rcases h3 with h3 | h3
      · rw [h3]
        rcases c3 with c3 | c3
        · exact .inl c3
        · rw [c3]
          exact .inr List.mem_cons_self
      · exact .inr (List.mem_cons_of_mem _ h3)
theorem maxI_is {l : List Int} {m : Int} (e : maxI l = some m) : m ∈ l ∧ ∀ y ∈ l, y ≤ m := by
  cases l with
  | nil => cases e
  | cons a r =>
    have e : r.foldl (fun m x => if x > m then x else m) a = m := Option.some.inj e
    obtain ⟨h1, h2, h3⟩ := foldmax r a
    rw [e] at h1 h2 h3
    refine ⟨?_, fun y hy => ?_⟩
    · rcases h3 with h3 | h3
      · rw [h3]; exact List.mem_cons_self
      · exact List.mem_cons_of_mem _ h3
    · rcases List.mem_cons.mp hy with q | q
      · rw [q]; exact h1
      · exact h2 y q
theorem minI_is {l : List Int} {m : Int} (e : minI l = some m) : m ∈ l ∧ ∀ y ∈ l, m ≤ y := by
  cases l with
  | nil => cases e
  | cons a r =>
    have e : r.foldl (fun m x => if x < m then x else m) a = m := Option.some.inj e
    obtain ⟨h1, h2, h3⟩ := foldmin r a
    rw [e] at h1 h2 h3
    refine ⟨?_, fun y hy => ?_⟩
    · rcases h3 with h3 | h3
      · rw [h3]; exact List.mem_cons_self
      · exact List.mem_cons_of_mem _ h3
    · rcases List.mem_cons.mp hy with q | q
      · rw [q]; exact h1
      · exact h2 y q
def wMax (ws : List W) (h : PH) : Option (W × PH) := ((intsW ws).bind maxI).map fun m => (.int m, h)
def wMin (ws : List W) (h : PH) : Option (W × PH) := ((intsW ws).bind minI).map fun m => (.int m, h)
theorem q_max : OpM K (RW K) (rMax K) wMax := by
  intro f h H a ws vs Q E s hq r p
  unfold wMax at p
  cases e : intsW ws with
  | none => rw [e] at p; exact p.elim
  | some bs =>
    rw [e] at p
    simp only [Option.bind_some] at p
    have ev := intsW_rep e r
    subst ev
    cases e2 : maxI bs with
    | none => rw [e2] at p; exact p.elim
    | some m =>
      rw [e2] at p
      obtain ⟨k1, k2⟩ := maxI_is e2
      refine ⟨a, bs, rfl, hq, List.length_pos_of_mem k1, fun z hz hle => ?_⟩
      have : z = m := Int.le_antisymm (k2 z hz) (hle m k1)
      rw [this]
      exact post_ok s p (rep_int.mpr rfl)
theorem q_min : OpM K (RW K) (rMin K) wMin := by
  intro f h H a ws vs Q E s hq r p
  unfold wMin at p
  cases e : intsW ws with
  | none => rw [e] at p; exact p.elim
  | some bs =>
    rw [e] at p
    simp only [Option.bind_some] at p
    have ev := intsW_rep e r
    subst ev
    cases e2 : minI bs with
    | none => rw [e2] at p; exact p.elim
    | some m =>
      rw [e2] at p
      obtain ⟨k1, k2⟩ := minI_is e2
      refine ⟨a, bs, rfl, hq, List.length_pos_of_mem k1, fun z hz hle => ?_⟩
      have : z = m := Int.le_antisymm (hle m k1) (k2 z hz)
      rw [this]
      exact post_ok s p (rep_int.mpr rfl)

/-! ### abs, max and min of two, int, str -/
def wAbs : List W → PH → Option (W × PH)
  | [.int i], h => some (.int (if i < 0 then -i else i), h)
  | _, _ => none
def wMax2 : List W → PH → Option (W × PH)
  | [.int i, .int j], h => some (.int (if j > i then j else i), h)
  | _, _ => none
def wMin2 : List W → PH → Option (W × PH)
  | [.int i, .int j], h => some (.int (if j < i then j else i), h)
  | _, _ => none
def wInt : List W → PH → Option (W × PH)
  | [.int i], h => some (.int i, h)
  | [.bl k], h => some (.int (if k then 1 else 0), h)
  | [.str x], h => if x.length ≤ 640 then (PySem.intText? x).map fun n => (.int n, h) else none
  | _, _ => none
def wStr : List W → PH → Option (W × PH)
  | [.int i], h => if i.natAbs.log2 < 1920 then some (.str (toString i), h) else none
  | _, _ => none
theorem Reps.one_inv {f : List Addr} {H : Hp} {w : W} {vs : List V} (r : Reps K f H [w] vs) : ∃ v, vs = [v] ∧ Rep K f H w v := by
  obtain ⟨v, t, rfl, h1, h2⟩ := r.cons_inv
  exact ⟨v, by rw [h2.nil_inv], h1⟩
theorem Reps.two_inv {f : List Addr} {H : Hp} {w z : W} {vs : List V} (r : Reps K f H [w, z] vs) : ∃ v u, vs = [v, u] ∧ Rep K f H w v ∧ Rep K f H z u := by
  obtain ⟨v, t, rfl, h1, h2⟩ := r.cons_inv
  obtain ⟨u, rfl, h3⟩ := h2.one_inv
  exact ⟨v, u, rfl, h1, h3⟩
theorem o_abs : OpC K (fun xs H Q => ∃ i, xs = [V.int i] ∧ Q (.int (if i < 0 then -i else i)) H) wAbs := by
  intro f h H xs vs Q E s r p
  unfold wAbs at p
  split at p
  · obtain ⟨v, rfl, h1⟩ := r.one_inv
    exact ⟨_, by rw [rep_int.mp h1], post_ok s p (rep_int.mpr rfl)⟩
  · exact p.elim
theorem o_max2 : OpC K (fun xs H Q => ∃ i j, xs = [V.int i, .int j] ∧ Q (.int (if j > i then j else i)) H) wMax2 := by
  intro f h H xs vs Q E s r p
  unfold wMax2 at p
  split at p
  · obtain ⟨v, u, rfl, h1, h2⟩ := r.two_inv
    exact ⟨_, _, by rw [rep_int.mp h1, rep_int.mp h2], post_ok s p (rep_int.mpr rfl)⟩
  · exact p.elim
theorem o_min2 : OpC K (fun xs H Q => ∃ i j, xs = [V.int i, .int j] ∧ Q (.int (if j < i then j else i)) H) wMin2 := by
  intro f h H xs vs Q E s r p
  unfold wMin2 at p
  split at p
  · obtain ⟨v, u, rfl, h1, h2⟩ := r.two_inv
    exact ⟨_, _, by rw [rep_int.mp h1, rep_int.mp h2], post_ok s p (rep_int.mpr rfl)⟩
  · exact p.elim
abbrev rInt : List V → Hp → VK → Prop := fun xs H Q => ((∃ i, xs = [V.int i] ∧ Q (.int i) H) ∨ ∃ k, xs = [.bl k] ∧ Q (.int (if k then 1 else 0)) H) ∨ ∃ a n, xs = [.str a] ∧ PySem.intText? a = some n ∧ a.length ≤ 640 ∧ Q (.int n) H
theorem c_int : CallR X (.type "int") rInt := CallR.or call_int1 call_int_str
theorem o_int : OpC K rInt wInt := by
  intro f h H xs vs Q E s r p
  unfold wInt at p
  split at p
  · obtain ⟨v, rfl, h1⟩ := r.one_inv
    exact .inl (.inl ⟨_, by rw [rep_int.mp h1], post_ok s p (rep_int.mpr rfl)⟩)
  · obtain ⟨v, rfl, h1⟩ := r.one_inv
    exact .inl (.inr ⟨_, by rw [rep_bl.mp h1], post_ok s p (rep_int.mpr rfl)⟩)
  · obtain ⟨v, rfl, h1⟩ := r.one_inv
    split at p
    · rename_i x hz
      cases e : PySem.intText? x with
      | none => rw [e] at p; exact p.elim
      | some n =>
        rw [e] at p
        exact .inr ⟨_, n, by rw [rep_str.mp h1], e, hz, post_ok s p (rep_int.mpr rfl)⟩
    · exact p.elim
  · exact p.elim
theorem o_str : OpC K (fun xs H Q => ∃ i, xs = [V.int i] ∧ i.natAbs.log2 < 1920 ∧ Q (.str (toString i)) H) wStr := by
  intro f h H xs vs Q E s r p
  unfold wStr at p
  split at p
  · split at p
    · rename_i c
      obtain ⟨v, rfl, h1⟩ := r.one_inv
      exact ⟨_, by rw [rep_int.mp h1], c, post_ok s p (rep_str.mpr rfl)⟩
    · exact p.elim
  · exact p.elim

/-! ### tuple(..), list(..), sorted(..) -/
def wTupQ (ws : List W) (h : PH) : Option (W × PH) := some (.tup ws, h)
abbrev rTupOf (K : PySem.W.Frag) : List V → Hp → VK → Prop := fun xs H Q => ∃ p ys, xs = [.ref p] ∧ ((SqL K H p ys ∧ ∀ l, H l = none → Q (.ref l) (upd H l (.tup ys))) ∨ (SqT K H p ys ∧ Q (.ref p) H))
theorem q_tup : OpS K (RW K) (rTupOf K) wTupQ := by
  intro f h H a ws vs Q E s hq r p
  refine ⟨a, vs, rfl, ?_⟩
  rcases hq with hq | hq
  · exact .inl ⟨hq, fun l hl => post_tup s p r hl⟩
  · exact .inr ⟨hq, post_ok s p (rep_tup.mpr ⟨a, vs, rfl, hq, r⟩)⟩
/-- behind a rule that lays a new list -/
theorem post_fresh {f : List Addr} {h : PH} {H : Hp} {ws : List W} {vs : List V} {Q : VK} {E : XK} (s : Sim K f h H) (p : Post K (RL K) f H (.ofO (some (ws, h))) Q E) (r : Reps K f H ws vs) {q : Addr} (hq : H q = none) : Q (.ref q) (upd H q (.lst vs)) :=
  p f _ _ (s.other hq) ⟨q, vs, rfl, hq, s.fresh hq, upd_same, Reps.mono (.refl f) (s.stay (s.other hq).grow) _ _ r⟩
def lId (ws : List W) (h : PH) : Option (List W × PH) := some (ws, h)
abbrev rLstOf (K : PySem.W.Frag) : List V → Hp → VK → Prop := fun xs H Q => ∃ p ys, xs = [.ref p] ∧ (SqL K H p ys ∨ SqT K H p ys) ∧ ∀ l, H l = none → Q (.ref l) (upd H l (.lst ys))
theorem q_list : OpS K (RL K) (rLstOf K) lId := by
  intro f h H a ws vs Q E s hq r p
  exact ⟨a, vs, rfl, hq, fun l hl => post_fresh s p r hl⟩
/-- the rising arrangement -/
def insI (x : Int) : List Int → List Int
  | [] => [x]
  | y :: r => if x ≤ y then x :: y :: r else y :: insI x r
def sortI (l : List Int) : List Int := l.foldr insI []
theorem insI_perm (x : Int) : ∀ l : List Int, (insI x l).Perm (x :: l)
  | [] => .refl _
  | y :: r => by
    unfold insI
    split
    · exact .refl _
    · exact ((insI_perm x r).cons y).trans (.swap x y r)
theorem sortI_perm (l : List Int) : (sortI l).Perm l := by
  induction l with
  | nil => exact .refl _
  | cons x l ih => exact (insI_perm x _).trans (ih.cons x)
theorem insI_up (x : Int) : ∀ l : List Int, l.Pairwise (· ≤ ·) → (insI x l).Pairwise (· ≤ ·)
  | [], _ => by simp [insI]
  | y :: r, h => by
    obtain ⟨h1, h2⟩ := List.pairwise_cons.mp h
    unfold insI
    split
    · rename_i c
      refine List.pairwise_cons.mpr ⟨fun z hz => ?_, h⟩
      rcases List.mem_cons.mp hz with e | e
      · rw [e]; exact c
      · exact Int.le_trans c (h1 z e)
    · rename_i c
      refine List.pairwise_cons.mpr ⟨fun z hz => ?_, insI_up x r h2⟩
      rcases List.mem_cons.mp ((insI_perm x r).mem_iff.mp hz) with e | e
      · rw [e]; omega
      · exact h1 z e
theorem sortI_up (l : List Int) : (sortI l).Pairwise (· ≤ ·) := by
  induction l with
  | nil => exact .nil
  | cons x l ih => exact insI_up x _ ih
theorem up_unique : ∀ {l m : List Int}, l.Perm m → l.Pairwise (· ≤ ·) → m.Pairwise (· ≤ ·) → l = m
  | [], m, p, _, _ => by rw [List.nil_perm.mp p]
  | a :: l, [], p, _, _ => absurd (p.symm) (by simp)
  | a :: l, b :: m, p, h1, h2 => by
    obtain ⟨a1, a2⟩ := List.pairwise_cons.mp h1
    obtain ⟨b1, b2⟩ := List.pairwise_cons.mp h2
    have e : a = b := by
      have m1 : b ∈ a :: l := p.mem_iff.mpr List.mem_cons_self
      have m2 : a ∈ b :: m := p.mem_iff.mp List.mem_cons_self
      rcases List.mem_cons.mp m1 with q | q
      · exact q.symm
      · rcases List.mem_cons.mp m2 with q2 | q2
        · exact q2
        · exact Int.le_antisymm (a1 b q) (b1 a q2)
    subst e
    rw [up_unique (List.Perm.cons_inv p) a2 b2]
def lSorted (ws : List W) (h : PH) : Option (List W × PH) := (intsW ws).map fun bs => ((sortI bs).map W.int, h)
theorem q_sorted : OpM K (RL K) (rSortedI K) lSorted := by
  intro f h H a ws vs Q E s hq r p
  unfold lSorted at p
  cases e : intsW ws with
  | none => rw [e] at p; exact p.elim
  | some bs =>
    rw [e] at p
    have ev := intsW_rep e r
    subst ev
    refine ⟨a, bs, rfl, hq, fun ns' q hp hu hq' => ?_⟩
    have e3 : ns' = sortI bs := up_unique (hp.trans (sortI_perm bs).symm) hu (sortI_up bs)
    subst e3
    exact post_fresh s p (reps_ints _) hq'
end
end Mir

/-! Mir: targets, statements. -/
namespace Mir
open PySem L2

/-! ### targets -/
abbrev GM := W → LS → Option LS
abbrev GMs := List W → LS → Option LS
/-- nothing but the slots ts may be otherwise -/
def But (ts : List Nat) (σ σ' : L2.St) : Prop := σ'.length = σ.length ∧ ∀ i, i ∉ ts → σ'[i]? = σ[i]?
theorem But.refl (σ : L2.St) : But [] σ σ := ⟨rfl, fun _ _ => rfl⟩
theorem But.trans {a b : List Nat} {σ σ1 σ2 : L2.St} (h : But a σ σ1) (k : But b σ1 σ2) : But (a ++ b) σ σ2 :=
  ⟨k.1.trans h.1, fun i hi => (k.2 i fun z => hi (List.mem_append_right _ z)).trans (h.2 i fun z => hi (List.mem_append_left _ z))⟩
def tTg (K : PySem.W.Frag) (ts : List Nat) (g : GM) : TG := fun v σ H Q => ∃ f h ps w ps', Sim K f h H ∧ SRep K f H ps σ ∧ Rep K f H w v ∧ g w ps = some ps' ∧ ∀ σ', SRep K f H ps' σ' → But ts σ σ' → Q σ' H
def tTgs (K : PySem.W.Frag) (ts : List Nat) (g : GMs) : TGs := fun vs σ H Q => ∃ f h ps ws ps', Sim K f h H ∧ SRep K f H ps σ ∧ Reps K f H ws vs ∧ g ws ps = some ps' ∧ ∀ σ', SRep K f H ps' σ' → But ts σ σ' → Q σ' H
abbrev SG (X : Cx) (tg : Expr) (ts : List Nat) (g : GM) : Prop := PG X tg (tTg X.K ts g)
abbrev SGs (X : Cx) (es : List Expr) (ts : List Nat) (g : GMs) : Prop := PGs X es (tTgs X.K ts g)
theorem pg_imp {X : Cx} {e : Expr} {t t' : TG} (h : PG X e t) (i : ∀ v σ H Q, t' v σ H Q → t v σ H Q) : PG X e t' := ⟨fun pins s σ H v u Q I r q => h.run pins s σ H v u Q I r (i v σ H Q q)⟩
theorem pgs_imp {X : Cx} {es : List Expr} {t t' : TGs} (h : PGs X es t) (i : ∀ v σ H Q, t' v σ H Q → t v σ H Q) : PGs X es t' := ⟨fun pins s σ H v u Q I r q => h.run pins s σ H v u Q I r (i v σ H Q q)⟩
def gN (i : Nat) : GM := fun w ps => some (ps.set i (some w))
def gNil' : GMs := fun ws ps => match ws with
  | [] => some ps
  | _ => none
def gCons' (g : GM) (r : GMs) : GMs := fun ws ps => match ws with
  | w :: ws => (g w ps).bind fun ps' => r ws ps'
  | [] => none
/-- a tuple is taken apart -/
def gT (r : GMs) : GM := fun w ps => match w with
  | .tup ws => r ws ps
  | _ => none
section
variable {X : Cx} {pos : Pos}
theorem sg_name (i : Nat) {x : Str} (hN : X.N.Nodup) (hi : X.N[i]? = some x := by rfl) (hx : Loc X.env.scope x := by first | exact .inl rfl | exact .inr rfl) (hf : X.fn x = true ∨ X.env.scope.names.lookup x = some .local := by first | exact .inl rfl | exact .inr rfl | assumption) : SG X (.Name x pos) [i] (gN i) :=
  pg_imp (pg_name (i := i) hN hi hx hf) fun v σ H Q h => by
    obtain ⟨f, h, ps, w, ps', s, sr, r, e, q⟩ := h
    cases e
    exact q _ (sr.set i r) ⟨by simp, fun j hj => List.getElem?_set_ne fun z => hj (by simp [z])⟩
theorem sgs_nil : SGs X [] [] gNil' := pgs_imp pgs_nil fun vs σ H Q h => by
  obtain ⟨f, h, ps, ws, ps', s, sr, r, e, q⟩ := h
  unfold gNil' at e
  split at e
  · cases e
    exact ⟨r.nil_inv, q _ sr (.refl σ)⟩
  · cases e
theorem sgs_cons {e : Expr} {es : List Expr} {g : GM} {r : GMs} {ts us : List Nat} (h1 : SG X e ts g) (h2 : SGs X es us r) (hs : (assignEach (e :: es) X.env).map (·.2) = assign e X.env :: (assignEach es X.env).map (·.2) := by rfl) : SGs X (e :: es) (ts ++ us) (gCons' g r) :=
  pgs_imp (pgs_cons h1 h2 hs) fun vs σ H Q h => by
    obtain ⟨f, h, ps, ws, ps', s, sr, rr, e, q⟩ := h
    unfold gCons' at e
    split at e
    · rename_i w ws
      obtain ⟨v, t, rfl, r1, r2⟩ := rr.cons_inv
      obtain ⟨ps1, e1, e2⟩ := Option.bind_eq_some_iff.mp e
      exact ⟨v, t, rfl, f, h, ps, w, ps1, s, sr, r1, e1, fun σ' sr' b' => ⟨f, h, ps1, ws, ps', s, sr', r2, e2, fun σ2 sr2 b2 => q σ2 sr2 (b'.trans b2)⟩⟩
    · cases e
/-- (a, b, ..) = a tuple -/
theorem sg_tup {es : List Expr} {k : Nat} {r : GMs} {ts : List Nat} {n : Nat} (hc : X.calm = true) (h : SGs X es ts r) (hl : ∀ ws ps ps', r ws ps = some ps' → ws.length = n)
    (hn : (assignEach es X.env).length = n := by rfl) (hst : (assignEach es X.env).findIdx? (·.1) = none := by rfl) : SG X (.Tuple es k pos) ts (gT r) := pg_imp (pg_tup hc h hn hst) fun v σ H Q h => by
  obtain ⟨f, h, ps, w, ps', s, sr, rr, e, q⟩ := h
  unfold gT at e
  split at e
  · rename_i ws
    obtain ⟨a, vs, rfl, h1, h2⟩ := rep_tup.mp rr
    exact ⟨a, vs, rfl, h1, by rw [← h2.length]; exact hl _ _ _ e, f, h, ps, ws, ps', s, sr, h2, e, q⟩
  · cases e
theorem gl_nil {ws : List W} {ps ps' : LS} (e : gNil' ws ps = some ps') : ws.length = 0 := by
  unfold gNil' at e
  split at e
  · rfl
  · cases e
theorem gl_cons {g : GM} {r : GMs} {n : Nat} (h : ∀ ws ps ps', r ws ps = some ps' → ws.length = n) {ws : List W} {ps ps' : LS} (e : gCons' g r ws ps = some ps') : ws.length = n + 1 := by
  unfold gCons' at e
  split at e
  · obtain ⟨ps1, _, e2⟩ := Option.bind_eq_some_iff.mp e
    rw [List.length_cons, h _ _ _ e2]
  · cases e
end

/-! ### statements -/
def PostS (K : PySem.W.Frag) (f : List Addr) (H : Hp) (r : SRes) (D : Ends) (W0 : WX) : Prop :=
  match r with
  | .nx ps h' => ∀ f' H' σ', Step K f H f' h' H' → SRep K f' H' ps σ' → D.nx σ' H'
  | .bk ps h' => ∀ f' H' σ', Step K f H f' h' H' → SRep K f' H' ps σ' → D.bk σ' H'
  | .ct ps h' => ∀ f' H' σ', Step K f H f' h' H' → SRep K f' H' ps σ' → D.ct σ' H'
  | .rt w h' => ∀ f' H' v, Step K f H f' h' H' → Rep K f' H' w v → D.rt v H'
  | .exc x ps h' => ∀ f' H' σ' c d, Step K f H f' h' H' → SRep K f' H' ps σ' → XRep K f' H' x c d → W0 c d σ' H'
  | .stuck => False
def tS (K : PySem.W.Frag) (W0 : WX) (m : SM) : TS := fun D σ H => ∃ f h ps, Sim K f h H ∧ SRep K f H ps σ ∧ PostS K f H (m ps h) D W0
abbrev SS (X : Cx) (W0 : WX) (st : Stmt) (m : SM) : Prop := PS X st (tS X.K W0 m)
abbrev SSs (X : Cx) (W0 : WX) (st : List Stmt) (m : SM) : Prop := PSs X st (tS X.K W0 m)
/-- from a later state -/
theorem PostS.later {K : PySem.W.Frag} {f f1 : List Addr} {h1 : PH} {H H1 : Hp} {r : SRes} {D : Ends} {W0 : WX} (s1 : Step K f H f1 h1 H1) (p : PostS K f H r D W0) : PostS K f1 H1 r D W0 := by
  cases r with
  | nx ps h' => exact fun f' H' σ' s q => p f' H' σ' (s1.trans s) q
  | bk ps h' => exact fun f' H' σ' s q => p f' H' σ' (s1.trans s) q
  | ct ps h' => exact fun f' H' σ' s q => p f' H' σ' (s1.trans s) q
  | rt ps h' => exact fun f' H' σ' s q => p f' H' σ' (s1.trans s) q
  | exc x ps h' => exact fun f' H' σ' c d s q => p f' H' σ' c d (s1.trans s) q
  | stuck => exact p
/-- a computation of a value, then a statement's -/
def Res.thenS {α : Type} (r : Res α) (ps : LS) (k : α → PH → SRes) : SRes :=
  match r with
  | .ok a h => k a h
  | .exc x h => .exc x ps h
  | .stuck => .stuck
theorem PostS.bind {γ δ : Type} {K : PySem.W.Frag} {R1 : RR γ δ} {f : List Addr} {h : PH} {H : Hp} {r : Res γ} {ps : LS} {σ : L2.St} {k : γ → PH → SRes} {D : Ends} {W0 : WX} (s : Sim K f h H) (sr : SRep K f H ps σ) (p : PostS K f H (r.thenS ps k) D W0) :
    Post K R1 f H r (fun b H1 => ∃ f1 h1 a, Step K f H f1 h1 H1 ∧ SRep K f1 H1 ps σ ∧ R1 H f1 H1 a b ∧ PostS K f1 H1 (k a h1) D W0) fun c d H' => W0 c d σ H' := by
  cases r with
  | stuck => exact p
  | exc x h' => exact fun f' H' c d s1 q => p f' H' σ c d s1 (s1.srep s sr) q
  | ok a h1 => exact fun f1 H1 b s1 q1 => ⟨f1, h1, a, s1, s1.srep s sr, q1, PostS.later s1 p⟩
def sNext : SM := fun ps h => .nx ps h
def sSeq (m n : SM) : SM := fun ps h => match m ps h with
  | .nx ps1 h1 => n ps1 h1
  | r => r
def sAsg (m : EM) (g : GM) : SM := fun ps h => (m ps h).thenS ps fun w h1 => match g w ps with
  | some ps1 => .nx ps1 h1
  | none => .stuck
def sDrop (m : EM) : SM := fun ps h => (m ps h).thenS ps fun _ h1 => .nx ps h1
def sRet (m : EM) : SM := fun ps h => (m ps h).thenS ps fun w h1 => .rt w h1
def sRetN : SM := fun _ h => .rt .non h
def sIf (t : BM) (m n : SM) : SM := fun ps h => (t ps h).thenS ps fun b h1 => if b = true then m ps h1 else n ps h1
def sBreak : SM := fun ps h => .bk ps h
def sCont : SM := fun ps h => .ct ps h
section
variable {K : PySem.W.Frag} {X : Cx} {W0 : WX} {st : Stmt} {rest : List Stmt} {M N : SM} {e tg : Expr} {m : EM} {t : BM} {g : GM} {ts : List Nat} {pos : Pos}
theorem sss_nil : SSs X W0 [] sNext := pss_imp pss_nil fun D σ H h => by
  obtain ⟨f, h, ps, s, sr, p⟩ := h
  exact p f H σ (.refl s) sr
theorem tS_seq {D : Ends} {σ : L2.St} {H : Hp} (h : tS K W0 (sSeq M N) D σ H) : tS K W0 M { D with nx := tS K W0 N D } σ H := by
  obtain ⟨f, h, ps, s, sr, p⟩ := h
  refine ⟨f, h, ps, s, sr, ?_⟩
  unfold sSeq at p
  cases e : M ps h with
  | nx ps1 h1 =>
    rw [e] at p
    exact fun f1 H1 σ1 s1 sr1 => ⟨f1, h1, ps1, s1.sim, sr1, PostS.later s1 p⟩
  | bk _ _ => rw [e] at p; exact p
  | ct _ _ => rw [e] at p; exact p
  | rt _ _ => rw [e] at p; exact p
  | exc _ _ _ => rw [e] at p; exact p
  | stuck => rw [e] at p; exact p
theorem sss_cons (h1 : SS X W0 st M) (h2 : SSs X W0 rest N) : SSs X W0 (st :: rest) (sSeq M N) := pss_imp (pss_cons h1 h2) fun D σ H h => tS_seq h
theorem sss_one (h1 : SS X W0 st M) : SSs X W0 [st] M := pss_one h1
theorem ss_pass : SS X W0 (.Pass pos) sNext := ps_imp ps_pass fun D σ H h => by
  obtain ⟨f, h, ps, s, sr, p⟩ := h
  exact p f H σ (.refl s) sr
theorem ss_break : SS X W0 (.Break pos) sBreak := ps_imp ps_break fun D σ H h => by
  obtain ⟨f, h, ps, s, sr, p⟩ := h
  exact p f H σ (.refl s) sr
theorem ss_cont : SS X W0 (.Continue pos) sCont := ps_imp ps_continue fun D σ H h => by
  obtain ⟨f, h, ps, s, sr, p⟩ := h
  exact p f H σ (.refl s) sr
theorem ss_expr (he : SE X W0 e m) (hs : swapsWith e none pos.line X.env = pure false := by rfl) : SS X W0 (.Expr e pos) (sDrop m) := ps_imp (ps_expr he hs) fun D σ H h => by
  obtain ⟨f, h, ps, s, sr, p⟩ := h
  refine ⟨f, h, ps, s, sr, (PostS.bind (R1 := RW X.K) s sr p).mono (fun v H1 hh => ?_) fun _ _ _ e => e⟩
  obtain ⟨f1, h1, a, s1, sr1, q1, p1⟩ := hh
  exact p1 f1 H1 σ (.refl s1.sim) sr1
theorem ss_ret (he : SE X W0 e m) : SS X W0 (.Return (some e) pos) (sRet m) := ps_imp (ps_ret he) fun D σ H h => by
  obtain ⟨f, h, ps, s, sr, p⟩ := h
  refine ⟨f, h, ps, s, sr, (PostS.bind (R1 := RW X.K) s sr p).mono (fun v H1 hh => ?_) fun _ _ _ e => e⟩
  obtain ⟨f1, h1, a, s1, sr1, q1, p1⟩ := hh
  exact p1 f1 H1 v (.refl s1.sim) q1
theorem ss_retN : SS X W0 (.Return none pos) sRetN := ps_imp ps_retN fun D σ H h => by
  obtain ⟨f, h, ps, s, sr, p⟩ := h
  exact p f H .non (.refl s) (rep_non.mpr rfl)
theorem ss_if {a b : List Stmt} (hc : ST X W0 e t) (ha : SSs X W0 a M) (hb : SSs X W0 b N) : SS X W0 (.If e a b pos) (sIf t M N) := ps_imp (ps_if hc ha hb) fun D σ H h => by
  obtain ⟨f, h, ps, s, sr, p⟩ := h
  refine ⟨f, h, ps, s, sr, (PostS.bind (R1 := RB) s sr p).mono (fun v H1 hh => ?_) fun _ _ _ e => e⟩
  obtain ⟨f1, h1, a, s1, sr1, q1, p1⟩ := hh
  cases q1
  by_cases hx : v = true
  · rw [if_pos hx] at p1 ⊢
    exact ⟨f1, h1, ps, s1.sim, sr1, p1⟩
  · rw [if_neg hx] at p1 ⊢
    exact ⟨f1, h1, ps, s1.sim, sr1, p1⟩
theorem tS_asg {D : Ends} {σ : L2.St} {H : Hp} (h : tS K W0 (sAsg m g) D σ H) : tAsg (tE K W0 m) (tTg K ts g) D σ H := by
  obtain ⟨f, h, ps, s, sr, p⟩ := h
  refine ⟨f, h, ps, s, sr, (PostS.bind (R1 := RW K) s sr p).mono (fun v H1 hh => ?_) fun _ _ _ e => e⟩
  obtain ⟨f1, h1, a, s1, sr1, q1, p1⟩ := hh
  cases e : g a ps with
  | none => simp only [e] at p1; exact p1.elim
  | some ps1 =>
    simp only [e] at p1
    exact ⟨f1, h1, ps, a, ps1, s1.sim, sr1, q1, e, fun σ' sr' _ => p1 f1 H1 σ' (.refl s1.sim) sr'⟩
/-- target = value, any target -/
theorem ss_asg (he : SE X W0 e m) (hg : SG X tg ts g) (hs : swapsWithSole [tg] e pos.line X.env = pure false := by rfl) (hw : swappedStores [tg] e X.env = pure none := by rfl)
    (h1 : (assignEach [tg] X.env).map (·.2) = [assign tg X.env] := by rfl) : SS X W0 (.Assign [tg] e pos) (sAsg m g) := ps_imp (ps_asg he hg hs hw h1) fun D σ H h => tS_asg h
/-- name = value -/
theorem ss_set (i : Nat) {x : Str} {pos' : Pos} (hN : X.N.Nodup) (he : SE X W0 e m) (hi : X.N[i]? = some x := by rfl) (hx : Loc X.env.scope x := by first | exact .inl rfl | exact .inr rfl) (hs : swapsWith e (some (.Name x pos')) pos.line X.env = pure false := by rfl) (hf : X.fn x = true ∨ X.env.scope.names.lookup x = some .local := by first | exact .inl rfl | exact .inr rfl | assumption) :
    SS X W0 (.Assign [.Name x pos'] e pos) (sAsg m (gN i)) := ps_imp (ps_set (i := i) hN hi hx he hs hf) fun D σ H h => by
  obtain ⟨f, h, ps, s, sr, p⟩ := h
  refine ⟨f, h, ps, s, sr, (PostS.bind (R1 := RW X.K) s sr p).mono (fun v H1 hh => ?_) fun _ _ _ e => e⟩
  obtain ⟨f1, h1, a, s1, sr1, q1, p1⟩ := hh
  exact p1 f1 H1 _ (.refl s1.sim) (sr1.set i q1)
end

/-! ### loops -/
/-- what is walked: the item at a turn (none: the end), by the heap as it stands; how many turns at most -/
structure PIt where
  get : Nat → PH → Option (Option W)
  fuel : Nat
def itS (items : List W) : PIt := ⟨fun i _ => some items[i]?, items.length + 1⟩
def itL (n fuel : Nat) : PIt := ⟨fun i h => match h[n]? with
  | some (.lst xs) => some xs[i]?
  | _ => none, fuel⟩
def itE (it : PIt) : PIt := ⟨fun i h => (it.get i h).map fun o => o.map fun w => .tup [.int (i : Nat), w], it.fuel⟩
/-- the kit's iterator is this one -/
abbrev RIt (K : PySem.W.Frag) : RR PIt It := fun _ f H it J => ∀ (f2 : List Addr) (h2 : PH) (H2 : Hp) (i : Nat), Step K f H f2 h2 H2 → match it.get i h2 with
  | none => True
  | some none => J.stop i H2
  | some (some w) => J.go i H2 ∧ ∀ x H', J.yld i H2 x H' → Step K f2 H2 f2 h2 H' ∧ Rep K f2 H' w x
theorem back_It {K : PySem.W.Frag} : Back K (RIt K) := fun _ _ _ _ _ _ _ _ _ _ _ _ q => q
abbrev IM := LS → PH → Res PIt
abbrev SI (X : Cx) (W0 : WX) (tg iter : Expr) (m : IM) : Prop := PI X tg iter (tG X.K (RIt X.K) W0 m)
theorem pi_imp {X : Cx} {tg e : Expr} {t t' : TI} (h : PI X tg e t) (i : ∀ σ H Q, t' σ H Q → t σ H Q) : PI X tg e t' := ⟨fun pins s σ H Q I q => h.run pins s σ H Q I (i σ H Q q)⟩
def forGo (it : PIt) (g : GM) (body : SM) : Nat → Nat → LS → PH → SRes
  | 0, _, _, _ => .stuck
  | k + 1, i, ps, h => match it.get i h with
    | none => .stuck
    | some none => .nx ps h
    | some (some w) => match g w ps with
      | none => .stuck
      | some ps1 => match body ps1 h with
        | .nx ps2 h2 => forGo it g body k (i + 1) ps2 h2
        | .ct ps2 h2 => forGo it g body k (i + 1) ps2 h2
        | .bk ps2 h2 => .nx ps2 h2
        | r => r
def sFor (m : IM) (g : GM) (body : SM) : SM := fun ps h => (m ps h).thenS ps fun it h1 => forGo it g body it.fuel 0 ps h1
section
variable {K : PySem.W.Frag} {X : Cx} {W0 : WX} {M N : SM} {e tg iter c : Expr} {m : IM} {t : BM} {g : GM} {ts : List Nat} {pos : Pos}
theorem tS_for {D : Ends} {σ : L2.St} {H : Hp} (h : tS K W0 (sFor m g M) D σ H) : tFor (tG K (RIt K) W0 m) (tTg K ts g) (tS K W0 M) D σ H := by
  obtain ⟨f, h, ps, s, sr, p⟩ := h
  refine ⟨f, h, ps, s, sr, (PostS.bind (R1 := RIt K) s sr p).mono (fun J H1 hh => ?_) fun _ _ _ e => e⟩
  obtain ⟨f1, h1, it, s1, sr1, q1, p1⟩ := hh
  refine ⟨fun i k σ' H' => ∃ f2 h2 ps2, Step K f1 H1 f2 h2 H' ∧ SRep K f2 H' ps2 σ' ∧ PostS K f2 H' (forGo it g M k i ps2 h2) D W0, ⟨it.fuel, f1, h1, ps, .refl s1.sim, sr1, p1⟩, ?_⟩
  rintro i k σ' H' ⟨f2, h2, ps2, s2, sr2, p2⟩
  cases k with
  | zero => exact p2.elim
  | succ k =>
    unfold forGo at p2
    have q := q1 f2 h2 H' i s2
    cases e : it.get i h2 with
    | none => rw [e] at p2; exact p2.elim
    | some o =>
      rw [e] at p2 q
      cases o with
      | none => exact .inl ⟨q, p2 f2 H' σ' (.refl s2.sim) sr2⟩
      | some w =>
        dsimp only at p2 q
        refine .inr ⟨q.1, fun σ3 H3 => ∃ f3 h3 ps3, Step K f1 H1 f3 h3 H3 ∧ SRep K f3 H3 ps3 σ3 ∧ PostS K f3 H3 (forGo it g M k (i + 1) ps3 h3) D W0, fun σ3 H3 hh => ⟨k, Nat.lt_succ_self k, hh⟩, fun x H3 y => ?_⟩
        obtain ⟨s3, r3⟩ := q.2 x H3 y
        cases eg : g w ps2 with
        | none => simp only [eg] at p2; exact p2.elim
        | some ps3 =>
          simp only [eg] at p2
          refine ⟨f2, h2, ps2, w, ps3, s3.sim, s3.srep s2.sim sr2, r3, eg, fun σ4 sr4 _ => ⟨f2, h2, ps3, s3.sim, sr4, ?_⟩⟩
          cases eb : M ps3 h2 with
          | nx ps5 h5 =>
            simp only [eb] at p2
            exact fun f5 H5 σ5 s5 sr5 => ⟨f5, h5, ps5, s2.trans (s3.trans s5), sr5, PostS.later (s3.trans s5) p2⟩
          | ct ps5 h5 =>
            simp only [eb] at p2
            exact fun f5 H5 σ5 s5 sr5 => ⟨f5, h5, ps5, s2.trans (s3.trans s5), sr5, PostS.later (s3.trans s5) p2⟩
          | bk ps5 h5 =>
            simp only [eb] at p2
            exact fun f5 H5 σ5 s5 sr5 => p2 f5 H5 σ5 (s3.trans s5) sr5
          | rt w5 h5 =>
            simp only [eb] at p2
            exact fun f5 H5 v5 s5 r5 => p2 f5 H5 v5 (s3.trans s5) r5
          | exc x5 ps5 h5 =>
            simp only [eb] at p2
            exact fun f5 H5 σ5 c5 d5 s5 r5 => p2 f5 H5 σ5 c5 d5 (s3.trans s5) r5
          | stuck =>
            simp only [eb] at p2
            exact p2.elim
theorem ss_for {body : List Stmt} (hp : PassesOwn (model X.prog X.w) X.A X.env X.xe) (hc : X.calm = true) (hi : SI X W0 tg iter m) (hg : SG X tg ts g) (hb : SSs X W0 body M)
    (hs : ∀ x, foldedSetIterable iter X.env x = pure x := by intro _; rfl) : SS X W0 (.For tg iter body [] pos) (sFor m g M) := ps_imp (ps_for hp hc hi hg hb hs) fun D σ H h => tS_for h
/-- while -/
def whGo (t : BM) (body : SM) : Nat → LS → PH → SRes
  | 0, _, _ => .stuck
  | k + 1, ps, h => (t ps h).thenS ps fun b h1 => if b = true then (match body ps h1 with
      | .nx ps2 h2 => whGo t body k ps2 h2
      | .ct ps2 h2 => whGo t body k ps2 h2
      | .bk ps2 h2 => .nx ps2 h2
      | r => r) else .nx ps h1
def sWhile (n : Nat) (t : BM) (body : SM) : SM := fun ps h => whGo t body n ps h
theorem tS_while {n : Nat} {D : Ends} {σ : L2.St} {H : Hp} (h : tS K W0 (sWhile n t M) D σ H) : tWhile (tT K W0 t) (tS K W0 M) D σ H := by
  obtain ⟨f, h, ps, s, sr, p⟩ := h
  refine ⟨fun k σ' H' => ∃ f2 h2 ps2, Step K f H f2 h2 H' ∧ SRep K f2 H' ps2 σ' ∧ PostS K f2 H' (whGo t M k ps2 h2) D W0, ⟨n, f, h, ps, .refl s, sr, p⟩, ?_⟩
  rintro k σ' H' ⟨f2, h2, ps2, s2, sr2, p2⟩
  cases k with
  | zero => exact p2.elim
  | succ k =>
    unfold whGo at p2
    refine ⟨f2, h2, ps2, s2.sim, sr2, (PostS.bind (R1 := RB) s2.sim sr2 p2).mono (fun b H3 hh => ?_) fun _ _ _ e => e⟩
    obtain ⟨f3, h3, a, s3, sr3, q3, p3⟩ := hh
    cases q3
    by_cases hx : b = true
    · rw [if_pos hx] at p3 ⊢
      refine ⟨fun σ3 H3 => ∃ f3 h3 ps3, Step K f H f3 h3 H3 ∧ SRep K f3 H3 ps3 σ3 ∧ PostS K f3 H3 (whGo t M k ps3 h3) D W0, fun σ3 H3 hh => ⟨k, Nat.lt_succ_self k, hh⟩, f3, h3, ps2, s3.sim, sr3, ?_⟩
      cases eb : M ps2 h3 with
      | nx ps5 h5 =>
        simp only [eb] at p3
        exact fun f5 H5 σ5 s5 sr5 => ⟨f5, h5, ps5, s2.trans (s3.trans s5), sr5, PostS.later s5 p3⟩
      | ct ps5 h5 =>
        simp only [eb] at p3
        exact fun f5 H5 σ5 s5 sr5 => ⟨f5, h5, ps5, s2.trans (s3.trans s5), sr5, PostS.later s5 p3⟩
      | bk ps5 h5 =>
        simp only [eb] at p3
        exact fun f5 H5 σ5 s5 sr5 => p3 f5 H5 σ5 s5 sr5
      | rt w5 h5 =>
        simp only [eb] at p3
        exact fun f5 H5 v5 s5 r5 => p3 f5 H5 v5 s5 r5
      | exc x5 ps5 h5 =>
        simp only [eb] at p3
        exact fun f5 H5 σ5 c5 d5 s5 r5 => p3 f5 H5 σ5 c5 d5 s5 r5
      | stuck =>
        simp only [eb] at p3
        exact p3.elim
    · rw [if_neg hx] at p3 ⊢
      exact p3 f3 H3 σ' (.refl s3.sim) sr3
theorem ss_while (n : Nat) {body : List Stmt} (hp : PassesOwn (model X.prog X.w) X.A X.env X.xe) (hc : ST X W0 c t) (hb : SSs X W0 body M) : SS X W0 (.While c body [] pos) (sWhile n t M) := ps_imp (ps_while hp hc hb) fun D σ H h => tS_while h
end
end Mir

/-! Mir: what loops walk. -/
namespace Mir
open PySem L2

/-! ### enumerate of a tuple -/
section
open PySem.Spec PyProof.Rows
theorem meets_enum1 {v : Value} {o : Obj} {G : Heap → Prop} (B : Begins v o G) :
    Meets (Builtin.«enumerate.__new__» ⟨[.type "enumerate", v], []⟩) (fun _ R s => G s.heap ∧
      R (.ok (.ret (.ref (s.heap.push o).objs.size))) { s with heap := (s.heap.push o).push { cls := .type "enumerate", data := .fields #[.none, .bool false, .ref s.heap.objs.size, rawInt 0, .none, .none] } }) :=
  .of_wp fun prog w A R s hh => by
    obtain ⟨hp, g, d, tk, os⟩ := s
    obtain ⟨hG, hR⟩ := hh
    have hsub := sub_enumerate
    have begin1 : ∀ {A' : Around} {E Q : Value → Shared → Prop}, Q (.ref hp.objs.size) ⟨hp.push o, g, d, tk, os⟩ → wpAny (model prog w) A' (pyIter v) Q E ⟨hp, g, d, tk, os⟩ :=
      fun q => B.iter prog w _ _ ⟨hp, g, d, tk, os⟩ _ hG q
    wp_walk using begin1
    refine wpAny_stack_any fun st => wpAny_pure ?_
    split
    · rename_i c _ _ _ _ _
      cases (c == Value.type "enumerate") <;> (wp_walk using begin1; exact ⟨_, rfl, hR⟩)
    · wp_walk using begin1
      exact ⟨_, rfl, hR⟩
theorem enum_made {prog : Program} {w : World} {A : Around} {E : Value → Shared → Prop} {s : Shared} {v : Value} {o : Obj} {G : Heap → Prop} {Q : Value → Shared → Prop} (B : Begins v o G) (hG : G s.heap)
    (hQ : ∀ h', IsEnum h' (s.heap.objs.size + 1) s.heap.objs.size 0 .none → h'.get? s.heap.objs.size = some o → (∀ b ob, s.heap.get? b = some ob → h'.get? b = some ob) → Q (.ref (s.heap.objs.size + 1)) { s with heap := h' }) :
    wpAny (model prog w) A (call (.type "enumerate") [v]) Q E s := by
  refine callType_new F.called_enumerate (by decide) (F.typeCall_enumerate_1 _) (F.newCall_enumerate_1 _) (fun obj => F.args_object_init_2 obj _) F.entry_enumerate_new (meets_enum1 B) ⟨hG, ?_⟩
  have z : (s.heap.push o).objs.size = s.heap.objs.size + 1 := Heap.size_push ..
  show _ ∧ _
  rw [z]
  have he : IsEnum ((s.heap.push o).push { cls := .type "enumerate", data := .fields #[.none, .bool false, .ref s.heap.objs.size, rawInt 0, .none, .none] }) (s.heap.objs.size + 1) s.heap.objs.size 0 .none := by
    have q := Heap.get?_push_size (s.heap.push o) (o := { cls := .type "enumerate", data := .fields #[.none, .bool false, .ref s.heap.objs.size, rawInt 0, .none, .none] }) rfl
    rw [z] at q
    exact q
  exact ⟨⟨_, he, rfl⟩, hQ _ he (Heap.get?_push_of_some _ (Heap.get?_push_size _ B.free)) fun b ob x => Heap.get?_push_of_some _ (Heap.get?_push_of_some _ x)⟩
end
def IteT (K : PySem.W.Frag) (a : Addr) : It :=
  ⟨fun i H => ∃ (xs : List V) (x : V), SqT K H a xs ∧ xs[i]? = some x, fun i H v H' => ∃ T x, v = .ref T ∧ H T = none ∧ H' = upd H T (.tup [.int (i : Nat), x]) ∧ ∀ xs, SqT K H a xs → xs[i]? = some x, fun i H => ∃ xs : List V, SqT K H a xs ∧ xs.length ≤ i⟩
section
open PySem.Spec PyProof.Rows
theorem enum_stops {prog : Program} {w : World} {A : Around} {E : Value → Shared → Prop} {s : Shared} {e it l : Addr} {i : Nat} {items : Array Value} {old : Value} {Q : Option Value → Shared → Prop} (hh : A.handled = none)
    (he : IsEnum s.heap e it i old) (hit : s.heap.IsTupleIter it l i) (hl : s.heap.IsTuple l items) (hx : items[i]? = none) (hQ : ∀ h', Heap.ExtBut it s.heap h' → Q none { s with heap := h' }) : wpAny (model prog w) A (pyNext (.ref e)) Q E s := by
  have ty : s.TypeIs (.ref e) "enumerate" := ⟨_, he, rfl⟩
  unfold pyNext
  refine wpAny_bind (wpAny_attempt ?_)
  refine wpAny_callSpecial?_slot (name := Str.ofString "__next__") ty F.slot_enumerate_next ?_
  refine wpAny_call_entry F.slot_enumerate_next ty F.entry_enumerate_next ?_ (F.args_enumerate_next_1 _)
  show wpAny _ _ (field (.ref e) 2 >>= _) _ _ _
  refine wpAny_bind (wpAny_field he rfl (x := .ref it) rfl (wpAny_bind (wpAny_nextOf_tuple_end hh hit hl hx fun h' x he' hx' => ?_)))
  obtain ⟨o, ho, hc⟩ := hx'
  exact wpAny_bind (wpAny_isInstance (T := "StopIteration") (b := true) ⟨o, ho, hc⟩ isSubtype_stop (wpAny_pure (hQ _ he')))
theorem turn_enumT {P : Program} {w : World} {K : PySem.W.Frag} {elts : List Expr} {kk : Nat} {tpos : Pos} (a e it : Addr) :
    Turn P w K (.Tuple elts kk tpos) (IteT K a) [e, it] e (fun i h => (∃ old, IsEnum h e it ((i : Nat) : Int) old) ∧ h.IsTupleIter it a i ∧ e ≠ it) := by
  have away : ∀ {h : Heap} {i : Nat} {old : Value} {its : Array Value}, IsEnum h e it (i : Int) old → h.IsTupleIter it a i → h.IsTuple a its → a ≠ it ∧ e ≠ a := by
    intro h i old its h1 h2 h3
    obtain ⟨o2, g2, c2, _⟩ := h2
    obtain ⟨o3, g3, c3, _⟩ := h3
    refine ⟨fun z => ?_, fun z => ?_⟩
    · rw [z, g2] at g3
      cases g3
      rw [c2] at c3
      simp at c3
    · rw [← z, h1] at g3
      cases g3
      simp at c3
  refine ⟨by simp, fun i h st b hb => ?_, fun i h h' st k => ?_, ?_, ?_, fun A i s Q E st q => ?_⟩
  · obtain ⟨⟨old, h1⟩, ⟨o, g, _, d⟩, _⟩ := st
    rcases List.mem_cons.mp hb with z | z
    · rw [z]
      exact ⟨_, h1, fun v q => nomatch q⟩
    · rw [List.mem_singleton.mp z]
      exact ⟨o, g, fun v q => by rw [d] at q; cases q⟩
  · obtain ⟨⟨old, h1⟩, h2, h3⟩ := st
    exact ⟨⟨old, k e (by simp) _ h1⟩, h2.at fun o q => k it (by simp) o q, h3⟩
  · intro X hP hw hK hc i pins s σ H E I hf st hg
    subst hP hw hK
    obtain ⟨⟨old, he⟩, hit, hne⟩ := st
    obtain ⟨xs, x, hq, hx⟩ := hg
    obtain ⟨its, rv, tp, hz⟩ := I.tuple hq
    obtain ⟨u, hu, ru⟩ := rv.get hx
    obtain ⟨na, nb⟩ := away he hit tp
    have D := Draws.tuple (prog := X.prog) (w := X.w) (A := X.A.in1) (I.ok.hd hc) it a na its.toArray
    have hi : i < its.toArray.size := by
      have := (List.getElem?_eq_some_iff.mp hu).1
      simpa using this
    have lt : ∀ b ∈ [e, it], b < s.heap.objs.size := fun b hb => by
      rcases List.mem_cons.mp hb with z | z
      · rw [z]
        exact Heap.lt_size he
      · rw [List.mem_singleton.mp z]
        obtain ⟨_, g, _⟩ := hit
        exact Heap.lt_size g
    refine wpAny_pyNext_enum_itemD D he ⟨hit, tp⟩ hi hne (by simp [hne, nb]) fun y h' tk hy ho st' hT hsz hk => ?_
    have ey : y = u := by
      have hy : its.toArray[i]? = some y := hy
      simp only [List.getElem?_toArray] at hy
      rw [hu] at hy
      exact (Option.some.inj hy).symm
    subst ey
    refine ⟨_, rfl, wpAny_letOwnedTupleGo_enum (s := { s with heap := h', toks := tk + 1 }) ho fun h2 he2 sb => ?_⟩
    have hT2 : h2.get? s.heap.objs.size = some { cls := .type "tuple", data := .seq #[.int i tk, y] } := (sb.2 _ (Nat.ne_of_gt (lt e (by simp)))).trans hT
    have new : ObjOk X.prog X.w (upd H s.heap.objs.size (.tup [.int (i : Nat), x])) h2 s.heap.objs.size (.tup [.int (i : Nat), x]) :=
      ⟨by show 2 ≤ sizeLine; decide, [.int i tk, y], .cons ⟨_, rfl⟩ (.cons ru .nil), ⟨_, hT2, rfl, _, rfl⟩⟩
    have I1 : Inv X pins σ (upd H s.heap.objs.size (.tup [.int (i : Nat), x])) { s with heap := h2, toks := tk + 1 } :=
      I.turnedNew (ch := [e, it]) (fun b ob hb q => (sb.2 b (fun z => hb (by simp [z]))).trans (hk b ob (fun z => hb (by simp [z])) (fun z => hb (by simp [z])) q)) hf (Nat.le_refl _) new
    refine ⟨.ref s.heap.objs.size, _, I1, rfl, ⟨_, x, rfl, I.hok.fresh (Nat.le_refl _), rfl, fun ys hy => by rw [I.tuple_inj hy hq]; exact hx⟩, ⟨⟨y, ?_⟩, st'.1.at fun o q => (sb.2 it (Ne.symm hne)).trans q, hne⟩, fun b hb => ?_⟩
    · have e1 : ((i + 1 : Nat) : Int) = (i : Int) + 1 := by omega
      rw [e1]
      exact he2
    · rw [upd_ne (Nat.ne_of_lt (lt b hb))]
      exact (hf b hb).1
  · intro X hP hw hK hc i pins s σ H E I hf st hg
    subst hP hw hK
    obtain ⟨⟨old, he⟩, hit, hne⟩ := st
    obtain ⟨xs, hq, hx⟩ := hg
    obtain ⟨its, rv, tp, hz⟩ := I.tuple hq
    obtain ⟨na, nb⟩ := away he hit tp
    obtain ⟨f0, f1, f2, f3, f4, f5⟩ := hf it (by simp)
    have hl := rv.length
    refine enum_stops (I.ok.hd hc) he hit tp (by simp; omega) fun h' eb => ⟨rfl, I.turned (t' := s.toks) (fun b o hb q => eb b o hb q) f0 f1 f3 f4 f5⟩
  · obtain ⟨⟨_, he⟩, _⟩ := st
    exact wpAny_pyIter_enum he q
end
end Mir

/-! Mir: what loops walk, by the own heap. -/
namespace Mir
open PySem L2

/-- a key as a value -/
def wKey : Key → W
  | .inl i => .int i
  | .inr x => .str x
def iterOf (fuel : Nat) (x : W) (h : PH) : Option PIt :=
  match x with
  | .tup xs => some (itS xs)
  | .fix xs => some (itS xs)
  | .str z => some (itS (z.cps.toList.map fun c => .str ⟨#[c]⟩))
  | .ref n => match h[n]? with
    | some (.lst _) => some (itL n fuel)
    | some (.lk kvs) => some (itS (kvs.map fun p => wKey p.1))
    | _ => none
  | _ => none
def mIter (fuel : Nat) (m : EM) : IM := fun ps h => (m ps h).bind fun x h1 => match iterOf fuel x h1 with
  | some it => .ok it h1
  | none => .stuck
def mIterS (l : LM) : IM := fun ps h => (l ps h).bind fun xs h1 => .ok (itS xs) h1
def iterE (fuel : Nat) (x : W) (h : PH) : Option PIt :=
  match x with
  | .tup xs => some (itE (itS xs))
  | .fix xs => some (itE (itS xs))
  | .ref n => match h[n]? with
    | some (.lst _) => some (itE (itL n fuel))
    | _ => none
  | _ => none
def mEnum (fuel : Nat) (m : EM) : IM := fun ps h => (m ps h).bind fun x h1 => match iterE fuel x h1 with
  | some it => .ok it h1
  | none => .stuck
def mEnumS (l : LM) : IM := fun ps h => (l ps h).bind fun xs h1 => .ok (itE (itS xs)) h1
def itZ (a b : PIt) : PIt := ⟨fun i h => match a.get i h, b.get i h with
  | some (some x), some (some y) => some (some (.tup [x, y]))
  | some none, some _ => some none
  | some (some _), some none => some none
  | _, _ => none, a.fuel⟩
def iterZ (fuel : Nat) (x y : W) (h : PH) : Option PIt :=
  match x, y with
  | .tup xs, .tup ys => some (itZ (itS xs) (itS ys))
  | .tup _, _ => none
  | _, .tup _ => none
  | .str _, _ => none
  | _, .str _ => none
  | x, y => match iterOf fuel x h, iterOf fuel y h with
    | some a, some b => some (itZ a b)
    | _, _ => none
def mZip (fuel : Nat) (m n : EM) : IM := fun ps h => (m ps h).bind fun x h1 => (n ps h1).bind fun y h2 => match iterZ fuel x y h2 with
  | some it => .ok it h2
  | none => .stuck
def rangeW (lo : Int) (n : Nat) : List W := (List.range n).map fun i => .int (lo + (i : Nat))
def mRange1 (m : EM) : IM := fun ps h => (m ps h).bind fun x h1 => match x with
  | .int j => if -(2 ^ 62) ≤ j ∧ j < 2 ^ 62 then .ok (itS (rangeW 0 j.toNat)) h1 else .stuck
  | _ => .stuck
def mRange2 (m n : EM) : IM := fun ps h => (m ps h).bind fun x h1 => (n ps h1).bind fun y h2 => match x, y with
  | .int i, .int j => if -(2 ^ 62) ≤ i ∧ i < 2 ^ 62 ∧ -(2 ^ 62) ≤ j ∧ j < 2 ^ 62 then .ok (itS (rangeW i (j - i).toNat)) h2 else .stuck
  | _, _ => .stuck

theorem PI.or {X : Cx} {tg e : Expr} {t t' : TI} (h : PI X tg e t) (h' : PI X tg e t') : PI X tg e (fun σ H R => t σ H R ∨ t' σ H R) := ⟨fun pins s σ H R I q => by
  rcases q with q | q
  · exact h.run pins s σ H R I q
  · exact h'.run pins s σ H R I q⟩
theorem PE.or {X : Cx} {e : Expr} {t t' : TE} (h : PE X e t) (h' : PE X e t') : PE X e (fun σ H R => t σ H R ∨ t' σ H R) := ⟨fun pins s σ H R I q => by
  rcases q with q | q
  · exact h.run pins s σ H R I q
  · exact h'.run pins s σ H R I q⟩

section
variable {K : PySem.W.Frag} {X : Cx} {W0 : WX} {e e2 tg iter c : Expr} {m m2 : EM} {l : LM} {pos p : Pos}
/-- later, what a tree is stands -/
theorem seqT_later {f f2 : List Addr} {h h2 : PH} {H H2 : Hp} (s : Sim K f h H) (s2 : Step K f H f2 h2 H2) {a : Addr} {vs : List V} (q : SqT K H a vs) : SqT K H2 a vs := (s.stay s2.grow).t a vs q
theorem it_tup {f : List Addr} {h : PH} {H H0 : Hp} {a : Addr} {vs : List V} {xs : List W} (s : Sim K f h H) (q : SqT K H a vs) (r : Reps K f H xs vs) : RIt K H0 f H (itS xs) (Itt K a) := by
  intro f2 h2 H2 i s2
  have q2 := seqT_later s s2 q
  have r2 := s2.reps s r
  show match (some xs[i]? : Option (Option W)) with
    | none => True
    | some none => (Itt K a).stop i H2
    | some (some w) => (Itt K a).go i H2 ∧ ∀ x H', (Itt K a).yld i H2 x H' → Step K f2 H2 f2 h2 H' ∧ Rep K f2 H' w x
  cases e : xs[i]? with
  | none => exact ⟨vs, q2, by rw [← r2.length]; exact List.getElem?_eq_none_iff.mp e⟩
  | some w =>
    obtain ⟨v, h3, h4⟩ := r2.get e
    refine ⟨⟨vs, v, q2, h3⟩, fun x H' y => ?_⟩
    obtain ⟨rfl, y2⟩ := y
    have e2 := y2 vs q2
    rw [h3] at e2
    cases e2
    exact ⟨.refl s2.sim, h4⟩
/-- a list that stays -/
theorem it_lst {f : List Addr} {h : PH} {H H0 : Hp} {a : Addr} {vs : List V} {xs : List W} (s : Sim K f h H) (q : ∀ f2 h2 H2, Step K f H f2 h2 H2 → SqL K H2 a vs) (r : Reps K f H xs vs) : RIt K H0 f H (itS xs) (Itl K a) := by
  intro f2 h2 H2 i s2
  have q2 := q f2 h2 H2 s2
  have r2 := s2.reps s r
  show match (some xs[i]? : Option (Option W)) with
    | none => True
    | some none => (Itl K a).stop i H2
    | some (some w) => (Itl K a).go i H2 ∧ ∀ x H', (Itl K a).yld i H2 x H' → Step K f2 H2 f2 h2 H' ∧ Rep K f2 H' w x
  cases e : xs[i]? with
  | none => exact ⟨vs, q2, by rw [← r2.length]; exact List.getElem?_eq_none_iff.mp e⟩
  | some w =>
    obtain ⟨v, h3, h4⟩ := r2.get e
    refine ⟨⟨vs, v, q2, h3⟩, fun x H' y => ?_⟩
    obtain ⟨rfl, y2⟩ := y
    have e2 := y2 vs q2
    rw [h3] at e2
    cases e2
    exact ⟨.refl s2.sim, h4⟩
theorem fix_later {f : List Addr} {h : PH} {H : Hp} {a : Addr} {vs : List V} (s : Sim K f h H) (q : FixL K H a vs) : ∀ f2 h2 H2, Step K f H f2 h2 H2 → SqL K H2 a vs := fun f2 h2 H2 s2 => ((s.stay s2.grow).l a vs q).seq
theorem own_later {f : List Addr} {H : Hp} {a : Addr} {vs : List V} (na : a ∉ f) (q : H a = some (.lst vs)) : ∀ f2 h2 H2, Step K f H f2 h2 H2 → SqL K H2 a vs := fun f2 h2 H2 s2 => SqL.of (s2.grow a _ q na)
/-- a list that may change -/
theorem it_live {f : List Addr} {H H0 : Hp} {a : Addr} {n fuel : Nat} (hf : f[n]? = some a) : RIt K H0 f H (itL n fuel) (Itl K a) := by
  intro f2 h2 H2 i s2
  have hf2 := s2.ext.get hf
  show match (match h2[n]? with
      | some (.lst xs) => some xs[i]?
      | _ => none : Option (Option W)) with
    | none => True
    | some none => (Itl K a).stop i H2
    | some (some w) => (Itl K a).go i H2 ∧ ∀ x H', (Itl K a).yld i H2 x H' → Step K f2 H2 f2 h2 H' ∧ Rep K f2 H' w x
  cases e1 : h2[n]? with
  | none => trivial
  | some o =>
    cases o with
    | lst xs =>
      obtain ⟨b, hb, vs, h1, r⟩ := s2.sim.obj n _ e1
      rw [hf2] at hb
      cases hb
      dsimp only
      cases e : xs[i]? with
      | none => exact ⟨vs, SqL.of h1, by rw [← r.length]; exact List.getElem?_eq_none_iff.mp e⟩
      | some w =>
        obtain ⟨v, h3, h4⟩ := r.get e
        refine ⟨⟨vs, v, SqL.of h1, h3⟩, fun x H' y => ?_⟩
        obtain ⟨rfl, y2⟩ := y
        have e2 := y2 vs (SqL.of h1)
        rw [h3] at e2
        cases e2
        exact ⟨.refl s2.sim, h4⟩
    | dK _ => trivial
    | ins _ _ => trivial
    | lk _ => trivial
theorem it_str {f : List Addr} {h : PH} {H H0 : Hp} {z : Str} (s : Sim K f h H) : RIt K H0 f H (itS (z.cps.toList.map fun c => .str ⟨#[c]⟩)) (Its z) := by
  intro f2 h2 H2 i s2
  show match (some (z.cps.toList.map fun c => W.str ⟨#[c]⟩)[i]? : Option (Option W)) with
    | none => True
    | some none => (Its z).stop i H2
    | some (some w) => (Its z).go i H2 ∧ ∀ x H', (Its z).yld i H2 x H' → Step K f2 H2 f2 h2 H' ∧ Rep K f2 H' w x
  rw [List.getElem?_map]
  cases e : z.cps.toList[i]? with
  | none =>
    have q := List.getElem?_eq_none_iff.mp e
    exact (by simpa using q : z.cps.size ≤ i)
  | some c =>
    have hi : i < z.cps.size := by
      have := (List.getElem?_eq_some_iff.mp e).1
      simpa using this
    refine ⟨hi, fun x H' y => ?_⟩
    obtain ⟨rfl, d, hd, rfl⟩ := y
    have e3 : z.cps[i]? = some c := by rw [← Array.getElem?_toList]; exact e
    rw [e3] at hd
    cases hd
    exact ⟨.refl s2.sim, rep_str.mpr rfl⟩
theorem rep_key {f : List Addr} {H : Hp} {k : Key} : Rep K f H (wKey k) (kV k) := by
  cases k <;> simp only [wKey, kV, Rep]
theorem KRep.getK {f : List Addr} {H : Hp} : ∀ {ws : List (Key × W)} {vs : List (Key × V)} {i : Nat} {k : Key} {w : W}, KRep K f H ws vs → ws[i]? = some (k, w) → ∃ v, vs[i]? = some (k, v) ∧ Rep K f H w v
  | [], vs, i, k, w, r, e => by simp at e
  | (k0, w0) :: t, vs, i, k, w, r, e => by
    obtain ⟨v, s, rfl, r1, r2⟩ := r
    cases i with
    | zero =>
      simp only [List.getElem?_cons_zero, Option.some.injEq, Prod.mk.injEq] at e
      obtain ⟨rfl, rfl⟩ := e
      exact ⟨v, rfl, r1⟩
    | succ i => exact KRep.getK (i := i) r2 (by simpa using e)
theorem it_keys {f : List Addr} {h : PH} {H H0 : Hp} {d : Addr} {o : Obj} {us : List (Key × V)} {kvs : List (Key × W)} (s : Sim K f h H) (hd : H d = some (.frz o (.dK us))) (r : KRep K f H kvs us) : RIt K H0 f H (itS (kvs.map fun p => wKey p.1)) (Itk d o us) := by
  intro f2 h2 H2 i s2
  have q2 := s2.lk _ _ _ hd
  show match (some (kvs.map fun p => wKey p.1)[i]? : Option (Option W)) with
    | none => True
    | some none => (Itk d o us).stop i H2
    | some (some w) => (Itk d o us).go i H2 ∧ ∀ x H', (Itk d o us).yld i H2 x H' → Step K f2 H2 f2 h2 H' ∧ Rep K f2 H' w x
  rw [List.getElem?_map]
  cases e : kvs[i]? with
  | none => exact ⟨q2, by rw [← r.length]; exact List.getElem?_eq_none_iff.mp e⟩
  | some w =>
    obtain ⟨k, w⟩ := w
    refine ⟨⟨q2, by rw [← r.length]; exact (List.getElem?_eq_some_iff.mp e).1⟩, fun x H' y => ?_⟩
    obtain ⟨rfl, k', v', e', rfl⟩ := y
    obtain ⟨v, ev, _⟩ := r.getK e
    rw [ev] at e'
    cases e'
    exact ⟨.refl s2.sim, rep_key⟩
/-- for x in e: a tuple, a list, a text, a dict that is locked -/
theorem si_iter (fuel : Nat) (ha : SE X W0 e m) : SI X W0 tg e (mIter fuel m) := pi_imp (PI.or (pi_tup ha) (PI.or (pi_list ha) (PI.or (pi_str ha) (pi_keys ha)))) fun σ H R h => by
  obtain ⟨f, h, ps, s, sr, p⟩ := h
  have p : Post X.K (RIt X.K) f H ((m ps h).bind _) R _ := p
  cases e1 : m ps h with
  | stuck => rw [e1] at p; exact p.elim
  | exc x h1 => rw [e1] at p; exact .inl ⟨f, h, ps, s, sr, by rw [e1]; exact p⟩
  | ok x h1 =>
    rw [e1] at p
    have p : Post X.K (RIt X.K) f H (match iterOf fuel x h1 with
      | some it => .ok it h1
      | none => .stuck) R _ := p
    cases x with
    | tup xs =>
      refine .inl ⟨f, h, ps, s, sr, ?_⟩
      rw [e1]
      intro f1 H1 v s1 q1
      obtain ⟨a, vs, rfl, h2, h3⟩ := rep_tup.mp q1
      exact ⟨a, rfl, ⟨vs, h2⟩, p f1 H1 _ s1 (it_tup s1.sim h2 h3)⟩
    | fix xs =>
      refine .inr (.inl ⟨f, h, ps, s, sr, ?_⟩)
      rw [e1]
      intro f1 H1 v s1 q1
      obtain ⟨a, vs, rfl, h2, h3⟩ := rep_fix.mp q1
      exact ⟨a, rfl, ⟨vs, h2.seq⟩, p f1 H1 _ s1 (it_lst s1.sim (fix_later s1.sim h2) h3)⟩
    | str z =>
      refine .inr (.inr (.inl ⟨f, h, ps, s, sr, ?_⟩))
      rw [e1]
      intro f1 H1 v s1 q1
      exact ⟨z, rep_str.mp q1, p f1 H1 _ s1 (it_str s1.sim)⟩
    | ref n =>
      have p : Post X.K (RIt X.K) f H (match (match h1[n]? with
        | some (.lst _) => some (itL n fuel)
        | some (.lk kvs) => some (itS (kvs.map fun p => wKey p.1))
        | _ => none : Option PIt) with
        | some it => .ok it h1
        | none => .stuck) R _ := p
      cases e2 : h1[n]? with
      | none => rw [e2] at p; exact p.elim
      | some o =>
        rw [e2] at p
        cases o with
        | lst xs =>
          refine .inr (.inl ⟨f, h, ps, s, sr, ?_⟩)
          rw [e1]
          intro f1 H1 v s1 q1
          obtain ⟨a, rfl, hf, vs, h2, h3⟩ := s1.sim.at e2 q1
          exact ⟨a, rfl, ⟨vs, SqL.of h2⟩, p f1 H1 _ s1 (it_live hf)⟩
        | dK _ => exact p.elim
        | ins _ _ => exact p.elim
        | lk kvs =>
          refine .inr (.inr (.inr ⟨f, h, ps, s, sr, ?_⟩))
          rw [e1]
          intro f1 H1 v s1 q1
          obtain ⟨a, rfl, hf, o, vs, h2, h3⟩ := s1.sim.at e2 q1
          exact ⟨a, o, rfl, .inl ⟨vs, h2, p f1 H1 _ s1 (it_keys s1.sim h2 h3)⟩⟩
    | non => exact p.elim
    | exc _ => exact p.elim
    | bl _ => exact p.elim
    | int _ => exact p.elim
theorem si_fresh (ha : SL X W0 e l) : SI X W0 tg e (mIterS l) := pi_imp (pi_list ha) fun σ H R h => by
  obtain ⟨f, h, ps, s, sr, p⟩ := h
  refine ⟨f, h, ps, s, sr, ?_⟩
  have p : Post X.K (RIt X.K) f H ((l ps h).bind _) R _ := p
  cases e1 : l ps h with
  | stuck => rw [e1] at p; exact p.elim
  | exc x h1 => rw [e1] at p; exact p
  | ok xs h1 =>
    rw [e1] at p
    intro f1 H1 v s1 q1
    obtain ⟨q, vs, rfl, hq, nq, eq, rq⟩ := q1
    exact ⟨q, rfl, ⟨vs, SqL.of eq⟩, p f1 H1 _ s1 (it_lst s1.sim (own_later nq eq) rq)⟩

/-! ### range -/
theorem it_rng {f : List Addr} {h : PH} {H H0 : Hp} {lo : Int} {n : Nat} (s : Sim K f h H) : RIt K H0 f H (itS (rangeW lo n)) (Itr lo n) := by
  intro f2 h2 H2 i s2
  show match (some (rangeW lo n)[i]? : Option (Option W)) with
    | none => True
    | some none => (Itr lo n).stop i H2
    | some (some w) => (Itr lo n).go i H2 ∧ ∀ x H', (Itr lo n).yld i H2 x H' → Step K f2 H2 f2 h2 H' ∧ Rep K f2 H' w x
  unfold rangeW
  rw [List.getElem?_map]
  by_cases hi : i < n
  · rw [List.getElem?_range hi]
    refine ⟨hi, fun x H' y => ?_⟩
    obtain ⟨rfl, rfl⟩ := y
    exact ⟨.refl s2.sim, rep_int.mpr rfl⟩
  · rw [List.getElem?_eq_none (by rw [List.length_range]; omega)]
    exact Nat.le_of_not_lt hi
theorem si_range1 (hm : X.mg "range" = none) (ha : SE X W0 e m) (hg : Gl X "range" := by rfl) (hs : starEach [e] X.env = [(false, eval e X.env)] := by rfl) : SI X W0 tg (.Call (.Name "range" p) [e] [] pos) (mRange1 m) :=
  pi_imp (pi_range1 hg hm (pa_cons ha pa_nil hs) hs) fun σ H R h => by
    obtain ⟨f, h, ps, s, sr, p⟩ := h
    refine ⟨f, h, ps, s, sr, (Post.bind (R1 := RW X.K) s back_It p).mono (fun v H1 hh => ?_) fun _ _ _ e => e⟩
    obtain ⟨f1, h1, x, s1, q1, p1⟩ := hh
    cases x with
    | int j =>
      dsimp only at p1
      split at p1
      · rename_i c
        exact ⟨j, by rw [rep_int.mp q1], c.1, c.2, p1 f1 H1 _ (.refl s1.sim) (it_rng s1.sim)⟩
      · exact p1.elim
    | _ => exact p1.elim
theorem si_range2 (hm : X.mg "range" = none) (ha : SE X W0 e m) (hb : SE X W0 e2 m2) (hg : Gl X "range" := by rfl) (hs : starEach [e, e2] X.env = [(false, eval e X.env), (false, eval e2 X.env)] := by rfl) (hs2 : starEach [e2] X.env = [(false, eval e2 X.env)] := by rfl) :
    SI X W0 tg (.Call (.Name "range" p) [e, e2] [] pos) (mRange2 m m2) :=
  pi_imp (pi_range2 hg hm (pa_cons ha (pa_cons hb pa_nil hs2) (by rw [hs, hs2])) hs hs2) fun σ H R h => by
    obtain ⟨f, h, ps, s, sr, p⟩ := h
    refine ⟨f, h, ps, s, sr, (Post.bind (R1 := RW X.K) s back_It p).mono (fun v H1 hh => ?_) fun _ _ _ e => e⟩
    obtain ⟨f1, h1, x, s1, q1, p1⟩ := hh
    refine ⟨f1, h1, ps, s1.sim, s1.srep s sr, (Post.bind (R1 := RW X.K) s1.sim back_It p1).mono (fun u H2 hh => ?_) fun _ _ _ e => e⟩
    obtain ⟨f2, h2, y, s2, q2, p2⟩ := hh
    cases x with
    | int i =>
      cases y with
      | int j =>
        dsimp only at p2
        split at p2
        · rename_i c
          have e1 := rep_int.mp (s2.rep s1.sim q1)
          exact ⟨i, j, by rw [e1, rep_int.mp q2], ⟨c.1, c.2.1, c.2.2.1, c.2.2.2⟩, p2 f2 H2 _ (.refl s2.sim) (it_rng s2.sim)⟩
        · exact p2.elim
      | _ => exact p2.elim
    | _ => cases y <;> exact p2.elim

/-! ### enumerate -/
theorem itE_of {f : List Addr} {h : PH} {H H0 : Hp} {it : PIt} {J J' : It} (r : RIt K H0 f H it J) (hstop : ∀ i H, J.stop i H → J'.stop i H) (hgo : ∀ i H, J.go i H → J'.go i H)
    (hy : ∀ i H v H', J'.yld i H v H' → ∃ T x, v = .ref T ∧ H T = none ∧ H' = upd H T (.tup [.int (i : Nat), x]) ∧ J.yld i H x H) : RIt K H0 f H (itE it) J' := by
  intro f2 h2 H2 i s2
  have q := r f2 h2 H2 i s2
  show match ((it.get i h2).map fun o => o.map fun w => W.tup [.int (i : Nat), w] : Option (Option W)) with
    | none => True
    | some none => J'.stop i H2
    | some (some w) => J'.go i H2 ∧ ∀ x H', J'.yld i H2 x H' → Step K f2 H2 f2 h2 H' ∧ Rep K f2 H' w x
  cases e : it.get i h2 with
  | none => trivial
  | some o =>
    rw [e] at q
    cases o with
    | none => exact hstop _ _ q
    | some w =>
      refine ⟨hgo _ _ q.1, fun v H' y => ?_⟩
      obtain ⟨T, x, rfl, hT, rfl, y2⟩ := hy i H2 v H' y
      obtain ⟨_, rx⟩ := q.2 x H2 y2
      have st := s2.sim.other (o := .tup [.int (i : Nat), x]) hT
      refine ⟨st, rep_tup.mpr ⟨T, _, rfl, SqT.of upd_same, ?_⟩⟩
      exact .cons (rep_int.mpr rfl) (.one (st.rep s2.sim rx))
theorem itE_l {f : List Addr} {h : PH} {H H0 : Hp} {it : PIt} {a : Addr} (r : RIt K H0 f H it (Itl K a)) : RIt K H0 f H (itE it) (Ite K a) :=
  itE_of (h := h) r (fun _ _ q => q) (fun _ _ q => q) fun i H v H' ⟨T, x, h1, h2, h3, h4⟩ => ⟨T, x, h1, h2, h3, rfl, h4⟩
theorem itE_t {f : List Addr} {h : PH} {H H0 : Hp} {it : PIt} {a : Addr} (r : RIt K H0 f H it (Itt K a)) : RIt K H0 f H (itE it) (IteT K a) :=
  itE_of (h := h) r (fun _ _ q => q) (fun _ _ q => q) fun i H v H' ⟨T, x, h1, h2, h3, h4⟩ => ⟨T, x, h1, h2, h3, rfl, h4⟩
def iEnumT (K : PySem.W.Frag) (ta : TA) : TI := fun σ H R => ta σ H fun vs H1 => ∃ a xs, vs = [.ref a] ∧ SqT K H1 a xs ∧ R (IteT K a) H1
theorem pi_enumT {ta : TA} {tpos : Pos} {elts : List Expr} {kk : Nat} (hg : Gl X "enumerate") (hm : X.mg "enumerate" = none) (ha : PA X [e] ta) (hs : starEach [e] X.env = [(false, eval e X.env)] := by rfl) :
    PI X (.Tuple elts kk tpos) (.Call (.Name "enumerate" p) [e] [] pos) (iEnumT X.K ta) := by
  refine ⟨fun pins s σ H R I h => ?_⟩
  refine PyProof.Rows.Call_ (ld_blt I hg hm PyProof.Rows.boot_enumerate (PyProof.Rows.callWith_type1 (thn (ha.run pos pins s σ H _ I h) fun us s1 ⟨vs, H1, I1, r1, q1⟩ => ?_) hs rfl))
  obtain ⟨a, xs, ex, hq, q⟩ := q1
  subst ex
  obtain ⟨u, rfl, ru⟩ := vals1 r1
  cases ru
  obtain ⟨its, rv, tp, hz⟩ := I1.tuple hq
  refine enum_made (begins_tuple a its.toArray) tp fun h' he hit hk => PySem.wpAny_pyIter_enum he ?_
  have I2 : Inv X pins σ H1 { s1 with heap := h' } := I1.kept (t' := s1.toks) hk
  refine ⟨s1.heap.objs.size + 1, [s1.heap.objs.size + 1, s1.heap.objs.size], _, _, H1, rfl, I2, turn_enumT a (s1.heap.objs.size + 1) s1.heap.objs.size, ⟨⟨.none, he⟩, ⟨_, hit, rfl, rfl⟩, Nat.succ_ne_self _⟩, fun b hb => ?_, q⟩
  have hle : s1.heap.objs.size ≤ b := by
    rcases List.mem_cons.mp hb with z | z
    · rw [z]; exact Nat.le_succ _
    · rw [List.mem_singleton.mp z]; exact Nat.le_refl _
  have old := I1.fpOk hle (I1.hok.fresh hle)
  exact old
theorem si_enum (fuel : Nat) {tpos : Pos} {elts : List Expr} {kk : Nat} (hm : X.mg "enumerate" = none) (ha : SE X W0 e m) (hg : Gl X "enumerate" := by rfl) (hs : starEach [e] X.env = [(false, eval e X.env)] := by rfl) :
    SI X W0 (.Tuple elts kk tpos) (.Call (.Name "enumerate" p) [e] [] pos) (mEnum fuel m) := pi_imp (PI.or (pi_enumT hg hm (pa_cons ha pa_nil hs) hs) (pi_enum hg hm (pa_cons ha pa_nil hs) hs)) fun σ H R h => by
  obtain ⟨f, h, ps, s, sr, p⟩ := h
  have p : Post X.K (RIt X.K) f H ((m ps h).bind _) R _ := p
  cases e1 : m ps h with
  | stuck => rw [e1] at p; exact p.elim
  | exc x h1 => rw [e1] at p; exact .inl ⟨f, h, ps, s, sr, by rw [e1]; exact p⟩
  | ok x h1 =>
    rw [e1] at p
    have p : Post X.K (RIt X.K) f H (match iterE fuel x h1 with
      | some it => .ok it h1
      | none => .stuck) R _ := p
    cases x with
    | tup xs =>
      refine .inl ⟨f, h, ps, s, sr, ?_⟩
      rw [e1]
      intro f1 H1 v s1 q1
      obtain ⟨a, vs, rfl, h2, h3⟩ := rep_tup.mp q1
      exact ⟨a, vs, rfl, h2, p f1 H1 _ s1 (itE_t (h := h1) (it_tup s1.sim h2 h3))⟩
    | fix xs =>
      refine .inr ⟨f, h, ps, s, sr, ?_⟩
      rw [e1]
      intro f1 H1 v s1 q1
      obtain ⟨a, vs, rfl, h2, h3⟩ := rep_fix.mp q1
      exact ⟨a, vs, rfl, h2.seq, p f1 H1 _ s1 (itE_l (h := h1) (it_lst s1.sim (fix_later s1.sim h2) h3))⟩
    | ref n =>
      refine .inr ⟨f, h, ps, s, sr, ?_⟩
      rw [e1]
      intro f1 H1 v s1 q1
      have p : Post X.K (RIt X.K) f H (match (match h1[n]? with
        | some (.lst _) => some (itE (itL n fuel))
        | _ => none : Option PIt) with
        | some it => .ok it h1
        | none => .stuck) R _ := p
      cases e2 : h1[n]? with
      | none => rw [e2] at p; exact p.elim
      | some o =>
        rw [e2] at p
        cases o with
        | lst xs =>
          obtain ⟨a, rfl, hf, vs, h2, h3⟩ := s1.sim.at e2 q1
          exact ⟨a, vs, rfl, SqL.of h2, p f1 H1 _ s1 (itE_l (h := h1) (it_live hf))⟩
        | dK _ => exact p.elim
        | ins _ _ => exact p.elim
        | lk _ => exact p.elim
    | non => exact p.elim
    | exc _ => exact p.elim
    | bl _ => exact p.elim
    | int _ => exact p.elim
    | str _ => exact p.elim
theorem si_enumS {tpos : Pos} {elts : List Expr} {kk : Nat} (hm : X.mg "enumerate" = none) (ha : SL X W0 e l) (hg : Gl X "enumerate" := by rfl) (hs : starEach [e] X.env = [(false, eval e X.env)] := by rfl) :
    SI X W0 (.Tuple elts kk tpos) (.Call (.Name "enumerate" p) [e] [] pos) (mEnumS l) := pi_imp (pi_enum hg hm (pa_cons ha pa_nil hs) hs) fun σ H R h => by
  obtain ⟨f, h, ps, s, sr, p⟩ := h
  refine ⟨f, h, ps, s, sr, ?_⟩
  have p : Post X.K (RIt X.K) f H ((l ps h).bind _) R _ := p
  cases e1 : l ps h with
  | stuck => rw [e1] at p; exact p.elim
  | exc x h1 => rw [e1] at p; exact p
  | ok xs h1 =>
    rw [e1] at p
    intro f1 H1 v s1 q1
    obtain ⟨q, vs, rfl, hq, nq, eq, rq⟩ := q1
    exact ⟨q, vs, rfl, SqL.of eq, p f1 H1 _ s1 (itE_l (h := h1) (it_lst s1.sim (own_later nq eq) rq))⟩
end
end Mir

/-! Mir: list comprehensions. -/
namespace Mir
open PySem L2

def wipeW (ps : LS) : List Nat → LS
  | [] => ps
  | v :: vs => (wipeW ps vs).set v none
theorem SRep.wipe {K : PySem.W.Frag} {f : List Addr} {H : Hp} {ps : LS} {σ : L2.St} (r : SRep K f H ps σ) : ∀ vs : List Nat, SRep K f H (wipeW ps vs) (L2.wipe σ vs)
  | [] => r
  | v :: vs => (SRep.wipe r vs).unset v
theorem wipe_get (σ : L2.St) (i : Nat) : ∀ vs : List Nat, (L2.wipe σ vs)[i]? = if i ∈ vs then (if i < σ.length then some none else none) else σ[i]?
  | [] => by simp [L2.wipe]
  | v :: vs => by
    unfold L2.wipe
    by_cases h : v = i
    · subst h
      by_cases hl : v < σ.length
      · rw [List.getElem?_set_self (by rw [wipe_length]; exact hl)]; simp [hl]
      · rw [List.getElem?_eq_none (by rw [List.length_set, wipe_length]; omega)]; simp [hl]
    · rw [List.getElem?_set_ne h, wipe_get σ i vs]
      have : (i ∈ v :: vs) = (i ∈ vs) := by simp [Ne.symm h]
      simp only [this]
theorem But.wipe {ts vs : List Nat} {σ σ' : L2.St} (b : But ts (L2.wipe σ vs) σ') (hs : ∀ i ∈ ts, i ∈ vs) : L2.wipe σ' vs = L2.wipe σ vs := by
  have hl : σ'.length = σ.length := by rw [b.1, wipe_length]
  refine List.ext_getElem? fun i => ?_
  rw [wipe_get, wipe_get, hl]
  by_cases h : i ∈ vs
  · rw [if_pos h, if_pos h]
  · rw [if_neg h, if_neg h, b.2 i fun z => h (hs i z), wipe_get, if_neg h]

/-- one's own list is written -/
theorem stay_lst {K : PySem.W.Frag} {H : Hp} {D : Addr} {vs us : List V} (e : H D = some (.lst vs)) : Stay K H (upd H D (.lst us)) := by
  have key : ∀ a u, H a = some u → (∀ xs, u ≠ .lst xs) → upd H D (.lst us) a = some u := fun a u e2 n => by
    rw [upd_ne (fun z => by subst z; rw [e] at e2; cases e2; exact n _ rfl)]
    exact e2
  refine ⟨fun a xs r => ?_, fun a xs r => ?_, fun a φ r => key _ _ r (fun _ z => by cases z), fun a gs r => key _ _ r (fun _ z => by cases z)⟩
  · rcases r with (r | ⟨o, r⟩) | r
    · exact .inl (.inl (key _ _ r (fun _ z => by cases z)))
    · exact .inl (.inr ⟨o, key _ _ r (fun _ z => by cases z)⟩)
    · exact .inr r
  · rcases r with ⟨o, r⟩ | r
    · exact .inl ⟨o, key _ _ r (fun _ z => by cases z)⟩
    · exact .inr r
theorem Sim.own_set {K : PySem.W.Frag} {f : List Addr} {h : PH} {H : Hp} (s : Sim K f h H) {D : Addr} {vs us : List V} (nd : D ∉ f) (e : H D = some (.lst vs)) : Sim K f h (upd H D (.lst us)) :=
  ⟨s.len, s.nd, fun n o q => by
    obtain ⟨a, h1, h2⟩ := s.obj n o q
    exact ⟨a, h1, h2.mono (.refl f) (stay_lst e) (upd_ne fun z => nd (z ▸ List.mem_of_getElem? h1))⟩⟩

def lcGo (it : PIt) (g : GM) (tt : BM) (te : EM) (psw : LS) : Nat → Nat → List W → PH → Res (List W)
  | 0, _, _, _ => .stuck
  | k + 1, i, acc, h => match it.get i h with
    | none => .stuck
    | some none => .ok acc h
    | some (some w) => match g w psw with
      | none => .stuck
      | some ps1 => match tt ps1 h with
        | .ok true h2 => (match te ps1 h2 with
          | .ok x h3 => if acc.length < 16777216 then lcGo it g tt te psw k (i + 1) (acc ++ [x]) h3 else .stuck
          | _ => .stuck)
        | .ok false h2 => lcGo it g tt te psw k (i + 1) acc h2
        | _ => .stuck
def mLc (mi : IM) (g : GM) (tt : BM) (te : EM) (vs : List Nat) : LM := fun ps h => (mi ps h).bind fun it h1 => lcGo it g tt te (wipeW ps vs) it.fuel 0 [] h1
abbrev Wno : WX := fun _ _ _ _ => False
theorem tL_lc {K : PySem.W.Frag} {W0 : WX} {mi : IM} {g : GM} {tt : BM} {te : EM} {vs ts : List Nat} (hts : ∀ i ∈ ts, i ∈ vs) {σ : L2.St} {H : Hp} {Q : VK} (h : tL K W0 (mLc mi g tt te vs) σ H Q) :
    tLc (tG K (RIt K) W0 mi) (tTg K ts g) (tT K Wno tt) (tE K Wno te) vs σ H Q := by
  obtain ⟨f, h, ps, s, sr, p⟩ := h
  refine ⟨f, h, ps, s, sr, (Post.bind (R1 := RIt K) s back_L p).mono (fun J H1 hh => ?_) fun _ _ _ e => e⟩
  obtain ⟨f1, h1, it, s1, q1, p1⟩ := hh
  intro D hD
  have base := s1.sim.other (o := .lst []) hD
  refine ⟨fun i k H2 => ∃ f2 h2 acc us, Step K f1 H1 f2 h2 H2 ∧ D ∉ f2 ∧ H2 D = some (.lst us) ∧ Reps K f2 H2 acc us ∧ Post K (RL K) f1 H1 (lcGo it g tt te (wipeW ps vs) k i acc h2) Q (fun c d H' => W0 c d σ H'),
    ⟨it.fuel, f1, h1, [], [], base, s1.sim.fresh hD, upd_same, .nil, p1⟩, ?_⟩
  rintro i k H2 ⟨f2, h2, acc, us, s2, nD, eD, rA, p2⟩
  cases k with
  | zero => exact p2.elim
  | succ k =>
    unfold lcGo at p2
    have q := q1 f2 h2 H2 i s2
    cases e : it.get i h2 with
    | none => rw [e] at p2; exact p2.elim
    | some o =>
      rw [e] at p2 q
      cases o with
      | none => exact .inl ⟨q, p2 f2 H2 _ s2 ⟨D, us, rfl, hD, nD, eD, rA⟩⟩
      | some w =>
        dsimp only at p2 q
        refine .inr ⟨q.1, fun H3 => ∃ f3 h3 acc us, Step K f1 H1 f3 h3 H3 ∧ D ∉ f3 ∧ H3 D = some (.lst us) ∧ Reps K f3 H3 acc us ∧ Post K (RL K) f1 H1 (lcGo it g tt te (wipeW ps vs) k (i + 1) acc h3) Q (fun c d H' => W0 c d σ H'),
          fun H3 hh => ⟨k, Nat.lt_succ_self k, hh⟩, fun x H3 y => ?_⟩
        obtain ⟨s3, r3⟩ := q.2 x H3 y
        have sr3 : SRep K f2 H3 (wipeW ps vs) (L2.wipe σ vs) := (s3.srep s2.sim (s2.srep s1.sim (s1.srep s sr))).wipe vs
        cases eg : g w (wipeW ps vs) with
        | none => simp only [eg] at p2; exact p2.elim
        | some ps1 =>
          simp only [eg] at p2
          refine ⟨f2, h2, wipeW ps vs, w, ps1, s3.sim, sr3, r3, eg, fun σ4 sr4 b4 => ⟨b4.wipe hts, f2, h2, ps1, s3.sim, sr4, ?_⟩⟩
          have eD3 : H3 D = some (.lst us) := s3.grow D _ eD nD
          cases et : tt ps1 h2 with
          | stuck => simp only [et] at p2; exact p2.elim
          | exc x h3 => simp only [et] at p2; exact p2.elim
          | ok b h3 =>
            intro f4 H4 b' s4 qb
            cases qb
            have nD4 : D ∉ f4 := fun z => by
              have := s4.new D z nD
              rw [eD3] at this
              cases this
            have eD4 : H4 D = some (.lst us) := s4.grow D _ eD3 nD
            cases b with
            | false =>
              simp only [et] at p2
              rw [if_neg (by decide)]
              exact ⟨f4, h3, acc, us, s2.trans (s3.trans s4), nD4, eD4, s4.reps s3.sim (s3.reps s2.sim rA), p2⟩
            | true =>
              simp only [et] at p2
              rw [if_pos rfl]
              refine ⟨f4, h3, ps1, s4.sim, s4.srep s3.sim sr4, ?_⟩
              cases ee : te ps1 h3 with
              | stuck => simp only [ee] at p2; exact p2.elim
              | exc x h5 => simp only [ee] at p2; exact p2.elim
              | ok x h5 =>
                simp only [ee] at p2
                split at p2
                · rename_i hl
                  intro f5 H5 v5 s5 r5
                  have nD5 : D ∉ f5 := fun z => by
                    have := s5.new D z nD4
                    rw [eD4] at this
                    cases this
                  have eD5 : H5 D = some (.lst us) := s5.grow D _ eD4 nD4
                  have rA5 := s5.reps s4.sim (s4.reps s3.sim (s3.reps s2.sim rA))
                  refine ⟨us, eD5, by rw [← rA.length, sizeLine_eq]; exact hl, f5, h5, acc ++ [x], us ++ [v5], ?_, nD5, upd_same, Reps.mono (.refl f5) (stay_lst eD5) _ _ (rA5.append (.one r5)), p2⟩
                  have tot := s2.trans (s3.trans (s4.trans s5))
                  exact ⟨tot.ext, tot.new, fun a o ea na => by
                    rw [upd_ne (fun z => by subst z; rw [hD] at ea; cases ea)]
                    exact tot.grow a o ea na, fun a o vs ea => by
                    have := tot.lk a o vs ea
                    rw [upd_ne (fun z => by subst z; rw [eD5] at this; cases this)]
                    exact this, s5.sim.own_set nD5 eD5⟩
                · exact p2.elim
theorem tE_new {K : PySem.W.Frag} {W0 : WX} {l1 : LM} {σ : L2.St} {H : Hp} {Q : VK} (h : tE K W0 (mNew l1) σ H Q) : tL K W0 l1 σ H Q := by
  obtain ⟨f, h, ps, s, sr, p⟩ := h
  refine ⟨f, h, ps, s, sr, ?_⟩
  have p : Post K (RW K) f H ((l1 ps h).bind fun xs h1 => .ok (.ref h1.length) (h1 ++ [.lst xs])) Q _ := p
  cases e : l1 ps h with
  | stuck => rw [e] at p; exact p
  | exc x h' => rw [e] at p; exact p
  | ok xs h1 =>
    rw [e] at p
    intro f1 H1 v s1 q1
    obtain ⟨q, vs, rfl, hq, nq, eq, rq⟩ := q1
    refine p (f1 ++ [q]) H1 (.ref q) ⟨s1.ext.trans (.snoc f1 q), fun x hx hn => ?_, s1.grow, s1.lk, s1.sim.take_in nq ⟨vs, eq, rq⟩⟩ ?_
    · rcases List.mem_append.mp hx with m | m
      · exact s1.new x m hn
      · rw [List.mem_singleton] at m
        rw [m]
        exact hq
    · simp only [Rep]
      refine ⟨q, rfl, ?_⟩
      rw [List.getElem?_append_right (by rw [s1.sim.len]; omega), s1.sim.len]
      simp
/-- the tests of a clause -/
def mYes : BM := fun _ h => .ok true h
section
variable {X : Cx} {W0 : WX} {tg iter elt e : Expr} {m : IM} {g : GM} {tt : BM} {te : EM} {ts : List Nat} {pos : Pos} {ifs : List Expr} {scope : Scope}
abbrev STs (X : Cx) (W0 : WX) (ifs : List Expr) (m : BM) : Prop := PTs X ifs (tT X.K W0 m)
theorem sts_nil : STs X W0 [] mYes := by
  refine ⟨fun pins s σ H Q I h => ?_⟩
  obtain ⟨f, h, ps, s1, sr, p⟩ := h
  exact (pts_nil (X := X)).run pins s σ H Q I (p f H true (.refl s1) rfl)
theorem sl_lc (own : List (Str × Nat)) (hc : X.calm = true) (hN : X.N.Nodup) (hi : SI X W0 tg iter m) (hok : blkC X.N X.env.scope scope own = true)
    (hg : ∀ (s : Shared) (H : Hp) (C : Addr) (cl : List (Str × Addr)) (fp : List Addr), SG (X.blk s H scope (compEnvC scope cl C X.env) fp) tg ts g)
    (ht : ∀ (s : Shared) (H : Hp) (C : Addr) (cl : List (Str × Addr)) (fp : List Addr), STs (X.blk s H scope (compEnvC scope cl C X.env) fp) Wno ifs tt)
    (he : ∀ (s : Shared) (H : Hp) (C : Addr) (cl : List (Str × Addr)) (fp : List Addr), SE (X.blk s H scope (compEnvC scope cl C X.env) fp) Wno elt te)
    (hts : ∀ i ∈ ts, i ∈ own.map (·.2) := by decide) (hs : ∀ x, foldedSetIterable iter X.env x = pure x := by intro _; rfl) :
    SL X W0 (.ListComp elt [⟨tg, iter, ifs, 0⟩] scope pos) (mLc m g tt te (own.map (·.2))) :=
  pe_imp (pe_lc hc hN hi (blkOk_by hok) hg ht he hs) fun σ H Q h => tL_lc hts h
/-- name = [..] on one line -/
theorem ss_setLc (i : Nat) {y : Str} {py spos : Pos} (own : List (Str × Nat)) (hc : X.calm = true) (hN : X.N.Nodup) (hi : SI X W0 tg iter m) (hok : blkC X.N X.env.scope scope own = true)
    (hg : ∀ (s : Shared) (H : Hp) (C : Addr) (cl : List (Str × Addr)) (fp : List Addr), SG (X.blk s H scope (compEnvC scope cl C X.env) fp) tg ts g)
    (ht : ∀ (s : Shared) (H : Hp) (C : Addr) (cl : List (Str × Addr)) (fp : List Addr), STs (X.blk s H scope (compEnvC scope cl C X.env) fp) Wno ifs tt)
    (he : ∀ (s : Shared) (H : Hp) (C : Addr) (cl : List (Str × Addr)) (fp : List Addr), SE (X.blk s H scope (compEnvC scope cl C X.env) fp) Wno elt te)
    (hy : X.N[i]? = some y := by rfl) (hyl : X.env.scope.names.lookup y = some .local := by rfl)
    (hsw : swapsWith (.ListComp elt [⟨tg, iter, ifs, 0⟩] scope pos) (some (.Name y py)) spos.line X.env = pure true := by exact sw_true rfl rfl rfl (by decide +kernel))
    (hts : ∀ i ∈ ts, i ∈ own.map (·.2) := by decide) (hs : ∀ x, foldedSetIterable iter X.env x = pure x := by intro _; rfl) :
    SS X W0 (.Assign [.Name y py] (.ListComp elt [⟨tg, iter, ifs, 0⟩] scope pos) spos) (sAsg (mNew (mLc m g tt te (own.map (·.2)))) (gN i)) :=
  ps_imp (ps_setLc hc hN hy hyl hsw hi (blkOk_by hok) hg ht he hs) fun D σ H h => by
    have h2 : tE X.K W0 (mNew (mLc m g tt te (own.map (·.2)))) σ H fun v H1 => gName i v σ H1 D.nx := by
      obtain ⟨f, h, ps, s, sr, p⟩ := h
      refine ⟨f, h, ps, s, sr, (PostS.bind (R1 := RW X.K) s sr p).mono (fun v H1 hh => ?_) fun _ _ _ e => e⟩
      obtain ⟨f1, h1, a, s1, sr1, q1, p1⟩ := hh
      exact p1 f1 H1 _ (.refl s1.sim) (sr1.set i q1)
    exact tL_lc hts (tE_new h2)
end
end Mir

/-! Mir: defs, calls, promises over a part of the heap. -/
namespace Mir
open PySem PySem.Spec PyProof.Rows L2

/-! ### a def's promise, where nothing is being told as text (no repr runs) -/
abbrev Gd (A : Around) : Prop := A.guards = some []
structure FnG (P : Program) (w : World) (K : PySem.W.Frag) (mg : Str → Option Value) (base : Heap) (k : Nat) (f : Addr) (fd : FuncData) (ps : List Str) (sp : Sp) : Prop where
  len : ∀ vs H Q E, sp vs H Q E → vs.length = ps.length
  run : ∀ (A : Around) (fs : List Env) (s : Shared) (H : Hp) (args : Args) (us : List Value) (vs : List V) (Q : VK) (E : XK), Room k A → Gd A → Env0 P w K mg base A fs s H → BindsTo s fd args (ps.zip us) → Vals vs us →
    sp vs H Q E → codeAny (model P w) A (.call (.ref f) args) (CR (L2.CX P w) fs P w H s Q E) s
theorem FnG.imp {P : Program} {w : World} {K : PySem.W.Frag} {mg : Str → Option Value} {base : Heap} {k : Nat} {f : Addr} {fd : FuncData} {ps : List Str} {sp sp2 : Sp} (F : FnG P w K mg base k f fd ps sp) (i : ∀ vs H Q E, sp2 vs H Q E → sp vs H Q E) :
    FnG P w K mg base k f fd ps sp2 := ⟨fun vs H Q E z => F.len _ _ _ _ (i _ _ _ _ z), fun A fs s H args us vs Q E r g e b v z => F.run A fs s H args us vs Q E r g e b v (i _ _ _ _ z)⟩
theorem FnG.mono {P : Program} {w : World} {K : PySem.W.Frag} {mg : Str → Option Value} {base : Heap} {j k : Nat} {f : Addr} {fd : FuncData} {ps : List Str} {sp : Sp} (F : FnG P w K mg base j f fd ps sp) (h : j ≤ k) : FnG P w K mg base k f fd ps sp :=
  ⟨F.len, fun A fs s H args us vs Q E r => F.run A fs s H args us vs Q E (r.mono h)⟩
section
variable {P : Program} {w : World} {K : PySem.W.Frag} {mg : Str → Option Value} {base : Heap}
theorem fng_of {x qual : Str} {st : Stmt} {f : Addr} {fd : FuncData} {N ps : List Str} {k : Nat} {sp : Sp} (F : Fun K x qual st f fd) (S : FnScope N ps (defScope st)) (len : ∀ vs H Q E, sp vs H Q E → vs.length = ps.length)
    (hbody : ∀ (cdv : Value) (A : Around) (fs : List Env) (s : Shared) (H : Hp) (vs : List V) (Q : VK) (E : XK), Room k (A.deeper (envOfC qual (defScope st) s.heap.objs.size f cdv)) → Gd (A.deeper (envOfC qual (defScope st) s.heap.objs.size f cdv)) → sp vs H Q E →
      ∃ t, PSs (cxOf (L2.CX P w) P w K mg base N qual (defScope st) f cdv A fs s H E) (defBody st) t ∧ t ⟨fun _ H' => Q .non H', Q, fun _ _ => False, fun _ _ => False⟩ (L2.start N vs) H) : FnG P w K mg base (k + 1) f fd ps sp := by
  obtain ⟨oc, od, kV, doc, pm, an, cdv, ct, osl, rfl, lk, hcd⟩ := F.ex
  refine ⟨len, fun A fs s H args us vs Q E room gd e0 bnd rv z => ?_⟩
  have kept : ∀ b o, base.get? b = some o → s.heap.get? b = some o := fun b o e => (e0.bs b o e).1
  have kin := e0.mod.kin.keeps kept
  have names : ∀ y ∈ ps.zip us, (defScope st).names.lookup y.1 = some .local ∨ ((defScope st).names.lookup y.1 = some .cell ∧ ((cellsFrom (s.heap.objs.size + 1) (defScope st).names []).lookup y.1).isSome = true) := by
    rintro ⟨n, v⟩ hy
    exact (S.par n (List.of_mem_zip hy).1).imp id fun q => ⟨q, PySem.W.cellsFrom_some _ _ _ (.inl q)⟩
  refine codeAny_call_function room.depth (kin _ _ lk) rfl S.co S.gen rfl (PySem.W.codeRec_of kin hcd) (bnd _ _ _ _ (wpAny_newFunctionEnv_cells S.kind names ?_))
  rintro env rfl s1 x
  refine ⟨(e0.mod.nolimit.keeps kept).keeps x.toInCall.keep, codeAny_func ?_⟩
  obtain ⟨t, ht, hq⟩ := hbody cdv A fs s H vs Q E (room.deeper _) gd z
  have I := inv_start (CX := L2.CX P w) (E := E) S room.hd e0 (len _ _ _ _ z) rv x
  refine wpAny_mono (ht.run [] s1 _ H _ I hq) (fun fl s2 hs => ?_) fun _ _ hs => hs
  cases fl with
  | ret u =>
    obtain ⟨v, σ2, H2, J, r2, q⟩ := hs
    exact ⟨v, H2, J.os, J.bare, J.base, J.hok, r2, q⟩
  | next =>
    obtain ⟨σ2, H2, J, q⟩ := hs
    exact ⟨.non, H2, J.os, J.bare, J.base, J.hok, rfl, q⟩
  | brk => exact False.elim (hs.elim fun _ z => z.elim fun _ z => z.2)
  | cont => exact False.elim (hs.elim fun _ z => z.elim fun _ z => z.2)
end
section
variable {X : Cx} {k : Nat} {f : Addr} {fd : FuncData} {ps : List Str} {sp : Sp} {W0 : WX} {x : Str} {p pos : Pos} {e : Expr} {es : List Expr} {t : TA}
theorem run_g {pins : List (Addr × Obj)} {σ : L2.St} {H : Hp} {s : Shared} {Q : VK} {E : XK} {us : List Value} {vs : List V} (F : FnG X.prog X.w X.K X.mg X.base k f fd ps sp) (hr : Room k X.A) (gd : Gd X.A) (hb : Binds X.K fd ps []) (hx : PassesAt (L2.CX X.prog X.w) X σ E)
    (I : Inv X pins σ H s) (r : Vals vs us) (z : sp vs H Q E) : wpAny (model X.prog X.w) X.A (call (.ref f) us) (EP X pins σ Q) X.xe s := by
  have bnd := hb s us I.kIn (by rw [List.append_nil, ← r.length]; exact F.len _ _ _ _ z)
  rw [List.append_nil] at bnd
  refine wpAny_call (codeAny_mono (F.run X.A X.stack s H ⟨us, []⟩ us vs Q E hr gd I.env0 bnd r z) ?_)
  rintro (er | fl) s2 q
  · exact hx pins H s er s2 I q
  · cases fl with
    | ret u => exact I.after q
    | _ => exact False.elim q
theorem pe_g (F : FnG X.prog X.w X.K X.mg X.base k f fd ps sp) (hr : Room k X.A) (gd : Gd X.A) (hg : Gl X x) (hm : X.mg x = some (.ref f)) (hk : PySem.W.keepIn X.K (.ref f) = true) (hb : Binds X.K fd ps []) (tk : Takes X W0)
    (ha : PA X (e :: es) t) (hdb : (x == ("__debug__" : Str)) = false) (he : starEach (e :: es) X.env = (false, eval e X.env) :: starEach es X.env) (hpl : (backTo pos (starEach es X.env)).any (·.1) = false) :
    PE X (.Call (.Name x p) (e :: es) [] pos) (tCallS sp (WE W0) t) := ⟨fun pins s σ H Q I h =>
  wpAny_Call_Name_kw (ld_glob I hg hm (PySem.W.callWith_K (h₀ := X.base) I.ok.mod.kin hk (thn (ha.run pos pins s σ H _ I h) fun us s1 hh => by
    obtain ⟨vs, H1, I1, r, q⟩ := hh
    exact ⟨I1.kIn, run_g F hr gd hb (L2.passAt tk σ) I1 r q⟩) he hpl) hdb)⟩
theorem pe_g0 (F : FnG X.prog X.w X.K X.mg X.base k f fd [] sp) (hr : Room k X.A) (gd : Gd X.A) (hg : Gl X x) (hm : X.mg x = some (.ref f)) (hk : PySem.W.keepIn X.K (.ref f) = true) (hb : Binds X.K fd [] []) (tk : Takes X W0)
    (hdb : (x == ("__debug__" : Str)) = false) : PE X (.Call (.Name x p) [] [] pos) (tCallS sp (WE W0) tNil) := ⟨fun pins s σ H Q I h =>
  wpAny_Call_Name_kw (ld_glob I hg hm (PySem.W.callWith_K0 I.kIn hk (run_g (us := []) F hr gd hb (L2.passAt tk σ) I .nil h)) hdb)⟩
end

abbrev FM := List W → PH → Res W
/-- a promise by a computation of the n arguments -/
def SPm (K : PySem.W.Frag) (n : Nat) (F : FM) : Sp := fun vs H Q E => vs.length = n ∧ ∃ f h ws, Sim K f h H ∧ Reps K f H ws vs ∧ Post K (RW K) f H (F ws h) Q E
def startW (n : Nat) (ws : List W) : LS := ws.map some ++ List.replicate (n - ws.length) none
/-- a def's body, n slots -/
def runB (n : Nat) (B : SM) : FM := fun ws h => match B (startW n ws) h with
  | .nx _ h' => .ok .non h'
  | .rt w h' => .ok w h'
  | .exc x _ h' => .exc x h'
  | _ => .stuck
theorem reps_get {K : PySem.W.Frag} {f : List Addr} {H : Hp} {ws : List W} {vs : List V} (r : Reps K f H ws vs) (N : List Str) : SRep K f H (startW N.length ws) (L2.start N vs) := by
  unfold startW L2.start
  rw [← r.length]
  refine ⟨by simp only [List.length_append, List.length_map, List.length_replicate, r.length], fun i w e => ?_⟩
  by_cases hi : i < ws.length
  · rw [List.getElem?_append_left (by simpa using hi), List.getElem?_map] at e
    obtain ⟨w', e1, e2⟩ := Option.map_eq_some_iff.mp e
    cases e2
    obtain ⟨v, h1, h2⟩ := r.get e1
    refine ⟨v, ?_, h2⟩
    rw [List.getElem?_append_left (by rw [List.length_map, ← r.length]; exact hi), List.getElem?_map, h1]
    rfl
  · rw [List.getElem?_append_right (by simpa using Nat.le_of_not_lt hi), List.getElem?_replicate] at e
    split at e <;> cases e
section
variable {P : Program} {w : World} {K : PySem.W.Frag} {mg : Str → Option Value} {base : Heap}
/-- THE RULE for a def -/
theorem ok_body {x qual : Str} {st : Stmt} {f : Addr} {fd : FuncData} {N ps : List Str} {k : Nat} {B : SM} (F : Fun K x qual st f fd) (S : FnScope N ps (defScope st))
    (h : ∀ (cdv : Value) (A : Around) (outer : List Env) (s : Shared) (H : Hp) (E : XK), Room k (A.deeper (envOfC qual (defScope st) s.heap.objs.size f cdv)) → Gd (A.deeper (envOfC qual (defScope st) s.heap.objs.size f cdv)) →
      SSs (cxOf (L2.CX P w) P w K mg base N qual (defScope st) f cdv A outer s H E) (fun c d _ H => E c d H) (defBody st) B) : FnG P w K mg base (k + 1) f fd ps (SPm K ps.length (runB N.length B)) := by
  refine fng_of F S (fun vs H Q E h => h.1) fun cdv A outer s H vs Q E hr gd hh => ⟨_, h cdv A outer s H E hr gd, ?_⟩
  obtain ⟨hl, f0, h0, ws, s0, r0, p0⟩ := hh
  refine ⟨f0, h0, startW N.length ws, s0, reps_get r0 N, ?_⟩
  unfold runB at p0
  cases e : B (startW N.length ws) h0 with
  | nx ps h' => rw [e] at p0; exact fun f' H' σ' s' _ => p0 f' H' _ s' (rep_non.mpr rfl)
  | rt w h' => rw [e] at p0; exact fun f' H' v s' r' => p0 f' H' v s' r'
  | exc x ps h' => rw [e] at p0; exact fun f' H' σ' c d s' _ x' => p0 f' H' c d s' x'
  | bk ps h' => rw [e] at p0; exact p0.elim
  | ct ps h' => rw [e] at p0; exact p0.elim
  | stuck => rw [e] at p0; exact p0.elim
end
/-- a call -/
def mFn (n : Nat) (F : FM) (l : LM) : EM := fun ps h => (l ps h).bind fun xs h1 => if xs.length = n then F xs h1 else .stuck
section
variable {X : Cx} {W0 : WX} {k : Nat} {f : Addr} {fd : FuncData} {ps : List Str} {F : FM} {x : Str} {p pos : Pos} {e : Expr} {es : List Expr} {l : LM} {n : Nat}
theorem se_call (FK : FnG X.prog X.w X.K X.mg X.base k f fd ps (SPm X.K n F)) (hb : Binds X.K fd ps []) (hk : PySem.W.keepIn X.K (.ref f) = true) (hr : Room k X.A) (gd : Gd X.A) (tk : Takes X W0) (hm : X.mg x = some (.ref f)) (ha : SA X W0 (e :: es) l) (hg : Gl X x := by rfl)
    (hdb : (x == ("__debug__" : Str)) = false := by decide) (he : starEach (e :: es) X.env = (false, eval e X.env) :: starEach es X.env := by rfl) (hpl : (backTo pos (starEach es X.env)).any (·.1) = false := by rfl) :
    SE X W0 (.Call (.Name x p) (e :: es) [] pos) (mFn n F l) :=
  pe_imp (pe_g FK hr gd hg hm hk hb tk ha hdb he hpl) fun σ H Q h => by
    obtain ⟨f, h, ps, s, sr, p⟩ := h
    refine ⟨f, h, ps, s, sr, (Post.bind (R1 := RA X.K) s back_W p).mono (fun v H1 hh => ?_) fun _ _ _ e => e⟩
    obtain ⟨f1, h1, a, s1, q1, p1⟩ := hh
    split at p1
    · rename_i hl
      exact ⟨by rw [← q1.length]; exact hl, f1, h1, a, s1.sim, q1, p1⟩
    · exact p1.elim
def mFn0 (F : FM) : EM := fun _ h => F [] h
theorem se_call0 (FK : FnG X.prog X.w X.K X.mg X.base k f fd [] (SPm X.K 0 F)) (hb : Binds X.K fd [] []) (hk : PySem.W.keepIn X.K (.ref f) = true) (hr : Room k X.A) (gd : Gd X.A) (tk : Takes X W0) (hm : X.mg x = some (.ref f)) (hg : Gl X x := by rfl)
    (hdb : (x == ("__debug__" : Str)) = false := by decide) : SE X W0 (.Call (.Name x p) [] [] pos) (mFn0 F) :=
  pe_imp (pe_g0 FK hr gd hg hm hk hb tk hdb) fun σ H Q h => by
    obtain ⟨f, h, ps, s, sr, p⟩ := h
    exact ⟨rfl, f, h, [], s, .nil, p⟩
end

/-! ### a part of the heap -/
mutual
def Emb (M : Nat → Nat → Prop) : W → W → Prop
  | .non, w => w = .non
  | .bl b, w => w = .bl b
  | .int i, w => w = .int i
  | .str x, w => w = .str x
  | .tup xs, w => ∃ ys, w = .tup ys ∧ Embs M xs ys
  | .fix xs, w => ∃ ys, w = .fix ys ∧ Embs M xs ys
  | .exc x, w => w = .exc x
  | .ref i, w => ∃ n, w = .ref n ∧ M i n
def Embs (M : Nat → Nat → Prop) : List W → List W → Prop
  | [], ws => ws = []
  | x :: xs, ws => ∃ y ys, ws = y :: ys ∧ Emb M x y ∧ Embs M xs ys
end
mutual
theorem Rep.fwd {K : PySem.W.Frag} {f g : List Addr} {H : Hp} {M : Nat → Nat → Prop} (hM : ∀ i n a, M i n → f[i]? = some a → g[n]? = some a) : ∀ (x y : W) (v : V), Emb M x y → Rep K f H x v → Rep K g H y v
  | .non, y, v, e, r => by simp only [Emb] at e; subst e; simpa only [Rep] using r
  | .bl b, y, v, e, r => by simp only [Emb] at e; subst e; simpa only [Rep] using r
  | .int i, y, v, e, r => by simp only [Emb] at e; subst e; simpa only [Rep] using r
  | .str z, y, v, e, r => by simp only [Emb] at e; subst e; simpa only [Rep] using r
  | .exc z, y, v, e, r => by simp only [Emb] at e; subst e; simpa only [Rep] using r
  | .tup xs, y, v, e, r => by
    simp only [Emb] at e
    obtain ⟨ys, rfl, e⟩ := e
    simp only [Rep] at r ⊢
    obtain ⟨a, vs, h1, h2, h3⟩ := r
    exact ⟨a, vs, h1, h2, Reps.fwd hM xs ys vs e h3⟩
  | .fix xs, y, v, e, r => by
    simp only [Emb] at e
    obtain ⟨ys, rfl, e⟩ := e
    simp only [Rep] at r ⊢
    obtain ⟨a, vs, h1, h2, h3⟩ := r
    exact ⟨a, vs, h1, h2, Reps.fwd hM xs ys vs e h3⟩
  | .ref i, y, v, e, r => by
    simp only [Emb] at e
    obtain ⟨n, rfl, e⟩ := e
    simp only [Rep] at r ⊢
    obtain ⟨a, h1, h2⟩ := r
    exact ⟨a, h1, hM i n a e h2⟩
theorem Reps.fwd {K : PySem.W.Frag} {f g : List Addr} {H : Hp} {M : Nat → Nat → Prop} (hM : ∀ i n a, M i n → f[i]? = some a → g[n]? = some a) : ∀ (xs ys : List W) (vs : List V), Embs M xs ys → Reps K f H xs vs → Reps K g H ys vs
  | [], ys, vs, e, r => by simp only [Embs] at e; subst e; simpa only [Reps] using r
  | x :: xs, ys, vs, e, r => by
    simp only [Embs] at e
    obtain ⟨y, zs, rfl, e1, e2⟩ := e
    obtain ⟨v, us, rfl, r1, r2⟩ := r.cons_inv
    exact .cons (Rep.fwd hM x y v e1 r1) (Reps.fwd hM xs zs us e2 r2)
end
mutual
theorem Rep.bwd {K : PySem.W.Frag} {f g : List Addr} {H : Hp} {M : Nat → Nat → Prop} (hM : ∀ i n a, M i n → g[n]? = some a → f[i]? = some a) : ∀ (x y : W) (v : V), Emb M x y → Rep K g H y v → Rep K f H x v
  | .non, y, v, e, r => by simp only [Emb] at e; subst e; simpa only [Rep] using r
  | .bl b, y, v, e, r => by simp only [Emb] at e; subst e; simpa only [Rep] using r
  | .int i, y, v, e, r => by simp only [Emb] at e; subst e; simpa only [Rep] using r
  | .str z, y, v, e, r => by simp only [Emb] at e; subst e; simpa only [Rep] using r
  | .exc z, y, v, e, r => by simp only [Emb] at e; subst e; simpa only [Rep] using r
  | .tup xs, y, v, e, r => by
    simp only [Emb] at e
    obtain ⟨ys, rfl, e⟩ := e
    simp only [Rep] at r ⊢
    obtain ⟨a, vs, h1, h2, h3⟩ := r
    exact ⟨a, vs, h1, h2, Reps.bwd hM xs ys vs e h3⟩
  | .fix xs, y, v, e, r => by
    simp only [Emb] at e
    obtain ⟨ys, rfl, e⟩ := e
    simp only [Rep] at r ⊢
    obtain ⟨a, vs, h1, h2, h3⟩ := r
    exact ⟨a, vs, h1, h2, Reps.bwd hM xs ys vs e h3⟩
  | .ref i, y, v, e, r => by
    simp only [Emb] at e
    obtain ⟨n, rfl, e⟩ := e
    simp only [Rep] at r ⊢
    obtain ⟨a, h1, h2⟩ := r
    exact ⟨a, h1, hM i n a e h2⟩
theorem Reps.bwd {K : PySem.W.Frag} {f g : List Addr} {H : Hp} {M : Nat → Nat → Prop} (hM : ∀ i n a, M i n → g[n]? = some a → f[i]? = some a) : ∀ (xs ys : List W) (vs : List V), Embs M xs ys → Reps K g H ys vs → Reps K f H xs vs
  | [], ys, vs, e, r => by simp only [Embs] at e; subst e; simpa only [Reps] using r
  | x :: xs, ys, vs, e, r => by
    simp only [Embs] at e
    obtain ⟨y, zs, rfl, e1, e2⟩ := e
    obtain ⟨v, us, rfl, r1, r2⟩ := r.cons_inv
    exact .cons (Rep.bwd hM x y v e1 r1) (Reps.bwd hM xs zs us e2 r2)
end
def KEmb {κ : Type} (M : Nat → Nat → Prop) : List (κ × W) → List (κ × W) → Prop
  | [], ks => ks = []
  | (k, x) :: r, ks => ∃ y s, ks = (k, y) :: s ∧ Emb M x y ∧ KEmb M r s
theorem KRep.fwd {κ : Type} {K : PySem.W.Frag} {f g : List Addr} {H : Hp} {M : Nat → Nat → Prop} (hM : ∀ i n a, M i n → f[i]? = some a → g[n]? = some a) : ∀ (x y : List (κ × W)) (v : List (κ × V)), KEmb M x y → KRep K f H x v → KRep K g H y v
  | [], y, v, e, r => by
    have e : y = [] := e
    subst e
    exact r
  | (k, x) :: t, y, v, e, r => by
    obtain ⟨z, s, rfl, e1, e2⟩ := e
    obtain ⟨u, q, rfl, r1, r2⟩ := r
    exact ⟨u, q, rfl, Rep.fwd hM _ _ _ e1 r1, KRep.fwd hM t s q e2 r2⟩
theorem KRep.bwd {κ : Type} {K : PySem.W.Frag} {f g : List Addr} {H : Hp} {M : Nat → Nat → Prop} (hM : ∀ i n a, M i n → g[n]? = some a → f[i]? = some a) : ∀ (x y : List (κ × W)) (v : List (κ × V)), KEmb M x y → KRep K g H y v → KRep K f H x v
  | [], y, v, e, r => by
    have e : y = [] := e
    subst e
    exact r
  | (k, x) :: t, y, v, e, r => by
    obtain ⟨z, s, rfl, e1, e2⟩ := e
    obtain ⟨u, q, rfl, r1, r2⟩ := r
    exact ⟨u, q, rfl, Rep.bwd hM _ _ _ e1 r1, KRep.bwd hM t s q e2 r2⟩
def EmbO (M : Nat → Nat → Prop) : OB → OB → Prop
  | .lst xs, o => ∃ ys, o = .lst ys ∧ Embs M xs ys
  | .dK xs, o => ∃ ys, o = .dK ys ∧ KEmb M xs ys
  | .ins C xs, o => ∃ ys, o = .ins C ys ∧ KEmb M xs ys
  | .lk xs, o => ∃ ys, o = .lk ys ∧ KEmb M xs ys
theorem ObjR.fwd {K : PySem.W.Frag} {f g : List Addr} {H : Hp} {M : Nat → Nat → Prop} (hM : ∀ i n a, M i n → f[i]? = some a → g[n]? = some a) {o u : OB} {a : Addr} (e : EmbO M o u) (r : ObjR K f H o a) : ObjR K g H u a := by
  cases o with
  | lst xs =>
    obtain ⟨ys, rfl, e⟩ := e
    obtain ⟨vs, h1, h2⟩ := r
    exact ⟨vs, h1, Reps.fwd hM _ _ _ e h2⟩
  | dK xs =>
    obtain ⟨ys, rfl, e⟩ := e
    obtain ⟨vs, h1, h2⟩ := r
    exact ⟨vs, h1, KRep.fwd hM _ _ _ e h2⟩
  | ins C xs =>
    obtain ⟨ys, rfl, e⟩ := e
    obtain ⟨C, dx, vs, h0, h1, h2⟩ := r
    exact ⟨C, dx, vs, h0, h1, KRep.fwd hM _ _ _ e h2⟩
  | lk xs =>
    obtain ⟨ys, rfl, e⟩ := e
    obtain ⟨o, vs, h1, h2⟩ := r
    exact ⟨o, vs, h1, KRep.fwd hM _ _ _ e h2⟩
theorem ObjR.bwd {K : PySem.W.Frag} {f g : List Addr} {H : Hp} {M : Nat → Nat → Prop} (hM : ∀ i n a, M i n → g[n]? = some a → f[i]? = some a) {o u : OB} {a : Addr} (e : EmbO M o u) (r : ObjR K g H u a) : ObjR K f H o a := by
  cases o with
  | lst xs =>
    obtain ⟨ys, rfl, e⟩ := e
    obtain ⟨vs, h1, h2⟩ := r
    exact ⟨vs, h1, Reps.bwd hM _ _ _ e h2⟩
  | dK xs =>
    obtain ⟨ys, rfl, e⟩ := e
    obtain ⟨vs, h1, h2⟩ := r
    exact ⟨vs, h1, KRep.bwd hM _ _ _ e h2⟩
  | ins C xs =>
    obtain ⟨ys, rfl, e⟩ := e
    obtain ⟨C, dx, vs, h0, h1, h2⟩ := r
    exact ⟨C, dx, vs, h0, h1, KRep.bwd hM _ _ _ e h2⟩
  | lk xs =>
    obtain ⟨ys, rfl, e⟩ := e
    obtain ⟨o, vs, h1, h2⟩ := r
    exact ⟨o, vs, h1, KRep.bwd hM _ _ _ e h2⟩
/-- where the numbers of the part come to stand: ρ by the caller's numbers, κ those of the new ones that are kept -/
def Mp (ρ κ : List Nat) (n : Nat) : Nat → Nat → Prop := fun i m => ρ[i]? = some m ∨ ∃ j : Nat, κ[j]? = some i ∧ m = n + j
/-- h2, by the part, is hS, by the whole -/
structure Back2 (ρ κ : List Nat) (h h2 hS : PH) : Prop where
  nd : κ.Nodup
  new : ∀ i ∈ κ, ρ.length ≤ i ∧ i < h2.length
  len : hS.length = h.length + κ.length
  old : ∀ n, n < h.length → n ∉ ρ → hS[n]? = h[n]?
  at1 : ∀ (i n : Nat), ρ[i]? = some n → ∃ o u, h2[i]? = some o ∧ hS[n]? = some u ∧ EmbO (Mp ρ κ h.length) o u
  at2 : ∀ (j i : Nat), κ[j]? = some i → ∃ o u, h2[i]? = some o ∧ hS[h.length + j]? = some u ∧ EmbO (Mp ρ κ h.length) o u
def OutF (ρ : List Nat) (h : PH) : Res W → Res W → Prop
  | .ok w2 h2, .ok w hS => ∃ κ, Back2 ρ κ h h2 hS ∧ Emb (Mp ρ κ h.length) w2 w
  | .exc x2 h2, .exc x hS => ∃ κ, Back2 ρ κ h h2 hS ∧ x2 = x
  | _, .stuck => True
  | _, _ => False
/-- F over the part of h by ρ does what S does over h -/
structure PartF (F S : FM) (ws : List W) (h : PH) (ρ : List Nat) (ws' : List W) (h' : PH) : Prop where
  nd : ρ.Nodup
  lt : ∀ n ∈ ρ, n < h.length
  len : h'.length = ρ.length
  obj : ∀ (i n : Nat), ρ[i]? = some n → ∃ o u, h'[i]? = some o ∧ h[n]? = some u ∧ EmbO (fun (i n : Nat) => ρ[i]? = some n) o u
  args : Embs (fun (i n : Nat) => ρ[i]? = some n) ws' ws
  out : OutF ρ h (F ws' h') (S ws h)
def Fits (F S : FM) : Prop := ∀ ws h, S ws h = .stuck ∨ ∃ ρ ws' h', PartF F S ws h ρ ws' h'
section
variable {K : PySem.W.Frag} {f : List Addr} {h : PH} {H : Hp} {ρ κ : List Nat} {h' : PH}
theorem nd_inj {α : Type} {l : List α} (h : l.Nodup) {i j : Nat} {a : α} (e : l[i]? = some a) (e2 : l[j]? = some a) : i = j := by
  have key : ∀ i j : Nat, i < j → l[i]? = some a → l[j]? = some a → False := fun i j hij e e2 => by
    obtain ⟨h1, q1⟩ := List.getElem?_eq_some_iff.mp e
    obtain ⟨h2, q2⟩ := List.getElem?_eq_some_iff.mp e2
    exact (List.pairwise_iff_getElem.mp h) i j h1 h2 hij (q1.trans q2.symm)
  rcases Nat.lt_trichotomy i j with z | z | z
  · exact (key i j z e e2).elim
  · exact z
  · exact (key j i z e2 e).elim
def pick (f : List Addr) (ρ : List Nat) : List Addr := ρ.map fun n => f.getD n 0
theorem pick_get (hlt : ∀ n ∈ ρ, n < f.length) {i n : Nat} (e : ρ[i]? = some n) : (pick f ρ)[i]? = f[n]? ∧ f[n]? = some (f.getD n 0) := by
  have hn := hlt n (List.mem_of_getElem? e)
  unfold pick
  rw [List.getElem?_map, e, List.getElem?_eq_getElem hn]
  simp [List.getD, List.getElem?_eq_getElem hn]
theorem pick_nd (fn : f.Nodup) (hlt : ∀ n ∈ ρ, n < f.length) (nd : ρ.Nodup) : (pick f ρ).Nodup := by
  refine List.pairwise_iff_getElem.mpr fun i j hi hj hij e => ?_
  have li : i < ρ.length := by unfold pick at hi; simpa using hi
  have lj : j < ρ.length := by unfold pick at hj; simpa using hj
  obtain ⟨p1, p2⟩ := pick_get hlt (List.getElem?_eq_getElem li)
  obtain ⟨p3, p4⟩ := pick_get hlt (List.getElem?_eq_getElem lj)
  have e1 := p1.symm.trans (List.getElem?_eq_getElem hi)
  have e2 := p3.symm.trans (List.getElem?_eq_getElem hj)
  rw [e] at e1
  have := nd_inj fn e1 e2
  exact (List.pairwise_iff_getElem.mp nd) i j li lj hij this
theorem part_sim (s : Sim K f h H) (nd : ρ.Nodup) (lt : ∀ n ∈ ρ, n < h.length) (len : h'.length = ρ.length) (obj : ∀ (i n : Nat), ρ[i]? = some n → ∃ o u, h'[i]? = some o ∧ h[n]? = some u ∧ EmbO (fun (i n : Nat) => ρ[i]? = some n) o u) : Sim K (pick f ρ) h' H := by
  have hlt : ∀ n ∈ ρ, n < f.length := fun n hn => by rw [s.len]; exact lt n hn
  refine ⟨by unfold pick; rw [List.length_map, len], pick_nd s.nd hlt nd, fun i o e => ?_⟩
  have hi : i < ρ.length := by rw [← len]; exact (List.getElem?_eq_some_iff.mp e).1
  obtain ⟨o', u, e1, e2, e3⟩ := obj i ρ[i] (List.getElem?_eq_getElem hi)
  rw [e] at e1
  cases e1
  obtain ⟨a, ha, r⟩ := s.obj _ _ e2
  obtain ⟨p1, p2⟩ := pick_get hlt (List.getElem?_eq_getElem hi)
  refine ⟨a, by rw [p1, ha], ObjR.bwd (fun j n b ej eb => ?_) e3 r⟩
  rw [(pick_get hlt ej).1, eb]
theorem part_back (s : Sim K f h H) (nd : ρ.Nodup) (lt : ∀ n ∈ ρ, n < h.length) (s' : Sim K (pick f ρ) h' H) {f2 : List Addr} {h2 hS : PH} {H2 : Hp} (st : Step K (pick f ρ) H f2 h2 H2) (b : Back2 ρ κ h h2 hS) :
    Step K f H (f ++ pick f2 κ) hS H2 ∧ ∀ i n a, Mp ρ κ h.length i n → f2[i]? = some a → (f ++ pick f2 κ)[n]? = some a := by
  have hlt : ∀ n ∈ ρ, n < f.length := fun n hn => by rw [s.len]; exact lt n hn
  have kl : ∀ n ∈ κ, n < f2.length := fun n hn => by rw [st.sim.len]; exact (b.new n hn).2
  have pl : (pick f ρ).length = ρ.length := by unfold pick; rw [List.length_map]
  have hM : ∀ i n a, Mp ρ κ h.length i n → f2[i]? = some a → (f ++ pick f2 κ)[n]? = some a := fun i n a m e => by
    rcases m with m | ⟨j, m, rfl⟩
    · obtain ⟨p1, p2⟩ := pick_get hlt m
      have : f2[i]? = some (f.getD n 0) := st.ext.get (p1.trans p2)
      rw [e] at this
      cases this
      rw [List.getElem?_append_left (hlt n (List.mem_of_getElem? m))]
      exact p2
    · rw [List.getElem?_append_right (by rw [s.len]; omega), s.len, Nat.add_sub_cancel_left, (pick_get kl m).1]
      exact e
  have newH : ∀ x ∈ pick f2 κ, H x = none := fun x hx => by
    unfold pick at hx
    obtain ⟨i, hi, rfl⟩ := List.mem_map.mp hx
    have h2i := kl i hi
    have e : f2[i]? = some (f2.getD i 0) := by simp [List.getD, List.getElem?_eq_getElem h2i]
    refine st.new _ (List.mem_of_getElem? e) fun z => ?_
    obtain ⟨j, hj, ej⟩ := List.getElem_of_mem z
    have e2 : f2[j]? = some (f2.getD i 0) := st.ext.get (by rw [List.getElem?_eq_getElem hj, ej])
    have hji : j = i := nd_inj st.sim.nd e2 e
    have := (b.new i hi).1
    rw [pl] at hj
    omega
  have notf : ∀ x ∈ pick f2 κ, x ∉ f := fun x hx m => by
    obtain ⟨u, e, _⟩ := s.mov m
    rw [newH x hx] at e
    cases e
  have gr : Grow f H H2 := fun x o e hn => st.grow x o e fun z => hn (by
    unfold pick at z
    obtain ⟨n, hn2, rfl⟩ := List.mem_map.mp z
    obtain ⟨i, hi, ei⟩ := List.getElem_of_mem hn2
    have ei : ρ[i]? = some n := List.getElem?_eq_some_iff.mpr ⟨hi, ei⟩
    exact List.mem_of_getElem? (pick_get hlt ei).2)
  have ex : Ext f (f ++ pick f2 κ) := ⟨_, rfl⟩
  have sty := s'.stay st.grow
  refine ⟨⟨ex, fun x hx hn => ?_, gr, st.lk, by rw [List.length_append, b.len, s.len]; unfold pick; rw [List.length_map], ?_, fun n o e => ?_⟩, hM⟩
  · rcases List.mem_append.mp hx with m | m
    · exact absurd m hn
    · exact newH x m
  · exact List.nodup_append.mpr ⟨s.nd, pick_nd st.sim.nd kl b.nd, fun a ha c hc z => notf c hc (z ▸ ha)⟩
  · by_cases hn : n < h.length
    · by_cases hm : n ∈ ρ
      · obtain ⟨i, hi, ei⟩ := List.getElem_of_mem hm
        have ei : ρ[i]? = some n := List.getElem?_eq_some_iff.mpr ⟨hi, ei⟩
        obtain ⟨o2, u, e1, e2, e3⟩ := b.at1 i n ei
        rw [e] at e2
        cases e2
        obtain ⟨a, ha, r⟩ := st.sim.obj _ _ e1
        exact ⟨a, hM i n a (.inl ei) ha, ObjR.fwd hM e3 r⟩
      · have e0 : h[n]? = some o := by rw [← b.old n hn hm]; exact e
        obtain ⟨a, ha, r⟩ := s.obj n o e0
        refine ⟨a, ex.get ha, r.mono ex sty ?_⟩
        obtain ⟨u, eu, _⟩ := s.mov (List.mem_of_getElem? ha)
        rw [eu]
        refine st.grow a u eu fun z => ?_
        unfold pick at z
        obtain ⟨m, hm2, em⟩ := List.mem_map.mp z
        obtain ⟨i, hi, ei⟩ := List.getElem_of_mem hm2
        have ei : ρ[i]? = some m := List.getElem?_eq_some_iff.mpr ⟨hi, ei⟩
        have em2 := (pick_get hlt ei).2
        rw [em] at em2
        have := nd_inj s.nd em2 ha
        subst this
        exact hm hm2
    · have hj : n - h.length < κ.length := by
        have := (List.getElem?_eq_some_iff.mp e).1
        rw [b.len] at this
        omega
      obtain ⟨o2, u, e1, e2, e3⟩ := b.at2 (n - h.length) _ (List.getElem?_eq_getElem hj)
      have en : h.length + (n - h.length) = n := by omega
      rw [en, e] at e2
      cases e2
      obtain ⟨a, ha, r⟩ := st.sim.obj _ _ e1
      exact ⟨a, hM _ n a (.inr ⟨n - h.length, List.getElem?_eq_getElem hj, en.symm⟩) ha, ObjR.fwd hM e3 r⟩
end
/-- a promise over the part gives the one over the whole -/
theorem fits_ok {P : Program} {w : World} {K : PySem.W.Frag} {mg : Str → Option Value} {base : Heap} {k : Nat} {f : Addr} {fd : FuncData} {ps : List Str} {n : Nat} {F S : FM} (FK : FnG P w K mg base k f fd ps (SPm K n F)) (hf : Fits F S) : FnG P w K mg base k f fd ps (SPm K n S) := by
  refine FK.imp fun vs H Q E hh => ?_
  obtain ⟨hl, f0, h0, ws, s0, r0, p0⟩ := hh
  rcases hf ws h0 with z | ⟨ρ, ws', h', pf⟩
  · rw [z] at p0
    exact p0.elim
  · have hlt : ∀ n ∈ ρ, n < f0.length := fun n hn => by rw [s0.len]; exact pf.lt n hn
    have s' := part_sim s0 pf.nd pf.lt pf.len pf.obj
    refine ⟨hl, pick f0 ρ, h', ws', s', Reps.bwd (fun i n a e1 e2 => by rw [(pick_get hlt e1).1, e2]) _ _ _ pf.args r0, ?_⟩
    have o := pf.out
    cases e1 : F ws' h' with
    | stuck =>
      rw [e1] at o
      cases e2 : S ws h0 with
      | stuck => rw [e2] at p0; exact p0.elim
      | ok a b => rw [e2] at o; exact o.elim
      | exc a b => rw [e2] at o; exact o.elim
    | ok w2 h2 =>
      rw [e1] at o
      cases e2 : S ws h0 with
      | stuck => rw [e2] at p0; exact p0.elim
      | exc a b => rw [e2] at o; exact o.elim
      | ok a b =>
        rw [e2] at o p0
        obtain ⟨κ, bk, em⟩ := o
        intro f2 H2 v st r
        obtain ⟨st2, hM⟩ := part_back s0 pf.nd pf.lt s' st bk
        exact p0 _ H2 v st2 (Rep.fwd hM _ _ _ em r)
    | exc x2 h2 =>
      rw [e1] at o
      cases e2 : S ws h0 with
      | stuck => rw [e2] at p0; exact p0.elim
      | ok a b => rw [e2] at o; exact o.elim
      | exc a b =>
        rw [e2] at o p0
        obtain ⟨κ, bk, ec⟩ := o
        subst ec
        intro f2 H2 c d st r
        obtain ⟨st2, hM⟩ := part_back s0 pf.nd pf.lt s' st bk
        exact p0 _ H2 c d st2 r
end Mir

/-! Mir: isinstance, what is written, methods, dicts. -/
namespace Mir
open PySem PySem.Spec PyProof.Rows L2

section
variable {X : Cx} {W0 : WX} {tt : BM} {c : Expr}
theorem sts_one (h : ST X W0 c tt) : STs X W0 [c] tt := pts_one h
end

/-! ### isinstance -/
def tyName : W → PH → Option String
  | .non, _ => some "NoneType"
  | .bl _, _ => some "bool"
  | .int _, _ => some "int"
  | .str _, _ => some "str"
  | .tup _, _ => some "tuple"
  | .fix _, _ => some "list"
  | .exc _, _ => none
  | .ref n, h => match h[n]? with
    | some (.lst _) => some "list"
    | some (.dK _) => some "dict"
    | _ => none
def isB (t T : String) : Bool := t == T || (t == "bool" && T == "int")
def mIsi (T : String) (m : EM) : EM := fun ps h => (m ps h).bind fun x h1 => match tyName x h1 with
  | some t => .ok (.bl (isB t T)) h1
  | none => .stuck
def plainTys : List String := ["bool", "int", "str", "tuple", "list", "dict"]
theorem tyName_in {x : W} {h : PH} {t : String} (e : tyName x h = some t) : t ∈ (["NoneType", "bool", "int", "str", "tuple", "list", "dict"] : List String) := by
  cases x <;> simp only [tyName] at e
  case ref n =>
    split at e <;> first | (cases e; done) | (cases e; decide)
  case exc => cases e
  all_goals (cases e; decide)
theorem kit_all : ∀ t ∈ (["NoneType", "bool", "int", "str", "tuple", "list", "dict"] : List String), ∀ T ∈ plainTys, kitB t T = some (isB t T) := by decide +kernel
section
variable {K : PySem.W.Frag} {X : Cx} {W0 : WX} {e o : Expr} {es : List Expr} {m : EM} {l : LM} {p p2 pos : Pos}
theorem tyX_of {f : List Addr} {h : PH} {H : Hp} {x : W} {v : V} {t : String} (s : Sim K f h H) (r : Rep K f H x v) (e : tyName x h = some t) : TyX K H v (.type t) := by
  cases x with
  | non => cases e; rw [rep_non.mp r]; exact .base .non
  | bl b => cases e; rw [rep_bl.mp r]; exact .base (.bl b)
  | int i => cases e; rw [rep_int.mp r]; exact .base (.int i)
  | str z => cases e; rw [rep_str.mp r]; exact .base (.str z)
  | tup xs =>
    cases e
    obtain ⟨a, vs, rfl, h1, _⟩ := rep_tup.mp r
    rcases h1 with (h1 | ⟨o, h1⟩) | ⟨o, its, n, h1, h2, _⟩
    · exact .base (.tup h1)
    · exact .fTuple h1
    · exact .kTuple h1 h2
  | fix xs =>
    cases e
    obtain ⟨a, vs, rfl, h1, _⟩ := rep_fix.mp r
    rcases h1 with ⟨o, h1⟩ | ⟨o, its, n, h1, h2, _⟩
    · exact .base (.frz h1)
    · exact .kList h1 h2
  | exc _ => cases e
  | ref n =>
    simp only [tyName] at e
    split at e
    · rename_i xs hn
      obtain ⟨a, rfl, _, vs, h1, _⟩ := s.at hn r
      cases e
      exact .base (.lst h1)
    · rename_i xs hn
      obtain ⟨a, rfl, _, vs, h1, _⟩ := s.at hn r
      cases e
      exact .base (.dK h1)
    · cases e
theorem se_isi (T : String) {n : Str} (hT : T ∈ plainTys) (hm : X.mg "isinstance" = none) (hmT : X.mg n = none) (ha : SE X W0 e m) (hv : bootBuiltins n = some (.type T)) (hg : Gl X "isinstance" := by rfl) (hgT : Gl X n := by rfl)
    (hb : bootBuiltins "isinstance" = some (.builtin "isinstance") := by rfl) (hdT : (n == ("__debug__" : Str)) = false := by decide)
    (hs1 : starEach [.Name n p2] X.env = [(false, eval (.Name n p2) X.env)] := by rfl) (he : starEach [e, .Name n p2] X.env = (false, eval e X.env) :: starEach [.Name n p2] X.env := by rfl)
    (hpl : (backTo pos (starEach [.Name n p2] X.env)).any (·.1) = false := by rfl) (hnT : n ≠ "__name__" := by decide) :
    SE X W0 (.Call (.Name "isinstance" p) [e, .Name n p2] [] pos) (mIsi T m) :=
  pe_imp (pe_callB call_isi hg hm hb (pa_cons ha (pa_cons (pe_bltn hgT hmT hv (show RelV (V.ty T) (Value.type T) from rfl) hnT hdT) pa_nil hs1) he) (by decide) (by decide) he hpl) fun σ H Q h => by
    obtain ⟨f, h, ps, s, sr, p⟩ := h
    refine ⟨f, h, ps, s, sr, (Post.bind (R1 := RW X.K) s back_W p).mono (fun v H1 hh => ?_) fun _ _ _ e => e⟩
    obtain ⟨f1, h1, x, s1, q1, p1⟩ := hh
    cases et : tyName x h1 with
    | none => simp only [et] at p1; exact p1.elim
    | some t =>
      simp only [et] at p1
      exact ⟨v, .ty T, _, _, _, rfl, .ty T, tyX_of s1.sim q1 et, kit_ty (kit_all t (tyName_in et) T hT), p1 f1 H1 _ (.refl s1.sim) (rep_bl.mpr rfl)⟩

/-! ### the own heap is written -/
theorem Sim.put {f : List Addr} {h : PH} {H : Hp} (s : Sim K f h H) {n : Nat} {a : Addr} (hf : f[n]? = some a) {u : HO} {o' : OB} (ho : ObjR K f (upd H a u) o' a) (hm0 : ∀ o us, H a = some (.frz o (.dK us)) → False) : Step K f H f (h.set n o') (upd H a u) := by
  have g : Grow f H (upd H a u) := fun b w e hn => by rw [upd_ne (fun z => hn (by rw [z]; exact List.mem_of_getElem? hf))]; exact e
  refine ⟨.refl f, fun x a b => absurd a b, g, fun b o us e => by
    rw [upd_ne (fun z => hm0 o us (by rw [z] at e; exact e))]
    exact e, by rw [List.length_set]; exact s.len, s.nd, fun m ob e => ?_⟩
  by_cases hm : n = m
  · subst hm
    have hl : n < h.length := by rw [← s.len]; exact (List.getElem?_eq_some_iff.mp hf).1
    rw [List.getElem?_set_self hl] at e
    cases e
    exact ⟨a, hf, ho⟩
  · rw [List.getElem?_set_ne hm] at e
    obtain ⟨b, h1, h2⟩ := s.obj m ob e
    exact ⟨b, h1, h2.mono (.refl f) (s.stay g) (upd_ne fun z => hm (nd_inj s.nd hf (z ▸ h1)))⟩
theorem Sim.put_lst {f : List Addr} {h : PH} {H : Hp} (s : Sim K f h H) {n : Nat} {a : Addr} (hf : f[n]? = some a) {us : List V} {xs : List W} (r : Reps K f H xs us) (hm0 : ∀ o us, H a = some (.frz o (.dK us)) → False) : Step K f H f (h.set n (.lst xs)) (upd H a (.lst us)) := by
  have g : Grow f H (upd H a (.lst us)) := fun b w e hn => by rw [upd_ne (fun z => hn (by rw [z]; exact List.mem_of_getElem? hf))]; exact e
  exact s.put hf ⟨us, upd_same, Reps.mono (.refl f) (s.stay g) _ _ r⟩ hm0
theorem Sim.put_dK {f : List Addr} {h : PH} {H : Hp} (s : Sim K f h H) {n : Nat} {a : Addr} (hf : f[n]? = some a) {us : List (Key × V)} {xs : List (Key × W)} (r : KRep K f H xs us) (hm0 : ∀ o us, H a = some (.frz o (.dK us)) → False) : Step K f H f (h.set n (.dK xs)) (upd H a (.dK us)) := by
  have g : Grow f H (upd H a (.dK us)) := fun b w e hn => by rw [upd_ne (fun z => hn (by rw [z]; exact List.mem_of_getElem? hf))]; exact e
  exact s.put hf ⟨us, upd_same, KRep.mono (.refl f) (s.stay g) _ _ r⟩ hm0

/-! ### o[i] = v -/
def setW (x y w : W) (h : PH) : Option PH :=
  match x with
  | .ref n => match h[n]? with
    | some (.lst xs) => match y with
      | .int k => (ixN xs.length k).map fun j => h.set n (.lst (xs.set j w))
      | _ => none
    | some (.dK kvs) => match keyW y with
      | some k => if kvs.length < 16777216 then some (h.set n (.dK (putKW kvs k w))) else none
      | none => none
    | _ => none
  | _ => none
abbrev rSetAll : TSet := fun o i v H Q => rSetL o i v H Q ∨ rSetD o i v H Q
theorem set_all {k : Nat} (hr : Room k X.A) : PSet X rSetAll := by
  intro pins s σ H o i v ov iv u Q I ro ri rv h
  rcases h with h | h
  · exact set_list pins s σ H o i v ov iv u Q I ro ri rv h
  · exact set_dict (hu_of hr) pins s σ H o i v ov iv u Q I ro ri rv h
theorem setW_rule {f : List Addr} {h h' : PH} {H : Hp} {x y w : W} {o i v : V} {Q : Hp → Prop} (s : Sim K f h H) (rx : Rep K f H x o) (ry : Rep K f H y i) (rw' : Rep K f H w v) (e : setW x y w h = some h') (q : ∀ H', Step K f H f h' H' → Q H') : rSetAll o i v H Q := by
  unfold setW at e
  split at e
  · rename_i n
    split at e
    · rename_i xs hn
      split at e
      · rename_i k
        obtain ⟨j, e1, e2⟩ := Option.map_eq_some_iff.mp e
        cases e2
        obtain ⟨a, rfl, hf, vs, h1, h2⟩ := s.at hn rx
        exact .inl ⟨a, vs, k, j, rfl, rep_int.mp ry, h1, by rw [← h2.length]; exact e1, q _ (s.put_lst hf (h2.set rw' j) fun _ _ z => by rw [h1] at z; cases z)⟩
      · cases e
    · rename_i kvs hn
      split at e
      · rename_i k ek
        split at e
        · rename_i hl
          cases e
          obtain ⟨a, rfl, hf, vs, h1, h2⟩ := s.at hn rx
          refine .inr ⟨a, _, rfl, ?_, q _ (s.put_dK hf (h2.put rw' k) fun _ _ z => by rw [h1] at z; cases z)⟩
          rw [key_rep ek ry]
          exact DPut.k h1 (by rw [← h2.length, sizeLine_eq]; exact hl)
        · cases e
      · cases e
    · cases e
  · cases e
def sSetIx (me mo mi : EM) : SM := fun ps h => (me ps h).thenS ps fun w h1 => (mo ps h1).thenS ps fun x h2 => (mi ps h2).thenS ps fun y h3 => match setW x y w h3 with
  | some h4 => .nx ps h4
  | none => .stuck
theorem ss_setix {k : Nat} {v i : Expr} {me mo mi : EM} {pos' : Pos} (hr : Room k X.A) (hv : SE X W0 v me) (ho : SE X W0 o mo) (hi : SE X W0 i mi) (hs : swapsWithSole [.Subscript o i pos'] v pos.line X.env = pure false := by rfl) (hw : swappedStores [.Subscript o i pos'] v X.env = pure none := by rfl)
    (h1 : (assignEach [.Subscript o i pos'] X.env).map (·.2) = [assign (.Subscript o i pos') X.env] := by rfl)
    (ha : ∀ v, assign (.Subscript o i pos') X.env v = (do
      let ov ← holding [v] (eval o X.env)
      let iv ← holding [v, ov] (eval i X.env)
      standAt pos'
      holding [v, ov, iv] (setItem ov iv v)
      release [v, ov, iv] []) := by intro _; rfl) : SS X W0 (.Assign [.Subscript o i pos'] v pos) (sSetIx me mo mi) :=
  ps_imp (ps_asg hv (pg_sub ho hi (set_all hr) ha) hs hw h1) fun D σ H h => by
    obtain ⟨f, h, ps, s, sr, p⟩ := h
    refine ⟨f, h, ps, s, sr, (PostS.bind (R1 := RW X.K) s sr p).mono (fun v H1 hh => ?_) fun _ _ _ e => e⟩
    obtain ⟨f1, h1, w, s1, sr1, q1, p1⟩ := hh
    refine ⟨f1, h1, ps, s1.sim, sr1, (PostS.bind (R1 := RW X.K) s1.sim sr1 p1).mono (fun ov H2 hh => ?_) fun _ _ _ e => e⟩
    obtain ⟨f2, h2, x, s2, sr2, q2, p2⟩ := hh
    refine ⟨f2, h2, ps, s2.sim, sr2, (PostS.bind (R1 := RW X.K) s2.sim sr2 p2).mono (fun iv H3 hh => ?_) fun _ _ _ e => e⟩
    obtain ⟨f3, h3, y, s3, sr3, q3, p3⟩ := hh
    cases e : setW x y w h3 with
    | none => simp only [e] at p3; exact p3.elim
    | some h4 =>
      simp only [e] at p3
      exact setW_rule s3.sim (s3.rep s2.sim q2) q3 (s3.rep s2.sim (s2.rep s1.sim q1)) e fun H' st => p3 f3 H' σ st (st.srep s3.sim sr3)

/-! ### methods -/
def tyW (T : String) (x : W) (h : PH) : Bool := match x with
  | .str _ => T == "str"
  | .fix _ => T == "list"
  | .ref n => match h[n]? with
    | some (.lst _) => T == "list"
    | some (.dK _) => T == "dict"
    | _ => false
  | _ => false
theorem tyW_of {f : List Addr} {h : PH} {H : Hp} {x : W} {v : V} {T : String} (s : Sim K f h H) (r : Rep K f H x v) (e : tyW T x h = true) : tyV K T v H := by
  cases x with
  | str z => rw [rep_str.mp r]; exact (show T = "str" by simpa [tyW] using e)
  | fix xs =>
    obtain ⟨a, vs, rfl, h1, _⟩ := rep_fix.mp r
    exact .inl ⟨by simpa [tyW] using e, _, h1.seq⟩
  | ref n =>
    simp only [tyW] at e
    split at e
    · rename_i xs hn
      obtain ⟨a, rfl, _, vs, h1, _⟩ := s.at hn r
      exact .inl ⟨by simpa using e, _, SqL.of h1⟩
    · rename_i xs hn
      obtain ⟨a, rfl, _, vs, h1, _⟩ := s.at hn r
      exact .inr (.inr (.inl ⟨by simpa using e, .inl ⟨_, h1⟩⟩))
    · cases e
  | _ => cases e
/-- a method by a computation; a list told is one that none will change -/
def OpMt (K : PySem.W.Frag) (r : V → List V → Hp → VK → Prop) (o : W → List W → PH → Option (W × PH)) : Prop :=
  ∀ (f : List Addr) (h : PH) (H : Hp) (x : W) (v : V) (xs : List W) (vs : List V) (Q : VK) (E : XK), Sim K f h H → Rep K f H x v → Reps K f H xs vs → Post K (RW K) f H (.ofO (o x xs h)) Q E → r v vs H (QF Q)
def mMt (T : String) (o : W → List W → PH → Option (W × PH)) (m : EM) (l : LM) : EM := fun ps h => (m ps h).bind fun x h1 => if tyW T x h1 = true then (l ps h1).bind fun xs h2 => .ofO (o x xs h2) else .stuck
variable {T id : String} {name : Str} {apos cpos : Pos} {r : V → List V → Hp → VK → Prop} {om : W → List W → PH → Option (W × PH)}
theorem se_mt (pa : PlainAttrs T) (slot : Slot T name id) (hty : typeOf (.builtin id) = pure (.type "method_descriptor")) (hm : MtR X id r) (hop : OpMt X.K r om) (ho : SE X W0 o m) (ha : SA X W0 (e :: es) l)
    (hbase : attributeBase o name X.env (eval o X.env) = eval o X.env := by rfl)
    (hfew : ((backTo cpos (starEach (e :: es) X.env)).all (fun x => !x.1) && (backToKw cpos (keywordEach [] X.env)).all (fun x => x.1.isSome)
      && decide ((e :: es).length + ([] : List Keyword).length + (if ([] : List Keyword).isEmpty then 0 else 1) < 30)) = true := by rfl)
    (hline : (apos.endLine == cpos.line) = true := by rfl) (hs : starEach (e :: es) X.env = (false, eval e X.env) :: starEach es X.env := by rfl) (hplain : (backTo cpos (starEach es X.env)).any (·.1) = false := by rfl) :
    SE X W0 (.Call (.Attribute o name apos) (e :: es) [] cpos) (mMt T om m l) :=
  pe_imp (pe_frz (pe_bm pa slot hty hm ho ha hbase hfew hline hs hplain)) fun σ H Q h => by
    obtain ⟨f, h, ps, s, sr, p⟩ := h
    refine ⟨f, h, ps, s, sr, (Post.bind (R1 := RW X.K) s back_W p).mono (fun v H1 hh => ?_) fun _ _ _ e => e⟩
    obtain ⟨f1, h1, x, s1, q1, p1⟩ := hh
    split at p1
    · rename_i ht
      refine ⟨tyW_of s1.sim q1 ht, f1, h1, ps, s1.sim, s1.srep s sr, (Post.bind (R1 := RA X.K) s1.sim back_W p1).mono (fun vs H2 hh => ?_) fun _ _ _ e => e⟩
      obtain ⟨f2, h2, xs, s2, q2, p2⟩ := hh
      exact hop f2 h2 H2 x v xs vs Q _ s2.sim (s2.rep s1.sim q1) q2 p2
    · exact p1.elim
theorem se_mt0 (pa : PlainAttrs T) (slot : Slot T name id) (hty : typeOf (.builtin id) = pure (.type "method_descriptor")) (hm : MtR X id r) (hop : OpMt X.K r om) (ho : SE X W0 o m)
    (hbase : attributeBase o name X.env (eval o X.env) = eval o X.env := by rfl) (hline : (apos.endLine == cpos.line) = true := by rfl) :
    SE X W0 (.Call (.Attribute o name apos) [] [] cpos) (mMt T om m mNil) :=
  pe_imp (pe_frz (pe_bm0 pa slot hty hm ho hbase hline)) fun σ H Q h => by
    obtain ⟨f, h, ps, s, sr, p⟩ := h
    refine ⟨f, h, ps, s, sr, (Post.bind (R1 := RW X.K) s back_W p).mono (fun v H1 hh => ?_) fun _ _ _ e => e⟩
    obtain ⟨f1, h1, x, s1, q1, p1⟩ := hh
    split at p1
    · rename_i ht
      exact ⟨tyW_of s1.sim q1 ht, hop f1 h1 H1 x v [] [] Q _ s1.sim q1 .nil p1⟩
    · exact p1.elim
/-- xs.append(x) -/
def wAppend (x : W) (xs : List W) (h : PH) : Option (W × PH) := match x, xs with
  | .ref n, [y] => match h[n]? with
    | some (.lst zs) => if zs.length < 16777216 then some (.non, h.set n (.lst (zs ++ [y]))) else none
    | _ => none
  | _, _ => none
theorem op_append : OpMt K rAppend wAppend := by
  intro f h H x v xs vs Q E s rx rxs p
  unfold wAppend at p
  split at p
  · rename_i n y
    split at p
    · rename_i zs hn
      split at p
      · rename_i hl
        obtain ⟨a, rfl, hf, us, h1, h2⟩ := s.at hn rx
        obtain ⟨u, rfl, ru⟩ := rxs.one_inv
        exact ⟨a, us, u, rfl, rfl, h1, by rw [← h2.length, sizeLine_eq]; exact hl, .inl (p f _ _ (s.put_lst hf (h2.append (.one ru)) fun _ _ z => by rw [h1] at z; cases z) (rep_non.mpr rfl))⟩
      · exact p.elim
    · exact p.elim
  · exact p.elim
theorem se_append {e1 : Expr} {m1 : EM} (hmt : MtR X "list.append" rAppend) (ho : SE X W0 o m) (ha : SE X W0 e1 m1) (hbase : attributeBase o "append" X.env (eval o X.env) = eval o X.env := by rfl)
    (hfew : ((backTo cpos (starEach [e1] X.env)).all (fun x => !x.1) && (backToKw cpos (keywordEach [] X.env)).all (fun x => x.1.isSome)
      && decide (([e1] : List Expr).length + ([] : List Keyword).length + (if ([] : List Keyword).isEmpty then 0 else 1) < 30)) = true := by rfl)
    (hline : (apos.endLine == cpos.line) = true := by rfl) (hs : starEach [e1] X.env = [(false, eval e1 X.env)] := by rfl) : SE X W0 (.Call (.Attribute o "append" apos) [e1] [] cpos) (mMt "list" wAppend m (mCons m1 mNil)) :=
  se_mt PySem.F.plainAttrs_list PySem.F.slot_list_append PySem.F.type_list_append hmt op_append ho (sa_cons ha sa_nil hs) hbase hfew hline hs

/-! ### dict displays -/
def mPairs : List (EM × EM) → LS → PH → Res (List (W × W))
  | [], _, h => .ok [] h
  | (mk, mv) :: r, ps, h => (mk ps h).bind fun x h1 => (mv ps h1).bind fun y h2 => (mPairs r ps h2).bind fun zs h3 => .ok ((x, y) :: zs) h3
def keysOf : List (W × W) → Option (List (Key × W))
  | [] => some []
  | (x, y) :: r => match keyW x, keysOf r with
    | some k, some s => some ((k, y) :: s)
    | _, _ => none
def mergeW (kvs more : List (Key × W)) : List (Key × W) := more.foldl (fun acc kv => putKW acc kv.1 kv.2) kvs
def mDisp (l : List (EM × EM)) : EM := fun ps h => (mPairs l ps h).bind fun zs h1 => match keysOf zs with
  | some kvs => if kvs.length ≤ 15 then .ok (.ref h1.length) (h1 ++ [.dK (mergeW [] kvs)]) else .stuck
  | none => .stuck
abbrev RP (K : PySem.W.Frag) : RR (List (W × W)) (List (V × V)) := fun _ f H ws vs => Reps K f H (ws.map (·.1)) (vs.map (·.1)) ∧ Reps K f H (ws.map (·.2)) (vs.map (·.2))
theorem back_P : Back K (RP K) := fun _ _ _ _ _ _ _ _ _ _ _ _ q => q
abbrev tMs (K : PySem.W.Frag) (W0 : WX) (l : List (EM × EM)) : List (TE × TE) := l.map fun p => (tE K W0 p.1, tE K W0 p.2)
abbrev SPs (X : Cx) (W0 : WX) (pos : Pos) (keys : List (Option Expr)) (values : List Expr) (l : List (EM × EM)) : Prop := PPs X pos keys values (tMs X.K W0 l)
theorem sps_nil : SPs X W0 pos [] [] [] := pps_nil
theorem sps_cons {k v : Expr} {ks : List (Option Expr)} {vs : List Expr} {mk mv : EM} {r : List (EM × EM)} (hk : SE X W0 k mk) (hv : SE X W0 v mv) (hr : SPs X W0 pos ks vs r) : SPs X W0 pos (some k :: ks) (v :: vs) ((mk, mv) :: r) := pps_cons hk hv hr
theorem tPairs_of : ∀ (l : List (EM × EM)) (f : List Addr) (h : PH) (H : Hp) (ps : LS) (σ : L2.St) (Q : List (V × V) → Hp → Prop), Sim K f h H → SRep K f H ps σ → Post K (RP K) f H (mPairs l ps h) Q (fun c d H' => W0 c d σ H') → tPairs (tMs K W0 l) σ H Q
  | [], f, h, H, ps, σ, Q, s, sr, p => p f H [] (.refl s) ⟨.nil, .nil⟩
  | (mk, mv) :: r, f, h, H, ps, σ, Q, s, sr, p => by
    refine ⟨f, h, ps, s, sr, (Post.bind (R1 := RW K) s back_P p).mono (fun v H1 hh => ?_) fun _ _ _ e => e⟩
    obtain ⟨f1, h1, x, s1, q1, p1⟩ := hh
    refine ⟨f1, h1, ps, s1.sim, s1.srep s sr, (Post.bind (R1 := RW K) s1.sim back_P p1).mono (fun u H2 hh => ?_) fun _ _ _ e => e⟩
    obtain ⟨f2, h2, y, s2, q2, p2⟩ := hh
    refine tPairs_of r f2 h2 H2 ps σ _ s2.sim (s2.srep s1.sim (s1.srep s sr)) ((Post.bind (R1 := RP K) s2.sim back_P p2).mono (fun us H3 hh => ?_) fun _ _ _ e => e)
    obtain ⟨f3, h3, zs, s3, q3, p3⟩ := hh
    exact p3 f3 H3 _ (.refl s3.sim) ⟨.cons (s3.rep s2.sim (s2.rep s1.sim q1)) q3.1, .cons (s3.rep s2.sim q2) q3.2⟩
theorem keys_rep {f : List Addr} {H : Hp} : ∀ {zs : List (W × W)} {vs : List (V × V)} {kvs : List (Key × W)}, keysOf zs = some kvs → Reps K f H (zs.map (·.1)) (vs.map (·.1)) → Reps K f H (zs.map (·.2)) (vs.map (·.2)) →
    ∃ us : List (Key × V), vs = us.map (fun kv => (kV kv.1, kv.2)) ∧ KRep K f H kvs us
  | [], vs, kvs, e, r1, r2 => by
    cases e
    have := r1.nil_inv
    cases vs with
    | nil => exact ⟨[], rfl, rfl⟩
    | cons a b => cases this
  | (x, y) :: t, vs, kvs, e, r1, r2 => by
    simp only [keysOf] at e
    split at e
    · rename_i k s ek es
      cases e
      cases vs with
      | nil => obtain ⟨v, r, z, _⟩ := r1.cons_inv; cases z
      | cons ab r =>
        obtain ⟨a, b⟩ := ab
        obtain ⟨v1, t1, z1, a1, a2⟩ := r1.cons_inv
        obtain ⟨v2, t2, z2, b1, b2⟩ := r2.cons_inv
        cases z1
        cases z2
        obtain ⟨us, rfl, kr⟩ := keys_rep es a2 b2
        exact ⟨(k, b) :: us, by rw [List.map_cons, ← key_rep ek a1], b, us, rfl, b1, kr⟩
    · cases e
theorem merge_rep {f : List Addr} {H : Hp} : ∀ {kvs : List (Key × W)} {us : List (Key × V)} {a : List (Key × W)} {b : List (Key × V)}, KRep K f H kvs us → KRep K f H a b → KRep K f H (mergeW a kvs) (mergeK b us)
  | [], us, a, b, r, q => by
    have r : us = [] := r
    subst r
    exact q
  | (k, w) :: t, us, a, b, r, q => by
    obtain ⟨v, s, rfl, r1, r2⟩ := r
    show KRep K f H (mergeW (putKW a k w) t) (mergeK (putK b k v) s)
    exact merge_rep r2 (q.put r1 k)
theorem Step.take_in {f f1 : List Addr} {h1 : PH} {H H1 : Hp} (st : Step K f H f1 h1 H1) {q : Addr} {o : OB} (hq : H q = none) (nq : q ∉ f1) (ho : ObjR K f1 H1 o q) : Step K f H (f1 ++ [q]) (h1 ++ [o]) H1 :=
  ⟨st.ext.trans (.snoc f1 q), fun x hx hn => by
    rcases List.mem_append.mp hx with m | m
    · exact st.new x m hn
    · rw [List.mem_singleton] at m
      rw [m]
      exact hq, st.grow, st.lk, st.sim.take_in nq ho⟩
theorem Step.own_dict {f f1 : List Addr} {h1 : PH} {H H1 : Hp} (st : Step K f H f1 h1 H1) {D : Addr} {vs us : List (Key × V)} (hD : H D = none) (nd : D ∉ f1) (e : H1 D = some (.dK vs)) : Step K f H f1 h1 (upd H1 D (.dK us)) ∧ Stay K H1 (upd H1 D (.dK us)) := by
  have key : ∀ a u, H1 a = some u → (∀ xs, u ≠ .dK xs) → upd H1 D (.dK us) a = some u := fun a u e2 n => by
    rw [upd_ne (fun z => by subst z; rw [e] at e2; cases e2; exact n _ rfl)]
    exact e2
  have sty : Stay K H1 (upd H1 D (.dK us)) := by
    refine ⟨fun a xs r => ?_, fun a xs r => ?_, fun a φ r => key _ _ r (fun _ z => by cases z), fun a gs r => key _ _ r (fun _ z => by cases z)⟩
    · rcases r with (r | ⟨o, r⟩) | r
      · exact .inl (.inl (key _ _ r (fun _ z => by cases z)))
      · exact .inl (.inr ⟨o, key _ _ r (fun _ z => by cases z)⟩)
      · exact .inr r
    · rcases r with ⟨o, r⟩ | r
      · exact .inl ⟨o, key _ _ r (fun _ z => by cases z)⟩
      · exact .inr r
  exact ⟨⟨st.ext, st.new, fun a u ea na => by
    rw [upd_ne (fun z => by subst z; rw [hD] at ea; cases ea)]
    exact st.grow a u ea na, fun a o vs ea => by
    have := st.lk a o vs ea
    rw [upd_ne (fun z => by subst z; rw [e] at this; cases this)]
    exact this, st.sim.len, st.sim.nd, fun n ob q => by
    obtain ⟨a, h1, h2⟩ := st.sim.obj n ob q
    exact ⟨a, h1, h2.mono (.refl f1) sty (upd_ne fun z => nd (z ▸ List.mem_of_getElem? h1))⟩⟩, sty⟩
theorem tE_disp {l : List (EM × EM)} {σ : L2.St} {H : Hp} {Q : VK} (h : tE K W0 (mDisp l) σ H Q) : tDisp (tMs K W0 l) σ H Q := by
  obtain ⟨f, h, ps, s, sr, p⟩ := h
  intro q hq
  have st := s.other (o := .dK []) hq
  have nq := s.fresh hq
  refine tPairs_of l f h _ ps σ _ st.sim (st.srep s sr) ?_
  have p : Post K (RW K) f H ((mPairs l ps h).bind _) Q _ := p
  cases e : mPairs l ps h with
  | stuck => rw [e] at p; exact p.elim
  | exc x h1 =>
    rw [e] at p
    exact fun f1 H1 c d s1 xr => p f1 H1 c d (st.trans s1) xr
  | ok zs h1 =>
    rw [e] at p
    intro f1 H1 vs s1 r1
    have p : Post K (RW K) f H (match keysOf zs with
      | some kvs => if kvs.length ≤ 15 then .ok (.ref h1.length) (h1 ++ [.dK (mergeW [] kvs)]) else .stuck
      | none => .stuck) Q _ := p
    cases ek : keysOf zs with
    | none => rw [ek] at p; exact p.elim
    | some kvs =>
      rw [ek] at p
      dsimp only at p
      split at p
      · rename_i hl
        obtain ⟨us, rfl, kr⟩ := keys_rep ek r1.1 r1.2
        have e0 : H1 q = some (.dK []) := s1.grow q _ upd_same nq
        have nq1 : q ∉ f1 := fun m => by
          have := s1.new q m nq
          rw [upd_same] at this
          cases this
        obtain ⟨s2, sty⟩ := (st.trans s1).own_dict (us := mergeK [] us) hq nq1 e0
        refine ⟨e0, us, rfl, by rw [← kr.length]; exact hl, p (f1 ++ [q]) _ _ (s2.take_in hq nq1 ⟨_, upd_same, KRep.mono (.refl f1) sty _ _ (merge_rep kr rfl)⟩) ?_⟩
        simp only [Rep]
        refine ⟨q, rfl, ?_⟩
        rw [List.getElem?_append_right (by rw [s1.sim.len]; omega), s1.sim.len]
        simp
      · exact p.elim
theorem se_dict {keys : List (Option Expr)} {values : List Expr} {l : List (EM × EM)} (hp : SPs X W0 pos keys values l) (hall : keys.all (·.isSome) = true := by rfl) (hl : keys.length = values.length := by rfl) (h0 : keys ≠ [] := by exact List.cons_ne_nil _ _)
    (h15 : keys.length ≤ 15 := by decide) : SE X W0 (.Dict keys values pos) (mDisp l) := pe_imp (pe_disp hp hall hl h0 h15) fun σ H Q h => tE_disp h
def mDict0 : EM := fun _ h => .ok (.ref h.length) (h ++ [.dK []])
theorem se_dict0 : SE X W0 (.Dict [] [] pos) mDict0 := pe_imp pe_dnewK fun σ H Q h => by
  obtain ⟨f, h, ps, s, sr, p⟩ := h
  intro q hq
  have st := s.other (o := .dK []) hq
  refine p (f ++ [q]) _ _ (st.take_in hq (s.fresh hq) ⟨[], upd_same, rfl⟩) ?_
  simp only [Rep]
  refine ⟨q, rfl, ?_⟩
  rw [List.getElem?_append_right (by rw [s.len]; omega), s.len]
  simp
end
/-- what is never come to -/
def sDead : SM := fun _ _ => .stuck
theorem ss_dead {X : Cx} {W0 : WX} {st : Stmt} : SS X W0 st sDead := ⟨fun pins s σ H D I h => by
  obtain ⟨f, h, ps, s, sr, p⟩ := h
  exact p.elim⟩
def big : Nat := 16777217
end Mir

/-! Mir: repr, join; the law's head. -/
namespace Mir
open PySem PySem.Spec PyProof.Rows L2

/-! ### repr -/
def wRepr : List W → PH → Option (W × PH)
  | [.str z], h => if (reprText z).length ≤ 16777216 then some (.str (reprText z), h) else none
  | [.int i], h => if i.natAbs.log2 < 1920 then some (.str (toString i), h) else none
  | [.tup xs], h => match dat h (.tup xs) with
    | some d => if d.showable = true ∧ d.hasDict = false ∧ d.depth ≤ 100 ∧ d.shown.length ≤ 16777216 then some (.str d.shown, h) else none
    | none => none
  | [.fix xs], h => match dat h (.fix xs) with
    | some d => if d.showable = true ∧ d.hasDict = false ∧ d.depth ≤ 100 ∧ d.shown.length ≤ 16777216 then some (.str d.shown, h) else none
    | none => none
  | [.ref n], h => match dat h (.ref n) with
    | some d => if d.showable = true ∧ d.hasDict = false ∧ d.depth ≤ 100 ∧ d.shown.length ≤ 16777216 then some (.str d.shown, h) else none
    | none => none
  | _, _ => none
abbrev rRepr (K : PySem.W.Frag) : List V → Hp → VK → Prop := fun xs H Q => (∃ a d, xs = [.ref a] ∧ Dp K H (.ref a) d ∧ d.showable = true ∧ d.hasDict = false ∧ d.depth ≤ 100 ∧ d.shown.length ≤ 16777216 ∧ Q (.str d.shown) H) ∨
  (∃ z, xs = [.str z] ∧ (reprText z).length ≤ 16777216 ∧ Q (.str (reprText z)) H) ∨ ∃ i, xs = [.int i] ∧ i.natAbs.log2 < 1920 ∧ Q (.str (toString i)) H
section
variable {K : PySem.W.Frag} {X : Cx} {W0 : WX} {e o : Expr} {es : List Expr} {m : EM} {l : LM} {p p2 pos : Pos}
theorem c_repr {k : Nat} (hr : Room k X.A) (gd : Gd X.A) : CallR X (.builtin "repr") (rRepr X.K) := by
  intro pins s σ H xs us Q I rv h
  rcases h with ⟨a, d, rfl, dp, h1, h2, h3, h4, q⟩ | ⟨z, rfl, hz, q⟩ | ⟨i, rfl, hi, q⟩
  · obtain ⟨u, rfl, ru⟩ := vals1 rv
    cases (show u = Value.ref a from ru)
    obtain ⟨as, rd⟩ := Dp.reads I d _ _ dp (show RelV (V.ref a) (Value.ref a) from rfl)
    have hu := hr.units
    refine PySem.repr_of_reads' rd h1 (PyData.noDict_hsm h2) gd ?_ (fun _ _ e => e) (fun h' t tk keep => ?_) (by rw [sizeLine_eq]; exact h4)
    · have : cLine ≥ X.A.units + 200 := by have := hr.un; omega
      omega
    · exact ⟨.str d.shown, H, I.kept (t' := tk) keep, ⟨t, rfl⟩, q⟩
  · obtain ⟨u, rfl, t, rfl⟩ := vals1 rv
    exact PySem.P.repr_of_str ⟨.str _, H, I.tok _, ⟨_, rfl⟩, q⟩ (by rw [sizeLine_eq]; exact hz)
  · exact SkE.call_repr_int pins s σ H _ us Q I rv ⟨i, rfl, hi, q⟩
theorem o_repr : OpC K (rRepr K) wRepr := by
  intro f h H xs vs Q E s r p
  unfold wRepr at p
  split at p
  · obtain ⟨v, rfl, r1⟩ := r.one_inv
    split at p
    · rename_i c
      exact .inr (.inl ⟨_, by rw [rep_str.mp r1], c, post_ok s p (rep_str.mpr rfl)⟩)
    · exact p.elim
  · obtain ⟨v, rfl, r1⟩ := r.one_inv
    split at p
    · rename_i c
      exact .inr (.inr ⟨_, by rw [rep_int.mp r1], c, post_ok s p (rep_str.mpr rfl)⟩)
    · exact p.elim
  · obtain ⟨v, rfl, r1⟩ := r.one_inv
    split at p
    · rename_i d e
      split at p
      · rename_i c
        have dd := dp s e r1
        obtain ⟨a, us, rfl, _⟩ := rep_tup.mp r1
        exact .inl ⟨a, d, rfl, dd, c.1, c.2.1, c.2.2.1, c.2.2.2, post_ok s p (rep_str.mpr rfl)⟩
      · exact p.elim
    · exact p.elim
  · obtain ⟨v, rfl, r1⟩ := r.one_inv
    split at p
    · rename_i d e
      split at p
      · rename_i c
        have dd := dp s e r1
        obtain ⟨a, us, rfl, _⟩ := rep_fix.mp r1
        exact .inl ⟨a, d, rfl, dd, c.1, c.2.1, c.2.2.1, c.2.2.2, post_ok s p (rep_str.mpr rfl)⟩
      · exact p.elim
    · exact p.elim
  · obtain ⟨v, rfl, r1⟩ := r.one_inv
    split at p
    · rename_i d e
      split at p
      · rename_i c
        have dd := dp s e r1
        simp only [Rep] at r1
        obtain ⟨a, rfl, _⟩ := r1
        exact .inl ⟨a, d, rfl, dd, c.1, c.2.1, c.2.2.1, c.2.2.2, post_ok s p (rep_str.mpr rfl)⟩
      · exact p.elim
    · exact p.elim
  · exact p.elim

/-! ### join -/
def wJoin (x : W) (xs : List W) (h : PH) : Option (W × PH) := match x, xs with
  | .str a, [y] => match (seqOf y h).bind strsW with
    | some ys => if (ys.map (·.length)).sum + ys.length * a.length ≤ 16777216 then some (.str (Txt.join a ys), h) else none
    | none => none
  | _, _ => none
abbrev rJoin (K : PySem.W.Frag) : V → List V → Hp → VK → Prop := fun x xs H Q => ∃ a p, ∃ ys : List Str, x = .str a ∧ xs = [.ref p] ∧ (SqL K H p (ys.map V.str) ∨ SqT K H p (ys.map V.str)) ∧ (ys.map (·.length)).sum + ys.length * a.length ≤ 16777216 ∧ Q (.str (Txt.join a ys)) H
theorem op_join : OpMt K (rJoin K) wJoin := by
  intro f h H x v xs vs Q E s rx rxs p
  unfold wJoin at p
  split at p
  · rename_i a y
    obtain ⟨u, rfl, ru⟩ := rxs.one_inv
    split at p
    · rename_i ys e
      obtain ⟨ws, e1, e2⟩ := Option.bind_eq_some_iff.mp e
      split at p
      · rename_i c
        obtain ⟨b, us, rfl, hq, r2⟩ := seqOf_rep s ru e1
        have := strsW_rep e2 r2
        subst this
        exact ⟨a, b, ys, rep_str.mp rx, rfl, hq, c, .inl (post_ok s p (rep_str.mpr rfl))⟩
      · exact p.elim
    · exact p.elim
  · exact p.elim
variable {apos cpos : Pos}
theorem se_join {e1 : Expr} {m1 : EM} (ho : SE X W0 o m) (ha : SE X W0 e1 m1) (hbase : attributeBase o "join" X.env (eval o X.env) = eval o X.env := by rfl)
    (hfew : ((backTo cpos (starEach [e1] X.env)).all (fun x => !x.1) && (backToKw cpos (keywordEach [] X.env)).all (fun x => x.1.isSome)
      && decide (([e1] : List Expr).length + ([] : List Keyword).length + (if ([] : List Keyword).isEmpty then 0 else 1) < 30)) = true := by rfl)
    (hline : (apos.endLine == cpos.line) = true := by rfl) (hs : starEach [e1] X.env = [(false, eval e1 X.env)] := by rfl) : SE X W0 (.Call (.Attribute o "join" apos) [e1] [] cpos) (mMt "str" wJoin m (mCons m1 mNil)) :=
  se_mt PySem.F.plainAttrs_str PySem.F.slot_str_join PySem.F.type_str_join mt_join op_join ho (sa_cons ha sa_nil hs) hbase hfew hline hs
end

/-! ### the head -/
/-- the law's script as it stands at the entry -/
def hScript (K : PySem.W.Frag) (a : Addr) (vs : List Value) (ns : List Int) : Hp := fun b => match K.lookup a with
  | some _ => none
  | none => if b = a then some (.frz { cls := .type "list", data := .seq vs.toArray } (.lst (ns.map V.int))) else none
theorem hScript_is {K : PySem.W.Frag} {a b : Addr} {vs : List Value} {ns : List Int} {u : HO} (e : hScript K a vs ns b = some u) : b = a ∧ K.lookup a = none ∧ u = .frz { cls := .type "list", data := .seq vs.toArray } (.lst (ns.map V.int)) := by
  unfold hScript at e
  split at e
  · cases e
  · rename_i q
    by_cases hb : b = a
    · rw [if_pos hb] at e
      cases e
      exact ⟨hb, q, rfl⟩
    · rw [if_neg hb] at e
      cases e
/-- what the law is to show: over the empty own heap, its script a list that never changes -/
def LawOk (F : FM) : Prop := ∀ ns : List Int, ns.length ≤ 63 → (∀ z ∈ ns, Builtin.Int.intBits z ≤ 1048576) → ∃ g, F [.fix (ns.map W.int)] [] = .ok (.bl true) g
theorem head_run {P : Program} {w : World} {K : PySem.W.Frag} {mg mb : Str → Option Value} {k : Nat} {fa a : Addr} {fd : FuncData} {x : Str} {t : Shared} {vs : List Value} {ns : List Int} {F : FM} (kin : K.In t.heap) (nsg : t.heap.Ns mainGlobals mg) (nsb : t.heap.Ns builtinsNs mb)
    (blt : ∀ x : Str, x ≠ "__name__" → mb x = bootBuiltins x) (lim : t.heap.NoLimit) (gens : t.gens = #[]) (at0 : t.heap.get? a = some { cls := .type "list", data := .seq vs.toArray }) (iv : IntsAre vs ns) (len : ns.length ≤ 63) (bits : ∀ z ∈ ns, Builtin.Int.intBits z ≤ 1048576) (room : Room k callerA)
    (FK : ∀ base : Heap, K.In base → base.Ns mainGlobals mg → FnG P w K mg base k fa fd [x] (SPm K 1 F)) (bnd : ∀ (s : Shared) (u : Value), BindsTo s fd ⟨[u], []⟩ [(x, u)]) (law : LawOk F) :
    codeAny (model P w) callerA (.call (.ref fa) ⟨[.ref a], []⟩) (fun r t' => r = .ok (.ret (.bool true)) ∧ OldK t.heap t'.heap ∧ t'.os = t.os ∧ AllBare t'.gens) t := by
  have rv := vals_ints iv
  have short : ns.length ≤ sizeLine := Nat.le_trans len (by rw [sizeLine_eq]; decide)
  let H := hScript K a vs ns
  have hok : HOk P w H t.heap := fun b u e => by
    obtain ⟨rfl, _, rfl⟩ := hScript_is e
    exact ⟨at0, by rw [List.length_map]; exact short, vs, _, rv, at0⟩
  have fixed : FixL K H a (ns.map V.int) := by
    cases q : K.lookup a with
    | some o =>
      have e := kin a o q
      rw [at0] at e
      cases e
      exact .inr ⟨_, vs.toArray, _, q, rfl, rfl, rfl, by rw [List.size_toArray, iv.length]; exact short, by simpa using rv⟩
    | none => exact .inl ⟨_, by show hScript K a vs ns a = _; unfold hScript; rw [q]; exact if_pos rfl⟩
  have clear : ∀ {b : Addr} {o : Obj}, t.heap.get? b = some o → (b = a → K.lookup a = none → False) → (hidT t.heap H).get? b = some o := fun {b o} e z => hidT_get e (by
    cases q : H b with
    | none => rfl
    | some u =>
      obtain ⟨e1, e2, _⟩ := hScript_is q
      exact (z e1 e2).elim)
  have spaces : ∀ {b : Addr} {m : Str → Option Value}, t.heap.Ns b m → (hidT t.heap H).Ns b m := fun {b m} hh => by
    obtain ⟨o, es, ep, e, d, r⟩ := hh
    refine ⟨o, es, ep, clear e fun z _ => ?_, d, r⟩
    subst z
    rw [at0] at e
    cases e
    cases d
  have kin2 : K.In (hidT t.heap H) := fun b o e => clear (kin b o e) fun z q => by
    subst z
    rw [e] at q
    cases q
  have e0 : Env0 P w K mg (hidT t.heap H) callerA [] t H := ⟨rfl, ⟨kin2, spaces nsg, ⟨mb, spaces nsb, blt⟩, by obtain ⟨mc, h1, h2⟩ := lim; exact ⟨mc, spaces h1, h2⟩⟩, fun b o e => of_hidT e, Nat.le_of_eq (hidT_size _ _), trivial,
    fun b hb => (by cases hb), hok, .of_eq gens⟩
  obtain ⟨g, eg⟩ := law ns len bits
  have goal : SPm K 1 F [.ref a] H (fun v _ => v = .bl true) fun _ _ _ => False := by
    refine ⟨rfl, [], [], [.fix (ns.map W.int)], ⟨rfl, List.nodup_nil, fun n o e => by simp at e⟩, .one (rep_fix.mpr ⟨a, _, rfl, fixed, reps_ints ns⟩), ?_⟩
    rw [eg]
    exact fun f' H' v s' r => rep_bl.mp r
  refine codeAny_mono ((FK _ kin2 (spaces nsg)).run callerA [] t H ⟨[.ref a], []⟩ [.ref a] [.ref a] _ _ room rfl e0 (bnd t (.ref a)) (.cons rfl .nil) goal) ?_
  rintro (er | fl) t2 h
  · obtain ⟨_, _, _, _, _, _, _, _, _, _, _, _, z⟩ := h
    exact z.elim
  · cases fl with
    | ret u =>
      obtain ⟨v, H2, os, bare, un, hok2, ru, q⟩ := h
      have q : v = .bl true := q
      subst q
      cases (show u = Value.bool true from ru)
      refine ⟨rfl, OldK.of_keep fun b o e => ?_, os, bare⟩
      cases q : H b with
      | none => exact un.keep b o e q (fun z => by cases z) (fun z => by cases z)
      | some u =>
        obtain ⟨rfl, _, rfl⟩ := hScript_is q
        rw [at0] at e
        cases e
        exact (hok2 _ _ (un.frzs _ _ _ q)).1
    | _ => exact False.elim h
theorem walk_m {l : PySem.W.OpenLaw} {k : Nat} {q : Program} {loose : List Str} {XP : (Str → Option Value) → Heap → Prop} {YP : World → Heap → Prop} {d : DefRec} {K : Params → PySem.W.Frag} {x : Str} {F : FM} (hn : l.most = some 63) (hdf : d.params.defaults = []) (room : Room k callerA)
    (hY : ∀ (w : World) (h : Heap), YP w h → (K w.params).In h) (law : LawOk F)
    (FK : ∀ (w : World) (mg : Str → Option Value) (fa : Addr) (h : Heap), (K w.params).In h → h.Ns mainGlobals mg → mg d.name = some (.ref fa) →
      ∃ fd : FuncData, (∀ (s : Shared) (u : Value), BindsTo s fd ⟨[u], []⟩ [(x, u)]) ∧ ∀ base : Heap, (K w.params).In base → base.Ns mainGlobals mg → FnG l.prog w (K w.params) mg base k fa fd [x] (SPm (K w.params) 1 F)) :
    PySem.W.WalkO q loose XP YP l.row.toRowW d [] (fun f vs => PySem.call f vs) := by
  refine Att.attach_callB hn hdf fun w s₀ t mg mb fa o pm cd doc a vs ns G Y ho hd hcd hmg at0 iv len bits gens => ?_
  obtain ⟨fd, bnd, FF⟩ := FK w mg fa _ (hY w _ Y) G.T.g hmg
  exact head_run (hY w _ Y) G.T.g G.T.b G.T.builtins G.T.nolimit gens at0 iv len bits room FF bnd law
end Mir

/-! Mir: a def run alone, upon nothing or upon one thing of the heap; what it makes is carried out. -/
namespace Mir
open PySem PySem.Spec PyProof.Rows L2

mutual
def refsW : W → List Nat
  | .tup xs => refsWs xs
  | .fix xs => refsWs xs
  | .ref n => [n]
  | _ => []
def refsWs : List W → List Nat
  | [] => []
  | x :: xs => refsW x ++ refsWs xs
end
def refsK {κ : Type} : List (κ × W) → List Nat
  | [] => []
  | (_, x) :: r => refsW x ++ refsK r
def refsO : OB → List Nat
  | .lst xs => refsWs xs
  | .dK kvs => refsK kvs
  | .ins _ fs => refsK fs
  | .lk kvs => refsK kvs
mutual
def renW (f : Nat → Nat) : W → W
  | .tup xs => .tup (renWs f xs)
  | .fix xs => .fix (renWs f xs)
  | .ref n => .ref (f n)
  | .non => .non
  | .bl b => .bl b
  | .int i => .int i
  | .str x => .str x
  | .exc x => .exc x
def renWs (f : Nat → Nat) : List W → List W
  | [] => []
  | x :: xs => renW f x :: renWs f xs
end
def renK {κ : Type} (f : Nat → Nat) : List (κ × W) → List (κ × W)
  | [] => []
  | (k, x) :: r => (k, renW f x) :: renK f r
def renO (f : Nat → Nat) : OB → OB
  | .lst xs => .lst (renWs f xs)
  | .dK kvs => .dK (renK f kvs)
  | .ins C fs => .ins C (renK f fs)
  | .lk kvs => .lk (renK f kvs)
section
variable {M : Nat → Nat → Prop} {f : Nat → Nat}
mutual
theorem emb_ren : ∀ w : W, (∀ k ∈ refsW w, M k (f k)) → Emb M w (renW f w)
  | .non, _ => by simp only [renW, Emb]
  | .bl _, _ => by simp only [renW, Emb]
  | .int _, _ => by simp only [renW, Emb]
  | .str _, _ => by simp only [renW, Emb]
  | .exc _, _ => by simp only [renW, Emb]
  | .tup xs, h => by
    simp only [renW, Emb]
    exact ⟨_, rfl, embs_ren xs (by simpa only [refsW] using h)⟩
  | .fix xs, h => by
    simp only [renW, Emb]
    exact ⟨_, rfl, embs_ren xs (by simpa only [refsW] using h)⟩
  | .ref n, h => by
    simp only [renW, Emb]
    exact ⟨_, rfl, h n (by simp [refsW])⟩
theorem embs_ren : ∀ ws : List W, (∀ k ∈ refsWs ws, M k (f k)) → Embs M ws (renWs f ws)
  | [], _ => by simp only [renWs, Embs]
  | x :: xs, h => by
    simp only [renWs, Embs]
    simp only [refsWs, List.mem_append] at h
    exact ⟨_, _, rfl, emb_ren x fun k hk => h k (.inl hk), embs_ren xs fun k hk => h k (.inr hk)⟩
end
theorem embk_ren {κ : Type} : ∀ ws : List (κ × W), (∀ k ∈ refsK ws, M k (f k)) → KEmb M ws (renK f ws)
  | [], _ => rfl
  | (k, x) :: r, h => by
    simp only [refsK, List.mem_append] at h
    exact ⟨_, _, rfl, emb_ren x fun k hk => h k (.inl hk), embk_ren r fun k hk => h k (.inr hk)⟩
theorem embo_ren (o : OB) (h : ∀ k ∈ refsO o, M k (f k)) : EmbO M o (renO f o) := by
  cases o with
  | lst xs => exact ⟨_, rfl, embs_ren xs h⟩
  | dK xs => exact ⟨_, rfl, embk_ren xs h⟩
  | ins C xs => exact ⟨_, rfl, embk_ren xs h⟩
  | lk xs => exact ⟨_, rfl, embk_ren xs h⟩
mutual
theorem ren_id : ∀ w : W, refsW w = [] → renW f w = w
  | .non, _ => rfl
  | .bl _, _ => rfl
  | .int _, _ => rfl
  | .str _, _ => rfl
  | .exc _, _ => rfl
  | .tup xs, h => by simp only [renW, rens_id xs (by simpa only [refsW] using h)]
  | .fix xs, h => by simp only [renW, rens_id xs (by simpa only [refsW] using h)]
  | .ref n, h => by simp [refsW] at h
theorem rens_id : ∀ ws : List W, refsWs ws = [] → renWs f ws = ws
  | [], _ => rfl
  | x :: xs, h => by
    simp only [refsWs, List.append_eq_nil_iff] at h
    simp only [renWs, ren_id x h.1, rens_id xs h.2]
end
theorem renk_id {κ : Type} : ∀ ws : List (κ × W), refsK ws = [] → renK f ws = ws
  | [], _ => rfl
  | (k, x) :: r, h => by
    simp only [refsK, List.append_eq_nil_iff] at h
    simp only [renK, ren_id x h.1, renk_id r h.2]
theorem reno_id (o : OB) (h : refsO o = []) : renO f o = o := by
  cases o with
  | lst xs => simp only [renO, rens_id xs h]
  | dK xs => simp only [renO, renk_id xs h]
  | ins C xs => simp only [renO, renk_id xs h]
  | lk xs => simp only [renO, renk_id xs h]
end
/-- the things that a value leans on, three deep -/
def objs (g : PH) (ks : List Nat) : List Nat := ks.flatMap fun k => match g[k]? with
  | some o => refsO o
  | none => []
def reach (g : PH) (l0 : List Nat) : List Nat := l0 ++ objs g l0 ++ objs g (objs g l0)
def pos (κ : List Nat) (n : Nat) (k : Nat) : Nat := n + κ.idxOf k
def news (g : PH) (κ : List Nat) (n : Nat) : PH := κ.filterMap fun k => (g[k]?).map (renO (pos κ n))
/-- all that is reached is reached once, lies in g behind m things, and nothing else is -/
def apt (g : PH) (l0 κ : List Nat) (m : Nat) : Bool := decide κ.Nodup && κ.all (fun k => decide (m ≤ k ∧ k < g.length)) && (objs g κ).all (fun k => decide (k ∈ κ)) && l0.all fun k => decide (k ∈ κ)
theorem apt_of {g : PH} {l0 κ : List Nat} {m : Nat} (h : apt g l0 κ m = true) : κ.Nodup ∧ (∀ k ∈ κ, m ≤ k ∧ k < g.length) ∧ (∀ k ∈ κ, ∀ o, g[k]? = some o → ∀ j ∈ refsO o, j ∈ κ) ∧ ∀ k ∈ l0, k ∈ κ := by
  unfold apt at h
  simp only [Bool.and_eq_true, decide_eq_true_eq, List.all_eq_true] at h
  obtain ⟨⟨⟨h1, h2⟩, h3⟩, h4⟩ := h
  exact ⟨h1, h2, fun k hk o e j hj => h3 j (by
    unfold objs
    refine List.mem_flatMap.mpr ⟨k, hk, ?_⟩
    rw [e]
    exact hj), h4⟩
theorem news_get {g : PH} {κ : List Nat} {n m : Nat} (h2 : ∀ k ∈ κ, m ≤ k ∧ k < g.length) : (news g κ n).length = κ.length ∧ ∀ (j i : Nat), κ[j]? = some i → ∃ o, g[i]? = some o ∧ (news g κ n)[j]? = some (renO (pos κ n) o) := by
  have key : ∀ (l : List Nat) (f : Nat → Nat), (∀ k ∈ l, k < g.length) → (l.filterMap fun k => (g[k]?).map (renO f)).length = l.length ∧ ∀ (j i : Nat), l[j]? = some i → ∃ o, g[i]? = some o ∧ (l.filterMap fun k => (g[k]?).map (renO f))[j]? = some (renO f o) := by
    intro l f
    induction l with
    | nil => exact fun _ => ⟨rfl, fun j i e => by simp at e⟩
    | cons a l ih =>
      intro h
      obtain ⟨i1, i2⟩ := ih fun k hk => h k (List.mem_cons_of_mem _ hk)
      have ha := h a List.mem_cons_self
      have e : ((a :: l).filterMap fun k => (g[k]?).map (renO f)) = renO f g[a] :: l.filterMap fun k => (g[k]?).map (renO f) := by
        simp [List.filterMap_cons, List.getElem?_eq_getElem ha]
      refine ⟨by rw [e, List.length_cons, List.length_cons, i1], fun j i q => ?_⟩
      rw [e]
      cases j with
      | zero =>
        simp at q
        subst q
        exact ⟨_, List.getElem?_eq_getElem ha, rfl⟩
      | succ j => exact i2 j i (by simpa using q)
  exact key κ _ fun k hk => (h2 k hk).2
/-- what the run upon the part makes of the whole -/
def outR (ρ : List Nat) (h hb : PH) (r : Res W) : Res W := match r with
  | .ok w g => let κ := reach g (refsW w)
    if apt g (refsW w) κ ρ.length = true then .ok (renW (pos κ h.length) w) (hb ++ news g κ h.length) else .stuck
  | .exc x _ => .exc x hb
  | .stuck => .stuck
/-- upon nothing -/
def lift0 (F : FM) : FM := fun ws h => if refsWs ws = [] then outR [] h h (F ws []) else .stuck
theorem back0 {h g : PH} {l0 κ : List Nat} (ha : apt g l0 κ 0 = true) : Back2 [] κ h g (h ++ news g κ h.length) := by
  obtain ⟨h1, h2, h3, h4⟩ := apt_of ha
  obtain ⟨n1, n2⟩ := news_get (n := h.length) h2
  refine ⟨h1, fun i hi => ⟨Nat.zero_le _, (h2 i hi).2⟩, by rw [List.length_append, n1], fun n hn _ => List.getElem?_append_left hn, fun i n e => by simp at e, fun j i e => ?_⟩
  obtain ⟨o, e1, e2⟩ := n2 j i e
  refine ⟨o, _, e1, by rw [List.getElem?_append_right (Nat.le_add_right _ _), Nat.add_sub_cancel_left]; exact e2, embo_ren o fun k hk => .inr ⟨κ.idxOf k, ?_, rfl⟩⟩
  have hm := h3 i (List.mem_of_getElem? e) o e1 k hk
  rw [List.getElem?_eq_getElem (List.idxOf_lt_length_of_mem hm), List.getElem_idxOf]
theorem embs_refl (M : Nat → Nat → Prop) (ws : List W) (h : refsWs ws = []) : Embs M ws ws := by
  have := embs_ren (M := M) (f := id) ws (by rw [h]; exact fun _ z => by cases z)
  rwa [rens_id ws h] at this
theorem fits_lift0 (F : FM) : Fits F (lift0 F) := by
  intro ws h
  unfold lift0
  by_cases hw : refsWs ws = []
  · rw [if_pos hw]
    refine .inr ⟨[], ws, [], List.nodup_nil, fun n hn => (by cases hn), rfl, fun i n e => (by simp at e), embs_refl _ ws hw, ?_⟩
    rw [if_pos hw]
    unfold outR
    cases F ws [] with
    | stuck => exact trivial
    | exc x g => exact ⟨[], ⟨List.nodup_nil, fun i hi => (by cases hi), by simp, fun n hn _ => rfl, fun i n e => (by simp at e), fun j i e => by simp at e⟩, rfl⟩
    | ok w g =>
      dsimp only
      split
      · rename_i ha
        obtain ⟨h1, h2, h3, h4⟩ := apt_of ha
        refine ⟨_, back0 ha, emb_ren w fun k hk => .inr ⟨_, ?_, rfl⟩⟩
        have hm := h4 k hk
        rw [List.getElem?_eq_getElem (List.idxOf_lt_length_of_mem hm), List.getElem_idxOf]
      · exact trivial
  · rw [if_neg hw]
    exact .inl rfl
/-- upon the thing at the first argument -/
def lift1 (F : FM) : FM := fun ws h => match ws with
  | .ref n :: r => match h[n]? with
    | some o => if refsO o = [] ∧ refsWs r = [] then (match F (.ref 0 :: r) [o] with
      | .ok w (o2 :: g) => if refsO o2 = [] then outR [n] h (h.set n o2) (.ok w (o2 :: g)) else .stuck
      | .exc x (o2 :: g) => if refsO o2 = [] then outR [n] h (h.set n o2) (.exc x (o2 :: g)) else .stuck
      | _ => .stuck) else .stuck
    | none => .stuck
  | _ => .stuck
theorem back1 {h g : PH} {l0 κ : List Nat} {n : Nat} {o2 : OB} (hn : n < h.length) (ho : refsO o2 = []) (ha : apt (o2 :: g) l0 κ 1 = true) : Back2 [n] κ h (o2 :: g) (h.set n o2 ++ news (o2 :: g) κ h.length) := by
  obtain ⟨h1, h2, h3, h4⟩ := apt_of ha
  obtain ⟨n1, n2⟩ := news_get (n := h.length) h2
  refine ⟨h1, fun i hi => h2 i hi, by rw [List.length_append, n1, List.length_set], fun m hm q => ?_, fun i m e => ?_, fun j i e => ?_⟩
  · rw [List.getElem?_append_left (by rw [List.length_set]; exact hm), List.getElem?_set_ne fun z => q (by simp [z])]
  · cases i with
    | zero =>
      simp at e
      subst e
      refine ⟨o2, o2, rfl, by rw [List.getElem?_append_left (by rw [List.length_set]; exact hn), List.getElem?_set_self hn], ?_⟩
      have := embo_ren (M := Mp [n] κ h.length) (f := id) o2 (by rw [ho]; exact fun _ z => by cases z)
      rwa [reno_id o2 ho] at this
    | succ i => simp at e
  · obtain ⟨o, e1, e2⟩ := n2 j i e
    refine ⟨o, _, e1, by rw [List.getElem?_append_right (by rw [List.length_set]; exact Nat.le_add_right _ _), List.length_set, Nat.add_sub_cancel_left]; exact e2, embo_ren o fun k hk => .inr ⟨κ.idxOf k, ?_, rfl⟩⟩
    have hm := h3 i (List.mem_of_getElem? e) o e1 k hk
    rw [List.getElem?_eq_getElem (List.idxOf_lt_length_of_mem hm), List.getElem_idxOf]
theorem fits_lift1 (F : FM) : Fits F (lift1 F) := by
  intro ws h
  match ws with
  | .ref n :: r =>
    cases e : h[n]? with
    | none => exact .inl (by simp only [lift1, e])
    | some o =>
      by_cases hc : refsO o = [] ∧ refsWs r = []
      · have hn : n < h.length := (List.getElem?_eq_some_iff.mp e).1
        have eo : ∀ M, EmbO M o o := fun M => by
          have := embo_ren (M := M) (f := id) o (by rw [hc.1]; exact fun _ z => by cases z)
          rwa [reno_id o hc.1] at this
        refine .inr ⟨[n], .ref 0 :: r, [o], by simp, fun m hm => by rw [List.mem_singleton.mp hm]; exact hn, rfl, fun i m q => ?_, ?_, ?_⟩
        · cases i with
          | zero =>
            simp at q
            subst q
            exact ⟨o, o, rfl, e, eo _⟩
          | succ i => simp at q
        · simp only [Embs]
          exact ⟨_, _, rfl, by simp only [Emb]; exact ⟨n, rfl, rfl⟩, embs_refl _ r hc.2⟩
        · have eS : lift1 F (.ref n :: r) h = (match F (.ref 0 :: r) [o] with
            | .ok w (o2 :: g) => if refsO o2 = [] then outR [n] h (h.set n o2) (.ok w (o2 :: g)) else .stuck
            | .exc x (o2 :: g) => if refsO o2 = [] then outR [n] h (h.set n o2) (.exc x (o2 :: g)) else .stuck
            | _ => .stuck) := by simp only [lift1, e]; rw [if_pos hc]
          rw [eS]
          cases F (.ref 0 :: r) [o] with
          | stuck => exact trivial
          | exc x g =>
            cases g with
            | nil => exact trivial
            | cons o2 g =>
              dsimp only
              split
              · rename_i ho
                unfold outR
                dsimp only
                refine ⟨[], ⟨List.nodup_nil, fun i hi => (by cases hi), by simp, fun m hm q => List.getElem?_set_ne fun z => q (by simp [z]), fun i m q => ?_, fun j i q => by simp at q⟩, rfl⟩
                cases i with
                | zero =>
                  simp at q
                  subst q
                  refine ⟨o2, o2, rfl, List.getElem?_set_self hn, ?_⟩
                  have := embo_ren (M := Mp [n] [] h.length) (f := id) o2 (by rw [ho]; exact fun _ z => by cases z)
                  rwa [reno_id o2 ho] at this
                | succ i => simp at q
              · exact trivial
          | ok w g =>
            cases g with
            | nil => exact trivial
            | cons o2 g =>
              dsimp only
              split
              · rename_i ho
                unfold outR
                dsimp only
                split
                · rename_i ha
                  obtain ⟨h1, h2, h3, h4⟩ := apt_of ha
                  refine ⟨_, back1 hn ho ha, emb_ren w fun k hk => .inr ⟨_, ?_, rfl⟩⟩
                  have hm := h4 k hk
                  rw [List.getElem?_eq_getElem (List.idxOf_lt_length_of_mem hm), List.getElem_idxOf]
                · exact trivial
              · exact trivial
      · exact .inl (by simp only [lift1, e]; rw [if_neg hc])
  | [] => exact .inl rfl
  | .non :: r => exact .inl rfl
  | .bl _ :: r => exact .inl rfl
  | .int _ :: r => exact .inl rfl
  | .str _ :: r => exact .inl rfl
  | .tup _ :: r => exact .inl rfl
  | .fix _ :: r => exact .inl rfl
  | .exc _ :: r => exact .inl rfl

/-! ### how they are used -/
section
variable {F : FM} {ws r : List W} {h g : PH} {w : W} {n : Nat} {o o2 : OB}
theorem apt_nil {m : Nat} : apt g [] (reach g []) m = true := by
  simp [apt, reach, objs]
theorem out_plain {ρ : List Nat} {hb : PH} (e : refsW w = []) : outR ρ h hb (.ok w g) = .ok w hb := by
  unfold outR
  dsimp only
  rw [e, if_pos apt_nil, ren_id w e]
  simp [news, reach, objs]
theorem lift0_plain (hw : refsWs ws = []) (e : F ws [] = .ok w g) (hr : refsW w = []) : lift0 F ws h = .ok w h := by
  unfold lift0
  rw [if_pos hw, e, out_plain hr]
theorem out_list {ρ : List Nat} {hb : PH} {k : Nat} {xs : List W} (e : g[k]? = some (.lst xs)) (hx : refsWs xs = []) (hk : ρ.length ≤ k) : outR ρ h hb (.ok (.ref k) g) = .ok (.ref h.length) (hb ++ [.lst xs]) := by
  have r1 : objs g [k] = [] := by simp [objs, e, refsO, hx]
  have r2 : objs g [] = [] := rfl
  have rk : reach g [k] = [k] := by unfold reach; rw [r1, r2]; rfl
  have hl := (List.getElem?_eq_some_iff.mp e).1
  unfold outR
  dsimp only
  have er : refsW (.ref k) = [k] := by simp only [refsW]
  rw [er, rk, if_pos (by simp [apt, r1, hl, hk])]
  simp [renW, pos, news, e, renO, rens_id xs hx]
theorem lift0_list {k : Nat} {xs : List W} (hw : refsWs ws = []) (e : F ws [] = .ok (.ref k) g) (eg : g[k]? = some (.lst xs)) (hx : refsWs xs = []) : lift0 F ws h = .ok (.ref h.length) (h ++ [.lst xs]) := by
  unfold lift0
  rw [if_pos hw, e, out_list eg hx (Nat.zero_le _)]
theorem lift1_plain (en : h[n]? = some o) (ho : refsO o = []) (hw : refsWs r = []) (e : F (.ref 0 :: r) [o] = .ok w (o2 :: g)) (h2 : refsO o2 = []) (hr : refsW w = []) : lift1 F (.ref n :: r) h = .ok w (h.set n o2) := by
  simp only [lift1, en]
  rw [if_pos ⟨ho, hw⟩, e]
  dsimp only
  rw [if_pos h2, out_plain hr]
theorem lift1_list {k : Nat} {xs : List W} (en : h[n]? = some o) (ho : refsO o = []) (hw : refsWs r = []) (e : F (.ref 0 :: r) [o] = .ok (.ref (k + 1)) (o2 :: g)) (h2 : refsO o2 = []) (eg : g[k]? = some (.lst xs)) (hx : refsWs xs = []) :
    lift1 F (.ref n :: r) h = .ok (.ref h.length) (h.set n o2 ++ [.lst xs]) := by
  simp only [lift1, en]
  rw [if_pos ⟨ho, hw⟩, e]
  dsimp only
  rw [if_pos h2, out_list (by simpa using eg) hx (by simp)]
end
end Mir

/-! Mir: what a computation ends in, piece by piece (for the plain laws). -/
namespace Mir
open PySem PySem.Spec PyProof.Rows L2

@[irreducible] def Res.To {α : Type} (r : Res α) (Q : α → PH → Prop) : Prop := match r with
  | .ok a h => Q a h
  | _ => False
@[irreducible] def SRes.To (r : SRes) (N : LS → PH → Prop) (R : W → PH → Prop) (B C : LS → PH → Prop) : Prop := match r with
  | .nx ps h => N ps h
  | .rt w h => R w h
  | .bk ps h => B ps h
  | .ct ps h => C ps h
  | _ => False
/-- one of two, by a truth -/
@[irreducible] def Ite (b : Bool) (A B : Prop) : Prop := if b = true then A else B
section
variable {A B : Prop} {b : Bool} {p : Prop} [i : Decidable p]
@[simp] theorem Ite_true : Ite true A B = A := by unfold Ite; rfl
@[simp] theorem Ite_false : Ite false A B = B := by unfold Ite; rfl
@[simp] theorem Ite_not : Ite (!b) A B = Ite b B A := by cases b <;> simp
theorem Ite.of (h : p → A) (k : ¬ p → B) : Ite (decide p) A B := by
  by_cases q : p
  · rw [decide_eq_true q, Ite_true]; exact h q
  · rw [decide_eq_false q, Ite_false]; exact k q
theorem Ite.yes (q : p) (h : A) : Ite (decide p) A B := Ite.of (fun _ => h) fun z => absurd q z
theorem Ite.no (q : ¬ p) (h : B) : Ite (decide p) A B := Ite.of (fun z => absurd z q) fun _ => h
theorem Ite.ofB (h : b = true → A) (k : b = false → B) : Ite b A B := by
  cases b
  · rw [Ite_false]; exact k rfl
  · rw [Ite_true]; exact h rfl
end
/-- of a truth -/
@[irreducible] def BTo (x : W) (Q : Bool → Prop) : Prop := match x with
  | .bl b => Q b
  | _ => False
theorem bto_no {x : W} {Q : Bool → Prop} (h : ∀ b, x ≠ .bl b) : BTo x Q = False := by
  unfold BTo
  cases x with
  | bl b => exact absurd rfl (h b)
  | _ => rfl
@[simp] theorem bto_non {Q : Bool → Prop} : BTo .non Q = False := bto_no fun _ z => by cases z
@[simp] theorem bto_int {Q : Bool → Prop} {i : Int} : BTo (.int i) Q = False := bto_no fun _ z => by cases z
@[simp] theorem bto_str {Q : Bool → Prop} {i : Str} : BTo (.str i) Q = False := bto_no fun _ z => by cases z
@[simp] theorem bto_tup {Q : Bool → Prop} {i : List W} : BTo (.tup i) Q = False := bto_no fun _ z => by cases z
@[simp] theorem bto_fix {Q : Bool → Prop} {i : List W} : BTo (.fix i) Q = False := bto_no fun _ z => by cases z
@[simp] theorem bto_exc {Q : Bool → Prop} {i : XV} : BTo (.exc i) Q = False := bto_no fun _ z => by cases z
@[simp] theorem bto_ref {Q : Bool → Prop} {i : Nat} : BTo (.ref i) Q = False := bto_no fun _ z => by cases z
@[simp] theorem bto_bl {b : Bool} {Q : Bool → Prop} : BTo (.bl b) Q = Q b := by unfold BTo; rfl
/-- of what may be there -/
@[irreducible] def OTo {α : Type} (o : Option α) (Q : α → Prop) : Prop := match o with
  | some a => Q a
  | none => False
@[irreducible] def PTo {α : Type} (o : Option (α × PH)) (Q : α → PH → Prop) : Prop := match o with
  | some p => Q p.1 p.2
  | none => False
section
variable {α β : Type} {Q : α → Prop} {P : α → PH → Prop} {h : PH}
@[simp] theorem oto_some {a : α} : OTo (some a) Q = Q a := by unfold OTo; rfl
@[simp] theorem oto_none : OTo none Q = False := by unfold OTo; rfl
@[simp] theorem oto_ite {c : Prop} [Decidable c] {o : Option α} : OTo (if c then o else none) Q = (c ∧ OTo o Q) := by
  by_cases hc : c <;> simp [hc]
@[simp] theorem oto_map {f : β → α} {o : Option β} : OTo (o.map f) Q = OTo o fun b => Q (f b) := by cases o <;> simp
@[simp] theorem oto_bind {f : β → Option α} {o : Option β} : OTo (o.bind f) Q = OTo o fun b => OTo (f b) Q := by cases o <;> simp
@[simp] theorem pto_some {a : α} : PTo (some (a, h)) P = P a h := by unfold PTo; rfl
@[simp] theorem pto_none : PTo none P = False := by unfold PTo; rfl
@[simp] theorem pto_ite {c : Prop} [Decidable c] {o : Option (α × PH)} : PTo (if c then o else none) P = (c ∧ PTo o P) := by
  by_cases hc : c <;> simp [hc]
@[simp] theorem pto_map {f : β → α} {o : Option β} : PTo (o.map fun b => (f b, h)) P = OTo o fun b => P (f b) h := by cases o <;> simp
@[simp] theorem pto_map0 {o : Option α} : PTo (o.map fun b => (b, h)) P = OTo o fun b => P b h := by cases o <;> simp
theorem oto_is {o : Option α} (q : OTo o Q) : ∃ a, o = some a ∧ Q a := by
  cases o with
  | some a => exact ⟨a, rfl, by simpa using q⟩
  | none => simp at q
theorem OTo.mono {Q' : α → Prop} {o : Option α} (q : OTo o Q) (i : ∀ a, Q a → Q' a) : OTo o Q' := by
  cases o with
  | some a => simp at q ⊢; exact i a q
  | none => simp at q
end
theorem Res.To.mono {α : Type} {r : Res α} {Q Q' : α → PH → Prop} (h : r.To Q) (i : ∀ a g, Q a g → Q' a g) : r.To Q' := by
  unfold Res.To at h ⊢
  cases r with
  | ok a g => exact i a g h
  | exc x g => exact h
  | stuck => exact h
theorem SRes.To.mono {r : SRes} {N N' B B' C C' : LS → PH → Prop} {R R' : W → PH → Prop} (h : r.To N R B C) (i : ∀ a g, N a g → N' a g) (j : ∀ a g, R a g → R' a g) (k : ∀ a g, B a g → B' a g) (l : ∀ a g, C a g → C' a g) : r.To N' R' B' C' := by
  unfold SRes.To at h ⊢
  cases r with
  | nx a g => exact i a g h
  | rt a g => exact j a g h
  | bk a g => exact k a g h
  | ct a g => exact l a g h
  | exc x p g => exact h
  | stuck => exact h
theorem Res.To.is {α : Type} {r : Res α} {Q : α → PH → Prop} (h : r.To Q) : ∃ a g, r = .ok a g ∧ Q a g := by
  unfold Res.To at h
  cases r with
  | ok a g => exact ⟨a, g, rfl, h⟩
  | exc x g => exact h.elim
  | stuck => exact h.elim
section
variable {α β : Type} {Q : α → PH → Prop} {N B C : LS → PH → Prop} {R : W → PH → Prop} {ps : LS} {h : PH}
@[simp] theorem to_ok {a : α} : (Res.ok a h).To Q = Q a h := by unfold Res.To; rfl
@[simp] theorem to_exc {x : XV} : (Res.exc x h : Res α).To Q = False := by unfold Res.To; rfl
@[simp] theorem to_stuck : (Res.stuck : Res α).To Q = False := by unfold Res.To; rfl
@[simp] theorem to_bind {r : Res β} {k : β → PH → Res α} : (r.bind k).To Q = r.To fun b g => (k b g).To Q := by cases r <;> simp [Res.bind]
@[simp] theorem to_ite {c : Prop} [Decidable c] {r : Res α} : (if c then r else .stuck).To Q = (c ∧ r.To Q) := by
  by_cases hc : c <;> simp [hc]
@[simp] theorem to_ofO {o : Option (α × PH)} : (Res.ofO o).To Q = PTo o Q := by
  cases o with
  | none => simp [Res.ofO]
  | some p => simp only [Res.ofO, to_ok]; unfold PTo; rfl
@[simp] theorem to_nx : (SRes.nx ps h).To N R B C = N ps h := by unfold SRes.To; rfl
@[simp] theorem to_rt {w : W} : (SRes.rt w h).To N R B C = R w h := by unfold SRes.To; rfl
@[simp] theorem to_bk : (SRes.bk ps h).To N R B C = B ps h := by unfold SRes.To; rfl
@[simp] theorem to_ct : (SRes.ct ps h).To N R B C = C ps h := by unfold SRes.To; rfl
@[simp] theorem to_sexc {x : XV} : (SRes.exc x ps h).To N R B C = False := by unfold SRes.To; rfl
@[simp] theorem to_sstuck : SRes.stuck.To N R B C = False := by unfold SRes.To; rfl
@[simp] theorem to_thenS {r : Res α} {k : α → PH → SRes} : (r.thenS ps k).To N R B C = r.To fun a g => (k a g).To N R B C := by cases r <;> simp [Res.thenS]
end
section
variable {Q : W → PH → Prop} {Ql : List W → PH → Prop} {Qb : Bool → PH → Prop} {Qi : PIt → PH → Prop} {N B C : LS → PH → Prop} {R : W → PH → Prop} {ps : LS} {h : PH} {m m1 m2 m3 : EM} {l : LM} {t t2 : BM} {M M2 : SM} {g : GM} {mi : IM}
@[simp] theorem to_var {i : Nat} : (mVar i ps h).To Q = ∃ w, ps[i]? = some (some w) ∧ Q w h := by
  unfold mVar
  cases e : ps[i]? with
  | none => simp
  | some o => cases o <;> simp
@[simp] theorem to_C {w : W} : (mC w ps h).To Q = Q w h := by simp [mC]
@[simp] theorem to_op {o : W → W → PH → Option (W × PH)} : (mOp o m1 m2 ps h).To Q = (m1 ps h).To fun x g => (m2 ps g).To fun y g => PTo (o x y g) Q := by simp [mOp]
@[simp] theorem to_un {o : W → PH → Option (W × PH)} : (mUn o m1 ps h).To Q = (m1 ps h).To fun x g => PTo (o x g) Q := by simp [mUn]
@[simp] theorem to_nil : (mNil ps h).To Ql = Ql [] h := by simp [mNil]
@[simp] theorem to_cons : (mCons m l ps h).To Ql = (m ps h).To fun x g => (l ps g).To fun xs g => Ql (x :: xs) g := by simp [mCons]
@[simp] theorem to_tup : (mTup l ps h).To Q = (l ps h).To fun xs g => xs.length ≤ 16777216 ∧ Q (.tup xs) g := by simp [mTup]
@[simp] theorem to_lst : (mLst l ps h).To Ql = (l ps h).To fun xs g => xs.length ≤ 16777216 ∧ Ql xs g := by simp [mLst]
@[simp] theorem to_new : (mNew l ps h).To Q = (l ps h).To fun xs g => Q (.ref g.length) (g ++ [.lst xs]) := by simp [mNew]
@[simp] theorem to_fix : (mFix l ps h).To Q = (l ps h).To fun xs g => Q (.fix xs) g := by simp [mFix]
@[simp] theorem to_call {o : List W → PH → Option (W × PH)} : (mCall o l ps h).To Q = (l ps h).To fun xs g => PTo (o xs g) Q := by simp [mCall]
@[simp] theorem to_on {α : Type} {Qa : α → PH → Prop} {o : List W → PH → Option (α × PH)} : (mOn o l ps h).To Qa = (l ps h).To fun xs g => PTo (o xs g) Qa := by simp [mOn]
@[simp] theorem to_fn {n : Nat} {F : FM} : (mFn n F l ps h).To Q = (l ps h).To fun xs g => xs.length = n ∧ (F xs g).To Q := by simp [mFn]
@[simp] theorem to_fn0 {F : FM} : (mFn0 F ps h).To Q = (F [] h).To Q := by simp only [mFn0]
@[simp] theorem to_seqm : (mSeq m ps h).To Ql = (m ps h).To fun x g => OTo (seqOf x g) fun xs => Ql xs g := by
  simp only [mSeq, to_bind]
  congr 1
  funext x g
  cases seqOf x g <;> simp
@[simp] theorem to_lstm : (mLstOf m ps h).To Ql = (m ps h).To fun x g => OTo (lstOf x g) fun xs => Ql xs g := by
  simp only [mLstOf, to_bind]
  congr 1
  funext x g
  cases lstOf x g <;> simp
@[simp] theorem to_mB : (mB m ps h).To Qb = (m ps h).To fun x g => BTo x fun b => Qb b g := by
  simp only [mB, to_bind]
  congr 1
  funext x g
  cases x <;> simp [toB]
@[simp] theorem to_tru : (mTru m ps h).To Qb = (m ps h).To fun x g => OTo (tru x g) fun b => Qb b g := by
  simp only [mTru, to_bind]
  congr 1
  funext x g
  cases tru x g <;> simp
@[simp] theorem to_and : (mAnd t t2 ps h).To Qb = (t ps h).To fun b g => Ite b ((t2 ps g).To Qb) (Qb false g) := by
  simp only [mAnd, to_bind]
  congr 1
  funext b g
  cases b <;> simp
@[simp] theorem to_or : (mOr t t2 ps h).To Qb = (t ps h).To fun b g => Ite b (Qb true g) ((t2 ps g).To Qb) := by
  simp only [mOr, to_bind]
  congr 1
  funext b g
  cases b <;> simp
@[simp] theorem to_not : (mNot t ps h).To Qb = (t ps h).To fun b g => Qb (!b) g := by simp [mNot]
@[simp] theorem to_if : (mIf t m1 m2 ps h).To Q = (t ps h).To fun b g => Ite b ((m1 ps g).To Q) ((m2 ps g).To Q) := by
  simp only [mIf, to_bind]
  congr 1
  funext b g
  cases b <;> simp
@[simp] theorem to_andV : (mAndV m1 m2 ps h).To Q = (m1 ps h).To fun x g => BTo x fun b => Ite b ((m2 ps g).To Q) (Q (.bl false) g) := by
  simp only [mAndV, to_bind]
  congr 1
  funext x g
  cases x with
  | bl b => cases b <;> simp
  | _ => simp
@[simp] theorem to_orV : (mOrV m1 m2 ps h).To Q = (m1 ps h).To fun x g => BTo x fun b => Ite b (Q (.bl true) g) ((m2 ps g).To Q) := by
  simp only [mOrV, to_bind]
  congr 1
  funext x g
  cases x with
  | bl b => cases b <;> simp
  | _ => simp
@[simp] theorem to_notV : (mNotV m ps h).To Q = (m ps h).To fun x g => BTo x fun b => Q (.bl (!b)) g := by
  simp only [mNotV, to_bind]
  congr 1
  funext x g
  cases x <;> simp
@[simp] theorem to_chain {o o' : W → W → PH → Option (W × PH)} : (mChain o o' m1 m2 m3 ps h).To Q = (m1 ps h).To fun x g => (m2 ps g).To fun y g => PTo (o x y g) fun w g => BTo w fun b => Ite b ((m3 ps g).To fun z g => PTo (o' y z g) Q) (Q (.bl false) g) := by
  simp only [mChain, to_bind, to_ofO]
  congr 1
  funext x g
  congr 1
  funext y g
  congr 1
  funext p
  cases p with
  | bl b => cases b <;> simp
  | _ => simp
@[simp] theorem to_isi {T : String} : (mIsi T m ps h).To Q = (m ps h).To fun x g => OTo (tyName x g) fun s => Q (.bl (isB s T)) g := by
  simp only [mIsi, to_bind]
  congr 1
  funext x g
  cases tyName x g <;> simp
@[simp] theorem to_mt {T : String} {o : W → List W → PH → Option (W × PH)} : (mMt T o m l ps h).To Q = (m ps h).To fun x g => tyW T x g = true ∧ (l ps g).To fun xs g => PTo (o x xs g) Q := by simp [mMt]
@[simp] theorem to_sl {lo hi : Option EM} : (mSl m lo hi ps h).To Q = (m ps h).To fun x g => (mPart lo ps g).To fun a g => (mPart hi ps g).To fun b g => PTo (wSl x a b g) Q := by simp [mSl]
@[simp] theorem to_part0 {Qo : Option Int → PH → Prop} : (mPart none ps h).To Qo = Qo none h := by simp [mPart]
@[simp] theorem to_part1 {Qo : Option Int → PH → Prop} : (mPart (some m) ps h).To Qo = (m ps h).To fun x g => ∃ i, x = .int i ∧ Qo (some i) g := by
  simp only [mPart, to_bind]
  congr 1
  funext x g
  cases x <;> simp
@[simp] theorem to_cat : (mCat m1 m2 ps h).To Ql = (m1 ps h).To fun x g => (m2 ps g).To fun y g => OTo (lstOf x g) fun xs => OTo (lstOf y g) fun ys => xs.length + ys.length ≤ 16777216 ∧ Ql (xs ++ ys) g := by
  simp only [mCat, to_bind]
  congr 1
  funext x g
  congr 1
  funext y g
  cases lstOf x g with
  | none => simp
  | some xs => cases lstOf y g <;> simp
@[simp] theorem to_pnil {Qp : List (W × W) → PH → Prop} : (mPairs [] ps h).To Qp = Qp [] h := by simp [mPairs]
@[simp] theorem to_pcons {Qp : List (W × W) → PH → Prop} {r : List (EM × EM)} : (mPairs ((m1, m2) :: r) ps h).To Qp = (m1 ps h).To fun x g => (m2 ps g).To fun y g => (mPairs r ps g).To fun zs g => Qp ((x, y) :: zs) g := by simp [mPairs]
@[simp] theorem to_disp {r : List (EM × EM)} : (mDisp r ps h).To Q = (mPairs r ps h).To fun zs g => OTo (keysOf zs) fun kvs => kvs.length ≤ 15 ∧ Q (.ref g.length) (g ++ [.dK (mergeW [] kvs)]) := by
  simp only [mDisp, to_bind]
  congr 1
  funext zs g
  cases keysOf zs <;> simp
@[simp] theorem to_dict0 : (mDict0 ps h).To Q = Q (.ref h.length) (h ++ [.dK []]) := by simp [mDict0]
/-! statements -/
@[simp] theorem to_next : (sNext ps h).To N R B C = N ps h := by simp [sNext]
@[simp] theorem to_break : (sBreak ps h).To N R B C = B ps h := by simp [sBreak]
@[simp] theorem to_cont : (sCont ps h).To N R B C = C ps h := by simp [sCont]
@[simp] theorem to_retN : (sRetN ps h).To N R B C = R .non h := by simp [sRetN]
@[simp] theorem to_ret : (sRet m ps h).To N R B C = (m ps h).To R := by simp [sRet]
@[simp] theorem to_drop : (sDrop m ps h).To N R B C = (m ps h).To fun _ g => N ps g := by simp [sDrop]
theorem to_seq : (sSeq M M2 ps h).To N R B C = (M ps h).To (fun ps1 g => (M2 ps1 g).To N R B C) R B C := by
  unfold sSeq
  cases M ps h <;> simp
@[simp] theorem to_asg : (sAsg m g ps h).To N R B C = (m ps h).To fun w h1 => OTo (g w ps) fun ps1 => N ps1 h1 := by
  simp only [sAsg, to_thenS]
  congr 1
  funext w h1
  cases g w ps with
  | none => simp
  | some x => simp
@[simp] theorem to_sif : (sIf t M M2 ps h).To N R B C = (t ps h).To fun b g => Ite b ((M ps g).To N R B C) ((M2 ps g).To N R B C) := by
  simp only [sIf, to_thenS]
  congr 1
  funext b g
  cases b <;> simp
@[simp] theorem to_setix : (sSetIx m1 m2 m3 ps h).To N R B C = (m1 ps h).To fun w g => (m2 ps g).To fun x g => (m3 ps g).To fun y g => OTo (setW x y w g) fun g' => N ps g' := by
  simp only [sSetIx, to_thenS]
  congr 1
  funext w g
  congr 1
  funext x g
  congr 1
  funext y g
  cases setW x y w g with
  | none => simp
  | some z => simp
@[simp] theorem to_for : (sFor mi g M ps h).To N R B C = (mi ps h).To fun it h1 => (forGo it g M it.fuel 0 ps h1).To N R B C := by simp [sFor]
@[simp] theorem to_while {n : Nat} : (sWhile n t M ps h).To N R B C = (whGo t M n ps h).To N R B C := by simp only [sWhile]
@[simp] theorem gN_is {i : Nat} {w : W} : gN i w ps = some (ps.set i (some w)) := rfl
@[simp] theorem gT_is {r : GMs} {ws : List W} : gT r (.tup ws) ps = r ws ps := rfl
@[simp] theorem gnil_is : gNil' [] ps = some ps := rfl
@[simp] theorem gcons_is {r : GMs} {w : W} {ws : List W} : gCons' g r (w :: ws) ps = (g w ps).bind fun ps' => r ws ps' := rfl
@[simp] theorem to_iters : (mIterS l ps h).To Qi = (l ps h).To fun xs g => Qi (itS xs) g := by simp [mIterS]
@[simp] theorem to_iter {n : Nat} : (mIter n m ps h).To Qi = (m ps h).To fun x g => OTo (iterOf n x g) fun it => Qi it g := by
  simp only [mIter, to_bind]
  congr 1
  funext x g
  cases iterOf n x g <;> simp
@[simp] theorem to_enum {n : Nat} : (mEnum n m ps h).To Qi = (m ps h).To fun x g => OTo (iterE n x g) fun it => Qi it g := by
  simp only [mEnum, to_bind]
  congr 1
  funext x g
  cases iterE n x g <;> simp
@[simp] theorem to_enums : (mEnumS l ps h).To Qi = (l ps h).To fun xs g => Qi (itE (itS xs)) g := by simp [mEnumS]
@[simp] theorem to_range1 : (mRange1 m ps h).To Qi = (m ps h).To fun x g => ∃ j, x = .int j ∧ (-(2 ^ 62) ≤ j ∧ j < 2 ^ 62) ∧ Qi (itS (rangeW 0 j.toNat)) g := by
  simp only [mRange1, to_bind]
  congr 1
  funext x g
  cases x <;> simp
@[simp] theorem to_range2 : (mRange2 m1 m2 ps h).To Qi = (m1 ps h).To fun x g => (m2 ps g).To fun y g => ∃ i j, x = .int i ∧ y = .int j ∧ (-(2 ^ 62) ≤ i ∧ i < 2 ^ 62 ∧ -(2 ^ 62) ≤ j ∧ j < 2 ^ 62) ∧ Qi (itS (rangeW i (j - i).toNat)) g := by
  simp only [mRange2, to_bind]
  congr 1
  funext x g
  congr 1
  funext y g
  cases x <;> cases y <;> simp
/-- the first of two statements, with what follows out of sight -/
theorem seq_op (q : ∀ K : LS → PH → Prop, (∀ ps g, (M2 ps g).To N R B C → K ps g) → (M ps h).To K R B C) : (sSeq M M2 ps h).To N R B C := by
  rw [to_seq]
  exact q _ fun _ _ z => z
theorem seq_go {ps1 : LS} {h1 : PH} (q : ∀ K : LS → PH → Prop, K ps1 h1 → (M ps h).To K R B C) (r : (M2 ps1 h1).To N R B C) : (sSeq M M2 ps h).To N R B C := by
  rw [to_seq]
  exact q _ r
theorem seq_cut (Mid : LS → PH → Prop) (q : (M ps h).To Mid R B C) (r : ∀ ps g, Mid ps g → (M2 ps g).To N R B C) : (sSeq M M2 ps h).To N R B C := by
  rw [to_seq]
  exact q.mono r (fun _ _ z => z) (fun _ _ z => z) fun _ _ z => z
/-! loops -/
theorem for_gen {it : PIt} {items : List W} {g : GM} (I : Nat → LS → PH → Prop) (get : ∀ i ps h, I i ps h → it.get i h = some items[i]?)
    (step : ∀ i w ps h, items[i]? = some w → I i ps h → ∃ ps1, g w ps = some ps1 ∧ (M ps1 h).To (I (i + 1)) R N (I (i + 1))) (fin : ∀ ps h, I items.length ps h → N ps h) :
    ∀ (k i : Nat) (ps : LS) (h : PH), i ≤ items.length → items.length < i + k → I i ps h → (forGo it g M k i ps h).To N R B C
  | 0, i, ps, h, hi, hk, q => by omega
  | k + 1, i, ps, h, hi, hk, q => by
    unfold forGo
    rw [get i ps h q]
    cases e : items[i]? with
    | none =>
      have : i = items.length := by
        have := List.getElem?_eq_none_iff.mp e
        omega
      subst this
      rw [to_nx]
      exact fin ps h q
    | some w =>
      obtain ⟨ps1, e1, q1⟩ := step i w ps h e q
      have hl := (List.getElem?_eq_some_iff.mp e).1
      dsimp only
      rw [e1]
      dsimp only
      cases eb : M ps1 h with
      | nx a b =>
        rw [eb] at q1
        simp only [to_nx, to_ct] at q1
        exact for_gen I get step fin k (i + 1) a b (by omega) (by omega) q1
      | ct a b =>
        rw [eb] at q1
        simp only [to_nx, to_ct] at q1
        exact for_gen I get step fin k (i + 1) a b (by omega) (by omega) q1
      | bk a b => rw [eb] at q1; simpa using q1
      | rt a b => rw [eb] at q1; simpa using q1
      | exc a b c => rw [eb] at q1; simp at q1
      | stuck => rw [eb] at q1; simp at q1
theorem for_items {items : List W} {g : GM} (I : Nat → LS → PH → Prop) (h0 : I 0 ps h)
    (step : ∀ i w ps h, items[i]? = some w → I i ps h → ∃ ps1, g w ps = some ps1 ∧ (M ps1 h).To (I (i + 1)) R N (I (i + 1))) (fin : ∀ ps h, I items.length ps h → N ps h) :
    (forGo (itS items) g M (itS items).fuel 0 ps h).To N R B C := for_gen I (fun _ _ _ _ => rfl) step fin _ 0 ps h (Nat.zero_le _) (by simp [itS]) h0
def pairsW (items : List W) : List W := items.zipIdx.map fun p => .tup [.int (p.2 : Nat), p.1]
theorem pairs_get (items : List W) (i : Nat) : (pairsW items)[i]? = items[i]?.map fun w => .tup [.int (i : Nat), w] := by
  unfold pairsW
  rw [List.getElem?_map, List.getElem?_zipIdx]
  cases items[i]? <;> simp
theorem for_enum {items : List W} {g : GM} (I : Nat → LS → PH → Prop) (h0 : I 0 ps h)
    (step : ∀ (i : Nat) (w : W) ps h, items[i]? = some w → I i ps h → ∃ ps1, g (.tup [.int (i : Nat), w]) ps = some ps1 ∧ (M ps1 h).To (I (i + 1)) R N (I (i + 1))) (fin : ∀ ps h, I items.length ps h → N ps h) :
    (forGo (itE (itS items)) g M (itE (itS items)).fuel 0 ps h).To N R B C :=
  for_gen (items := pairsW items) I (fun i _ h _ => by rw [pairs_get]; rfl) (fun i w ps h e q => by
    rw [pairs_get] at e
    obtain ⟨w', e1, rfl⟩ := Option.map_eq_some_iff.mp e
    exact step i w' ps h e1 q) (fun ps h q => fin ps h (by simpa [pairsW] using q)) _ 0 ps h (Nat.zero_le _) (by simp [itE, itS, pairsW]) h0
/-- while: V what is left to do -/
theorem while_inv (I : Nat → LS → PH → Prop) (step : ∀ v ps h, I v ps h → (t ps h).To fun b h1 => Ite b ((M ps h1).To (fun ps2 h2 => ∃ v', v' < v ∧ I v' ps2 h2) R N (fun ps2 h2 => ∃ v', v' < v ∧ I v' ps2 h2)) (N ps h1)) :
    ∀ (n v : Nat) (ps : LS) (h : PH), v < n → I v ps h → (whGo t M n ps h).To N R B C
  | 0, v, ps, h, hv, q => by omega
  | n + 1, v, ps, h, hv, q => by
    unfold whGo
    rw [to_thenS]
    refine (step v ps h q).mono fun b h1 z => ?_
    cases b with
    | false => simpa using z
    | true =>
      simp only [if_true, Ite_true] at z ⊢
      cases eb : M ps h1 with
      | nx a b =>
        rw [eb] at z
        simp only [to_nx, to_ct] at z
        obtain ⟨v', hv', z⟩ := z
        exact while_inv I step n v' a b (by omega) z
      | ct a b =>
        rw [eb] at z
        simp only [to_nx, to_ct] at z
        obtain ⟨v', hv', z⟩ := z
        exact while_inv I step n v' a b (by omega) z
      | bk a b => rw [eb] at z; simpa using z
      | rt a b => rw [eb] at z; simpa using z
      | exc a b c => rw [eb] at z; simp at z
      | stuck => rw [eb] at z; simp at z
/-- a comprehension: J by the items gone and the list so far -/
theorem lc_gen {it : PIt} {items : List W} {g : GM} {tt : BM} {te : EM} {psw : LS} (J : Nat → List W → PH → Prop) (get : ∀ i acc h, J i acc h → it.get i h = some items[i]?)
    (step : ∀ i w acc h, items[i]? = some w → J i acc h → ∃ ps1, g w psw = some ps1 ∧ (tt ps1 h).To fun b h2 => Ite b ((te ps1 h2).To fun x h3 => acc.length < 16777216 ∧ J (i + 1) (acc ++ [x]) h3) (J (i + 1) acc h2)) (fin : ∀ acc h, J items.length acc h → Ql acc h) :
    ∀ (k i : Nat) (acc : List W) (h : PH), i ≤ items.length → items.length < i + k → J i acc h → (lcGo it g tt te psw k i acc h).To Ql
  | 0, i, acc, h, hi, hk, q => by omega
  | k + 1, i, acc, h, hi, hk, q => by
    unfold lcGo
    rw [get i acc h q]
    cases e : items[i]? with
    | none =>
      have : i = items.length := by
        have := List.getElem?_eq_none_iff.mp e
        omega
      subst this
      rw [to_ok]
      exact fin acc h q
    | some w =>
      obtain ⟨ps1, e1, q1⟩ := step i w acc h e q
      have hl := (List.getElem?_eq_some_iff.mp e).1
      dsimp only
      rw [e1]
      dsimp only
      cases et : tt ps1 h with
      | ok b h2 =>
        rw [et, to_ok] at q1
        cases b with
        | false => exact lc_gen J get step fin k (i + 1) acc h2 (by omega) (by omega) (by simpa using q1)
        | true =>
          have q1 : (te ps1 h2).To fun x h3 => acc.length < 16777216 ∧ J (i + 1) (acc ++ [x]) h3 := by simpa using q1
          cases ee : te ps1 h2 with
          | ok x h3 =>
            rw [ee, to_ok] at q1
            simp only [ee]
            rw [if_pos q1.1]
            exact lc_gen J get step fin k (i + 1) _ h3 (by omega) (by omega) q1.2
          | exc _ _ => rw [ee] at q1; simp at q1
          | stuck => rw [ee] at q1; simp at q1
      | exc _ _ => rw [et] at q1; simp at q1
      | stuck => rw [et] at q1; simp at q1
@[simp] theorem to_lc {tt : BM} {te : EM} {vs : List Nat} : (mLc mi g tt te vs ps h).To Ql = (mi ps h).To fun it h1 => (lcGo it g tt te (wipeW ps vs) it.fuel 0 [] h1).To Ql := by simp [mLc]
@[simp] theorem to_yes : (mYes ps h).To Qb = Qb true h := by simp [mYes]
theorem lc_items {items : List W} {g : GM} {tt : BM} {te : EM} {psw : LS} (J : Nat → List W → PH → Prop) (h0 : J 0 [] h)
    (step : ∀ i w acc h, items[i]? = some w → J i acc h → ∃ ps1, g w psw = some ps1 ∧ (tt ps1 h).To fun b h2 => Ite b ((te ps1 h2).To fun x h3 => acc.length < 16777216 ∧ J (i + 1) (acc ++ [x]) h3) (J (i + 1) acc h2)) (fin : ∀ acc h, J items.length acc h → Ql acc h) :
    (lcGo (itS items) g tt te psw (itS items).fuel 0 [] h).To Ql := lc_gen J (fun _ _ _ _ => rfl) step fin _ 0 [] h (Nat.zero_le _) (by simp [itS]) h0
theorem lc_enum {items : List W} {g : GM} {tt : BM} {te : EM} {psw : LS} (J : Nat → List W → PH → Prop) (h0 : J 0 [] h)
    (step : ∀ (i : Nat) (w : W) acc h, items[i]? = some w → J i acc h → ∃ ps1, g (.tup [.int (i : Nat), w]) psw = some ps1 ∧ (tt ps1 h).To fun b h2 => Ite b ((te ps1 h2).To fun x h3 => acc.length < 16777216 ∧ J (i + 1) (acc ++ [x]) h3) (J (i + 1) acc h2)) (fin : ∀ acc h, J items.length acc h → Ql acc h) :
    (lcGo (itE (itS items)) g tt te psw (itE (itS items)).fuel 0 [] h).To Ql :=
  lc_gen (items := pairsW items) J (fun i _ h _ => by rw [pairs_get]; rfl) (fun i w acc h e q => by
    rw [pairs_get] at e
    obtain ⟨w', e1, rfl⟩ := Option.map_eq_some_iff.mp e
    exact step i w' acc h e1 q) (fun acc h q => fin acc h (by simpa [pairsW] using q)) _ 0 [] h (Nat.zero_le _) (by simp [itE, itS, pairsW]) h0
/-- over a list of the heap that stays -/
theorem lc_live {n fuel : Nat} {items : List W} {g : GM} {tt : BM} {te : EM} {psw : LS} (hf : items.length < fuel) (J : Nat → List W → PH → Prop) (stay : ∀ i acc h, J i acc h → h[n]? = some (.lst items)) (h0 : J 0 [] h)
    (step : ∀ i w acc h, items[i]? = some w → J i acc h → ∃ ps1, g w psw = some ps1 ∧ (tt ps1 h).To fun b h2 => Ite b ((te ps1 h2).To fun x h3 => acc.length < 16777216 ∧ J (i + 1) (acc ++ [x]) h3) (J (i + 1) acc h2)) (fin : ∀ acc h, J items.length acc h → Ql acc h) :
    (lcGo (itL n fuel) g tt te psw (itL n fuel).fuel 0 [] h).To Ql := lc_gen J (fun i acc h q => by simp only [itL, stay i acc h q]) step fin _ 0 [] h (Nat.zero_le _) (by simpa [itL] using hf) h0
theorem for_live {n fuel : Nat} {items : List W} {g : GM} (hf : items.length < fuel) (I : Nat → LS → PH → Prop) (stay : ∀ i ps h, I i ps h → h[n]? = some (.lst items)) (h0 : I 0 ps h)
    (step : ∀ i w ps h, items[i]? = some w → I i ps h → ∃ ps1, g w ps = some ps1 ∧ (M ps1 h).To (I (i + 1)) R N (I (i + 1))) (fin : ∀ ps h, I items.length ps h → N ps h) :
    (forGo (itL n fuel) g M (itL n fuel).fuel 0 ps h).To N R B C := for_gen I (fun i ps h q => by simp only [itL, stay i ps h q]) step fin _ 0 ps h (Nat.zero_le _) (by simpa [itL] using hf) h0
theorem run_to {n : Nat} {ws : List W} : (runB n M ws h).To Q = (M (startW n ws) h).To (fun _ g => Q .non g) Q (fun _ _ => False) fun _ _ => False := by
  unfold runB
  cases M (startW n ws) h <;> simp
end
end Mir

/-! Mir: operators at values of known form; equality of plain data. -/
namespace Mir
open PySem PySem.Spec PyProof.Rows L2

section
variable {i j k : Int} {x y : W} {h : PH} {n : Nat} {xs ys : List W} {s t : Str} {b c : Bool}
@[simp] theorem wAdd_int : wAdd (.int i) (.int j) h = some (.int (i + j), h) := rfl
@[simp] theorem wAdd_str : wAdd (.str s) (.str t) h = if s.length + t.length ≤ 16777216 then some (.str (s ++ t), h) else none := rfl
@[simp] theorem wAdd_tup : wAdd (.tup xs) (.tup ys) h = if xs.length + ys.length ≤ 16777216 then some (.tup (xs ++ ys), h) else none := rfl
@[simp] theorem wAdd_fix : wAdd (.fix xs) (.fix ys) h = if xs.length + ys.length ≤ 16777216 then some (.fix (xs ++ ys), h) else none := rfl
@[simp] theorem wSub_int : wSub (.int i) (.int j) h = some (.int (i - j), h) := rfl
@[simp] theorem wMod_int : wMod (.int i) (.int j) h = if 0 < j then some (.int (i % j), h) else none := by
  show ((if 0 < j then some (W.int (i % j)) else none).map fun w => (w, h)) = _
  by_cases q : 0 < j <;> simp [q]
@[simp] theorem wFdiv_int : wFdiv (.int i) (.int j) h = if 0 < j ∧ j.natAbs.log2 < 9000 then some (.int (i / j), h) else none := by
  show ((if 0 < j ∧ j.natAbs.log2 < 9000 then some (W.int (i / j)) else none).map fun w => (w, h)) = _
  by_cases q : 0 < j ∧ j.natAbs.log2 < 9000 <;> simp [q]
@[simp] theorem wMul_int : wMul (.int i) (.int j) h = if (-(2 ^ 64) < i ∧ i < 2 ^ 64) ∨ (-(2 ^ 64) < j ∧ j < 2 ^ 64) then some (.int (i * j), h) else none := rfl
@[simp] theorem wNeg_int : wNeg (.int i) h = some (.int (-i), h) := rfl
@[simp] theorem wLt_int : wLt (.int i) (.int j) h = some (.bl (decide (i < j)), h) := rfl
@[simp] theorem wLe_int : wLe (.int i) (.int j) h = some (.bl (decide (i ≤ j)), h) := rfl
@[simp] theorem wGt_int : wGt (.int i) (.int j) h = some (.bl (decide (j < i)), h) := rfl
@[simp] theorem wGe_int : wGe (.int i) (.int j) h = some (.bl (decide (j ≤ i)), h) := rfl
theorem beq_dec (i j : Int) : (i == j) = decide (i = j) := by
  by_cases h : i = j <;> simp [h]
@[simp] theorem wEq_int : wEq (.int i) (.int j) h = some (.bl (decide (i = j)), h) := by
  show some (W.bl (i == j), h) = _
  rw [beq_dec]
@[simp] theorem wNe_int : wNe (.int i) (.int j) h = some (.bl (!decide (i = j)), h) := by
  show some (W.bl (!(i == j)), h) = _
  rw [beq_dec]
@[simp] theorem wEq_str : wEq (.str s) (.str t) h = some (.bl (decide (s = t)), h) := by
  show some (W.bl (s == t), h) = _
  by_cases q : s = t <;> simp [q]
@[simp] theorem wNe_str : wNe (.str s) (.str t) h = some (.bl (!decide (s = t)), h) := by
  show some (W.bl (!(s == t)), h) = _
  by_cases q : s = t <;> simp [q]
@[simp] theorem wIs_non : wIs x .non h = some (.bl (isNonW x), h) := by cases x <;> rfl
@[simp] theorem wIs_bl : wIs (.bl b) (.bl c) h = some (.bl (decide (b = c)), h) := rfl
@[simp] theorem wIsNot_non : wIsNot x .non h = some (.bl (!isNonW x), h) := by cases x <;> rfl
@[simp] theorem wIsNot_bl : wIsNot (.bl b) (.bl c) h = some (.bl (!decide (b = c)), h) := rfl
@[simp] theorem wIx_tup : wIx (.tup xs) (.int i) h = (atI xs i).map fun w => (w, h) := rfl
@[simp] theorem wIx_fix : wIx (.fix xs) (.int i) h = (atI xs i).map fun w => (w, h) := rfl
theorem wIx_lst (e : h[n]? = some (.lst xs)) : wIx (.ref n) (.int i) h = (atI xs i).map fun w => (w, h) := by simp only [wIx, e]
theorem atI_nat {α : Type} (l : List α) (i : Int) (h0 : 0 ≤ i) : atI l i = l[i.toNat]? := by
  unfold atI ixN
  rw [if_pos h0]
  by_cases h1 : i < l.length
  · rw [if_pos h1]; rfl
  · rw [if_neg h1, List.getElem?_eq_none (by omega)]
    rfl
theorem oto_at {α : Type} {Q : α → Prop} {l : List α} {i : Int} (h0 : 0 ≤ i) (h1 : i < l.length) (q : ∀ a, l[i.toNat]? = some a → a ∈ l → Q a) : OTo (atI l i) Q := by
  rw [atI_nat l i h0, List.getElem?_eq_getElem (by omega), oto_some]
  exact q _ (List.getElem?_eq_getElem (by omega)) (List.getElem_mem _)
theorem atI_map {α β : Type} (f : α → β) (l : List α) (i : Int) : atI (l.map f) i = (atI l i).map f := by
  unfold atI
  rw [List.length_map]
  cases ixN l.length i <;> simp
theorem setW_lst (e : h[n]? = some (.lst xs)) (h0 : 0 ≤ i) (h1 : i.toNat < xs.length) : setW (.ref n) (.int i) x h = some (h.set n (.lst (xs.set i.toNat x))) := by
  simp only [setW, e, ixN]
  rw [if_pos h0, if_pos (by omega)]
  rfl
@[simp] theorem wLen_tup : wLen [.tup xs] h = some (.int xs.length, h) := rfl
@[simp] theorem wLen_fix : wLen [.fix xs] h = some (.int xs.length, h) := rfl
theorem wLen_lst (e : h[n]? = some (.lst xs)) : wLen [.ref n] h = some (.int xs.length, h) := by simp only [wLen, e]
@[simp] theorem wLenQ_is : wLenQ xs h = some (.int xs.length, h) := rfl
@[simp] theorem wAbs_int : wAbs [.int i] h = some (.int (if i < 0 then -i else i), h) := rfl
@[simp] theorem wMax2_int : wMax2 [.int i, .int j] h = some (.int (if j > i then j else i), h) := rfl
@[simp] theorem wMin2_int : wMin2 [.int i, .int j] h = some (.int (if j < i then j else i), h) := rfl
@[simp] theorem wInt_int : wInt [.int i] h = some (.int i, h) := rfl
@[simp] theorem wInt_bl : wInt [.bl b] h = some (.int (if b then 1 else 0), h) := rfl
@[simp] theorem wTupQ_is : wTupQ xs h = some (.tup xs, h) := rfl
@[simp] theorem lId_is : lId xs h = some (xs, h) := rfl
@[simp] theorem seqOf_tup : seqOf (.tup xs) h = some xs := rfl
@[simp] theorem seqOf_fix : seqOf (.fix xs) h = some xs := rfl
theorem seqOf_lst (e : h[n]? = some (.lst xs)) : seqOf (.ref n) h = some xs := by simp only [seqOf, e]
@[simp] theorem lstOf_fix : lstOf (.fix xs) h = some xs := rfl
theorem lstOf_lst (e : h[n]? = some (.lst xs)) : lstOf (.ref n) h = some xs := by simp only [lstOf, e]
theorem wAppend_lst (e : h[n]? = some (.lst xs)) : wAppend (.ref n) [x] h = if xs.length < 16777216 then some (.non, h.set n (.lst (xs ++ [x]))) else none := by simp only [wAppend, e]
theorem tyW_lst (e : h[n]? = some (.lst xs)) : tyW "list" (.ref n) h = true := by simp only [tyW, e]; rfl
@[simp] theorem iterOf_tup : iterOf n (.tup xs) h = some (itS xs) := rfl
@[simp] theorem iterOf_fix : iterOf n (.fix xs) h = some (itS xs) := rfl
@[simp] theorem iterE_tup : iterE n (.tup xs) h = some (itE (itS xs)) := rfl
@[simp] theorem iterE_fix : iterE n (.fix xs) h = some (itE (itS xs)) := rfl
@[simp] theorem isNon_non : isNonW .non = true := rfl
@[simp] theorem isNon_tup : isNonW (.tup xs) = false := rfl
@[simp] theorem isNon_int : isNonW (.int i) = false := rfl
@[simp] theorem isNon_ref : isNonW (.ref n) = false := rfl
@[simp] theorem refs_int : refsW (.int i) = [] := rfl
@[simp] theorem refs_str : refsW (.str s) = [] := rfl
@[simp] theorem refs_non : refsW .non = [] := rfl
@[simp] theorem refs_bl : refsW (.bl b) = [] := rfl
@[simp] theorem refs_tup : refsW (.tup xs) = refsWs xs := by simp only [refsW]
@[simp] theorem refs_fix : refsW (.fix xs) = refsWs xs := by simp only [refsW]
@[simp] theorem refs_ref : refsW (.ref n) = [n] := by simp only [refsW]
@[simp] theorem refs_nil : refsWs [] = [] := by simp only [refsWs]
@[simp] theorem refs_cons : refsWs (x :: xs) = refsW x ++ refsWs xs := by simp only [refsWs]
@[simp] theorem refs_lst : refsO (.lst xs) = refsWs xs := rfl
@[simp] theorem refs_app : refsWs (xs ++ ys) = refsWs xs ++ refsWs ys := by
  induction xs with
  | nil => simp
  | cons a l ih => simp [ih]
theorem refs_all (q : ∀ x ∈ xs, refsW x = []) : refsWs xs = [] := by
  induction xs with
  | nil => simp
  | cons a l ih => simp [q a List.mem_cons_self, ih fun x hx => q x (List.mem_cons_of_mem _ hx)]
theorem refs_map {α : Type} (f : α → W) (l : List α) (q : ∀ a ∈ l, refsW (f a) = []) : refsWs (l.map f) = [] := refs_all fun x hx => by
  obtain ⟨a, ha, rfl⟩ := List.mem_map.mp hx
  exact q a ha
@[simp] theorem refs_ints (ns : List Int) : refsWs (ns.map W.int) = [] := refs_map _ _ fun _ _ => rfl
end

/-! ### plain data -/
mutual
/-- no truth, no thing of the heap; n deep -/
def plW : Nat → W → Bool
  | _, .non => true
  | _, .int _ => true
  | _, .str x => PyData.strOk x
  | 0, _ => false
  | n + 1, .tup xs => plWs n xs
  | n + 1, .fix xs => plWs n xs
  | _, _ => false
def plWs : Nat → List W → Bool
  | _, [] => true
  | n, x :: xs => plW n x && plWs n xs
end
mutual
def dT : W → PyData
  | .non => .none
  | .bl b => .bool b
  | .int i => .int i
  | .str x => .str x
  | .tup xs => .tuple (dTs xs)
  | .fix xs => .list (dTs xs)
  | .ref _ => .none
  | .exc _ => .none
def dTs : List W → List PyData
  | [] => []
  | x :: xs => dT x :: dTs xs
end
mutual
theorem dat_pl (look : Nat → Option PyData) : ∀ (n : Nat) (w : W), plW n w = true → datS look w = some (dT w) ∧ (dT w).canLay0 = true ∧ (dT w).depth ≤ n
  | n, .non, _ => ⟨rfl, rfl, by simp [dT, PyData.depth]⟩
  | n, .int _, _ => ⟨rfl, rfl, by simp [dT, PyData.depth]⟩
  | n, .str x, h => by
    have h : PyData.strOk x = true := by cases n <;> simpa [plW] using h
    exact ⟨rfl, by simpa [dT, PyData.canLay0] using h, by simp [dT, PyData.depth]⟩
  | 0, .tup xs, h => by simp [plW] at h
  | 0, .fix xs, h => by simp [plW] at h
  | 0, .bl xs, h => by simp [plW] at h
  | 0, .ref xs, h => by simp [plW] at h
  | 0, .exc xs, h => by simp [plW] at h
  | n + 1, .bl xs, h => by simp [plW] at h
  | n + 1, .ref xs, h => by simp [plW] at h
  | n + 1, .exc xs, h => by simp [plW] at h
  | n + 1, .tup xs, h => by
    obtain ⟨a, b, c⟩ := dats_pl look n xs (by simpa only [plW] using h)
    exact ⟨by simp only [datS, a, Option.map_some, dT], by simpa only [dT, PyData.canLay0] using b, by simp only [dT, PyData.depth]; omega⟩
  | n + 1, .fix xs, h => by
    obtain ⟨a, b, c⟩ := dats_pl look n xs (by simpa only [plW] using h)
    exact ⟨by simp only [datS, a, Option.map_some, dT], by simpa only [dT, PyData.canLay0] using b, by simp only [dT, PyData.depth]; omega⟩
theorem dats_pl (look : Nat → Option PyData) : ∀ (n : Nat) (ws : List W), plWs n ws = true → datSs look ws = some (dTs ws) ∧ PyData.canLayAll0 (dTs ws) = true ∧ PyData.depthAll (dTs ws) ≤ n
  | n, [], _ => ⟨rfl, rfl, by simp [dTs, PyData.depthAll]⟩
  | n, x :: xs, h => by
    simp only [plWs, Bool.and_eq_true] at h
    obtain ⟨a, b, c⟩ := dat_pl look n x h.1
    obtain ⟨a2, b2, c2⟩ := dats_pl look n xs h.2
    exact ⟨by simp only [datSs, a, a2, dTs], by simp only [dTs, PyData.canLayAll0, b, b2, Bool.and_self], by simp only [dTs, PyData.depthAll]; omega⟩
end
theorem plF_ref {m n : Nat} : plW m (.ref n) = false := by cases m <;> simp [plW]
theorem plF_exc {m : Nat} {x : XV} : plW m (.exc x) = false := by cases m <;> simp [plW]
theorem plF_bl {m : Nat} {b : Bool} : plW m (.bl b) = false := by cases m <;> simp [plW]
mutual
theorem eqv_pl : ∀ (n : Nat) (x y : W) (m : Nat), plW n x = true → plW m y = true → (PyData.eqv (dT x) (dT y) = true ↔ x = y)
  | n, .non, y, m, h, k => by
    cases y with
    | ref q => rw [plF_ref] at k; cases k
    | exc q => rw [plF_exc] at k; cases k
    | bl b => rw [plF_bl] at k; cases k
    | _ => simp [dT, PyData.eqv]
  | n, .int i, y, m, h, k => by
    cases y with
    | ref q => rw [plF_ref] at k; cases k
    | exc q => rw [plF_exc] at k; cases k
    | bl b => rw [plF_bl] at k; cases k
    | _ => simp [dT, PyData.eqv]
  | n, .str i, y, m, h, k => by
    cases y with
    | ref q => rw [plF_ref] at k; cases k
    | exc q => rw [plF_exc] at k; cases k
    | bl b => rw [plF_bl] at k; cases k
    | _ => simp [dT, PyData.eqv]
  | 0, .tup xs, y, m, h, k => by simp [plW] at h
  | 0, .fix xs, y, m, h, k => by simp [plW] at h
  | 0, .bl xs, y, m, h, k => by simp [plW] at h
  | 0, .ref xs, y, m, h, k => by simp [plW] at h
  | 0, .exc xs, y, m, h, k => by simp [plW] at h
  | n + 1, .bl xs, y, m, h, k => by simp [plW] at h
  | n + 1, .ref xs, y, m, h, k => by simp [plW] at h
  | n + 1, .exc xs, y, m, h, k => by simp [plW] at h
  | n + 1, .tup xs, y, m, h, k => by
    simp only [plW] at h
    cases y with
    | tup ys =>
      cases m with
      | zero => simp [plW] at k
      | succ m =>
        simp only [plW] at k
        simp only [dT, PyData.eqv, W.tup.injEq]
        exact eqvs_pl n xs ys m h k
    | _ => simp [dT, PyData.eqv]
  | n + 1, .fix xs, y, m, h, k => by
    simp only [plW] at h
    cases y with
    | fix ys =>
      cases m with
      | zero => simp [plW] at k
      | succ m =>
        simp only [plW] at k
        simp only [dT, PyData.eqv, W.fix.injEq]
        exact eqvs_pl n xs ys m h k
    | _ => simp [dT, PyData.eqv]
theorem eqvs_pl : ∀ (n : Nat) (xs ys : List W) (m : Nat), plWs n xs = true → plWs m ys = true → (PyData.eqvAll (dTs xs) (dTs ys) = true ↔ xs = ys)
  | n, [], [], m, h, k => by simp [dTs, PyData.eqvAll]
  | n, [], y :: ys, m, h, k => by simp [dTs, PyData.eqvAll]
  | n, x :: xs, [], m, h, k => by simp [dTs, PyData.eqvAll]
  | n, x :: xs, y :: ys, m, h, k => by
    simp only [plWs, Bool.and_eq_true] at h k
    simp only [dTs, PyData.eqvAll, Bool.and_eq_true, List.cons.injEq, eqv_pl n x y m h.1 k.1, eqvs_pl n xs ys m h.2 k.2]
end
theorem shaped_pl {n : Nat} {d : PyData} (h1 : d.canLay0 = true) (h2 : d.depth ≤ n) (hn : n ≤ 64) : SeqAt.shaped d = true := by
  unfold SeqAt.shaped
  rw [h1, decide_eq_true (by omega : d.depth ≤ 64)]
  rfl
noncomputable instance : DecidableEq W := fun _ _ => Classical.propDecidable _
/-- == of plain data, wherever it lies -/
theorem eqB_dat {x y : W} {h : PH} {d e : PyData} (hx : dat h x = some d) (hy : dat h y = some e) (sx : SeqAt.shaped d = true) (sy : SeqAt.shaped e = true) (hb : ∀ b, x ≠ .bl b) : eqB x y h = some (PyData.eqv d e) := by
  unfold eqB
  split
  case h_1 => cases hx; cases hy; simp [PyData.eqv]
  case h_2 => cases hx; cases hy; simp [PyData.eqv]
  case h_3 => cases hx; cases hy; simp [PyData.eqv]
  case h_4 => cases hx; cases hy; simp [PyData.eqv]
  case h_5 => cases hx; cases hy; simp [PyData.eqv]
  case h_6 => cases hx; cases hy; simp [PyData.eqv]
  case h_7 => cases hx; cases hy; simp [PyData.eqv]
  case h_8 => cases hx; cases hy; simp [PyData.eqv]
  case h_9 => cases hx; cases hy; simp [PyData.eqv]
  case h_10 => exact absurd rfl (hb _)
  case h_11 =>
    simp only [hx, hy]
    rw [if_pos ⟨sx, sy⟩]
theorem eqB_pl {x y : W} {h : PH} {n m : Nat} (hx : plW n x = true) (hy : plW m y = true) (hn : n ≤ 64) (hm : m ≤ 64) : eqB x y h = some (decide (x = y)) := by
  obtain ⟨a, b, c⟩ := dat_pl (datL 4 h) n x hx
  obtain ⟨a2, b2, c2⟩ := dat_pl (datL 4 h) m y hy
  rw [eqB_dat a a2 (shaped_pl b c hn) (shaped_pl b2 c2 hm) (fun b z => by subst z; cases n <;> simp [plW] at hx)]
  have := eqv_pl n x y m hx hy
  congr 1
  by_cases q : x = y
  · rw [this.mpr q, decide_eq_true q]
  · rw [decide_eq_false q]
    cases e : PyData.eqv (dT x) (dT y) with
    | false => rfl
    | true => exact absurd (this.mp e) q
theorem wEq_pl {x y : W} {h : PH} {n m : Nat} (hx : plW n x = true) (hy : plW m y = true) (hn : n ≤ 64) (hm : m ≤ 64) : wEq x y h = some (.bl (decide (x = y)), h) := by
  unfold wEq
  rw [eqB_pl hx hy hn hm]
  rfl
theorem wNe_pl {x y : W} {h : PH} {n m : Nat} (hx : plW n x = true) (hy : plW m y = true) (hn : n ≤ 64) (hm : m ≤ 64) : wNe x y h = some (.bl (!decide (x = y)), h) := by
  unfold wNe
  rw [eqB_pl hx hy hn hm]
  rfl
/-- a list of the heap, of plain data -/
theorem dat_lst {h : PH} {n k : Nat} {xs : List W} (e : h[n]? = some (.lst xs)) (hx : plWs k xs = true) : dat h (.ref n) = some (dT (.fix xs)) := by
  have := (dats_pl (datL 3 h) k xs hx).1
  show datL 4 h n = _
  unfold datL
  rw [e]
  dsimp only
  rw [this]
  simp only [Option.map_some, dT]
theorem eqB_lst {h : PH} {n k m : Nat} {xs : List W} {y : W} (e : h[n]? = some (.lst xs)) (hx : plWs k xs = true) (hy : plW m y = true) (hk : k < 64) (hm : m ≤ 64) : eqB (.ref n) y h = some (decide (W.fix xs = y)) := by
  have hx2 : plW (k + 1) (.fix xs) = true := by simpa only [plW] using hx
  obtain ⟨a, b, c⟩ := dat_pl (datL 4 h) (k + 1) (.fix xs) hx2
  obtain ⟨a2, b2, c2⟩ := dat_pl (datL 4 h) m y hy
  rw [eqB_dat (dat_lst e hx) a2 (shaped_pl b c (by omega)) (shaped_pl b2 c2 hm) (fun b z => by cases z)]
  have := eqv_pl (k + 1) (.fix xs) y m hx2 hy
  congr 1
  by_cases q : W.fix xs = y
  · rw [this.mpr q, decide_eq_true q]
  · rw [decide_eq_false q]
    cases e : PyData.eqv (dT (.fix xs)) (dT y) with
    | false => rfl
    | true => exact absurd (this.mp e) q
theorem eqB_lst2 {h : PH} {n n' k m : Nat} {xs ys : List W} (e : h[n]? = some (.lst xs)) (hx : plWs k xs = true) (e2 : h[n']? = some (.lst ys)) (hy : plWs m ys = true) (hk : k < 64) (hm : m < 64) : eqB (.ref n) (.ref n') h = some (decide (xs = ys)) := by
  have hx2 : plW (k + 1) (.fix xs) = true := by simpa only [plW] using hx
  have hy2 : plW (m + 1) (.fix ys) = true := by simpa only [plW] using hy
  obtain ⟨a, b, c⟩ := dat_pl (datL 4 h) (k + 1) (.fix xs) hx2
  obtain ⟨a2, b2, c2⟩ := dat_pl (datL 4 h) (m + 1) (.fix ys) hy2
  rw [eqB_dat (dat_lst e hx) (dat_lst e2 hy) (shaped_pl b c (by omega)) (shaped_pl b2 c2 (by omega)) (fun b z => by cases z)]
  have := eqv_pl (k + 1) (.fix xs) (.fix ys) (m + 1) hx2 hy2
  congr 1
  by_cases q : xs = ys
  · rw [this.mpr (by rw [q]), decide_eq_true q]
  · rw [decide_eq_false q]
    cases e : PyData.eqv (dT (.fix xs)) (dT (.fix ys)) with
    | false => rfl
    | true => exact absurd (by simpa using this.mp e) q
theorem pls_all {n : Nat} {xs : List W} (h : ∀ x ∈ xs, plW n x = true) : plWs n xs = true := by
  induction xs with
  | nil => rfl
  | cons a l ih => simp only [plWs, h a List.mem_cons_self, ih fun x hx => h x (List.mem_cons_of_mem _ hx), Bool.and_self]
theorem pls_map {α : Type} {n : Nat} (f : α → W) (l : List α) (h : ∀ a ∈ l, plW n (f a) = true) : plWs n (l.map f) = true := pls_all fun x hx => by
  obtain ⟨a, ha, rfl⟩ := List.mem_map.mp hx
  exact h a ha
@[simp] theorem pl_int {n : Nat} {i : Int} : plW n (.int i) = true := by cases n <;> rfl
@[simp] theorem pl_non {n : Nat} : plW n .non = true := by cases n <;> rfl
@[simp] theorem pl_str {n : Nat} {s : Str} : plW n (.str s) = PyData.strOk s := by cases n <;> rfl
@[simp] theorem pl_tup {n : Nat} {xs : List W} : plW (n + 1) (.tup xs) = plWs n xs := by simp only [plW]
@[simp] theorem pl_fix {n : Nat} {xs : List W} : plW (n + 1) (.fix xs) = plWs n xs := by simp only [plW]
@[simp] theorem pls_nil {n : Nat} : plWs n [] = true := by simp only [plWs]
@[simp] theorem pls_cons {n : Nat} {x : W} {xs : List W} : plWs n (x :: xs) = (plW n x && plWs n xs) := by simp only [plWs]
@[simp] theorem pls_ints {n : Nat} (l : List Int) : plWs n (l.map W.int) = true := pls_map _ _ fun _ _ => pl_int
theorem flat_ints (l : List Int) : (l.map W.int).all flatW = true := by
  induction l with
  | nil => rfl
  | cons a r ih => simp [flatW]
theorem any_ints (x : Int) (l : List Int) : ((l.map W.int).any fun z => eqF z (.int x)) = decide (x ∈ l) := by
  induction l with
  | nil => simp
  | cons a r ih =>
    rw [List.map_cons, List.any_cons, ih]
    by_cases h : x = a
    · subst h
      simp [eqF]
    · have : (a == x) = false := by simp [Ne.symm h]
      simp [eqF, this, h]
theorem inW_ints (x : Int) (l : List Int) (h : PH) : inW (.int x) (.fix (l.map W.int)) h = some (decide (x ∈ l)) := by
  simp only [inW]
  rw [if_pos ⟨rfl, flat_ints l⟩, any_ints]
@[simp] theorem wIn_ints {x : Int} {l : List Int} {h : PH} : wIn (.int x) (.fix (l.map W.int)) h = some (.bl (decide (x ∈ l)), h) := by
  unfold wIn
  rw [inW_ints]
  rfl
@[simp] theorem wNotIn_ints {x : Int} {l : List Int} {h : PH} : wNotIn (.int x) (.fix (l.map W.int)) h = some (.bl (!decide (x ∈ l)), h) := by
  unfold wNotIn
  rw [inW_ints]
  rfl
theorem lift1_to {F : FM} {n : Nat} {o : OB} {r : List W} {h : PH} {Q : W → PH → Prop} {P : W → OB → Prop} (e : h[n]? = some o) (ho : refsO o = []) (hw : refsWs r = []) (run : (F (.ref 0 :: r) [o]).To fun w g => ∃ o2 g2, g = o2 :: g2 ∧ refsO o2 = [] ∧ refsW w = [] ∧ P w o2)
    (q : ∀ w o2, P w o2 → Q w (h.set n o2)) : (lift1 F (.ref n :: r) h).To Q := by
  obtain ⟨w, g, e1, o2, g2, rfl, h2, hr, p⟩ := run.is
  rw [lift1_plain e ho hw e1 h2 hr, to_ok]
  exact q w o2 p
theorem lift0_to {F : FM} {ws : List W} {h : PH} {Q : W → PH → Prop} {P : W → Prop} (hw : refsWs ws = []) (run : (F ws []).To fun w g => refsW w = [] ∧ P w) (q : ∀ w, P w → Q w h) : (lift0 F ws h).To Q := by
  obtain ⟨w, g, e1, hr, p⟩ := run.is
  rw [lift0_plain hw e1 hr, to_ok]
  exact q w p
theorem lift0_lst {F : FM} {ws : List W} {h : PH} {Q : W → PH → Prop} {P : List W → Prop} (hw : refsWs ws = []) (run : (F ws []).To fun w g => ∃ k xs, w = .ref k ∧ g[k]? = some (.lst xs) ∧ refsWs xs = [] ∧ P xs) (q : ∀ xs, P xs → Q (.ref h.length) (h ++ [.lst xs])) : (lift0 F ws h).To Q := by
  obtain ⟨w, g, e1, k, xs, rfl, eg, hr, p⟩ := run.is
  rw [lift0_list hw e1 eg hr, to_ok]
  exact q xs p
/-- a tuple of a fresh list and something plain -/
theorem lift0_pair {F : FM} {ws : List W} {h : PH} {Q : W → PH → Prop} {P : List W → W → Prop} (hw : refsWs ws = []) (run : (F ws []).To fun w g => ∃ k xs y, w = .tup [.ref k, y] ∧ g[k]? = some (.lst xs) ∧ refsWs xs = [] ∧ refsW y = [] ∧ P xs y)
    (q : ∀ xs y, P xs y → Q (.tup [.ref h.length, y]) (h ++ [.lst xs])) : (lift0 F ws h).To Q := by
  obtain ⟨w, g, e1, k, xs, y, rfl, eg, hx, hy, p⟩ := run.is
  have r1 : objs g [k] = [] := by simp [objs, eg, refsO, hx]
  have r2 : objs g [] = [] := rfl
  have rk : reach g [k] = [k] := by unfold reach; rw [r1, r2]; rfl
  have hl := (List.getElem?_eq_some_iff.mp eg).1
  have er : refsW (.tup [.ref k, y]) = [k] := by simp [hy]
  unfold lift0
  rw [if_pos hw, e1]
  unfold outR
  dsimp only
  rw [er, rk, if_pos (by simp [apt, r1, hl])]
  have e2 : renW (pos [k] h.length) (.tup [.ref k, y]) = .tup [.ref h.length, y] := by simp [renW, renWs, pos, ren_id y hy]
  have e3 : news g [k] h.length = [.lst xs] := by simp [news, eg, renO, rens_id xs hx]
  rw [e2, e3, to_ok]
  exact q xs y p
theorem atI_neg1 {α : Type} (l : List α) (x : α) : atI (l ++ [x]) (-1) = some x := by
  unfold atI ixN
  rw [if_neg (by decide), List.length_append, List.length_singleton, if_pos (by omega)]
  have : (-1 + ((l.length + 1 : Nat) : Int)).toNat = l.length := by omega
  show (l ++ [x])[(-1 + ((l.length + 1 : Nat) : Int)).toNat]? = some x
  rw [this]
  simp
@[simp] theorem tyName_int {h : PH} {i : Int} : tyName (.int i) h = some "int" := rfl
@[simp] theorem tyName_bl {h : PH} {i : Bool} : tyName (.bl i) h = some "bool" := rfl
@[simp] theorem tyName_str {h : PH} {i : Str} : tyName (.str i) h = some "str" := rfl
@[simp] theorem tyName_non {h : PH} : tyName .non h = some "NoneType" := rfl
@[simp] theorem tyName_tup {h : PH} {i : List W} : tyName (.tup i) h = some "tuple" := rfl
@[simp] theorem tyName_fix {h : PH} {i : List W} : tyName (.fix i) h = some "list" := rfl
theorem tyName_lst {h : PH} {n : Nat} {xs : List W} (e : h[n]? = some (.lst xs)) : tyName (.ref n) h = some "list" := by simp only [tyName, e]
@[simp] theorem tru_bl {h : PH} {b : Bool} : tru (.bl b) h = some b := rfl
@[simp] theorem isB_ii : isB "int" "int" = true := rfl
@[simp] theorem isB_ib : isB "int" "bool" = false := by decide
@[simp] theorem isB_bi : isB "bool" "int" = true := by decide
@[simp] theorem isB_bb : isB "bool" "bool" = true := rfl
@[simp] theorem isB_ss : isB "str" "str" = true := rfl
@[simp] theorem isB_si : isB "str" "int" = false := by decide
@[simp] theorem isB_ni : isB "NoneType" "int" = false := by decide
@[simp] theorem isB_ti : isB "tuple" "int" = false := by decide
@[simp] theorem isB_li : isB "list" "int" = false := by decide
@[simp] theorem isB_ll : isB "list" "list" = true := rfl
@[simp] theorem isB_tt : isB "tuple" "tuple" = true := rfl
end Mir

/-! Mir: repr of plain data is told; == of what lies in the heap. -/
namespace Mir
open PySem PySem.Spec PyProof.Rows L2
mutual
/-- small numbers, plain signs, nothing of the heap -/
def smW : W → Bool
  | .int i => decide (i.natAbs < 10000000)
  | .str x => x.cps.toList.all fun c => decide (c < 16 ^ 8)
  | .tup xs => smWs xs
  | .fix xs => smWs xs
  | .ref _ => false
  | .exc _ => false
  | _ => true
def smWs : List W → Bool
  | [] => true
  | x :: xs => smW x && smWs xs
end
mutual
/-- how great at most -/
def wB : W → Nat
  | .int _ => 24
  | .str x => x.cps.size
  | .tup xs => wBs xs
  | .fix xs => wBs xs
  | _ => 0
def wBs : List W → Nat
  | [] => 0
  | x :: xs => wB x + 1 + wBs xs
end
mutual
theorem sm_of : ∀ w : W, smW w = true → (dT w).leavesShort 8 = true ∧ (dT w).showable = true ∧ (dT w).hasDict = false ∧ (dT w).weight ≤ wB w
  | .non, _ => ⟨rfl, rfl, rfl, by simp [dT, PyData.weight]⟩
  | .bl b, _ => ⟨rfl, rfl, rfl, by simp [dT, PyData.weight]⟩
  | .int i, h => by
    have h : i.natAbs < 10000000 := by simpa [smW] using h
    have e := int_text_length_le10 (a := i) (k := 7) (by decide) (by simpa using h)
    have l2 : i.natAbs ≠ 0 → i.natAbs.log2 < 24 := fun z => (Nat.log2_lt z).mpr (by omega)
    refine ⟨?_, ?_, rfl, ?_⟩
    · have e2 : (PyData.shown (.int i)).length ≤ 8 := by
        show (Str.ofString (toString i)).length ≤ 8
        rw [PySem.ofString_length]
        exact e
      simp only [dT, PyData.leavesShort]
      exact decide_eq_true e2
    · simp only [dT, PyData.showable, decide_eq_true_eq]
      by_cases z : i.natAbs = 0
      · rw [z]; decide
      · have := l2 z
        omega
    · simp only [dT, PyData.weight, wB]
      split
      · omega
      · rename_i z
        have : i.natAbs ≠ 0 := fun q => z (by simpa using q)
        have := l2 this
        omega
  | .str x, h => ⟨by simpa [dT, PyData.leavesShort, smW] using h, rfl, rfl, by simp [dT, PyData.weight, wB]⟩
  | .ref _, h => by simp [smW] at h
  | .exc _, h => by simp [smW] at h
  | .tup xs, h => by
    obtain ⟨a, b, c, d⟩ := sms_of xs (by simpa only [smW] using h)
    exact ⟨by simpa only [dT, PyData.leavesShort] using a, by simpa only [dT, PyData.showable] using b, by simpa only [dT, PyData.hasDict] using c, by simpa only [dT, PyData.weight, wB] using d⟩
  | .fix xs, h => by
    obtain ⟨a, b, c, d⟩ := sms_of xs (by simpa only [smW] using h)
    exact ⟨by simpa only [dT, PyData.leavesShort] using a, by simpa only [dT, PyData.showable] using b, by simpa only [dT, PyData.hasDict] using c, by simpa only [dT, PyData.weight, wB] using d⟩
theorem sms_of : ∀ ws : List W, smWs ws = true → PyData.leavesShortAll 8 (dTs ws) = true ∧ PyData.showableAll (dTs ws) = true ∧ PyData.hasDictAll (dTs ws) = false ∧ PyData.weightAll (dTs ws) ≤ wBs ws
  | [], _ => ⟨rfl, rfl, rfl, by simp [dTs, PyData.weightAll]⟩
  | x :: xs, h => by
    simp only [smWs, Bool.and_eq_true] at h
    obtain ⟨a, b, c, d⟩ := sm_of x h.1
    obtain ⟨a2, b2, c2, d2⟩ := sms_of xs h.2
    exact ⟨by simp only [dTs, PyData.leavesShortAll, a, a2, Bool.and_self], by simp only [dTs, PyData.showableAll, b, b2, Bool.and_self], by simp only [dTs, PyData.hasDictAll, c, c2, Bool.or_self], by simp only [dTs, PyData.weightAll, wBs]; omega⟩
end
theorem repr_tup {xs : List W} {n : Nat} {h : PH} (hp : plW n (.tup xs) = true) (hn : n ≤ 100) (hs : smW (.tup xs) = true) (hw : wB (.tup xs) ≤ 1600000) : wRepr [.tup xs] h = some (.str (dT (.tup xs)).shown, h) := by
  obtain ⟨a, b, c⟩ := dat_pl (datL 4 h) n (.tup xs) hp
  obtain ⟨s1, s2, s3, s4⟩ := sm_of (.tup xs) hs
  have l := PyData.shown_le 8 (by decide) _ s1
  have e : dat h (.tup xs) = some (dT (.tup xs)) := a
  simp only [wRepr, e]
  rw [if_pos ⟨s2, s3, by omega, by omega⟩]
@[simp] theorem sm_int {i : Int} : smW (.int i) = decide (i.natAbs < 10000000) := by simp only [smW]
@[simp] theorem sm_str {x : Str} : smW (.str x) = x.cps.toList.all fun c => decide (c < 16 ^ 8) := by simp only [smW]
@[simp] theorem sm_tup {xs : List W} : smW (.tup xs) = smWs xs := by simp only [smW]
@[simp] theorem sm_fix {xs : List W} : smW (.fix xs) = smWs xs := by simp only [smW]
@[simp] theorem sms_nil : smWs [] = true := by simp only [smWs]
@[simp] theorem sms_cons {x : W} {xs : List W} : smWs (x :: xs) = (smW x && smWs xs) := by simp only [smWs]
@[simp] theorem wB_int {i : Int} : wB (.int i) = 24 := by simp only [wB]
@[simp] theorem wB_str {x : Str} : wB (.str x) = x.cps.size := by simp only [wB]
@[simp] theorem wB_tup {xs : List W} : wB (.tup xs) = wBs xs := by simp only [wB]
@[simp] theorem wB_fix {xs : List W} : wB (.fix xs) = wBs xs := by simp only [wB]
@[simp] theorem wBs_nil : wBs [] = 0 := by simp only [wBs]
@[simp] theorem wBs_cons {x : W} {xs : List W} : wBs (x :: xs) = wB x + 1 + wBs xs := by simp only [wBs]
theorem sms_map {α : Type} (f : α → W) (l : List α) (h : ∀ a ∈ l, smW (f a) = true) : smWs (l.map f) = true := by
  induction l with
  | nil => rfl
  | cons a r ih => simp only [List.map_cons, sms_cons, h a List.mem_cons_self, ih fun b hb => h b (List.mem_cons_of_mem _ hb), Bool.and_self]
theorem wBs_map {α : Type} (f : α → W) (l : List α) (k : Nat) (h : ∀ a ∈ l, wB (f a) ≤ k) : wBs (l.map f) ≤ (k + 1) * l.length := by
  induction l with
  | nil => simp
  | cons a r ih =>
    have h1 := h a List.mem_cons_self
    have h2 := ih fun b hb => h b (List.mem_cons_of_mem _ hb)
    simp only [List.map_cons, wBs_cons, List.length_cons, Nat.mul_add, Nat.mul_one]
    omega
/-- == of what is told to be tx and ty -/
theorem eqB_T {x y tx ty : W} {h : PH} {n m : Nat} (hx : dat h x = some (dT tx)) (hy : dat h y = some (dT ty)) (px : plW n tx = true) (py : plW m ty = true) (hn : n ≤ 64) (hm : m ≤ 64) (hb : ∀ b, x ≠ .bl b) : eqB x y h = some (decide (tx = ty)) := by
  obtain ⟨_, b, c⟩ := dat_pl (datL 4 h) n tx px
  obtain ⟨_, b2, c2⟩ := dat_pl (datL 4 h) m ty py
  rw [eqB_dat hx hy (shaped_pl b c hn) (shaped_pl b2 c2 hm) hb]
  have := eqv_pl n tx ty m px py
  congr 1
  by_cases q : tx = ty
  · rw [this.mpr q, decide_eq_true q]
  · rw [decide_eq_false q]
    cases e : PyData.eqv (dT tx) (dT ty) with
    | false => rfl
    | true => exact absurd (this.mp e) q
theorem wNe_T {x y tx ty : W} {h : PH} {n m : Nat} (hx : dat h x = some (dT tx)) (hy : dat h y = some (dT ty)) (px : plW n tx = true) (py : plW m ty = true) (hn : n ≤ 64) (hm : m ≤ 64) (hb : ∀ b, x ≠ .bl b) : wNe x y h = some (.bl (!decide (tx = ty)), h) := by
  unfold wNe
  rw [eqB_T hx hy px py hn hm hb]
  rfl
theorem wEq_T {x y tx ty : W} {h : PH} {n m : Nat} (hx : dat h x = some (dT tx)) (hy : dat h y = some (dT ty)) (px : plW n tx = true) (py : plW m ty = true) (hn : n ≤ 64) (hm : m ≤ 64) (hb : ∀ b, x ≠ .bl b) : wEq x y h = some (.bl (decide (tx = ty)), h) := by
  unfold wEq
  rw [eqB_T hx hy px py hn hm hb]
  rfl
/-- a list of the heap whose items are lists of the heap, of plain data -/
theorem dat_lst2 {h : PH} {n k : Nat} {rs : List Nat} {L : Nat → List W} (e : h[n]? = some (.lst (rs.map W.ref))) (hl : ∀ r ∈ rs, h[r]? = some (.lst (L r))) (hp : ∀ r ∈ rs, plWs k (L r) = true) : dat h (.ref n) = some (dT (.fix (rs.map fun r => W.fix (L r)))) := by
  show datL 4 h n = _
  unfold datL
  rw [e]
  dsimp only
  have : datSs (datL 3 h) (rs.map W.ref) = some (dTs (rs.map fun r => W.fix (L r))) := by
    clear e
    induction rs with
    | nil => rfl
    | cons a r ih =>
      have i := ih (fun x hx => hl x (List.mem_cons_of_mem _ hx)) fun x hx => hp x (List.mem_cons_of_mem _ hx)
      have e1 : datS (datL 3 h) (.ref a) = some (dT (.fix (L a))) := by
        show datL 3 h a = _
        unfold datL
        rw [hl a List.mem_cons_self]
        dsimp only
        rw [(dats_pl (datL 2 h) k (L a) (hp a List.mem_cons_self)).1]
        simp only [Option.map_some, dT]
      simp only [List.map_cons, datSs, e1, i, dTs]
  rw [this]
  simp only [Option.map_some, dT]
end Mir

/-! Mir: exceptions of the program's own classes: raised, caught and kept, asked of. -/
namespace Mir
open PySem PySem.Spec PyProof.Rows L2

/-! ### an exception taken over from the air -/
section
variable {X : Cx} {pins : List (Addr × Obj)} {σ : L2.St} {H : Hp} {s sI : Shared} {a C : Addr} {d : Option Addr} {oe : Obj} {vs : Array Value}
theorem exV_ok {P : Program} {w : World} {G : Hp} {h : Heap} (he : h.get? a = some oe) (hz : Zc (.ref C) d oe) (hv : oe.data = .fields vs) : ObjOk P w G h a (exV C d a) :=
  ⟨⟨oe, vs, he, hz, hv⟩, ⟨oe, he⟩, fun h1 h2 z k => by
    obtain ⟨o, u, q, r⟩ := z
    exact ⟨o, u, k o q, r⟩⟩
/-- the state with it: J is of the state ahead, where it did not stand -/
theorem inv_adopt (J : Inv X pins σ H sI) (I : Inv X pins σ H s) (hx : X.ex = []) (hn : sI.heap.get? a = none) (na : H a = none) (nL : a ≠ X.env.locals) (nF : a ∉ X.fs) (he : s.heap.get? a = some oe) (hz : Zc (.ref C) d oe) (hv : oe.data = .fields vs) :
    Inv X pins σ (upd H a (exV C d a)) s := by
  have n0 : ∀ b o, X.s_0.heap.get? b = some o → b ≠ a := fun b o e z => by
    obtain ⟨o', q⟩ := J.base.there b o e (by rw [hx]; exact List.not_mem_nil)
    rw [z, hn] at q
    cases q
  refine ⟨I.ok, I.os, I.bare, ⟨I.base.keep, I.base.slot, fun b o e n h => ?_, I.base.there, fun b xs e => ?_, fun b o u e => ?_, fun b ps e => ?_⟩, I.loc, I.cell, ?_, fun x c e => ?_, fun p hp => ?_, fun b u e => ?_, I.len⟩
  · rw [upd_ne (n0 b o e)]
    exact I.base.free b o e n h
  · have q := I.base.tups b xs e
    rw [upd_ne (ne_of_none q na)]
    exact q
  · have q := I.base.frzs b o u e
    rw [upd_ne (ne_of_none q na)]
    exact q
  · obtain ⟨m, q⟩ := I.base.tbls b ps e
    exact ⟨m, by rw [upd_ne (ne_of_none q na)]; exact q⟩
  · rw [upd_ne (Ne.symm nL)]
    exact I.free
  · obtain ⟨v, o, q, _⟩ := J.cell x c e
    rw [upd_ne (fun z => by rw [z, hn] at q; cases q)]
    exact I.freeC x c e
  · obtain ⟨q, _⟩ := J.pin p hp
    obtain ⟨h1, h2, h3⟩ := I.pin p hp
    exact ⟨h1, by rw [upd_ne (fun z => by rw [z, hn] at q; cases q)]; exact h2, h3⟩
  · by_cases hb : b = a
    · subst hb
      rw [upd_same] at e
      cases e
      exact exV_ok he hz hv
    · rw [upd_ne hb] at e
      exact (I.hok b u e).stay (fun _ _ _ q => q) (fun c q => by rw [upd_ne (ne_of_none q na)]; exact q) fun c xs q => by rw [upd_ne (ne_of_none q na)]; exact q
theorem inv_suite0 (I : Inv X pins σ H s) : Inv (X.suite a (X.pn ++ pins)) [] σ H s :=
  ⟨I.ok.suite _ _, I.os, I.bare, I.base, I.loc, I.cell, I.free, I.freeC, fun p hp => I.pin p (by rw [List.append_nil] at hp; exact hp), I.hok, I.len⟩
theorem inv_unsuite0 (ok : X.Ok) {p2 : List (Addr × Obj)} (I : Inv (X.suite a (X.pn ++ pins)) p2 σ H s) : Inv X pins σ H s :=
  ⟨ok, I.os, I.bare, I.base, I.loc, I.cell, I.free, I.freeC, fun p hp => I.pin p (List.mem_append_left _ hp), I.hok, I.len⟩
end

/-! ### try: the exception that is caught is kept -/
/-- a clause: the class, the name's slot, the suite's reading -/
structure Cl where
  c : Value
  i : Option Nat
  t : TS
def Cl.set (k : Cl) (a : Addr) (σ : L2.St) : L2.St := match k.i with
  | none => σ
  | some i => σ.set i (some (.ref a))
def Cl.end_ (k : Cl) (σ : L2.St) : L2.St := match k.i with
  | none => σ
  | some i => σ.set i none
def Cl.D (k : Cl) (D : Ends) : Ends := { nx := fun σ' H' => D.nx (k.end_ σ') H', rt := D.rt, bk := fun σ' H' => D.bk (k.end_ σ') H', ct := fun σ' H' => D.ct (k.end_ σ') H' }
/-- what the clauses want of an exception of the body -/
def wK (K : PySem.W.Frag) (Wo : WX) (D : Ends) : List Cl → WX
  | [] => Wo
  | k :: r => fun cls d σ H => ∃ b, PySem.W.exmOne K cls k.c = some b ∧ (b = true → ∃ C, cls = .ref C ∧ ∀ a, H a = none → k.t (k.D D) (k.set a σ) (upd H a (exV C d a))) ∧ (b = false → wK K Wo D r cls d σ H)
inductive HdK (X : Cx) : List ExceptHandler → List Cl → Prop
  | nil : HdK X [] []
  | plain {x : Str} {k : Cl} {b₀ : Stmt} {suite : List Stmt} {np pos' : Pos} {hds : List ExceptHandler} {l : List Cl} (hc : Names X x k.c) (hi : k.i = none)
      (hsu : ∀ (a : Addr) (pn : List (Addr × Obj)), PSs (X.suite a pn) (b₀ :: suite) k.t) (r : HdK X hds l) : HdK X (.ExceptHandler (some (.Name x np)) none (b₀ :: suite) pos' :: hds) (k :: l)
  | named {x n : Str} {i : Nat} {k : Cl} {b₀ : Stmt} {suite : List Stmt} {np pos' : Pos} {hds : List ExceptHandler} {l : List Cl} (hc : Names X x k.c) (hi : k.i = some i) (hN : X.N.Nodup) (hn : X.N[i]? = some n) (hln : X.env.kindOf n = some .local)
      (hsu : ∀ (a : Addr) (pn : List (Addr × Obj)), PSs (X.suite a pn) (b₀ :: suite) k.t) (r : HdK X hds l) : HdK X (.ExceptHandler (some (.Name x np)) (some n) (b₀ :: suite) pos' :: hds) (k :: l)
section
variable {X : Cx} {body : List Stmt} {h₀ : ExceptHandler} {hds : List ExceptHandler} {l : List Cl} {pos : Pos} {tb : WX → TS} {Wo : WX}
theorem ps_try_keep (hs : X.stack = X.env :: X.outer) (hf : X.env.frame = some X.env.locals) (hx : X.ex = []) (tk : Takes X Wo)
    (hb : ∀ (W : WX) (pn : List (Addr × Obj)) (xe : Value → Shared → Prop), Takes (X.tr pn xe) W → PassesOwn (model X.prog X.w) X.A X.env xe → PSs (X.tr pn xe) body (tb W))
    (hh : HdK X (h₀ :: hds) l) : PS X (.Try body (h₀ :: hds) [] [] pos) (fun D σ H => tb (wK X.K Wo D l) D σ H) := by
  refine ⟨fun pins s σ H D I h => ?_⟩
  have ok := I.ok
  have frames : X.A.frames = some (X.env :: X.outer) := by rw [ok.frames, hs]
  have catch_ : ∀ u s', XE (X.tr (X.pn ++ pins) fun e s₁ => wpAny (model X.prog X.w) X.A (noteFrame e X.env) (fun _ s₂ => wpAny (model X.prog X.w) X.A (setFlight e none) (fun _ s₃ =>
      wpAny (model X.prog X.w) X.A (handleBy e X.env (h₀ :: hds)) (SP X pins D) X.xe s₃) X.xe s₂) X.xe s₁) (wK X.K Wo D l) u s' →
      wpAny (model X.prog X.w) X.A (noteFrame u X.env) (fun _ s₂ => wpAny (model X.prog X.w) X.A (setFlight u none) (fun _ s₃ =>
      wpAny (model X.prog X.w) X.A (handleBy u X.env (h₀ :: hds)) (SP X pins D) X.xe s₃) X.xe s₂) X.xe s' := by
    intro u s' xx
    obtain ⟨a, B, sI, pins', σ1, H1, cls, d, rfl, J0, nb, up, sky, na, os, ag, w⟩ := xx
    have J : Inv X pins σ1 H1 sI := J0.ofTry ok
    have sky2 : Sky B (X.env :: X.outer) a (Zc cls d) X.env.locals s'.heap := by rw [← hs]; exact sky
    have nB : B.get? a = none := by
      rcases sky2 with z | z | z
      · exact z.2.1
      · exact z.2.1
      · exact z.2.1
    refine Sky.land Zc.steady frames hf sky2 fun h3 fl3 up3 => ?_
    have J3 : Inv X pins σ1 H1 { s' with heap := h3 } := J.landed nb fl3.1 (up.trans up3) os ag
    obtain ⟨oe3, vs3, he3, hz3, hd3⟩ := fl3.there
    have outside : a ∉ frs (X.env :: X.outer) := fun hm => by
      obtain ⟨_, o2, e2, hnf⟩ := fl3.2.2.1.mem hm
      rw [he3] at e2
      cases e2
      exact hnf _ hd3
    have nL : a ≠ X.env.locals := fun z => outside (List.mem_filterMap.mpr ⟨X.env, List.mem_cons_self, by rw [hf, z]⟩)
    have nF : a ∉ X.fs := fun hm => by
      obtain ⟨e, he, q⟩ := List.mem_filterMap.mp hm
      exact outside (List.mem_filterMap.mpr ⟨e, List.mem_cons_of_mem _ he, q⟩)
    have nI : sI.heap.get? a = none := by
      cases e : sI.heap.get? a with
      | none => rfl
      | some o =>
        have := nb a o e (by rw [hs]; exact outside)
        rw [nB] at this
        cases this
    have S3 : Inv (X.suite a (X.pn ++ pins)) [] σ1 H1 { s' with heap := h3 } := inv_suite0 J3
    have asked : ∀ {x : Str} {c : Value} {np : Pos} {Q E : Value → Shared → Prop}, Names X x c → Q c { s' with heap := h3 } → wpAny (model X.prog X.w) (X.A.mark (some (.ref a))) (eval (.Name x np) X.env) Q E { s' with heap := h3 } := fun {x c np Q E} hc q => by
      obtain ⟨hg, hdb, hm | ⟨hm, hv, hnn⟩⟩ := hc
      · exact ld_glob (X := X.suite a (X.pn ++ pins)) S3 hg hm q hdb
      · exact ld_blt (X := X.suite a (X.pn ++ pins)) S3 hg hm hv q hnn hdb
    have LT : PySem.W.Looks (model X.prog X.w) h3 (typeOf (.ref a)) cls := fun A Q E s k q => wpAny_typeOf_ref (k _ _ he3) (by rw [hz3.1]; exact q)
    have taken : ∀ {C : Addr} {s4 : Shared}, cls = .ref C → Inv X pins σ1 H1 s4 → (∃ oe vs, s4.heap.get? a = some oe ∧ Zc cls d oe ∧ oe.data = .fields vs) → Inv X pins σ1 (upd H1 a (exV C d a)) s4 := fun {C s4} ec I4 z => by
      obtain ⟨oe, vs, z1, z2, z3⟩ := z
      subst ec
      exact inv_adopt J I4 hx nI na nL nF z1 z2 z3
    have go : ∀ {hd2 : List ExceptHandler} {l2 : List Cl}, HdK X hd2 l2 → wK X.K Wo D l2 cls d σ1 H1 →
        wpAny (model X.prog X.w) X.A (handleBy (.ref a) X.env hd2) (SP X pins D) X.xe { s' with heap := h3 } := by
      intro hd2 l2 hk
      induction hk with
      | nil =>
        intro w2
        refine wpAny_handleBy_nil ?_
        obtain ⟨g1, g2, g3, oe, vs, T, oT, tt, g4, g5, g6, g7, g8⟩ := id fl3
        have last : wpAny (model X.prog X.w) X.A (setFlight (.ref a) X.env.frame) (fun _ s4 => wpAny (model X.prog X.w) X.A (throw (.ref a) : Sem Flow) (SP X pins D) X.xe s4) X.xe { s' with heap := h3 } := by
          rw [hf]
          exact HandSPX.setFlight_upZ fl3 fun h4 q4 up4 => wpAny_throw (tk _ _ ⟨a, B, sI, pins, σ1, H1, cls, d, rfl, J, nb, (up.trans up3).trans up4, .inr (.inr (by rw [hs]; exact q4)), na, os, ag, w2⟩)
        unfold PySem.passOn
        refine wpAny_bind (wpAny_field g4 g6 g7 ?_)
        rw [if_neg (show ¬ ((Value.ref T == Value.none) = true) from by simp)]
        first
          | exact wpAny_bind (wpAny_pure (wpAny_bind last))
          | exact wpAny_bind last
      | @plain x k b₀ suite np pos' hd3 l3 hc hi hsu r ih =>
        intro w2
        obtain ⟨b, hb1, yes, no⟩ := w2
        refine wpAny_handleBy_cons (codeAny_handlers_test (asked hc ((PySem.W.exm_one (M := model X.prog X.w) J3.kIn LT hb1).here ?_))) (by intro q; cases q)
        cases b with
        | false =>
          show wpAny _ X.A (handleBy (.ref a) X.env hd3) _ _ _
          exact ih (no rfl)
        | true =>
          obtain ⟨C, ec, q⟩ := yes rfl
          refine codeAny_handlers_suite (HandSPX.lands_againZ fl3 fun h4 fl4 up4 => ?_)
          have I4 : Inv X pins σ1 H1 { s' with heap := h4 } := J.landed nb fl4.1 ((up.trans up3).trans up4) os ag
          have q := q a na
          simp only [Cl.set, hi] at q
          refine wpAny_mono ((hsu a (X.pn ++ pins)).run [] _ _ _ _ (inv_suite0 (taken ec I4 fl4.there)) q) (fun f s6 hsp => ?_) (fun _ _ z => False.elim z)
          have ee : ∀ σ : L2.St, k.end_ σ = σ := fun σ => by simp only [Cl.end_, hi]
          cases f with
          | next =>
            obtain ⟨σ6, H6, S6, q6⟩ := hsp
            exact ⟨_, _, inv_unsuite0 ok S6, (ee σ6) ▸ q6⟩
          | brk =>
            obtain ⟨σ6, H6, S6, q6⟩ := hsp
            exact ⟨_, _, inv_unsuite0 ok S6, (ee σ6) ▸ q6⟩
          | cont =>
            obtain ⟨σ6, H6, S6, q6⟩ := hsp
            exact ⟨_, _, inv_unsuite0 ok S6, (ee σ6) ▸ q6⟩
          | ret u =>
            obtain ⟨v6, σ6, H6, S6, r6, q6⟩ := hsp
            exact ⟨_, _, _, inv_unsuite0 ok S6, r6, q6⟩
      | @named x n i k b₀ suite np pos' hd3 l3 hc hi hN hn hln hsu r ih =>
        intro w2
        obtain ⟨b, hb1, yes, no⟩ := w2
        refine wpAny_handleBy_cons (codeAny_handlers_test (asked hc ((PySem.W.exm_one (M := model X.prog X.w) J3.kIn LT hb1).here ?_))) (by intro q; cases q)
        cases b with
        | false =>
          show wpAny _ X.A (handleBy (.ref a) X.env hd3) _ _ _
          exact ih (no rfl)
        | true =>
          obtain ⟨C, ec, q⟩ := yes rfl
          refine codeAny_handlers_suite_as (HandSPX.lands_againZ fl3 fun h4 fl4 up4 => ?_)
          have I4 : Inv X pins σ1 H1 { s' with heap := h4 } := J.landed nb fl4.1 ((up.trans up3).trans up4) os ag
          have q := q a na
          simp only [Cl.set, hi] at q
          refine store_ok (X := X.suite a (X.pn ++ pins)) (v := .ref a) (inv_suite0 (taken ec I4 fl4.there)) hN hn (.inl hln) rfl (fun s5 S5 => ?_) (.inr hln)
          refine wpAny_mono ((hsu a (X.pn ++ pins)).run [] s5 _ _ _ S5 q) (fun f s6 hsp => ?_) (fun _ _ z => False.elim z)
          have ee : ∀ σ : L2.St, k.end_ σ = σ.set i none := fun σ => by simp only [Cl.end_, hi]
          cases f with
          | next =>
            obtain ⟨σ6, H6, S6, q6⟩ := hsp
            exact gone_ok (inv_unsuite0 ok S6) hN hn hln fun s7 J7 => ⟨_, _, J7, (ee σ6) ▸ q6⟩
          | brk =>
            obtain ⟨σ6, H6, S6, q6⟩ := hsp
            exact gone_ok (inv_unsuite0 ok S6) hN hn hln fun s7 J7 => ⟨_, _, J7, (ee σ6) ▸ q6⟩
          | cont =>
            obtain ⟨σ6, H6, S6, q6⟩ := hsp
            exact gone_ok (inv_unsuite0 ok S6) hN hn hln fun s7 J7 => ⟨_, _, J7, (ee σ6) ▸ q6⟩
          | ret u =>
            obtain ⟨v6, σ6, H6, S6, r6, q6⟩ := hsp
            exact gone_ok (inv_unsuite0 ok S6) hN hn hln fun s7 J7 => ⟨_, _, _, J7, r6, q6⟩
    exact go hh w
  refine wpAny_Try_except (wpAny_mono ((hb (wK X.K Wo D l) (X.pn ++ pins) _ catch_ PassesOwn.looking).run [] s σ H D (I.toTry _) h) (fun f s1 hsp => ?_) fun e s1 he => he)
  cases f with
  | next =>
    obtain ⟨σ1, H1, J, q⟩ := hsp
    exact wpAny_execs_nil ⟨σ1, H1, J.ofTry ok, q⟩
  | brk =>
    obtain ⟨σ1, H1, J, q⟩ := hsp
    exact ⟨σ1, H1, J.ofTry ok, q⟩
  | cont =>
    obtain ⟨σ1, H1, J, q⟩ := hsp
    exact ⟨σ1, H1, J.ofTry ok, q⟩
  | ret u =>
    obtain ⟨v, σ1, H1, J, r, q⟩ := hsp
    exact ⟨v, σ1, H1, J.ofTry ok, r, q⟩
end
end Mir

/-! Mir: raise, try and isinstance by the own computations. -/
namespace Mir
open PySem PySem.Spec PyProof.Rows L2

/-- the program's classes: all stand under DuelError -/
def isSub (c d : Str) : Bool := c == d || d == "DuelError" || d == "ValueError"
def ClsOf (mg : Str → Option Value) (d : Str) (u : Value) : Prop := mg d = some u ∨ (mg d = none ∧ bootBuiltins d = some u)
/-- isinstance says so of c and d -/
def EPair (K : PySem.W.Frag) (mg : Str → Option Value) (c d : Str) : Prop := ∀ (C : Addr) (u : Value), PySem.W.nsIn K mainGlobals c = some (some (.ref C)) → ClsOf mg d u → PySem.W.kitOne K (.ref C) u = some (isSub c d)
/-- a clause says so of c and d -/
def EMat (K : PySem.W.Frag) (mg : Str → Option Value) (c d : Str) : Prop := ∀ (C : Addr) (u : Value), PySem.W.nsIn K mainGlobals c = some (some (.ref C)) → ClsOf mg d u → PySem.W.exmOne K (.ref C) u = some (isSub c d)
theorem cls_one {K : PySem.W.Frag} {mg : Str → Option Value} {c d : Str} {C : Addr} {u : Value} (hc : PySem.W.nsIn K mainGlobals c = some (some (.ref C))) (hd : mg d = some u ∨ (mg d = none ∧ bootBuiltins d = some u)) {C2 : Addr} {u2 : Value} (e : PySem.W.nsIn K mainGlobals c = some (some (.ref C2))) (z : ClsOf mg d u2) : C2 = C ∧ u2 = u := by
  rw [hc] at e
  cases e
  refine ⟨rfl, ?_⟩
  rcases z with z | ⟨z, z2⟩ <;> rcases hd with hd | ⟨hd, h2⟩
  · rw [hd] at z; exact (Option.some.inj z).symm
  · rw [hd] at z; cases z
  · rw [hd] at z; cases z
  · rw [h2] at z2; exact (Option.some.inj z2).symm
theorem epair_of {K : PySem.W.Frag} {mg : Str → Option Value} {c d : Str} {C : Addr} {u : Value} {b : Bool} (hc : PySem.W.nsIn K mainGlobals c = some (some (.ref C))) (hd : mg d = some u ∨ (mg d = none ∧ bootBuiltins d = some u)) (k : PySem.W.kitOne K (.ref C) u = some b) (hb : isSub c d = b) : EPair K mg c d := fun C2 u2 e z => by
  obtain ⟨rfl, rfl⟩ := cls_one hc hd e z
  rw [k, hb]
theorem emat_of {K : PySem.W.Frag} {mg : Str → Option Value} {c d : Str} {C : Addr} {u : Value} {b : Bool} (hc : PySem.W.nsIn K mainGlobals c = some (some (.ref C))) (hd : mg d = some u ∨ (mg d = none ∧ bootBuiltins d = some u)) (k : PySem.W.exmOne K (.ref C) u = some b) (hb : isSub c d = b) : EMat K mg c d := fun C2 u2 e z => by
  obtain ⟨rfl, rfl⟩ := cls_one hc hd e z
  rw [k, hb]

/-! ### try -/
structure ClM where
  d : Str
  i : Option Nat
  m : SM
def bindE (i : Option Nat) (x : XV) (ps : LS) : LS := match i with
  | none => ps
  | some i => ps.set i (some (.exc x))
def endE (i : Option Nat) (ps : LS) : LS := match i with
  | none => ps
  | some i => ps.set i none
def resE (i : Option Nat) : SRes → SRes
  | .nx ps h => .nx (endE i ps) h
  | .bk ps h => .bk (endE i ps) h
  | .ct ps h => .ct (endE i ps) h
  | .rt w h => .rt w h
  | _ => .stuck
def hnd (x : XV) (ps : LS) (h : PH) : List ClM → SRes
  | [] => .exc x ps h
  | k :: r => if isSub x.c k.d = true then resE k.i (k.m (bindE k.i x ps) h) else hnd x ps h r
def sTry (kn : List Str) (mb : SM) (l : List ClM) : SM := fun ps h => match mb ps h with
  | .exc x ps1 h1 => if kn.contains x.c = true then hnd x ps1 h1 l else .stuck
  | r => r
inductive HdM (X : Cx) (kn : List Str) : List ExceptHandler → List ClM → Prop
  | nil : HdM X kn [] []
  | plain {u : Value} {k : ClM} {b₀ : Stmt} {suite : List Stmt} {np pos' : Pos} {hds : List ExceptHandler} {l : List ClM} (hc : Names X k.d u) (hp : ∀ c ∈ kn, EMat X.K X.mg c k.d) (hi : k.i = none)
      (hsu : ∀ (a : Addr) (pn : List (Addr × Obj)), SSs (X.suite a pn) Wno (b₀ :: suite) k.m) (r : HdM X kn hds l) : HdM X kn (.ExceptHandler (some (.Name k.d np)) none (b₀ :: suite) pos' :: hds) (k :: l)
  | named {u : Value} {n : Str} {i : Nat} {k : ClM} {b₀ : Stmt} {suite : List Stmt} {np pos' : Pos} {hds : List ExceptHandler} {l : List ClM} (hc : Names X k.d u) (hp : ∀ c ∈ kn, EMat X.K X.mg c k.d) (hi : k.i = some i)
      (hN : X.N.Nodup) (hn : X.N[i]? = some n) (hln : X.env.kindOf n = some .local)
      (hsu : ∀ (a : Addr) (pn : List (Addr × Obj)), SSs (X.suite a pn) Wno (b₀ :: suite) k.m) (r : HdM X kn hds l) : HdM X kn (.ExceptHandler (some (.Name k.d np)) (some n) (b₀ :: suite) pos' :: hds) (k :: l)
theorem clsOf_names {X : Cx} {d : Str} {u : Value} (h : Names X d u) : ClsOf X.mg d u := by
  obtain ⟨_, _, z | ⟨z1, z2, _⟩⟩ := h
  · exact .inl z
  · exact .inr ⟨z1, z2⟩
section
variable {X : Cx} {W0 : WX} {kn : List Str}
/-- a caught exception stands in the slot -/
theorem srep_end {f : List Addr} {H : Hp} {ps : LS} {σ : L2.St} {k : ClM} {t : TS} {u : Value} (q : SRep X.K f H ps σ) : SRep X.K f H (endE k.i ps) (Cl.end_ ⟨u, k.i, t⟩ σ) := by
  unfold endE Cl.end_
  cases k.i with
  | none => exact q
  | some i => exact q.unset i
theorem wk_one {D : Ends} {f : List Addr} {h : PH} {H : Hp} {σ : L2.St} {ps : LS} {x : XV} {c : Value} {d : Option Addr} {k : ClM} {l : List ClM} {lc : List Cl} {u : Value} (hu : ClsOf X.mg k.d u) (hp : EMat X.K X.mg x.c k.d)
    (s : Sim X.K f h H) (sr : SRep X.K f H ps σ) (xr : XRep X.K f H x c d) (p : PostS X.K f H (hnd x ps h (k :: l)) D W0) (go : PostS X.K f H (hnd x ps h l) D W0 → wK X.K W0 D lc c d σ H) :
    wK X.K W0 D (⟨u, k.i, tS X.K Wno k.m⟩ :: lc) c d σ H := by
  obtain ⟨⟨C, rfl, ns⟩, dd⟩ := id xr
  refine ⟨isSub x.c k.d, hp C u ns hu, fun yes => ⟨C, rfl, fun a na => ?_⟩, fun no => go ?_⟩
  · have p : PostS X.K f H (hnd x ps h (k :: l)) D W0 := p
    rw [show hnd x ps h (k :: l) = resE k.i (k.m (bindE k.i x ps) h) by simp only [hnd]; rw [if_pos yes]] at p
    have st := s.other (o := exV C d a) na
    have sty := st.stay s
    have p := PostS.later st p
    refine ⟨f, h, bindE k.i x ps, st.sim, ?_, ?_⟩
    · have sr2 := st.srep s sr
      unfold bindE Cl.set
      cases k.i with
      | none => exact sr2
      | some i => exact sr2.set i (rep_exc.mpr ⟨a, rfl, C, d, xr.mono sty, upd_same⟩)
    · cases e : k.m (bindE k.i x ps) h with
      | nx ps2 h2 => rw [e] at p; exact fun f' H' σ' s2 q => p f' H' _ s2 (srep_end q)
      | bk ps2 h2 => rw [e] at p; exact fun f' H' σ' s2 q => p f' H' _ s2 (srep_end q)
      | ct ps2 h2 => rw [e] at p; exact fun f' H' σ' s2 q => p f' H' _ s2 (srep_end q)
      | rt w h2 => rw [e] at p; exact p
      | exc y ps2 h2 => rw [e] at p; exact p.elim
      | stuck => rw [e] at p; exact p.elim
  · have e : hnd x ps h (k :: l) = hnd x ps h l := by simp only [hnd]; rw [if_neg (by rw [no]; exact Bool.false_ne_true)]
    rw [e] at p
    exact p
theorem hd_go {hs : List ExceptHandler} {l : List ClM} (hk : HdM X kn hs l) : ∃ lc : List Cl, HdK X hs lc ∧ ∀ (D : Ends) (f : List Addr) (h : PH) (H : Hp) (σ : L2.St) (ps : LS) (x : XV) (c : Value) (d : Option Addr), x.c ∈ kn →
    Sim X.K f h H → SRep X.K f H ps σ → XRep X.K f H x c d → PostS X.K f H (hnd x ps h l) D W0 → wK X.K W0 D lc c d σ H := by
  induction hk with
  | nil => exact ⟨[], .nil, fun D f h H σ ps x c d hx s sr xr p => p f H σ c d (.refl s) sr xr⟩
  | @plain u k b₀ suite np pos' hds l hc hp hi hsu r ih =>
    obtain ⟨lc, h1, h2⟩ := ih
    exact ⟨⟨u, k.i, tS X.K Wno k.m⟩ :: lc, .plain (k := ⟨u, k.i, tS X.K Wno k.m⟩) hc hi hsu h1, fun D f h H σ ps x c d hx s sr xr p => wk_one (clsOf_names hc) (hp _ hx) s sr xr p (h2 D f h H σ ps x c d hx s sr xr)⟩
  | @named u n i k b₀ suite np pos' hds l hc hp hi hN hn hln hsu r ih =>
    obtain ⟨lc, h1, h2⟩ := ih
    exact ⟨⟨u, k.i, tS X.K Wno k.m⟩ :: lc, .named (k := ⟨u, k.i, tS X.K Wno k.m⟩) hc hi hN hn hln hsu h1, fun D f h H σ ps x c d hx s sr xr p => wk_one (clsOf_names hc) (hp _ hx) s sr xr p (h2 D f h H σ ps x c d hx s sr xr)⟩
theorem ss_try {body : List Stmt} {h₀ : ExceptHandler} {hds : List ExceptHandler} {l : List ClM} {pos : Pos} {mb : SM} (hs : X.stack = X.env :: X.outer) (hf : X.env.frame = some X.env.locals) (hx : X.ex = []) (tk : Takes X W0)
    (hb : ∀ (W : WX) (pn : List (Addr × Obj)) (xe : Value → Shared → Prop), Takes (X.tr pn xe) W → PassesOwn (model X.prog X.w) X.A X.env xe → SSs (X.tr pn xe) W body mb) (hh : HdM X kn (h₀ :: hds) l) : SS X W0 (.Try body (h₀ :: hds) [] [] pos) (sTry kn mb l) := by
  obtain ⟨lc, h1, h2⟩ := hd_go (W0 := W0) hh
  refine ps_imp (ps_try_keep (tb := fun W => tS X.K W mb) hs hf hx tk (fun W pn xe tk2 po => hb W pn xe tk2 po) h1) fun D σ H h => ?_
  obtain ⟨f, h, ps, s, sr, p⟩ := h
  refine ⟨f, h, ps, s, sr, ?_⟩
  unfold sTry at p
  cases e : mb ps h with
  | nx ps1 h1 => rw [e] at p; exact p
  | bk ps1 h1 => rw [e] at p; exact p
  | ct ps1 h1 => rw [e] at p; exact p
  | rt w h1 => rw [e] at p; exact p
  | stuck => rw [e] at p; exact p.elim
  | exc x ps1 g1 =>
    rw [e] at p
    dsimp only at p
    split at p
    · rename_i hk
      exact fun f' H' σ' c d s2 q xr => h2 D f' g1 H' σ' ps1 x c d (by simpa using hk) s2.sim q xr (PostS.later s2 p)
    · exact p.elim
end

/-! ### raise -/
def sRaise (c : Str) : SM := fun ps h => .exc ⟨c, []⟩ ps h
/-- a class without own __init__ -/
structure ECls (K : PySem.W.Frag) (mg : Str → Option Value) (c : Str) : Prop where
  ex : ∃ C : Addr, mg c = some (.ref C) ∧ PySem.W.nsIn K mainGlobals c = some (some (.ref C)) ∧ PySem.W.keepIn K (.ref C) = true ∧ PySem.W.subIn K (.ref C) (.type "BaseException") = some true ∧ PySem.W.typeIn K (.ref C) = some (.type "type") ∧
    PySem.W.excIn K C [.type "ValueError", .type "Exception", .type "BaseException", .type "object"] "ValueError.__new__" = true
end Mir

/-! Mir: raise; isinstance and the fields of a kept exception; one made by hand. -/
namespace Mir
open PySem PySem.Spec PyProof.Rows L2
section
variable {X : Cx} {W0 : WX} {pos pos2 p p2 : Pos} {e : Expr} {m : EM}
/-- raise C('..') -/
theorem ss_raise {c t : Str} {j : Nat} (T : ECls X.K X.mg c) (hc : X.calm = true) (tk : Takes X W0) (hg : Gl X c := by rfl) (hdb : (c == ("__debug__" : Str)) = false := by decide) :
    SS X W0 (.Raise (some (.Call (.Name c p) [.Constant (.str t) j p2] [] pos)) none pos2) (sRaise c) := by
  obtain ⟨C, h1, h2, h3, h4, h5, h6⟩ := T.ex
  refine ps_imp (ps_raise hc tk (pmk_own PySem.F.excBase_ValueError h6 h1 h3 (raises_own h4 h5) hg hdb)) fun D σ H h => ?_
  obtain ⟨f, h, ps, s, sr, q⟩ := h
  exact q f H σ (.ref C) none (.refl s) sr ⟨⟨C, rfl, h2⟩, .inl ⟨rfl, rfl⟩⟩

/-! ### constants of the module -/
theorem se_globI {c : Str} {i : Int} (h : ∃ t, X.mg c = some (.int i t)) (hg : Gl X c := by rfl) (hdb : (c == ("__debug__" : Str)) = false := by decide) : SE X W0 (.Name c p) (mC (.int i)) := by
  obtain ⟨t, h⟩ := h
  exact pe_imp (pe_glob hg h (show RelV (V.int i) (Value.int i t) from ⟨t, rfl⟩) hdb) fun σ H Q h => by
    obtain ⟨f, h, ps, s, sr, q⟩ := h
    exact post_pure s q (rep_int.mpr rfl)
theorem se_globS {c z : Str} (h : ∃ t, X.mg c = some (.str z t)) (hg : Gl X c := by rfl) (hdb : (c == ("__debug__" : Str)) = false := by decide) : SE X W0 (.Name c p) (mC (.str z)) := by
  obtain ⟨t, h⟩ := h
  exact pe_imp (pe_glob hg h (show RelV (V.str z) (Value.str z t) from ⟨t, rfl⟩) hdb) fun σ H Q h => by
    obtain ⟨f, h, ps, s, sr, q⟩ := h
    exact post_pure s q (rep_str.mpr rfl)

/-! ### isinstance -/
/-- by the class's name: what isinstance asks -/
def ExN (K : PySem.W.Frag) (c : Str) : Prop := ∀ C : Addr, PySem.W.nsIn K mainGlobals c = some (some (.ref C)) → ExcC K C
theorem exn_of {K : PySem.W.Frag} {c : Str} {C : Addr} (h : PySem.W.nsIn K mainGlobals c = some (some (.ref C))) (q : ExcC K C) : ExN K c := fun C2 e => by
  rw [h] at e
  cases e
  exact q
theorem exV_inst {pins : List (Addr × Obj)} {σ : L2.St} {H : Hp} {s : Shared} {x : XV} {a C : Addr} {d : Option Addr} {f : List Addr} (I : Inv X pins σ H s) (e : H a = some (exV C d a)) (xr : XRep X.K f H x (.ref C) d) :
    ∃ (ox : Obj) (od : Option Obj), PySem.W.InstAt s.heap a ox C od := by
  have z : ObjOk X.prog X.w H s.heap a (exV C d a) := I.hok a _ e
  obtain ⟨⟨oe, vs, h1, ⟨h2, h3⟩, h4⟩, _, _⟩ := z
  have nc : PySem.W.notCls oe = true := by unfold PySem.W.notCls; rw [h4] <;> rfl
  rcases xr.2 with ⟨rfl, _⟩ | ⟨dd, rfl, q⟩
  · exact ⟨oe, none, h1, h2, nc, by rw [h3]; exact trivial⟩
  · have y : ObjOk X.prog X.w H s.heap dd (.xd (x.fs.map fun p => (p.1, p.2.v))) := I.hok dd _ q
    obtain ⟨mA, hns, _⟩ := y
    obtain ⟨od, ho, _⟩ := lookIn_ns hns
    exact ⟨oe, some od, h1, h2, nc, by rw [h3]; exact ho⟩
theorem kit_exV {C a : Addr} {ox : Obj} {od : Option Obj} {K : PySem.W.Frag} (T : ExcC K C) : PySem.W.KitX K (.ref a) (.ref C) (fun h => PySem.W.InstAt h a ox C od) := by
  refine PySem.W.kitx_exc ?_ T.hg T.hk T.hs T.ha T.hn T.ht T.hm
  have z := T.hd
  obtain ⟨cd, q, _⟩ := PySem.W.any_some z
  rw [q]
  rfl
/-- isinstance(e, C) of a kept exception -/
def rIsX (X : Cx) : List V → Hp → VK → Prop := fun xs H Q => ∃ (x : XV) (f : List Addr) (a C : Addr) (d : Option Addr) (c : V) (u : Value) (b : Bool), xs = [.ref a, c] ∧ ClsV c u ∧ ExcC X.K C ∧ XRep X.K f H x (.ref C) d ∧ H a = some (exV C d a) ∧ PySem.W.kitOne X.K (.ref C) u = some b ∧ Q (.bl b) H
theorem call_isX : CallR X (.builtin "isinstance") (rIsX X) := by
  intro pins s σ H xs us Q I r h
  obtain ⟨x, f, a, C, d, c, u, b, rfl, k, T, xr, e, ke, q⟩ := h
  obtain ⟨u1, u2, rfl, r1, r2⟩ := vals2 r
  have e2 := k.eq r2
  subst e2
  cases (show u1 = Value.ref a from r1)
  obtain ⟨ox, od, J⟩ := exV_inst I e xr
  exact PySem.W.kia_one (kit_exV T) I.kIn J ke (fun z => nomatch z) fun tk => ⟨.bl b, H, I.tok tk, rfl, q⟩
/-- isinstance(e, (C, ..)) -/
def rIsXT (X : Cx) : List V → Hp → VK → Prop := fun xs H Q => ∃ (x : XV) (f : List Addr) (a C tp : Addr) (d : Option Addr) (cs : List V) (us : List Value) (b : Bool), xs = [.ref a, .ref tp] ∧ H tp = some (.tup cs) ∧ Paired ClsV cs us ∧ ExcC X.K C ∧ XRep X.K f H x (.ref C) d ∧ H a = some (exV C d a) ∧
  PySem.W.kitAny X.K (.ref C) us = some b ∧ Q (.bl b) H
theorem call_isXT : CallR X (.builtin "isinstance") (rIsXT X) := by
  intro pins s σ H xs us Q I r h
  obtain ⟨x, f, a, C, tp, d, cs, ws, b, rfl, hT, k, T, xr, e, ke, q⟩ := h
  obtain ⟨u1, u2, rfl, r1, r2⟩ := vals2 r
  cases (show u1 = Value.ref a from r1)
  cases (show u2 = Value.ref tp from r2)
  obtain ⟨ox, od, J⟩ := exV_inst I e xr
  obtain ⟨_, its, rv, o, h1, h2, n, h3⟩ := (show ObjOk X.prog X.w H s.heap tp (.tup cs) from I.hok tp _ hT)
  have e3 := ClsV.all k rv
  subst e3
  obtain ⟨oc, od2, dt, sl⟩ := o
  simp only at h2 h3
  subst h2 h3
  exact PySem.W.kia_tup (kit_exV T) I.kIn J h1 ke (fun z => nomatch z) fun tk => ⟨.bl b, H, I.tok tk, rfl, q⟩
/-- names of classes as values -/
inductive NmV (X : Cx) : List Expr → List Str → List V → List Value → Prop where
  | nil : NmV X [] [] [] []
  | own {n : Str} {D : Addr} {es : List Expr} {ns : List Str} {vs : List V} {us : List Value} {p : Pos} (hg : Gl X n) (hm : X.mg n = some (.ref D)) (hd : (n == ("__debug__" : Str)) = false) (r : NmV X es ns vs us) : NmV X (.Name n p :: es) (n :: ns) (.ref D :: vs) (.ref D :: us)
  | blt {n : Str} {t : String} {es : List Expr} {ns : List Str} {vs : List V} {us : List Value} {p : Pos} (hg : Gl X n) (hm : X.mg n = none) (hb : bootBuiltins n = some (.type t)) (hn : n ≠ "__name__") (hd : (n == ("__debug__" : Str)) = false) (r : NmV X es ns vs us) :
      NmV X (.Name n p :: es) (n :: ns) (.ty t :: vs) (.type t :: us)
theorem NmV.pa {es : List Expr} {ns : List Str} {vs : List V} {us : List Value} (h : NmV X es ns vs us) : PA X es (fun _ H Q => Q vs H) := by
  induction h with
  | nil => exact pa_nil
  | own hg hm hd r ih => exact pa_imp (pa_cons (pe_glob hg hm (show RelV (V.ref _) (Value.ref _) from rfl) hd) ih) fun σ H Q h => h
  | blt hg hm hb hn hd r ih => exact pa_imp (pa_cons (pe_bltn hg hm hb (show RelV (V.ty _) (Value.type _) from rfl) hn hd) ih) fun σ H Q h => h
theorem NmV.cls {es : List Expr} {ns : List Str} {vs : List V} {us : List Value} (h : NmV X es ns vs us) : Paired ClsV vs us := by
  induction h with
  | nil => exact .nil
  | own hg hm hd r ih => exact .cons (.own _) ih
  | blt hg hm hb hn hd r ih => exact .cons (.ty _) ih
theorem NmV.len {es : List Expr} {ns : List Str} {vs : List V} {us : List Value} (h : NmV X es ns vs us) : vs.length = ns.length := by
  induction h with
  | nil => rfl
  | own hg hm hd r ih => simp only [List.length_cons, ih]
  | blt hg hm hb hn hd r ih => simp only [List.length_cons, ih]
theorem NmV.any {es : List Expr} {ns : List Str} {vs : List V} {us : List Value} (h : NmV X es ns vs us) {c : Str} {C : Addr} (hC : PySem.W.nsIn X.K mainGlobals c = some (some (.ref C))) (hp : ∀ d ∈ ns, EPair X.K X.mg c d) :
    PySem.W.kitAny X.K (.ref C) us = some (ns.any (isSub c)) := by
  induction h with
  | nil => rfl
  | @own n D es ns vs us p hg hm hd r ih =>
    refine kitAny_cons (b := isSub c n) ((hp n List.mem_cons_self) C _ hC (.inl hm)) (fun q => ?_) fun q => ?_
    · rw [ih fun d hd => hp d (List.mem_cons_of_mem _ hd), List.any_cons, q, Bool.false_or]
    · rw [List.any_cons, q, Bool.true_or]
  | @blt n t es ns vs us p hg hm hb hn hd r ih =>
    refine kitAny_cons (b := isSub c n) ((hp n List.mem_cons_self) C _ hC (.inr ⟨hm, hb⟩)) (fun q => ?_) fun q => ?_
    · rw [ih fun d hd => hp d (List.mem_cons_of_mem _ hd), List.any_cons, q, Bool.false_or]
    · rw [List.any_cons, q, Bool.true_or]
/-- isinstance of a kept exception -/
def mIsX (kn ns : List Str) (m : EM) : EM := fun ps h => (m ps h).bind fun x h1 => match x with
  | .exc x => if kn.contains x.c = true then .ok (.bl (ns.any (isSub x.c))) h1 else .stuck
  | _ => .stuck
theorem se_isX {kn : List Str} {n : Str} {vs : List V} {us : List Value} (hm : X.mg "isinstance" = none) (hn : NmV X [.Name n p2] [n] vs us) (hk : ∀ c ∈ kn, ExN X.K c) (hp : ∀ c ∈ kn, EPair X.K X.mg c n) (ha : SE X W0 e m) (hg : Gl X "isinstance" := by rfl)
    (hb : bootBuiltins "isinstance" = some (.builtin "isinstance") := by rfl) (he : starEach [e, .Name n p2] X.env = (false, eval e X.env) :: starEach [.Name n p2] X.env := by rfl) (hpl : (backTo pos (starEach [.Name n p2] X.env)).any (·.1) = false := by rfl) :
    SE X W0 (.Call (.Name "isinstance" p) [e, .Name n p2] [] pos) (mIsX kn [n] m) :=
  pe_imp (pe_callB call_isX hg hm hb (pa_cons ha hn.pa he) (by decide) (by decide) he hpl) fun σ H Q h => by
    obtain ⟨f, h, ps, s, sr, p⟩ := h
    refine ⟨f, h, ps, s, sr, (Post.bind (R1 := RW X.K) s back_W p).mono (fun v H1 hh => ?_) fun _ _ _ e => e⟩
    obtain ⟨f1, h1, x, s1, q1, p1⟩ := hh
    cases x with
    | exc x =>
      dsimp only at p1
      split at p1
      · rename_i hx
        have hx : x.c ∈ kn := by simpa using hx
        obtain ⟨a, rfl, C, d, xr, ea⟩ := rep_exc.mp q1
        obtain ⟨⟨C2, ec, ns⟩, _⟩ := id xr
        cases ec
        have kk := hn.any ns (fun d hd => by rw [List.mem_singleton.mp hd]; exact hp _ hx)
        have kc := hn.cls
        have hl := hn.len
        cases kc with
        | nil => simp at hl
        | @cons v u vt ut k1 k2 =>
          cases k2 with
          | cons _ _ => simp at hl
          | nil =>
          refine ⟨x, [], a, C, d, v, u, _, rfl, k1, hk _ hx C ns, xr, ea, ?_, p1 f1 H1 _ (.refl s1.sim) (rep_bl.mpr rfl)⟩
          unfold PySem.W.kitAny at kk
          split at kk
          · rename_i z
            rw [z]
            exact kk
          · rename_i z
            rw [z]
            exact kk
          · cases kk
      · exact p1.elim
    | _ => exact p1.elim
theorem se_isXT {kn : List Str} {es : List Expr} {ns : List Str} {vs : List V} {us : List Value} {x1 : Nat} (hm : X.mg "isinstance" = none) (hn : NmV X es ns vs us) (hl : ns.length ≤ 1000) (hk : ∀ c ∈ kn, ExN X.K c) (hp : ∀ c ∈ kn, ∀ d ∈ ns, EPair X.K X.mg c d) (ha : SE X W0 e m) (hg : Gl X "isinstance" := by rfl)
    (hb : bootBuiltins "isinstance" = some (.builtin "isinstance") := by rfl) (he : starEach [e, .Tuple es x1 p2] X.env = (false, eval e X.env) :: starEach [.Tuple es x1 p2] X.env := by rfl) (hpl : (backTo pos (starEach [.Tuple es x1 p2] X.env)).any (·.1) = false := by rfl) :
    SE X W0 (.Call (.Name "isinstance" p) [e, .Tuple es x1 p2] [] pos) (mIsX kn ns m) :=
  pe_imp (pe_callB call_isXT hg hm hb (pa_cons ha (pa_cons (pe_tup hn.pa) pa_nil) he) (by decide) (by decide) he hpl) fun σ H Q h => by
    obtain ⟨f, h, ps, s, sr, p⟩ := h
    refine ⟨f, h, ps, s, sr, (Post.bind (R1 := RW X.K) s back_W p).mono (fun v H1 hh => ?_) fun _ _ _ e => e⟩
    obtain ⟨f1, h1, x, s1, q1, p1⟩ := hh
    cases x with
    | exc x =>
      dsimp only at p1
      split at p1
      · rename_i hx
        have hx : x.c ∈ kn := by simpa using hx
        obtain ⟨a, rfl, C, d, xr, ea⟩ := rep_exc.mp q1
        obtain ⟨⟨C2, ec, ns2⟩, _⟩ := id xr
        cases ec
        refine ⟨by rw [hn.len, sizeLine_eq]; omega, fun tp ntp => ?_⟩
        have st := s1.sim.other (o := .tup vs) ntp
        exact ⟨x, [], a, C, tp, d, vs, us, _, rfl, upd_same, hn.cls, hk _ hx C ns2, xr.mono (st.stay s1.sim), by rw [upd_ne (ne_of_none ea ntp)]; exact ea, hn.any ns2 (hp _ hx), p1 f1 _ _ st (rep_bl.mpr rfl)⟩
      · exact p1.elim
    | _ => exact p1.elim
end
end Mir

/-! Mir: methods of texts. -/
namespace Mir
open PySem PySem.Spec PyProof.Rows L2
section
variable {K : PySem.W.Frag} {X : Cx} {W0 : WX} {e o : Expr} {m m1 : EM} {apos cpos : Pos}
/-- x.split(y) -/
def wSplit (x : W) (xs : List W) (h : PH) : Option (W × PH) := match x, xs with
  | .str a, [.str b] => if (b.length == 0) = false ∧ a.length + 2 ≤ 16777216 then some (.fix ((Txt.split a b).map W.str), h) else none
  | _, _ => none
theorem op_split : OpMt K (fun x xs H Q => ∃ a b, x = .str a ∧ xs = [.str b] ∧ (b.length == 0) = false ∧ a.length + 2 ≤ sizeLine ∧ rNewStrs (Txt.split a b) H Q) wSplit := by
  intro f h H x v xs vs Q E s rx rxs p
  unfold wSplit at p
  split at p
  · rename_i a b
    split at p
    · rename_i hc
      obtain ⟨u, rfl, ru⟩ := rxs.one_inv
      exact ⟨a, b, rep_str.mp rx, by rw [rep_str.mp ru], hc.1, by rw [sizeLine_eq]; exact hc.2, fun q hq => post_fix s p (reps_strs _) hq⟩
    · exact p.elim
  · exact p.elim
theorem se_split (ho : SE X W0 o m) (ha : SE X W0 e m1) (hbase : attributeBase o "split" X.env (eval o X.env) = eval o X.env := by rfl)
    (hfew : ((backTo cpos (starEach [e] X.env)).all (fun x => !x.1) && (backToKw cpos (keywordEach [] X.env)).all (fun x => x.1.isSome)
      && decide (([e] : List Expr).length + ([] : List Keyword).length + (if ([] : List Keyword).isEmpty then 0 else 1) < 30)) = true := by rfl)
    (hline : (apos.endLine == cpos.line) = true := by rfl) (hs : starEach [e] X.env = [(false, eval e X.env)] := by rfl) : SE X W0 (.Call (.Attribute o "split" apos) [e] [] cpos) (mMt "str" wSplit m (mCons m1 mNil)) :=
  se_mt PySem.F.plainAttrs_str PySem.F.slot_str_split PySem.F.type_str_split mt_split op_split ho (sa_cons ha sa_nil hs) hbase hfew hline hs
/-! ### a, b = x, y -/
def sPar (m m1 : EM) (i j : Nat) : SM := fun ps h => (m ps h).thenS ps fun v h1 => (m1 ps h1).thenS ps fun w h2 => .nx ((ps.set i (some v)).set j (some w)) h2
theorem ss_par (i j : Nat) {x y : Str} {a b : Expr} {px py pt pos pt2 : Pos} {kt k2 : Nat} (hN : X.N.Nodup) (ha : SE X W0 a m) (hb : SE X W0 b m1) (hij : i ≠ j := by decide) (hc : X.calm = true := by rfl) (hi : X.N[i]? = some x := by rfl) (hj : X.N[j]? = some y := by rfl)
    (hx : X.env.scope.names.lookup x = some .local := by rfl) (hy : X.env.scope.names.lookup y = some .local := by rfl)
    (he : starEach [a, b] X.env = (false, eval a X.env) :: starEach [b] X.env := by rfl) (he2 : starEach [b] X.env = (false, eval b X.env) :: starEach [] X.env := by rfl)
    (hw : swappedStores [.Tuple [.Name x px, .Name y py] kt pt] (.Tuple [a, b] k2 pt2) X.env = pure (some [x, y]) := by rfl)
    (hs : swapsWithSole [.Tuple [.Name x px, .Name y py] kt pt] (.Tuple [a, b] k2 pt2) pos.line X.env = pure false := by rfl) :
    SS X W0 (.Assign [.Tuple [.Name x px, .Name y py] kt pt] (.Tuple [a, b] k2 pt2) pos) (sPar m m1 i j) :=
  ps_imp (ps_par hc hN hi hj hij hx hy (pa_cons ha (pa_cons hb pa_nil he2) he) hw hs) fun D σ H h => by
    obtain ⟨f, h, ps, s, sr, p⟩ := h
    refine ⟨f, h, ps, s, sr, (PostS.bind (R1 := RW X.K) s sr p).mono (fun v H1 hh => ?_) fun _ _ _ e => e⟩
    obtain ⟨f1, h1, x1, s1, sr1, q1, p1⟩ := hh
    refine ⟨f1, h1, ps, s1.sim, sr1, (PostS.bind (R1 := RW X.K) s1.sim sr1 p1).mono (fun w H2 hh => ?_) fun _ _ _ e => e⟩
    obtain ⟨f2, h2, x2, s2, sr2, q2, p2⟩ := hh
    exact ⟨v, w, rfl, p2 f2 H2 _ (.refl s2.sim) ((sr2.set i (s2.rep s1.sim q1)).set j q2)⟩
end
end Mir

/-! Mir: exceptions as values made by hand, their fields. -/
namespace Mir
open PySem PySem.Spec PyProof.Rows L2
section
variable {X : Cx} {pins : List (Addr × Obj)} {σ : L2.St} {H : Hp} {s : Shared}
/-- what is known of an object is told otherwise -/
theorem inv_retag {a : Addr} {φ : Heap → Prop} {o : HO} (I : Inv X pins σ H s) (ha : H a = some (.ext φ)) (new : ObjOk X.prog X.w (upd H a o) s.heap a o) : Inv X pins σ (upd H a o) s := by
  have n0 : ∀ b, H b = none → b ≠ a := fun b e z => by
    rw [z, ha] at e
    cases e
  refine ⟨I.ok, I.os, I.bare, ⟨I.base.keep, I.base.slot, fun b u e n h => ?_, I.base.there, fun b xs e => ?_, fun b u v e => ?_, fun b ps e => ?_⟩, I.loc, I.cell, ?_, fun x c e => ?_, fun p hp => ?_, fun b u e => ?_, I.len⟩
  · have q := I.base.free b u e n h
    rw [upd_ne (n0 b q)]
    exact q
  · have q := I.base.tups b xs e
    rw [upd_ne (fun z => by rw [z, ha] at q; cases q)]
    exact q
  · have q := I.base.frzs b u v e
    rw [upd_ne (fun z => by rw [z, ha] at q; cases q)]
    exact q
  · obtain ⟨m, q⟩ := I.base.tbls b ps e
    exact ⟨m, by rw [upd_ne (fun z => by rw [z, ha] at q; cases q)]; exact q⟩
  · rw [upd_ne (n0 _ I.free)]
    exact I.free
  · rw [upd_ne (n0 _ (I.freeC x c e))]
    exact I.freeC x c e
  · obtain ⟨h1, h2, h3⟩ := I.pin p hp
    exact ⟨h1, by rw [upd_ne (n0 _ h2)]; exact h2, h3⟩
  · by_cases hb : b = a
    · subst hb
      rw [upd_same] at e
      cases e
      exact new
    · rw [upd_ne hb] at e
      exact (I.hok b u e).stay (fun _ _ _ q => q) (fun c q => by rw [upd_ne (fun z => by rw [z, ha] at q; cases q)]; exact q) fun c xs q => by rw [upd_ne (fun z => by rw [z, ha] at q; cases q)]; exact q
end
section
variable {X : Cx} {W0 : WX} {e : Expr} {m : EM} {p pos p2 : Pos}
/-- C(e), a class without own __init__, as a value -/
def mNewX (c : Str) (m : EM) : EM := fun ps h => (m ps h).bind fun _ h1 => .ok (.exc ⟨c, []⟩) h1
theorem se_newX {c : Str} (T : ECls X.K X.mg c) (ha : SE X W0 e m) (hg : Gl X c := by rfl) (hs : starEach [e] X.env = (false, eval e X.env) :: starEach [] X.env := by rfl) (hdb : (c == ("__debug__" : Str)) = false := by decide) :
    SE X W0 (.Call (.Name c p) [e] [] pos) (mNewX c m) := by
  obtain ⟨C, h1, h2, h3, h4, h5, h6⟩ := T.ex
  have key : PE X (.Call (.Name c p) [e] [] pos) (fun σ H Q => tE X.K W0 m σ H fun _ H1 => ∀ a, H1 a = none → Q (.ref a) (upd H1 a (exV C none a))) := by
    refine ⟨fun pins s σ H Q I h => ?_⟩
    refine wpAny_mono ((pe_exc1 PySem.F.excBase_ValueError h6 h1 h3 hg ha hs hdb).run pins s σ H (fun v H1 => ∃ a H2, v = .ref a ∧ H2 a = none ∧ H1 = upd H2 a (ExO (.ref C) a) ∧ Q (.ref a) (upd H2 a (exV C none a))) I ?_) (fun u s1 hu => ?_) fun _ _ z => z
    · obtain ⟨f, h, ps, sm, sr, q⟩ := h
      exact ⟨f, h, ps, sm, sr, q.mono (fun v H1 hh a na => ⟨a, H1, rfl, na, rfl, hh a na⟩) fun _ _ _ z => z⟩
    · obtain ⟨v, H1, I1, r1, a, H2, rfl, na, rfl, q⟩ := hu
      have z : ObjOk X.prog X.w (upd H2 a (ExO (.ref C) a)) s1.heap a (ExO (.ref C) a) := I1.hok a _ upd_same
      obtain ⟨⟨oe, vs, y1, y2, y3, _⟩, _, _⟩ := z
      have J := inv_retag I1 (o := exV C none a) upd_same (exV_ok y1 y2 y3)
      rw [upd_upd] at J
      exact ⟨_, _, J, r1, q⟩
  exact pe_imp key fun σ H Q h => by
    obtain ⟨f, h, ps, s, sr, q⟩ := h
    refine ⟨f, h, ps, s, sr, (Post.bind (R1 := RW X.K) s back_W q).mono (fun v H1 hh a na => ?_) fun _ _ _ z => z⟩
    obtain ⟨f1, g1, x, s1, q1, p1⟩ := hh
    have st := s1.sim.other (o := exV C none a) na
    exact p1 f1 _ _ st (rep_exc.mpr ⟨a, rfl, C, none, ⟨⟨C, rfl, h2⟩, .inl ⟨rfl, rfl⟩⟩, upd_same⟩)

/-! ### e.f -/
def PV.w : PV → W
  | .non => .non
  | .bl b => .bl b
  | .int i => .int i
  | .str x => .str x
theorem rep_pv {K : PySem.W.Frag} {f : List Addr} {H : Hp} (v : PV) : Rep K f H v.w v.v := by
  cases v <;> simp only [PV.w, PV.v, Rep]
def mFld (kn : List Str) (fl : Str) (m : EM) : EM := fun ps h => (m ps h).bind fun x h1 => match x with
  | .exc x => if kn.contains x.c = true then (match x.fs.lookup fl with
    | some v => .ok v.w h1
    | none => .stuck) else .stuck
  | _ => .stuck
/-- by the class's name: what a field's reading asks -/
def EFld (K : PySem.W.Frag) (c fl : Str) : Prop := ∀ C : Addr, PySem.W.nsIn K mainGlobals c = some (some (.ref C)) → XfC K C ∧ PySem.W.findIn K (.ref C) fl = some none
theorem lookup_v {fl : Str} : ∀ {fs : List (Str × PV)} {v : PV}, fs.lookup fl = some v → (fs.map fun p => (p.1, p.2.v)).lookup fl = some v.v
  | [], _, h => by cases h
  | (k, w) :: r, v, h => by
    simp only [List.lookup, List.map_cons] at h ⊢
    split at h
    · rename_i q
      cases h
      rfl
    · rename_i q
      exact lookup_v h
theorem se_fld {fl : Str} {kn : List Str} (hk : ∀ c ∈ kn, EFld X.K c fl) (ha : SE X W0 e m) (hb : attributeBase e fl X.env (eval e X.env) = eval e X.env := by rfl) :
    SE X W0 (.Attribute e fl pos) (mFld kn fl m) := by
  refine ⟨fun pins s σ H Q I h => ?_⟩
  obtain ⟨f, h, ps, sm, sr, q⟩ := h
  refine attr_of hb (thn (ha.run pins s σ H _ I ⟨f, h, ps, sm, sr, Post.bind (R1 := RW X.K) sm back_W q⟩) fun u s1 hh => ?_)
  obtain ⟨v, H1, I1, rv, f1, g1, x, s1', q1, p1⟩ := hh
  cases x with
  | exc x =>
    dsimp only at p1
    split at p1
    · rename_i hx
      have hx : x.c ∈ kn := by simpa using hx
      obtain ⟨a, rfl, C, d, xr, ea⟩ := rep_exc.mp q1
      obtain rfl : u = Value.ref a := rv
      obtain ⟨⟨C2, ec, ns⟩, dd⟩ := id xr
      cases ec
      obtain ⟨T, hno⟩ := hk _ hx C ns
      split at p1
      · rename_i v hv
        rcases dd with ⟨_, z⟩ | ⟨dd, ed, eh⟩
        · rw [z] at hv
          cases hv
        · subst ed
          have y : ObjOk X.prog X.w H1 s1.heap dd (.xd (x.fs.map fun p => (p.1, p.2.v))) := I1.hok dd _ eh
          obtain ⟨mA, hns, hr⟩ := y
          obtain ⟨od, ho, hl⟩ := lookIn_ns hns
          obtain ⟨u, hu, ru⟩ := RelO.some_of (v := v.v) (o := mA fl) (by rw [← lookup_v hv]; exact hr fl)
          have zz : ObjOk X.prog X.w H1 s1.heap a (exV C (some dd) a) := I1.hok a _ ea
          obtain ⟨⟨oe, vs, y1, ⟨y2, y3⟩, y4⟩, _, _⟩ := zz
          have J : PySem.W.InstAt s1.heap a oe C (some od) := ⟨y1, y2, by unfold PySem.W.notCls; rw [y4] <;> rfl, by rw [y3]; exact ho⟩
          exact PySem.HandSPX.exc_get I1.kIn J T.ga T.gg T.exC (PySem.W.findObj_own T.hdC hno rfl (by rw [hl, hu])) (handed_of ru) ⟨v.v, H1, I1.tok _, ru, p1 f1 H1 _ (.refl s1'.sim) (rep_pv v)⟩
      · exact p1.elim
    · exact p1.elim
  | _ => exact p1.elim
end
end Mir

/-! Mir: exception classes with an own __init__. -/
namespace Mir
open PySem PySem.Spec PyProof.Rows L2
section
variable {X : Cx} {e : Expr} {es : List Expr} {ta : TA} {p1 p2 pos : Pos}
/-- D.__init__(self, ..), D an own class whose __init__ is ValueError's -/
theorem pe_dinit {D : Str} {C0 : Addr} {pl : Sem Bool} (hm : X.mg D = some (.ref C0)) (hr : PySem.W.readsIn X.K C0 (.type "type") = true) (hs : PySem.W.specialIn X.K (.ref C0) "__getattribute__" = some (some (.builtin "type.__getattribute__")))
    (hf : PySem.W.findCls X.K (.ref C0) (.type "type") "__init__" = some (.val (.builtin "ValueError.__init__"))) (ha : PA X (e :: es) ta) (hg : Gl X D := by rfl) (hdb : (D == ("__debug__" : Str)) = false := by decide)
    (hc : eval (.Call (.Attribute (.Name D p1) "__init__" p2) (e :: es) [] pos) X.env = (do
      let o ← eval (.Name D p1) X.env
      standAt p2.atName
      let (g, first) ← holding [o] (getMethod o "__init__" pl)
      callWith pos g first (backTo pos (starEach (e :: es) X.env)) (backToKw pos (keywordEach [] X.env))) := by rfl)
    (he : starEach (e :: es) X.env = (false, eval e X.env) :: starEach es X.env := by rfl) (hpl : (backTo pos (starEach es X.env)).any (·.1) = false := by rfl) :
    PE X (.Call (.Attribute (.Name D p1) "__init__" p2) (e :: es) [] pos) (tVeI X.K ta) := by
  refine ⟨fun pins s σ H Q I h => ?_⟩
  refine PySem.W.methodCall_KW (ld_glob I hg hm ?_ hdb) hc
  refine PySem.W.method_cls I.kIn hs (PySem.W.cls_value I.kIn hr hf (by decide +kernel) ?_)
  show wpAny _ _ (callWith pos (Value.builtin "ValueError.__init__") [] (backTo pos (starEach (e :: es) X.env)) []) _ _ _
  refine PyProof.Rows.callWith_method1 (thn (ha.run pos pins _ σ H _ (I.tok _) h) fun us s1 hh => ?_) he hpl
  obtain ⟨vs, H1, I1, r1, a, C, ws, ev, hl, T, ea, q⟩ := hh
  subst ev
  obtain ⟨u0, ur, rfl, ra, rw'⟩ : ∃ u0 ur, us = u0 :: ur ∧ RelV (V.ref a) u0 ∧ Vals ws ur := by
    cases r1 with
    | cons x y => exact ⟨_, _, rfl, x, y⟩
  obtain rfl : u0 = Value.ref a := ra
  exact oinit_ok T I1 ea (by rw [← Paired.length rw', sizeLine_eq]; omega) fun s' J => ⟨.non, H1, J, rfl, q⟩
end
/-- what the __init__ of such a class does: the fields are kept -/
def spI (K : PySem.W.Frag) (fls : List Str) : Sp := fun vs H Q _ => ∃ (a C : Addr) (ys : List V), vs = .ref a :: ys ∧ ys.length = fls.length ∧ OexC K C ∧ (∀ f ∈ fls, PySem.W.findIn K (.ref C) f = some none) ∧ H a = some (exo a C none) ∧
  ∀ (dx : Addr) (H' : Hp), H dx = none → dx ≠ a → H' a = some (exo a C (some dx)) → H' dx = some (exd dx (fls.zip ys).reverse) → (∀ b, b ≠ a → b ≠ dx → H' b = H b) → Q .non H'
/-- the class c with such an __init__ -/
structure EInit (P : Program) (w : World) (K : PySem.W.Frag) (mg : Str → Option Value) (base : Heap) (c : Str) (fls : List Str) : Prop where
  ex : ∃ (C fI : Addr) (fd : FuncData) (ps : List Str), mg c = some (.ref C) ∧ PySem.W.nsIn K mainGlobals c = some (some (.ref C)) ∧ OexC K C ∧ PySem.W.findIn K (.ref C) "__init__" = some (some (.ref fI)) ∧
    PySem.W.typeIn K (.ref fI) = some (.type "function") ∧ Binds K fd ps [] ∧ FnOk P w K mg base (L2.CX P w) 1 fI fd ps (spI K fls) ∧ (∀ f ∈ fls, PySem.W.findIn K (.ref C) f = some none) ∧ fls.length ≤ 900
def toPV : W → Option PV
  | .non => some .non
  | .bl b => some (.bl b)
  | .int i => some (.int i)
  | .str x => some (.str x)
  | _ => none
def pvs : List W → Option (List PV)
  | [] => some []
  | x :: r => match toPV x, pvs r with
    | some y, some z => some (y :: z)
    | _, _ => none
theorem pvs_rep {K : PySem.W.Frag} {f : List Addr} {H : Hp} : ∀ {ws : List W} {vs : List V} {ys : List PV}, pvs ws = some ys → Reps K f H ws vs → vs = ys.map PV.v
  | [], vs, ys, e, r => by
    cases e
    exact r.nil_inv
  | x :: ws, vs, ys, e, r => by
    obtain ⟨v, t, rfl, h1, h2⟩ := r.cons_inv
    simp only [pvs] at e
    split at e
    · rename_i y z e1 e2
      cases e
      rw [pvs_rep e2 h2]
      cases x <;> simp only [toPV, Option.some.injEq, reduceCtorEq] at e1
      · subst e1; rw [rep_non.mp h1]; rfl
      · subst e1; rw [rep_bl.mp h1]; rfl
      · subst e1; rw [rep_int.mp h1]; rfl
      · subst e1; rw [rep_str.mp h1]; rfl
    · cases e
theorem zip_v {fls : List Str} {ys : List PV} : (fls.zip (ys.map PV.v)).reverse = ((fls.zip ys).reverse).map fun p => (p.1, p.2.v) := by
  rw [List.map_reverse, List.zip_map_right]
  rfl
def mkX (c : Str) (fls : List Str) (xs : List W) : Option XV := match pvs xs with
  | some ys => if ys.length = fls.length then some ⟨c, (fls.zip ys).reverse⟩ else none
  | none => none
section
variable {X : Cx} {W0 : WX} {e : Expr} {es : List Expr} {l : LM} {p pos pos2 : Pos} {c : Str} {fls : List Str}
/-- C(e, ..) raised -/
def sRaiseF (c : Str) (fls : List Str) (l : LM) : SM := fun ps h => (l ps h).thenS ps fun xs h1 => match mkX c fls xs with
  | some x => .exc x ps h1
  | none => .stuck
theorem ss_raiseF (T : EInit X.prog X.w X.K X.mg X.base c fls) {k : Nat} (hr : Room k X.A) (hk : 2 ≤ k) (tk : Takes X W0) (ha : SA X W0 (e :: es) l) (hc : X.calm = true := by rfl) (hg : Gl X c := by rfl) (hdb : (c == ("__debug__" : Str)) = false := by decide)
    (he : starEach (e :: es) X.env = (false, eval e X.env) :: starEach es X.env := by rfl) (hpl : (backTo pos (starEach es X.env)).any (·.1) = false := by rfl) :
    SS X W0 (.Raise (some (.Call (.Name c p) (e :: es) [] pos)) none pos2) (sRaiseF c fls l) := by
  obtain ⟨C, fI, fd, ps0, h1, h2, TO, h4, h5, hb, F1, h6, h7⟩ := T.ex
  refine ps_imp (ps_raise hc tk (pmk_oex (CX := L2.CX X.prog X.w) TO h4 h5 F1 (hr.mono hk) hb .nil passL hg h1 ha hdb he hpl)) fun D σ H h => ?_
  obtain ⟨f, h, ps, s, sr, q⟩ := h
  refine ⟨f, h, ps, s, sr, (PostS.bind (R1 := RA X.K) s sr q).mono (fun vs H1 hh => ?_) fun _ _ _ z => z⟩
  obtain ⟨f1, g1, xs, s1, sr1, q1, p1⟩ := hh
  unfold mkX at p1
  split at p1
  · rename_i x hx
    split at hx
    · rename_i ys hy
      split at hx
      · rename_i hl
        cases hx
        have ev := pvs_rep hy q1
        subst ev
        refine ⟨by rw [List.length_map]; omega, fun a na => ⟨a, C, ys.map PV.v, by rw [List.append_nil], by rw [List.length_map]; exact hl, TO, h6, upd_same, fun dx H' nd dn ea ed rest => ?_⟩⟩
        have nd1 : H1 dx = none := by rw [upd_ne dn] at nd; exact nd
        refine ⟨rfl, dx, _, ea, ed, nd1, ?_⟩
        have eH : upd (del H' a) dx (.xd (fls.zip (ys.map PV.v)).reverse) = upd H1 dx (.xd (fls.zip (ys.map PV.v)).reverse) := by
          funext b
          by_cases hb : b = dx
          · rw [hb, upd_same, upd_same]
          · rw [upd_ne hb, upd_ne hb]
            by_cases hba : b = a
            · rw [hba, del_same, na]
            · rw [del_ne hba, rest b hba hb, upd_ne hba]
        rw [eH]
        have st := s1.sim.other (o := .xd (fls.zip (ys.map PV.v)).reverse) nd1
        exact p1 f1 _ σ (.ref C) (some dx) st (st.srep s1.sim sr1) ⟨⟨C, rfl, h2⟩, .inr ⟨dx, rfl, by rw [upd_same, zip_v]⟩⟩
      · cases hx
    · cases hx
  · exact p1.elim
end
end Mir

/-! Mir: an exception with fields, made as a value; how such an __init__ is walked. -/
namespace Mir
open PySem PySem.Spec PyProof.Rows L2
section
variable {X : Cx} {W0 : WX} {e : Expr} {es : List Expr} {l : LM} {p pos : Pos} {c : Str} {fls : List Str}
def mNewF (c : Str) (fls : List Str) (l : LM) : EM := fun ps h => (l ps h).bind fun xs h1 => match mkX c fls xs with
  | some x => .ok (.exc x) h1
  | none => .stuck
theorem se_newF (T : EInit X.prog X.w X.K X.mg X.base c fls) {k : Nat} (hr : Room k X.A) (hk : 2 ≤ k) (ha : SA X W0 (e :: es) l) (hg : Gl X c := by rfl) (hdb : (c == ("__debug__" : Str)) = false := by decide)
    (he : starEach (e :: es) X.env = (false, eval e X.env) :: starEach es X.env := by rfl) (hpl : (backTo pos (starEach es X.env)).any (·.1) = false := by rfl) :
    SE X W0 (.Call (.Name c p) (e :: es) [] pos) (mNewF c fls l) := by
  obtain ⟨C, fI, fd, ps0, h1, h2, TO, h4, h5, hb, F1, h6, h7⟩ := T.ex
  obtain ⟨nm, q, N, bs, bm, sn, sub, ab, col, dd, k0, k1, k2, k3, k5, hC, hbm⟩ := id TO.cls
  have key : PE X (.Call (.Name c p) (e :: es) [] pos) (fun σ H Q => tA X.K W0 l σ H fun vs H1 => vs.length = fls.length ∧ ∀ a dx, H1 a = none → H1 dx = none → dx ≠ a → Q (.ref a) (upd (upd H1 dx (.xd (fls.zip vs).reverse)) a (exV C (some dx) a))) := by
    refine ⟨fun pins s σ H Q I h => ?_⟩
    refine wpAny_Call_Name_kw (ld_glob I hg h1 ?_ hdb)
    refine PySem.W.callWith_K (h₀ := X.base) I.ok.mod.kin TO.kC (thn (ha.run pos pins s σ H _ I h) fun us s1 hh => ?_) he hpl
    obtain ⟨vs, H1, I1, r1, hl, q1⟩ := hh
    refine ⟨I1.kIn, ?_⟩
    show wpAny _ _ (call (.ref C) us) _ _ _
    obtain ⟨hp, g, dr, tk, os⟩ := s1
    have hsz : hp.objs.size ≤ hp.objs.size + 1 := Nat.le_succ _
    generalize hA : hp.objs.size + 1 = a at hsz
    have na : H1 a = none := I1.hok.fresh hsz
    have keep : ∀ b o, hp.get? b = some o → ((hp.push (PySem.W.kdv_tup us)).push (PySem.HandSPX.excO C hp.objs.size)).get? b = some o := fun b o e => Heap.get?_push_of_some _ (Heap.get?_push_of_some _ e)
    have got : ((hp.push (PySem.W.kdv_tup us)).push (PySem.HandSPX.excO C hp.objs.size)).get? a = some (PySem.HandSPX.excO C hp.objs.size) := by
      rw [← hA]
      heap_get
    have I2 : Inv X pins σ (upd H1 a (exo a C none)) ⟨(hp.push (PySem.W.kdv_tup us)).push (PySem.HandSPX.excO C hp.objs.size), g, dr, tk, os⟩ :=
      I1.laid (t' := tk) (a := a) (o := exo a C none) (h' := (hp.push (PySem.W.kdv_tup us)).push (PySem.HandSPX.excO C hp.objs.size)) keep hsz (exo_ok got)
    have r2 : Vals (V.ref a :: vs) (Value.ref a :: us) := .cons rfl r1
    have hsp : spI X.K fls (V.ref a :: vs) (upd H1 a (exo a C none)) (fun v H2 => v = .non ∧ ∃ dx, H1 dx = none ∧ dx ≠ a ∧ H2 a = some (exo a C (some dx)) ∧ H2 dx = some (exd dx (fls.zip vs).reverse) ∧ ∀ b, b ≠ a → b ≠ dx → H2 b = H1 b) (fun _ _ _ => False) :=
      ⟨a, C, vs, rfl, hl, TO, h6, upd_same, fun dx H' nd dn ea ed rest => ⟨rfl, dx, by rw [upd_ne dn] at nd; exact nd, dn, ea, ed, fun b b1 b2 => by rw [rest b b1 b2, upd_ne b1]⟩⟩
    have hlen : (Value.ref a :: us).length = ps0.length := by rw [← Paired.length r2]; exact F1.len _ _ _ _ hsp
    have hus : us.length ≤ sizeLine := by
      rw [← Paired.length r1, sizeLine_eq, hl]
      omega
    have bnd := hb ⟨(hp.push (PySem.W.kdv_tup us)).push (PySem.HandSPX.excO C hp.objs.size), g, dr, tk, os⟩ (Value.ref a :: us) I2.kIn (by rw [List.append_nil]; exact hlen)
    rw [List.append_nil] at bnd
    subst hA
    refine wpAny_call (PySem.HandSPX.call_own PySem.F.excBase_ValueError (fun Y => PySem.HandSPX.refsVE_contains Y bm hbm) (I1.kIn _ _ hC) (PySem.W.looks_findIn I1.kIn h4) (fun self => PySem.W.bind_fn I1.kIn self h5) hus
      (codeAny_mono (F1.run _ X.stack _ _ ⟨Value.ref (hp.objs.size + 1) :: us, []⟩ (Value.ref (hp.objs.size + 1) :: us) _ _ (fun _ _ _ => False) ((hr.mono hk).make C us []) (I2.env0.make C us []) bnd r2 hsp) fun r s' hq' => ?_))
    cases r with
    | error er => exact passL pins σ _ _ er s' I2 hq'
    | ok fl =>
      cases fl with
      | ret u =>
        obtain ⟨v, H2, J, rv, ev, dx, nd, dn, ea, ed, rest⟩ := I2.after hq'
        subst ev
        refine ⟨rv, ?_⟩
        obtain ⟨t1, z1⟩ := exo_at J.hok ea
        have J2 := inv_retag J (o := exV C (some dx) (hp.objs.size + 1)) ea (exV_ok z1 ⟨rfl, rfl⟩ rfl)
        have ed2 : upd H2 (hp.objs.size + 1) (exV C (some dx) (hp.objs.size + 1)) dx = some (exd dx (fls.zip vs).reverse) := by rw [upd_ne dn]; exact ed
        have J3 := inv_retag J2 (o := .xd (fls.zip vs).reverse) ed2 (exd_at J2.hok ed2)
        have eH : upd (upd H2 (hp.objs.size + 1) (exV C (some dx) (hp.objs.size + 1))) dx (.xd (fls.zip vs).reverse) = upd (upd H1 dx (.xd (fls.zip vs).reverse)) (hp.objs.size + 1) (exV C (some dx) (hp.objs.size + 1)) := by
          funext b
          by_cases hb : b = dx
          · rw [hb, upd_same, upd_ne dn, upd_same]
          · rw [upd_ne hb]
            by_cases hba : b = hp.objs.size + 1
            · rw [hba, upd_same, upd_same]
            · rw [upd_ne hba, upd_ne hba, upd_ne hb, rest b hba hb]
        rw [eH] at J3
        exact ⟨.ref (hp.objs.size + 1), _, J3, rfl, q1 _ dx na nd dn⟩
      | next => exact False.elim hq'
      | brk => exact False.elim hq'
      | cont => exact False.elim hq'
  exact pe_imp key fun σ H Q h => by
    obtain ⟨f, h, ps, s, sr, q⟩ := h
    refine ⟨f, h, ps, s, sr, (Post.bind (R1 := RA X.K) s back_W q).mono (fun vs H1 hh => ?_) fun _ _ _ z => z⟩
    obtain ⟨f1, g1, xs, s1, q1, p1⟩ := hh
    unfold mkX at p1
    split at p1
    · rename_i x hx
      split at hx
      · rename_i ys hy
        split at hx
        · rename_i hl
          cases hx
          have ev := pvs_rep hy q1
          subst ev
          refine ⟨by rw [List.length_map]; exact hl, fun a dx na nd dn => ?_⟩
          have st := s1.sim.other (o := .xd (fls.zip (ys.map PV.v)).reverse) nd
          have na2 : upd H1 dx (.xd (fls.zip (ys.map PV.v)).reverse) a = none := by rw [upd_ne (Ne.symm dn)]; exact na
          have st2 := st.sim.other (o := exV C (some dx) a) na2
          exact p1 f1 _ _ (st.trans st2) (rep_exc.mpr ⟨a, rfl, C, some dx, ⟨⟨C, rfl, h2⟩, .inr ⟨dx, rfl, by rw [upd_ne dn, upd_same, zip_v]⟩⟩, upd_same⟩)
        · cases hx
      · cases hx
    · exact p1.elim
end
end Mir

/-! Mir: the walks of such an __init__. -/
namespace Mir
open PySem PySem.Spec PyProof.Rows L2
/-- what stands of the class above, whose __init__ is called -/
structure DInit (K : PySem.W.Frag) (mg : Str → Option Value) (D : Str) (C0 : Addr) : Prop where
  m : mg D = some (.ref C0)
  r : PySem.W.readsIn K C0 (.type "type") = true
  s : PySem.W.specialIn K (.ref C0) "__getattribute__" = some (some (.builtin "type.__getattribute__"))
  f : PySem.W.findCls K (.ref C0) (.type "type") "__init__" = some (.val (.builtin "ValueError.__init__"))
theorem spI_len {K : PySem.W.Frag} {fls : List Str} {n : Nat} (hn : n = fls.length + 1) : ∀ vs H Q E, spI K fls vs H Q E → vs.length = n := by
  intro vs H Q E h
  obtain ⟨a, C, ys, rfl, hl, _⟩ := h
  rw [List.length_cons, hl, hn]
section
variable {K : PySem.W.Frag} {vs : List V} {H : Hp} {Q : VK} {E : XK} {msg : Str}
theorem init1 {f : Str} {N : List Str} {vm : V} (h : spI K [f] vs H Q E) (hN : N.length = 2) :
    tSeq (tDrop (tVeI K (tCons (tVar 0) (tCons (tC vm) tNil)))) (tOst K f (tVar 0) (tVar 1)) { nx := fun _ H' => Q .non H', rt := Q } (L2.start N vs) H := by
  obtain ⟨a, C, ys, rfl, hl, TO, hf, ea, q⟩ := h
  match ys, hl with
  | [y], _ =>
    have e0 : (L2.start N [V.ref a, y])[0]? = some (some (.ref a)) := rfl
    have e1 : (L2.start N [V.ref a, y])[1]? = some (some y) := rfl
    refine ⟨_, e0, ?_⟩
    refine ⟨a, C, [vm], rfl, by simp, TO, ea, ?_⟩
    refine ⟨_, e1, _, e0, a, C, rfl, TO, hf f (by simp), .inl ⟨ea, fun dx nd dn => q dx _ nd dn upd_same ?_ fun b b1 b2 => ?_⟩⟩
    · rw [upd_ne dn, upd_same]
      rfl
    · rw [upd_ne b1, upd_ne b2]
theorem init2 {f g : Str} {N : List Str} {vm : V} (h : spI K [f, g] vs H Q E) (hN : N.length = 3) :
    tSeq (tDrop (tVeI K (tCons (tVar 0) (tCons (tC vm) tNil)))) (tSeq (tOst K f (tVar 0) (tVar 1)) (tOst K g (tVar 0) (tVar 2))) { nx := fun _ H' => Q .non H', rt := Q } (L2.start N vs) H := by
  obtain ⟨a, C, ys, rfl, hl, TO, hf, ea, q⟩ := h
  match ys, hl with
  | [y, z], _ =>
    have e0 : (L2.start N [V.ref a, y, z])[0]? = some (some (.ref a)) := rfl
    have e1 : (L2.start N [V.ref a, y, z])[1]? = some (some y) := rfl
    have e2 : (L2.start N [V.ref a, y, z])[2]? = some (some z) := rfl
    refine ⟨_, e0, ?_⟩
    refine ⟨a, C, [vm], rfl, by simp, TO, ea, ?_⟩
    refine ⟨_, e1, _, e0, a, C, rfl, TO, hf f (by simp), .inl ⟨ea, fun dx nd dn => ?_⟩⟩
    refine ⟨_, e2, _, e0, a, C, rfl, TO, hf g (by simp), .inr ⟨dx, [(f, y)], upd_same, by rw [upd_ne dn, upd_same], by simp, q dx _ nd dn ?_ ?_ fun b b1 b2 => ?_⟩⟩
    · rw [upd_ne (Ne.symm dn), upd_same]
    · rw [upd_same]
      rfl
    · rw [upd_ne b2, upd_ne b1, upd_ne b2]
end
end Mir

/-! Mir: objects of the program's own classes. -/
namespace Mir
open PySem PySem.Spec PyProof.Rows L2
theorem KRep.lookup {K : PySem.W.Frag} {f : List Addr} {H : Hp} {x : Str} {w : W} : ∀ {ws : List (Str × W)} {vs : List (Str × V)}, KRep K f H ws vs → ws.lookup x = some w → ∃ v, vs.lookup x = some v ∧ Rep K f H w v
  | [], vs, h, e => by simp at e
  | (k, y) :: r, vs, h, e => by
    obtain ⟨v, t, rfl, h2, h3⟩ := h
    by_cases q : x == k
    · simp only [List.lookup_cons, q, Option.some.injEq] at e ⊢
      subst e
      exact ⟨v, rfl, h2⟩
    · simp only [List.lookup_cons, Bool.eq_false_iff.mpr q] at e ⊢
      exact KRep.lookup h3 e
theorem KRep.lookup_none {K : PySem.W.Frag} {f : List Addr} {H : Hp} {x : Str} : ∀ {ws : List (Str × W)} {vs : List (Str × V)}, KRep K f H ws vs → ws.lookup x = none → vs.lookup x = none
  | [], vs, h, e => by
    have h : vs = [] := h
    subst h
    rfl
  | (k, y) :: r, vs, h, e => by
    obtain ⟨v, t, rfl, h2, h3⟩ := h
    by_cases q : x == k
    · simp only [List.lookup_cons, q] at e
      cases e
    · simp only [List.lookup_cons, Bool.eq_false_iff.mpr q] at e ⊢
      exact KRep.lookup_none h3 e
def putFW (f : Str) (w : W) : List (Str × W) → List (Str × W)
  | [] => [(f, w)]
  | (g, x) :: r => if g = f then (g, w) :: r else (g, x) :: putFW f w r
theorem KRep.putF {K : PySem.W.Frag} {f : List Addr} {H : Hp} {x : Str} {w : W} {v : V} (r : Rep K f H w v) : ∀ {ws : List (Str × W)} {vs : List (Str × V)}, KRep K f H ws vs → KRep K f H (putFW x w ws) (L2.putF x v vs)
  | [], vs, h => by
    have h : vs = [] := h
    subst h
    exact ⟨v, [], rfl, r, rfl⟩
  | (k, y) :: t, vs, h => by
    obtain ⟨u, s, rfl, h2, h3⟩ := h
    unfold putFW L2.putF
    by_cases q : k = x
    · rw [if_pos q, if_pos q]
      exact ⟨v, s, rfl, r, h3⟩
    · rw [if_neg q, if_neg q]
      exact ⟨u, _, rfl, h2, KRep.putF r h3⟩
theorem Sim.put_ins {K : PySem.W.Frag} {f : List Addr} {h : PH} {H : Hp} (s : Sim K f h H) {n : Nat} {a C dx : Addr} {c : Str} (hC : PySem.W.nsIn K mainGlobals c = some (some (.ref C))) (hf : f[n]? = some a) {us : List (Str × V)} {xs : List (Str × W)} (r : KRep K f H xs us) (hm0 : ∀ o us, H a = some (.frz o (.dK us)) → False) :
    Step K f H f (h.set n (.ins c xs)) (upd H a (.ins C dx us)) := by
  have g : Grow f H (upd H a (.ins C dx us)) := fun b w e hn => by rw [upd_ne (fun z => hn (by rw [z]; exact List.mem_of_getElem? hf))]; exact e
  exact s.put hf ⟨C, dx, us, hC, upd_same, KRep.mono (.refl f) (s.stay g) _ _ r⟩ hm0

/-- what is known of the attribute f of the class c -/
def IFld (K : PySem.W.Frag) (c f : Str) : Prop := ∀ C, PySem.W.nsIn K mainGlobals c = some (some (.ref C)) → Cls K C ∧ NoAttr K C f
section
variable {X : Cx} {W0 : WX} {e o value : Expr} {m mo me : EM} {f : Str} {pos pos' : Pos}
/-! ### o.f -/
def fldW (kc : List Str) (f : Str) : W → PH → Option (W × PH)
  | .ref n, h => match h[n]? with
    | some (.ins c fs) => if c ∈ kc then (fs.lookup f).map fun w => (w, h) else none
    | _ => none
  | _, _ => none
theorem se_fldO {kc : List Str} (hk : ∀ c ∈ kc, IFld X.K c f) (ha : SE X W0 e m) (hb : attributeBase e f X.env (eval e X.env) = eval e X.env := by rfl) : SE X W0 (.Attribute e f pos) (mUn (fldW kc f) m) :=
  pe_imp (pe_fld ha hb) fun σ H Q h => by
    obtain ⟨f0, h0, ps, s, sr, p⟩ := h
    refine ⟨f0, h0, ps, s, sr, (Post.bind (R1 := RW X.K) s back_W p).mono (fun v H1 hh => ?_) fun _ _ _ e => e⟩
    obtain ⟨f1, h1, x, s1, q1, p1⟩ := hh
    unfold fldW at p1
    split at p1
    · rename_i n
      split at p1
      · rename_i c fs hn
        split at p1
        · rename_i hc
          cases el : fs.lookup f with
          | none => rw [el] at p1; exact p1.elim
          | some w =>
            rw [el] at p1
            obtain ⟨a, rfl, _, C, dx, vs, hC, h2, h3⟩ := s1.sim.at hn q1
            obtain ⟨cc, na⟩ := hk c hc C hC
            obtain ⟨u, e1, r⟩ := h3.lookup el
            exact ⟨a, C, dx, vs, u, rfl, h2, cc, na, e1, post_ok s1.sim p1 r⟩
        · exact p1.elim
      · exact p1.elim
    · exact p1.elim
/-! ### o.f = value -/
def setFW (kc : List Str) (f : Str) (x w : W) (h : PH) : Option PH := match x with
  | .ref n => match h[n]? with
    | some (.ins c fs) => if c ∈ kc ∧ fs.length < 1000 then some (h.set n (.ins c (putFW f w fs))) else none
    | _ => none
  | _ => none
def sSetFld (kc : List Str) (f : Str) (me mo : EM) : SM := fun ps h => (me ps h).thenS ps fun w h1 => (mo ps h1).thenS ps fun x h2 => match setFW kc f x w h2 with
  | some h3 => .nx ps h3
  | none => .stuck
theorem ss_setfld {kc : List Str} (hk : ∀ c ∈ kc, IFld X.K c f) (hv : SE X W0 value me) (ho : SE X W0 o mo) (hs : swapsWith value (some (.Attribute o f pos')) pos.line X.env = pure false := by rfl) :
    SS X W0 (.Assign [.Attribute o f pos'] value pos) (sSetFld kc f me mo) :=
  ps_imp (ps_fld ho hv hs) fun D σ H h => by
    obtain ⟨f0, h0, ps, s, sr, p⟩ := h
    refine ⟨f0, h0, ps, s, sr, (PostS.bind (R1 := RW X.K) s sr p).mono (fun v H1 hh => ?_) fun _ _ _ e => e⟩
    obtain ⟨f1, h1, w, s1, sr1, q1, p1⟩ := hh
    refine ⟨f1, h1, ps, s1.sim, sr1, (PostS.bind (R1 := RW X.K) s1.sim sr1 p1).mono (fun ov H2 hh => ?_) fun _ _ _ e => e⟩
    obtain ⟨f2, h2, x, s2, sr2, q2, p2⟩ := hh
    unfold setFW at p2
    split at p2
    · rename_i h3 e3
      split at e3
      · rename_i n
        split at e3
        · rename_i c fs hn
          split at e3
          · rename_i hc
            cases e3
            obtain ⟨a, rfl, hf, C, dx, vs, hC, h2', h3'⟩ := s2.sim.at hn q2
            obtain ⟨cc, na⟩ := hk c hc.1 C hC
            have st := s2.sim.put_ins hC (dx := dx) hf (h3'.putF (x := f) (s2.rep s1.sim q1)) fun _ _ z => by rw [h2'] at z; cases z
            exact ⟨a, C, dx, vs, rfl, h2', cc, na, by rw [← h3'.length]; exact hc.2, p2 f2 _ σ st (st.srep s2.sim sr2)⟩
          · cases e3
        · cases e3
      · cases e3
    · exact p2.elim
end

/-! ### methods -/
section
variable {X : Cx} {W0 : WX} {k : Nat} {g C : Addr} {fd : FuncData} {ps : List Str} {sp : Sp} {mn x : Str} {p pos apos : Pos} {e o : Expr} {es : List Expr} {ta : TE} {t : TA} {F : FM} {mo : EM} {l : LM} {n : Nat} {c : Str}
def tMethG (C : Addr) (mn : Str) (sp : Sp) (E : L2.St → XK) (ta : TE) (t : TA) : TE := fun σ H Q => ta σ H fun x H1 => ∃ a dx fs, x = .ref a ∧ H1 a = some (.ins C dx fs) ∧ fs.lookup mn = none ∧ t σ H1 fun vs H2 => sp (x :: vs) H2 Q (E σ)
theorem pe_gmeth {pl : Sem Bool} (he : PE X o ta) (c : Cls X.K C) (hm : Meth X.K C mn g) (F : FnG X.prog X.w X.K X.mg X.base k g fd ps sp) (hr : Room k X.A) (gd : Gd X.A) (hb : Binds X.K fd ps []) (tk : Takes X W0) (ha : PA X (e :: es) t)
    (hst : starEach (e :: es) X.env = (false, eval e X.env) :: starEach es X.env) (hpl : (backTo pos (starEach es X.env)).any (·.1) = false)
    (ht : eval (.Call (.Attribute o mn apos) (e :: es) [] pos) X.env = (do
      let ov ← eval o X.env
      standAt apos.atName
      let (f, first) ← holding [ov] (getMethod ov mn pl)
      callWith pos f first (backTo pos (starEach (e :: es) X.env)) (backToKw pos (keywordEach [] X.env)))) :
    PE X (.Call (.Attribute o mn apos) (e :: es) [] pos) (tMethG C mn sp (WE W0) ta t) := by
  refine ⟨fun pins s σ H Q I h => ?_⟩
  refine PySem.W.methodCall_KW (pl := pl) (thn (he.run pins s σ H _ I h) fun u s1 ⟨x, H1, I1, rx, a, dx, fs, ex, ea, l, q⟩ => ?_) ht
  subst ex
  obtain rfl : u = Value.ref a := rx
  refine getmeth_ok I1 ea c hm l ?_
  refine PySem.W.callWith_K (first := [.ref a]) (h₀ := X.base) I.ok.mod.kin hm.kp (thn (ha.run pos pins s1 σ H1 _ I1 q) fun us s2 ⟨vs, H2, I2, r, q2⟩ => ⟨I2.kIn, ?_⟩) hst hpl
  exact run_g (us := .ref a :: us) (vs := .ref a :: vs) F hr gd hb (L2.passAt tk σ) I2 (.cons rfl r) q2
theorem pe_gmeth0 {pl : Sem Bool} (he : PE X o ta) (c : Cls X.K C) (hm : Meth X.K C mn g) (F : FnG X.prog X.w X.K X.mg X.base k g fd ps sp) (hr : Room k X.A) (gd : Gd X.A) (hb : Binds X.K fd ps []) (tk : Takes X W0)
    (ht : eval (.Call (.Attribute o mn apos) [] [] pos) X.env = (do
      let ov ← eval o X.env
      standAt apos.atName
      let (f, first) ← holding [ov] (getMethod ov mn pl)
      callWith pos f first (backTo pos (starEach [] X.env)) (backToKw pos (keywordEach [] X.env)))) :
    PE X (.Call (.Attribute o mn apos) [] [] pos) (tMethG C mn sp (WE W0) ta tNil) := by
  refine ⟨fun pins s σ H Q I h => ?_⟩
  refine PySem.W.methodCall_KW (pl := pl) (thn (he.run pins s σ H _ I h) fun u s1 ⟨x, H1, I1, rx, a, dx, fs, ex, ea, l, q⟩ => ?_) ht
  subst ex
  obtain rfl : u = Value.ref a := rx
  refine getmeth_ok I1 ea c hm l ?_
  exact PySem.W.callWith_K0 (first := [.ref a]) I1.kIn hm.kp (run_g (us := [.ref a]) (vs := [.ref a]) F hr gd hb (L2.passAt tk σ) I1 (.cons rfl .nil) q)
def insOf (c mn : Str) : W → PH → Bool
  | .ref k, h => match h[k]? with
    | some (.ins c' fs) => decide (c' = c) && (fs.lookup mn).isNone
    | _ => false
  | _, _ => false
def mMth (c mn : Str) (n : Nat) (F : FM) (mo : EM) (l : LM) : EM := fun ps h => (mo ps h).bind fun x h1 => if insOf c mn x h1 = true then (l ps h1).bind fun xs h2 => if xs.length + 1 = n then F (x :: xs) h2 else .stuck else .stuck
theorem insOf_rep {f : List Addr} {h : PH} {H : Hp} {x : W} {v : V} {C : Addr} (hC : PySem.W.nsIn X.K mainGlobals c = some (some (.ref C))) (s : Sim X.K f h H) (r : Rep X.K f H x v) (e : insOf c mn x h = true) : ∃ a dx fs, v = .ref a ∧ H a = some (.ins C dx fs) ∧ fs.lookup mn = none := by
  unfold insOf at e
  split at e
  · split at e
    · rename_i c' fs hn
      simp only [Bool.and_eq_true, decide_eq_true_eq, Option.isNone_iff_eq_none] at e
      obtain ⟨rfl, e2⟩ := e
      obtain ⟨a, rfl, _, C', dx, vs, hC', h2, h3⟩ := s.at hn r
      rw [hC] at hC'
      cases hC'
      exact ⟨a, dx, vs, rfl, h2, h3.lookup_none e2⟩
    · cases e
  · cases e
theorem se_meth {pl : Sem Bool} (hC : PySem.W.nsIn X.K mainGlobals c = some (some (.ref C))) (cc : Cls X.K C) (hm : Meth X.K C mn g) (FK : FnG X.prog X.w X.K X.mg X.base k g fd ps (SPm X.K n F)) (hb : Binds X.K fd ps []) (hr : Room k X.A) (gd : Gd X.A) (tk : Takes X W0)
    (ho : SE X W0 o mo) (ha : SA X W0 (e :: es) l)
    (hst : starEach (e :: es) X.env = (false, eval e X.env) :: starEach es X.env := by rfl) (hpl : (backTo pos (starEach es X.env)).any (·.1) = false := by rfl)
    (ht : eval (.Call (.Attribute o mn apos) (e :: es) [] pos) X.env = (do
      let ov ← eval o X.env
      standAt apos.atName
      let (f, first) ← holding [ov] (getMethod ov mn pl)
      callWith pos f first (backTo pos (starEach (e :: es) X.env)) (backToKw pos (keywordEach [] X.env))) := by rfl) :
    SE X W0 (.Call (.Attribute o mn apos) (e :: es) [] pos) (mMth c mn n F mo l) :=
  pe_imp (pe_gmeth ho cc hm FK hr gd hb tk ha hst hpl ht) fun σ H Q h => by
    obtain ⟨f0, h0, ps, s, sr, p⟩ := h
    refine ⟨f0, h0, ps, s, sr, (Post.bind (R1 := RW X.K) s back_W p).mono (fun v H1 hh => ?_) fun _ _ _ e => e⟩
    obtain ⟨f1, h1, x, s1, q1, p1⟩ := hh
    split at p1
    · rename_i hx
      obtain ⟨a, dx, fs, rfl, h2, h3⟩ := insOf_rep hC s1.sim q1 hx
      refine ⟨a, dx, fs, rfl, h2, h3, f1, h1, ps, s1.sim, s1.srep s sr, (Post.bind (R1 := RA X.K) s1.sim back_W p1).mono (fun vs H2 hh => ?_) fun _ _ _ e => e⟩
      obtain ⟨f2, h2, xs, s2, q2, p2⟩ := hh
      split at p2
      · rename_i hl
        exact ⟨by rw [List.length_cons, ← q2.length]; exact hl, f2, h2, x :: xs, s2.sim, .cons (s2.rep s1.sim q1) q2, p2⟩
      · exact p2.elim
    · exact p1.elim
def mMth0 (c mn : Str) (F : FM) (mo : EM) : EM := fun ps h => (mo ps h).bind fun x h1 => if insOf c mn x h1 = true then F [x] h1 else .stuck
theorem se_meth0 {pl : Sem Bool} (hC : PySem.W.nsIn X.K mainGlobals c = some (some (.ref C))) (cc : Cls X.K C) (hm : Meth X.K C mn g) (FK : FnG X.prog X.w X.K X.mg X.base k g fd ps (SPm X.K 1 F)) (hb : Binds X.K fd ps []) (hr : Room k X.A) (gd : Gd X.A) (tk : Takes X W0)
    (ho : SE X W0 o mo)
    (ht : eval (.Call (.Attribute o mn apos) [] [] pos) X.env = (do
      let ov ← eval o X.env
      standAt apos.atName
      let (f, first) ← holding [ov] (getMethod ov mn pl)
      callWith pos f first (backTo pos (starEach [] X.env)) (backToKw pos (keywordEach [] X.env))) := by rfl) :
    SE X W0 (.Call (.Attribute o mn apos) [] [] pos) (mMth0 c mn F mo) :=
  pe_imp (pe_gmeth0 ho cc hm FK hr gd hb tk ht) fun σ H Q h => by
    obtain ⟨f0, h0, ps, s, sr, p⟩ := h
    refine ⟨f0, h0, ps, s, sr, (Post.bind (R1 := RW X.K) s back_W p).mono (fun v H1 hh => ?_) fun _ _ _ e => e⟩
    obtain ⟨f1, h1, x, s1, q1, p1⟩ := hh
    split at p1
    · rename_i hx
      obtain ⟨a, dx, fs, rfl, h2, h3⟩ := insOf_rep hC s1.sim q1 hx
      exact ⟨a, dx, fs, rfl, h2, h3, rfl, f1, h1, [x], s1.sim, .cons q1 .nil, p1⟩
    · exact p1.elim

/-! ### an object is made -/
theorem run_gmake {pins : List (Addr × Obj)} {σ : L2.St} {H : Hp} {s : Shared} {Q : VK} {E : XK} {us : List Value} {vs : List V} (M : Mk X.K C g) (F : FnG X.prog X.w X.K X.mg X.base k g fd ps sp) (hr : Room (k + 1) X.A) (gd : Gd X.A) (hb : Binds X.K fd ps [])
    (hx : PassesAt (L2.CX X.prog X.w) X σ E) (I : Inv X pins σ H s) (r : Vals vs us)
    (h : ∀ x dx, H x = none → H dx = none → dx ≠ x → sp (.ref x :: vs) (upd (upd H dx (.own x)) x (.ins C dx [])) (fun v H2 => v = .non ∧ Q (.ref x) H2) E) :
    wpAny (model X.prog X.w) X.A (call (.ref C) us) (EP X pins σ Q) X.xe s := by
  have hq := h (s.heap.objs.size + 1) s.heap.objs.size (I.hok.fresh (Nat.le_succ _)) (I.hok.fresh (Nat.le_refl _)) (Nat.ne_of_lt (Nat.lt_succ_self _))
  have I2 := Inv.made (C := C) I
  have r2 : Vals (V.ref (s.heap.objs.size + 1) :: vs) (Value.ref (s.heap.objs.size + 1) :: us) := .cons rfl r
  have hl : (Value.ref (s.heap.objs.size + 1) :: us ++ []).length = ps.length := by
    have e := r2.length
    rw [F.len _ _ _ _ hq] at e
    rw [List.append_nil]
    exact e.symm
  have bnd := hb _ (Value.ref (s.heap.objs.size + 1) :: us) I2.kIn hl
  rw [List.append_nil] at bnd
  refine wpAny_call (make_map (f := g) I.kIn M.makes M.init (beq_iff_eq.mp M.fn) (codeAny_mono (F.run _ X.stack _ _ ⟨Value.ref (s.heap.objs.size + 1) :: us, []⟩ (Value.ref (s.heap.objs.size + 1) :: us) _ _ E (hr.make C us []) gd
    (I2.env0.make C us []) bnd r2 hq) fun r s' hq' => ?_))
  cases r with
  | error e => exact hx pins _ _ e s' I2 hq'
  | ok fl =>
    cases fl with
    | ret u =>
      obtain ⟨v, H', I3, rv, ev, q3⟩ := I2.after hq'
      subst ev
      exact ⟨rv, ⟨V.ref (s.heap.objs.size + 1), H', I3, rfl, q3⟩⟩
    | next => exact False.elim hq'
    | brk => exact False.elim hq'
    | cont => exact False.elim hq'
def tMakeG (C : Addr) (sp : Sp) (E : L2.St → XK) (t : TA) : TE := fun σ H Q => t σ H fun vs H1 => ∀ x dx, H1 x = none → H1 dx = none → dx ≠ x → sp (.ref x :: vs) (upd (upd H1 dx (.own x)) x (.ins C dx [])) (fun v H2 => v = .non ∧ Q (.ref x) H2) (E σ)
theorem pe_gmake (M : Mk X.K C g) (F : FnG X.prog X.w X.K X.mg X.base k g fd ps sp) (hr : Room (k + 1) X.A) (gd : Gd X.A) (hg : Gl X x) (hm : X.mg x = some (.ref C)) (hb : Binds X.K fd ps []) (tk : Takes X W0)
    (ha : PA X (e :: es) t) (hdb : (x == ("__debug__" : Str)) = false) (he : starEach (e :: es) X.env = (false, eval e X.env) :: starEach es X.env) (hpl : (backTo pos (starEach es X.env)).any (·.1) = false) :
    PE X (.Call (.Name x p) (e :: es) [] pos) (tMakeG C sp (WE W0) t) := by
  refine ⟨fun pins s σ H Q I h => ?_⟩
  refine wpAny_Call_Name_kw (ld_glob I hg hm ?_ hdb)
  refine PySem.W.callWith_K (h₀ := X.base) I.ok.mod.kin M.kp (thn (ha.run pos pins s σ H _ I h) fun us s1 ⟨vs, H1, I1, r, q⟩ => ⟨I1.kIn, ?_⟩) he hpl
  exact run_gmake M F hr gd hb (L2.passAt tk σ) I1 r q
def mMake (c : Str) (n : Nat) (F : FM) (l : LM) : EM := fun ps h => (l ps h).bind fun xs h1 => if xs.length + 1 = n then (F (.ref h1.length :: xs) (h1 ++ [.ins c []])).bind fun w h2 => match w with
  | .non => .ok (.ref h1.length) h2
  | _ => .stuck else .stuck
theorem se_make (hC : PySem.W.nsIn X.K mainGlobals c = some (some (.ref C))) (M : Mk X.K C g) (FK : FnG X.prog X.w X.K X.mg X.base k g fd ps (SPm X.K n F)) (hb : Binds X.K fd ps []) (hr : Room (k + 1) X.A) (gd : Gd X.A) (tk : Takes X W0) (hm : X.mg c = some (.ref C))
    (ha : SA X W0 (e :: es) l) (hg : Gl X c := by rfl) (hdb : (c == ("__debug__" : Str)) = false := by decide) (he : starEach (e :: es) X.env = (false, eval e X.env) :: starEach es X.env := by rfl) (hpl : (backTo pos (starEach es X.env)).any (·.1) = false := by rfl) :
    SE X W0 (.Call (.Name c p) (e :: es) [] pos) (mMake c n F l) :=
  pe_imp (pe_gmake M FK hr gd hg hm hb tk ha hdb he hpl) fun σ H Q h => by
    obtain ⟨f0, h0, ps, s, sr, q⟩ := h
    refine ⟨f0, h0, ps, s, sr, (Post.bind (R1 := RA X.K) s back_W q).mono (fun vs H1 hh => ?_) fun _ _ _ e => e⟩
    obtain ⟨f1, h1, xs, s1, q1, p1⟩ := hh
    intro x dx hx hdx ne
    split at p1
    · rename_i hl
      have sA := s1.sim.other (o := .own x) hdx
      have sB := sA.sim.other (p := x) (o := .ins C dx []) (by rw [upd_ne (Ne.symm ne)]; exact hx)
      have st := (sA.trans sB).take_in (o := .ins c []) hx (s1.sim.fresh hx) ⟨C, dx, [], hC, upd_same, rfl⟩
      have hlen : f1.length = h1.length := s1.sim.len
      have rx : Rep X.K (f1 ++ [x]) (upd (upd H1 dx (.own x)) x (.ins C dx [])) (.ref h1.length) (.ref x) := by
        simp only [Rep]
        exact ⟨x, rfl, by rw [← hlen]; simp⟩
      refine ⟨by rw [List.length_cons, ← q1.length]; exact hl, _, _, _, st.sim, .cons rx (st.reps s1.sim q1), ?_⟩
      cases eF : F (.ref h1.length :: xs) (h1 ++ [.ins c []]) with
      | stuck => rw [eF] at p1; exact p1.elim
      | exc x2 h2 =>
        rw [eF] at p1
        exact fun f2 H2 c2 d2 s2 r2 => p1 f2 H2 c2 d2 (st.trans s2) r2
      | ok w h2 =>
        rw [eF] at p1
        intro f2 H2 b s2 r2
        cases w with
        | non =>
          have p1 : Post X.K (RW X.K) f1 H1 (.ok (.ref h1.length) h2) Q (fun c d H' => W0 c d σ H') := p1
          exact ⟨rep_non.mp r2, p1 f2 H2 (.ref x) (st.trans s2) (s2.rep st.sim rx)⟩
        | _ => exact p1.elim
    · exact p1.elim
end

/-! ### a fresh list, so many times -/
section
variable {X : Cx} {W0 : WX} {a b : Expr} {pos : Pos} {l1 : LM} {m2 : EM}
def mRepL (l : LM) (m : EM) : LM := fun ps h => (l ps h).bind fun xs h1 => (m ps h1).bind fun y h2 => match y with
  | .int k => if -1000000 ≤ k ∧ k ≤ 1000000 ∧ xs.length * k.toNat ≤ 16777216 then .ok (List.replicate k.toNat xs).flatten h2 else .stuck
  | _ => .stuck
theorem sl_rep (ha : SL X W0 a l1) (hb : SE X W0 b m2) : SL X W0 (.BinOp a .Mult b pos) (mRepL l1 m2) := pe_imp (pe_op op_rep ha hb) fun σ H Q h => by
  obtain ⟨f, h, ps, s, sr, p⟩ := h
  refine ⟨f, h, ps, s, sr, (Post.bind (R1 := RL X.K) s back_L p).mono (fun v H1 hh => ?_) fun _ _ _ e => e⟩
  obtain ⟨f1, h1, xs, s1, q1, p1⟩ := hh
  refine ⟨f1, h1, ps, s1.sim, s1.srep s sr, (Post.bind (R1 := RW X.K) s1.sim back_L p1).mono (fun u H2 hh => ?_) fun _ _ _ e => e⟩
  obtain ⟨f2, h2, y, s2, q2, p2⟩ := hh
  obtain ⟨d, vs, rfl, hd, nd, ed, ra⟩ := q1
  split at p2
  · split at p2
    · rename_i k c
      have ed2 := s2.grow d _ ed nd
      have ra2 := s2.reps s1.sim ra
      refine ⟨d, k, vs, rfl, rep_int.mp q2, ed2, by omega, by omega, by rw [← ra.length, sizeLine_eq]; exact c.2.2, fun q hq => ?_⟩
      have st := s2.sim.other (o := .lst (List.replicate k.toNat vs).flatten) hq
      exact p2 f2 _ _ st ⟨q, _, rfl, hq, s2.sim.fresh hq, upd_same, Reps.mono (.refl f2) (s2.sim.stay st.grow) _ _ (ra2.rep_flat _)⟩
    · exact p2.elim
  · exact p2.elim
end
end Mir

/-! Mir: repr of tuples in which empty dicts stand. -/
namespace Mir
open PySem PySem.Spec PyProof.Rows L2
mutual
/-- tuples alone, and empty dicts -/
inductive DpT (K : PySem.W.Frag) (H : Hp) : V → PyData → Prop
  | non : DpT K H .non .none
  | bl (b : Bool) : DpT K H (.bl b) (.bool b)
  | int (i : Int) : DpT K H (.int i) (.int i)
  | str (x : Str) : DpT K H (.str x) (.str x)
  | tup {a : Addr} {xs : List V} {ds : List PyData} : SqT K H a xs → DpTs K H xs ds → DpT K H (.ref a) (.tuple ds)
  | emp {a : Addr} : H a = some (.dK []) → DpT K H (.ref a) (.dict [])
inductive DpTs (K : PySem.W.Frag) (H : Hp) : List V → List PyData → Prop
  | nil : DpTs K H [] []
  | cons {v : V} {vs : List V} {d : PyData} {ds : List PyData} : DpT K H v d → DpTs K H vs ds → DpTs K H (v :: vs) (d :: ds)
end
section
variable {X : Cx} {pins : List (Addr × Obj)} {σ : L2.St} {H : Hp} {s : Shared}
mutual
theorem dpT_reads (I : Inv X pins σ H s) : ∀ (d : PyData) (v : V) (u : Value), DpT X.K H v d → RelV v u → ∃ as, Reads s.heap u d as ∧ sysModules ∉ as
  | .none, v, u, h, r => by cases h; cases r; exact ⟨_, .none, by simp⟩
  | .bool b, v, u, h, r => by cases h; cases r; exact ⟨_, .bool b, by simp⟩
  | .int i, v, u, h, r => by cases h; obtain ⟨t, rfl⟩ := r; exact ⟨_, .int i t, by simp⟩
  | .str x, v, u, h, r => by cases h; obtain ⟨t, rfl⟩ := r; exact ⟨_, .str x t, by simp⟩
  | .tuple ds, v, u, h, r => by
    cases h with
    | tup e1 e2 =>
      cases r
      obtain ⟨its, rv, ⟨ob, ho, hc, m, hd⟩, _⟩ := I.tuple e1
      obtain ⟨as, q1, q2⟩ := dpT_all I ds _ its e2 rv
      exact ⟨as, .tuple ho hc hd q1, q2⟩
  | .list ds, v, u, h, r => by cases h
  | .dict kvs, v, u, h, r => by
    cases h with
    | @emp a e1 =>
      cases r
      obtain ⟨_, ne, vs, kv, ob, es, ep, ho, ⟨hc, _⟩, hd, _, hp, _⟩ := I.hok a _ e1
      have hvs : vs = [] := by cases kv; rfl
      subst hvs
      have hes : es.toList = [] := by
        cases q : es.toList with
        | nil => rfl
        | cons b r => rw [q] at hp; cases hp
      refine ⟨[a] ++ [], ?_, ?_⟩
      · refine Reads.dict (as := []) (bs := []) ho hc hd ?_ ?_
        · rw [hes]; exact .nil
        · rw [hes]; exact .nil
      · intro z
        have z : sysModules = a := by simpa using z
        rw [z] at ne
        simp at ne
theorem dpT_all (I : Inv X pins σ H s) : ∀ (ds : List PyData) (vs : List V) (us : List Value), DpTs X.K H vs ds → Vals vs us → ∃ as, ReadsAll s.heap us ds as ∧ sysModules ∉ as
  | [], vs, us, h, r => by cases h; cases r; exact ⟨_, .nil, by simp⟩
  | d :: ds, vs, us, h, r => by
    cases h with
    | cons e1 e2 =>
      cases r with
      | cons r1 r2 =>
        obtain ⟨as, q1, q2⟩ := dpT_reads I d _ _ e1 r1
        obtain ⟨bs, p1, p2⟩ := dpT_all I ds _ _ e2 r2
        refine ⟨_, .cons q1 p1, fun z => ?_⟩
        rcases List.mem_append.mp z with z | z
        · exact q2 z
        · exact p2 z
end
end
mutual
def datT (h : PH) : W → Option PyData
  | .non => some .none
  | .bl b => some (.bool b)
  | .int i => some (.int i)
  | .str x => some (.str x)
  | .tup xs => (datTs h xs).map .tuple
  | .ref n => match h[n]? with
    | some (.dK []) => some (.dict [])
    | _ => none
  | _ => none
def datTs (h : PH) : List W → Option (List PyData)
  | [] => some []
  | x :: xs => match datT h x, datTs h xs with
    | some d, some ds => some (d :: ds)
    | _, _ => none
end
section
variable {K : PySem.W.Frag} {f : List Addr} {h : PH} {H : Hp}
mutual
theorem dpT_of (s : Sim K f h H) : ∀ (w : W) (v : V) (d : PyData), datT h w = some d → Rep K f H w v → DpT K H v d
  | .non, v, d, e, r => by rw [rep_non.mp r]; simp only [datT, Option.some.injEq] at e; subst e; exact .non
  | .bl b, v, d, e, r => by rw [rep_bl.mp r]; simp only [datT, Option.some.injEq] at e; subst e; exact .bl b
  | .int b, v, d, e, r => by rw [rep_int.mp r]; simp only [datT, Option.some.injEq] at e; subst e; exact .int b
  | .str b, v, d, e, r => by rw [rep_str.mp r]; simp only [datT, Option.some.injEq] at e; subst e; exact .str b
  | .tup xs, v, d, e, r => by
    obtain ⟨a, vs, rfl, h1, h2⟩ := rep_tup.mp r
    simp only [datT] at e
    obtain ⟨ds, e1, rfl⟩ := Option.map_eq_some_iff.mp e
    exact .tup h1 (dpTs_of s xs vs ds e1 h2)
  | .fix xs, v, d, e, r => by simp [datT] at e
  | .exc _, v, d, e, r => by simp [datT] at e
  | .ref n, v, d, e, r => by
    simp only [datT] at e
    split at e
    · rename_i hn
      cases e
      obtain ⟨a, rfl, _, vs, h1, h2⟩ := s.at hn r
      have h2 : vs = [] := h2
      subst h2
      exact .emp h1
    · cases e
theorem dpTs_of (s : Sim K f h H) : ∀ (ws : List W) (vs : List V) (ds : List PyData), datTs h ws = some ds → Reps K f H ws vs → DpTs K H vs ds
  | [], vs, ds, e, r => by
    rw [r.nil_inv]
    simp only [datTs, Option.some.injEq] at e
    subst e
    exact .nil
  | x :: xs, vs, ds, e, r => by
    obtain ⟨v, t, rfl, h1, h2⟩ := r.cons_inv
    simp only [datTs] at e
    split at e
    · rename_i d ds' e1 e2
      cases e
      exact .cons (dpT_of s x v d e1 h1) (dpTs_of s xs t ds' e2 h2)
    · cases e
end
end
/-- repr, of such tuples too -/
def isTR : W → Bool
  | .tup _ => true
  | .ref _ => true
  | _ => false
def wReprE (xs : List W) (h : PH) : Option (W × PH) := match wRepr xs h with
  | some r => some r
  | none => match xs with
    | [.non] => some (.str "None", h)
    | [x] => match datT h x with
      | some d => if isTR x = true ∧ d.showable = true ∧ d.depth ≤ 100 ∧ d.shown.length ≤ 16777216 then some (.str d.shown, h) else none
      | none => none
    | _ => none
abbrev rReprE (K : PySem.W.Frag) : List V → Hp → VK → Prop := fun xs H Q => rRepr K xs H Q ∨ (xs = [.non] ∧ Q (.str "None") H) ∨ ∃ a d, xs = [.ref a] ∧ DpT K H (.ref a) d ∧ d.showable = true ∧ d.depth ≤ 100 ∧ d.shown.length ≤ 16777216 ∧ Q (.str d.shown) H
section
variable {K : PySem.W.Frag} {X : Cx}
theorem c_reprE {k : Nat} (hr : Room k X.A) (gd : Gd X.A) : CallR X (.builtin "repr") (rReprE X.K) := by
  intro pins s σ H xs us Q I rv h
  rcases h with h | ⟨rfl, q⟩ | ⟨a, d, rfl, dp, h1, h3, h4, q⟩
  · exact c_repr hr gd pins s σ H xs us Q I rv h
  · obtain ⟨u, rfl, ru⟩ := vals1 rv
    cases (show u = Value.none from ru)
    exact PySem.P.repr_of_none ⟨.str "None", H, I.tok _, ⟨_, rfl⟩, q⟩
  · obtain ⟨u, rfl, ru⟩ := vals1 rv
    cases (show u = Value.ref a from ru)
    obtain ⟨as, rd, ns⟩ := dpT_reads I d _ _ dp (show RelV (V.ref a) (Value.ref a) from rfl)
    have hu := hr.un
    refine PySem.repr_of_reads' rd h1 (fun _ => ns) gd (by omega) (fun _ _ e => e) (fun h' t tk keep => ?_) (by rw [sizeLine_eq]; exact h4)
    exact ⟨.str d.shown, H, I.kept (t' := tk) keep, ⟨t, rfl⟩, q⟩
theorem o_reprE : OpC K (rReprE K) wReprE := by
  intro f h H xs vs Q E s r p
  unfold wReprE at p
  split at p
  · rename_i w e
    refine .inl (o_repr f h H xs vs Q E s r ?_)
    rw [e]
    exact p
  · split at p
    · obtain ⟨v, rfl, r1⟩ := r.one_inv
      exact .inr (.inl ⟨by rw [rep_non.mp r1], post_ok s p (rep_str.mpr rfl)⟩)
    · rename_i x _
      obtain ⟨v, rfl, r1⟩ := r.one_inv
      split at p
      · rename_i d e
        split at p
        · rename_i c
          have dd := dpT_of s _ v d e r1
          have key : ∃ a, v = .ref a := by
            unfold isTR at c
            split at c
            · obtain ⟨a, us, rfl, _⟩ := rep_tup.mp r1
              exact ⟨a, rfl⟩
            · simp only [Rep] at r1
              obtain ⟨a, rfl, _⟩ := r1
              exact ⟨a, rfl⟩
            · exact absurd c.1 (by simp)
          obtain ⟨a, rfl⟩ := key
          exact .inr <| .inr ⟨a, d, rfl, dd, c.2.1, c.2.2.1, c.2.2.2, post_ok s p (rep_str.mpr rfl)⟩
        · exact p.elim
      · exact p.elim
    · exact p.elim
end
end Mir

/-! Mir: sorted of tuples and dicts, list.index, x[::-1], list(range(..)), dict(pairs). -/
namespace Mir
open PySem PySem.Spec PyProof.Rows L2
section
variable {X : Cx} {pins : List (Addr × Obj)} {σ : L2.St} {H : Hp} {s : Shared}
/-- sorted of a thing that gives ints -/
theorem sorted_via {v : Value} {ns : List Int} {Q : VK} (hz : ns.length ≤ sizeLine) (I : Inv X pins σ H s)
    (hcol : ∀ Q' : List Value → Shared → Prop, (∀ (its : List Value) (h' : Heap) (tk : Nat), IntsAre its ns → (∀ b o, s.heap.get? b = some o → h'.get? b = some o) → Q' its { s with heap := h', toks := tk }) → wpAny (model X.prog X.w) X.A.in1 (collect v) Q' X.xe s)
    (q : ∀ (ns' : List Int) (p : Addr), ns'.Perm ns → ns'.Pairwise (· ≤ ·) → H p = none → Q (.ref p) (upd H p (.lst (ns'.map V.int)))) :
    wpAny (model X.prog X.w) X.A (call (.builtin "sorted") [v]) (EP X pins σ Q) X.xe s := by
  refine Calls.call_function_entry PyProof.Rows.kind_sorted PyProof.Rows.plain_sorted PyProof.Rows.entry_sorted (PyProof.Rows.args_sorted1 _) ?_
  unfold Builtin.«sorted»
  refine wpAny_bind (m := checkCount "sorted" 1 1 _) (wpAny_pure (wpAny_bind (hcol _ fun its h1 tk hI keep => ?_)))
  have hl : its.length = ns.length := by rw [← SrtO.iv_ints hI, List.length_map]
  have I1 : Inv X pins σ H { s with heap := h1, toks := tk } := I.kept keep
  refine wpAny_bind (wpAny_newList ?_ (by rw [hl]; exact hz))
  have at_ : (h1.push (seqObj "list" its.toArray 0)).get? h1.objs.size = some (seqObj "list" its.toArray 0) := Heap.get?_push_size _ rfl
  refine wpAny_bind (wpAny_holding ?_)
  refine wpAny_call_entry PyProof.Rows.slot_list_sort ⟨_, at_, rfl⟩ PyProof.Rows.entry_list_sort ?_ (PyProof.Rows.args_list_sort _)
  refine SrtO.list_sort_ord (s := { s with heap := h1.push (seqObj "list" its.toArray 0), toks := tk }) SrtO.swo_int at_ (by rw [hl]; exact hz) (fun h2 => SrtO.ints_sortable hI h2) fun out g1 g2 => ⟨_, rfl, ?_⟩
  obtain ⟨k1, k2, k3⟩ := SrtO.ints_out hI g1 g2
  obtain ⟨ep, e2⟩ := PyProof.Rows.sortedHeap_at (vs := its) (out := out.toArray) at_
  have hlen : ((out.map SrtO.iv).map V.int).length ≤ sizeLine := by
    rw [List.length_map, k2.length_eq]
    exact hz
  refine wpAny_pure ⟨_, rfl, .ref h1.objs.size, upd H h1.objs.size (.lst ((out.map SrtO.iv).map V.int)), ?_, rfl, q _ _ k2 k3 (I1.hok.fresh (Nat.le_refl _))⟩
  refine I1.laid (t' := tk) (fun b u e => ?_) (Nat.le_refl _) ⟨hlen, out, ep, vals_of_ints k1, e2⟩
  have lt : b < h1.objs.size := Heap.lt_size e
  rw [PyProof.Rows.sortedHeap_old (Nat.ne_of_lt lt) (by rw [size_push']; exact Nat.lt_succ_of_lt lt)]
  exact Heap.get?_push_of_some _ e
end
section
variable {K : PySem.W.Frag} {X : Cx} {W0 : WX}
/-- a list, a tuple, a dict's keys: ints -/
def rSortV (K : PySem.W.Frag) : List V → Hp → VK → Prop := fun vs H Q => ∃ (a : Addr) (ns : List Int), vs = [.ref a] ∧ (SqL K H a (ns.map V.int) ∨ SqT K H a (ns.map V.int) ∨ ∃ kvs : List (Key × V), H a = some (.dK kvs) ∧ kvs.map (·.1) = ns.map Sum.inl) ∧
  ∀ (ns' : List Int) (p : Addr), ns'.Perm ns → ns'.Pairwise (· ≤ ·) → H p = none → Q (.ref p) (upd H p (.lst (ns'.map V.int)))
theorem cr_sortV (hc : X.calm = true) : CallR X (.builtin "sorted") (rSortV X.K) := by
  intro pins s σ H vs us Q I rv h
  obtain ⟨a, ns, rfl, h, q⟩ := h
  rcases h with h | h | ⟨kvs, h, hk⟩
  · exact cr_sortedI pins s σ H _ us Q I rv ⟨a, ns, rfl, h, q⟩
  · obtain ⟨u, rfl, ru⟩ := vals1 rv
    cases (show u = Value.ref a from ru)
    obtain ⟨its, r2, ⟨o, ho, hcl, n, hd⟩, hz⟩ := I.tuple h
    rw [List.length_map] at hz
    refine sorted_via hz I (fun Q' f => ?_) q
    refine wpAny_collect_seq a (.inr rfl) ho hcl hd (fun h' keep => ?_) ?_
    · rw [List.toList_toArray]
      exact f its h' s.toks r2.ints keep
    · rw [List.size_toArray, ← r2.length, List.length_map]
      exact hz
  · obtain ⟨u, rfl, ru⟩ := vals1 rv
    cases (show u = Value.ref a from ru)
    have hd : Rd H a (.dK kvs) := .inl h
    obtain ⟨z, lo, vs, rel, dd⟩ := dk_rd I.hok hd
    obtain ⟨ep, hat⟩ := dd.dictAt
    have keys : vs.map (·.1) = ns.map Sum.inl := rel.keys.symm.trans hk
    have hl : vs.length = ns.length := by simpa using congrArg List.length keys
    have hl2 : kvs.length = ns.length := by simpa using congrArg List.length hk
    have hz : vs.length ≤ sizeLine := by rw [hl, ← hl2]; exact z
    refine sorted_via (by rw [← hl]; exact hz) I (fun Q' f => ?_) q
    refine PySem.W.kdu_collect (A := X.A.in1) (PySem.W.kdl_dict (knd := mixKind X.prog X.w) (kvs := vs) (ep := ep) lo) (I.ok.hd hc) hat hz fun h' tk acc keep ha => f _ h' tk ?_ keep
    refine ints_each (by rw [Array.length_toList, ha.1, hl]) fun j v e => ?_
    obtain ⟨k, x, e1, e2⟩ := ha.2 j v (by rw [← Array.getElem?_toList]; exact e)
    have e3 : (vs.map (·.1))[j]? = some k := by rw [List.getElem?_map, e1]; rfl
    rw [keys, List.getElem?_map] at e3
    obtain ⟨y, e4, rfl⟩ := Option.map_eq_some_iff.mp e3
    rcases keyIs_shape (show keyIs (Sum.inl y) v = true from e2) with ⟨i, t, ek, ev⟩ | ⟨z, t, ek, ev⟩
    · cases ek
      exact ⟨y, t, e4, ev⟩
    · cases ek
/-- the ints of it -/
def keysI : List (Key × W) → Option (List Int)
  | [] => some []
  | (.inl i, _) :: r => (keysI r).map (i :: ·)
  | _ => none
def intsOf (x : W) (h : PH) : Option (List Int) := match x with
  | .tup xs => intsW xs
  | .fix xs => intsW xs
  | .ref n => match h[n]? with
    | some (.lst xs) => intsW xs
    | some (.dK kvs) => keysI kvs
    | _ => none
  | _ => none
def lSortV (x : W) (h : PH) : Option (List W × PH) := (intsOf x h).map fun ns => ((sortI ns).map W.int, h)
theorem keysI_is : ∀ {kvs : List (Key × W)} {ns : List Int}, keysI kvs = some ns → kvs.map (·.1) = ns.map Sum.inl
  | [], ns, e => by cases e; rfl
  | (.inl i, w) :: r, ns, e => by
    simp only [keysI] at e
    obtain ⟨ms, e1, rfl⟩ := Option.map_eq_some_iff.mp e
    simp only [List.map_cons, keysI_is e1]
  | (.inr i, w) :: r, ns, e => by cases e
theorem KRep.keys {f : List Addr} {H : Hp} : ∀ {ws : List (Key × W)} {vs : List (Key × V)}, KRep K f H ws vs → vs.map (·.1) = ws.map (·.1)
  | [], vs, h => by
    have h : vs = [] := h
    subst h
    rfl
  | (k, w) :: r, vs, h => by
    obtain ⟨v, s, rfl, h2, h3⟩ := h
    simp only [List.map_cons, KRep.keys h3]
/-- one value alone -/
def OpV {α : Type} (K : PySem.W.Frag) (R : RR α V) (r : List V → Hp → VK → Prop) (o : W → PH → Option (α × PH)) : Prop :=
  ∀ (f : List Addr) (h : PH) (H : Hp) (x : W) (v : V) (Q : VK) (E : XK), Sim K f h H → Rep K f H x v → Post K R f H (.ofO (o x h)) Q E → r [v] H Q
def mOnV {α : Type} (o : W → PH → Option (α × PH)) (m : EM) : LS → PH → Res α := fun ps h => (m ps h).bind fun x h1 => .ofO (o x h1)
variable {x : Str} {id T : String} {r : List V → Hp → VK → Prop} {e : Expr} {m1 : EM} {p pos : Pos}
theorem tG_onV {α : Type} {R : RR α V} {o : W → PH → Option (α × PH)} (hb : Back K R) (ho : OpV K R r o) {σ : L2.St} {H : Hp} {Q : VK} (h : tG K R W0 (mOnV o m1) σ H Q) : tCB r (tCons (tE K W0 m1) tNil) σ H Q := by
  obtain ⟨f, h, ps, s, sr, p⟩ := h
  refine ⟨f, h, ps, s, sr, (Post.bind (R1 := RW K) s hb p).mono (fun v H1 hh => ?_) fun _ _ _ e => e⟩
  obtain ⟨f1, h1, w, s1, q1, p1⟩ := hh
  exact ho f1 h1 H1 w v Q _ s1.sim q1 p1
theorem pg_callBV {α : Type} {R : RR α V} {o : W → PH → Option (α × PH)} (hb : Back X.K R) (hc : CallR X (.builtin id) r) (ho : OpV X.K R r o) (hm : X.mg x = none) (hv : bootBuiltins x = some (.builtin id)) (ha : SE X W0 e m1) (hg : Gl X x := by rfl) (hn : x ≠ "__name__" := by decide) (hdb : (x == ("__debug__" : Str)) = false := by decide)
    (he : starEach [e] X.env = (false, eval e X.env) :: starEach [] X.env := by rfl) (hpl : (backTo pos (starEach [] X.env)).any (·.1) = false := by rfl) : PE X (.Call (.Name x p) [e] [] pos) (tG X.K R W0 (mOnV o m1)) :=
  pe_imp (pe_callB hc hg hm hv (pa_cons ha pa_nil he) hn hdb he hpl) fun _ _ _ h => tG_onV hb ho h
theorem pg_callTV {α : Type} {R : RR α V} {o : W → PH → Option (α × PH)} (hb : Back X.K R) (hc : CallR X (.type T) r) (ho : OpV X.K R r o) (hm : X.mg x = none) (hv : bootBuiltins x = some (.type T)) (ha : SE X W0 e m1) (hg : Gl X x := by rfl) (hn : x ≠ "__name__" := by decide) (hdb : (x == ("__debug__" : Str)) = false := by decide)
    (he : starEach [e] X.env = (false, eval e X.env) :: starEach [] X.env := by rfl) (hpl : (backTo pos (starEach [] X.env)).any (·.1) = false := by rfl) : PE X (.Call (.Name x p) [e] [] pos) (tG X.K R W0 (mOnV o m1)) :=
  pe_imp (pe_callTy hc hg hm hv (pa_cons ha pa_nil he) hn hdb he hpl) fun _ _ _ h => tG_onV hb ho h
theorem q_sortV : OpV K (RL K) (rSortV K) lSortV := by
  intro f h H x v Q E s r p
  unfold lSortV at p
  cases e : intsOf x h with
  | none => rw [e] at p; exact p.elim
  | some ns =>
    rw [e] at p
    have fin : ∀ (ns' : List Int) (q : Addr), ns'.Perm ns → ns'.Pairwise (· ≤ ·) → H q = none → Q (.ref q) (upd H q (.lst (ns'.map V.int))) := fun ns' q hp hu hq => by
      have e3 : ns' = sortI ns := up_unique (hp.trans (sortI_perm ns).symm) hu (sortI_up ns)
      subst e3
      exact post_fresh s p (reps_ints _) hq
    cases x with
    | tup xs =>
      obtain ⟨a, vs, rfl, h1, h2⟩ := rep_tup.mp r
      have ev := intsW_rep e h2
      subst ev
      exact ⟨a, ns, rfl, .inr (.inl h1), fin⟩
    | fix xs =>
      obtain ⟨a, vs, rfl, h1, h2⟩ := rep_fix.mp r
      have ev := intsW_rep e h2
      subst ev
      exact ⟨a, ns, rfl, .inl h1.seq, fin⟩
    | ref n =>
      simp only [intsOf] at e
      split at e
      · rename_i xs hn
        obtain ⟨a, rfl, _, vs, h1, h2⟩ := s.at hn r
        have ev := intsW_rep e h2
        subst ev
        exact ⟨a, ns, rfl, .inl (SqL.of h1), fin⟩
      · rename_i kvs hn
        obtain ⟨a, rfl, _, vs, h1, h2⟩ := s.at hn r
        exact ⟨a, ns, rfl, .inr (.inr ⟨vs, h1, h2.keys.trans (keysI_is e)⟩), fin⟩
      · cases e
    | _ => cases e
/-! ### xs.index(y) -/
def wIndex (x : W) (xs : List W) (h : PH) : Option (W × PH) := match xs with
  | [y] => match lstOf x h with
    | some ws => if flatW y = true ∧ ws.all flatW = true then (ws.findIdx? fun z => eqF z y).map fun j => (.int (j : Nat), h) else none
    | none => none
  | _ => none
theorem op_index : OpMt K (rIndex K) wIndex := by
  intro f h H x v xs vs Q E s rx rxs p
  unfold wIndex at p
  split at p
  · rename_i y
    obtain ⟨u, rfl, ru⟩ := rxs.one_inv
    split at p
    · rename_i ws e
      split at p
      · rename_i c
        obtain ⟨a, ys, rfl, hs, rr⟩ := lstOf_rep s rx e
        cases ej : ws.findIdx? fun z => eqF z y with
        | none => rw [ej] at p; exact p.elim
        | some j =>
          rw [ej] at p
          obtain ⟨hj, k1, k2⟩ := List.findIdx?_eq_some_iff_getElem.mp ej
          obtain ⟨z, hz, rz⟩ := rr.get (List.getElem?_eq_getElem hj)
          have fl : ∀ i (hi : i < ws.length), flatW ws[i] = true := fun i hi => List.all_eq_true.mp c.2 _ (List.getElem_mem hi)
          refine ⟨a, ys, u, j, z, rfl, rfl, hs, flat_of ru c.1, flats_of rr c.2, hz, ?_, fun m z' hm ez => ?_, .inl (post_ok s p (rep_int.mpr rfl))⟩
          · rw [eqF_of rz ru (fl j hj) c.1]
            exact k1
          · obtain ⟨w, ew, rw'⟩ := rr.getv ez
            have hm2 : m < ws.length := by omega
            rw [List.getElem?_eq_getElem hm2] at ew
            cases ew
            rw [eqF_of rw' ru (fl m hm2) c.1]
            simpa using k2 m hm
      · exact p.elim
    · exact p.elim
  · exact p.elim
end
section
variable {X : Cx} {W0 : WX} {o : Expr} {m : EM} {apos cpos : Pos}
theorem se_index {e1 : Expr} {m1 : EM} (ho : SE X W0 o m) (ha : SE X W0 e1 m1) (hbase : attributeBase o "index" X.env (eval o X.env) = eval o X.env := by rfl)
    (hfew : ((backTo cpos (starEach [e1] X.env)).all (fun x => !x.1) && (backToKw cpos (keywordEach [] X.env)).all (fun x => x.1.isSome)
      && decide (([e1] : List Expr).length + ([] : List Keyword).length + (if ([] : List Keyword).isEmpty then 0 else 1) < 30)) = true := by rfl)
    (hline : (apos.endLine == cpos.line) = true := by rfl) (hs : starEach [e1] X.env = [(false, eval e1 X.env)] := by rfl) : SE X W0 (.Call (.Attribute o "index" apos) [e1] [] cpos) (mMt "list" wIndex m (mCons m1 mNil)) :=
  se_mt PySem.F.plainAttrs_list PySem.F.slot_list_index PySem.F.type_list_index mt_index op_index ho (sa_cons ha sa_nil hs) hbase hfew hline hs
end
section
variable {X : Cx} {W0 : WX} {e o : Expr} {m mo : EM} {p p1 p2 p3 pos apos : Pos} {k : Nat}
/-! ### x[::-1] -/
def mRev (m : EM) : LM := fun ps h => (m ps h).bind fun x h1 => match lstOf x h1 with
  | some ws => .ok ws.reverse h1
  | none => .stuck
theorem sl_rev (ha : SE X W0 e m) : SL X W0 (.Subscript e (.Slice none none (some (.UnaryOp .USub (.Constant (.int 1) k p1) p2)) p3) pos) (mRev m) := pe_imp (pe_revL ha) fun σ H Q h => by
  obtain ⟨f, h, ps, s, sr, p⟩ := h
  refine ⟨f, h, ps, s, sr, (Post.bind (R1 := RW X.K) s back_L p).mono (fun v H1 hh => ?_) fun _ _ _ e => e⟩
  obtain ⟨f1, h1, x, s1, q1, p1⟩ := hh
  split at p1
  · rename_i ws e
    obtain ⟨a, vs, rfl, hs, rr⟩ := lstOf_rep s1.sim q1 e
    refine ⟨a, vs, rfl, hs, fun q hq => ?_⟩
    have st := s1.sim.other (o := .lst vs.reverse) hq
    exact p1 f1 _ _ st ⟨q, _, rfl, hq, s1.sim.fresh hq, upd_same, Reps.mono (.refl f1) (s1.sim.stay st.grow) _ _ rr.reverse⟩
  · exact p1.elim
/-! ### list(range(n)), list(range(a, b)) -/
theorem reps_rg {K : PySem.W.Frag} {f : List Addr} {H : Hp} {a b : Int} : Reps K f H (rangeW a (b - a).toNat) (rgV a b) := by
  unfold rangeW rgV
  generalize List.range (b - a).toNat = l
  induction l with
  | nil => exact .nil
  | cons i r ih => exact .cons (rep_int.mpr rfl) ih
def mListRg1 (m : EM) : LM := fun ps h => (m ps h).bind fun x h1 => match x with
  | .int n => if -1000000 ≤ n ∧ n ≤ 1000000 then .ok (rangeW 0 n.toNat) h1 else .stuck
  | _ => .stuck
theorem sl_listRg1 {pr : Pos} (hc : X.calm = true) (hl : X.mg "list" = none) (hr : X.mg "range" = none) (ha : SE X W0 e m) (hg : Gl X "list" := by rfl) (hg2 : Gl X "range" := by rfl)
    (na : starEach [.Call (.Name "range" p2) [e] [] pr] X.env = (false, eval (.Call (.Name "range" p2) [e] [] pr) X.env) :: starEach [] X.env := by rfl) (nb : starEach [e] X.env = (false, eval e X.env) :: starEach [] X.env := by rfl) :
    SL X W0 (.Call (.Name "list" p) [.Call (.Name "range" p2) [e] [] pr] [] pos) (mListRg1 m) := pe_imp (pe_listRg hc hg hl (prg_1 hg2 hr ha nb) na) fun σ H Q h => by
  obtain ⟨f, h, ps, s, sr, p⟩ := h
  refine ⟨f, h, ps, s, sr, (Post.bind (R1 := RW X.K) s back_L p).mono (fun v H1 hh => ?_) fun _ _ _ e => e⟩
  obtain ⟨f1, h1, x, s1, q1, p1⟩ := hh
  split at p1
  · rename_i n
    split at p1
    · rename_i c
      refine ⟨n, rep_int.mp q1, ⟨by omega, by omega, by omega, by omega, by omega⟩, fun q hq => ?_⟩
      have st := s1.sim.other (o := .lst (rgV 0 n)) hq
      have rr := reps_rg (K := X.K) (f := f1) (H := upd H1 q (.lst (rgV 0 n))) (a := 0) (b := n)
      rw [Int.sub_zero] at rr
      exact p1 f1 _ _ st ⟨q, _, rfl, hq, s1.sim.fresh hq, upd_same, rr⟩
    · exact p1.elim
  · exact p1.elim
end
section
variable {X : Cx} {W0 : WX} {m1 m2 m3 : EM} {pos : Pos}
/-- a, b, c = x, y, z -/
def sPar3 (m1 m2 m3 : EM) (i j l : Nat) : SM := fun ps h => (m1 ps h).thenS ps fun u h1 => (m2 ps h1).thenS ps fun v h2 => (m3 ps h2).thenS ps fun w h3 => .nx (((ps.set i (some u)).set j (some v)).set l (some w)) h3
theorem ss_par3 (i j l : Nat) {x y z : Str} {a b c : Expr} {px py pz pt pt2 : Pos} {kt k2 : Nat} (hN : X.N.Nodup) (ha : SE X W0 a m1) (hb : SE X W0 b m2) (hd : SE X W0 c m3) (hij : i ≠ j := by decide) (hil : i ≠ l := by decide) (hjl : j ≠ l := by decide) (hc : X.calm = true := by rfl)
    (hi : X.N[i]? = some x := by rfl) (hj : X.N[j]? = some y := by rfl) (hl : X.N[l]? = some z := by rfl)
    (hx : X.env.scope.names.lookup x = some .local := by rfl) (hy : X.env.scope.names.lookup y = some .local := by rfl) (hz : X.env.scope.names.lookup z = some .local := by rfl)
    (he : starEach [a, b, c] X.env = (false, eval a X.env) :: starEach [b, c] X.env := by rfl) (he2 : starEach [b, c] X.env = (false, eval b X.env) :: starEach [c] X.env := by rfl) (he3 : starEach [c] X.env = (false, eval c X.env) :: starEach [] X.env := by rfl)
    (hw : swappedStores [.Tuple [.Name x px, .Name y py, .Name z pz] kt pt] (.Tuple [a, b, c] k2 pt2) X.env = pure (some [x, y, z]) := by rfl)
    (hs : swapsWithSole [.Tuple [.Name x px, .Name y py, .Name z pz] kt pt] (.Tuple [a, b, c] k2 pt2) pos.line X.env = pure false := by rfl) :
    SS X W0 (.Assign [.Tuple [.Name x px, .Name y py, .Name z pz] kt pt] (.Tuple [a, b, c] k2 pt2) pos) (sPar3 m1 m2 m3 i j l) :=
  ps_imp (ps_par3 hc hN hi hj hl hij hil hjl hx hy hz (pa_cons ha (pa_cons hb (pa_cons hd pa_nil he3) he2) he) hw hs) fun D σ H h => by
    obtain ⟨f, h, ps, s, sr, p⟩ := h
    refine ⟨f, h, ps, s, sr, (PostS.bind (R1 := RW X.K) s sr p).mono (fun v1 H1 hh => ?_) fun _ _ _ e => e⟩
    obtain ⟨f1, h1, x1, s1, sr1, q1, p1⟩ := hh
    refine ⟨f1, h1, ps, s1.sim, sr1, (PostS.bind (R1 := RW X.K) s1.sim sr1 p1).mono (fun v2 H2 hh => ?_) fun _ _ _ e => e⟩
    obtain ⟨f2, h2, x2, s2, sr2, q2, p2⟩ := hh
    refine ⟨f2, h2, ps, s2.sim, sr2, (PostS.bind (R1 := RW X.K) s2.sim sr2 p2).mono (fun v3 H3 hh => ?_) fun _ _ _ e => e⟩
    obtain ⟨f3, h3, x3, s3, sr3, q3, p3⟩ := hh
    exact ⟨v1, v2, v3, rfl, p3 f3 H3 _ (.refl s3.sim) (((sr3.set i (s3.rep s2.sim (s2.rep s1.sim q1))).set j (s3.rep s2.sim q2)).set l q3)⟩
@[simp] theorem to_par3 {i j l : Nat} {ps : LS} {h : PH} {N B C : LS → PH → Prop} {R : W → PH → Prop} : (sPar3 m1 m2 m3 i j l ps h).To N R B C = (m1 ps h).To fun x h1 => (m2 ps h1).To fun y h2 => (m3 ps h2).To fun z h3 => N (((ps.set i (some x)).set j (some y)).set l (some z)) h3 := by
  simp [sPar3]
end
end Mir

/-! Mir: dict of a list of pairs -/
namespace Mir
open PySem PySem.Spec PyProof.Rows L2
def pairsK : List W → Option (List (Key × W))
  | [] => some []
  | .tup [k, v] :: r => match keyW k, pairsK r with
    | some k, some s => some ((k, v) :: s)
    | _, _ => none
  | _ => none
def wDictP (x : W) (h : PH) : Option (W × PH) := match lstOf x h with
  | some ws => (pairsK ws).map fun kvs => (.ref h.length, h ++ [.dK (mergeW [] kvs)])
  | none => none
section
variable {K : PySem.W.Frag}
def rDictP (K : PySem.W.Frag) : List V → Hp → VK → Prop := fun xs H Q => ∃ (a : Addr) (ps : List Addr) (kvs : List (Key × V)), xs = [.ref a] ∧ SqL K H a (ps.map V.ref) ∧ Paired (fun p kv => SqT K H p [kV kv.1, kv.2]) ps kvs ∧
    ∀ p, H p = none → Q (.ref p) (upd H p (.dK (mergeK [] kvs)))
theorem pairs_repK {f : List Addr} {H : Hp} : ∀ {ws : List W} {ys : List V} {kws : List (Key × W)}, pairsK ws = some kws → Reps K f H ws ys →
    ∃ (ps : List Addr) (us : List (Key × V)), ys = ps.map V.ref ∧ Paired (fun p kv => SqT K H p [kV kv.1, kv.2]) ps us ∧ KRep K f H kws us
  | [], ys, kws, e, r => by
    cases e
    have := r.nil_inv
    subst this
    exact ⟨[], [], rfl, .nil, rfl⟩
  | w :: t, ys, kws, e, r => by
    unfold pairsK at e
    split at e
    · rename_i z
      cases z
    · rename_i k v t' hw
      obtain ⟨rfl, rfl⟩ := List.cons.inj hw
      split at e
      · rename_i k' s ek es
        cases e
        obtain ⟨y, ys', rfl, ry, rt⟩ := r.cons_inv
        obtain ⟨ps, us, rfl, hp, kr⟩ := pairs_repK es rt
        obtain ⟨a, vs, rfl, h1, h2⟩ := rep_tup.mp ry
        obtain ⟨v1, t1, rfl, a1, a2⟩ := h2.cons_inv
        obtain ⟨v2, rfl, b1⟩ := a2.one_inv
        rw [key_rep ek a1] at h1
        exact ⟨a :: ps, (k', v2) :: us, rfl, .cons h1 hp, v2, us, rfl, b1, kr⟩
      · cases e
    · cases e
theorem q_dictP : OpV K (RW K) (rDictP K) wDictP := by
  intro f h H x v Q E s r p
  unfold wDictP at p
  split at p
  · rename_i ws e
    obtain ⟨a, ys, rfl, hs, rr⟩ := lstOf_rep s r e
    cases ek : pairsK ws with
    | none => rw [ek] at p; exact p.elim
    | some kws =>
      rw [ek] at p
      obtain ⟨ps, us, rfl, hp, kr⟩ := pairs_repK ek rr
      refine ⟨a, ps, us, rfl, hs, hp, fun q hq => ?_⟩
      have st := s.other (o := .dK (mergeK [] us)) hq
      refine p (f ++ [q]) _ _ (st.take_in hq (s.fresh hq) ⟨_, upd_same, KRep.mono (.refl f) (s.stay st.grow) _ _ (merge_rep kr rfl)⟩) ?_
      simp only [Rep]
      refine ⟨q, rfl, ?_⟩
      rw [List.getElem?_append_right (by rw [s.len]; omega), s.len]
      simp
  · exact p.elim
end
section
variable {Q : W → PH → Prop} {h : PH}
@[simp] theorem to_dictP {ws : List W} : PTo (wDictP (.fix ws) h) Q = OTo (pairsK ws) fun kvs => Q (.ref h.length) (h ++ [.dK (mergeW [] kvs)]) := by
  simp only [wDictP, lstOf_fix]
  cases pairsK ws <;> simp
end
end Mir

/-! Mir: dicts that are walked: locked on the way -/
namespace Mir
open PySem PySem.Spec PyProof.Rows L2
section
variable {K : PySem.W.Frag} {f f1 : List Addr} {h h1 : PH} {H H1 : Hp} {d : Addr} {od : Obj} {n : Nat}
theorem stay_lockD {us : List (Key × V)} (e : H d = some (.dK us)) : Stay K H (upd H d (.frz od (.dK us))) := by
  have key : ∀ a u, H a = some u → (∀ xs, u ≠ .dK xs) → upd H d (.frz od (.dK us)) a = some u := fun a u e2 n => by
    rw [upd_ne (fun z => by subst z; rw [e] at e2; cases e2; exact n _ rfl)]
    exact e2
  refine ⟨fun a xs r => ?_, fun a xs r => ?_, fun a φ r => key _ _ r (fun _ z => by cases z), fun a gs r => key _ _ r (fun _ z => by cases z)⟩
  · rcases r with (r | ⟨o, r⟩) | r
    · exact .inl (.inl (key _ _ r (fun _ z => by cases z)))
    · exact .inl (.inr ⟨o, key _ _ r (fun _ z => by cases z)⟩)
    · exact .inr r
  · rcases r with ⟨o, r⟩ | r
    · exact .inl ⟨o, key _ _ r (fun _ z => by cases z)⟩
    · exact .inr r
theorem stay_freeD {us us' : List (Key × V)} (e : H d = some (.frz od (.dK us))) : Stay K H (upd H d (.dK us')) := by
  have key : ∀ a u, H a = some u → (∀ o xs, u ≠ .frz o (.dK xs)) → upd H d (.dK us') a = some u := fun a u e2 n => by
    rw [upd_ne (fun z => by subst z; rw [e] at e2; cases e2; exact n _ _ rfl)]
    exact e2
  refine ⟨fun a xs r => ?_, fun a xs r => ?_, fun a φ r => key _ _ r (fun _ _ z => by cases z), fun a gs r => key _ _ r (fun _ _ z => by cases z)⟩
  · rcases r with (r | ⟨o, r⟩) | r
    · exact .inl (.inl (key _ _ r (fun _ _ z => by cases z)))
    · exact .inl (.inr ⟨o, key _ _ r (fun _ _ z => by cases z)⟩)
    · exact .inr r
  · rcases r with ⟨o, r⟩ | r
    · exact .inl ⟨o, key _ _ r (fun _ _ z => by cases z)⟩
    · exact .inr r
theorem Sim.lockD {kvs : List (Key × W)} {us : List (Key × V)} (s : Sim K f h H) (hf : f[n]? = some d) (e : H d = some (.dK us)) (r : KRep K f H kvs us) : Sim K f (h.set n (.lk kvs)) (upd H d (.frz od (.dK us))) := by
  have st : Stay K H (upd H d (.frz od (.dK us))) := stay_lockD e
  refine ⟨by rw [List.length_set]; exact s.len, s.nd, fun m o em => ?_⟩
  by_cases hm : n = m
  · subst hm
    have hl : n < h.length := by rw [← s.len]; exact (List.getElem?_eq_some_iff.mp hf).1
    rw [List.getElem?_set_self hl] at em
    cases em
    exact ⟨d, hf, od, us, upd_same, KRep.mono (.refl f) st _ _ r⟩
  · rw [List.getElem?_set_ne hm] at em
    obtain ⟨b, h1, h2⟩ := s.obj m o em
    exact ⟨b, h1, h2.mono (.refl f) st (upd_ne fun z => hm (nd_inj s.nd hf (z ▸ h1)))⟩
theorem Step.freeD {us : List (Key × V)} {kvs : List (Key × W)} (hf : f[n]? = some d) (e : H d = some (.dK us)) (st : Step K f (upd H d (.frz od (.dK us))) f1 h1 H1) (en : h1[n]? = some (.lk kvs)) : H1 d = some (.frz od (.dK us)) ∧ Step K f H f1 (h1.set n (.dK kvs)) (upd H1 d (.dK us)) := by
  have e1 : H1 d = some (.frz od (.dK us)) := st.lk _ _ _ upd_same
  have hd : d ∈ f := List.mem_of_getElem? hf
  have hf1 : f1[n]? = some d := st.ext.get hf
  have sty : Stay K H1 (upd H1 d (.dK us)) := stay_freeD e1
  refine ⟨e1, st.ext, fun x hx hn => ?_, fun a u ea na => ?_, fun a o vs ea => ?_, by rw [List.length_set]; exact st.sim.len, st.sim.nd, fun m o em => ?_⟩
  · have := st.new x hx hn
    rwa [upd_ne (fun z => hn (by rw [z]; exact hd))] at this
  · have hne : a ≠ d := fun z => na (z ▸ hd)
    rw [upd_ne hne]
    exact st.grow a u (by rw [upd_ne hne]; exact ea) na
  · have hne : a ≠ d := fun z => by rw [z, e] at ea; cases ea
    rw [upd_ne hne]
    exact st.lk a o vs (by rw [upd_ne hne]; exact ea)
  · by_cases hm : n = m
    · subst hm
      have hl : n < h1.length := by rw [← st.sim.len]; exact (List.getElem?_eq_some_iff.mp hf1).1
      rw [List.getElem?_set_self hl] at em
      cases em
      obtain ⟨b, b1, o', us', b2, b3⟩ := st.sim.obj n _ en
      rw [hf1] at b1
      cases b1
      rw [e1] at b2
      cases b2
      exact ⟨d, hf1, us, upd_same, KRep.mono (.refl f1) sty _ _ b3⟩
    · rw [List.getElem?_set_ne hm] at em
      obtain ⟨b, b1, b2⟩ := st.sim.obj m o em
      exact ⟨b, b1, b2.mono (.refl f1) sty (upd_ne fun z => hm (nd_inj st.sim.nd hf1 (z ▸ b1)))⟩
end
/-- a list that is made while the dict that `look` names is walked -/
def lkL (look : LS → PH → Option Nat) (l : LM) : LM := fun ps h => match look ps h with
  | some n => match h[n]? with
    | some (.dK kvs) => match l ps (h.set n (.lk kvs)) with
      | .ok xs h1 => match h1[n]? with
        | some (.lk kvs') => .ok xs (h1.set n (.dK kvs'))
        | _ => .stuck
      | _ => .stuck
    | _ => .stuck
  | none => .stuck
theorem sl_lock {X : Cx} {W0 : WX} {e : Expr} {l : LM} (look : LS → PH → Option Nat) (ha : SL X W0 e l) : SL X W0 e (lkL look l) := pe_imp (pe_lock ha) fun σ H Q h => by
  obtain ⟨f, h, ps, s, sr, p⟩ := h
  unfold lkL at p
  split at p
  · rename_i n _
    split at p
    · rename_i kvs en
      split at p
      · rename_i xs h1 el
        split at p
        · rename_i kvs' en'
          obtain ⟨d, hf, us, e1, r1⟩ := s.obj n _ en
          refine ⟨d, .dK us, e1, trivial, fun od => ⟨f, h.set n (.lk kvs), ps, s.lockD hf e1 r1, sr.mono (.refl f) (stay_lockD e1), ?_⟩⟩
          rw [el]
          intro f1 H1 v s1 q1
          obtain ⟨k1, k2⟩ := s1.freeD hf e1 en'
          refine ⟨k1, p f1 _ v k2 ?_⟩
          obtain ⟨q, vs, rfl, hq, nq, eq, rq⟩ := q1
          have hne : q ≠ d := fun z => by rw [z, upd_same] at hq; cases hq
          refine ⟨q, vs, rfl, by rwa [upd_ne hne] at hq, nq, by rw [upd_ne hne]; exact eq, Reps.mono (.refl f1) (stay_freeD k1) _ _ rq⟩
        · exact p.elim
      · exact p.elim
    · exact p.elim
  · exact p.elim
/-- the dict in a slot -/
def lkV (i : Nat) : LS → PH → Option Nat := fun ps _ => match ps[i]? with
  | some (some (.ref n)) => some n
  | _ => none
/-- the dict in a field of the object in a slot -/
def lkF (i : Nat) (f : Str) : LS → PH → Option Nat := fun ps h => match ps[i]? with
  | some (some (.ref n)) => match h[n]? with
    | some (.ins _ fs) => match fs.lookup f with
      | some (.ref m) => some m
      | _ => none
    | _ => none
  | _ => none
/-- for k, v in d.items() -/
def itemsOf (x : W) (h : PH) : Option PIt := match x with
  | .ref n => match h[n]? with
    | some (.lk kvs) => some (itS (kvs.map fun p => .tup [wKey p.1, p.2]))
    | _ => none
  | _ => none
def mItems (m : EM) : IM := fun ps h => (m ps h).bind fun x h1 => match itemsOf x h1 with
  | some it => .ok it h1
  | none => .stuck
section
variable {X : Cx} {W0 : WX} {e tg : Expr} {m : EM} {apos cpos tpos : Pos} {elts : List Expr} {kk : Nat} {K : PySem.W.Frag}
theorem it_items {f : List Addr} {h : PH} {H H0 : Hp} {d : Addr} {o : Obj} {us : List (Key × V)} {kvs : List (Key × W)} (s : Sim K f h H) (hd : H d = some (.frz o (.dK us))) (r : KRep K f H kvs us) : RIt K H0 f H (itS (kvs.map fun p => .tup [wKey p.1, p.2])) (Iti d o us) := by
  intro f2 h2 H2 i s2
  have q2 := s2.lk _ _ _ hd
  have r2 : KRep K f2 H2 kvs us := KRep.mono s2.ext (s2.stay s) _ _ r
  show match (some (kvs.map fun p => W.tup [wKey p.1, p.2])[i]? : Option (Option W)) with
    | none => True
    | some none => (Iti d o us).stop i H2
    | some (some w) => (Iti d o us).go i H2 ∧ ∀ x H', (Iti d o us).yld i H2 x H' → Step K f2 H2 f2 h2 H' ∧ Rep K f2 H' w x
  rw [List.getElem?_map]
  cases e : kvs[i]? with
  | none => exact ⟨q2, by rw [← r.length]; exact List.getElem?_eq_none_iff.mp e⟩
  | some w =>
    obtain ⟨k, w⟩ := w
    refine ⟨⟨q2, by rw [← r.length]; exact (List.getElem?_eq_some_iff.mp e).1⟩, fun x H' y => ?_⟩
    obtain ⟨T, k', v', e', rfl, hT, rfl⟩ := y
    obtain ⟨v, ev, rv⟩ := r2.getK e
    rw [ev] at e'
    obtain ⟨g1, g2⟩ := Prod.mk.inj (Option.some.inj e')
    subst g1
    subst g2
    have st := s2.sim.other (o := .tup [kV k, v]) hT
    exact ⟨st, rep_tup.mpr ⟨T, _, rfl, SqT.of upd_same, .cons rep_key (.one (st.rep s2.sim rv))⟩⟩
theorem si_items (ha : SE X W0 e m) (hbase : attributeBase e "items" X.env (eval e X.env) = eval e X.env := by rfl) (hline : (apos.endLine == cpos.line) = true := by rfl) :
    SI X W0 (.Tuple elts kk tpos) (.Call (.Attribute e "items" apos) [] [] cpos) (mItems m) := pi_imp (pi_items ha hbase hline) fun σ H R h => by
  obtain ⟨f, h, ps, s, sr, p⟩ := h
  refine ⟨f, h, ps, s, sr, ?_⟩
  have p : Post X.K (RIt X.K) f H ((m ps h).bind _) R _ := p
  cases e1 : m ps h with
  | stuck => rw [e1] at p; exact p.elim
  | exc x h1 => rw [e1] at p; exact p
  | ok x h1 =>
    rw [e1] at p
    intro f1 H1 v s1 q1
    have p : Post X.K (RIt X.K) f H (match itemsOf x h1 with
      | some it => .ok it h1
      | none => .stuck) R _ := p
    cases x with
    | ref n =>
      cases e2 : h1[n]? with
      | none => simp only [itemsOf, e2] at p; exact p.elim
      | some o =>
        cases o with
        | lk kvs =>
          simp only [itemsOf, e2] at p
          obtain ⟨a, rfl, hf, o, vs, h2, h3⟩ := s1.sim.at e2 q1
          exact ⟨a, o, vs, rfl, h2, p f1 H1 _ s1 (it_items s1.sim h2 h3)⟩
        | _ => simp only [itemsOf, e2] at p; exact p.elim
    | _ => exact p.elim
end
section
variable {ps : LS} {h : PH} {Ql : List W → PH → Prop} {Qi : PIt → PH → Prop} {l : LM} {m : EM} {n : Nat} {look : LS → PH → Option Nat}
theorem to_lock {kvs : List (Key × W)} (e : look ps h = some n) (en : h[n]? = some (.dK kvs)) (q : (l ps (h.set n (.lk kvs))).To fun xs g => ∃ kvs', g[n]? = some (.lk kvs') ∧ Ql xs (g.set n (.dK kvs'))) : (lkL look l ps h).To Ql := by
  obtain ⟨xs, g, e1, kvs', e2, e3⟩ := q.is
  unfold lkL
  rw [e]
  simp only [en, e1, e2, to_ok]
  exact e3
@[simp] theorem to_items : (mItems m ps h).To Qi = (m ps h).To fun x g => OTo (itemsOf x g) fun it => Qi it g := by
  simp only [mItems, to_bind]
  congr 1
  funext x g
  cases itemsOf x g <;> simp
theorem items_lk {kvs : List (Key × W)} {g : PH} (e : g[n]? = some (.lk kvs)) : itemsOf (.ref n) g = some (itS (kvs.map fun p => .tup [wKey p.1, p.2])) := by simp only [itemsOf, e]
theorem keys_lk {kvs : List (Key × W)} {g : PH} {fuel : Nat} (e : g[n]? = some (.lk kvs)) : iterOf fuel (.ref n) g = some (itS (kvs.map fun p => wKey p.1)) := by simp only [iterOf, e]
end
end Mir

/-! Mir: zip of two -/
namespace Mir
open PySem PySem.Spec PyProof.Rows L2 RZ
def lstIt (fuel : Nat) (x : W) (h : PH) : Option PIt := match x with
  | .fix xs => some (itS xs)
  | .ref n => match h[n]? with
    | some (.lst _) => some (itL n fuel)
    | _ => none
  | _ => none
def zipOf (fuel : Nat) (x y : W) (h : PH) : Option PIt := match x, y with
  | .tup xs, .tup ys => some (itZ (itS xs) (itS ys))
  | x, y => match lstIt fuel x h, lstIt fuel y h with
    | some a, some b => some (itZ a b)
    | _, _ => none
def mZipA (fuel : Nat) (m n : EM) : IM := fun ps h => (m ps h).bind fun x h1 => (n ps h1).bind fun y h2 => match zipOf fuel x y h2 with
  | some it => .ok it h2
  | none => .stuck
section
variable {K : PySem.W.Frag} {X : Cx} {W0 : WX} {e e2 : Expr} {m m2 : EM} {p pos tpos : Pos} {elts : List Expr} {kk : Nat}
theorem itZ_t {f : List Addr} {H H0 : Hp} {a b : Addr} {ia ib : PIt} (ha : RIt K H0 f H ia (Itt K a)) (hb : RIt K H0 f H ib (Itt K b)) : RIt K H0 f H (itZ ia ib) (ItzT K a b) := by
  intro f2 h2 H2 i s2
  have qa := ha f2 h2 H2 i s2
  have qb := hb f2 h2 H2 i s2
  unfold itZ
  dsimp only
  cases ea : ia.get i h2 with
  | none => trivial
  | some oa =>
    rw [ea] at qa
    cases eb : ib.get i h2 with
    | none => cases oa <;> trivial
    | some ob =>
      rw [eb] at qb
      cases oa with
      | none =>
        obtain ⟨xs, x1, x2⟩ := qa
        cases ob with
        | none =>
          obtain ⟨ys, y1, y2⟩ := qb
          exact ⟨xs, ys, x1, y1, .inl x2⟩
        | some y =>
          obtain ⟨⟨ys, v, y1, y2⟩, _⟩ := qb
          exact ⟨xs, ys, x1, y1, .inl x2⟩
      | some x =>
        obtain ⟨⟨xs, u, x1, x2⟩, x3⟩ := qa
        cases ob with
        | none =>
          obtain ⟨ys, y1, y2⟩ := qb
          exact ⟨xs, ys, x1, y1, .inr y2⟩
        | some y =>
          obtain ⟨⟨ys, v, y1, y2⟩, y3⟩ := qb
          refine ⟨⟨xs, ys, u, v, x1, y1, x2, y2⟩, fun z H' q => ?_⟩
          obtain ⟨T, u', v', rfl, hT, rfl, q1, q2⟩ := q
          have r1 := (x3 u' H2 ⟨rfl, q1⟩).2
          have r2 := (y3 v' H2 ⟨rfl, q2⟩).2
          have st := s2.sim.other (o := .tup [u', v']) hT
          exact ⟨st, rep_tup.mpr ⟨T, _, rfl, SqT.of upd_same, .cons (st.rep s2.sim r1) (.one (st.rep s2.sim r2))⟩⟩
theorem itZ_l {f : List Addr} {H H0 : Hp} {a b : Addr} {ia ib : PIt} (ha : RIt K H0 f H ia (Itl K a)) (hb : RIt K H0 f H ib (Itl K b)) : RIt K H0 f H (itZ ia ib) (Itz K a b) := by
  intro f2 h2 H2 i s2
  have qa := ha f2 h2 H2 i s2
  have qb := hb f2 h2 H2 i s2
  unfold itZ
  dsimp only
  cases ea : ia.get i h2 with
  | none => trivial
  | some oa =>
    rw [ea] at qa
    cases eb : ib.get i h2 with
    | none => cases oa <;> trivial
    | some ob =>
      rw [eb] at qb
      cases oa with
      | none =>
        obtain ⟨xs, x1, x2⟩ := qa
        cases ob with
        | none =>
          obtain ⟨ys, y1, y2⟩ := qb
          exact ⟨xs, ys, x1, y1, .inl x2⟩
        | some y =>
          obtain ⟨⟨ys, v, y1, y2⟩, _⟩ := qb
          exact ⟨xs, ys, x1, y1, .inl x2⟩
      | some x =>
        obtain ⟨⟨xs, u, x1, x2⟩, x3⟩ := qa
        cases ob with
        | none =>
          obtain ⟨ys, y1, y2⟩ := qb
          exact ⟨xs, ys, x1, y1, .inr y2⟩
        | some y =>
          obtain ⟨⟨ys, v, y1, y2⟩, y3⟩ := qb
          refine ⟨⟨xs, ys, u, v, x1, y1, x2, y2⟩, fun z H' q => ?_⟩
          obtain ⟨T, u', v', rfl, hT, rfl, q1, q2⟩ := q
          have r1 := (x3 u' H2 ⟨rfl, q1⟩).2
          have r2 := (y3 v' H2 ⟨rfl, q2⟩).2
          have st := s2.sim.other (o := .tup [u', v']) hT
          exact ⟨st, rep_tup.mpr ⟨T, _, rfl, SqT.of upd_same, .cons (st.rep s2.sim r1) (.one (st.rep s2.sim r2))⟩⟩
theorem lstIt_rep {f : List Addr} {h : PH} {H H0 : Hp} {fuel : Nat} {x : W} {v : V} {it : PIt} (s : Sim K f h H) (r : Rep K f H x v) (e : lstIt fuel x h = some it) : ∃ a xs, v = .ref a ∧ SqL K H a xs ∧ RIt K H0 f H it (Itl K a) := by
  cases x with
  | fix xs =>
    cases e
    obtain ⟨a, vs, rfl, h2, h3⟩ := rep_fix.mp r
    exact ⟨a, vs, rfl, h2.seq, it_lst s (fix_later s h2) h3⟩
  | ref n =>
    simp only [lstIt] at e
    split at e
    · rename_i xs en
      cases e
      obtain ⟨a, rfl, hf, vs, h2, h3⟩ := s.at en r
      exact ⟨a, vs, rfl, SqL.of h2, it_live hf⟩
    · cases e
  | _ => cases e
theorem si_zipA (fuel : Nat) (hm : X.mg "zip" = none) (ha : SE X W0 e m) (hb : SE X W0 e2 m2) (hg : Gl X "zip" := by rfl) (hs : starEach [e, e2] X.env = (false, eval e X.env) :: starEach [e2] X.env := by rfl) (hs2 : starEach [e2] X.env = [(false, eval e2 X.env)] := by rfl) :
    SI X W0 (.Tuple elts kk tpos) (.Call (.Name "zip" p) [e, e2] [] pos) (mZipA fuel m m2) := pi_imp (pi_zipA hg hm (pa_cons ha (pa_cons hb pa_nil hs2) hs) hs (by rw [hs2]; rfl)) fun σ H R h => by
  obtain ⟨f, h, ps, s, sr, p⟩ := h
  refine ⟨f, h, ps, s, sr, (Post.bind (R1 := RW X.K) s back_It p).mono (fun v H1 hh => ?_) fun _ _ _ e => e⟩
  obtain ⟨f1, h1, x, s1, q1, p1⟩ := hh
  refine ⟨f1, h1, ps, s1.sim, s1.srep s sr, (Post.bind (R1 := RW X.K) s1.sim back_It p1).mono (fun u H2 hh => ?_) fun _ _ _ e => e⟩
  obtain ⟨f2, h2, y, s2, q2, p2⟩ := hh
  have q1 := s2.rep s1.sim q1
  cases ez : zipOf fuel x y h2 with
  | none => rw [ez] at p2; exact p2.elim
  | some it =>
    rw [ez] at p2
    by_cases ht : ∃ xs ys, x = .tup xs ∧ y = .tup ys
    · obtain ⟨xs, ys, rfl, rfl⟩ := ht
      cases ez
      obtain ⟨a, vs, rfl, a2, a3⟩ := rep_tup.mp q1
      obtain ⟨b, us, rfl, b2, b3⟩ := rep_tup.mp q2
      exact ⟨a, b, vs, us, rfl, .inr ⟨a2, b2, p2 f2 H2 _ (.refl s2.sim) (itZ_t (it_tup s2.sim a2 a3) (it_tup s2.sim b2 b3))⟩⟩
    · have ez : (match lstIt fuel x h2, lstIt fuel y h2 with
        | some a, some b => some (itZ a b)
        | _, _ => none) = some it := by
        unfold zipOf at ez
        split at ez
        · exact absurd ⟨_, _, rfl, rfl⟩ ht
        · exact ez
      split at ez
      · rename_i ia ib ea eb
        cases ez
        obtain ⟨a, xs, rfl, a2, a3⟩ := lstIt_rep s2.sim q1 ea
        obtain ⟨b, ys, rfl, b2, b3⟩ := lstIt_rep s2.sim q2 eb
        exact ⟨a, b, xs, ys, rfl, .inl ⟨a2, b2, p2 f2 H2 _ (.refl s2.sim) (itZ_l a3 b3)⟩⟩
      · cases ez
end
section
variable {ps : LS} {h : PH} {Qi : PIt → PH → Prop} {m m2 : EM} {n : Nat}
@[simp] theorem to_zipA : (mZipA n m m2 ps h).To Qi = (m ps h).To fun x g => (m2 ps g).To fun y g => OTo (zipOf n x y g) fun it => Qi it g := by
  simp only [mZipA, to_bind]
  congr 1
  funext x g
  congr 1
  funext y g
  cases zipOf n x y g <;> simp
@[simp] theorem zip_tup {xs ys : List W} : zipOf n (.tup xs) (.tup ys) h = some (itZ (itS xs) (itS ys)) := rfl
end
end Mir

/-! Mir: x[::-1] of a tuple or a list, as a value. -/
namespace Mir
open PySem PySem.Spec PyProof.Rows L2
section
variable {prog : Program} {w : World} {A : Around} {E : Value → Shared → Prop} {s : Shared}
theorem places_rev (n : Nat) : Builtin.Slice.slicePlaces ((n : Int) - 1) (-1) (-1) = n := by
  unfold Builtin.Slice.slicePlaces
  have h1 : ¬ ((-1 : Int) > 0) := by decide
  simp only [h1, if_false]
  by_cases h : (n : Int) - 1 > -1
  · simp only [h, if_true]
    rw [show (- -1 : Int) = 1 by decide, Int.ediv_one]
    omega
  · simp only [h, if_false]
    omega
theorem sliceApplied_rev {sl : Addr} {vl vu vs : Value} {n : Nat} {Q : Int × Int × Nat → Shared → Prop} (hs : s.heap.IsSliceOf sl vl vu vs) (pl : IsPart vl none) (pu : IsPart vu none) (ps : IsPart vs (some (-1)))
    (h : Q ((n : Int) - 1, -1, n) s) : wpAny (model prog w) A (Builtin.Slice.sliceApplied (.ref sl) (pure (n : Int))) Q E s := by
  obtain ⟨os, hos, hcs, hds⟩ := id hs
  unfold Builtin.Slice.sliceApplied Builtin.Slice.sliceFields
  refine wpAny_bind (wpAny_bind (wpAny_field hos hds (x := vl) rfl (wpAny_bind (wpAny_field hos hds (x := vu) rfl (wpAny_bind (wpAny_field hos hds (x := vs) rfl (wpAny_pure ?_)))))))
  refine wpAny_bind (HT.slicePart_ ps ?_)
  show wpAny _ _ (if ((-1 : Int) == 0) = true then _ else _) _ _ s
  rw [if_neg (by decide)]
  refine wpAny_bind (HT.slicePart_ pl (wpAny_bind (HT.slicePart_ pu (wpAny_bind (wpAny_pure ?_)))))
  show wpAny _ _ (match Builtin.Slice.sliceAdjust none none (-1) (n : Int) with | (lo, hi) => pure (lo, (-1 : Int), Builtin.Slice.slicePlaces lo hi (-1))) _ _ s
  show wpAny _ _ (pure ((n : Int) - 1, (-1 : Int), Builtin.Slice.slicePlaces ((n : Int) - 1) (-1) (-1))) _ _ s
  rw [places_rev]
  exact wpAny_pure h
theorem pick_rev (xs : Array Value) : ((List.range xs.size).filterMap fun (m : Nat) => xs[(((xs.size : Int) - 1) + (m : Int) * (-1)).toNat]?).toArray = xs.toList.reverse.toArray := by
  have e : (fun (m : Nat) => xs[(((xs.size : Int) - 1) + (m : Int) * (-1)).toNat]?) = fun m => xs[(fun k => xs.size - 1 - k) m]? := by
    funext m
    have : (((xs.size : Int) - 1) + (m : Int) * (-1)).toNat = xs.size - 1 - m := by omega
    rw [this]
  rw [e]
  have e2 : (List.range xs.size).filterMap (fun m => xs[(fun k => xs.size - 1 - k) m]?) = ((List.range xs.size).map fun k => xs.size - 1 - k).filterMap (xs[·]?) := by
    rw [List.filterMap_map]
    rfl
  rw [e2, PySem.W.krv_range, List.filterMap_reverse, PySem.W.krv_all]
theorem getItem_tuple_rev {t sl : Addr} {items : Array Value} {vl vu vs : Value} {Q : Value → Shared → Prop} (ht : IsTup s.heap t items) (hs : s.heap.IsSliceOf sl vl vu vs) (pl : IsPart vl none) (pu : IsPart vu none) (ps : IsPart vs (some (-1)))
    (h : Q (.ref s.heap.objs.size) { s with heap := s.heap.push { cls := .type "tuple", data := .seq items.toList.reverse.toArray } })
    (hsz : items.size ≤ sizeLine) : wpAny (model prog w) A (getItem (.ref t) (.ref sl)) Q E s := by
  have htake : sizeOk (.seq items.toList.reverse.toArray) := by
    show items.toList.reverse.toArray.size ≤ sizeLine
    rw [List.size_toArray, List.length_reverse, Array.length_toList]
    exact hsz
  obtain ⟨os, hos, hcs, hds⟩ := id hs
  have hTs : s.TypeIs (.ref sl) "slice" := ⟨os, hos, hcs⟩
  unfold getItem
  try with_reducible refine wpAny_holding ?_
  first | refine wpAny_bind (wpAny_pure ?_) | skip
  refine wpAny_bind (wpAny_sequenceKey ht.typeIs (by decide) ?_)
  refine wpAny_bind (wpAny_callSpecial?_slot (name := Str.ofString "__getitem__") ht.typeIs PyProof.Rows.slot_tuple_getitem
    (wpAny_call_entry PyProof.Rows.slot_tuple_getitem ht.typeIs entry_tuple_getitem ?_ (args_tuple_getitem _ _)))
  show wpAny _ _ (Builtin.Tuple.tupleItemsOf (.ref t) >>= _) _ _ s
  refine wpAny_bind (tupleItemsOf_ ht ?_)
  refine wpAny_bind (wpAny_typeOf hTs ?_)
  rw [if_pos (by decide)]
  refine wpAny_bind (sliceApplied_rev (n := items.size) hs pl pu ps ?_)
  have hno : ¬ (((((items.size : Int) - 1)) == 0 && (-1 : Int) == 1 && items.size == items.size) = true) := by
    intro q
    rw [Bool.and_eq_true, Bool.and_eq_true] at q
    exact absurd q.1.2 (by decide)
  show wpAny _ _ (if (((items.size : Int) - 1) == 0 && (-1 : Int) == 1 && items.size == items.size) = true then _ else _) _ _ s
  rw [if_neg hno, pick_rev]
  first
    | exact wpAny_bind (m := Builtin.Tuple.tupleExact _) (wpAny_newObj_type (wpAny_pure ⟨_, rfl, wpAny_pure h⟩) htake)
    | exact wpAny_bind (m := Builtin.Tuple.tupleExact _) (wpAny_newObj_type (wpAny_bind (wpAny_pure (wpAny_pure ⟨_, rfl, wpAny_pure h⟩))) htake)
    | exact wpAny_bind (wpAny_bind (m := Builtin.Tuple.tupleExact _) (wpAny_newObj_type (wpAny_pure (wpAny_pure ⟨_, rfl, wpAny_pure h⟩)) htake))
    | exact wpAny_bind (wpAny_bind (m := Builtin.Tuple.tupleExact _) (wpAny_newObj_type (wpAny_pure ⟨_, rfl, wpAny_pure h⟩) htake))
end
section
variable {X : Cx}
def tRevA (K : PySem.W.Frag) (te : TE) : TE := fun σ H Q => te σ H fun x H1 => ∃ a xs, x = .ref a ∧ ((SqL K H1 a xs ∧ ∀ p, H1 p = none → Q (.ref p) (upd H1 p (.lst xs.reverse))) ∨ (SqT K H1 a xs ∧ ∀ p, H1 p = none → Q (.ref p) (upd H1 p (.tup xs.reverse))))
theorem pe_revA {e : Expr} {te : TE} {k : Nat} {p1 p2 p3 pos : Pos} (he : PE X e te) : PE X (.Subscript e (.Slice none none (some (.UnaryOp .USub (.Constant (.int 1) k p1) p2)) p3) pos) (tRevA X.K te) := by
  refine ⟨fun pins s σ H Q I h => ?_⟩
  refine Subscript_ (thn (he.run pins s σ H _ I h) fun v s1 ⟨x, H1, I1, r1, q1⟩ => ?_)
  obtain ⟨a, xs, ex, q⟩ := q1
  subst ex
  cases r1
  have hst : PO X (some (.UnaryOp .USub (.Constant (.int 1) k p1) p2)) (tPart (tUn (rU fun i => .int (-i)) (tC (.int 1)))) := po_some (pe_un un_neg pe_int)
  refine wpAny_Slice (thn (po_none.run pins s1 σ H1 (fun o H2 => o = none ∧ H2 = H1) I1 ⟨rfl, rfl⟩) fun vl s2 ⟨l, H2, I2, pl, el, e2⟩ => ?_)
  subst el e2
  refine thn (po_none.run pins s2 σ H2 (fun o H3 => o = none ∧ H3 = H2) I2 ⟨rfl, rfl⟩) fun vu s3 ⟨u, H3, I3, pu, eu, e3⟩ => ?_
  subst eu e3
  refine thn (hst.run pins s3 σ H3 (fun o H4 => o = some (-1) ∧ H4 = H3) I3 ⟨1, rfl, -1, rfl, rfl, rfl⟩) fun vs s4 ⟨o, H4, I4, ps, eo, e4⟩ => ?_
  subst eo e4
  have I5 : Inv X pins σ H4 { s4 with heap := s4.heap.push { cls := .type "slice", data := .fields #[vl, vu, vs] } } := I4.kept (t' := s4.toks) fun b ob q => Heap.get?_push_of_some _ q
  show wpAny (model X.prog X.w) X.A (subscriptTail e (.Slice none none (some (.UnaryOp .USub (.Constant (.int 1) k p1) p2)) p3) (.ref a) (.ref s4.heap.objs.size)) (EP X pins σ Q) X.xe { s4 with heap := s4.heap.push { cls := .type "slice", data := .fields #[vl, vu, vs] } }
  rcases q with ⟨hx, q⟩ | ⟨hx, q⟩
  · obtain ⟨its, r, ht, hz⟩ := I5.list hx
    have hlen := r.length
    refine tail_any (ops := [.ref a, .ref s4.heap.objs.size]) ht.isList.typeIs (PySem.slot_list_getitem.lookup) ?_ (by with_unfolding_all rfl)
    refine wpAny_getItem_list_slice ht.isList (Heap.IsSliceOf.new _ vl vu vs) pl pu ps (by decide) ?_ (by rw [List.size_toArray]; omega)
    rw [PySem.W.krv_pick]
    refine ⟨.ref _, _, I5.laid (t' := s4.toks) (o := .lst xs.reverse) (fun b ob q => Heap.get?_push_of_some _ q) (Nat.le_refl _) ?_, rfl, q _ (I5.hok.fresh (Nat.le_refl _))⟩
    exact ⟨by rw [List.length_reverse]; exact hz, _, 0, r.reverse, Heap.get?_push_size _ rfl⟩
  · obtain ⟨its, r, ht, hz⟩ := I5.tuple hx
    have hlen := r.length
    refine tail_any (ops := [.ref a, .ref s4.heap.objs.size]) ht.typeIs PyProof.Rows.slot_tuple_getitem.lookup ?_ (by with_unfolding_all rfl)
    refine getItem_tuple_rev ht (Heap.IsSliceOf.new _ vl vu vs) pl pu ps ?_ (by rw [List.size_toArray]; omega)
    refine ⟨.ref _, _, I5.laid (t' := s4.toks) (o := .tup xs.reverse) (fun b ob q => Heap.get?_push_of_some _ q) (Nat.le_refl _) ?_, rfl, q _ (I5.hok.fresh (Nat.le_refl _))⟩
    exact ⟨by rw [List.length_reverse]; exact hz, _, r.reverse, IsTup.new _ _⟩
end
def wRev : W → PH → Option (W × PH)
  | .tup xs, h => some (.tup xs.reverse, h)
  | .fix xs, h => some (.fix xs.reverse, h)
  | .ref n, h => match h[n]? with
    | some (.lst xs) => some (.fix xs.reverse, h)
    | _ => none
  | _, _ => none
section
variable {K : PySem.W.Frag} {X : Cx} {W0 : WX} {e : Expr} {m : EM} {p1 p2 p3 pos : Pos} {k : Nat}
theorem wRev_rule {f : List Addr} {h : PH} {H : Hp} {x : W} {v : V} {Q : VK} {E : XK} (s : Sim K f h H) (rx : Rep K f H x v) (p : Post K (RW K) f H (.ofO (wRev x h)) Q E) :
    ∃ a xs, v = .ref a ∧ ((SqL K H a xs ∧ ∀ p, H p = none → QF Q (.ref p) (upd H p (.lst xs.reverse))) ∨ (SqT K H a xs ∧ ∀ p, H p = none → QF Q (.ref p) (upd H p (.tup xs.reverse)))) := by
  cases x with
  | tup xs =>
    obtain ⟨a, vs, rfl, h1, h2⟩ := rep_tup.mp rx
    exact ⟨a, vs, rfl, .inr ⟨h1, fun q hq => .inl (post_tup s p h2.reverse hq)⟩⟩
  | fix xs =>
    obtain ⟨a, vs, rfl, h1, h2⟩ := rep_fix.mp rx
    exact ⟨a, vs, rfl, .inl ⟨h1.seq, fun q hq => post_fix s p h2.reverse hq⟩⟩
  | ref n =>
    simp only [wRev] at p
    split at p
    · rename_i xs hn
      obtain ⟨a, rfl, _, vs, h1, h2⟩ := s.at hn rx
      exact ⟨a, vs, rfl, .inl ⟨SqL.of h1, fun q hq => post_fix s p h2.reverse hq⟩⟩
    · exact p.elim
  | _ => exact p.elim
theorem se_rev (ha : SE X W0 e m) : SE X W0 (.Subscript e (.Slice none none (some (.UnaryOp .USub (.Constant (.int 1) k p1) p2)) p3) pos) (mUn wRev m) := pe_imp (pe_frz (pe_revA ha)) fun σ H Q h => by
  obtain ⟨f, h, ps, s, sr, p⟩ := h
  refine ⟨f, h, ps, s, sr, (Post.bind (R1 := RW X.K) s back_W p).mono (fun v H1 hh => ?_) fun _ _ _ e => e⟩
  obtain ⟨f1, h1, x, s1, q1, p1⟩ := hh
  exact wRev_rule s1.sim q1 p1
end
@[simp] theorem wRev_tup {xs : List W} {h : PH} : wRev (.tup xs) h = some (.tup xs.reverse, h) := rfl
@[simp] theorem wRev_fix {xs : List W} {h : PH} : wRev (.fix xs) h = some (.fix xs.reverse, h) := rfl
/-! ### in, where items are data of any depth -/
def inWD (x y : W) (h : PH) : Option Bool := match dat h x, dat h y with
  | some d, some (.list ds) => if SeqAt.shaped d = true ∧ SeqAt.shaped (.list ds) = true then some (ds.any fun z => PyData.eqv z d) else none
  | some d, some (.tuple ds) => if SeqAt.shaped d = true ∧ SeqAt.shaped (.tuple ds) = true then some (ds.any fun z => PyData.eqv z d) else none
  | _, _ => none
def wInD (x y : W) (h : PH) : Option (W × PH) := (inWD x y h).map fun b => (.bl b, h)
def wNotInD (x y : W) (h : PH) : Option (W × PH) := (inWD x y h).map fun b => (.bl (!b), h)
section
variable {X : Cx} {K : PySem.W.Frag}
def rInDA (K : PySem.W.Frag) (neg : Bool) : R2 := fun x y H Q => ∃ d ds, Dp K H x d ∧ (Dp K H y (.list ds) ∧ SeqAt.shaped (.list ds) = true ∨ Dp K H y (.tuple ds) ∧ SeqAt.shaped (.tuple ds) = true) ∧ SeqAt.shaped d = true ∧ Q (.bl (if neg then !(ds.any fun z => PyData.eqv z d) else ds.any fun z => PyData.eqv z d)) H
theorem o_inD {k : Nat} (hr : Room k X.A) : OpR X (compareOp .In) (rInDA X.K false) := by
  intro pins s σ H x y v u Q I rx ry h
  obtain ⟨d, ds, hd, he, sd, q⟩ := h
  have hu : X.A.units + 65 < cLine := by have := hr.un; omega
  obtain ⟨as, r1⟩ := Dp.reads I d x v hd rx
  rcases he with ⟨he, se⟩ | ⟨he, se⟩
  · obtain ⟨bs, r2⟩ := Dp.reads I (.list ds) y u he ry
    exact SeqAt.in_list_reads r2 r1 (SeqAt.canLay_of_shaped se) (SeqAt.canLay_of_shaped sd) (room_in_shaped sd hu) ⟨.bl _, H, I, rfl, q⟩
  · obtain ⟨bs, r2⟩ := Dp.reads I (.tuple ds) y u he ry
    exact SeqAt.in_tuple_reads r2 r1 (SeqAt.canLay_of_shaped se) (SeqAt.canLay_of_shaped sd) (room_in_shaped sd hu) ⟨.bl _, H, I, rfl, q⟩
theorem o_notInD {k : Nat} (hr : Room k X.A) : OpR X (compareOp .NotIn) (rInDA X.K true) := by
  intro pins s σ H x y v u Q I rx ry h
  obtain ⟨d, ds, hd, he, sd, q⟩ := h
  have hu : X.A.units + 65 < cLine := by have := hr.un; omega
  obtain ⟨as, r1⟩ := Dp.reads I d x v hd rx
  rcases he with ⟨he, se⟩ | ⟨he, se⟩
  · obtain ⟨bs, r2⟩ := Dp.reads I (.list ds) y u he ry
    exact SeqAt.notIn_list_reads r2 r1 (SeqAt.canLay_of_shaped se) (SeqAt.canLay_of_shaped sd) (room_in_shaped sd hu) ⟨.bl _, H, I, rfl, q⟩
  · obtain ⟨bs, r2⟩ := Dp.reads I (.tuple ds) y u he ry
    exact SeqAt.notIn_tuple_reads r2 r1 (SeqAt.canLay_of_shaped se) (SeqAt.canLay_of_shaped sd) (room_in_shaped sd hu) ⟨.bl _, H, I, rfl, q⟩
theorem p_inD_gen (neg : Bool) : Op2 K (rInDA K neg) (fun x y h => (inWD x y h).map fun b => (.bl (if neg then !b else b), h)) := by
  intro f h H x y v u Q E s rx ry p
  dsimp only at p
  cases e : inWD x y h with
  | none => rw [e] at p; exact p.elim
  | some b =>
    rw [e] at p
    have q : Q (.bl (if neg then !b else b)) H := post_ok s p (rep_bl.mpr rfl)
    clear p
    unfold inWD at e
    split at e
    · rename_i d ds ex ey
      split at e
      · rename_i c
        rw [← Option.some.inj e] at q
        exact ⟨d, ds, dp s ex rx, .inl ⟨dp s ey ry, c.2⟩, c.1, q⟩
      · cases e
    · rename_i d ds ex ey
      split at e
      · rename_i c
        rw [← Option.some.inj e] at q
        exact ⟨d, ds, dp s ex rx, .inr ⟨dp s ey ry, c.2⟩, c.1, q⟩
      · cases e
    · cases e
theorem p_inD : Op2 K (rInDA K false) wInD := p_inD_gen false
theorem p_notInD : Op2 K (rInDA K true) wNotInD := p_inD_gen true
end
theorem eqvs_any {n m : Nat} {x : W} (hx : plW n x = true) : ∀ {xs : List W}, plWs m xs = true → (dTs xs).any (fun z => PyData.eqv z (dT x)) = decide (x ∈ xs)
  | [], _ => by simp [dTs]
  | a :: l, h => by
    simp only [plWs, Bool.and_eq_true] at h
    simp only [dTs, List.any_cons, eqvs_any hx h.2]
    have := eqv_pl m a x n h.1 hx
    by_cases q : a = x
    · rw [this.mpr q]
      simp [q]
    · have e : PyData.eqv (dT a) (dT x) = false := by
        cases e : PyData.eqv (dT a) (dT x) with
        | false => rfl
        | true => exact absurd (this.mp e) q
      rw [e, Bool.false_or]
      exact decide_eq_decide.mpr ⟨fun z => List.mem_cons_of_mem _ z, fun z => (List.mem_cons.mp z).resolve_left fun z => q z.symm⟩
theorem inWD_pl {x y : W} {xs : List W} {h : PH} {n m : Nat} (hy : y = .fix xs ∨ y = .tup xs) (hx : plW n x = true) (hxs : plWs m xs = true) (hn : n ≤ 64) (hm : m < 64) : inWD x y h = some (decide (x ∈ xs)) := by
  obtain ⟨a, b, c⟩ := dat_pl (datL 4 h) n x hx
  have a : dat h x = some (dT x) := a
  rcases hy with rfl | rfl
  · have hy2 : plW (m + 1) (.fix xs) = true := by simpa only [plW] using hxs
    obtain ⟨a2, b2, c2⟩ := dat_pl (datL 4 h) (m + 1) (.fix xs) hy2
    have a2 : dat h (.fix xs) = some (.list (dTs xs)) := a2
    unfold inWD
    rw [a, a2]
    dsimp only
    rw [if_pos ⟨shaped_pl b c hn, shaped_pl (d := .list (dTs xs)) b2 c2 (by omega)⟩, eqvs_any hx hxs]
  · have hy2 : plW (m + 1) (.tup xs) = true := by simpa only [plW] using hxs
    obtain ⟨a2, b2, c2⟩ := dat_pl (datL 4 h) (m + 1) (.tup xs) hy2
    have a2 : dat h (.tup xs) = some (.tuple (dTs xs)) := a2
    unfold inWD
    rw [a, a2]
    dsimp only
    rw [if_pos ⟨shaped_pl b c hn, shaped_pl (d := .tuple (dTs xs)) b2 c2 (by omega)⟩, eqvs_any hx hxs]
end Mir

/-! Mir: a dict locked while a loop walks it; count, extend; d.get, d.pop. -/
namespace Mir
open PySem PySem.Spec PyProof.Rows L2
/-- a statement that runs while the dict that `look` names is locked -/
def lkS (look : LS → PH → Option Nat) (M : SM) : SM := fun ps h => match look ps h with
  | some n => match h[n]? with
    | some (.dK kvs) => match M ps (h.set n (.lk kvs)) with
      | .nx ps1 h1 => match h1[n]? with
        | some (.lk kvs') => .nx ps1 (h1.set n (.dK kvs'))
        | _ => .stuck
      | .rt w h1 => match h1[n]? with
        | some (.lk kvs') => .rt w (h1.set n (.dK kvs'))
        | _ => .stuck
      | _ => .stuck
    | _ => .stuck
  | none => .stuck
theorem ss_lock {X : Cx} {W0 : WX} {st : Stmt} {M : SM} (look : LS → PH → Option Nat) (ha : SS X W0 st M) : SS X W0 st (lkS look M) := ps_imp (ps_lock ha) fun D σ H h => by
  obtain ⟨f, h, ps, s, sr, p⟩ := h
  unfold lkS at p
  split at p
  · rename_i n _
    split at p
    · rename_i kvs en
      obtain ⟨d, hf, us, e1, r1⟩ := s.obj n _ en
      refine ⟨d, .dK us, e1, trivial, fun od => ⟨f, h.set n (.lk kvs), ps, s.lockD hf e1 r1, sr.mono (.refl f) (stay_lockD e1), ?_⟩⟩
      split at p
      · rename_i ps1 h1 el
        split at p
        · rename_i kvs' en'
          rw [el]
          intro f1 H1 σ1 s1 q1
          obtain ⟨k1, k2⟩ := s1.freeD hf e1 en'
          exact ⟨k1, p f1 _ σ1 k2 (q1.mono (.refl f1) (stay_freeD k1))⟩
        · exact p.elim
      · rename_i w h1 el
        split at p
        · rename_i kvs' en'
          rw [el]
          intro f1 H1 v s1 q1
          obtain ⟨k1, k2⟩ := s1.freeD hf e1 en'
          exact ⟨k1, p f1 _ v k2 (Rep.mono (.refl f1) (stay_freeD k1) _ _ q1)⟩
        · exact p.elim
      · exact p.elim
    · exact p.elim
  · exact p.elim
theorem to_lkS {look : LS → PH → Option Nat} {M : SM} {ps : LS} {h : PH} {n : Nat} {kvs : List (Key × W)} {N B C : LS → PH → Prop} {R : W → PH → Prop} (e : look ps h = some n) (en : h[n]? = some (.dK kvs))
    (q : (M ps (h.set n (.lk kvs))).To (fun ps1 g => ∃ kvs', g[n]? = some (.lk kvs') ∧ N ps1 (g.set n (.dK kvs'))) (fun w g => ∃ kvs', g[n]? = some (.lk kvs') ∧ R w (g.set n (.dK kvs'))) (fun _ _ => False) fun _ _ => False) : (lkS look M ps h).To N R B C := by
  unfold lkS
  rw [e]
  dsimp only
  rw [en]
  dsimp only
  cases eM : M ps (h.set n (.lk kvs)) with
  | nx ps1 h1 =>
    rw [eM, to_nx] at q
    obtain ⟨kvs', e2, e3⟩ := q
    simp only [e2, to_nx]
    exact e3
  | rt w h1 =>
    rw [eM, to_rt] at q
    obtain ⟨kvs', e2, e3⟩ := q
    simp only [e2, to_rt]
    exact e3
  | bk _ _ => rw [eM, to_bk] at q; exact q.elim
  | ct _ _ => rw [eM, to_ct] at q; exact q.elim
  | exc _ _ _ => rw [eM, to_sexc] at q; exact q.elim
  | stuck => rw [eM, to_sstuck] at q; exact q.elim
/-! ### a locked dict read -/
theorem in_lk {n : Nat} {h : PH} {kvs : List (Key × W)} {x : W} {k : Key} (e : h[n]? = some (.lk kvs)) (hk : keyW x = some k) : wIn x (.ref n) h = some (.bl (getK kvs k).isSome, h) := by
  simp only [wIn, inW, e, hk, Option.map_some]
theorem notIn_lk {n : Nat} {h : PH} {kvs : List (Key × W)} {x : W} {k : Key} (e : h[n]? = some (.lk kvs)) (hk : keyW x = some k) : wNotIn x (.ref n) h = some (.bl (!(getK kvs k).isSome), h) := by
  simp only [wNotIn, inW, e, hk, Option.map_some]
theorem ix_lk {n : Nat} {h : PH} {kvs : List (Key × W)} {x w : W} {k : Key} (e : h[n]? = some (.lk kvs)) (hk : keyW x = some k) (hw : getK kvs k = some w) : wIx (.ref n) x h = some (w, h) := by
  simp only [wIx, e, hk, Option.bind_some, hw, Option.map_some]
/-! ### xs.count(y), flat items -/
section
variable {X : Cx}
def rCountF (K : PySem.W.Frag) : V → List V → Hp → VK → Prop := fun x xs H Q => ∃ (a : Addr) (ys : List V) (y : V), x = V.ref a ∧ xs = [y] ∧ SqL K H a ys ∧ flatV y = true ∧ ys.all flatV = true ∧ Q (.int (ys.countP (fun z => eqV z y) : Nat)) H
theorem count_flat {y : V} : ∀ {ys : List V} {its : List Value}, Vals ys its → ys.all flatV = true → its.countP (eqU y) = ys.countP fun z => eqV z y
  | [], _, .nil, _ => rfl
  | z :: r, u :: us, .cons ru rr, h => by
    simp only [List.all_cons, Bool.and_eq_true] at h
    rw [List.countP_cons, List.countP_cons, count_flat rr h.2, eqU_of ru h.1]
theorem mt_countF : MtR X "list.count" (rCountF X.K) := by
  intro pins s σ H x xs v us Q I rx rxs h
  obtain ⟨a, ys, y, rfl, rfl, hs, fy, fys, q⟩ := h
  cases rx
  cases rxs with
  | cons ry rt =>
    rename_i uy ut
    cases rt
    obtain ⟨its, rv, ⟨⟨cls, dd, data, sl⟩, n, ho, hc, hdn, hd⟩, hlen⟩ := I.list hs
    simp only at hc hd
    subst hc hd
    refine call_meets PySem.F.slot_list_count ⟨_, ho, rfl⟩ PySem.F.entry_list_count (PySem.F.args_list_count_2 _ _)
      (SeqAt.list_countAt a its.toArray n dd sl uy (eqU y)) ⟨ho, fun u' hu' => mem_eqAt ry fy rv fys u' (by simpa using hu'), ?_⟩
    have ec : its.toArray.toList.countP (eqU y) = ys.countP fun z => eqV z y := count_flat rv fys
    refine ⟨.int (ys.countP (fun z => eqV z y) : Nat), H, I.tok _, ⟨s.toks, ?_⟩, q⟩
    show Value.int ((its.toArray.toList.countP (eqU y) : Nat) : Int) s.toks = Value.int ((ys.countP (fun z => eqV z y) : Nat) : Int) s.toks
    rw [ec]
end
def wCount (x : W) (xs : List W) (h : PH) : Option (W × PH) := match xs with
  | [y] => match lstOf x h with
    | some ws => if flatW y = true ∧ ws.all flatW = true then some (.int (ws.countP (fun z => eqF z y) : Nat), h) else none
    | none => none
  | _ => none
section
variable {K : PySem.W.Frag}
theorem count_of {f : List Addr} {H : Hp} {y : W} {u : V} (ru : Rep K f H y u) (hy : flatW y = true) : ∀ {ws : List W} {vs : List V}, Reps K f H ws vs → ws.all flatW = true → vs.countP (fun z => eqV z u) = ws.countP fun z => eqF z y
  | [], vs, r, _ => by rw [r.nil_inv]; rfl
  | w :: ws, vs, r, h => by
    obtain ⟨v, t, rfl, r1, r2⟩ := r.cons_inv
    simp only [List.all_cons, Bool.and_eq_true] at h
    rw [List.countP_cons, List.countP_cons, count_of ru hy r2 h.2, eqF_of r1 ru h.1 hy]
theorem op_count : OpMt K (rCountF K) wCount := by
  intro f h H x v xs vs Q E s rx rxs p
  unfold wCount at p
  split at p
  · rename_i y
    obtain ⟨u, rfl, ru⟩ := rxs.one_inv
    split at p
    · rename_i ws e
      split at p
      · rename_i c
        obtain ⟨a, ys, rfl, hs, rr⟩ := lstOf_rep s rx e
        refine ⟨a, ys, u, rfl, rfl, hs, flat_of ru c.1, flats_of rr c.2, ?_⟩
        rw [count_of ru c.1 rr c.2]
        exact .inl (post_ok s p (rep_int.mpr rfl))
      · exact p.elim
    · exact p.elim
  · exact p.elim
end
section
variable {X : Cx} {W0 : WX} {o : Expr} {m : EM} {apos cpos : Pos}
theorem se_count {e1 : Expr} {m1 : EM} (ho : SE X W0 o m) (ha : SE X W0 e1 m1) (hbase : attributeBase o "count" X.env (eval o X.env) = eval o X.env := by rfl)
    (hfew : ((backTo cpos (starEach [e1] X.env)).all (fun x => !x.1) && (backToKw cpos (keywordEach [] X.env)).all (fun x => x.1.isSome)
      && decide (([e1] : List Expr).length + ([] : List Keyword).length + (if ([] : List Keyword).isEmpty then 0 else 1) < 30)) = true := by rfl)
    (hline : (apos.endLine == cpos.line) = true := by rfl) (hs : starEach [e1] X.env = [(false, eval e1 X.env)] := by rfl) : SE X W0 (.Call (.Attribute o "count" apos) [e1] [] cpos) (mMt "list" wCount m (mCons m1 mNil)) :=
  se_mt PySem.F.plainAttrs_list PySem.F.slot_list_count PySem.F.type_list_count mt_countF op_count ho (sa_cons ha sa_nil hs) hbase hfew hline hs
end
/-! ### d.get(k), d.get(k, x), d.pop(k) -/
def dGet1 (x y : W) (h : PH) : Option (W × PH) := match x with
  | .ref n => match h[n]? with
    | some (.dK kvs) => (keyW y).map fun k => ((getK kvs k).getD .non, h)
    | some (.lk kvs) => (keyW y).map fun k => ((getK kvs k).getD .non, h)
    | _ => none
  | _ => none
def isDW (x : W) (h : PH) : Bool := match x with
  | .ref n => match h[n]? with
    | some (.dK _) => true
    | some (.lk _) => true
    | _ => false
  | _ => false
def dropKW (kvs : List (Key × W)) (k : Key) : List (Key × W) := kvs.filter fun kv => decide (kv.1 ≠ k)
def dPop1 (x y : W) (h : PH) : Option (W × PH) := match x with
  | .ref n => match h[n]? with
    | some (.dK kvs) => (keyW y).bind fun k => (getK kvs k).map fun w => (w, h.set n (.dK (dropKW kvs k)))
    | _ => none
  | _ => none
def mGet1 (m m1 : EM) : EM := fun ps h => (m ps h).bind fun x h1 => if isDW x h1 = true then (m1 ps h1).bind fun y h2 => .ofO (dGet1 x y h2) else .stuck
def dGet2 (x y z : W) (h : PH) : Option (W × PH) := match x with
  | .ref n => match h[n]? with
    | some (.dK kvs) => (keyW y).map fun k => ((getK kvs k).getD z, h)
    | some (.lk kvs) => (keyW y).map fun k => ((getK kvs k).getD z, h)
    | _ => none
  | _ => none
def mGet2 (m m1 m2 : EM) : EM := fun ps h => (m ps h).bind fun x h1 => if isDW x h1 = true then (m1 ps h1).bind fun y h2 => (m2 ps h2).bind fun z h3 => .ofO (dGet2 x y z h3) else .stuck
def mPop1 (m m1 : EM) : EM := fun ps h => (m ps h).bind fun x h1 => if isDW x h1 = true then (m1 ps h1).bind fun y h2 => .ofO (dPop1 x y h2) else .stuck
section
variable {K : PySem.W.Frag} {f : List Addr} {h : PH} {H : Hp}
theorem isD_of {x : W} {v : V} (s : Sim K f h H) (r : Rep K f H x v) (e : isDW x h = true) : ∃ a, v = .ref a ∧ IsD H a := by
  cases x with
  | ref n =>
    simp only [isDW] at e
    split at e
    · rename_i kvs hn
      obtain ⟨a, rfl, _, vs, h1, h2⟩ := s.at hn r
      exact ⟨a, rfl, .inl ⟨vs, .inl h1⟩⟩
    · rename_i kvs hn
      obtain ⟨a, rfl, _, o, vs, h1, h2⟩ := s.at hn r
      exact ⟨a, rfl, .inl ⟨vs, .inr ⟨o, h1⟩⟩⟩
    · cases e
  | _ => cases e
theorem krep_getO {κ : Type} [DecidableEq κ] {ws : List (κ × W)} {vs : List (κ × V)} (k : κ) (r : KRep K f H ws vs) {z : W} {zv : V} (rz : Rep K f H z zv) : Rep K f H ((getK ws k).getD z) ((valV vs k).getD zv) := by
  have g := KRep.get k r
  cases e : getK ws k with
  | none => rw [e] at g; rw [g]; exact rz
  | some w =>
    rw [e] at g
    obtain ⟨u, g1, g2⟩ := g
    rw [g1]
    exact g2
theorem KRep.drop {ws : List (Key × W)} {vs : List (Key × V)} (k : Key) (r : KRep K f H ws vs) : KRep K f H (dropKW ws k) (dropK vs k) := by
  induction ws generalizing vs with
  | nil =>
    have r : vs = [] := r
    subst r
    rfl
  | cons p ws ih =>
    obtain ⟨q, w⟩ := p
    obtain ⟨v, t, rfl, h2, h3⟩ := r
    unfold dropKW dropK
    rw [List.filter_cons, List.filter_cons]
    by_cases c : q = k
    · simp only [c, ne_eq, not_true_eq_false, decide_false, Bool.false_eq_true, if_false]
      exact ih h3
    · simp only [c, ne_eq, not_false_eq_true, decide_true, if_true]
      exact ⟨v, _, rfl, h2, ih h3⟩
end
section
variable {X : Cx} {W0 : WX} {o e e2 : Expr} {m m1 m2 : EM} {apos cpos : Pos}
theorem se_get1 {k : Nat} (hr : Room k X.A) (ho : SE X W0 o m) (ha : SE X W0 e m1) (M : M1 X o "get" apos e cpos := by exact ⟨rfl, rfl, rfl, rfl⟩) : SE X W0 (.Call (.Attribute o "get" apos) [e] [] cpos) (mGet1 m m1) :=
  pe_imp (pe_dget1 (by have := hr.un; omega) ho ha M) fun σ H Q h => by
    obtain ⟨f, h, ps, s, sr, p⟩ := h
    refine ⟨f, h, ps, s, sr, (Post.bind (R1 := RW X.K) s back_W p).mono (fun v H1 hh => ?_) fun _ _ _ e => e⟩
    obtain ⟨f1, h1, x, s1, q1, p1⟩ := hh
    split at p1
    · rename_i ht
      obtain ⟨a, rfl, hd⟩ := isD_of s1.sim q1 ht
      refine ⟨a, rfl, hd, f1, h1, ps, s1.sim, s1.srep s sr, (Post.bind (R1 := RW X.K) s1.sim back_W p1).mono (fun v2 H2 hh => ?_) fun _ _ _ e => e⟩
      obtain ⟨f2, h2, y, s2, q2, p2⟩ := hh
      have rx := s2.rep s1.sim q1
      unfold dGet1 at p2
      split at p2
      · rename_i n
        split at p2
        · rename_i kvs hn
          obtain ⟨b, eb, _, vs, g1, g2⟩ := s2.sim.at hn rx
          cases eb
          cases e : keyW y with
          | none => rw [e] at p2; exact p2.elim
          | some k =>
            rw [e] at p2
            have hv := key_rep e q2
            subst hv
            exact ⟨_, DGet.k g1, post_ok s2.sim p2 (krep_getO k g2 (rep_non.mpr rfl))⟩
        · rename_i kvs hn
          obtain ⟨b, eb, _, oo, vs, g1, g2⟩ := s2.sim.at hn rx
          cases eb
          cases e : keyW y with
          | none => rw [e] at p2; exact p2.elim
          | some k =>
            rw [e] at p2
            have hv := key_rep e q2
            subst hv
            exact ⟨_, DGet.fz g1, post_ok s2.sim p2 (krep_getO k g2 (rep_non.mpr rfl))⟩
        · exact p2.elim
      · exact p2.elim
    · exact p1.elim
theorem se_get2 {k : Nat} (hr : Room k X.A) (ho : SE X W0 o m) (ha : SE X W0 e m1) (hb : SE X W0 e2 m2) (M : M2 X o "get" apos e e2 cpos := by exact ⟨rfl, rfl, rfl, rfl⟩) : SE X W0 (.Call (.Attribute o "get" apos) [e, e2] [] cpos) (mGet2 m m1 m2) :=
  pe_imp (pe_dget2 (by have := hr.un; omega) ho ha hb M) fun σ H Q h => by
    obtain ⟨f, h, ps, s, sr, p⟩ := h
    refine ⟨f, h, ps, s, sr, (Post.bind (R1 := RW X.K) s back_W p).mono (fun v H1 hh => ?_) fun _ _ _ e => e⟩
    obtain ⟨f1, h1, x, s1, q1, p1⟩ := hh
    split at p1
    · rename_i ht
      obtain ⟨a, rfl, hd⟩ := isD_of s1.sim q1 ht
      refine ⟨a, rfl, hd, f1, h1, ps, s1.sim, s1.srep s sr, (Post.bind (R1 := RW X.K) s1.sim back_W p1).mono (fun v2 H2 hh => ?_) fun _ _ _ e => e⟩
      obtain ⟨f2, h2, y, s2, q2, p2⟩ := hh
      have sr2 := s2.srep s1.sim (s1.srep s sr)
      refine ⟨f2, h2, ps, s2.sim, sr2, (Post.bind (R1 := RW X.K) s2.sim back_W p2).mono (fun v3 H3 hh => ?_) fun _ _ _ e => e⟩
      obtain ⟨f3, h3, z, s3, q3, p3⟩ := hh
      have rx := s3.rep s2.sim (s2.rep s1.sim q1)
      have ry := s3.rep s2.sim q2
      unfold dGet2 at p3
      split at p3
      · rename_i n
        split at p3
        · rename_i kvs hn
          obtain ⟨b, eb, _, vs, g1, g2⟩ := s3.sim.at hn rx
          cases eb
          cases e : keyW y with
          | none => rw [e] at p3; exact p3.elim
          | some k =>
            rw [e] at p3
            have hv := key_rep e ry
            subst hv
            exact ⟨_, DGet.k g1, post_ok s3.sim p3 (krep_getO k g2 q3)⟩
        · rename_i kvs hn
          obtain ⟨b, eb, _, oo, vs, g1, g2⟩ := s3.sim.at hn rx
          cases eb
          cases e : keyW y with
          | none => rw [e] at p3; exact p3.elim
          | some k =>
            rw [e] at p3
            have hv := key_rep e ry
            subst hv
            exact ⟨_, DGet.fz g1, post_ok s3.sim p3 (krep_getO k g2 q3)⟩
        · exact p3.elim
      · exact p3.elim
    · exact p1.elim
theorem se_pop1 (ho : SE X W0 o m) (ha : SE X W0 e m1) (M : M1 X o "pop" apos e cpos := by exact ⟨rfl, rfl, rfl, rfl⟩) : SE X W0 (.Call (.Attribute o "pop" apos) [e] [] cpos) (mPop1 m m1) :=
  pe_imp (pe_dpop1 ho ha M) fun σ H Q h => by
    obtain ⟨f, h, ps, s, sr, p⟩ := h
    refine ⟨f, h, ps, s, sr, (Post.bind (R1 := RW X.K) s back_W p).mono (fun v H1 hh => ?_) fun _ _ _ e => e⟩
    obtain ⟨f1, h1, x, s1, q1, p1⟩ := hh
    split at p1
    · rename_i ht
      obtain ⟨a, rfl, hd⟩ := isD_of s1.sim q1 ht
      refine ⟨a, rfl, hd, f1, h1, ps, s1.sim, s1.srep s sr, (Post.bind (R1 := RW X.K) s1.sim back_W p1).mono (fun v2 H2 hh => ?_) fun _ _ _ e => e⟩
      obtain ⟨f2, h2, y, s2, q2, p2⟩ := hh
      have rx := s2.rep s1.sim q1
      unfold dPop1 at p2
      split at p2
      · rename_i n
        split at p2
        · rename_i kvs hn
          obtain ⟨b, eb, hf, vs, g1, g2⟩ := s2.sim.at hn rx
          cases eb
          cases e : keyW y with
          | none => rw [e] at p2; exact p2.elim
          | some k =>
            rw [e, Option.bind_some] at p2
            have hv := key_rep e q2
            subst hv
            have g := KRep.get k g2
            cases e3 : getK kvs k with
            | none => rw [e3] at p2; exact p2.elim
            | some w =>
              rw [e3] at g p2
              obtain ⟨u, g3, g4⟩ := g
              refine ⟨vs, k, u, g1, rfl, g3, ?_⟩
              have st := s2.sim.put_dK hf (KRep.drop k g2) (fun o us z => by rw [g1] at z; cases z)
              exact p2 f2 _ u st (st.rep s2.sim g4)
        · exact p2.elim
      · exact p2.elim
    · exact p1.elim
end
end Mir

/-! Mir: zip of a list and a tuple; xs.extend of a fresh list. -/
namespace Mir
open PySem PySem.Spec PyProof.Rows L2
open PySem.Sem (wp)
section
variable {prog : Program} {w : World} {A : Around} {E : Value → Shared → Prop} {s : Shared}
theorem zipM_next_item {z TI TO i1 i2 l1 l2 : Addr} {k1 k2 : Nat} {xs ys : Array Value} {x y a b : Value} {Q : Value → Shared → Prop} (D : ZipApart z TI TO i1 i2 l1 l2)
    (hz : IsZip s.heap z TI TO .none) (hTI : IsPair s.heap TI (.ref i1) (.ref i2)) (hTO : IsPair s.heap TO a b)
    (h1 : s.heap.IsListIter i1 l1 k1) (h2 : s.heap.IsTupleIter i2 l2 k2) (hl1 : s.heap.IsList l1 xs) (hl2 : s.heap.IsTuple l2 ys) (hx : xs[k1]? = some x) (hy : ys[k2]? = some y)
    (hQ : ∀ h', IsZip h' z TI TO (rawInt s.heap.objs.size) → IsPair h' TO x y → h'.IsListIter i1 l1 (k1 + 1) → h'.IsTupleIter i2 l2 (k2 + 1) → IsPair h' s.heap.objs.size x y → h'.objs.size = s.heap.objs.size + 1 →
      (∀ c o, c ≠ z → c ≠ TO → c ≠ i1 → c ≠ i2 → s.heap.get? c = some o → h'.get? c = some o) → Q (.ref s.heap.objs.size) { s with heap := h' }) :
    wpAny (model prog w) A (Builtin.«zip.__next__» ⟨[.ref z], []⟩) (fun fin s' => ∃ v, fin = .done (.ret v) ∧ Q v s') E s := by
  show wpAny _ _ (field (.ref z) 2 >>= _) _ _ _
  refine wpAny_bind (wpAny_field hz rfl (x := .bool false) rfl ?_)
  show wpAny _ _ (field (.ref z) 3 >>= _) _ _ _
  refine wpAny_bind (wpAny_field hz rfl (x := .ref TI) rfl ?_)
  refine wpAny_bind (wpAny_seqItems hTI rfl ?_)
  show wpAny _ _ (Builtin.SmallTypes.ownedTupleIsFree (.ref z) >>= _) _ _ _
  refine wpAny_bind ?_
  unfold Builtin.SmallTypes.ownedTupleIsFree
  refine wpAny_bind (wpAny_field hz rfl (x := .none) rfl (wpAny_pure ?_))
  simp only [if_true]
  refine wpAny_bind (wpAny_rule ?_)
  refine wpAny_bind (wpAny_field hz rfl (x := .ref TO) rfl ?_)
  refine wpAny_bind (wpAny_setField_rec hz (by simp) fun h₁ hz₁ hs₁ => ?_)
  replace hz₁ : IsZip h₁ z TI TO .ellipsis := hz₁
  refine wpAny_bind ?_
  simp only [List.zipIdx_cons, List.zipIdx_nil, List.forIn_cons, List.forIn_nil]

  refine wpAny_bind (wpAny_bind (wpAny_onRaise ?_))
  show wpAny _ _ (Builtin.SmallTypes.nextOf (.ref i1) >>= _) _ _ _
  refine wpAny_bind (wpAny_nextOf_list_item (h1.extBut hs₁.extBut D.i1z) (hl1.extBut hs₁.extBut D.l1z) hx fun h₂ h1₂ hs₂ => wpAny_pure ?_)
  have hTO₂ : IsPair h₂ TO a b := hs₂.extBut _ _ D.TOi1 (hs₁.extBut _ _ D.TOz hTO)
  refine wpAny_bind (wpAny_seqItems hTO₂ rfl ?_)
  refine wpAny_bind (wpAny_updateSeq_pair hTO₂ fun h₃ hTO₃ hs₃ => ?_)
  replace hTO₃ : IsPair h₃ TO x b := hTO₃
  refine wpAny_bind (wpAny_letGo (wpAny_pure ?_))

  refine wpAny_bind (wpAny_bind (wpAny_onRaise ?_))
  show wpAny _ _ (Builtin.SmallTypes.nextOf (.ref i2) >>= _) _ _ _
  refine wpAny_bind (RZ.nextOf_tuple_item (((h2.extBut hs₁.extBut D.i2z).extBut hs₂.extBut D.i12.symm).extBut hs₃.extBut D.TOi2.symm)
    (((hl2.extBut hs₁.extBut D.l2z).extBut hs₂.extBut D.l2i1).extBut hs₃.extBut D.l2TO) hy fun h₄ h2₄ hs₄ => wpAny_pure ?_)
  have hTO₄ : IsPair h₄ TO x b := hs₄.extBut _ _ D.TOi2 hTO₃
  refine wpAny_bind (wpAny_seqItems hTO₄ rfl ?_)
  refine wpAny_bind (wpAny_updateSeq_pair hTO₄ fun h₅ hTO₅ hs₅ => ?_)
  replace hTO₅ : IsPair h₅ TO x y := hTO₅
  refine wpAny_bind (wpAny_letGo (wpAny_pure (wpAny_pure ?_)))

  refine wpAny_bind (wpAny_seqItems hTO₅ rfl ?_)
  refine wpAny_bind (wpAny_newTuple ?_)
  have hsz : h₅.objs.size = s.heap.objs.size := by rw [hs₅.1, hs₄.1, hs₃.1, hs₂.1, hs₁.1]
  have hz₅ : IsZip h₅ z TI TO .ellipsis := hs₅.extBut _ _ D.TOz.symm (hs₄.extBut _ _ D.i2z.symm (hs₃.extBut _ _ D.TOz.symm (hs₂.extBut _ _ D.i1z.symm hz₁)))
  have hk₅ : ∀ c o, c ≠ z → c ≠ TO → c ≠ i1 → c ≠ i2 → s.heap.get? c = some o → h₅.get? c = some o := fun c o c1 c2 c3 c4 e =>
    hs₅.extBut _ _ c2 (hs₄.extBut _ _ c4 (hs₃.extBut _ _ c2 (hs₂.extBut _ _ c3 (hs₁.extBut _ _ c1 e))))
  have h1₅ : h₅.IsListIter i1 l1 (k1 + 1) := ((h1₂.extBut hs₃.extBut D.TOi1.symm).extBut hs₄.extBut D.i12).extBut hs₅.extBut D.TOi1.symm
  have h2₅ : h₅.IsTupleIter i2 l2 (k2 + 1) := h2₄.extBut hs₅.extBut D.TOi2.symm
  have hzlt : z < h₅.objs.size := Heap.lt_size hz₅
  have hTOlt : TO < h₅.objs.size := Heap.lt_size hTO₅
  have hi1lt : i1 < h₅.objs.size := by obtain ⟨_, e, _⟩ := h1₅; exact Heap.lt_size e
  have hi2lt : i2 < h₅.objs.size := by obtain ⟨_, e, _⟩ := h2₅; exact Heap.lt_size e
  show wpAny _ _ (Builtin.SmallTypes.ownedTupleHandOut (.ref z) (.ref h₅.objs.size) >>= _) _ _ _
  refine wpAny_bind ?_
  unfold Builtin.SmallTypes.ownedTupleHandOut
  have hz₆ : IsZip (h₅.push { cls := .type "tuple", data := .seq #[x, y] }) z TI TO .ellipsis := Heap.get?_push_of_some _ hz₅
  refine wpAny_bind (wpAny_setField_rec hz₆ (by simp) fun h₇ hz₇ hs₇ => ?_)
  replace hz₇ : IsZip h₇ z TI TO (rawInt h₅.objs.size) := hz₇
  refine wpAny_setField_rec hz₇ (by simp) fun h₈ hz₈ hs₈ => ?_
  replace hz₈ : IsZip h₈ z TI TO (rawInt h₅.objs.size) := hz₈
  have up : ∀ c o, c ≠ z → h₅.get? c = some o → h₈.get? c = some o := fun c o c1 e => hs₈.extBut _ _ c1 (hs₇.extBut _ _ c1 (Heap.get?_push_of_some _ e))
  have hT₈ : IsPair h₈ h₅.objs.size x y := hs₈.extBut _ _ (Nat.ne_of_gt hzlt) (hs₇.extBut _ _ (Nat.ne_of_gt hzlt) (Heap.get?_push_size _ rfl))
  have hz8 : h₈.objs.size = h₅.objs.size + 1 := by rw [hs₈.1, hs₇.1, Heap.size_push]
  rw [hsz] at hz₈ hT₈ hz8
  refine wpAny_pure ⟨_, rfl, ?_⟩
  show Q (.ref h₅.objs.size) _
  rw [hsz]
  exact hQ h₈ hz₈ (up _ _ D.TOz hTO₅) (h1₅.at fun o e => up _ o D.i1z e) (h2₅.at fun o e => up _ o D.i2z e) hT₈ hz8 fun c o c1 c2 c3 c4 e => up c o c1 (hk₅ c o c1 c2 c3 c4 e)

theorem zipM_next_end {z TI TO i1 i2 l1 l2 : Addr} {k1 k2 : Nat} {xs ys : Array Value} {a b : Value} {Q : Fin → Shared → Prop} (hh : A.handled = none) (D : ZipApart z TI TO i1 i2 l1 l2)
    (hz : IsZip s.heap z TI TO .none) (hTI : IsPair s.heap TI (.ref i1) (.ref i2)) (hTO : IsPair s.heap TO a b)
    (h1 : s.heap.IsListIter i1 l1 k1) (h2 : s.heap.IsTupleIter i2 l2 k2) (hl1 : s.heap.IsList l1 xs) (hl2 : s.heap.IsTuple l2 ys) (hend : xs[k1]? = none ∨ ys[k2]? = none)
    (hE : ∀ h' e, (∀ c o, c ≠ z → c ≠ TO → c ≠ i1 → c ≠ i2 → s.heap.get? c = some o → h'.get? c = some o) → (∃ o, h'.get? e = some o ∧ o.cls = .type "StopIteration") → E (.ref e) { s with heap := h' }) :
    wpAny (model prog w) A (Builtin.«zip.__next__» ⟨[.ref z], []⟩) Q E s := by
  show wpAny _ _ (field (.ref z) 2 >>= _) _ _ _
  refine wpAny_bind (wpAny_field hz rfl (x := .bool false) rfl ?_)
  show wpAny _ _ (field (.ref z) 3 >>= _) _ _ _
  refine wpAny_bind (wpAny_field hz rfl (x := .ref TI) rfl ?_)
  refine wpAny_bind (wpAny_seqItems hTI rfl ?_)
  show wpAny _ _ (Builtin.SmallTypes.ownedTupleIsFree (.ref z) >>= _) _ _ _
  refine wpAny_bind ?_
  unfold Builtin.SmallTypes.ownedTupleIsFree
  refine wpAny_bind (wpAny_field hz rfl (x := .none) rfl (wpAny_pure ?_))
  simp only [if_true]
  refine wpAny_bind (wpAny_rule ?_)
  refine wpAny_bind (wpAny_field hz rfl (x := .ref TO) rfl ?_)
  refine wpAny_bind (wpAny_setField_rec hz (by simp) fun h₁ hz₁ hs₁ => ?_)
  replace hz₁ : IsZip h₁ z TI TO .ellipsis := hz₁
  refine wpAny_bind ?_
  simp only [List.zipIdx_cons, List.zipIdx_nil, List.forIn_cons, List.forIn_nil]
  refine wpAny_bind (wpAny_bind (wpAny_onRaise ?_))
  show wpAny _ _ (Builtin.SmallTypes.nextOf (.ref i1) >>= _) _ _ _
  cases hx : xs[k1]? with
  | none =>
    refine wpAny_bind (wpAny_nextOf_list_end hh (h1.extBut hs₁.extBut D.i1z) (hl1.extBut hs₁.extBut D.l1z) hx fun h₂ e hs₂ he => ?_)
    obtain ⟨oe, hoe, hce⟩ := he
    have hz₂ : IsZip h₂ z TI TO .ellipsis := hs₂ _ _ D.i1z.symm hz₁
    have hez : e ≠ z := fun x => by subst x; rw [hz₂] at hoe; cases hoe; simp at hce
    refine wpAny_setField_rec hz₂ (by simp) fun h₃ _ hs₃ => hE h₃ e (fun c o c1 _ c3 _ x => hs₃.extBut _ _ c1 (hs₂ _ _ c3 (hs₁.extBut _ _ c1 x))) ⟨oe, hs₃.extBut _ _ hez hoe, hce⟩
  | some x =>
    have hy : ys[k2]? = none := by rcases hend with h | h; rw [hx] at h; cases h; exact h
    refine wpAny_bind (wpAny_nextOf_list_item (h1.extBut hs₁.extBut D.i1z) (hl1.extBut hs₁.extBut D.l1z) hx fun h₂ h1₂ hs₂ => wpAny_pure ?_)
    have hTO₂ : IsPair h₂ TO a b := hs₂.extBut _ _ D.TOi1 (hs₁.extBut _ _ D.TOz hTO)
    refine wpAny_bind (wpAny_seqItems hTO₂ rfl ?_)
    refine wpAny_bind (wpAny_updateSeq_pair hTO₂ fun h₃ hTO₃ hs₃ => ?_)
    refine wpAny_bind (wpAny_letGo (wpAny_pure ?_))
    refine wpAny_bind (wpAny_bind (wpAny_onRaise ?_))
    show wpAny _ _ (Builtin.SmallTypes.nextOf (.ref i2) >>= _) _ _ _
    refine wpAny_bind (RZ.nextOf_tuple_end hh (((h2.extBut hs₁.extBut D.i2z).extBut hs₂.extBut D.i12.symm).extBut hs₃.extBut D.TOi2.symm)
      (((hl2.extBut hs₁.extBut D.l2z).extBut hs₂.extBut D.l2i1).extBut hs₃.extBut D.l2TO) hy fun h₄ e hs₄ he => ?_)
    obtain ⟨oe, hoe, hce⟩ := he
    have hz₄ : IsZip h₄ z TI TO .ellipsis := hs₄ _ _ D.i2z.symm (hs₃.extBut _ _ D.TOz.symm (hs₂.extBut _ _ D.i1z.symm hz₁))
    have hez : e ≠ z := fun x => by subst x; rw [hz₄] at hoe; cases hoe; simp at hce
    refine wpAny_setField_rec hz₄ (by simp) fun h₅ _ hs₅ => hE h₅ e (fun c o c1 c2 c3 c4 x => hs₅.extBut _ _ c1 (hs₄ _ _ c4 (hs₃.extBut _ _ c2 (hs₂.extBut _ _ c3 (hs₁.extBut _ _ c1 x))))) ⟨oe, hs₅.extBut _ _ hez hoe, hce⟩

theorem pyNext_zipM_item {z TI TO i1 i2 l1 l2 : Addr} {k1 k2 : Nat} {xs ys : Array Value} {x y a b : Value} {Q : Option Value → Shared → Prop} (D : ZipApart z TI TO i1 i2 l1 l2)
    (hz : IsZip s.heap z TI TO .none) (hTI : IsPair s.heap TI (.ref i1) (.ref i2)) (hTO : IsPair s.heap TO a b)
    (h1 : s.heap.IsListIter i1 l1 k1) (h2 : s.heap.IsTupleIter i2 l2 k2) (hl1 : s.heap.IsList l1 xs) (hl2 : s.heap.IsTuple l2 ys) (hx : xs[k1]? = some x) (hy : ys[k2]? = some y)
    (hQ : ∀ h', IsZip h' z TI TO (rawInt s.heap.objs.size) → IsPair h' TO x y → h'.IsListIter i1 l1 (k1 + 1) → h'.IsTupleIter i2 l2 (k2 + 1) → IsPair h' s.heap.objs.size x y → h'.objs.size = s.heap.objs.size + 1 →
      (∀ c o, c ≠ z → c ≠ TO → c ≠ i1 → c ≠ i2 → s.heap.get? c = some o → h'.get? c = some o) → Q (some (.ref s.heap.objs.size)) { s with heap := h' }) :
    wpAny (model prog w) A (pyNext (.ref z)) Q E s := by
  have hT : s.TypeIs (.ref z) "zip" := ⟨_, hz, rfl⟩
  unfold pyNext
  exact wpAny_bind (wpAny_attempt (wpAny_callSpecial?_slot (name := Str.ofString "__next__") hT F.slot_zip_next
    (wpAny_call_entry F.slot_zip_next hT F.entry_zip_next
      (zipM_next_item D hz hTI hTO h1 h2 hl1 hl2 hx hy fun h' a1 a2 a3 a4 a5 a6 a7 => wpAny_pure (hQ h' a1 a2 a3 a4 a5 a6 a7)) (F.args_zip_next_1 _))))

theorem pyNext_zipM_end {z TI TO i1 i2 l1 l2 : Addr} {k1 k2 : Nat} {xs ys : Array Value} {a b : Value} {Q : Option Value → Shared → Prop} (hh : A.handled = none) (D : ZipApart z TI TO i1 i2 l1 l2)
    (hz : IsZip s.heap z TI TO .none) (hTI : IsPair s.heap TI (.ref i1) (.ref i2)) (hTO : IsPair s.heap TO a b)
    (h1 : s.heap.IsListIter i1 l1 k1) (h2 : s.heap.IsTupleIter i2 l2 k2) (hl1 : s.heap.IsList l1 xs) (hl2 : s.heap.IsTuple l2 ys) (hend : xs[k1]? = none ∨ ys[k2]? = none)
    (hQ : ∀ h', (∀ c o, c ≠ z → c ≠ TO → c ≠ i1 → c ≠ i2 → s.heap.get? c = some o → h'.get? c = some o) → Q none { s with heap := h' }) : wpAny (model prog w) A (pyNext (.ref z)) Q E s := by
  have hT : s.TypeIs (.ref z) "zip" := ⟨_, hz, rfl⟩
  unfold pyNext
  refine wpAny_bind (wpAny_attempt (wpAny_callSpecial?_slot (name := Str.ofString "__next__") hT F.slot_zip_next
    (wpAny_call_entry F.slot_zip_next hT F.entry_zip_next (zipM_next_end hh D hz hTI hTO h1 h2 hl1 hl2 hend fun h' e hk he => ?_) (F.args_zip_next_1 _))))
  obtain ⟨o, ho, hc⟩ := he
  refine wpAny_bind (wpAny_isInstance (T := "StopIteration") (b := true) ⟨o, ho, hc⟩ isSubtype_stop ?_)
  exact wpAny_pure (hQ _ hk)
end

abbrev zipMH1 (h : Heap) (l1 : Addr) : Heap := h.push { cls := .type "list_iterator", data := .fields #[.ref l1, .int 0 0] }
abbrev zipMH2 (h : Heap) (l1 l2 : Addr) : Heap := (zipMH1 h l1).push { cls := .type "tuple_iterator", data := .fields #[.ref l2, .int 0 0] }
abbrev zipMH3 (h : Heap) (l1 l2 : Addr) : Heap := (zipMH2 h l1 l2).push { cls := .type "tuple", data := .seq #[.ref h.objs.size, .ref (zipMH1 h l1).objs.size] }
abbrev zipMH4 (h : Heap) (l1 l2 : Addr) : Heap := (zipMH3 h l1 l2).push { cls := .type "tuple", data := .seq #[.none, .none] }
abbrev zipMH5 (h : Heap) (l1 l2 : Addr) : Heap := (zipMH4 h l1 l2).push { cls := .type "zip", data := .fields #[.none, .bool false, .bool false, .ref (zipMH2 h l1 l2).objs.size, .ref (zipMH3 h l1 l2).objs.size] }

theorem meets_zipM_new (l1 l2 : Addr) (xs ys : Array Value) :
    Meets (Builtin.«zip.__new__» ⟨[.type "zip", .ref l1, .ref l2], []⟩) (fun _ R s => s.heap.IsList l1 xs ∧ s.heap.IsTuple l2 ys ∧
      R (.ok (.ret (.ref (zipMH4 s.heap l1 l2).objs.size))) { s with heap := zipMH5 s.heap l1 l2 }) :=
  .of_wp fun prog w A R s h => by
    obtain ⟨hp, g, d, tk, os⟩ := s; obtain ⟨hl1, hl2, h⟩ := h
    have hsub := sub_zip
    have hL1 : Heap.IsList (Shared.heap ⟨hp, g, d, tk, os⟩) l1 xs := hl1
    have hL2 : Heap.IsTuple (Shared.heap ⟨hp.push { cls := .type "list_iterator", data := .fields #[.ref l1, .int 0 0] }, g, d, tk, os⟩) l2 ys := Heap.IsTuple.push hl2 _
    wp_walk using wpAny_pyIter_list hL1, wpAny_pyIter_tuple hL2
    exact ⟨_, rfl, h⟩

section
variable {prog : Program} {w : World} {A : Around} {E : Value → Shared → Prop} {s : Shared}

theorem call_zipM {l1 l2 : Addr} {xs ys : Array Value} {Q : Value → Shared → Prop} (hl1 : s.heap.IsList l1 xs) (hl2 : s.heap.IsTuple l2 ys)
    (h : ∀ h', IsZip h' (s.heap.objs.size + 4) (s.heap.objs.size + 2) (s.heap.objs.size + 3) .none → IsPair h' (s.heap.objs.size + 2) (.ref s.heap.objs.size) (.ref (s.heap.objs.size + 1)) →
      IsPair h' (s.heap.objs.size + 3) .none .none → h'.IsListIter s.heap.objs.size l1 0 → h'.IsTupleIter (s.heap.objs.size + 1) l2 0 → h'.objs.size = s.heap.objs.size + 5 →
      (∀ c o, s.heap.get? c = some o → h'.get? c = some o) → Q (.ref (s.heap.objs.size + 4)) { s with heap := h' }) :
    wpAny (model prog w) A (call (.type "zip") [.ref l1, .ref l2]) Q E s := by
  refine callType_new F.called_zip (by decide) (F.typeCall_zip_2 _ _) (F.newCall_zip_2 _ _) (fun obj => F.args_object_init_3 obj _ _) F.entry_zip_new
    (meets_zipM_new l1 l2 xs ys) ⟨hl1, hl2, ?_⟩
  have z1 : (zipMH1 s.heap l1).objs.size = s.heap.objs.size + 1 := Heap.size_push ..
  have z2 : (zipMH2 s.heap l1 l2).objs.size = s.heap.objs.size + 2 := by rw [Heap.size_push, z1]
  have z3 : (zipMH3 s.heap l1 l2).objs.size = s.heap.objs.size + 3 := by rw [Heap.size_push, z2]
  have z4 : (zipMH4 s.heap l1 l2).objs.size = s.heap.objs.size + 4 := by rw [Heap.size_push, z3]
  have z5 : (zipMH5 s.heap l1 l2).objs.size = s.heap.objs.size + 5 := by rw [Heap.size_push, z4]
  have g5 : (zipMH5 s.heap l1 l2).get? (zipMH4 s.heap l1 l2).objs.size = some _ := Heap.get?_push_size _ rfl
  have g4 : (zipMH5 s.heap l1 l2).get? (zipMH3 s.heap l1 l2).objs.size = some _ := Heap.get?_push_of_some _ (Heap.get?_push_size _ rfl)
  have g3 : (zipMH5 s.heap l1 l2).get? (zipMH2 s.heap l1 l2).objs.size = some _ := Heap.get?_push_of_some _ (Heap.get?_push_of_some _ (Heap.get?_push_size _ rfl))
  have g2 : (zipMH5 s.heap l1 l2).get? (zipMH1 s.heap l1).objs.size = some _ := Heap.get?_push_of_some _ (Heap.get?_push_of_some _ (Heap.get?_push_of_some _ (Heap.get?_push_size _ rfl)))
  have g1 : (zipMH5 s.heap l1 l2).get? s.heap.objs.size = some _ := Heap.get?_push_of_some _ (Heap.get?_push_of_some _ (Heap.get?_push_of_some _ (Heap.get?_push_of_some _ (Heap.get?_push_size _ rfl))))
  show _ ∧ _
  rw [z2, z3, z4] at g5
  rw [z1, z2] at g3
  rw [z3] at g4
  rw [z1] at g2
  rw [z4]
  exact ⟨⟨_, g5, rfl⟩, h _ g5 g3 g4 ⟨_, g1, rfl, rfl⟩ ⟨_, g2, rfl, rfl⟩ z5 fun c o x =>
    Heap.get?_push_of_some _ (Heap.get?_push_of_some _ (Heap.get?_push_of_some _ (Heap.get?_push_of_some _ (Heap.get?_push_of_some _ x))))⟩
end
def ItzM (K : PySem.W.Frag) (a b : Addr) : It :=
  ⟨fun i H => ∃ (xs ys : List V) (x y : V), SqL K H a xs ∧ SqT K H b ys ∧ xs[i]? = some x ∧ ys[i]? = some y,
    fun i H v H' => ∃ T x y, v = .ref T ∧ H T = none ∧ H' = upd H T (.tup [x, y]) ∧ (∀ xs, SqL K H a xs → xs[i]? = some x) ∧ ∀ ys, SqT K H b ys → ys[i]? = some y,
    fun i H => ∃ xs ys : List V, SqL K H a xs ∧ SqT K H b ys ∧ (xs.length ≤ i ∨ ys.length ≤ i)⟩
theorem turn_zipM {P : Program} {w : World} {K : PySem.W.Frag} {elts : List Expr} {kk : Nat} {tpos : Pos} {a b z TI TO i1 i2 : Addr} (D : ZipApart z TI TO i1 i2 a b) :
    Turn P w K (.Tuple elts kk tpos) (ItzM K a b) [z, TI, TO, i1, i2] z (fun i h => IsZip h z TI TO .none ∧ IsPair h TI (.ref i1) (.ref i2) ∧ (∃ x y, IsPair h TO x y) ∧ h.IsListIter i1 a i ∧ h.IsTupleIter i2 b i) where
  mem := by simp
  obj := fun i h st c hc => by
    obtain ⟨hz, hTI, ⟨x, y, hTO⟩, ⟨o1, e1, _, d1⟩, ⟨o2, e2, _, d2⟩⟩ := st
    have e' : c = z ∨ c = TI ∨ c = TO ∨ c = i1 ∨ c = i2 := by simpa using hc
    rcases e' with q | q | q | q | q
    · rw [q]; exact ⟨_, hz, fun v q => nomatch q⟩
    · rw [q]; exact ⟨_, hTI, fun v q => nomatch q⟩
    · rw [q]; exact ⟨_, hTO, fun v q => nomatch q⟩
    · rw [q]; exact ⟨o1, e1, fun v q => by rw [d1] at q; cases q⟩
    · rw [q]; exact ⟨o2, e2, fun v q => by rw [d2] at q; cases q⟩
  keep := fun i h h' st k => by
    obtain ⟨hz, hTI, ⟨x, y, hTO⟩, h1, h2⟩ := st
    exact ⟨k z (by simp) _ hz, k TI (by simp) _ hTI, ⟨x, y, k TO (by simp) _ hTO⟩, h1.at fun o q => k i1 (by simp) o q, h2.at fun o q => k i2 (by simp) o q⟩
  item := by
    intro X hP hw hK hc i pins s σ H E I hf st hg
    subst hP hw hK
    obtain ⟨hz, hTI, ⟨x0, y0, hTO⟩, h1, h2⟩ := st
    obtain ⟨xs, ys, x, y, hqx, hqy, hx, hy⟩ := hg
    obtain ⟨its, rv, p, _⟩ := I.list hqx
    obtain ⟨its2, rv2, p2, _⟩ := I.tuple hqy
    obtain ⟨u, hu, ru⟩ := rv.get hx
    obtain ⟨u2, hu2, ru2⟩ := rv2.get hy
    have hzl : z < s.heap.objs.size := Heap.lt_size hz
    refine pyNext_zipM_item D hz hTI hTO h1 h2 p.isList p2 (x := u) (y := u2) (by simpa using hu) (by simpa using hu2) fun h' z' TO' h1' h2' hT hsz hk => ?_
    refine ⟨_, rfl, wpAny_letOwnedTupleGo_zip (s := { s with heap := h' }) z' fun h'' z'' sb => ?_⟩
    have hT2 : h''.get? s.heap.objs.size = some { cls := .type "tuple", data := .seq #[u, u2] } := (sb.2 _ (Nat.ne_of_gt hzl)).trans hT
    have new : ObjOk X.prog X.w (upd H s.heap.objs.size (.tup [x, y])) h'' s.heap.objs.size (.tup [x, y]) :=
      ⟨by show 2 ≤ sizeLine; decide, [u, u2], .cons ru (.cons ru2 .nil), ⟨_, hT2, rfl, _, rfl⟩⟩
    have I1 : Inv X pins σ (upd H s.heap.objs.size (.tup [x, y])) { s with heap := h'' } :=
      I.turnedNew (t' := s.toks) (ch := [z, TI, TO, i1, i2]) (fun c o hb q => (sb.2 c (fun q' => hb (by simp [q']))).trans (hk c o (fun q' => hb (by simp [q'])) (fun q' => hb (by simp [q'])) (fun q' => hb (by simp [q'])) (fun q' => hb (by simp [q'])) q)) hf (Nat.le_refl _) new
    refine ⟨.ref s.heap.objs.size, _, I1, rfl, ⟨_, x, y, rfl, I.hok.fresh (Nat.le_refl _), rfl, fun l hl => by rw [I.list_inj hl hqx]; exact hx, fun l hl => by rw [I.tuple_inj hl hqy]; exact hy⟩, ⟨z'', ?_, ⟨u, u2, ?_⟩, ?_, ?_⟩, fun c hcm => ?_⟩
    · exact (sb.2 _ D.TIz).trans (hk _ _ D.TIz D.TITO D.TIi1 D.TIi2 hTI)
    · exact (sb.2 _ D.TOz).trans TO'
    · exact h1'.at fun o q => (sb.2 _ D.i1z).trans q
    · exact h2'.at fun o q => (sb.2 _ D.i2z).trans q
    · have hlt : c < s.heap.objs.size := by
        have e' : c = z ∨ c = TI ∨ c = TO ∨ c = i1 ∨ c = i2 := by simpa using hcm
        rcases e' with q | q | q | q | q
        · rw [q]; exact hzl
        · rw [q]; exact Heap.lt_size hTI
        · rw [q]; exact Heap.lt_size hTO
        · rw [q]; obtain ⟨_, e1, _⟩ := h1; exact Heap.lt_size e1
        · rw [q]; obtain ⟨_, e2, _⟩ := h2; exact Heap.lt_size e2
      rw [upd_ne (Nat.ne_of_lt hlt)]
      exact (hf c hcm).1
  done := by
    intro X hP hw hK hc i pins s σ H E I hf st hg
    subst hP hw hK
    obtain ⟨hz, hTI, ⟨x0, y0, hTO⟩, h1, h2⟩ := st
    obtain ⟨xs, ys, hqx, hqy, hend⟩ := hg
    obtain ⟨its, rv, p, _⟩ := I.list hqx
    obtain ⟨its2, rv2, p2, _⟩ := I.tuple hqy
    have l1 := rv.length
    have l2 := rv2.length
    have he : its.toArray[i]? = none ∨ its2.toArray[i]? = none := by
      rcases hend with q | q
      · exact .inl (by simp; omega)
      · exact .inr (by simp; omega)
    exact pyNext_zipM_end (I.ok.hd hc) D hz hTI hTO h1 h2 p.isList p2 he fun h' hk => ⟨rfl, I.turnedL (t' := s.toks) (ch := [z, TI, TO, i1, i2]) (fun c o hb q =>
      hk c o (fun q' => hb (by simp [q'])) (fun q' => hb (by simp [q'])) (fun q' => hb (by simp [q'])) (fun q' => hb (by simp [q'])) q) hf⟩
  self := fun A i s Q E st h => wpAny_pyIter_zip st.1 h

def iZipM (K : PySem.W.Frag) (ta : TA) : TI := fun σ H R => ta σ H fun vs H1 => ∃ a b xs ys, vs = [.ref a, .ref b] ∧ SqL K H1 a xs ∧ SqT K H1 b ys ∧ R (ItzM K a b) H1
theorem pi_zipM {X : Cx} {e e2 : Expr} {ta : TA} {p pos tpos : Pos} {elts : List Expr} {kk : Nat} (hg : Gl X "zip") (hm : X.mg "zip" = none) (ha : PA X [e, e2] ta)
    (hs : starEach [e, e2] X.env = (false, eval e X.env) :: starEach [e2] X.env := by rfl) (hpl : (backTo pos (starEach [e2] X.env)).any (·.1) = false := by rfl) :
    PI X (.Tuple elts kk tpos) (.Call (.Name "zip" p) [e, e2] [] pos) (iZipM X.K ta) := by
  refine ⟨fun pins s σ H R I h => ?_⟩
  refine Call_ (ld_blt I hg hm PyProof.Rows.boot_zip (PyProof.Rows.callWith_type1 (thn (ha.run pos pins s σ H _ I h) fun us s1 ⟨vs, H1, I1, r1, q1⟩ => ?_) hs hpl))
  obtain ⟨a, b, xs, ys, ex, hqx, hqy, q⟩ := q1
  subst ex
  cases r1 with
  | cons r rr =>
    cases rr with
    | cons r' rr =>
      cases rr
      cases r
      cases r'
      have fresh5 : ∀ c, c ∈ [s1.heap.objs.size + 4, s1.heap.objs.size + 2, s1.heap.objs.size + 3, s1.heap.objs.size, s1.heap.objs.size + 1] → FpOk X pins H1 c := fun c hcm => by
        have hle : s1.heap.objs.size ≤ c := by
          simp only [List.mem_cons, List.not_mem_nil, or_false] at hcm
          rcases hcm with z | z | z | z | z <;> (rw [z]; first | exact Nat.le_refl _ | exact Nat.le_add_right _ _)
        exact I1.fpOk hle (I1.hok.fresh hle)
      obtain ⟨its, rv, p1, _⟩ := I1.list hqx
      obtain ⟨its2, rv2, p2, _⟩ := I1.tuple hqy
      obtain ⟨o2, ho2, _⟩ := id p2
      refine call_zipM (show s1.heap.IsList a its.toArray from p1.isList) (show s1.heap.IsTuple b its2.toArray from p2) fun h' hz hTI hTO h1 h2 hsz hk => wpAny_pyIter_zip hz ?_
      have I2 : Inv X pins σ H1 { s1 with heap := h' } := I1.kept (t' := s1.toks) hk
      exact ⟨s1.heap.objs.size + 4, [s1.heap.objs.size + 4, s1.heap.objs.size + 2, s1.heap.objs.size + 3, s1.heap.objs.size, s1.heap.objs.size + 1], _, _, H1, rfl, I2, turn_zipM (PySem.W.ktu_apart s1.heap.objs.size a b p1.lt (Heap.lt_size ho2)), ⟨hz, hTI, ⟨_, _, hTO⟩, h1, h2⟩, fresh5, q⟩
def zipLT (fuel : Nat) (x y : W) (h : PH) : Option PIt := match y with
  | .tup ys => (lstIt fuel x h).map fun a => itZ a (itS ys)
  | _ => none
def mZipM (fuel : Nat) (m n : EM) : IM := fun ps h => (m ps h).bind fun x h1 => (n ps h1).bind fun y h2 => match zipLT fuel x y h2 with
  | some it => .ok it h2
  | none => .stuck
section
variable {K : PySem.W.Frag} {X : Cx} {W0 : WX} {e e2 : Expr} {m m2 : EM} {p pos tpos : Pos} {elts : List Expr} {kk : Nat}
theorem itZ_m {f : List Addr} {H H0 : Hp} {a b : Addr} {ia ib : PIt} (ha : RIt K H0 f H ia (Itl K a)) (hb : RIt K H0 f H ib (Itt K b)) : RIt K H0 f H (itZ ia ib) (ItzM K a b) := by
  intro f2 h2 H2 i s2
  have qa := ha f2 h2 H2 i s2
  have qb := hb f2 h2 H2 i s2
  unfold itZ
  dsimp only
  cases ea : ia.get i h2 with
  | none => trivial
  | some oa =>
    rw [ea] at qa
    cases eb : ib.get i h2 with
    | none => cases oa <;> trivial
    | some ob =>
      rw [eb] at qb
      cases oa with
      | none =>
        obtain ⟨xs, x1, x2⟩ := qa
        cases ob with
        | none =>
          obtain ⟨ys, y1, y2⟩ := qb
          exact ⟨xs, ys, x1, y1, .inl x2⟩
        | some y =>
          obtain ⟨⟨ys, v, y1, y2⟩, _⟩ := qb
          exact ⟨xs, ys, x1, y1, .inl x2⟩
      | some x =>
        obtain ⟨⟨xs, u, x1, x2⟩, x3⟩ := qa
        cases ob with
        | none =>
          obtain ⟨ys, y1, y2⟩ := qb
          exact ⟨xs, ys, x1, y1, .inr y2⟩
        | some y =>
          obtain ⟨⟨ys, v, y1, y2⟩, y3⟩ := qb
          refine ⟨⟨xs, ys, u, v, x1, y1, x2, y2⟩, fun z H' q => ?_⟩
          obtain ⟨T, u', v', rfl, hT, rfl, q1, q2⟩ := q
          have r1 := (x3 u' H2 ⟨rfl, q1⟩).2
          have r2 := (y3 v' H2 ⟨rfl, q2⟩).2
          have st := s2.sim.other (o := .tup [u', v']) hT
          exact ⟨st, rep_tup.mpr ⟨T, _, rfl, SqT.of upd_same, .cons (st.rep s2.sim r1) (.one (st.rep s2.sim r2))⟩⟩
theorem si_zipM (fuel : Nat) (hm : X.mg "zip" = none) (ha : SE X W0 e m) (hb : SE X W0 e2 m2) (hg : Gl X "zip" := by rfl) (hs : starEach [e, e2] X.env = (false, eval e X.env) :: starEach [e2] X.env := by rfl) (hs2 : starEach [e2] X.env = [(false, eval e2 X.env)] := by rfl) :
    SI X W0 (.Tuple elts kk tpos) (.Call (.Name "zip" p) [e, e2] [] pos) (mZipM fuel m m2) := pi_imp (pi_zipM hg hm (pa_cons ha (pa_cons hb pa_nil hs2) hs) hs (by rw [hs2]; rfl)) fun σ H R h => by
  obtain ⟨f, h, ps, s, sr, p⟩ := h
  refine ⟨f, h, ps, s, sr, (Post.bind (R1 := RW X.K) s back_It p).mono (fun v H1 hh => ?_) fun _ _ _ e => e⟩
  obtain ⟨f1, h1, x, s1, q1, p1⟩ := hh
  refine ⟨f1, h1, ps, s1.sim, s1.srep s sr, (Post.bind (R1 := RW X.K) s1.sim back_It p1).mono (fun u H2 hh => ?_) fun _ _ _ e => e⟩
  obtain ⟨f2, h2, y, s2, q2, p2⟩ := hh
  have q1 := s2.rep s1.sim q1
  cases y with
  | tup ys =>
    cases ez : lstIt fuel x h2 with
    | none => simp only [zipLT, ez, Option.map_none] at p2; exact p2.elim
    | some it =>
      simp only [zipLT, ez, Option.map_some] at p2
      obtain ⟨a, xs, rfl, a2, a3⟩ := lstIt_rep s2.sim q1 ez
      obtain ⟨b, us, rfl, b2, b3⟩ := rep_tup.mp q2
      exact ⟨a, b, xs, us, rfl, a2, b2, p2 f2 H2 _ (.refl s2.sim) (itZ_m a3 (it_tup s2.sim b2 b3))⟩
  | _ => exact p2.elim
end
@[simp] theorem to_zipM {n : Nat} {m m2 : EM} {ps : LS} {h : PH} {Qi : PIt → PH → Prop} : (mZipM n m m2 ps h).To Qi = (m ps h).To fun x g => (m2 ps g).To fun y g => OTo (zipLT n x y g) fun it => Qi it g := by
  simp only [mZipM, to_bind]
  congr 1
  funext x g
  congr 1
  funext y g
  cases zipLT n x y g <;> simp
/-! ### xs.extend(fresh) -/
def mExt (m : EM) (l : LM) : EM := fun ps h => (m ps h).bind fun x h1 => if tyW "list" x h1 = true then (l ps h1).bind fun zs h2 => match x with
  | .ref n => match h2[n]? with
    | some (.lst xs) => if xs.length + zs.length ≤ 16777216 then .ok .non (h2.set n (.lst (xs ++ zs))) else .stuck
    | _ => .stuck
  | _ => .stuck else .stuck
section
variable {X : Cx} {W0 : WX} {o e1 : Expr} {m : EM} {l : LM} {apos cpos : Pos}
theorem se_extend (ho : SE X W0 o m) (ha : SL X W0 e1 l) (hbase : attributeBase o "extend" X.env (eval o X.env) = eval o X.env := by rfl)
    (hfew : ((backTo cpos (starEach [e1] X.env)).all (fun x => !x.1) && (backToKw cpos (keywordEach [] X.env)).all (fun x => x.1.isSome)
      && decide (([e1] : List Expr).length + ([] : List Keyword).length + (if ([] : List Keyword).isEmpty then 0 else 1) < 30)) = true := by rfl)
    (hline : (apos.endLine == cpos.line) = true := by rfl) (hs : starEach [e1] X.env = (false, eval e1 X.env) :: starEach [] X.env := by rfl) (hplain : (backTo cpos (starEach [] X.env)).any (·.1) = false := by rfl) :
    SE X W0 (.Call (.Attribute o "extend" apos) [e1] [] cpos) (mExt m l) :=
  pe_imp (pe_bm PySem.F.plainAttrs_list PySem.F.slot_list_extend PySem.F.type_list_extend mt_extend ho (pa_cons ha pa_nil hs) hbase hfew hline hs hplain) fun σ H Q h => by
    obtain ⟨f, h, ps, s, sr, p⟩ := h
    refine ⟨f, h, ps, s, sr, (Post.bind (R1 := RW X.K) s back_W p).mono (fun v H1 hh => ?_) fun _ _ _ e => e⟩
    obtain ⟨f1, h1, x, s1, q1, p1⟩ := hh
    split at p1
    · rename_i ht
      refine ⟨tyW_of s1.sim q1 ht, f1, h1, ps, s1.sim, s1.srep s sr, (Post.bind (R1 := RL X.K) s1.sim back_W p1).mono (fun b H2 hh => ?_) fun _ _ _ e => e⟩
      obtain ⟨f2, h2, zs, s2, q2, p2⟩ := hh
      obtain ⟨q, us, rfl, hq, nq, eq, rq⟩ := q2
      have rx := s2.rep s1.sim q1
      split at p2
      · rename_i n
        split at p2
        · rename_i xs hn
          split at p2
          · rename_i hl
            obtain ⟨a, rfl, hf, vs, g1, g2⟩ := s2.sim.at hn rx
            refine ⟨a, q, vs, us, rfl, rfl, g1, eq, by rw [sizeLine_eq, ← g2.length, ← rq.length]; exact hl, ?_⟩
            have st := s2.sim.put_lst hf (g2.append rq) (fun o us z => by rw [g1] at z; cases z)
            exact p2 f2 _ .non st (rep_non.mpr rfl)
          · exact p2.elim
        · exact p2.elim
      · exact p2.elim
    · exact p1.elim
end
@[simp] theorem to_ext {m : EM} {l : LM} {ps : LS} {h : PH} {Q : W → PH → Prop} : (mExt m l ps h).To Q = (m ps h).To fun x g => tyW "list" x g = true ∧ (l ps g).To fun zs g => ∃ (n : Nat) (xs : List W), x = .ref n ∧ g[n]? = some (.lst xs) ∧ xs.length + zs.length ≤ 16777216 ∧ Q .non (g.set n (.lst (xs ++ zs))) := by
  simp only [mExt, to_bind, to_ite]
  congr 1
  funext x g
  congr 1
  congr 1
  funext zs g
  cases x with
  | ref n =>
    cases e : g[n]? with
    | none => simp [e]
    | some o => cases o <;> simp [e]
  | _ => simp
end Mir

/-! Mir: the index of a text in a text. -/
namespace Mir
open PySem PySem.Spec PyProof.Rows L2
section
variable {K : PySem.W.Frag} {X : Cx} {W0 : WX} {e o : Expr} {m m1 : EM} {apos cpos : Pos}
/-- x.index(y) where it is found -/
def wSIndex (x : W) (xs : List W) (h : PH) : Option (W × PH) := match x, xs with
  | .str a, [.str b] => match Builtin.Str.occurrences a b 0 a.length 1 with
    | i :: _ => some (.int (i : Nat), h)
    | [] => none
  | _, _ => none
theorem op_sindex : OpMt K (fun x xs H Q => ∃ a b i rest, x = .str a ∧ xs = [.str b] ∧ Builtin.Str.occurrences a b 0 a.length 1 = i :: rest ∧ Q (.int (i : Nat)) H) wSIndex := by
  intro f h H x v xs vs Q E s rx rxs p
  unfold wSIndex at p
  split at p
  · rename_i a b
    split at p
    · rename_i i rest eo
      obtain ⟨u, rfl, ru⟩ := rxs.one_inv
      exact ⟨a, b, i, rest, rep_str.mp rx, by rw [rep_str.mp ru], eo, .inl (post_ok s p (rep_int.mpr rfl))⟩
    · exact p.elim
  · exact p.elim
theorem se_sindex (ho : SE X W0 o m) (ha : SE X W0 e m1) (hbase : attributeBase o "index" X.env (eval o X.env) = eval o X.env := by rfl)
    (hfew : ((backTo cpos (starEach [e] X.env)).all (fun x => !x.1) && (backToKw cpos (keywordEach [] X.env)).all (fun x => x.1.isSome)
      && decide (([e] : List Expr).length + ([] : List Keyword).length + (if ([] : List Keyword).isEmpty then 0 else 1) < 30)) = true := by rfl)
    (hline : (apos.endLine == cpos.line) = true := by rfl) (hs : starEach [e] X.env = [(false, eval e X.env)] := by rfl) : SE X W0 (.Call (.Attribute o "index" apos) [e] [] cpos) (mMt "str" wSIndex m (mCons m1 mNil)) :=
  se_mt PySem.F.plainAttrs_str PySem.F.slot_str_index PySem.F.type_str_index mt_sindex op_sindex ho (sa_cons ha sa_nil hs) hbase hfew hline hs
end
end Mir

/-! Mir: replace of written texts, behind a written text. -/
namespace Mir
open PySem PySem.Spec PyProof.Rows L2
/-- a value behind which a token is out -/
def PEn (X : Cx) (e : Expr) (t : TE) : Prop := ∀ (pins : List (Addr × Obj)) (s : Shared) (σ : L2.St) (H : Hp) (Q : VK), Inv X pins σ H s → t σ H Q → wpAny (model X.prog X.w) X.A (eval e X.env) (fun v s1 => 1 ≤ s1.toks ∧ EP X pins σ Q v s1) X.xe s
section
variable {X : Cx} {W0 : WX} {a b e o : Expr} {m m1 m2 : EM} {ta tb : TE} {pos apos cpos p0 p1 p2 : Pos} {x y z : Str} {j k j0 : Nat} {c0 c1 : Pos}
theorem pen_imp {t t' : TE} (h : PEn X e t) (i : ∀ σ H Q, t' σ H Q → t σ H Q) : PEn X e t' := fun pins s σ H Q I q => h pins s σ H Q I (i σ H Q q)
theorem pen_str : PEn X (.Constant (.str x) j p0) (tC (.str x)) := fun pins s σ H Q I h => Calls.Constant_str ⟨by show 1 ≤ s.toks + 1; omega, .str x, H, I.tok _, ⟨_, rfl⟩, h⟩
theorem pen_op {op : Operator} {r : R2} (ho : OpR X (binaryOp op) r) (ha : PEn X a ta) (hb : PE X b tb) : PEn X (.BinOp a op b pos) (tOp r ta tb) := by
  intro pins s σ H Q I h
  refine wpAny_BinOp (wpAny_mono (ha pins s σ H _ I h) (fun v s1 q => ?_) fun _ _ z => z)
  obtain ⟨hk, x, H1, I1, r1, q1⟩ := q
  refine wpAny_mono (PySem.wpAny_toks (hb.run pins s1 σ H1 _ I1 q1)) (fun u s2 q => ?_) fun _ _ z => z.2
  obtain ⟨hk2, y, H2, I2, r2, q2⟩ := q
  exact wpAny_mono (PySem.wpAny_toks (ho pins s2 σ H2 x y v u Q I2 r1 r2 q2)) (fun _ _ q => ⟨Nat.le_trans (Nat.le_trans hk hk2) q.1, q.2⟩) fun _ _ z => z.2
theorem pe_opN {op : Operator} {r : R2} (ho : OpR X (binaryOp op) r) (ha : PEn X a ta) (hb : PET X b tb) : PE X (.BinOp a op b pos) (tOp r ta tb) := ⟨fun pins s σ H Q I h => by
  refine wpAny_BinOp (wpAny_mono (ha pins s σ H _ I h) (fun v s1 q => ?_) fun _ _ z => z)
  obtain ⟨hk, x, H1, I1, r1, q1⟩ := q
  exact thn (hb pins s1 σ H1 _ hk I1 q1) fun u s2 ⟨y, H2, I2, r2, q2⟩ => ho pins s2 σ H2 x y v u Q I2 r1 r2 q2⟩
theorem pet_imp {t t' : TE} (h : PET X e t) (i : ∀ σ H Q, t' σ H Q → t σ H Q) : PET X e t' := fun pins s σ H Q h0 I q => h pins s σ H Q h0 I (i σ H Q q)
def wRepl (y z : Str) (w : W) (h : PH) : Option (W × PH) := match w with
  | .str x => if x.length + (x.length + 1) * z.length ≤ 16777216 then some (.str (Txt.replace x y z), h) else none
  | _ => none
theorem op_repl {K : PySem.W.Frag} : Op1 K (fun v H Q => ∃ x, v = .str x ∧ x.length + (x.length + 1) * z.length ≤ 16777216 ∧ Q (.str (Txt.replace x y z)) H) (wRepl y z) := by
  intro f h H x v Q E s rx p
  unfold wRepl at p
  split at p
  · split at p
    · rename_i hb
      exact ⟨_, rep_str.mp rx, hb, post_ok s p (rep_str.mpr rfl)⟩
    · exact p.elim
  · exact p.elim
/-- 'x' * n + e.replace('y', 'z') -/
theorem se_mulRepl (hb : SE X W0 b m1) (ho : SE X W0 o m) (hyz : (y == z) = false := by decide +kernel)
    (hst : starEach [.Constant (.str y) j c0, .Constant (.str z) k c1] X.env = [(false, eval (.Constant (.str y) j c0) X.env), (false, eval (.Constant (.str z) k c1) X.env)] := by rfl)
    (hbase : attributeBase o "replace" X.env (eval o X.env) = eval o X.env := by rfl) (hline : (apos.endLine == cpos.line) = true := by rfl) :
    SE X W0 (.BinOp (.BinOp (.Constant (.str x) j0 p0) .Mult b p1) .Add (.Call (.Attribute o "replace" apos) [.Constant (.str y) j c0, .Constant (.str z) k c1] [] cpos) p2) (mOp wAdd (mOp wMul (mC (.str x)) m1) (mUn (wRepl y z) m)) := by
  have hl : PEn X (.BinOp (.Constant (.str x) j0 p0) .Mult b p1) (tE X.K W0 (mOp wMul (mC (.str x)) m1)) :=
    pen_imp (pen_op (op_mul.or (op_repT.or op_mulS)) (pen_imp pen_str fun σ H Q h => by
      obtain ⟨f, h, ps, s, _, p⟩ := h
      exact post_pure s p (by simp only [Rep])) hb) fun _ _ _ h => tE_bin op2_mul h
  have hr : PET X (.Call (.Attribute o "replace" apos) [.Constant (.str y) j c0, .Constant (.str z) k c1] [] cpos) (tE X.K W0 (mUn (wRepl y z) m)) :=
    pet_imp (CwR.pet_replC ho hyz hst hbase hline) fun σ H Q h => by
      obtain ⟨f, h, ps, s, sr, p⟩ := h
      refine ⟨f, h, ps, s, sr, (Post.bind s back_W p).mono (fun v H1 hh => ?_) fun _ _ _ e => e⟩
      obtain ⟨f1, h1, x, s1, q1, p1⟩ := hh
      exact op_repl f1 h1 H1 x v Q _ s1.sim q1 p1
  exact pe_imp (pe_frz (pe_opN (op_add.or (op_add_str.or (op_catA.or op_catS))) hl hr)) fun σ H Q h => by
    obtain ⟨f, h, ps, s, sr, p⟩ := h
    refine ⟨f, h, ps, s, sr, (Post.bind (R1 := RW X.K) s back_W p).mono (fun v H1 hh => ?_) fun _ _ _ e => e⟩
    obtain ⟨f1, h1, x, s1, q1, p1⟩ := hh
    refine ⟨f1, h1, ps, s1.sim, s1.srep s sr, (Post.bind (R1 := RW X.K) s1.sim back_W p1).mono (fun u H2 hh => ?_) fun _ _ _ e => e⟩
    obtain ⟨f2, h2, y, s2, q2, p2⟩ := hh
    exact op2_add f2 h2 H2 x y v u Q _ s2.sim (s2.rep s1.sim q1) q2 p2
end
end Mir

/-! Mir: a slice of a list as a list that may change. -/
namespace Mir
open PySem PySem.Spec PyProof.Rows L2
section
variable {X : Cx} {W0 : WX} {a : Expr} {m1 : EM} {pos p2 : Pos}
def mSlL (m : EM) (lo hi : Option EM) : LM := fun ps h => (m ps h).bind fun x h1 => (mPart lo ps h1).bind fun l h2 => (mPart hi ps h2).bind fun u h3 => match lstOf x h3 with
  | some xs => .ok (cutW xs l u) h3
  | none => .stuck
theorem sl_slice {lo hi : Option Expr} {ml mh : Option EM} (ha : SE X W0 a m1) (hl : SPO X W0 lo ml) (hh : SPO X W0 hi mh) : SL X W0 (.Subscript a (.Slice lo hi none p2) pos) (mSlL m1 ml mh) := by
  obtain ⟨tl, pl, il⟩ := hl.po
  obtain ⟨th, ph, ih⟩ := hh.po
  refine pe_imp (pe_slice sl_list ha pl ph) fun σ H Q h => ?_
  obtain ⟨f, h, ps, s, sr, p⟩ := h
  refine ⟨f, h, ps, s, sr, (Post.bind (R1 := RW X.K) s back_L p).mono (fun v H1 hh => ?_) fun _ _ _ e => e⟩
  obtain ⟨f1, h1, x, s1, q1, p1⟩ := hh
  refine il σ H1 _ ⟨f1, h1, ps, s1.sim, s1.srep s sr, (Post.bind (R1 := RI) s1.sim back_L p1).mono (fun l H2 hh => ?_) fun _ _ _ e => e⟩
  obtain ⟨f2, h2, l', s2, q2, p2⟩ := hh
  cases q2
  refine ih σ H2 _ ⟨f2, h2, ps, s2.sim, s2.srep s1.sim (s1.srep s sr), (Post.bind (R1 := RI) s2.sim back_L p2).mono (fun u H3 hh => ?_) fun _ _ _ e => e⟩
  obtain ⟨f3, h3, u', s3, q3, p3⟩ := hh
  cases q3
  split at p3
  · rename_i ws e
    obtain ⟨a, vs, rfl, hs, rr⟩ := lstOf_rep s3.sim (s3.rep s2.sim (s2.rep s1.sim q1)) e
    refine ⟨a, vs, rfl, hs, fun q hq => ?_⟩
    have st := s3.sim.other (o := .lst (cutV vs l u)) hq
    exact p3 f3 _ _ st ⟨q, _, rfl, hq, s3.sim.fresh hq, upd_same, Reps.mono (.refl f3) (s3.sim.stay st.grow) _ _ (rr.cut l u)⟩
  · exact p3.elim
end
end Mir

/-! texts by their codes (shared; cut from k01's texts) -/
namespace Mir
open PySem PySem.Spec PyProof.Rows L2 SX
abbrev Asc (a : List Nat) : Prop := ∀ c ∈ a, c < 128
def lowC (c : Nat) : Bool := decide (97 ≤ c) && decide (c ≤ 122)
def figC (c : Nat) : Bool := decide (48 ≤ c) && decide (c ≤ 57)
def lowL : List Nat := (List.range 26).map (· + 97)
def figL : List Nat := (List.range 10).map (· + 48)
theorem letters : PySem.Str.ofString "abcdefghijklmnopqrstuvwxyz" = S lowL := by decide +kernel
theorem figures : PySem.Str.ofString "0123456789" = S figL := by decide +kernel
theorem in_sign {c : Nat} {l : List Nat} {h : PH} : wIn (.str (S [c])) (.str (S l)) h = some (.bl (decide (c ∈ l)), h) := rfl
theorem notIn_sign {c : Nat} {l : List Nat} {h : PH} : wNotIn (.str (S [c])) (.str (S l)) h = some (.bl (!decide (c ∈ l)), h) := rfl
theorem mem_low {c : Nat} : decide (c ∈ lowL) = lowC c := by
  unfold lowC lowL
  by_cases h : 97 ≤ c ∧ c ≤ 122
  · rw [decide_eq_true h.1, decide_eq_true h.2, decide_eq_true (List.mem_map.mpr ⟨c - 97, List.mem_range.mpr (by omega), by omega⟩)]
    rfl
  · rw [decide_eq_false (fun z => by obtain ⟨i, hi, e⟩ := List.mem_map.mp z; have := List.mem_range.mp hi; omega)]
    by_cases h1 : 97 ≤ c
    · rw [decide_eq_false (p := c ≤ 122) (fun z => h ⟨h1, z⟩)]; simp
    · rw [decide_eq_false h1]; rfl
theorem mem_fig {c : Nat} : decide (c ∈ figL) = figC c := by
  unfold figC figL
  by_cases h : 48 ≤ c ∧ c ≤ 57
  · rw [decide_eq_true h.1, decide_eq_true h.2, decide_eq_true (List.mem_map.mpr ⟨c - 48, List.mem_range.mpr (by omega), by omega⟩)]
    rfl
  · rw [decide_eq_false (fun z => by obtain ⟨i, hi, e⟩ := List.mem_map.mp z; have := List.mem_range.mp hi; omega)]
    by_cases h1 : 48 ≤ c
    · rw [decide_eq_false (p := c ≤ 57) (fun z => h ⟨h1, z⟩)]; simp
    · rw [decide_eq_false h1]; rfl
theorem wLen_S {a : List Nat} {h : PH} (hl : a.length ≤ 100000) : wLen [.str (S a)] h = some (.int (a.length : Nat), h) := by
  simp only [wLen]
  rw [S_len, if_pos (by omega)]
theorem iter_S {a : List Nat} {h : PH} {n : Nat} : iterOf n (.str (S a)) h = some (itS (a.map fun c => .str (S [c]))) := rfl
theorem bools_map {α : Type} (p : α → Bool) : ∀ l : List α, bools (l.map fun x => W.bl (p x)) = some (l.map p)
  | [] => rfl
  | a :: l => by simp [bools, bools_map p l]
theorem wAll_map {α : Type} {p : α → Bool} {l : List α} {h : PH} : wAll (l.map fun x => W.bl (p x)) h = some (.bl (l.all p), h) := by
  unfold wAll
  rw [bools_map, Option.map_some, List.all_map]
  rfl
theorem sOk {a : List Nat} (h : Asc a) : PyData.strOk (S a) = true := by
  unfold PyData.strOk
  rw [← Array.all_toList]
  exact List.all_eq_true.mpr fun c hc => decide_eq_true (by have := h c hc; omega)
theorem pls_S {k : Nat} : ∀ {l : List (List Nat)}, (∀ a ∈ l, Asc a) → plWs k (l.map fun a => .str (S a)) = true := fun {l} h => pls_map _ _ fun a ha => by rw [pl_str]; exact sOk (h a ha)
theorem eq_S0 {l : List (List Nat)} (hl : ∀ a ∈ l, Asc a) {h : PH} : wEq (.fix (l.map fun a => .str (S a))) (.fix []) h = some (.bl (decide (l = [])), h) := by
  rw [wEq_pl (n := 2) (m := 2) (by rw [pl_fix]; exact pls_S hl) (by simp) (by decide) (by decide)]
  congr 3
  cases l <;> simp
theorem ne_S0 {l : List (List Nat)} (hl : ∀ a ∈ l, Asc a) {h : PH} : wNe (.fix (l.map fun a => .str (S a))) (.fix []) h = some (.bl (!decide (l = [])), h) := by
  rw [wNe_pl (n := 2) (m := 2) (by rw [pl_fix]; exact pls_S hl) (by simp) (by decide) (by decide)]
  congr 4
  cases l <;> simp
theorem eq_S {a b : List Nat} {h : PH} : wEq (.str (S a)) (.str (S b)) h = some (.bl (decide (a = b)), h) := by
  show some (W.bl (S a == S b), h) = _
  rw [S_beq_eq]
theorem ne_S {a b : List Nat} {h : PH} : wNe (.str (S a)) (.str (S b)) h = some (.bl (!decide (a = b)), h) := by
  show some (W.bl (!(S a == S b)), h) = _
  rw [S_beq_eq]
section
variable {h : PH} {psw : LS} {g : GM} {te : EM} {tt : BM} {Ql : List W → PH → Prop}
theorem lc_mapW {α : Type} {L : List α} {enc u : α → W} (hl : L.length ≤ 1000000) (he : ∀ a ∈ L, ∃ ps1, g (enc a) psw = some ps1 ∧ ∀ Q : W → PH → Prop, Q (u a) h → (te ps1 h).To Q) (q : Ql (L.map u) h) :
    (lcGo (itS (L.map enc)) g mYes te psw (itS (L.map enc)).fuel 0 [] h).To Ql := by
  refine lc_items (fun i acc g' => acc = (L.take i).map u ∧ g' = h) ⟨rfl, rfl⟩ ?_ ?_
  · rintro i w acc g' ei ⟨rfl, rfl⟩
    rw [List.getElem?_map] at ei
    obtain ⟨a, ea, rfl⟩ := Option.map_eq_some_iff.mp ei
    have hi := (List.getElem?_eq_some_iff.mp ea).1
    obtain ⟨ps1, e1, e2⟩ := he a (List.mem_of_getElem? ea)
    refine ⟨ps1, e1, ?_⟩
    rw [to_yes, Ite_true]
    refine e2 _ ⟨by rw [List.length_map, List.length_take]; omega, ?_, rfl⟩
    rw [List.take_succ, ea, List.map_append]
    rfl
  · rintro acc g' ⟨rfl, rfl⟩
    rw [List.length_map, List.take_length]
    exact q
end
theorem take_filter' {α : Type} {L : List α} {p : α → Bool} {i : Nat} {a : α} (e : L[i]? = some a) : (L.take (i + 1)).filter p = (L.take i).filter p ++ (if p a then [a] else []) := by
  rw [List.take_succ, e, List.filter_append]
  cases q : p a <;> simp [q]
section
variable {h : PH} {psw : LS} {g : GM} {te : EM} {tt : BM} {Ql : List W → PH → Prop}
theorem lc_filtW {α : Type} {L : List α} {enc u : α → W} (p : α → Bool) (hl : L.length ≤ 1000000) (he : ∀ a ∈ L, ∃ ps1, g (enc a) psw = some ps1 ∧ (∀ Q : Bool → PH → Prop, Q (p a) h → (tt ps1 h).To Q) ∧ (p a = true → ∀ Q : W → PH → Prop, Q (u a) h → (te ps1 h).To Q)) (q : Ql ((L.filter p).map u) h) :
    (lcGo (itS (L.map enc)) g tt te psw (itS (L.map enc)).fuel 0 [] h).To Ql := by
  refine lc_items (fun i acc g' => acc = ((L.take i).filter p).map u ∧ g' = h) ⟨rfl, rfl⟩ ?_ ?_
  · rintro i w acc g' ei ⟨rfl, rfl⟩
    rw [List.getElem?_map] at ei
    obtain ⟨a, ea, rfl⟩ := Option.map_eq_some_iff.mp ei
    have hi := (List.getElem?_eq_some_iff.mp ea).1
    obtain ⟨ps1, e1, e2, e3⟩ := he a (List.mem_of_getElem? ea)
    refine ⟨ps1, e1, e2 _ ?_⟩
    have hlen : ((L.take i).filter p).length ≤ L.length := Nat.le_trans (List.length_filter_le _ _) (by rw [List.length_take]; omega)
    refine .ofB (fun c => ?_) fun c => ?_
    · refine e3 c _ ⟨by rw [List.length_map]; omega, ?_, rfl⟩
      rw [take_filter' ea, if_pos c, List.map_append]
      rfl
    · refine ⟨?_, rfl⟩
      rw [take_filter' ea, if_neg (by rw [c]; decide), List.append_nil]
  · rintro acc g' ⟨rfl, rfl⟩
    rw [List.length_map, List.take_length]
    exact q
end
theorem all_not {p q : Nat → Bool} (h : ∀ c, q c = !p c) (l : List Nat) : decide (l.filter q = []) = l.all p := by
  cases e : l.all p with
  | true => exact decide_eq_true (List.filter_eq_nil_iff.mpr fun c hc => by rw [h, List.all_eq_true.mp e c hc]; simp)
  | false =>
    refine decide_eq_false fun z => ?_
    have : l.all p = true := List.all_eq_true.mpr fun c hc => by
      have := List.filter_eq_nil_iff.mp z c hc
      rw [h] at this
      simpa using this
    rw [this] at e
    cases e
theorem wSl_to {a : List Nat} {h : PH} (hl : a.length ≤ 100000) {i : Int} (hi : 0 ≤ i) : wSl (.str (S a)) none (some i) h = some (.str (S (a.take i.toNat)), h) := by
  simp only [wSl]
  rw [S_len, if_pos (by omega), C8.cutS_slice, slice_to hi]
theorem wSl_from {a : List Nat} {h : PH} (hl : a.length ≤ 100000) {i : Int} (hi : 0 ≤ i) : wSl (.str (S a)) (some i) none h = some (.str (S (a.drop i.toNat)), h) := by
  simp only [wSl]
  rw [S_len, if_pos (by omega), C8.cutS_slice, slice_from hi]
theorem dash : PySem.Str.ofString "-" = S [45] := by decide +kernel
theorem zero : PySem.Str.ofString "0" = S [48] := by decide +kernel
theorem empty : PySem.Str.ofString "" = S [] := by decide +kernel
theorem head_S {a : List Nat} {c : Nat} {r : List Nat} (e : a = c :: r) {h : PH} (hl : a.length ≤ 100000) : wIx (.str (S a)) (.int 0) h = some (.str (S [c]), h) := by
  subst e
  simp only [wIx]
  rw [S_len, if_pos (by omega)]
  show (atI (c :: r) 0).map _ = _
  have : atI (c :: r) 0 = some c := by simp [atI, ixN]
  rw [this]
  rfl
def full (p : List Nat) : Bool := !decide (p = [])
def strW (p : List Nat) : W := .str (S p)
theorem blank1 : PySem.Str.ofString " " = S [32] := by decide +kernel
theorem pre_c {c : Nat} {r : List Nat} : TL.pre [32] (c :: r) = decide (c = 32) := by
  show ([c] == [32]) = _
  by_cases h : c = 32
  · subst h; rfl
  · rw [decide_eq_false h]
    simp [h]
theorem spl_mem : ∀ {l w p : List Nat}, p ∈ TL.spl [32] 0 w l → ∀ c ∈ p, c ∈ w ∨ c ∈ l
  | [], w, p, h, c, hc => by
    rw [TL.spl_nil, List.mem_singleton] at h
    subst h
    exact .inl hc
  | d :: r, w, p, h, c, hc => by
    by_cases e : d = 32
    · rw [TL.spl_hit (by rw [pre_c]; exact decide_eq_true e)] at h
      rcases List.mem_cons.mp h with rfl | h
      · exact .inl hc
      · rcases spl_mem h c hc with z | z
        · cases z
        · exact .inr (List.mem_cons_of_mem _ z)
    · rw [TL.spl_miss (by rw [pre_c]; exact decide_eq_false e)] at h
      rcases spl_mem h c hc with z | z
      · rcases List.mem_append.mp z with z | z
        · exact .inl z
        · rw [List.mem_singleton.mp z]; exact .inr List.mem_cons_self
      · exact .inr (List.mem_cons_of_mem _ z)
theorem at_ix {l : List W} {r : Int} (h0 : 0 ≤ r) (h1 : r < l.length) : ∃ w, atI l r = some w ∧ w ∈ l := by
  rw [atI_nat _ _ h0]
  exact ⟨_, List.getElem?_eq_getElem (by omega), List.getElem_mem _⟩
theorem sign_at {a : List Nat} {r : Int} (hl : a.length ≤ 100000) (h0 : 0 ≤ r) (h1 : r < a.length) : ∃ c ∈ a, ∀ h, wIx (.str (S a)) (.int r) h = some (.str (S [c]), h) := by
  refine ⟨a[r.toNat]'(by omega), List.getElem_mem _, fun h => ?_⟩
  simp only [wIx]
  rw [S_len, if_pos (by omega)]
  show (atI a r).map _ = _
  rw [atI_nat _ _ h0, List.getElem?_eq_getElem (by omega)]
  rfl
theorem strs_map : ∀ a : List Nat, strsW (a.map fun c => W.str (S [c])) = some ((a.map fun c => [c]).map S)
  | [] => rfl
  | c :: a => by
    have := strs_map a
    simp only [List.map_cons, strsW, this, Option.map_some]
theorem joinL_nil : ∀ l : List (List Nat), TL.joinL [] l = l.flatten
  | [] => rfl
  | [p] => by simp [TL.joinL]
  | p :: q :: r => by
    have := joinL_nil (q :: r)
    simp only [TL.joinL, this, List.flatten_cons, List.nil_append]
theorem flat1 : ∀ a : List Nat, (a.map fun c => [c]).flatten = a
  | [] => rfl
  | c :: a => by simp [flat1 a]
theorem sum1 : ∀ a : List Nat, (((a.map fun c => [c]).map S).map (·.length)).sum = a.length
  | [] => rfl
  | c :: a => by
    have := sum1 a
    simp only [List.map_cons, List.sum_cons, this, S_len, List.length_cons, List.length_nil]
    omega
theorem join_signs {a : List Nat} (hl : a.length ≤ 100000) {h : PH} : wJoin (.str (S [])) [.fix (a.map fun c => .str (S [c]))] h = some (.str (S a), h) := by
  simp only [wJoin, seqOf, Option.bind_some, strs_map]
  rw [sum1, S_len, if_pos (by simp; omega), join_S, joinL_nil, flat1]
theorem low_asc {a : List Nat} (h : ∀ c ∈ a, c ∈ lowL) : Asc a := fun c hc => by
  obtain ⟨i, hi, rfl⟩ := List.mem_map.mp (h c hc)
  have := List.mem_range.mp hi
  omega
theorem fig_asc {a : List Nat} (h : ∀ c ∈ a, c ∈ figL) : Asc a := fun c hc => by
  obtain ⟨i, hi, rfl⟩ := List.mem_map.mp (h c hc)
  have := List.mem_range.mp hi
  omega
theorem asc_take {a : List Nat} (h : Asc a) (n : Nat) : Asc (a.take n) := fun c hc => h c (List.mem_of_mem_take hc)
theorem asc_drop {a : List Nat} (h : Asc a) (n : Nat) : Asc (a.drop n) := fun c hc => h c (List.mem_of_mem_drop hc)
theorem asc_app {a b : List Nat} (h : Asc a) (k : Asc b) : Asc (a ++ b) := fun c hc => by
  rcases List.mem_append.mp hc with z | z
  · exact h c z
  · exact k c z
theorem eq_bb {b : Bool} {h : PH} : wEq (.bl b) (.bl b) h = some (.bl true, h) := by cases b <;> rfl
theorem ne_bb {b : Bool} {h : PH} : wNe (.bl b) (.bl b) h = some (.bl false, h) := by cases b <;> rfl
end Mir

/-! objects, sorted, index: how their computations end -/
namespace Mir
open PySem PySem.Spec PyProof.Rows L2
section
variable {Q : W → PH → Prop} {Ql : List W → PH → Prop} {N B C : LS → PH → Prop} {R : W → PH → Prop} {ps : LS} {h : PH} {m m1 m2 : EM} {l : LM} {kc : List Str} {f c mn : Str} {n : Nat} {F : FM}
@[simp] theorem to_setfld : (sSetFld kc f m1 m2 ps h).To N R B C = (m1 ps h).To fun w g => (m2 ps g).To fun x g => OTo (setFW kc f x w g) fun g' => N ps g' := by
  simp only [sSetFld, to_thenS]
  congr 1
  funext w g
  congr 1
  funext x g
  cases setFW kc f x w g <;> simp
@[simp] theorem to_mth : (mMth c mn n F m l ps h).To Q = (m ps h).To fun x g => insOf c mn x g = true ∧ (l ps g).To fun xs g => xs.length + 1 = n ∧ (F (x :: xs) g).To Q := by
  simp [mMth]
@[simp] theorem to_mth0 : (mMth0 c mn F m ps h).To Q = (m ps h).To fun x g => insOf c mn x g = true ∧ (F [x] g).To Q := by
  simp [mMth0]
@[simp] theorem to_make : (mMake c n F l ps h).To Q = (l ps h).To fun xs g => xs.length + 1 = n ∧ (F (.ref g.length :: xs) (g ++ [.ins c []])).To fun w g2 => w = .non ∧ Q (.ref g.length) g2 := by
  simp only [mMake, to_bind]
  congr 1
  funext xs g
  by_cases e : xs.length + 1 = n
  · simp only [e, if_true, to_bind, true_and]
    congr 1
    funext w g2
    cases w <;> simp
  · simp [e]
@[simp] theorem to_onV {α : Type} {Qa : α → PH → Prop} {o : W → PH → Option (α × PH)} : (mOnV o m ps h).To Qa = (m ps h).To fun x g => PTo (o x g) Qa := by simp [mOnV]
@[simp] theorem to_rev : (mRev m ps h).To Ql = (m ps h).To fun x g => OTo (lstOf x g) fun ws => Ql ws.reverse g := by
  simp only [mRev, to_bind]
  congr 1
  funext x g
  cases lstOf x g <;> simp
@[simp] theorem to_listRg1 : (mListRg1 m ps h).To Ql = (m ps h).To fun x g => ∃ k : Int, x = .int k ∧ (-1000000 ≤ k ∧ k ≤ 1000000) ∧ Ql (rangeW 0 k.toNat) g := by
  simp only [mListRg1, to_bind]
  congr 1
  funext x g
  cases x <;> simp
@[simp] theorem to_repL : (mRepL l m ps h).To Ql = (l ps h).To fun xs g => (m ps g).To fun y g => ∃ k : Int, y = .int k ∧ (-1000000 ≤ k ∧ k ≤ 1000000 ∧ xs.length * k.toNat ≤ 16777216) ∧ Ql (List.replicate k.toNat xs).flatten g := by
  simp only [mRepL, to_bind]
  congr 1
  funext xs g
  congr 1
  funext y g
  cases y <;> simp
theorem fldW_ins {fs : List (Str × W)} (e : h[n]? = some (.ins c fs)) (hc : c ∈ kc) : fldW kc f (.ref n) h = (fs.lookup f).map fun w => (w, h) := by
  simp only [fldW, e]
  rw [if_pos hc]
theorem setFW_ins {fs : List (Str × W)} {w : W} (e : h[n]? = some (.ins c fs)) (hc : c ∈ kc) (hl : fs.length < 1000) : setFW kc f (.ref n) w h = some (h.set n (.ins c (putFW f w fs))) := by
  simp only [setFW, e]
  rw [if_pos ⟨hc, hl⟩]
theorem insOf_ins {fs : List (Str × W)} (e : h[n]? = some (.ins c fs)) (hl : fs.lookup mn = none) : insOf c mn (.ref n) h = true := by
  simp only [insOf, e]
  simp [hl]
theorem setW_dK {kvs : List (Key × W)} {y w : W} {k : Key} (e : h[n]? = some (.dK kvs)) (hk : keyW y = some k) (hl : kvs.length < 16777216) : setW (.ref n) y w h = some (h.set n (.dK (putKW kvs k w))) := by
  simp only [setW, e, hk]
  rw [if_pos (by omega)]
theorem at0 {α : Type} {x : α} {xs : List α} : atI (x :: xs) 0 = some x := by simp [atI, ixN]
theorem at1 {α : Type} {x y : α} {xs : List α} : atI (x :: y :: xs) 1 = some y := by
  rw [atI_nat _ _ (by decide)]
  rfl
theorem ints_map (l : List Int) : intsW (l.map W.int) = some l := by
  induction l with
  | nil => rfl
  | cons a r ih => simp [intsW, ih]
theorem keysI_map {α : Type} (g : α → Int) (v : α → W) (l : List α) : keysI (l.map fun a => ((.inl (g a) : Key), v a)) = some (l.map g) := by
  induction l with
  | nil => rfl
  | cons a r ih => simp [keysI, ih]
theorem find_flat {ws : List W} {y : W} {j : Nat} (hj : j < ws.length) (h1 : eqF ws[j] y = true) (h2 : ∀ m (hm : m < j), eqF (ws[m]'(by omega)) y = false) : ws.findIdx? (fun z => eqF z y) = some j := by
  rw [List.findIdx?_eq_some_iff_getElem]
  exact ⟨hj, h1, fun m hm => by simpa using h2 m hm⟩
end
end Mir

/-! what is raised: a calculus beside To (shared) -/
namespace Mir
open PySem PySem.Spec PyProof.Rows L2
@[irreducible] def Res.Tx {α : Type} (r : Res α) (c : XV → PH → Prop) : Prop := match r with
  | .exc x h => c x h
  | _ => False
@[irreducible] def SRes.Tx (r : SRes) (c : XV → LS → PH → Prop) : Prop := match r with
  | .exc x ps h => c x ps h
  | _ => False
section
variable {α β : Type} {c : XV → PH → Prop} {cs : XV → LS → PH → Prop} {N B C : LS → PH → Prop} {R : W → PH → Prop} {ps : LS} {h : PH} {M M2 : SM} {m : EM} {l : LM} {g : GM} {t : BM} {F : FM} {n : Nat} {ws : List W}
theorem Res.Tx.is {r : Res α} (q : r.Tx c) : ∃ x h, r = .exc x h ∧ c x h := by
  unfold Res.Tx at q
  cases r with
  | exc x g => exact ⟨x, g, rfl, q⟩
  | ok a g => exact q.elim
  | stuck => exact q.elim
theorem SRes.Tx.is {r : SRes} (q : r.Tx cs) : ∃ x ps h, r = .exc x ps h ∧ cs x ps h := by
  unfold SRes.Tx at q
  cases r with
  | exc x p g => exact ⟨x, p, g, rfl, q⟩
  | nx a g => exact q.elim
  | rt a g => exact q.elim
  | bk a g => exact q.elim
  | ct a g => exact q.elim
  | stuck => exact q.elim
@[simp] theorem tx_exc {x : XV} : (Res.exc x h : Res α).Tx c = c x h := by unfold Res.Tx; rfl
@[simp] theorem tx_sexc {x : XV} : (SRes.exc x ps h).Tx cs = cs x ps h := by unfold SRes.Tx; rfl
theorem Res.Tx.mono {r : Res α} {c' : XV → PH → Prop} (q : r.Tx c) (i : ∀ x h, c x h → c' x h) : r.Tx c' := by
  obtain ⟨x, g, rfl, z⟩ := q.is
  rw [tx_exc]
  exact i _ _ z
theorem SRes.To.isN {r : SRes} (q : r.To N (fun _ _ => False) (fun _ _ => False) fun _ _ => False) : ∃ ps h, r = .nx ps h ∧ N ps h := by
  unfold SRes.To at q
  cases r with
  | nx a g => exact ⟨a, g, rfl, q⟩
  | rt a g => exact q.elim
  | bk a g => exact q.elim
  | ct a g => exact q.elim
  | exc x p g => exact q.elim
  | stuck => exact q.elim
/-- the first one raises -/
theorem seq_tx1 (q : (M ps h).Tx cs) : (sSeq M M2 ps h).Tx cs := by
  obtain ⟨x, p, g, e, z⟩ := q.is
  unfold sSeq
  rw [e]
  simpa using z
/-- the second one does -/
theorem seq_tx2 (q : (M ps h).To (fun ps1 g => (M2 ps1 g).Tx cs) (fun _ _ => False) (fun _ _ => False) fun _ _ => False) : (sSeq M M2 ps h).Tx cs := by
  obtain ⟨p, g, e, z⟩ := q.isN
  unfold sSeq
  rw [e]
  exact z
theorem bind_tx1 {r : Res β} {k : β → PH → Res α} (q : r.Tx c) : (r.bind k).Tx c := by
  obtain ⟨x, g, rfl, z⟩ := q.is
  simpa [Res.bind] using z
theorem bind_tx2 {r : Res β} {k : β → PH → Res α} (q : r.To fun a g => (k a g).Tx c) : (r.bind k).Tx c := by
  obtain ⟨x, g, rfl, z⟩ := q.is
  exact z
theorem thenS_tx1 {r : Res β} {k : β → PH → SRes} (q : r.Tx fun x g => cs x ps g) : (r.thenS ps k).Tx cs := by
  obtain ⟨x, g, rfl, z⟩ := q.is
  simpa [Res.thenS] using z
theorem thenS_tx2 {r : Res β} {k : β → PH → SRes} (q : r.To fun a g => (k a g).Tx cs) : (r.thenS ps k).Tx cs := by
  obtain ⟨x, g, rfl, z⟩ := q.is
  exact z
theorem asg_tx (q : (m ps h).Tx fun x g => cs x ps g) : (sAsg m g ps h).Tx cs := thenS_tx1 q
theorem drop_tx (q : (m ps h).Tx fun x g => cs x ps g) : (sDrop m ps h).Tx cs := thenS_tx1 q
theorem ret_tx (q : (m ps h).Tx fun x g => cs x ps g) : (sRet m ps h).Tx cs := thenS_tx1 q
@[simp] theorem raise_tx {d : Str} : (sRaise d ps h).Tx cs = cs ⟨d, []⟩ ps h := by simp [sRaise]
theorem if_tx (q : (t ps h).To fun b g => Ite b ((M ps g).Tx cs) ((M2 ps g).Tx cs)) : (sIf t M M2 ps h).Tx cs := by
  unfold sIf
  refine thenS_tx2 (q.mono fun b g z => ?_)
  cases b <;> simpa using z
theorem fn_tx (q : (l ps h).To fun xs g => xs.length = n ∧ (F xs g).Tx c) : (mFn n F l ps h).Tx c := by
  unfold mFn
  refine bind_tx2 (q.mono fun xs g z => ?_)
  rw [if_pos z.1]
  exact z.2
theorem run_tx (q : (M (startW n ws) h).Tx fun x _ g => c x g) : (runB n M ws h).Tx c := by
  obtain ⟨x, p, g, e, z⟩ := q.is
  unfold runB
  rw [e]
  simpa using z
theorem to_noex {r : SRes} {c2 : XV → LS → PH → Prop} (q : r.Tx c2) (i : ∀ x ps h, c2 x ps h → cs x ps h) : r.Tx cs := by
  obtain ⟨x, p, g, rfl, z⟩ := q.is
  rw [tx_sexc]
  exact i _ _ _ z
/-- nothing is raised -/
theorem try_ok {kn : List Str} {l : List ClM} (q : (M ps h).To N R B C) : (sTry kn M l ps h).To N R B C := by
  unfold sTry
  cases e : M ps h with
  | exc x p g => rw [e] at q; simp at q
  | nx a g => rw [e] at q; exact q
  | rt a g => rw [e] at q; exact q
  | bk a g => rw [e] at q; exact q
  | ct a g => rw [e] at q; exact q
  | stuck => rw [e] at q; exact q
/-- what is raised is caught by the first clause, and kept -/
theorem try_caught {kn : List Str} {d : Str} {i : Nat} {k : SM} {l : List ClM} (q : (M ps h).Tx fun x ps1 h1 => kn.contains x.c = true ∧ isSub x.c d = true ∧ (k (ps1.set i (some (.exc x))) h1).To (fun ps2 h2 => N (ps2.set i none) h2) R (fun ps2 h2 => B (ps2.set i none) h2) fun ps2 h2 => C (ps2.set i none) h2) : (sTry kn M (⟨d, some i, k⟩ :: l) ps h).To N R B C := by
  obtain ⟨x, p, g, e, z1, z2, z3⟩ := q.is
  unfold sTry
  rw [e]
  dsimp only
  rw [if_pos z1]
  unfold hnd
  rw [if_pos z2]
  dsimp only [bindE]
  cases e2 : k (p.set i (some (.exc x))) g with
  | nx a g => rw [e2] at z3; simpa [resE, endE] using z3
  | rt a g => rw [e2] at z3; simpa [resE, endE] using z3
  | bk a g => rw [e2] at z3; simpa [resE, endE] using z3
  | ct a g => rw [e2] at z3; simpa [resE, endE] using z3
  | exc x p g => rw [e2] at z3; simp at z3
  | stuck => rw [e2] at z3; simp at z3
theorem lift0_tx {P : XV → Prop} (hw : refsWs ws = []) (q : (F ws []).Tx fun x _ => P x) : (lift0 F ws h).Tx fun x g => P x ∧ g = h := by
  obtain ⟨x, g, e, z⟩ := q.is
  unfold lift0
  rw [if_pos hw, e]
  simp only [outR, tx_exc]
  exact ⟨z, by trivial⟩
end
theorem to_isx {kn ns : List Str} {m : EM} {ps : LS} {h : PH} {Q : W → PH → Prop} : (mIsX kn ns m ps h).To Q = (m ps h).To fun x g => ∃ y, x = .exc y ∧ kn.contains y.c = true ∧ Q (.bl (ns.any (isSub y.c))) g := by
  simp only [mIsX, to_bind]
  congr 1
  funext x g
  cases x with
  | exc y => by_cases q : kn.contains y.c = true <;> simp [q]
  | _ => simp
end Mir

/-! what a loop raises (shared) -/
namespace Mir
open PySem PySem.Spec PyProof.Rows L2
section
variable {cs : XV → LS → PH → Prop} {ps : LS} {h : PH} {M : SM} {m : IM}
theorem for_tx {it : PIt} {items : List W} {g : GM} (I : Nat → LS → PH → Prop) (get : ∀ i ps h, I i ps h → it.get i h = some items[i]?) (i0 : Nat) (h0 : i0 < items.length)
    (step : ∀ i w ps h, i < i0 → items[i]? = some w → I i ps h → ∃ ps1, g w ps = some ps1 ∧ (M ps1 h).To (I (i + 1)) (fun _ _ => False) (fun _ _ => False) (I (i + 1)))
    (last : ∀ w ps h, items[i0]? = some w → I i0 ps h → ∃ ps1, g w ps = some ps1 ∧ (M ps1 h).Tx cs) :
    ∀ (k i : Nat) (ps : LS) (h : PH), i ≤ i0 → items.length < i + k → I i ps h → (forGo it g M k i ps h).Tx cs
  | 0, i, ps, h, hi, hk, q => by omega
  | k + 1, i, ps, h, hi, hk, q => by
    unfold forGo
    rw [get i ps h q, List.getElem?_eq_getElem (by omega)]
    dsimp only
    by_cases c : i = i0
    · subst c
      obtain ⟨ps1, e1, q1⟩ := last _ ps h (List.getElem?_eq_getElem h0) q
      rw [e1]
      dsimp only
      obtain ⟨x, p, g', e, z⟩ := q1.is
      rw [e]
      simpa using z
    · obtain ⟨ps1, e1, q1⟩ := step i _ ps h (by omega) (List.getElem?_eq_getElem (by omega)) q
      rw [e1]
      dsimp only
      cases eb : M ps1 h with
      | nx a b =>
        rw [eb] at q1
        simp only [to_nx, to_ct] at q1
        exact for_tx I get i0 h0 step last k (i + 1) a b (by omega) (by omega) q1
      | ct a b =>
        rw [eb] at q1
        simp only [to_nx, to_ct] at q1
        exact for_tx I get i0 h0 step last k (i + 1) a b (by omega) (by omega) q1
      | bk a b => rw [eb] at q1; simp at q1
      | rt a b => rw [eb] at q1; simp at q1
      | exc a b c => rw [eb] at q1; simp at q1
      | stuck => rw [eb] at q1; simp at q1
theorem enum_tx {items : List W} {g : GM} (I : Nat → LS → PH → Prop) (hI : I 0 ps h) (i0 : Nat) (h0 : i0 < items.length)
    (step : ∀ (i : Nat) (w : W) ps h, i < i0 → items[i]? = some w → I i ps h → ∃ ps1, g (.tup [.int (i : Nat), w]) ps = some ps1 ∧ (M ps1 h).To (I (i + 1)) (fun _ _ => False) (fun _ _ => False) (I (i + 1)))
    (last : ∀ w ps h, items[i0]? = some w → I i0 ps h → ∃ ps1, g (.tup [.int (i0 : Nat), w]) ps = some ps1 ∧ (M ps1 h).Tx cs) :
    (forGo (itE (itS items)) g M (itE (itS items)).fuel 0 ps h).Tx cs := by
  have hl : (pairsW items).length = items.length := by simp [pairsW]
  refine for_tx (items := pairsW items) I (fun i _ h _ => by rw [pairs_get]; rfl) i0 (by rw [hl]; exact h0) (fun i w ps h hi e q => ?_) (fun w ps h e q => ?_) _ 0 ps h (Nat.zero_le _) (by rw [hl]; simp [itE, itS]) hI
  · rw [pairs_get] at e
    obtain ⟨w', ew, rfl⟩ := Option.map_eq_some_iff.mp e
    exact step i w' ps h hi ew q
  · rw [pairs_get] at e
    obtain ⟨w', ew, rfl⟩ := Option.map_eq_some_iff.mp e
    exact last w' ps h ew q
theorem sfor_tx {g : GM} (q : (m ps h).To fun it h1 => (forGo it g M it.fuel 0 ps h1).Tx cs) : (sFor m g M ps h).Tx cs := thenS_tx2 q
end
end Mir

/-! arenas as values (shared by all laws) -/
namespace Mir
open PySem PySem.Spec PyProof.Rows L2
@[simp] theorem set0 {o o2 : OB} {r : PH} : (o :: r : List OB).set 0 o2 = o2 :: r := rfl
theorem ite_abs (i : Int) : 0 ≤ (if i < 0 then -i else i) := by split <;> omega
theorem decs (P : Prop) [i : Decidable P] (j : Decidable P) : @decide P i = @decide P j := by congr
@[simp] theorem wNe_nil {ns : List Int} {h : PH} : wNe (.fix (ns.map W.int)) (.fix []) h = some (.bl (!decide (ns = [])), h) := by
  rw [wNe_pl (n := 1) (m := 1) (by simp) (by simp) (by decide) (by decide)]
  congr 3
  by_cases q : ns = [] <;> simp [q]
theorem log_lit (m : Int) (h0 : 0 ≤ m) (h : m < 1152921504606846976) : m.natAbs.log2 < 9000 := by
  have : m.natAbs < 2 ^ 60 := by omega
  by_cases z : m.natAbs = 0
  · rw [z]; decide
  · exact Nat.lt_of_lt_of_le ((Nat.log2_lt z).mpr this) (by decide)
/-! ### arenas -/
abbrev Mv := Int × Int × Int
abbrev Rm := Int × List Mv
def encM (m : Mv) : W := .tup [.int m.1, .int m.2.1, .int m.2.2]
def encMs (l : List Mv) : W := .tup (l.map encM)
def encR (r : Rm) : W := .tup [.int r.1, encMs r.2]
def encI (l : List Int) : W := .tup (l.map W.int)
def encK (k : Str × List Int) : W := .tup [.str k.1, encI k.2]
def encA (rs : List Rm) (ks : List (Str × List Int)) : W := .tup [.tup (rs.map encR), .tup (ks.map encK)]
@[simp] theorem refs_M (m : Mv) : refsW (encM m) = [] := by simp [encM]
@[simp] theorem refs_Ms (m : List Mv) : refsW (encMs m) = [] := by simp [encMs, refs_map encM m fun _ _ => refs_M _]
@[simp] theorem refs_R (m : Rm) : refsW (encR m) = [] := by simp [encR]
@[simp] theorem refs_I (m : List Int) : refsW (encI m) = [] := by simp [encI]
@[simp] theorem refs_K (m : Str × List Int) : refsW (encK m) = [] := by simp [encK]
@[simp] theorem refs_A (rs : List Rm) (ks : List (Str × List Int)) : refsW (encA rs ks) = [] := by simp [encA, refs_map encR rs fun _ _ => refs_R _, refs_map encK ks fun _ _ => refs_K _]
/-- a sound move, room, arena of n rooms -/
def GM' (n : Nat) (m : Mv) : Prop := 0 ≤ m.1 ∧ m.1 < n ∧ -1000 ≤ m.2.1 ∧ m.2.1 ≤ 1000 ∧ 0 ≤ m.2.2 ∧ m.2.2 ≤ 1
def GR (n : Nat) (r : Rm) : Prop := 0 ≤ r.1 ∧ r.1 ≤ 1 ∧ r.2.length ≤ 24 ∧ ∀ m ∈ r.2, GM' n m
def GRs (n : Nat) (rs : List Rm) : Prop := ∀ r ∈ rs, GR n r
def incr (n : Nat) (l : List Int) : Prop := l.Pairwise (· < ·) ∧ ∀ x ∈ l, 0 ≤ x ∧ x < n
theorem incr.snoc {i : Nat} {l : List Int} (h : incr i l) : incr (i + 1) (l ++ [(i : Int)]) := by
  refine ⟨List.pairwise_append.mpr ⟨h.1, by simp, fun a ha b hb => ?_⟩, fun x hx => ?_⟩
  · rw [List.mem_singleton.mp hb]
    exact (h.2 a ha).2
  · rcases List.mem_append.mp hx with z | z
    · have := h.2 x z
      omega
    · rw [List.mem_singleton.mp z]
      omega
theorem incr.up {i j : Nat} {l : List Int} (h : incr i l) (ij : i ≤ j) : incr j l := ⟨h.1, fun x hx => by have := h.2 x hx; omega⟩
def GI (n : Nat) (l : List Int) : Prop := l.length ≤ n ∧ incr n l
theorem get_end (a b : OB) (g : PH) (y : OB) : (a :: b :: (g ++ [y]) : List OB)[g.length + 1 + 1]? = some y := by simp
theorem set_end (a b : OB) (g : PH) (y z : OB) : (a :: b :: (g ++ [y]) : List OB).set (g.length + 1 + 1) z = a :: b :: (g ++ [z]) := by simp
theorem range_get {lo : Int} {n i : Nat} {w : W} (e : (rangeW lo n)[i]? = some w) : i < n ∧ w = .int (lo + (i : Nat)) := by
  unfold rangeW at e
  rw [List.getElem?_map] at e
  by_cases h : i < n
  · rw [List.getElem?_range h] at e
    exact ⟨h, (Option.some.inj e).symm⟩
  · rw [List.getElem?_eq_none (by rw [List.length_range]; omega)] at e
    cases e
@[simp] theorem range_len {lo : Int} {n : Nat} : (rangeW lo n).length = n := by simp [rangeW]
def rm (rs : List Rm) (i : Int) : Rm := rs.getD i.toNat (0, [])
def mv (ms : List Mv) (i : Int) : Mv := ms.getD i.toNat (0, 0, 0)
section
variable {rs : List Rm} {ks : List (Str × List Int)} {ms : List Mv} {i : Int} {Q : W → Prop} {n : Nat} {h : PH}
theorem oto_rm (h0 : 0 ≤ i) (h1 : i < rs.length) : OTo (atI (rs.map encR) i) Q = Q (encR (rm rs i)) := by
  have hi : i.toNat < rs.length := by omega
  rw [atI_map, oto_map, atI_nat _ _ h0, List.getElem?_eq_getElem hi, oto_some]
  simp [rm, List.getD, List.getElem?_eq_getElem hi]
theorem oto_mv (h0 : 0 ≤ i) (h1 : i < ms.length) : OTo (atI (ms.map encM) i) Q = Q (encM (mv ms i)) := by
  have hi : i.toNat < ms.length := by omega
  rw [atI_map, oto_map, atI_nat _ _ h0, List.getElem?_eq_getElem hi, oto_some]
  simp [mv, List.getD, List.getElem?_eq_getElem hi]
theorem rm_mem (h0 : 0 ≤ i) (h1 : i < rs.length) : rm rs i ∈ rs := by
  have hi : i.toNat < rs.length := by omega
  simp [rm, List.getD, List.getElem?_eq_getElem hi]
theorem mv_mem (h0 : 0 ≤ i) (h1 : i < ms.length) : mv ms i ∈ ms := by
  have hi : i.toNat < ms.length := by omega
  simp [mv, List.getD, List.getElem?_eq_getElem hi]
@[simp] theorem ix_A0 : wIx (encA rs ks) (.int 0) h = some (.tup (rs.map encR), h) := rfl
@[simp] theorem ix_A1 : wIx (encA rs ks) (.int 1) h = some (.tup (ks.map encK), h) := rfl
@[simp] theorem ix_R0 {r : Rm} : wIx (encR r) (.int 0) h = some (.int r.1, h) := rfl
@[simp] theorem ix_R1 {r : Rm} : wIx (encR r) (.int 1) h = some (encMs r.2, h) := rfl
@[simp] theorem ix_M0 {m : Mv} : wIx (encM m) (.int 0) h = some (.int m.1, h) := rfl
@[simp] theorem ix_M1 {m : Mv} : wIx (encM m) (.int 1) h = some (.int m.2.1, h) := rfl
@[simp] theorem ix_Ms {j : Int} : wIx (encMs ms) (.int j) h = (atI (ms.map encM) j).map fun w => (w, h) := rfl
@[simp] theorem len_Ms : wLen [encMs ms] h = some (.int ms.length, h) := by simp [encMs]
@[simp] theorem it_Ms {k : Nat} : iterOf k (encMs ms) h = some (itS (ms.map encM)) := rfl
@[simp] theorem itE_Ms {k : Nat} : iterE k (encMs ms) h = some (itE (itS (ms.map encM))) := rfl
end
end Mir

/-! Mir: repr of plain data with numbers of up to fifteen figures (shared) -/
namespace Mir
open PySem PySem.Spec PyProof.Rows L2
mutual
/-- small numbers, plain signs, nothing of the heap -/
def smV : W → Bool
  | .int i => decide (i.natAbs < 1000000000000000)
  | .str x => x.cps.toList.all fun c => decide (c < 16 ^ 8)
  | .tup xs => smVs xs
  | .fix xs => smVs xs
  | .ref _ => false
  | .exc _ => false
  | _ => true
def smVs : List W → Bool
  | [] => true
  | x :: xs => smV x && smVs xs
end
mutual
/-- how great at most -/
def wV : W → Nat
  | .int _ => 50
  | .str x => x.cps.size
  | .tup xs => wVs xs
  | .fix xs => wVs xs
  | _ => 0
def wVs : List W → Nat
  | [] => 0
  | x :: xs => wV x + 1 + wVs xs
end
mutual
theorem smV_of : ∀ w : W, smV w = true → (dT w).leavesShort 16 = true ∧ (dT w).showable = true ∧ (dT w).hasDict = false ∧ (dT w).weight ≤ wV w
  | .non, _ => ⟨rfl, rfl, rfl, by simp [dT, PyData.weight]⟩
  | .bl b, _ => ⟨rfl, rfl, rfl, by simp [dT, PyData.weight]⟩
  | .int i, h => by
    have h : i.natAbs < 1000000000000000 := by simpa [smV] using h
    have e := int_text_length_le10 (a := i) (k := 15) (by decide) (by simpa using h)
    have l2 : i.natAbs ≠ 0 → i.natAbs.log2 < 50 := fun z => (Nat.log2_lt z).mpr (by omega)
    refine ⟨?_, ?_, rfl, ?_⟩
    · have e2 : (PyData.shown (.int i)).length ≤ 16 := by
        show (Str.ofString (toString i)).length ≤ 16
        rw [PySem.ofString_length]
        exact e
      simp only [dT, PyData.leavesShort]
      exact decide_eq_true e2
    · simp only [dT, PyData.showable, decide_eq_true_eq]
      by_cases z : i.natAbs = 0
      · rw [z]; decide
      · have := l2 z
        omega
    · simp only [dT, PyData.weight, wV]
      split
      · omega
      · rename_i z
        have : i.natAbs ≠ 0 := fun q => z (by simpa using q)
        have := l2 this
        omega
  | .str x, h => ⟨by simpa [dT, PyData.leavesShort, smV] using h, rfl, rfl, by simp [dT, PyData.weight, wV]⟩
  | .ref _, h => by simp [smV] at h
  | .exc _, h => by simp [smV] at h
  | .tup xs, h => by
    obtain ⟨a, b, c, d⟩ := smVs_of xs (by simpa only [smV] using h)
    exact ⟨by simpa only [dT, PyData.leavesShort] using a, by simpa only [dT, PyData.showable] using b, by simpa only [dT, PyData.hasDict] using c, by simpa only [dT, PyData.weight, wV] using d⟩
  | .fix xs, h => by
    obtain ⟨a, b, c, d⟩ := smVs_of xs (by simpa only [smV] using h)
    exact ⟨by simpa only [dT, PyData.leavesShort] using a, by simpa only [dT, PyData.showable] using b, by simpa only [dT, PyData.hasDict] using c, by simpa only [dT, PyData.weight, wV] using d⟩
theorem smVs_of : ∀ ws : List W, smVs ws = true → PyData.leavesShortAll 16 (dTs ws) = true ∧ PyData.showableAll (dTs ws) = true ∧ PyData.hasDictAll (dTs ws) = false ∧ PyData.weightAll (dTs ws) ≤ wVs ws
  | [], _ => ⟨rfl, rfl, rfl, by simp [dTs, PyData.weightAll]⟩
  | x :: xs, h => by
    simp only [smVs, Bool.and_eq_true] at h
    obtain ⟨a, b, c, d⟩ := smV_of x h.1
    obtain ⟨a2, b2, c2, d2⟩ := smVs_of xs h.2
    exact ⟨by simp only [dTs, PyData.leavesShortAll, a, a2, Bool.and_self], by simp only [dTs, PyData.showableAll, b, b2, Bool.and_self], by simp only [dTs, PyData.hasDictAll, c, c2, Bool.or_self], by simp only [dTs, PyData.weightAll, wVs]; omega⟩
end
theorem repr_tupV {xs : List W} {n : Nat} {h : PH} (hp : plW n (.tup xs) = true) (hn : n ≤ 100) (hs : smV (.tup xs) = true) (hw : wV (.tup xs) ≤ 900000) : wRepr [.tup xs] h = some (.str (dT (.tup xs)).shown, h) := by
  obtain ⟨a, b, c⟩ := dat_pl (datL 4 h) n (.tup xs) hp
  obtain ⟨s1, s2, s3, s4⟩ := smV_of (.tup xs) hs
  have l := PyData.shown_le 16 (by decide) _ s1
  have e : dat h (.tup xs) = some (dT (.tup xs)) := a
  simp only [wRepr, e]
  rw [if_pos ⟨s2, s3, by omega, by omega⟩]
@[simp] theorem smV_int {i : Int} : smV (.int i) = decide (i.natAbs < 1000000000000000) := by simp only [smV]
@[simp] theorem smV_str {x : Str} : smV (.str x) = x.cps.toList.all fun c => decide (c < 16 ^ 8) := by simp only [smV]
@[simp] theorem smV_tup {xs : List W} : smV (.tup xs) = smVs xs := by simp only [smV]
@[simp] theorem smV_fix {xs : List W} : smV (.fix xs) = smVs xs := by simp only [smV]
@[simp] theorem smVs_nil : smVs [] = true := by simp only [smVs]
@[simp] theorem smVs_cons {x : W} {xs : List W} : smVs (x :: xs) = (smV x && smVs xs) := by simp only [smVs]
@[simp] theorem wV_int {i : Int} : wV (.int i) = 50 := by simp only [wV]
@[simp] theorem wV_str {x : Str} : wV (.str x) = x.cps.size := by simp only [wV]
@[simp] theorem wV_tup {xs : List W} : wV (.tup xs) = wVs xs := by simp only [wV]
@[simp] theorem wV_fix {xs : List W} : wV (.fix xs) = wVs xs := by simp only [wV]
@[simp] theorem wVs_nil : wVs [] = 0 := by simp only [wVs]
@[simp] theorem wVs_cons {x : W} {xs : List W} : wVs (x :: xs) = wV x + 1 + wVs xs := by simp only [wVs]
theorem smVs_map {α : Type} (f : α → W) (l : List α) (h : ∀ a ∈ l, smV (f a) = true) : smVs (l.map f) = true := by
  induction l with
  | nil => rfl
  | cons a r ih => simp only [List.map_cons, smVs_cons, h a List.mem_cons_self, ih fun b hb => h b (List.mem_cons_of_mem _ hb), Bool.and_self]
theorem wVs_map {α : Type} (f : α → W) (l : List α) (k : Nat) (h : ∀ a ∈ l, wV (f a) ≤ k) : wVs (l.map f) ≤ (k + 1) * l.length := by
  induction l with
  | nil => simp
  | cons a r ih =>
    have h1 := h a List.mem_cons_self
    have h2 := ih fun b hb => h b (List.mem_cons_of_mem _ hb)
    simp only [List.map_cons, wVs_cons, List.length_cons, Nat.mul_add, Nat.mul_one]
    omega
end Mir

/-! the defs of law_k52_papers_as_text: their computations and derivations; printed by gen.py -/
namespace Mir
open PySem PySem.Spec PyProof.Rows L2
def topAt (i : Nat) : Stmt := PySem.Challenge.pw_waitduel_k52_papers_as_text.main.body.getD i (.Pass ⟨0, 0, 0, 0⟩)
abbrev st_is_name : Stmt := topAt 19
abbrev st_words_of : Stmt := topAt 20
abbrev st_number_by : Stmt := topAt 25
abbrev st_row_text : Stmt := topAt 26
abbrev st_Lstate : Stmt := topAt 31
abbrev st_Ltake : Stmt := topAt 32
abbrev st_Lword : Stmt := topAt 35
abbrev st_Lrows_of : Stmt := topAt 37
abbrev st_Lwhole : Stmt := topAt 38
abbrev st_papers_text : Stmt := topAt 27
abbrev st_row_in : Stmt := topAt 28
abbrev st_Lpick : Stmt := topAt 33
abbrev st_Lnames : Stmt := topAt 34
abbrev st_Ldue : Stmt := topAt 39
abbrev st_papers_in : Stmt := topAt 29
abbrev st_Lpapers : Stmt := topAt 36
abbrev st_Lbent_text : Stmt := topAt 40
abbrev st_Lright : Stmt := topAt 41
abbrev st_LAW : Stmt := topAt 42
def knL : List Str := ["BadText"]
def kn_line : List Str := ["BadText"]
def kn_word : List Str := []
abbrev in_BadText : Stmt := match topAt 2 with
  | .ClassDef _ _ _ b _ _ _ _ _ _ _ => b.getD 0 (.Pass ⟨0, 0, 0, 0⟩)
  | _ => .Pass ⟨0, 0, 0, 0⟩
theorem si_BadText : FnScope ["self", "line"] ["self", "line"] (defScope in_BadText) := ⟨rfl, rfl, rfl, by decide +kernel, rfl, by decide +kernel, by decide +kernel⟩
structure Dat where
  a_is_name : Addr
  d_is_name : FuncData
  a_words_of : Addr
  d_words_of : FuncData
  a_number_by : Addr
  d_number_by : FuncData
  a_row_text : Addr
  d_row_text : FuncData
  a_Lstate : Addr
  d_Lstate : FuncData
  a_Ltake : Addr
  d_Ltake : FuncData
  a_Lword : Addr
  d_Lword : FuncData
  a_Lrows_of : Addr
  d_Lrows_of : FuncData
  a_Lwhole : Addr
  d_Lwhole : FuncData
  a_papers_text : Addr
  d_papers_text : FuncData
  a_row_in : Addr
  d_row_in : FuncData
  a_Lpick : Addr
  d_Lpick : FuncData
  a_Lnames : Addr
  d_Lnames : FuncData
  a_Ldue : Addr
  d_Ldue : FuncData
  a_papers_in : Addr
  d_papers_in : FuncData
  a_Lpapers : Addr
  d_Lpapers : FuncData
  a_Lbent_text : Addr
  d_Lbent_text : FuncData
  a_Lright : Addr
  d_Lright : FuncData
  a_LAW : Addr
  d_LAW : FuncData
  a_BadArena : Addr
  a_BadAsked : Addr
  a_BadLine : Addr
  a_BadMark : Addr
  a_BadRoom : Addr
  a_BadRun : Addr
  a_BadSaying : Addr
  a_BadState : Addr
  a_BadText : Addr
  a_BadWay : Addr
  a_BadWish : Addr
  a_BadWorks : Addr
  a_DuelError : Addr
  a_NoMove : Addr
  a_TooGreat : Addr
  i_BadText : Addr
  j_BadText : FuncData
structure Txt (D : Dat) (K : PySem.W.Frag) (mg : Str → Option Value) : Prop where
  g_is_name : mg "is_name" = some (.ref D.a_is_name)
  f_is_name : Fun K "is_name" "is_name" st_is_name D.a_is_name D.d_is_name
  b_is_name : Binds K D.d_is_name ["thing"] []
  g_words_of : mg "words_of" = some (.ref D.a_words_of)
  f_words_of : Fun K "words_of" "words_of" st_words_of D.a_words_of D.d_words_of
  b_words_of : Binds K D.d_words_of ["text"] []
  g_number_by : mg "number_by" = some (.ref D.a_number_by)
  f_number_by : Fun K "number_by" "number_by" st_number_by D.a_number_by D.d_number_by
  b_number_by : Binds K D.d_number_by ["word"] []
  g_row_text : mg "row_text" = some (.ref D.a_row_text)
  f_row_text : Fun K "row_text" "row_text" st_row_text D.a_row_text D.d_row_text
  b_row_text : Binds K D.d_row_text ["row"] []
  g_Lstate : mg "_law_state" = some (.ref D.a_Lstate)
  f_Lstate : Fun K "_law_state" "_law_state" st_Lstate D.a_Lstate D.d_Lstate
  b_Lstate : Binds K D.d_Lstate ["_law_script"] []
  g_Ltake : mg "_law_take" = some (.ref D.a_Ltake)
  f_Ltake : Fun K "_law_take" "_law_take" st_Ltake D.a_Ltake D.d_Ltake
  b_Ltake : Binds K D.d_Ltake ["_law_state_here", "_law_many"] []
  g_Lword : mg "_law_word" = some (.ref D.a_Lword)
  f_Lword : Fun K "_law_word" "_law_word" st_Lword D.a_Lword D.d_Lword
  b_Lword : Binds K D.d_Lword ["_law_e"] []
  g_Lrows_of : mg "_law_rows_of" = some (.ref D.a_Lrows_of)
  f_Lrows_of : Fun K "_law_rows_of" "_law_rows_of" st_Lrows_of D.a_Lrows_of D.d_Lrows_of
  b_Lrows_of : Binds K D.d_Lrows_of ["_law_papers_here"] []
  g_Lwhole : mg "_law_whole" = some (.ref D.a_Lwhole)
  f_Lwhole : Fun K "_law_whole" "_law_whole" st_Lwhole D.a_Lwhole D.d_Lwhole
  b_Lwhole : Binds K D.d_Lwhole ["_law_word_here"] []
  g_papers_text : mg "papers_text" = some (.ref D.a_papers_text)
  f_papers_text : Fun K "papers_text" "papers_text" st_papers_text D.a_papers_text D.d_papers_text
  b_papers_text : Binds K D.d_papers_text ["papers"] []
  g_row_in : mg "row_in" = some (.ref D.a_row_in)
  f_row_in : Fun K "row_in" "row_in" st_row_in D.a_row_in D.d_row_in
  b_row_in : Binds K D.d_row_in ["words"] []
  g_Lpick : mg "_law_pick" = some (.ref D.a_Lpick)
  f_Lpick : Fun K "_law_pick" "_law_pick" st_Lpick D.a_Lpick D.d_Lpick
  b_Lpick : Binds K D.d_Lpick ["_law_state_here", "_law_some"] []
  g_Lnames : mg "_law_names" = some (.ref D.a_Lnames)
  f_Lnames : Fun K "_law_names" "_law_names" st_Lnames D.a_Lnames D.d_Lnames
  b_Lnames : Binds K D.d_Lnames ["_law_state_here", "_law_many"] []
  g_Ldue : mg "_law_due" = some (.ref D.a_Ldue)
  f_Ldue : Fun K "_law_due" "_law_due" st_Ldue D.a_Ldue D.d_Ldue
  b_Ldue : Binds K D.d_Ldue ["_law_text"] []
  g_papers_in : mg "papers_in" = some (.ref D.a_papers_in)
  f_papers_in : Fun K "papers_in" "papers_in" st_papers_in D.a_papers_in D.d_papers_in
  b_papers_in : Binds K D.d_papers_in ["text"] []
  g_Lpapers : mg "_law_papers" = some (.ref D.a_Lpapers)
  f_Lpapers : Fun K "_law_papers" "_law_papers" st_Lpapers D.a_Lpapers D.d_Lpapers
  b_Lpapers : Binds K D.d_Lpapers ["_law_state_here"] []
  g_Lbent_text : mg "_law_bent_text" = some (.ref D.a_Lbent_text)
  f_Lbent_text : Fun K "_law_bent_text" "_law_bent_text" st_Lbent_text D.a_Lbent_text D.d_Lbent_text
  b_Lbent_text : Binds K D.d_Lbent_text ["_law_state_here", "_law_rows"] []
  g_Lright : mg "_law_right" = some (.ref D.a_Lright)
  f_Lright : Fun K "_law_right" "_law_right" st_Lright D.a_Lright D.d_Lright
  b_Lright : Binds K D.d_Lright ["_law_text"] []
  g_LAW : mg "law" = some (.ref D.a_LAW)
  f_LAW : Fun K "law" "law" st_LAW D.a_LAW D.d_LAW
  b_LAW : Binds K D.d_LAW ["_law_script"] []
  n_ValueError : mg "ValueError" = none
  n_all : mg "all" = none
  n_bool : mg "bool" = none
  n_enumerate : mg "enumerate" = none
  n_int : mg "int" = none
  n_isinstance : mg "isinstance" = none
  n_len : mg "len" = none
  n_range : mg "range" = none
  n_repr : mg "repr" = none
  n_str : mg "str" = none
  n_tuple : mg "tuple" = none
  k_EMPTY : ∃ t, mg "EMPTY" = some (.str "none" t)
  k_FIGURES : ∃ t, mg "FIGURES" = some (.str "0123456789" t)
  k_LETTERS : ∃ t, mg "LETTERS" = some (.str "abcdefghijklmnopqrstuvwxyz" t)
  k_MOST_FIGURES : ∃ t, mg "MOST_FIGURES" = some (.int 15 t)
  k_MOST_LETTERS : ∃ t, mg "MOST_LETTERS" = some (.int 8 t)
  m_BadArena : mg "BadArena" = some (.ref D.a_BadArena)
  m_BadAsked : mg "BadAsked" = some (.ref D.a_BadAsked)
  m_BadLine : mg "BadLine" = some (.ref D.a_BadLine)
  m_BadMark : mg "BadMark" = some (.ref D.a_BadMark)
  m_BadRoom : mg "BadRoom" = some (.ref D.a_BadRoom)
  m_BadRun : mg "BadRun" = some (.ref D.a_BadRun)
  m_BadSaying : mg "BadSaying" = some (.ref D.a_BadSaying)
  m_BadState : mg "BadState" = some (.ref D.a_BadState)
  m_BadText : mg "BadText" = some (.ref D.a_BadText)
  m_BadWay : mg "BadWay" = some (.ref D.a_BadWay)
  m_BadWish : mg "BadWish" = some (.ref D.a_BadWish)
  m_BadWorks : mg "BadWorks" = some (.ref D.a_BadWorks)
  m_DuelError : mg "DuelError" = some (.ref D.a_DuelError)
  m_NoMove : mg "NoMove" = some (.ref D.a_NoMove)
  m_TooGreat : mg "TooGreat" = some (.ref D.a_TooGreat)
  p_BadArena : ∀ c ∈ knL, EPair K mg c "BadArena"
  p_BadAsked : ∀ c ∈ knL, EPair K mg c "BadAsked"
  p_BadLine : ∀ c ∈ knL, EPair K mg c "BadLine"
  p_BadMark : ∀ c ∈ knL, EPair K mg c "BadMark"
  p_BadRoom : ∀ c ∈ knL, EPair K mg c "BadRoom"
  p_BadRun : ∀ c ∈ knL, EPair K mg c "BadRun"
  p_BadSaying : ∀ c ∈ knL, EPair K mg c "BadSaying"
  p_BadState : ∀ c ∈ knL, EPair K mg c "BadState"
  p_BadText : ∀ c ∈ knL, EPair K mg c "BadText"
  p_BadWay : ∀ c ∈ knL, EPair K mg c "BadWay"
  p_BadWish : ∀ c ∈ knL, EPair K mg c "BadWish"
  p_BadWorks : ∀ c ∈ knL, EPair K mg c "BadWorks"
  p_NoMove : ∀ c ∈ knL, EPair K mg c "NoMove"
  p_TooGreat : ∀ c ∈ knL, EPair K mg c "TooGreat"
  p_ValueError : ∀ c ∈ knL, EPair K mg c "ValueError"
  h_DuelError : ∀ c ∈ knL, EMat K mg c "DuelError"
  xs : ∀ c ∈ knL, ExN K c
  fl_line : ∀ c ∈ kn_line, EFld K c "line"
  fl_word : ∀ c ∈ kn_word, EFld K c "word"
  di_DuelError : DInit K mg "DuelError" D.a_DuelError
  ns_BadText : PySem.W.nsIn K mainGlobals "BadText" = some (some (.ref D.a_BadText))
  ox_BadText : OexC K D.a_BadText
  fi_BadText : PySem.W.findIn K (.ref D.a_BadText) "__init__" = some (some (.ref D.i_BadText))
  ti_BadText : PySem.W.typeIn K (.ref D.i_BadText) = some (.type "function")
  bi_BadText : Binds K D.j_BadText ["self", "line"] []
  fn_BadText : Fun K "__init__" "BadText.__init__" in_BadText D.i_BadText D.j_BadText
  no_BadText_line : PySem.W.findIn K (.ref D.a_BadText) "line" = some none
theorem i_BadText {P : Program} {w : World} {K : PySem.W.Frag} {mg : Str → Option Value} {base : Heap} {D : Dat} (T : Txt D K mg) : EInit P w K mg base "BadText" ["line"] :=
  ⟨D.a_BadText, D.i_BadText, D.j_BadText, ["self", "line"], T.m_BadText, T.ns_BadText, T.ox_BadText, T.fi_BadText, T.ti_BadText, T.bi_BadText, Fun.okX T.fn_BadText si_BadText (spI_len rfl) fun cdv A outer s H vs Q E hr hsp =>
    ⟨_, pss_cons (ps_expr (pe_dinit T.di_DuelError.m T.di_DuelError.r T.di_DuelError.s T.di_DuelError.f (pa_cons (pv 0) (pa_cons pe_str pa_nil)))) (pss_one (ps_ost (pv 0) (pv 1))), init1 hsp rfl⟩,
    fun f hf => by simp only [List.mem_cons, List.not_mem_nil, or_false] at hf; rcases hf with rfl <;> first | exact T.no_BadText_line, by decide⟩
/-! ### is_name -/
theorem sc_is_name : FnScope ["thing", "sign"] ["thing"] (defScope st_is_name) := ⟨rfl, rfl, rfl, by decide +kernel, rfl, by decide +kernel, by decide +kernel⟩
def b_is_name : SM :=
  (sSeq (sIf (mOr (mNot (mTru (mIsi "str" (mVar 0)))) (mNot (mB (mChain wLe wLe (mC (.int 1)) (mCall wLen (mCons (mVar 0) mNil)) (mC (.int 8))))))
  (sRet (mC (.bl false)))
  sNext)
  (sRet (mOn wAll (mLc (mIter big (mVar 0)) (gN 1) mYes (mOp wIn (mVar 1) (mC (.str "abcdefghijklmnopqrstuvwxyz"))) [1]))))
def f_is_name : FM := runB 2 (b_is_name )
theorem o_is_name {P : Program} {w : World} {K : PySem.W.Frag} {mg : Str → Option Value} {base : Heap} {D : Dat} (T : Txt D K mg) :
    FnG P w K mg base 1 D.a_is_name D.d_is_name ["thing"] (SPm K 1 (f_is_name )) :=
  have S := sc_is_name
  ok_body (k := 0) T.f_is_name S fun cdv A outer s H E hr gd =>
    (sss_cons (ss_if (PW.pt (sw_or (st_not (st_tru (se_isi "str" (by decide) T.n_isinstance T.n_str (se_var 0) (by rfl)))) (sw_or1 (st_not (st_chain o_le p_le o_le p_le se_int (se_callB c_len o_len T.n_len (by rfl) (sa_cons (se_var 0) sa_nil)) (se_globI T.k_MOST_LETTERS))))))
    (sss_one (ss_ret se_bl))
    sss_nil)
    (sss_one (ss_ret (pg_callBM back_W (cr_all rfl) q_all T.n_all (by rfl) (sm_list (sl_lc [("sign", 1)] rfl S.nd (si_iter big (se_var 0)) (by kernel_rfl) (fun _ _ _ _ _ => (sg_name 1 S.nd)) (fun _ _ _ _ _ => sts_nil) (fun _ _ _ _ _ => (se_cmp (o_in hr) p_in (se_var 1) (se_globS T.k_LETTERS)))))))))
/-! ### words_of -/
theorem sc_words_of : FnScope ["text", "word"] ["text"] (defScope st_words_of) := ⟨rfl, rfl, rfl, by decide +kernel, rfl, by decide +kernel, by decide +kernel⟩
def b_words_of : SM :=
  (sRet (mFix (mLc (mIter big (mMt "str" wSplit (mVar 0) (mCons (mC (.str " ")) mNil))) (gN 1) (mB (mOp wNe (mVar 1) (mC (.str "")))) (mVar 1) [1])))
def f_words_of : FM := runB 2 (b_words_of )
theorem o_words_of {P : Program} {w : World} {K : PySem.W.Frag} {mg : Str → Option Value} {base : Heap} {D : Dat} (T : Txt D K mg) :
    FnG P w K mg base 1 D.a_words_of D.d_words_of ["text"] (SPm K 1 (f_words_of )) :=
  have S := sc_words_of
  ok_body (k := 0) T.f_words_of S fun cdv A outer s H E hr gd =>
    (sss_one (ss_ret (se_fix (sl_lc [("word", 1)] rfl S.nd (si_iter big (se_split (se_var 0) se_str)) (by kernel_rfl) (fun _ _ _ _ _ => (sg_name 1 S.nd)) (fun _ _ _ _ _ => (sts_one (st_cmp (o_ne hr) p_ne (se_var 1) se_str))) (fun _ _ _ _ _ => (se_var 1))))))
/-! ### number_by -/
theorem sc_number_by : FnScope ["word", "figures", "sign"] ["word"] (defScope st_number_by) := ⟨rfl, rfl, rfl, by decide +kernel, rfl, by decide +kernel, by decide +kernel⟩
def b_number_by : SM :=
  (sSeq (sAsg (mIf (mB (mOp wEq (mSl (mVar 0) none (some (mC (.int 1)))) (mC (.str "-")))) (mSl (mVar 0) (some (mC (.int 1))) none) (mVar 0)) (gN 1))
  (sSeq (sIf (mOr (mNot (mB (mChain wLe wLe (mC (.int 1)) (mCall wLen (mCons (mVar 1) mNil)) (mC (.int 15))))) (mNot (mTru (mOn wAll (mLc (mIter big (mVar 1)) (gN 2) mYes (mOp wIn (mVar 2) (mC (.str "0123456789"))) [2])))))
  (sRet (mC .non))
  sNext)
  (sSeq (sIf (mAnd (mB (mOp wEq (mOp wIx (mVar 1) (mC (.int 0))) (mC (.str "0")))) (mB (mOp wNe (mVar 0) (mC (.str "0")))))
  (sRet (mC .non))
  sNext)
  (sRet (mCall wInt (mCons (mVar 0) mNil))))))
def f_number_by : FM := runB 3 (b_number_by )
theorem o_number_by {P : Program} {w : World} {K : PySem.W.Frag} {mg : Str → Option Value} {base : Heap} {D : Dat} (T : Txt D K mg) :
    FnG P w K mg base 1 D.a_number_by D.d_number_by ["word"] (SPm K 1 (f_number_by )) :=
  have S := sc_number_by
  ok_body (k := 0) T.f_number_by S fun cdv A outer s H E hr gd =>
    (sss_cons (ss_set 1 S.nd (se_if (st_cmp (o_eq hr) p_eq (se_slice (se_var 0) .none (.some se_int)) se_str) (se_slice (se_var 0) (.some se_int) .none) (se_var 0)))
    (sss_cons (ss_if (PW.pt (sw_or (st_not (st_chain o_le p_le o_le p_le se_int (se_callB c_len o_len T.n_len (by rfl) (sa_cons (se_var 1) sa_nil)) (se_globI T.k_MOST_FIGURES))) (sw_or1 (st_not (st_tru (pg_callBM back_W (cr_all rfl) q_all T.n_all (by rfl) (sm_list (sl_lc [("sign", 2)] rfl S.nd (si_iter big (se_var 1)) (by kernel_rfl) (fun _ _ _ _ _ => (sg_name 2 S.nd)) (fun _ _ _ _ _ => sts_nil) (fun _ _ _ _ _ => (se_cmp (o_in hr) p_in (se_var 2) (se_globS T.k_FIGURES)))))))))))
    (sss_one (ss_ret se_non))
    sss_nil)
    (sss_cons (ss_if (PW.pt (sw_and (st_cmp (o_eq hr) p_eq (se_sub' hr (se_var 1) se_int) se_str) (sw_and1 (st_cmp (o_ne hr) p_ne (se_var 0) se_str))))
    (sss_one (ss_ret se_non))
    sss_nil)
    (sss_one (ss_ret (se_callT c_int o_int T.n_int (by rfl) (sa_cons (se_var 0) sa_nil)))))))
/-! ### row_text -/
theorem sc_row_text : FnScope ["row", "number"] ["row"] (defScope st_row_text) := ⟨rfl, rfl, rfl, by decide +kernel, rfl, by decide +kernel, by decide +kernel⟩
def b_row_text : SM :=
  (sRet (mIf (mB (mOp wEq (mVar 0) (mTup mNil))) (mC (.str "none")) (mMt "str" wJoin (mC (.str " ")) (mCons (mFix (mLc (mIter big (mVar 0)) (gN 1) mYes (mCall wStr (mCons (mVar 1) mNil)) [1])) mNil))))
def f_row_text : FM := runB 2 (b_row_text )
theorem o_row_text {P : Program} {w : World} {K : PySem.W.Frag} {mg : Str → Option Value} {base : Heap} {D : Dat} (T : Txt D K mg) :
    FnG P w K mg base 1 D.a_row_text D.d_row_text ["row"] (SPm K 1 (f_row_text )) :=
  have S := sc_row_text
  ok_body (k := 0) T.f_row_text S fun cdv A outer s H E hr gd =>
    (sss_one (ss_ret (se_if (st_cmp (o_eq hr) p_eq (se_var 0) (se_tup sa_nil)) (se_globS T.k_EMPTY) (se_join se_str (se_fix (sl_lc [("number", 1)] rfl S.nd (si_iter big (se_var 0)) (by kernel_rfl) (fun _ _ _ _ _ => (sg_name 1 S.nd)) (fun _ _ _ _ _ => sts_nil) (fun _ _ _ _ _ => (se_callT call_str_int o_str T.n_str (by rfl) (sa_cons (se_var 1) sa_nil)))))))))
/-! ### _law_state -/
theorem sc_Lstate : FnScope ["_law_script", "_law_is_own"] ["_law_script"] (defScope st_Lstate) := ⟨rfl, rfl, rfl, by decide +kernel, rfl, by decide +kernel, by decide +kernel⟩
def b_Lstate : SM :=
  (sSeq (sAsg (mAndV (mOp wNe (mVar 0) (mFix (mLst mNil))) (mOp wEq (mOp wMod (mOp wIx (mVar 0) (mC (.int 0))) (mC (.int 2))) (mC (.int 1)))) (gN 1))
  (sRet (mDisp (((mC (.str "cells")), (mOp wAdd (mSl (mVar 0) (some (mC (.int 1))) (some (mC (.int 63)))) (mFix (mLst (mCons (mC (.int 7)) mNil))))) :: (((mC (.str "own")), (mVar 1)) :: (((mC (.str "at")), (mC (.int 0))) :: (((mC (.str "rest")), (mC (.int 0))) :: (((mC (.str "spot")), (mC (.int 0))) :: []))))))))
def f_Lstate : FM := runB 2 (b_Lstate )
theorem o_Lstate {P : Program} {w : World} {K : PySem.W.Frag} {mg : Str → Option Value} {base : Heap} {D : Dat} (T : Txt D K mg) :
    FnG P w K mg base 1 D.a_Lstate D.d_Lstate ["_law_script"] (SPm K 1 (f_Lstate )) :=
  have S := sc_Lstate
  ok_body (k := 0) T.f_Lstate S fun cdv A outer s H E hr gd =>
    (sss_cons (ss_set 1 S.nd (se_and (se_cmp (o_ne hr) p_ne (se_var 0) (se_fix (sl_lst sa_nil))) (se_one (se_cmp (o_eq hr) p_eq (se_mod (se_sub' hr (se_var 0) se_int) se_int) se_int))))
    (sss_one (ss_ret (se_dict (sps_cons se_str (se_add (se_slice (se_var 0) (.some se_int) (.some se_int)) (se_fix (sl_lst (sa_cons se_int sa_nil)))) (sps_cons se_str (se_var 1) (sps_cons se_str se_int (sps_cons se_str se_int (sps_cons se_str se_int sps_nil)))))))))
/-! ### _law_take -/
theorem sc_Ltake : FnScope ["_law_state_here", "_law_many", "_law_at", "_law_found", "_law_cell", "_law_number"] ["_law_state_here", "_law_many"] (defScope st_Ltake) := ⟨rfl, rfl, rfl, by decide +kernel, rfl, by decide +kernel, by decide +kernel⟩
def b_Ltake : SM :=
  (sSeq (sAsg (mOp wIx (mVar 0) (mC (.str "at"))) (gN 2))
  (sSeq (sSetIx (mOp wAdd (mVar 2) (mC (.int 1))) (mVar 0) (mC (.str "at")))
  (sSeq (sIf (mAnd (mTru (mOp wIx (mVar 0) (mC (.str "own")))) (mAnd (mB (mOp wIn (mOp wIx (mVar 0) (mC (.str "rest"))) (mTup (mCons (mC (.int 0)) (mCons (mUn wNeg (mC (.int 1))) mNil))))) (mB (mOp wLt (mOp wIx (mVar 0) (mC (.str "spot"))) (mCall wLen (mCons (mOp wIx (mVar 0) (mC (.str "cells"))) mNil))))))
  (sSeq (sSetIx (mOp wIx (mOp wIx (mVar 0) (mC (.str "cells"))) (mOp wIx (mVar 0) (mC (.str "spot")))) (mVar 0) (mC (.str "rest")))
  (sSetIx (mOp wAdd (mOp wIx (mVar 0) (mC (.str "spot"))) (mC (.int 1))) (mVar 0) (mC (.str "spot"))))
  sNext)
  (sSeq (sIf (mAnd (mTru (mOp wIx (mVar 0) (mC (.str "own")))) (mB (mOp wNotIn (mOp wIx (mVar 0) (mC (.str "rest"))) (mTup (mCons (mC (.int 0)) (mCons (mUn wNeg (mC (.int 1))) mNil))))))
  (sSeq (sAsg (mOp wMod (mOp wIx (mVar 0) (mC (.str "rest"))) (mVar 1)) (gN 3))
  (sSeq (sSetIx (mOp wFdiv (mOp wIx (mVar 0) (mC (.str "rest"))) (mVar 1)) (mVar 0) (mC (.str "rest")))
  (sRet (mVar 3))))
  sNext)
  (sSeq (sAsg (mOp wIx (mOp wIx (mVar 0) (mC (.str "cells"))) (mOp wMod (mVar 2) (mCall wLen (mCons (mOp wIx (mVar 0) (mC (.str "cells"))) mNil)))) (gN 4))
  (sSeq (sAsg (mOp wMod (mOp wMul (mOp wAdd (mOp wAdd (mOp wMod (mVar 4) (mC (.int 2147483629))) (mOp wMul (mC (.int 7919)) (mVar 2))) (mC (.int 1))) (mC (.int 48271))) (mC (.int 2147483647))) (gN 5))
  (sSeq (sAsg (mOp wMod (mOp wMul (mVar 5) (mOp wAdd (mOp wAdd (mVar 5) (mOp wMul (mVar 2) (mVar 2))) (mC (.int 5)))) (mC (.int 2147483629))) (gN 5))
  (sRet (mOp wMod (mOp wFdiv (mOp wMod (mOp wAdd (mOp wMul (mVar 5) (mC (.int 69621))) (mOp wMod (mVar 4) (mC (.int 1000003)))) (mC (.int 2147483647))) (mC (.int 3))) (mVar 1))))))))))
def f_Ltake : FM := runB 6 (b_Ltake )
theorem o_Ltake {P : Program} {w : World} {K : PySem.W.Frag} {mg : Str → Option Value} {base : Heap} {D : Dat} (T : Txt D K mg) :
    FnG P w K mg base 1 D.a_Ltake D.d_Ltake ["_law_state_here", "_law_many"] (SPm K 2 (f_Ltake )) :=
  have S := sc_Ltake
  ok_body (k := 0) T.f_Ltake S fun cdv A outer s H E hr gd =>
    (sss_cons (ss_set 2 S.nd (se_sub' hr (se_var 0) se_str))
    (sss_cons (ss_setix hr (se_add (se_var 2) se_int) (se_var 0) se_str)
    (sss_cons (ss_if (PW.pt (sw_and (st_tru (se_sub' hr (se_var 0) se_str)) (sw_and (st_cmp (o_in hr) p_in (se_sub' hr (se_var 0) se_str) (se_tup (sa_cons se_int (sa_cons (se_neg se_int) sa_nil)))) (sw_and1 (st_cmp o_lt p_lt (se_sub' hr (se_var 0) se_str) (se_callB c_len o_len T.n_len (by rfl) (sa_cons (se_sub' hr (se_var 0) se_str) sa_nil)))))))
    (sss_cons (ss_setix hr (se_sub' hr (se_sub' hr (se_var 0) se_str) (se_sub' hr (se_var 0) se_str)) (se_var 0) se_str)
    (sss_one (ss_setix hr (se_add (se_sub' hr (se_var 0) se_str) se_int) (se_var 0) se_str)))
    sss_nil)
    (sss_cons (ss_if (PW.pt (sw_and (st_tru (se_sub' hr (se_var 0) se_str)) (sw_and1 (st_cmp (o_notIn hr) p_notIn (se_sub' hr (se_var 0) se_str) (se_tup (sa_cons se_int (sa_cons (se_neg se_int) sa_nil)))))))
    (sss_cons (ss_set 3 S.nd (se_mod (se_sub' hr (se_var 0) se_str) (se_var 1)))
    (sss_cons (ss_setix hr (se_fdiv (se_sub' hr (se_var 0) se_str) (se_var 1)) (se_var 0) se_str)
    (sss_one (ss_ret (se_var 3)))))
    sss_nil)
    (sss_cons (ss_set 4 S.nd (se_sub' hr (se_sub' hr (se_var 0) se_str) (se_mod (se_var 2) (se_callB c_len o_len T.n_len (by rfl) (sa_cons (se_sub' hr (se_var 0) se_str) sa_nil)))))
    (sss_cons (ss_set 5 S.nd (se_mod (se_mul (se_add (se_add (se_mod (se_var 4) se_int) (se_mul se_int (se_var 2))) se_int) se_int) se_int))
    (sss_cons (ss_set 5 S.nd (se_mod (se_mul (se_var 5) (se_add (se_add (se_var 5) (se_mul (se_var 2) (se_var 2))) se_int)) se_int))
    (sss_one (ss_ret (se_mod (se_fdiv (se_mod (se_add (se_mul (se_var 5) se_int) (se_mod (se_var 4) se_int)) se_int) se_int) (se_var 1)))))))))))
/-! ### _law_word -/
theorem sc_Lword : FnScope ["_law_e", "_law_others"] ["_law_e"] (defScope st_Lword) := ⟨rfl, rfl, rfl, by decide +kernel, rfl, by decide +kernel, by decide +kernel⟩
def b_Lword : SM :=
  (sSeq (sAsg (mIsX knL ["BadArena", "BadAsked", "BadLine", "BadMark", "BadRoom", "BadRun", "BadSaying", "BadState", "BadWay"] (mVar 0)) (gN 1))
  (sSeq (sAsg (mOrV (mVar 1) (mOrV (mIsX knL ["BadWish", "NoMove", "TooGreat"] (mVar 0)) (mNotV (mIsX knL ["ValueError"] (mVar 0))))) (gN 1))
  (sSeq (sIf (mOr (mTru (mVar 1)) (mOr (mB (mOp wEq (mIsX knL ["BadText"] (mVar 0)) (mIsX knL ["BadWorks"] (mVar 0)))) (mTru (mIsi "bool" (mFld kn_line "line" (mVar 0))))))
  (sRet (mC (.str "other")))
  sNext)
  (sRet (mIf (mTru (mIsX knL ["BadText"] (mVar 0))) (mTup (mCons (mC (.str "text")) (mCons (mFld kn_line "line" (mVar 0)) mNil))) (mTup (mCons (mC (.str "works")) (mCons (mFld kn_line "line" (mVar 0)) (mCons (mFld kn_word "word" (mVar 0)) mNil)))))))))
def f_Lword : FM := runB 2 (b_Lword )
theorem o_Lword {P : Program} {w : World} {K : PySem.W.Frag} {mg : Str → Option Value} {base : Heap} {D : Dat} (T : Txt D K mg) :
    FnG P w K mg base 1 D.a_Lword D.d_Lword ["_law_e"] (SPm K 1 (f_Lword )) :=
  have S := sc_Lword
  ok_body (k := 0) T.f_Lword S fun cdv A outer s H E hr gd =>
    (sss_cons (ss_set 1 S.nd (se_isXT T.n_isinstance (.own rfl T.m_BadArena rfl (.own rfl T.m_BadAsked rfl (.own rfl T.m_BadLine rfl (.own rfl T.m_BadMark rfl (.own rfl T.m_BadRoom rfl (.own rfl T.m_BadRun rfl (.own rfl T.m_BadSaying rfl (.own rfl T.m_BadState rfl (.own rfl T.m_BadWay rfl .nil))))))))) (by decide) T.xs (fun c hc d hd => by simp only [List.mem_cons, List.not_mem_nil, or_false] at hd; rcases hd with rfl | rfl | rfl | rfl | rfl | rfl | rfl | rfl | rfl <;> first | exact T.p_BadArena c hc | exact T.p_BadAsked c hc | exact T.p_BadLine c hc | exact T.p_BadMark c hc | exact T.p_BadRoom c hc | exact T.p_BadRun c hc | exact T.p_BadSaying c hc | exact T.p_BadState c hc | exact T.p_BadWay c hc) (se_var 0)))
    (sss_cons (ss_set 1 S.nd (se_or (se_var 1) (se_or (se_isXT T.n_isinstance (.own rfl T.m_BadWish rfl (.own rfl T.m_NoMove rfl (.own rfl T.m_TooGreat rfl .nil))) (by decide) T.xs (fun c hc d hd => by simp only [List.mem_cons, List.not_mem_nil, or_false] at hd; rcases hd with rfl | rfl | rfl <;> first | exact T.p_BadWish c hc | exact T.p_NoMove c hc | exact T.p_TooGreat c hc) (se_var 0)) (se_one (se_not (se_isX T.n_isinstance (.blt rfl T.n_ValueError rfl (by decide) rfl .nil) T.xs T.p_ValueError (se_var 0)))))))
    (sss_cons (ss_if (PW.pt (sw_or (st_tru (se_var 1)) (sw_or (st_cmp (o_eq hr) p_eq (se_isX T.n_isinstance (.own rfl T.m_BadText rfl .nil) T.xs T.p_BadText (se_var 0)) (se_isX T.n_isinstance (.own rfl T.m_BadWorks rfl .nil) T.xs T.p_BadWorks (se_var 0))) (sw_or1 (st_tru (se_isi "bool" (by decide) T.n_isinstance T.n_bool (se_fld T.fl_line (se_var 0)) (by rfl)))))))
    (sss_one (ss_ret se_str))
    sss_nil)
    (sss_one (ss_ret (se_if (st_tru (se_isX T.n_isinstance (.own rfl T.m_BadText rfl .nil) T.xs T.p_BadText (se_var 0))) (se_tup (sa_cons se_str (sa_cons (se_fld T.fl_line (se_var 0)) sa_nil))) (se_tup (sa_cons se_str (sa_cons (se_fld T.fl_line (se_var 0)) (sa_cons (se_fld T.fl_word (se_var 0)) sa_nil))))))))))
/-! ### _law_rows_of -/
theorem sc_Lrows_of : FnScope ["_law_papers_here", "_law_found", "_law_word_here", "_law_rows", "_law_row", "_law_number"] ["_law_papers_here"] (defScope st_Lrows_of) := ⟨rfl, rfl, rfl, by decide +kernel, rfl, by decide +kernel, by decide +kernel⟩
def b_Lrows_of : SM :=
  (sSeq (sAsg (mNew (mLst mNil)) (gN 1))
  (sSeq (sFor (mIter big (mVar 0)) (gT (gCons' (gN 2) (gCons' (gN 3) gNil')))
  (sSeq (sDrop (mMt "list" wAppend (mVar 1) (mCons (mOp wAdd (mC (.str "paper ")) (mVar 2)) mNil)))
  (sFor (mIter big (mVar 3)) (gN 4)
  (sDrop (mMt "list" wAppend (mVar 1) (mCons (mIf (mB (mOp wEq (mVar 4) (mTup mNil))) (mC (.str "none")) (mMt "str" wJoin (mC (.str " ")) (mCons (mFix (mLc (mIter big (mVar 4)) (gN 5) mYes (mCall wStr (mCons (mVar 5) mNil)) [5])) mNil))) mNil))))))
  (sRet (mVar 1))))
def f_Lrows_of : FM := runB 6 (b_Lrows_of )
theorem o_Lrows_of {P : Program} {w : World} {K : PySem.W.Frag} {mg : Str → Option Value} {base : Heap} {D : Dat} (T : Txt D K mg) :
    FnG P w K mg base 1 D.a_Lrows_of D.d_Lrows_of ["_law_papers_here"] (SPm K 1 (f_Lrows_of )) :=
  have S := sc_Lrows_of
  ok_body (k := 0) T.f_Lrows_of S fun cdv A outer s H E hr gd =>
    (sss_cons (ss_set 1 S.nd (se_new (sl_lst sa_nil)))
    (sss_cons (ss_for (passes_of rfl) rfl (si_iter big (se_var 0)) (sg_tup rfl (sgs_cons (sg_name 2 S.nd) (sgs_cons (sg_name 3 S.nd) sgs_nil)) (fun _ _ _ e => gl_cons (fun _ _ _ e => gl_cons (fun _ _ _ e => gl_nil e) e) e))
    (sss_cons (ss_expr (se_append mt_append (se_var 1) (se_add se_str (se_var 2))))
    (sss_one (ss_for (passes_of rfl) rfl (si_iter big (se_var 3)) (sg_name 4 S.nd)
    (sss_one (ss_expr (se_append mt_append (se_var 1) (se_if (st_cmp (o_eq hr) p_eq (se_var 4) (se_tup sa_nil)) se_str (se_join se_str (se_fix (sl_lc [("_law_number", 5)] rfl S.nd (si_iter big (se_var 4)) (by kernel_rfl) (fun _ _ _ _ _ => (sg_name 5 S.nd)) (fun _ _ _ _ _ => sts_nil) (fun _ _ _ _ _ => (se_callT call_str_int o_str T.n_str (by rfl) (sa_cons (se_var 5) sa_nil))))))))))))))
    (sss_one (ss_ret (se_var 1)))))
/-! ### _law_whole -/
theorem sc_Lwhole : FnScope ["_law_word_here", "_law_figures", "_law_sign"] ["_law_word_here"] (defScope st_Lwhole) := ⟨rfl, rfl, rfl, by decide +kernel, rfl, by decide +kernel, by decide +kernel⟩
def b_Lwhole : SM :=
  (sSeq (sAsg (mSl (mVar 0) (some (mCall wInt (mCons (mOp wEq (mSl (mVar 0) none (some (mC (.int 1)))) (mC (.str "-"))) mNil))) none) (gN 1))
  (sSeq (sIf (mOr (mNot (mB (mChain wLe wLe (mC (.int 1)) (mCall wLen (mCons (mVar 1) mNil)) (mC (.int 15))))) (mB (mOp wNe (mFix (mLc (mIter big (mVar 1)) (gN 2) (mB (mOp wNotIn (mVar 2) (mC (.str "0123456789")))) (mVar 2) [2])) (mFix (mLst mNil)))))
  (sRet (mC .non))
  sNext)
  (sRet (mIf (mAnd (mB (mOp wEq (mOp wIx (mVar 1) (mC (.int 0))) (mC (.str "0")))) (mB (mOp wNe (mVar 0) (mC (.str "0"))))) (mC .non) (mCall wInt (mCons (mVar 0) mNil))))))
def f_Lwhole : FM := runB 3 (b_Lwhole )
theorem o_Lwhole {P : Program} {w : World} {K : PySem.W.Frag} {mg : Str → Option Value} {base : Heap} {D : Dat} (T : Txt D K mg) :
    FnG P w K mg base 1 D.a_Lwhole D.d_Lwhole ["_law_word_here"] (SPm K 1 (f_Lwhole )) :=
  have S := sc_Lwhole
  ok_body (k := 0) T.f_Lwhole S fun cdv A outer s H E hr gd =>
    (sss_cons (ss_set 1 S.nd (se_slice (se_var 0) (.some (se_callT c_int o_int T.n_int (by rfl) (sa_cons (se_cmp (o_eq hr) p_eq (se_slice (se_var 0) .none (.some se_int)) se_str) sa_nil))) .none))
    (sss_cons (ss_if (PW.pt (sw_or (st_not (st_chain o_le p_le o_le p_le se_int (se_callB c_len o_len T.n_len (by rfl) (sa_cons (se_var 1) sa_nil)) se_int)) (sw_or1 (st_cmp (o_ne hr) p_ne (se_fix (sl_lc [("_law_sign", 2)] rfl S.nd (si_iter big (se_var 1)) (by kernel_rfl) (fun _ _ _ _ _ => (sg_name 2 S.nd)) (fun _ _ _ _ _ => (sts_one (st_cmp (o_notIn hr) p_notIn (se_var 2) se_str))) (fun _ _ _ _ _ => (se_var 2)))) (se_fix (sl_lst sa_nil))))))
    (sss_one (ss_ret se_non))
    sss_nil)
    (sss_one (ss_ret (se_if (PW.pt (sw_and (st_cmp (o_eq hr) p_eq (se_sub' hr (se_var 1) se_int) se_str) (sw_and1 (st_cmp (o_ne hr) p_ne (se_var 0) se_str)))) se_non (se_callT c_int o_int T.n_int (by rfl) (sa_cons (se_var 0) sa_nil)))))))
/-! ### papers_text -/
theorem sc_papers_text : FnScope ["papers", "found", "word", "rows", "row"] ["papers"] (defScope st_papers_text) := ⟨rfl, rfl, rfl, by decide +kernel, rfl, by decide +kernel, by decide +kernel⟩
def b_papers_text (c_row_text : FM) : SM :=
  (sSeq (sAsg (mNew (mLst mNil)) (gN 1))
  (sSeq (sFor (mIter big (mVar 0)) (gT (gCons' (gN 2) (gCons' (gN 3) gNil')))
  (sSeq (sDrop (mMt "list" wAppend (mVar 1) (mCons (mOp wAdd (mC (.str "paper ")) (mVar 2)) mNil)))
  (sDrop (mExt (mVar 1) (mLc (mIter big (mVar 3)) (gN 4) mYes (mFn 1 c_row_text (mCons (mVar 4) mNil)) [4])))))
  (sRet (mMt "str" wJoin (mC (.str "\n")) (mCons (mVar 1) mNil)))))
def f_papers_text (c_row_text : FM) : FM := runB 5 (b_papers_text c_row_text)
theorem o_papers_text {P : Program} {w : World} {K : PySem.W.Frag} {mg : Str → Option Value} {base : Heap} {D : Dat} (T : Txt D K mg)
  {c_row_text : FM} (F_row_text : FnG P w K mg base 1 D.a_row_text D.d_row_text ["row"] (SPm K 1 c_row_text)) :
    FnG P w K mg base 2 D.a_papers_text D.d_papers_text ["papers"] (SPm K 1 (f_papers_text c_row_text)) :=
  have S := sc_papers_text
  ok_body (k := 1) T.f_papers_text S fun cdv A outer s H E hr gd =>
    (sss_cons (ss_set 1 S.nd (se_new (sl_lst sa_nil)))
    (sss_cons (ss_for (passes_of rfl) rfl (si_iter big (se_var 0)) (sg_tup rfl (sgs_cons (sg_name 2 S.nd) (sgs_cons (sg_name 3 S.nd) sgs_nil)) (fun _ _ _ e => gl_cons (fun _ _ _ e => gl_cons (fun _ _ _ e => gl_nil e) e) e))
    (sss_cons (ss_expr (se_append mt_append (se_var 1) (se_add se_str (se_var 2))))
    (sss_one (ss_expr (se_extend (se_var 1) (sl_lc [("row", 4)] rfl S.nd (si_iter big (se_var 3)) (by kernel_rfl) (fun _ _ _ _ _ => (sg_name 4 S.nd)) (fun _ _ _ _ _ => sts_nil) (fun _ _ _ _ _ => (se_call F_row_text T.b_row_text T.f_row_text.kp (hr.mono (by decide)) gd takes0 T.g_row_text (sa_cons (se_var 4) sa_nil)))))))))
    (sss_one (ss_ret (se_join se_str (se_var 1))))))
/-! ### row_in -/
theorem sc_row_in : FnScope ["words", "row", "word"] ["words"] (defScope st_row_in) := ⟨rfl, rfl, rfl, by decide +kernel, rfl, by decide +kernel, by decide +kernel⟩
def b_row_in (c_number_by : FM) : SM :=
  (sSeq (sIf (mB (mOp wEq (mVar 0) (mFix (mLst (mCons (mC (.str "none")) mNil)))))
  (sRet (mTup mNil))
  sNext)
  (sSeq (sAsg (mOn wTupQ (mLc (mIter big (mVar 0)) (gN 2) mYes (mFn 1 c_number_by (mCons (mVar 2) mNil)) [2])) (gN 1))
  (sRet (mIf (mOr (mB (mOp wEq (mVar 1) (mTup mNil))) (mB (mOp wIn (mC .non) (mVar 1)))) (mC .non) (mVar 1)))))
def f_row_in (c_number_by : FM) : FM := runB 3 (b_row_in c_number_by)
theorem o_row_in {P : Program} {w : World} {K : PySem.W.Frag} {mg : Str → Option Value} {base : Heap} {D : Dat} (T : Txt D K mg)
  {c_number_by : FM} (F_number_by : FnG P w K mg base 1 D.a_number_by D.d_number_by ["word"] (SPm K 1 c_number_by)) :
    FnG P w K mg base 2 D.a_row_in D.d_row_in ["words"] (SPm K 1 (f_row_in c_number_by)) :=
  have S := sc_row_in
  ok_body (k := 1) T.f_row_in S fun cdv A outer s H E hr gd =>
    (sss_cons (ss_if (st_cmp (o_eq hr) p_eq (se_var 0) (se_fix (sl_lst (sa_cons (se_globS T.k_EMPTY) sa_nil))))
    (sss_one (ss_ret (se_tup sa_nil)))
    sss_nil)
    (sss_cons (ss_set 1 S.nd (pg_callTS back_W call_tuple_of q_tup T.n_tuple (by rfl) (sq_list (sl_lc [("word", 2)] rfl S.nd (si_iter big (se_var 0)) (by kernel_rfl) (fun _ _ _ _ _ => (sg_name 2 S.nd)) (fun _ _ _ _ _ => sts_nil) (fun _ _ _ _ _ => (se_call F_number_by T.b_number_by T.f_number_by.kp (hr.mono (by decide)) gd takes0 T.g_number_by (sa_cons (se_var 2) sa_nil)))))))
    (sss_one (ss_ret (se_if (PW.pt (sw_or (st_cmp (o_eq hr) p_eq (se_var 1) (se_tup sa_nil)) (sw_or1 (st_cmp (o_in hr) p_in se_non (se_var 1))))) se_non (se_var 1))))))
/-! ### _law_pick -/
theorem sc_Lpick : FnScope ["_law_state_here", "_law_some"] ["_law_state_here", "_law_some"] (defScope st_Lpick) := ⟨rfl, rfl, rfl, by decide +kernel, rfl, by decide +kernel, by decide +kernel⟩
def b_Lpick (c_Ltake : FM) : SM :=
  (sRet (mOp wIx (mVar 1) (mFn 2 c_Ltake (mCons (mVar 0) (mCons (mCall wLen (mCons (mVar 1) mNil)) mNil)))))
def f_Lpick (c_Ltake : FM) : FM := runB 2 (b_Lpick c_Ltake)
theorem o_Lpick {P : Program} {w : World} {K : PySem.W.Frag} {mg : Str → Option Value} {base : Heap} {D : Dat} (T : Txt D K mg)
  {c_Ltake : FM} (F_Ltake : FnG P w K mg base 1 D.a_Ltake D.d_Ltake ["_law_state_here", "_law_many"] (SPm K 2 c_Ltake)) :
    FnG P w K mg base 2 D.a_Lpick D.d_Lpick ["_law_state_here", "_law_some"] (SPm K 2 (f_Lpick c_Ltake)) :=
  have S := sc_Lpick
  ok_body (k := 1) T.f_Lpick S fun cdv A outer s H E hr gd =>
    (sss_one (ss_ret (se_sub' hr (se_var 1) (se_call F_Ltake T.b_Ltake T.f_Ltake.kp (hr.mono (by decide)) gd (takes_of rfl rfl rfl rfl) T.g_Ltake (sa_cons (se_var 0) (sa_cons (se_callB c_len o_len T.n_len (by rfl) (sa_cons (se_var 1) sa_nil)) sa_nil))))))
/-! ### _law_names -/
theorem sc_Lnames : FnScope ["_law_state_here", "_law_many", "_law_letters", "_law_base", "_law_size", "_law_at", "_law_first", "_law_found", "_law_k", "_law_name"] ["_law_state_here", "_law_many"] (defScope st_Lnames) := ⟨rfl, rfl, rfl, by decide +kernel, rfl, by decide +kernel, by decide +kernel⟩
def b_Lnames (c_Ltake : FM) : SM :=
  (sSeq (sAsg (mC (.str "abcdefghijklmnopqrstuvwxyz")) (gN 2))
  (sSeq (sAsg (mNew (mLc (mRange1 (mC (.int 8))) (gN 8) mYes (mOp wIx (mVar 2) (mFn 2 c_Ltake (mCons (mVar 0) (mCons (mC (.int 26)) mNil)))) [8])) (gN 3))
  (sSeq (sAsg (mOp wAdd (mC (.int 1)) (mFn 2 c_Ltake (mCons (mVar 0) (mCons (mC (.int 8)) mNil)))) (gN 4))
  (sSeq (sAsg (mFn 2 c_Ltake (mCons (mVar 0) (mCons (mVar 4) mNil))) (gN 5))
  (sSeq (sAsg (mFn 2 c_Ltake (mCons (mVar 0) (mCons (mC (.int 26)) mNil))) (gN 6))
  (sSeq (sAsg (mNew (mLst mNil)) (gN 7))
  (sSeq (sFor (mRange1 (mVar 1)) (gN 8)
  (sSeq (sAsg (mNew (mSlL (mVar 3) none (some (mVar 4)))) (gN 9))
  (sSeq (sSetIx (mOp wIx (mVar 2) (mOp wMod (mOp wAdd (mVar 6) (mOp wMul (mC (.int 7)) (mVar 8))) (mC (.int 26)))) (mVar 9) (mVar 5))
  (sDrop (mMt "list" wAppend (mVar 7) (mCons (mMt "str" wJoin (mC (.str "")) (mCons (mVar 9) mNil)) mNil))))))
  (sSeq (sIf (mB (mOp wNe (mFix (mLc (mIter big (mVar 7)) (gN 9) (mB (mOp wIn (mVar 9) (mTup (mCons (mC (.str "always")) (mCons (mC (.str "never")) (mCons (mC (.str "at")) (mCons (mC (.str "not")) (mCons (mC (.str "and")) (mCons (mC (.str "or")) mNil))))))))) (mVar 9) [9])) (mFix (mLst mNil))))
  (sRet (mFix (mLc (mIter big (mVar 7)) (gN 9) mYes (mOp wAdd (mVar 9) (mC (.str "x"))) [9])))
  sNext)
  (sRet (mVar 7))))))))))
def f_Lnames (c_Ltake : FM) : FM := runB 10 (b_Lnames c_Ltake)
theorem o_Lnames {P : Program} {w : World} {K : PySem.W.Frag} {mg : Str → Option Value} {base : Heap} {D : Dat} (T : Txt D K mg)
  {c_Ltake : FM} (F_Ltake : FnG P w K mg base 1 D.a_Ltake D.d_Ltake ["_law_state_here", "_law_many"] (SPm K 2 c_Ltake)) :
    FnG P w K mg base 2 D.a_Lnames D.d_Lnames ["_law_state_here", "_law_many"] (SPm K 2 (f_Lnames c_Ltake)) :=
  have S := sc_Lnames
  ok_body (k := 1) T.f_Lnames S fun cdv A outer s H E hr gd =>
    (sss_cons (ss_set 2 S.nd se_str)
    (sss_cons (ss_setLc 3 [("_law_k", 8)] rfl S.nd (si_range1 T.n_range se_int) (by kernel_rfl) (fun _ _ _ _ _ => (sg_name 8 S.nd)) (fun _ _ _ _ _ => sts_nil) (fun _ _ _ _ _ => (se_sub' hr (se_var 2) (se_call F_Ltake T.b_Ltake T.f_Ltake.kp (hr.mono (by decide)) gd takes0 T.g_Ltake (sa_cons (se_var 0) (sa_cons se_int sa_nil))))))
    (sss_cons (ss_set 4 S.nd (se_add se_int (se_call F_Ltake T.b_Ltake T.f_Ltake.kp (hr.mono (by decide)) gd (takes_of rfl rfl rfl rfl) T.g_Ltake (sa_cons (se_var 0) (sa_cons se_int sa_nil)))))
    (sss_cons (ss_set 5 S.nd (se_call F_Ltake T.b_Ltake T.f_Ltake.kp (hr.mono (by decide)) gd (takes_of rfl rfl rfl rfl) T.g_Ltake (sa_cons (se_var 0) (sa_cons (se_var 4) sa_nil))))
    (sss_cons (ss_set 6 S.nd (se_call F_Ltake T.b_Ltake T.f_Ltake.kp (hr.mono (by decide)) gd (takes_of rfl rfl rfl rfl) T.g_Ltake (sa_cons (se_var 0) (sa_cons se_int sa_nil))))
    (sss_cons (ss_set 7 S.nd (se_new (sl_lst sa_nil)))
    (sss_cons (ss_for (passes_of rfl) rfl (si_range1 T.n_range (se_var 1)) (sg_name 8 S.nd)
    (sss_cons (ss_set 9 S.nd (se_new (sl_slice (se_var 3) .none (.some (se_var 4)))))
    (sss_cons (ss_setix hr (se_sub' hr (se_var 2) (se_mod (se_add (se_var 6) (se_mul se_int (se_var 8))) se_int)) (se_var 9) (se_var 5))
    (sss_one (ss_expr (se_append mt_append (se_var 7) (se_join se_str (se_var 9))))))))
    (sss_cons (ss_if (st_cmp (o_ne hr) p_ne (se_fix (sl_lc [("_law_name", 9)] rfl S.nd (si_iter big (se_var 7)) (by kernel_rfl) (fun _ _ _ _ _ => (sg_name 9 S.nd)) (fun _ _ _ _ _ => (sts_one (st_cmp (o_in hr) p_in (se_var 9) (se_tup (sa_cons se_str (sa_cons se_str (sa_cons se_str (sa_cons se_str (sa_cons se_str (sa_cons se_str sa_nil)))))))))) (fun _ _ _ _ _ => (se_var 9)))) (se_fix (sl_lst sa_nil)))
    (sss_one (ss_ret (se_fix (sl_lc [("_law_name", 9)] rfl S.nd (si_iter big (se_var 7)) (by kernel_rfl) (fun _ _ _ _ _ => (sg_name 9 S.nd)) (fun _ _ _ _ _ => sts_nil) (fun _ _ _ _ _ => (se_add (se_var 9) se_str))))))
    sss_nil)
    (sss_one (ss_ret (se_var 7)))))))))))
/-! ### _law_due -/
theorem sc_Ldue : FnScope ["_law_text", "_law_found", "_law_k", "_law_row", "_law_words", "_law_letters", "_law_numbers", "_law_word_here", "_law_sign", "_law_rows"] ["_law_text"] (defScope st_Ldue) := ⟨rfl, rfl, rfl, by decide +kernel, rfl, by decide +kernel, by decide +kernel⟩
def b_Ldue (c_Lwhole : FM) : SM :=
  (sSeq (sAsg (mNew (mLst mNil)) (gN 1))
  (sSeq (sFor (mEnum big (mIf (mB (mOp wNe (mVar 0) (mC (.str "")))) (mMt "str" wSplit (mVar 0) (mCons (mC (.str "\n")) mNil)) (mFix (mLst mNil)))) (gT (gCons' (gN 2) (gCons' (gN 3) gNil')))
  (sSeq (sAsg (mNew (mLc (mIter big (mMt "str" wSplit (mVar 3) (mCons (mC (.str " ")) mNil))) (gN 7) (mB (mOp wNe (mVar 7) (mC (.str "")))) (mVar 7) [7])) (gN 4))
  (sSeq (sAsg (mNew (mLc (mIter big (mMt "str" wJoin (mC (.str "")) (mCons (mSl (mVar 4) (some (mC (.int 1))) none) mNil))) (gN 8) (mB (mOp wNotIn (mVar 8) (mC (.str "abcdefghijklmnopqrstuvwxyz")))) (mVar 8) [8])) (gN 5))
  (sIf (mAnd (mB (mOp wEq (mSl (mVar 4) none (some (mC (.int 1)))) (mFix (mLst (mCons (mC (.str "paper")) mNil))))) (mAnd (mB (mOp wEq (mCall wLen (mCons (mVar 4) mNil)) (mC (.int 2)))) (mAnd (mB (mOp wEq (mVar 5) (mFix (mLst mNil)))) (mB (mOp wLt (mCall wLen (mCons (mOp wIx (mVar 4) (mC (.int 1))) mNil)) (mC (.int 9)))))))
  (sDrop (mMt "list" wAppend (mVar 1) (mCons (mTup (mCons (mOp wIx (mVar 4) (mC (.int 1))) (mCons (mNew (mLst mNil)) mNil))) mNil)))
  (sIf (mAnd (mB (mOp wNe (mVar 1) (mFix (mLst mNil)))) (mB (mOp wEq (mVar 4) (mFix (mLst (mCons (mC (.str "none")) mNil))))))
  (sDrop (mMt "list" wAppend (mOp wIx (mOp wIx (mVar 1) (mUn wNeg (mC (.int 1)))) (mC (.int 1))) (mCons (mTup mNil) mNil)))
  (sSeq (sAsg (mNew (mLc (mIter big (mVar 4)) (gN 7) mYes (mFn 1 c_Lwhole (mCons (mVar 7) mNil)) [7])) (gN 6))
  (sSeq (sIf (mOr (mB (mOp wEq (mVar 1) (mFix (mLst mNil)))) (mOr (mB (mOp wEq (mVar 6) (mFix (mLst mNil)))) (mB (mOp wIn (mC .non) (mVar 6)))))
  (sRet (mOp wAdd (mVar 2) (mC (.int 1))))
  sNext)
  (sDrop (mMt "list" wAppend (mOp wIx (mOp wIx (mVar 1) (mUn wNeg (mC (.int 1)))) (mC (.int 1))) (mCons (mOn wTupQ (mSeq (mVar 6))) mNil))))))))))
  (sRet (mOn wTupQ (mLc (mIter big (mVar 1)) (gT (gCons' (gN 7) (gCons' (gN 9) gNil'))) mYes (mTup (mCons (mVar 7) (mCons (mOn wTupQ (mSeq (mVar 9))) mNil))) [7, 9])))))
def f_Ldue (c_Lwhole : FM) : FM := runB 10 (b_Ldue c_Lwhole)
theorem o_Ldue {P : Program} {w : World} {K : PySem.W.Frag} {mg : Str → Option Value} {base : Heap} {D : Dat} (T : Txt D K mg)
  {c_Lwhole : FM} (F_Lwhole : FnG P w K mg base 1 D.a_Lwhole D.d_Lwhole ["_law_word_here"] (SPm K 1 c_Lwhole)) :
    FnG P w K mg base 2 D.a_Ldue D.d_Ldue ["_law_text"] (SPm K 1 (f_Ldue c_Lwhole)) :=
  have S := sc_Ldue
  ok_body (k := 1) T.f_Ldue S fun cdv A outer s H E hr gd =>
    (sss_cons (ss_set 1 S.nd (se_new (sl_lst sa_nil)))
    (sss_cons (ss_for (passes_of rfl) rfl (si_enum big T.n_enumerate (se_if (st_cmp (o_ne hr) p_ne (se_var 0) se_str) (se_split (se_var 0) se_str) (se_fix (sl_lst sa_nil)))) (sg_tup rfl (sgs_cons (sg_name 2 S.nd) (sgs_cons (sg_name 3 S.nd) sgs_nil)) (fun _ _ _ e => gl_cons (fun _ _ _ e => gl_cons (fun _ _ _ e => gl_nil e) e) e))
    (sss_cons (ss_setLc 4 [("_law_word_here", 7)] rfl S.nd (si_iter big (se_split (se_var 3) se_str)) (by kernel_rfl) (fun _ _ _ _ _ => (sg_name 7 S.nd)) (fun _ _ _ _ _ => (sts_one (st_cmp (o_ne hr) p_ne (se_var 7) se_str))) (fun _ _ _ _ _ => (se_var 7)))
    (sss_cons (ss_setLc 5 [("_law_sign", 8)] rfl S.nd (si_iter big (se_join se_str (se_slice (se_var 4) (.some se_int) .none))) (by kernel_rfl) (fun _ _ _ _ _ => (sg_name 8 S.nd)) (fun _ _ _ _ _ => (sts_one (st_cmp (o_notIn hr) p_notIn (se_var 8) se_str))) (fun _ _ _ _ _ => (se_var 8)))
    (sss_one (ss_if (PW.pt (sw_and (st_cmp (o_eq hr) p_eq (se_slice (se_var 4) .none (.some se_int)) (se_fix (sl_lst (sa_cons se_str sa_nil)))) (sw_and (st_cmp (o_eq hr) p_eq (se_callB c_len o_len T.n_len (by rfl) (sa_cons (se_var 4) sa_nil)) se_int) (sw_and (st_cmp (o_eq hr) p_eq (se_var 5) (se_fix (sl_lst sa_nil))) (sw_and1 (st_cmp o_lt p_lt (se_callB c_len o_len T.n_len (by rfl) (sa_cons (se_sub' hr (se_var 4) se_int) sa_nil)) se_int))))))
    (sss_one (ss_expr (se_append mt_append (se_var 1) (se_tup (sa_cons (se_sub' hr (se_var 4) se_int) (sa_cons (se_new (sl_lst sa_nil)) sa_nil))))))
    (sss_one (ss_if (PW.pt (sw_and (st_cmp (o_ne hr) p_ne (se_var 1) (se_fix (sl_lst sa_nil))) (sw_and1 (st_cmp (o_eq hr) p_eq (se_var 4) (se_fix (sl_lst (sa_cons se_str sa_nil)))))))
    (sss_one (ss_expr (se_append mt_append (se_sub' hr (se_sub' hr (se_var 1) (se_neg se_int)) se_int) (se_tup sa_nil))))
    (sss_cons (ss_setLc 6 [("_law_word_here", 7)] rfl S.nd (si_iter big (se_var 4)) (by kernel_rfl) (fun _ _ _ _ _ => (sg_name 7 S.nd)) (fun _ _ _ _ _ => sts_nil) (fun _ _ _ _ _ => (se_call F_Lwhole T.b_Lwhole T.f_Lwhole.kp (hr.mono (by decide)) gd takes0 T.g_Lwhole (sa_cons (se_var 7) sa_nil))))
    (sss_cons (ss_if (PW.pt (sw_or (st_cmp (o_eq hr) p_eq (se_var 1) (se_fix (sl_lst sa_nil))) (sw_or (st_cmp (o_eq hr) p_eq (se_var 6) (se_fix (sl_lst sa_nil))) (sw_or1 (st_cmp (o_in hr) p_in se_non (se_var 6))))))
    (sss_one (ss_ret (se_add (se_var 2) se_int)))
    sss_nil)
    (sss_one (ss_expr (se_append mt_append (se_sub' hr (se_sub' hr (se_var 1) (se_neg se_int)) se_int) (pg_callTS back_W call_tuple_of q_tup T.n_tuple (by rfl) (sq_val (se_var 6)))))))))))))))
    (sss_one (ss_ret (pg_callTS back_W call_tuple_of q_tup T.n_tuple (by rfl) (sq_list (sl_lc [("_law_word_here", 7), ("_law_rows", 9)] rfl S.nd (si_iter big (se_var 1)) (by kernel_rfl) (fun _ _ _ _ _ => (sg_tup rfl (sgs_cons (sg_name 7 S.nd) (sgs_cons (sg_name 9 S.nd) sgs_nil)) (fun _ _ _ e => gl_cons (fun _ _ _ e => gl_cons (fun _ _ _ e => gl_nil e) e) e))) (fun _ _ _ _ _ => sts_nil) (fun _ _ _ _ _ => (se_tup (sa_cons (se_var 7) (sa_cons (pg_callTS back_W call_tuple_of q_tup T.n_tuple (by rfl) (sq_val (se_var 9))) sa_nil)))))))))))
/-! ### papers_in -/
theorem sc_papers_in : FnScope ["text", "found", "rows", "at", "row", "words", "numbers", "word", "some"] ["text"] (defScope st_papers_in) := ⟨rfl, rfl, rfl, by decide +kernel, rfl, by decide +kernel, by decide +kernel⟩
def b_papers_in (c_words_of c_is_name c_row_in : FM) : SM :=
  (sSeq (sIf (mNot (mTru (mIsi "str" (mVar 0))))
  (sRaiseF "BadText" ["line"] (mCons (mC (.int 1)) mNil))
  sNext)
  (sSeq (sAsg (mNew (mLst mNil)) (gN 1))
  (sSeq (sAsg (mIf (mB (mOp wNe (mVar 0) (mC (.str "")))) (mMt "str" wSplit (mVar 0) (mCons (mC (.str "\n")) mNil)) (mFix (mLst mNil))) (gN 2))
  (sSeq (sFor (mEnum big (mVar 2)) (gT (gCons' (gN 3) (gCons' (gN 4) gNil')))
  (sSeq (sAsg (mFn 1 c_words_of (mCons (mVar 4) mNil)) (gN 5))
  (sIf (mAnd (mB (mOp wEq (mCall wLen (mCons (mVar 5) mNil)) (mC (.int 2)))) (mAnd (mB (mOp wEq (mOp wIx (mVar 5) (mC (.int 0))) (mC (.str "paper")))) (mTru (mFn 1 c_is_name (mCons (mOp wIx (mVar 5) (mC (.int 1))) mNil)))))
  (sDrop (mMt "list" wAppend (mVar 1) (mCons (mTup (mCons (mOp wIx (mVar 5) (mC (.int 1))) (mCons (mNew (mLst mNil)) mNil))) mNil)))
  (sSeq (sAsg (mFn 1 c_row_in (mCons (mVar 5) mNil)) (gN 6))
  (sSeq (sIf (mOr (mB (mOp wIs (mVar 6) (mC .non))) (mB (mOp wEq (mVar 1) (mFix (mLst mNil)))))
  (sRaiseF "BadText" ["line"] (mCons (mOp wAdd (mVar 3) (mC (.int 1))) mNil))
  sNext)
  (sDrop (mMt "list" wAppend (mOp wIx (mOp wIx (mVar 1) (mUn wNeg (mC (.int 1)))) (mC (.int 1))) (mCons (mVar 6) mNil))))))))
  (sRet (mOn wTupQ (mLc (mIter big (mVar 1)) (gT (gCons' (gN 7) (gCons' (gN 8) gNil'))) mYes (mTup (mCons (mVar 7) (mCons (mOn wTupQ (mSeq (mVar 8))) mNil))) [7, 8])))))))
def f_papers_in (c_words_of c_is_name c_row_in : FM) : FM := runB 9 (b_papers_in c_words_of c_is_name c_row_in)
theorem o_papers_in {P : Program} {w : World} {K : PySem.W.Frag} {mg : Str → Option Value} {base : Heap} {D : Dat} (T : Txt D K mg)
  {c_words_of : FM} (F_words_of : FnG P w K mg base 1 D.a_words_of D.d_words_of ["text"] (SPm K 1 c_words_of))
  {c_is_name : FM} (F_is_name : FnG P w K mg base 1 D.a_is_name D.d_is_name ["thing"] (SPm K 1 c_is_name))
  {c_row_in : FM} (F_row_in : FnG P w K mg base 2 D.a_row_in D.d_row_in ["words"] (SPm K 1 c_row_in)) :
    FnG P w K mg base 3 D.a_papers_in D.d_papers_in ["text"] (SPm K 1 (f_papers_in c_words_of c_is_name c_row_in)) :=
  have S := sc_papers_in
  ok_body (k := 2) T.f_papers_in S fun cdv A outer s H E hr gd =>
    (sss_cons (ss_if (st_not (st_tru (se_isi "str" (by decide) T.n_isinstance T.n_str (se_var 0) (by rfl))))
    (sss_one (ss_raiseF (i_BadText T) hr (by decide) (takes_of rfl rfl rfl rfl) (sa_cons se_int sa_nil)))
    sss_nil)
    (sss_cons (ss_set 1 S.nd (se_new (sl_lst sa_nil)))
    (sss_cons (ss_set 2 S.nd (se_if (st_cmp (o_ne hr) p_ne (se_var 0) se_str) (se_split (se_var 0) se_str) (se_fix (sl_lst sa_nil))))
    (sss_cons (ss_for (passes_of rfl) rfl (si_enum big T.n_enumerate (se_var 2)) (sg_tup rfl (sgs_cons (sg_name 3 S.nd) (sgs_cons (sg_name 4 S.nd) sgs_nil)) (fun _ _ _ e => gl_cons (fun _ _ _ e => gl_cons (fun _ _ _ e => gl_nil e) e) e))
    (sss_cons (ss_set 5 S.nd (se_call F_words_of T.b_words_of T.f_words_of.kp (hr.mono (by decide)) gd (takes_of rfl rfl rfl rfl) T.g_words_of (sa_cons (se_var 4) sa_nil)))
    (sss_one (ss_if (PW.pt (sw_and (st_cmp (o_eq hr) p_eq (se_callB c_len o_len T.n_len (by rfl) (sa_cons (se_var 5) sa_nil)) se_int) (sw_and (st_cmp (o_eq hr) p_eq (se_sub' hr (se_var 5) se_int) se_str) (sw_and1 (st_tru (se_call F_is_name T.b_is_name T.f_is_name.kp (hr.mono (by decide)) gd (takes_of rfl rfl rfl rfl) T.g_is_name (sa_cons (se_sub' hr (se_var 5) se_int) sa_nil)))))))
    (sss_one (ss_expr (se_append mt_append (se_var 1) (se_tup (sa_cons (se_sub' hr (se_var 5) se_int) (sa_cons (se_new (sl_lst sa_nil)) sa_nil))))))
    (sss_cons (ss_set 6 S.nd (se_call F_row_in T.b_row_in T.f_row_in.kp (hr.mono (by decide)) gd (takes_of rfl rfl rfl rfl) T.g_row_in (sa_cons (se_var 5) sa_nil)))
    (sss_cons (ss_if (PW.pt (sw_or (st_cmp o_is p_is (se_var 6) se_non) (sw_or1 (st_cmp (o_eq hr) p_eq (se_var 1) (se_fix (sl_lst sa_nil))))))
    (sss_one (ss_raiseF (i_BadText T) hr (by decide) (takes_of rfl rfl rfl rfl) (sa_cons (se_add (se_var 3) se_int) sa_nil)))
    sss_nil)
    (sss_one (ss_expr (se_append mt_append (se_sub' hr (se_sub' hr (se_var 1) (se_neg se_int)) se_int) (se_var 6))))))))))
    (sss_one (ss_ret (pg_callTS back_W call_tuple_of q_tup T.n_tuple (by rfl) (sq_list (sl_lc [("word", 7), ("some", 8)] rfl S.nd (si_iter big (se_var 1)) (by kernel_rfl) (fun _ _ _ _ _ => (sg_tup rfl (sgs_cons (sg_name 7 S.nd) (sgs_cons (sg_name 8 S.nd) sgs_nil)) (fun _ _ _ e => gl_cons (fun _ _ _ e => gl_cons (fun _ _ _ e => gl_nil e) e) e))) (fun _ _ _ _ _ => sts_nil) (fun _ _ _ _ _ => (se_tup (sa_cons (se_var 7) (sa_cons (pg_callTS back_W call_tuple_of q_tup T.n_tuple (by rfl) (sq_val (se_var 8))) sa_nil)))))))))))))
/-! ### _law_papers -/
theorem sc_Lpapers : FnScope ["_law_state_here", "_law_words", "_law_found", "_law_k", "_law_rows", "_law_j", "_law_most", "_law_i"] ["_law_state_here"] (defScope st_Lpapers) := ⟨rfl, rfl, rfl, by decide +kernel, rfl, by decide +kernel, by decide +kernel⟩
def b_Lpapers (c_Lnames c_Ltake c_Lpick : FM) : SM :=
  (sSeq (sAsg (mOp wAdd (mFn 2 c_Lnames (mCons (mVar 0) (mCons (mC (.int 4)) mNil))) (mFix (mLst (mCons (mC (.str "run")) (mCons (mC (.str "set")) (mCons (mC (.str "none")) (mCons (mC (.str "paper")) mNil))))))) (gN 1))
  (sSeq (sAsg (mNew (mLst mNil)) (gN 2))
  (sSeq (sFor (mRange1 (mFn 2 c_Ltake (mCons (mVar 0) (mCons (mC (.int 5)) mNil)))) (gN 3)
  (sSeq (sAsg (mNew (mLst mNil)) (gN 4))
  (sSeq (sFor (mRange1 (mFn 2 c_Lpick (mCons (mVar 0) (mCons (mFix (mLst (mCons (mC (.int 0)) (mCons (mC (.int 1)) (mCons (mC (.int 2)) (mCons (mC (.int 6)) mNil)))))) mNil)))) (gN 5)
  (sSeq (sAsg (mFn 2 c_Lpick (mCons (mVar 0) (mCons (mFix (mLst (mCons (mC (.int 10)) (mCons (mC (.int 1000)) (mCons (mOp wPow (mC (.int 10)) (mC (.int 15))) mNil))))) mNil))) (gN 6))
  (sDrop (mMt "list" wAppend (mVar 4) (mCons (mOn wTupQ (mLc (mRange1 (mFn 2 c_Ltake (mCons (mVar 0) (mCons (mC (.int 6)) mNil)))) (gN 7) mYes (mOp wAdd (mOp wSub (mFn 2 c_Ltake (mCons (mVar 0) (mCons (mOp wSub (mOp wMul (mC (.int 2)) (mVar 6)) (mC (.int 1))) mNil))) (mVar 6)) (mC (.int 1))) [7])) mNil)))))
  (sDrop (mMt "list" wAppend (mVar 2) (mCons (mTup (mCons (mFn 2 c_Lpick (mCons (mVar 0) (mCons (mVar 1) mNil))) (mCons (mOn wTupQ (mSeq (mVar 4))) mNil))) mNil))))))
  (sRet (mOn wTupQ (mSeq (mVar 2)))))))
def f_Lpapers (c_Lnames c_Ltake c_Lpick : FM) : FM := runB 8 (b_Lpapers c_Lnames c_Ltake c_Lpick)
theorem o_Lpapers {P : Program} {w : World} {K : PySem.W.Frag} {mg : Str → Option Value} {base : Heap} {D : Dat} (T : Txt D K mg)
  {c_Lnames : FM} (F_Lnames : FnG P w K mg base 2 D.a_Lnames D.d_Lnames ["_law_state_here", "_law_many"] (SPm K 2 c_Lnames))
  {c_Ltake : FM} (F_Ltake : FnG P w K mg base 1 D.a_Ltake D.d_Ltake ["_law_state_here", "_law_many"] (SPm K 2 c_Ltake))
  {c_Lpick : FM} (F_Lpick : FnG P w K mg base 2 D.a_Lpick D.d_Lpick ["_law_state_here", "_law_some"] (SPm K 2 c_Lpick)) :
    FnG P w K mg base 3 D.a_Lpapers D.d_Lpapers ["_law_state_here"] (SPm K 1 (f_Lpapers c_Lnames c_Ltake c_Lpick)) :=
  have S := sc_Lpapers
  ok_body (k := 2) T.f_Lpapers S fun cdv A outer s H E hr gd =>
    (sss_cons (ss_set 1 S.nd (se_add (se_call F_Lnames T.b_Lnames T.f_Lnames.kp (hr.mono (by decide)) gd (takes_of rfl rfl rfl rfl) T.g_Lnames (sa_cons (se_var 0) (sa_cons se_int sa_nil))) (se_fix (sl_lst (sa_cons se_str (sa_cons se_str (sa_cons se_str (sa_cons se_str sa_nil))))))))
    (sss_cons (ss_set 2 S.nd (se_new (sl_lst sa_nil)))
    (sss_cons (ss_for (passes_of rfl) rfl (si_range1 T.n_range (se_call F_Ltake T.b_Ltake T.f_Ltake.kp (hr.mono (by decide)) gd (takes_of rfl rfl rfl rfl) T.g_Ltake (sa_cons (se_var 0) (sa_cons se_int sa_nil)))) (sg_name 3 S.nd)
    (sss_cons (ss_set 4 S.nd (se_new (sl_lst sa_nil)))
    (sss_cons (ss_for (passes_of rfl) rfl (si_range1 T.n_range (se_call F_Lpick T.b_Lpick T.f_Lpick.kp (hr.mono (by decide)) gd (takes_of rfl rfl rfl rfl) T.g_Lpick (sa_cons (se_var 0) (sa_cons (se_fix (sl_lst (sa_cons se_int (sa_cons se_int (sa_cons se_int (sa_cons se_int sa_nil)))))) sa_nil)))) (sg_name 5 S.nd)
    (sss_cons (ss_set 6 S.nd (se_call F_Lpick T.b_Lpick T.f_Lpick.kp (hr.mono (by decide)) gd (takes_of rfl rfl rfl rfl) T.g_Lpick (sa_cons (se_var 0) (sa_cons (se_fix (sl_lst (sa_cons se_int (sa_cons se_int (sa_cons (se_pow se_int se_int) sa_nil))))) sa_nil))))
    (sss_one (ss_expr (se_append mt_append (se_var 4) (pg_callTS back_W call_tuple_of q_tup T.n_tuple (by rfl) (sq_list (sl_lc [("_law_i", 7)] rfl S.nd (si_range1 T.n_range (se_call F_Ltake T.b_Ltake T.f_Ltake.kp (hr.mono (by decide)) gd (takes_of rfl rfl rfl rfl) T.g_Ltake (sa_cons (se_var 0) (sa_cons se_int sa_nil)))) (by kernel_rfl) (fun _ _ _ _ _ => (sg_name 7 S.nd)) (fun _ _ _ _ _ => sts_nil) (fun _ _ _ _ _ => (se_add (se_sub (se_call F_Ltake T.b_Ltake T.f_Ltake.kp (hr.mono (by decide)) gd takes0 T.g_Ltake (sa_cons (se_var 0) (sa_cons (se_sub (se_mul se_int (se_var 6)) se_int) sa_nil))) (se_var 6)) se_int))))))))))
    (sss_one (ss_expr (se_append mt_append (se_var 2) (se_tup (sa_cons (se_call F_Lpick T.b_Lpick T.f_Lpick.kp (hr.mono (by decide)) gd (takes_of rfl rfl rfl rfl) T.g_Lpick (sa_cons (se_var 0) (sa_cons (se_var 1) sa_nil))) (sa_cons (pg_callTS back_W call_tuple_of q_tup T.n_tuple (by rfl) (sq_val (se_var 4))) sa_nil)))))))))
    (sss_one (ss_ret (pg_callTS back_W call_tuple_of q_tup T.n_tuple (by rfl) (sq_val (se_var 2))))))))
/-! ### _law_bent_text -/
theorem sc_Lbent_text : FnScope ["_law_state_here", "_law_rows", "_law_some", "_law_at", "_law_way", "_law_head", "_law_tail", "_law_text", "_law_spot", "_law_sign"] ["_law_state_here", "_law_rows"] (defScope st_Lbent_text) := ⟨rfl, rfl, rfl, by decide +kernel, rfl, by decide +kernel, by decide +kernel⟩
def b_Lbent_text (c_Ltake c_Lpick : FM) : SM :=
  (sSeq (sAsg (mFix (mLst (mCons (mC (.str "")) (mCons (mC (.str " ")) (mCons (mC (.str "paper")) (mCons (mC (.str "paper a")) (mCons (mC (.str "paper a b")) (mCons (mC (.str "paper A")) (mCons (mC (.str "paper abcdefghi")) (mCons (mC (.str "none")) (mCons (mC (.str "none none")) (mCons (mC (.str "0 -0")) (mCons (mC (.str "01")) mNil))))))))))))) (gN 2))
  (sSeq (sAsg (mOp wAdd (mVar 2) (mFix (mLst (mCons (mC (.str "5 none")) (mCons (mC (.str "1234567890123456")) (mCons (mC (.str "-123456789012345")) (mCons (mC (.str "+1")) (mCons (mC (.str "1.0")) (mCons (mC (.str "- 1")) (mCons (mC (.str "paper a1")) (mCons (mC (.str "Paper a")) (mCons (mC (.str "5")) mNil)))))))))))) (gN 2))
  (sSeq (sAsg (mFn 2 c_Ltake (mCons (mVar 0) (mCons (mOp wAdd (mCall wLen (mCons (mVar 1) mNil)) (mC (.int 1))) mNil))) (gN 3))
  (sSeq (sAsg (mFn 2 c_Ltake (mCons (mVar 0) (mCons (mC (.int 6)) mNil))) (gN 4))
  (sSeq (sPar (mSl (mVar 1) none (some (mVar 3))) (mSl (mVar 1) (some (mVar 3)) none) 5 6)
  (sSeq (sIf (mB (mOp wEq (mVar 4) (mC (.int 0))))
  (sRet (mMt "str" wJoin (mC (.str "\n")) (mCons (mOp wAdd (mOp wAdd (mVar 5) (mFix (mLst (mCons (mFn 2 c_Lpick (mCons (mVar 0) (mCons (mVar 2) mNil))) mNil)))) (mVar 6)) mNil)))
  sNext)
  (sSeq (sIf (mB (mOp wEq (mVar 4) (mC (.int 1))))
  (sRet (mMt "str" wJoin (mC (.str "\n")) (mCons (mOp wAdd (mVar 5) (mSl (mVar 6) (some (mC (.int 1))) none)) mNil)))
  sNext)
  (sSeq (sIf (mB (mOp wEq (mVar 4) (mC (.int 2))))
  (sRet (mMt "str" wJoin (mC (.str "\n")) (mCons (mOp wAdd (mOp wAdd (mVar 5) (mSl (mVar 6) none (some (mC (.int 1))))) (mVar 6)) mNil)))
  sNext)
  (sSeq (sIf (mB (mOp wEq (mVar 4) (mC (.int 3))))
  (sRet (mMt "str" wJoin (mC (.str "\n")) (mCons (mOp wAdd (mOp wAdd (mVar 5) (mUn wRev (mSl (mVar 6) none (some (mC (.int 2)))))) (mSl (mVar 6) (some (mC (.int 2))) none)) mNil)))
  sNext)
  (sSeq (sAsg (mMt "str" wJoin (mC (.str "\n")) (mCons (mVar 1) mNil)) (gN 7))
  (sSeq (sAsg (mFn 2 c_Ltake (mCons (mVar 0) (mCons (mOp wAdd (mCall wLen (mCons (mVar 7) mNil)) (mC (.int 1))) mNil))) (gN 8))
  (sSeq (sAsg (mFn 2 c_Lpick (mCons (mVar 0) (mCons (mC (.str " -0159aepnorA\n.")) mNil))) (gN 9))
  (sRet (mOp wAdd (mOp wAdd (mSl (mVar 7) none (some (mVar 8))) (mVar 9)) (mSl (mVar 7) (some (mOp wSub (mOp wAdd (mVar 8) (mVar 4)) (mC (.int 4)))) none)))))))))))))))
def f_Lbent_text (c_Ltake c_Lpick : FM) : FM := runB 10 (b_Lbent_text c_Ltake c_Lpick)
theorem o_Lbent_text {P : Program} {w : World} {K : PySem.W.Frag} {mg : Str → Option Value} {base : Heap} {D : Dat} (T : Txt D K mg)
  {c_Ltake : FM} (F_Ltake : FnG P w K mg base 1 D.a_Ltake D.d_Ltake ["_law_state_here", "_law_many"] (SPm K 2 c_Ltake))
  {c_Lpick : FM} (F_Lpick : FnG P w K mg base 2 D.a_Lpick D.d_Lpick ["_law_state_here", "_law_some"] (SPm K 2 c_Lpick)) :
    FnG P w K mg base 3 D.a_Lbent_text D.d_Lbent_text ["_law_state_here", "_law_rows"] (SPm K 2 (f_Lbent_text c_Ltake c_Lpick)) :=
  have S := sc_Lbent_text
  ok_body (k := 2) T.f_Lbent_text S fun cdv A outer s H E hr gd =>
    (sss_cons (ss_set 2 S.nd (se_fix (sl_lst (sa_cons se_str (sa_cons se_str (sa_cons se_str (sa_cons se_str (sa_cons se_str (sa_cons se_str (sa_cons se_str (sa_cons se_str (sa_cons se_str (sa_cons se_str (sa_cons se_str sa_nil))))))))))))))
    (sss_cons (ss_set 2 S.nd (se_add (se_var 2) (se_fix (sl_lst (sa_cons se_str (sa_cons se_str (sa_cons se_str (sa_cons se_str (sa_cons se_str (sa_cons se_str (sa_cons se_str (sa_cons se_str (sa_cons se_str sa_nil)))))))))))))
    (sss_cons (ss_set 3 S.nd (se_call F_Ltake T.b_Ltake T.f_Ltake.kp (hr.mono (by decide)) gd (takes_of rfl rfl rfl rfl) T.g_Ltake (sa_cons (se_var 0) (sa_cons (se_add (se_callB c_len o_len T.n_len (by rfl) (sa_cons (se_var 1) sa_nil)) se_int) sa_nil))))
    (sss_cons (ss_set 4 S.nd (se_call F_Ltake T.b_Ltake T.f_Ltake.kp (hr.mono (by decide)) gd (takes_of rfl rfl rfl rfl) T.g_Ltake (sa_cons (se_var 0) (sa_cons se_int sa_nil))))
    (sss_cons (ss_par 5 6 S.nd (se_slice (se_var 1) .none (.some (se_var 3))) (se_slice (se_var 1) (.some (se_var 3)) .none))
    (sss_cons (ss_if (st_cmp (o_eq hr) p_eq (se_var 4) se_int)
    (sss_one (ss_ret (se_join se_str (se_add (se_add (se_var 5) (se_fix (sl_lst (sa_cons (se_call F_Lpick T.b_Lpick T.f_Lpick.kp (hr.mono (by decide)) gd (takes_of rfl rfl rfl rfl) T.g_Lpick (sa_cons (se_var 0) (sa_cons (se_var 2) sa_nil))) sa_nil)))) (se_var 6)))))
    sss_nil)
    (sss_cons (ss_if (st_cmp (o_eq hr) p_eq (se_var 4) se_int)
    (sss_one (ss_ret (se_join se_str (se_add (se_var 5) (se_slice (se_var 6) (.some se_int) .none)))))
    sss_nil)
    (sss_cons (ss_if (st_cmp (o_eq hr) p_eq (se_var 4) se_int)
    (sss_one (ss_ret (se_join se_str (se_add (se_add (se_var 5) (se_slice (se_var 6) .none (.some se_int))) (se_var 6)))))
    sss_nil)
    (sss_cons (ss_if (st_cmp (o_eq hr) p_eq (se_var 4) se_int)
    (sss_one (ss_ret (se_join se_str (se_add (se_add (se_var 5) (se_rev (se_slice (se_var 6) .none (.some se_int)))) (se_slice (se_var 6) (.some se_int) .none)))))
    sss_nil)
    (sss_cons (ss_set 7 S.nd (se_join se_str (se_var 1)))
    (sss_cons (ss_set 8 S.nd (se_call F_Ltake T.b_Ltake T.f_Ltake.kp (hr.mono (by decide)) gd (takes_of rfl rfl rfl rfl) T.g_Ltake (sa_cons (se_var 0) (sa_cons (se_add (se_callB c_len o_len T.n_len (by rfl) (sa_cons (se_var 7) sa_nil)) se_int) sa_nil))))
    (sss_cons (ss_set 9 S.nd (se_call F_Lpick T.b_Lpick T.f_Lpick.kp (hr.mono (by decide)) gd (takes_of rfl rfl rfl rfl) T.g_Lpick (sa_cons (se_var 0) (sa_cons se_str sa_nil))))
    (sss_one (ss_ret (se_add (se_add (se_slice (se_var 7) .none (.some (se_var 8))) (se_var 9)) (se_slice (se_var 7) (.some (se_sub (se_add (se_var 8) (se_var 4)) se_int)) .none))))))))))))))))
/-! ### _law_right -/
theorem sc_Lright : FnScope ["_law_text", "_law_due_here", "_law_turn", "_law_caught", "_law_found", "_law_e"] ["_law_text"] (defScope st_Lright) := ⟨rfl, rfl, rfl, by decide +kernel, rfl, by decide +kernel, by decide +kernel⟩
def b_Lright (c_Ldue c_papers_in c_Lword : FM) : SM :=
  (sSeq (sAsg (mFn 1 c_Ldue (mCons (mVar 0) mNil)) (gN 1))
  (sSeq (sFor (mRange1 (mC (.int 2))) (gN 2)
  (sSeq (sAsg (mC .non) (gN 3))
  (sSeq (sAsg (mC .non) (gN 4))
  (sSeq (sTry knL (sAsg (mFn 1 c_papers_in (mCons (mVar 0) mNil)) (gN 4)) (⟨"DuelError", some 5, (sAsg (mVar 5) (gN 3))⟩ :: []))
  (sSeq (sIf (mAnd (mTru (mIsi "tuple" (mVar 1))) (mOr (mB (mOp wIsNot (mVar 3) (mC .non))) (mB (mOp wNe (mCall wRepr (mCons (mVar 4) mNil)) (mCall wRepr (mCons (mVar 1) mNil))))))
  (sRet (mC (.bl false)))
  sNext)
  (sIf (mAnd (mNot (mTru (mIsi "tuple" (mVar 1)))) (mOr (mB (mOp wIs (mVar 3) (mC .non))) (mB (mOp wNe (mFn 1 c_Lword (mCons (mVar 3) mNil)) (mTup (mCons (mC (.str "text")) (mCons (mVar 1) mNil)))))))
  (sRet (mC (.bl false)))
  sNext))))))
  (sRet (mC (.bl true)))))
def f_Lright (c_Ldue c_papers_in c_Lword : FM) : FM := runB 6 (b_Lright c_Ldue c_papers_in c_Lword)
theorem o_Lright {P : Program} {w : World} {K : PySem.W.Frag} {mg : Str → Option Value} {base : Heap} {D : Dat} (T : Txt D K mg)
  {c_Ldue : FM} (F_Ldue : FnG P w K mg base 2 D.a_Ldue D.d_Ldue ["_law_text"] (SPm K 1 c_Ldue))
  {c_papers_in : FM} (F_papers_in : FnG P w K mg base 3 D.a_papers_in D.d_papers_in ["text"] (SPm K 1 c_papers_in))
  {c_Lword : FM} (F_Lword : FnG P w K mg base 1 D.a_Lword D.d_Lword ["_law_e"] (SPm K 1 c_Lword)) :
    FnG P w K mg base 4 D.a_Lright D.d_Lright ["_law_text"] (SPm K 1 (f_Lright c_Ldue c_papers_in c_Lword)) :=
  have S := sc_Lright
  ok_body (k := 3) T.f_Lright S fun cdv A outer s H E hr gd =>
    (sss_cons (ss_set 1 S.nd (se_call F_Ldue T.b_Ldue T.f_Ldue.kp (hr.mono (by decide)) gd (takes_of rfl rfl rfl rfl) T.g_Ldue (sa_cons (se_var 0) sa_nil)))
    (sss_cons (ss_for (passes_of rfl) rfl (si_range1 T.n_range se_int) (sg_name 2 S.nd)
    (sss_cons (ss_set 3 S.nd se_non)
    (sss_cons (ss_set 4 S.nd se_non)
    (sss_cons (ss_try rfl rfl rfl (takes_of rfl rfl rfl rfl) (fun _ _ _ tk1 pa1 => (sss_one (ss_set 4 S.nd (se_call F_papers_in T.b_papers_in T.f_papers_in.kp (hr.mono (by decide)) gd tk1 T.g_papers_in (sa_cons (se_var 0) sa_nil))))) (.named (k := ⟨"DuelError", some 5, (sAsg (mVar 5) (gN 3))⟩) ⟨rfl, rfl, .inl T.m_DuelError⟩ T.h_DuelError rfl S.nd rfl rfl (fun _ _ => (sss_one (ss_set 3 S.nd (se_var 5)))) .nil))
    (sss_cons (ss_if (PW.pt (sw_and (st_tru (se_isi "tuple" (by decide) T.n_isinstance T.n_tuple (se_var 1) (by rfl))) (sw_and1 (PW.pt (sw_or (st_cmp o_isNot p_isNot (se_var 3) se_non) (sw_or1 (st_cmp (o_ne hr) p_ne (se_callB (c_repr hr gd) o_repr T.n_repr (by rfl) (sa_cons (se_var 4) sa_nil)) (se_callB (c_repr hr gd) o_repr T.n_repr (by rfl) (sa_cons (se_var 1) sa_nil)))))))))
    (sss_one (ss_ret se_bl))
    sss_nil)
    (sss_one (ss_if (PW.pt (sw_and (st_not (st_tru (se_isi "tuple" (by decide) T.n_isinstance T.n_tuple (se_var 1) (by rfl)))) (sw_and1 (PW.pt (sw_or (st_cmp o_is p_is (se_var 3) se_non) (sw_or1 (st_cmp (o_ne hr) p_ne (se_call F_Lword T.b_Lword T.f_Lword.kp (hr.mono (by decide)) gd (takes_of rfl rfl rfl rfl) T.g_Lword (sa_cons (se_var 3) sa_nil)) (se_tup (sa_cons se_str (sa_cons (se_var 1) sa_nil))))))))))
    (sss_one (ss_ret se_bl))
    sss_nil)))))))
    (sss_one (ss_ret se_bl))))
/-! ### law -/
theorem sc_LAW : FnScope ["_law_script", "_law_state_here", "_law_turn", "_law_papers_here", "_law_rows", "_law_text", "_law_wide", "_law_k", "_law_odd", "_law_caught", "_law_e", "_law_row"] ["_law_script"] (defScope st_LAW) := ⟨rfl, rfl, rfl, by decide +kernel, rfl, by decide +kernel, by decide +kernel⟩
def b_LAW (c_Lstate c_Lpapers c_Lrows_of c_papers_text c_papers_in c_Ltake c_Lright c_Lbent_text c_Lword : FM) : SM :=
  (sSeq (sAsg (mFn 1 c_Lstate (mCons (mVar 0) mNil)) (gN 1))
  (sSeq (sFor (mRange1 (mC (.int 4))) (gN 2)
  (sSeq (sAsg (mFn 1 c_Lpapers (mCons (mVar 1) mNil)) (gN 3))
  (sSeq (sAsg (mFn 1 c_Lrows_of (mCons (mVar 3) mNil)) (gN 4))
  (sSeq (sAsg (mFn 1 c_papers_text (mCons (mVar 3) mNil)) (gN 5))
  (sSeq (sIf (mOr (mNot (mTru (mIsi "str" (mVar 5)))) (mOr (mB (mOp wNe (mVar 5) (mMt "str" wJoin (mC (.str "\n")) (mCons (mVar 4) mNil)))) (mB (mOp wNe (mCall wRepr (mCons (mFn 1 c_papers_in (mCons (mVar 5) mNil)) mNil)) (mCall wRepr (mCons (mVar 3) mNil))))))
  (sRet (mC (.bl false)))
  sNext)
  (sSeq (sAsg (mMt "str" wJoin (mC (.str "\n")) (mCons (mFix (mLc (mIter big (mVar 4)) (gN 11) mYes (mOp wAdd (mOp wAdd (mOp wMul (mC (.str " ")) (mFn 2 c_Ltake (mCons (mVar 1) (mCons (mC (.int 3)) mNil)))) (mUn (wRepl " " "  ") (mVar 11))) (mC (.str " "))) [11])) mNil)) (gN 6))
  (sSeq (sIf (mB (mOp wNe (mCall wRepr (mCons (mFn 1 c_papers_in (mCons (mVar 6) mNil)) mNil)) (mCall wRepr (mCons (mVar 3) mNil))))
  (sRet (mC (.bl false)))
  sNext)
  (sFor (mRange1 (mC (.int 6))) (gN 7)
  (sIf (mNot (mTru (mFn 1 c_Lright (mCons (mFn 2 c_Lbent_text (mCons (mVar 1) (mCons (mVar 4) mNil))) mNil))))
  (sRet (mC (.bl false)))
  sNext)))))))))
  (sSeq (sFor (mIter big (mTup (mCons (mC .non) (mCons (mC (.int 5)) (mCons (mC (.bl true)) (mCons (mFix (mLst (mCons (mC (.str "paper a")) mNil))) (mCons (mTup (mCons (mC (.str "paper a")) mNil)) (mCons mDict0 mNil)))))))) (gN 8)
  (sSeq (sAsg (mC .non) (gN 9))
  (sSeq (sTry knL (sDrop (mFn 1 c_papers_in (mCons (mVar 8) mNil))) (⟨"DuelError", some 10, (sAsg (mVar 10) (gN 9))⟩ :: []))
  (sIf (mOr (mB (mOp wIs (mVar 9) (mC .non))) (mB (mOp wNe (mFn 1 c_Lword (mCons (mVar 9) mNil)) (mTup (mCons (mC (.str "text")) (mCons (mC (.int 1)) mNil))))))
  (sRet (mC (.bl false)))
  sNext))))
  (sSeq (sFor (mIter big (mTup (mCons (mOp wMul (mC (.str "9")) (mC (.int 5000))) (mCons (mOp wAdd (mOp wAdd (mC (.str "1 -")) (mOp wMul (mC (.str "8")) (mC (.int 5000)))) (mC (.str " 2"))) (mCons (mOp wAdd (mC (.str "none ")) (mOp wMul (mC (.str "7")) (mC (.int 5000)))) (mCons (mOp wAdd (mC (.str "paper ")) (mOp wMul (mC (.str "a")) (mC (.int 5000)))) mNil)))))) (gN 11)
  (sIf (mNot (mTru (mFn 1 c_Lright (mCons (mOp wAdd (mC (.str "paper run\n0 1\n")) (mVar 11)) mNil))))
  (sRet (mC (.bl false)))
  sNext))
  (sRet (mAndV (mOp wEq (mFn 1 c_papers_text (mCons (mTup mNil) mNil)) (mC (.str ""))) (mOp wEq (mFn 1 c_papers_in (mCons (mC (.str "")) mNil)) (mTup mNil))))))))
def f_LAW (c_Lstate c_Lpapers c_Lrows_of c_papers_text c_papers_in c_Ltake c_Lright c_Lbent_text c_Lword : FM) : FM := runB 12 (b_LAW c_Lstate c_Lpapers c_Lrows_of c_papers_text c_papers_in c_Ltake c_Lright c_Lbent_text c_Lword)
theorem o_LAW {P : Program} {w : World} {K : PySem.W.Frag} {mg : Str → Option Value} {base : Heap} {D : Dat} (T : Txt D K mg)
  {c_Lstate : FM} (F_Lstate : FnG P w K mg base 1 D.a_Lstate D.d_Lstate ["_law_script"] (SPm K 1 c_Lstate))
  {c_Lpapers : FM} (F_Lpapers : FnG P w K mg base 3 D.a_Lpapers D.d_Lpapers ["_law_state_here"] (SPm K 1 c_Lpapers))
  {c_Lrows_of : FM} (F_Lrows_of : FnG P w K mg base 1 D.a_Lrows_of D.d_Lrows_of ["_law_papers_here"] (SPm K 1 c_Lrows_of))
  {c_papers_text : FM} (F_papers_text : FnG P w K mg base 2 D.a_papers_text D.d_papers_text ["papers"] (SPm K 1 c_papers_text))
  {c_papers_in : FM} (F_papers_in : FnG P w K mg base 3 D.a_papers_in D.d_papers_in ["text"] (SPm K 1 c_papers_in))
  {c_Ltake : FM} (F_Ltake : FnG P w K mg base 1 D.a_Ltake D.d_Ltake ["_law_state_here", "_law_many"] (SPm K 2 c_Ltake))
  {c_Lright : FM} (F_Lright : FnG P w K mg base 4 D.a_Lright D.d_Lright ["_law_text"] (SPm K 1 c_Lright))
  {c_Lbent_text : FM} (F_Lbent_text : FnG P w K mg base 3 D.a_Lbent_text D.d_Lbent_text ["_law_state_here", "_law_rows"] (SPm K 2 c_Lbent_text))
  {c_Lword : FM} (F_Lword : FnG P w K mg base 1 D.a_Lword D.d_Lword ["_law_e"] (SPm K 1 c_Lword)) :
    FnG P w K mg base 5 D.a_LAW D.d_LAW ["_law_script"] (SPm K 1 (f_LAW c_Lstate c_Lpapers c_Lrows_of c_papers_text c_papers_in c_Ltake c_Lright c_Lbent_text c_Lword)) :=
  have S := sc_LAW
  ok_body (k := 4) T.f_LAW S fun cdv A outer s H E hr gd =>
    (sss_cons (ss_set 1 S.nd (se_call F_Lstate T.b_Lstate T.f_Lstate.kp (hr.mono (by decide)) gd (takes_of rfl rfl rfl rfl) T.g_Lstate (sa_cons (se_var 0) sa_nil)))
    (sss_cons (ss_for (passes_of rfl) rfl (si_range1 T.n_range se_int) (sg_name 2 S.nd)
    (sss_cons (ss_set 3 S.nd (se_call F_Lpapers T.b_Lpapers T.f_Lpapers.kp (hr.mono (by decide)) gd (takes_of rfl rfl rfl rfl) T.g_Lpapers (sa_cons (se_var 1) sa_nil)))
    (sss_cons (ss_set 4 S.nd (se_call F_Lrows_of T.b_Lrows_of T.f_Lrows_of.kp (hr.mono (by decide)) gd (takes_of rfl rfl rfl rfl) T.g_Lrows_of (sa_cons (se_var 3) sa_nil)))
    (sss_cons (ss_set 5 S.nd (se_call F_papers_text T.b_papers_text T.f_papers_text.kp (hr.mono (by decide)) gd (takes_of rfl rfl rfl rfl) T.g_papers_text (sa_cons (se_var 3) sa_nil)))
    (sss_cons (ss_if (PW.pt (sw_or (st_not (st_tru (se_isi "str" (by decide) T.n_isinstance T.n_str (se_var 5) (by rfl)))) (sw_or (st_cmp (o_ne hr) p_ne (se_var 5) (se_join se_str (se_var 4))) (sw_or1 (st_cmp (o_ne hr) p_ne (se_callB (c_repr hr gd) o_repr T.n_repr (by rfl) (sa_cons (se_call F_papers_in T.b_papers_in T.f_papers_in.kp (hr.mono (by decide)) gd (takes_of rfl rfl rfl rfl) T.g_papers_in (sa_cons (se_var 5) sa_nil)) sa_nil)) (se_callB (c_repr hr gd) o_repr T.n_repr (by rfl) (sa_cons (se_var 3) sa_nil)))))))
    (sss_one (ss_ret se_bl))
    sss_nil)
    (sss_cons (ss_set 6 S.nd (se_join se_str (se_fix (sl_lc [("_law_row", 11)] rfl S.nd (si_iter big (se_var 4)) (by kernel_rfl) (fun _ _ _ _ _ => (sg_name 11 S.nd)) (fun _ _ _ _ _ => sts_nil) (fun _ _ _ _ _ => (se_add (se_mulRepl (se_call F_Ltake T.b_Ltake T.f_Ltake.kp (hr.mono (by decide)) gd takes0 T.g_Ltake (sa_cons (se_var 1) (sa_cons se_int sa_nil))) (se_var 11)) se_str))))))
    (sss_cons (ss_if (st_cmp (o_ne hr) p_ne (se_callB (c_repr hr gd) o_repr T.n_repr (by rfl) (sa_cons (se_call F_papers_in T.b_papers_in T.f_papers_in.kp (hr.mono (by decide)) gd (takes_of rfl rfl rfl rfl) T.g_papers_in (sa_cons (se_var 6) sa_nil)) sa_nil)) (se_callB (c_repr hr gd) o_repr T.n_repr (by rfl) (sa_cons (se_var 3) sa_nil)))
    (sss_one (ss_ret se_bl))
    sss_nil)
    (sss_one (ss_for (passes_of rfl) rfl (si_range1 T.n_range se_int) (sg_name 7 S.nd)
    (sss_one (ss_if (st_not (st_tru (se_call F_Lright T.b_Lright T.f_Lright.kp (hr.mono (by decide)) gd (takes_of rfl rfl rfl rfl) T.g_Lright (sa_cons (se_call F_Lbent_text T.b_Lbent_text T.f_Lbent_text.kp (hr.mono (by decide)) gd (takes_of rfl rfl rfl rfl) T.g_Lbent_text (sa_cons (se_var 1) (sa_cons (se_var 4) sa_nil))) sa_nil))))
    (sss_one (ss_ret se_bl))
    sss_nil)))))))))))
    (sss_cons (ss_for (passes_of rfl) rfl (si_iter big (se_tup (sa_cons se_non (sa_cons se_int (sa_cons se_bl (sa_cons (se_fix (sl_lst (sa_cons se_str sa_nil))) (sa_cons (se_tup (sa_cons se_str sa_nil)) (sa_cons se_dict0 sa_nil)))))))) (sg_name 8 S.nd)
    (sss_cons (ss_set 9 S.nd se_non)
    (sss_cons (ss_try rfl rfl rfl (takes_of rfl rfl rfl rfl) (fun _ _ _ tk1 pa1 => (sss_one (ss_expr (se_call F_papers_in T.b_papers_in T.f_papers_in.kp (hr.mono (by decide)) gd tk1 T.g_papers_in (sa_cons (se_var 8) sa_nil))))) (.named (k := ⟨"DuelError", some 10, (sAsg (mVar 10) (gN 9))⟩) ⟨rfl, rfl, .inl T.m_DuelError⟩ T.h_DuelError rfl S.nd rfl rfl (fun _ _ => (sss_one (ss_set 9 S.nd (se_var 10)))) .nil))
    (sss_one (ss_if (PW.pt (sw_or (st_cmp o_is p_is (se_var 9) se_non) (sw_or1 (st_cmp (o_ne hr) p_ne (se_call F_Lword T.b_Lword T.f_Lword.kp (hr.mono (by decide)) gd (takes_of rfl rfl rfl rfl) T.g_Lword (sa_cons (se_var 9) sa_nil)) (se_tup (sa_cons se_str (sa_cons se_int sa_nil)))))))
    (sss_one (ss_ret se_bl))
    sss_nil)))))
    (sss_cons (ss_for (passes_of rfl) rfl (si_iter big (se_tup (sa_cons (se_mul se_str se_int) (sa_cons (se_add (se_add se_str (se_mul se_str se_int)) se_str) (sa_cons (se_add se_str (se_mul se_str se_int)) (sa_cons (se_add se_str (se_mul se_str se_int)) sa_nil)))))) (sg_name 11 S.nd)
    (sss_one (ss_if (st_not (st_tru (se_call F_Lright T.b_Lright T.f_Lright.kp (hr.mono (by decide)) gd (takes_of rfl rfl rfl rfl) T.g_Lright (sa_cons (se_add se_str (se_var 11)) sa_nil))))
    (sss_one (ss_ret se_bl))
    sss_nil)))
    (sss_one (ss_ret (se_and (se_cmp (o_eq hr) p_eq (se_call F_papers_text T.b_papers_text T.f_papers_text.kp (hr.mono (by decide)) gd (takes_of rfl rfl rfl rfl) T.g_papers_text (sa_cons (se_tup sa_nil) sa_nil)) se_str) (se_one (se_cmp (o_eq hr) p_eq (se_call F_papers_in T.b_papers_in T.f_papers_in.kp (hr.mono (by decide)) gd (takes_of rfl rfl rfl rfl) T.g_papers_in (sa_cons se_str sa_nil)) (se_tup sa_nil))))))))))

end Mir

/-! law_k52: names, words, numbers -/
namespace Mir
open PySem PySem.Spec PyProof.Rows L2 SX
def nmA (a : List Nat) : Bool := decide (1 ≤ a.length) && (decide (a.length ≤ 8) && a.all lowC)
theorem isname_to {a : List Nat} (hl : a.length ≤ 100000) {h : PH} {Q : W → PH → Prop} (q : Q (.bl (nmA a)) h) : (f_is_name [.str (S a)] h).To Q := by
  unfold f_is_name
  rw [run_to, show startW 2 [W.str (S a)] = [some (.str (S a)), none] from rfl]
  unfold b_is_name
  unfold nmA at q
  refine seq_op fun K hK => ?_
  simp [tyName, wLen_S hl]
  have fin : a.length ≤ 8 → 1 ≤ a.length → K [some (.str (S a)), none] h := fun h8 h1 => by
    refine hK _ _ ?_
    simp [iter_S, wipeW]
    refine lc_mapW (L := a) (enc := fun c => .str (S [c])) (u := fun c => .bl (lowC c)) (by omega) (fun c hc => ⟨_, rfl, fun Q q => ?_⟩) ?_
    · rw [letters] 
      simp [in_sign]
      rw [mem_low]
      exact q
    · rw [wAll_map, pto_some]
      rw [decide_eq_true h1, decide_eq_true h8, Bool.true_and, Bool.true_and] at q
      exact q
  refine .of (fun h1 => ?_) fun h1 => ?_
  · refine .of (fun h8 => ?_) fun h8 => ?_
    · exact fin (by omega) (by omega)
    · rw [decide_eq_false (p := a.length ≤ 8) (by omega)] at q
      simpa using q
  · rw [decide_eq_false (p := 1 ≤ a.length) (by omega)] at q
    simpa using q
def wordsA (a : List Nat) : List (List Nat) := (TL.spl [32] 0 [] a).filter full
theorem words_mem {a p : List Nat} (h : p ∈ wordsA a) : ∀ c ∈ p, c ∈ a := fun c hc => by
  rcases spl_mem (List.mem_filter.mp h).1 c hc with z | z
  · cases z
  · exact z
theorem spl_len {a : List Nat} {d : Nat} (hd : d < 256) : (TL.spl [d] 0 [] a).length ≤ a.length + 2 := by
  have hs : Txt.split (S a) (S [d]) = (TL.spl [d] 0 [] a).map S := split_S (by simp) (by simp [hd])
  have := split_le (S a) (S [d])
  rw [hs, List.length_map, S_len] at this
  exact this
theorem wSplit_S {a : List Nat} {d : Nat} {h : PH} (hl : a.length ≤ 100000) (hd : d < 256) : wSplit (.str (S a)) [.str (S [d])] h = some (.fix ((TL.spl [d] 0 [] a).map strW), h) := by
  have hs : Txt.split (S a) (S [d]) = (TL.spl [d] 0 [] a).map S := split_S (by simp) (by simp [hd])
  simp only [wSplit]
  rw [if_pos ⟨by rw [S_len]; rfl, by rw [S_len]; omega⟩, hs, List.map_map]
  rfl
theorem words_to {a : List Nat} (hl : a.length ≤ 100000) {h : PH} {Q : W → PH → Prop} (q : Q (.fix ((wordsA a).map strW)) h) : (f_words_of [.str (S a)] h).To Q := by
  unfold f_words_of
  rw [run_to, show startW 2 [W.str (S a)] = [some (.str (S a)), none] from rfl]
  unfold b_words_of
  have hlen := spl_len (a := a) (d := 32) (by decide)
  simp [blank1, wSplit_S (a := a) (d := 32) (h := h) hl (by decide), tyW, wipeW, iterOf]
  refine lc_filtW (L := TL.spl [32] 0 [] a) (enc := strW) (u := strW) full (by omega) (fun p hp => ⟨_, rfl, fun Q q => ?_, fun _ Q q => ?_⟩) ?_
  · simp [empty, strW, ne_S]
    exact q
  · simp
    exact q
  · exact q
def figs (a : List Nat) : List Nat := if a.take 1 = [45] then a.drop 1 else a
def numV (a : List Nat) : Int := if a.take 1 = [45] then 0 - ((NumText.digitsVal (figs a) : Nat) : Int) else ((NumText.digitsVal (figs a) : Nat) : Int)
def numA (a : List Nat) : Option Int := if 1 ≤ (figs a).length ∧ (figs a).length ≤ 15 ∧ (figs a).all figC = true then (if (figs a).take 1 = [48] ∧ a ≠ [48] then none else some (numV a)) else none
def numW : Option Int → W
  | none => .non
  | some i => .int i
theorem figs_len {a : List Nat} : (figs a).length ≤ a.length := by
  unfold figs
  split
  · rw [List.length_drop]; omega
  · exact Nat.le_refl _
theorem figs_mem {a : List Nat} {c : Nat} (h : c ∈ figs a) : c ∈ a := by
  unfold figs at h
  split at h
  · exact List.mem_of_mem_drop h
  · exact h
theorem int_is {a : List Nat} (hl : a.length ≤ 600) (h1 : 1 ≤ (figs a).length) (hf : (figs a).all figC = true) {h : PH} : wInt [.str (S a)] h = some (.int (numV a), h) := by
  have ad : NumText.AllDigits (figs a) := fun c hc => by
    have := List.all_eq_true.mp hf c hc
    unfold figC at this
    simpa using this
  simp only [wInt]
  rw [S_len, if_pos (by omega)]
  by_cases c : a.take 1 = [45]
  · have e : a = 45 :: figs a := by
      unfold figs
      rw [if_pos c]
      have := (List.take_append_drop 1 a).symm
      rw [c] at this
      exact this
    rw [intText_neg (cs := figs a) (x := S a) e ad (fun z => by rw [z] at h1; simp at h1) (by rw [S_len]; omega)]
    unfold numV
    rw [if_pos c]
    simp
  · have e : figs a = a := by unfold figs; rw [if_neg c]
    rw [e] at ad h1
    rw [intText_digits (x := S a) ad (fun z => by
      have : a = [] := z
      rw [this] at h1; simp at h1) (by rw [S_len]; omega)]
    unfold numV
    rw [if_neg c, e]
    rfl
theorem figs_len2 {a : List Nat} : a.length ≤ (figs a).length + 1 := by
  unfold figs
  split
  · rw [List.length_drop]; omega
  · omega
theorem number_to {a : List Nat} (hl : a.length ≤ 100000) {h : PH} {Q : W → PH → Prop} (q : Q (numW (numA a)) h) : (f_number_by [.str (S a)] h).To Q := by
  unfold f_number_by
  rw [run_to, show startW 3 [W.str (S a)] = [some (.str (S a)), none, none] from rfl]
  unfold b_number_by
  have hfl := figs_len (a := a)
  refine seq_go (ps1 := [some (.str (S a)), some (.str (S (figs a))), none]) (h1 := h) (fun K hK => ?_) ?_
  · simp [wSl_to (a := a) (i := 1) (by omega) (by decide), wSl_from (a := a) (i := 1) (by omega) (by decide), dash, eq_S]
    unfold figs at hK
    refine .of (fun c => ?_) fun c => ?_
    · rw [if_pos c, List.drop_one] at hK
      exact hK
    · rw [if_neg c] at hK
      exact hK
  obtain ⟨f, hf⟩ : ∃ f, f = figs a := ⟨_, rfl⟩
  unfold numA at q
  rw [← hf] at q hfl ⊢
  refine seq_op fun K hK => ?_
  simp [tyName, wLen_S (a := f) (by omega), iter_S, wipeW, figures]
  refine .of (fun h1 => ?_) fun h1 => ?_
  · refine .of (fun h7 => ?_) fun h7 => ?_
    · refine lc_mapW (L := f) (enc := fun c => .str (S [c])) (u := fun c => .bl (figC c)) (by omega) (fun c hc => ⟨_, rfl, fun Q q => ?_⟩) ?_
      · simp [in_sign]
        rw [mem_fig]
        exact q
      rw [wAll_map, pto_some]
      simp [tru]
      refine .ofB (fun hd => ?_) fun hd => ?_
      · refine hK _ _ ?_
        clear hK K
        rw [if_pos ⟨by omega, by omega, hd⟩] at q
        obtain ⟨c, r, ef⟩ := List.exists_cons_of_ne_nil (l := f) (fun z => by rw [z] at h1; simp at h1)
        refine seq_op fun K hK => ?_
        have e1 : ([c] = [48]) = (f.take 1 = [48]) := by rw [ef]; rfl
        simp only [to_sif, to_and, to_mB, to_op, to_var, to_C]
        refine ⟨_, rfl, ?_⟩
        rw [head_S ef (by omega), pto_some, zero, eq_S, pto_some, bto_bl]
        have fin : ¬ (f.take 1 = [48] ∧ a ≠ [48]) → K [some (.str (S a)), some (.str (S f)), none] h := fun hn => by
          refine hK _ _ ?_
          rw [if_neg hn] at q
          simp [int_is (a := a) (by have := figs_len2 (a := a); rw [← hf] at this; omega) (by rw [← hf]; omega) (by rw [← hf]; exact hd)]
          exact q
        refine .of (fun z => ?_) fun z => ?_
        · refine ⟨_, rfl, ?_⟩
          rw [ne_S, pto_some, bto_bl, Ite_not]
          refine .of (fun y => ?_) fun y => ?_
          · rw [to_next]
            exact fin fun x => x.2 y
          · rw [if_pos ⟨by rw [← e1]; exact z, y⟩] at q
            rw [to_ret, to_C]
            exact q
        · rw [Ite_false, to_next]
          exact fin fun x => z (by rw [e1]; exact x.1)
      · rw [if_neg fun z => by rw [z.2.2] at hd; cases hd] at q
        exact q
    · rw [if_neg fun z => h7 (by omega)] at q
      exact q
  · rw [if_neg fun z => h1 (by omega)] at q
    exact q
end Mir

/-! law_k52: rows of numbers -/
namespace Mir
open PySem PySem.Spec PyProof.Rows L2 SX
def noneC : List Nat := [110, 111, 110, 101]
theorem none_is : PySem.Str.ofString "none" = S noneC := by decide +kernel
def rowIn (ws : List (List Nat)) : Option (List Int) := if ws = [noneC] then some [] else if ws = [] ∨ (ws.map numA).any Option.isNone = true then none else some (ws.map fun p => (numA p).getD 0)
def rowW : Option (List Int) → W
  | none => .non
  | some r => .tup (r.map .int)
theorem strW_inj {p q : List Nat} (h : strW p = strW q) : p = q := S_inj (W.str.inj h)
theorem map_strW {l m : List (List Nat)} : l.map strW = m.map strW ↔ l = m := by
  constructor
  · intro h
    induction l generalizing m with
    | nil => cases m with
      | nil => rfl
      | cons => cases h
    | cons a l ih => cases m with
      | nil => cases h
      | cons b m =>
        rw [List.map_cons, List.map_cons] at h
        obtain ⟨h1, h2⟩ := List.cons.inj h
        rw [strW_inj h1, ih h2]
  · intro h; rw [h]
theorem eq_words {l m : List (List Nat)} (hl : ∀ a ∈ l, Asc a) (hm : ∀ a ∈ m, Asc a) {h : PH} : wEq (.fix (l.map strW)) (.fix (m.map strW)) h = some (.bl (decide (l = m)), h) := by
  rw [wEq_pl (n := 2) (m := 2) (by rw [pl_fix]; exact pls_S hl) (by rw [pl_fix]; exact pls_S hm) (by decide) (by decide)]
  congr 3
  by_cases e : l = m
  · rw [decide_eq_true e, decide_eq_true (by rw [e])]
  · rw [decide_eq_false e, decide_eq_false fun z => e (map_strW.mp (W.fix.inj z))]
theorem pl_numW {k : Nat} {o : Option Int} : plW k (numW o) = true := by cases o <;> simp [numW]
theorem eq_row0 {l : List (Option Int)} {h : PH} : wEq (.tup (l.map numW)) (.tup []) h = some (.bl (decide (l = [])), h) := by
  rw [wEq_pl (n := 2) (m := 2) (by rw [pl_tup]; exact pls_map _ _ fun o _ => pl_numW) (by simp) (by decide) (by decide)]
  congr 3
  cases l <;> simp
theorem flat_numW {o : Option Int} : flatW (numW o) = true := by cases o <;> rfl
theorem in_non {l : List (Option Int)} {h : PH} : wIn .non (.tup (l.map numW)) h = some (.bl (l.any Option.isNone), h) := by
  simp only [wIn, inW]
  rw [if_pos ⟨rfl, List.all_eq_true.mpr fun w hw => by
    obtain ⟨o, _, rfl⟩ := List.mem_map.mp hw
    exact flat_numW⟩, Option.map_some]
  congr 3
  induction l with
  | nil => rfl
  | cons o l ih =>
    rw [List.map_cons, List.any_cons, List.any_cons, ih]
    cases o <;> rfl
theorem row_in_to {ws : List (List Nat)} (hw : ∀ p ∈ ws, Asc p ∧ p.length ≤ 100000) (hl : ws.length ≤ 100000) {h : PH} {Q : W → PH → Prop} (q : Q (rowW (rowIn ws)) h) : (f_row_in f_number_by [.fix (ws.map strW)] h).To Q := by
  unfold f_row_in
  rw [run_to, show startW 3 [W.fix (ws.map strW)] = [some (.fix (ws.map strW)), none, none] from rfl]
  unfold b_row_in
  unfold rowIn at q
  refine seq_op fun K hK => ?_
  have e1 : wEq (.fix (ws.map strW)) (.fix [.str (S noneC)]) h = some (.bl (decide (ws = [noneC])), h) := eq_words (m := [noneC]) (fun p hp => (hw p hp).1) (fun p hp => by rw [List.mem_singleton.mp hp]; decide)
  simp [none_is, e1]
  refine .of (fun c => ?_) fun c => ?_
  · rw [if_pos c] at q
    exact q
  rw [if_neg c] at q
  refine hK _ _ ?_
  clear hK K
  refine seq_go (ps1 := [some (.fix (ws.map strW)), some (.tup ((ws.map numA).map numW)), none]) (h1 := h) (fun K hK => ?_) ?_
  · simp [wipeW]
    refine lc_mapW (L := ws) (enc := strW) (u := fun p => numW (numA p)) (by omega) (fun p hp => ⟨_, rfl, fun Q q => ?_⟩) ?_
    · simp
      exact number_to (hw p hp).2 q
    · simp at hK ⊢
      exact hK
  · have e2 : decide (ws.map numA = []) = decide (ws = []) := by
      cases ws <;> simp
    simp only [to_ret, to_if, to_or, to_mB, to_op, to_var, to_C, to_tup, to_nil]
    refine ⟨_, rfl, by decide, ?_⟩
    rw [eq_row0, pto_some, bto_bl, e2]
    refine .of (fun c2 => ?_) fun c2 => ?_
    · rw [if_pos (.inl c2)] at q
      rw [Ite_true]
      exact q
    · refine ⟨_, rfl, ?_⟩
      rw [in_non, pto_some, bto_bl]
      refine .ofB (fun c3 => ?_) fun c3 => ?_
      · rw [if_pos (.inr c3)] at q
        exact q
      · rw [if_neg (fun z => z.elim c2 fun z => by rw [z] at c3; cases c3)] at q
        refine ⟨_, rfl, ?_⟩
        have : (ws.map numA).map numW = (ws.map fun p => (numA p).getD 0).map W.int := by
          rw [List.map_map, List.map_map]
          refine List.map_congr_left fun p hp => ?_
          have : (numA p).isNone = false := by
            cases e : (numA p).isNone with
            | false => rfl
            | true =>
              have : (ws.map numA).any Option.isNone = true := List.any_eq_true.mpr ⟨_, List.mem_map.mpr ⟨p, hp, rfl⟩, e⟩
              rw [this] at c3
              cases c3
          show numW (numA p) = W.int ((numA p).getD 0)
          cases e : numA p with
          | none => rw [e] at this; cases this
          | some i => rfl
        rw [this]
        exact q
theorem lwhole_to {a : List Nat} (ha : Asc a) (hl : a.length ≤ 100000) {h : PH} {Q : W → PH → Prop} (q : Q (numW (numA a)) h) : (f_Lwhole [.str (S a)] h).To Q := by
  unfold f_Lwhole
  rw [run_to, show startW 3 [W.str (S a)] = [some (.str (S a)), none, none] from rfl]
  unfold b_Lwhole
  have hfl := figs_len (a := a)
  refine seq_go (ps1 := [some (.str (S a)), some (.str (S (figs a))), none]) (h1 := h) (fun K hK => ?_) ?_
  · simp [wSl_to (a := a) (i := 1) (by omega) (by decide), dash, eq_S, wInt]
    unfold figs at hK
    by_cases c : a.take 1 = [45]
    · rw [if_pos c, List.drop_one] at hK
      simp [c, wSl_from (a := a) (i := 1) (by omega) (by decide)]
      exact hK
    · rw [if_neg c] at hK
      simp [c, wSl_from (a := a) (i := 0) (by omega) (by decide)]
      exact hK
  have haf : Asc (figs a) := fun c hc => ha c (figs_mem hc)
  obtain ⟨f, hf⟩ : ∃ f, f = figs a := ⟨_, rfl⟩
  unfold numA at q
  rw [← hf] at q hfl haf ⊢
  have last : 1 ≤ f.length → f.length ≤ 15 → f.all figC = true → ((sRet (mIf (mAnd (mB (mOp wEq (mOp wIx (mVar 1) (mC (.int 0))) (mC (.str "0")))) (mB (mOp wNe (mVar 0) (mC (.str "0"))))) (mC .non) (mCall wInt (mCons (mVar 0) mNil)))) [some (.str (S a)), some (.str (S f)), none] h).To (fun _ g => Q .non g) Q (fun _ _ => False) fun _ _ => False := fun h1 h7 hd => by
    rw [if_pos ⟨h1, h7, hd⟩] at q
    obtain ⟨c, r, ef⟩ := List.exists_cons_of_ne_nil (l := f) (fun z => by rw [z] at h1; simp at h1)
    have e1 : ([c] = [48]) = (f.take 1 = [48]) := by rw [ef]; rfl
    have fin : ¬ (f.take 1 = [48] ∧ a ≠ [48]) → Q (.int (numV a)) h := fun hn => by
      rw [if_neg hn] at q
      exact q
    have ei := int_is (a := a) (by have := figs_len2 (a := a); rw [← hf] at this; omega) (by rw [← hf]; omega) (by rw [← hf]; exact hd) (h := h)
    simp only [to_ret, to_if, to_and, to_mB, to_op, to_var, to_C, to_call, to_cons, to_nil]
    refine ⟨_, rfl, ?_⟩
    rw [head_S ef (by omega), pto_some, zero, eq_S, pto_some, bto_bl]
    refine .of (fun z => ?_) fun z => ?_
    · refine ⟨_, rfl, ?_⟩
      rw [ne_S, pto_some, bto_bl, Ite_not]
      refine .of (fun y => ?_) fun y => ?_
      · refine ⟨_, rfl, ?_⟩
        rw [ei, pto_some]
        exact fin fun x => x.2 y
      · rw [if_pos ⟨by rw [← e1]; exact z, y⟩] at q
        exact q
    · rw [Ite_false]
      refine ⟨_, rfl, ?_⟩
      rw [ei, pto_some]
      exact fin fun x => z (by rw [e1]; exact x.1)
  refine seq_op fun K hK => ?_
  have ef1 : 1 ≤ f.length → f.length ≤ 15 → f.all figC = true → K [some (.str (S a)), some (.str (S f)), none] h := fun x y z => hK _ _ (last x y z)
  clear hK last
  simp [wLen_S (a := f) (by omega), iter_S, wipeW, figures]
  refine .of (fun h1 => ?_) fun h1 => ?_
  · refine .of (fun h7 => ?_) fun h7 => ?_
    · refine lc_filtW (L := f) (enc := fun c => .str (S [c])) (u := fun c => .str (S [c])) (fun c => !figC c) (by omega) (fun c hc => ⟨_, rfl, fun Q q => ?_, fun _ Q q => ?_⟩) ?_
      · simp [notIn_sign]
        rw [mem_fig]
        exact q
      · simp
        exact q
      have hS := ne_S0 (l := (f.filter fun c => !figC c).map fun c => [c]) (fun b hb => by
        obtain ⟨c, hc, rfl⟩ := List.mem_map.mp hb
        intro d hd
        rw [List.mem_singleton.mp hd]
        exact haf c (List.mem_filter.mp hc).1) (h := h)
      rw [List.map_map] at hS
      have e : ((f.filter fun c => !figC c).map fun c => W.str (S [c])) = (f.filter fun c => !figC c).map ((fun a => W.str (S a)) ∘ fun c => [c]) := rfl
      have e2 : decide ((f.filter fun c => !figC c).map (fun c => [c]) = []) = f.all figC := by
        rw [← all_not (p := figC) (q := fun c => !figC c) (fun _ => rfl)]
        congr 1
        rw [List.map_eq_nil_iff]
      rw [e, hS, pto_some, bto_bl, e2, Ite_not]
      refine .ofB (fun hd => ?_) fun hd => ?_
      · exact ef1 (by omega) (by omega) hd
      · rw [if_neg fun z => by rw [z.2.2] at hd; cases hd] at q
        exact q
    · rw [if_neg fun z => h7 (by omega)] at q
      exact q
  · rw [if_neg fun z => h1 (by omega)] at q
    exact q
end Mir

/-! law_k52: numbers written -/
namespace Mir
open PySem PySem.Spec PyProof.Rows L2 SX
def numC (i : Int) : List Nat := if 0 ≤ i then TL.numL i.toNat else 45 :: TL.numL (-i).toNat
theorem numL_head (n : Nat) : (TL.numL n).take 1 = [48] → n = 0 := by
  induction n using Nat.strongRecOn with
  | _ n ih =>
    intro h
    by_cases c : n < 10
    · rw [TL.numL_lt c] at h
      simp at h
      exact h
    · rw [TL.numL_step (by omega)] at h
      rw [List.take_append_of_le_length (by have := TL.numL_ne (n / 10); exact List.length_pos_iff.mpr this)] at h
      have := ih (n / 10) (by omega) h
      omega
theorem numL_fig (n : Nat) : (TL.numL n).all figC = true := List.all_eq_true.mpr fun c hc => by
  have := TL.numL_digits n c hc
  unfold figC
  simp
  exact this
theorem numL_dash (n : Nat) : (TL.numL n).take 1 ≠ [45] := fun h => by
  have : 45 ∈ TL.numL n := List.mem_of_mem_take (i := 1) (by rw [h]; simp)
  have := TL.numL_digits n 45 this
  omega
theorem numA_numC {i : Int} (h : -(10 ^ 15) < i) (h2 : i < 10 ^ 15) : numA (numC i) = some i := by
  unfold numC
  by_cases c : 0 ≤ i
  · rw [if_pos c]
    obtain ⟨n, hn⟩ : ∃ n, n = i.toNat := ⟨_, rfl⟩
    rw [← hn]
    have ef : figs (TL.numL n) = TL.numL n := by unfold figs; rw [if_neg (numL_dash n)]
    unfold numA numV
    rw [ef, if_pos ⟨List.length_pos_iff.mpr (TL.numL_ne n), TL.numL_len (by decide) (by omega), numL_fig n⟩, if_neg (numL_dash n), TL.numL_val, if_neg, hn, Int.toNat_of_nonneg c]
    rintro ⟨h1, h2⟩
    have := numL_head n h1
    rw [this] at h2
    exact h2 (TL.numL_lt (by decide))
  · rw [if_neg c]
    obtain ⟨n, hn⟩ : ∃ n, n = (-i).toNat := ⟨_, rfl⟩
    rw [← hn]
    have e45 : (45 :: TL.numL n).take 1 = [45] := rfl
    have ef : figs (45 :: TL.numL n) = TL.numL n := by unfold figs; rw [if_pos e45]; rfl
    unfold numA numV
    rw [ef, if_pos ⟨List.length_pos_iff.mpr (TL.numL_ne n), TL.numL_len (by decide) (by omega), numL_fig n⟩, if_pos e45, TL.numL_val, if_neg]
    · congr 1
      omega
    · rintro ⟨h1, h2⟩
      have := numL_head n h1
      omega
theorem numC_asc (i : Int) : Asc (numC i) := fun c hc => by
  unfold numC at hc
  split at hc
  · have := TL.numL_digits _ c hc
    omega
  · rcases List.mem_cons.mp hc with rfl | hc
    · decide
    · have := TL.numL_digits _ c hc
      omega
theorem numC_free (i : Int) {s : Nat} (h : s < 45 ∨ 57 < s) : s ∉ numC i := fun hc => by
  unfold numC at hc
  split at hc
  · have := TL.numL_digits _ s hc
    omega
  · rcases List.mem_cons.mp hc with rfl | hc
    · omega
    · have := TL.numL_digits _ s hc
      omega
theorem numC_ne (i : Int) : numC i ≠ [] := by
  unfold numC
  split
  · exact TL.numL_ne _
  · simp
theorem str_int (i : Int) : PySem.Str.ofString (toString i) = S (numC i) := by
  unfold numC
  by_cases c : 0 ≤ i
  · rw [if_pos c]
    have := num_S i.toNat
    rw [Int.toNat_of_nonneg c] at this
    exact this
  · rw [if_neg c]
    obtain ⟨m, rfl⟩ : ∃ m : Nat, i = Int.negSucc m := ⟨(-i).toNat - 1, by omega⟩
    have e : toString (Int.negSucc m) = "-" ++ toString ((m + 1 : Nat) : Int) := rfl
    have e2 : (-(Int.negSucc m)).toNat = m + 1 := by omega
    rw [e, e2]
    refine TL.ext_tl ?_
    rw [TL.tl_ofString, String.toList_append, List.map_append, ← TL.tl_ofString (toString ((m + 1 : Nat) : Int)), TL.tl_num]
    rfl
end Mir

/-! law_k52: papers, plain -/
namespace Mir
open PySem PySem.Spec PyProof.Rows L2 SX
abbrev Pap := List Nat × List (List Int)
def paperC : List Nat := [112, 97, 112, 101, 114]
def addLast (F : List Pap) (r : List Int) : List Pap := match F.getLast? with
  | some (n, rs) => F.dropLast ++ [(n, rs ++ [r])]
  | none => F
/-- one row read -/
def rowStep (F : List Pap) (row : List Nat) : Option (List Pap) :=
  if (wordsA row).length = 2 ∧ (wordsA row).head? = some paperC ∧ nmA ((wordsA row).getD 1 []) = true then some (F ++ [((wordsA row).getD 1 [], [])])
  else match rowIn (wordsA row) with
    | none => none
    | some r => if F = [] then none else some (addLast F r)
/-- rows read from the one numbered k: the first wrong one, or the papers -/
def readP : List (List Nat) → Nat → List Pap → Nat ⊕ List Pap
  | [], _, F => .inr F
  | row :: rest, k, F => match rowStep F row with
    | none => .inl (k + 1)
    | some F' => readP rest (k + 1) F'
theorem read_cons {F F' : List Pap} {row : List Nat} {rest : List (List Nat)} {k : Nat} (h : rowStep F row = some F') : readP (row :: rest) k F = readP rest (k + 1) F' := by
  show (match rowStep F row with | none => Sum.inl (k + 1) | some F' => readP rest (k + 1) F') = _
  rw [h]
def rowC (r : List Int) : List Nat := if r = [] then noneC else TL.joinL [32] (r.map numC)
def papC (p : Pap) : List (List Nat) := (paperC ++ ([32] ++ p.1)) :: p.2.map rowC
def okP (p : Pap) : Prop := nmA p.1 = true ∧ ∀ r ∈ p.2, ∀ i ∈ r, -(10 ^ 15) < i ∧ i < 10 ^ 15
theorem filter_full {l : List (List Nat)} (h : ∀ p ∈ l, p ≠ []) : l.filter full = l := List.filter_eq_self.mpr fun p hp => by
  unfold full
  rw [decide_eq_false (h p hp)]
  rfl
theorem words_join {l : List (List Nat)} (h0 : l ≠ []) (h1 : ∀ p ∈ l, p ≠ [] ∧ 32 ∉ p) : wordsA (TL.joinL [32] l) = l := by
  unfold wordsA
  rw [TL.spl_join h0 fun p hp => (h1 p hp).2]
  exact filter_full fun p hp => (h1 p hp).1
theorem nm_free {n : List Nat} (h : nmA n = true) : n ≠ [] ∧ ∀ c ∈ n, 97 ≤ c ∧ c ≤ 122 := by
  unfold nmA at h
  rw [Bool.and_eq_true, Bool.and_eq_true] at h
  obtain ⟨h1, h2, h3⟩ := h
  refine ⟨fun z => ?_, fun c hc => ?_⟩
  · have := of_decide_eq_true h1
    rw [z] at this
    simp at this
  · have := List.all_eq_true.mp h3 c hc
    unfold lowC at this
    rw [Bool.and_eq_true] at this
    exact ⟨of_decide_eq_true this.1, of_decide_eq_true this.2⟩
theorem words_paper {n : List Nat} (h : nmA n = true) : wordsA (paperC ++ ([32] ++ n)) = [paperC, n] := by
  have : paperC ++ ([32] ++ n) = TL.joinL [32] [paperC, n] := rfl
  rw [this]
  obtain ⟨h1, h2⟩ := nm_free h
  refine words_join (by simp) fun p hp => ?_
  rcases List.mem_cons.mp hp with rfl | hp
  · exact ⟨by decide, by decide⟩
  · rw [List.mem_singleton.mp hp]
    exact ⟨h1, fun z => by have := h2 32 z; omega⟩
theorem words_row {r : List Int} : wordsA (rowC r) = if r = [] then [noneC] else r.map numC := by
  unfold rowC
  by_cases c : r = []
  · rw [if_pos c, if_pos c]
    have : noneC = TL.joinL [32] [noneC] := rfl
    rw [this]
    refine words_join (by simp) fun p hp => ?_
    rw [List.mem_singleton.mp hp]
    exact ⟨by decide, by decide⟩
  · rw [if_neg c, if_neg c]
    refine words_join (by simpa using c) fun p hp => ?_
    obtain ⟨i, _, rfl⟩ := List.mem_map.mp hp
    exact ⟨numC_ne i, numC_free i (.inl (by decide))⟩
theorem row_back {r : List Int} (h : ∀ i ∈ r, -(10 ^ 15) < i ∧ i < 10 ^ 15) : rowIn (wordsA (rowC r)) = some r := by
  rw [words_row]
  unfold rowIn
  by_cases c : r = []
  · rw [if_pos c, if_pos rfl, c]
  · rw [if_neg c]
    have e : r.map numC ≠ [noneC] := fun z => by
      obtain ⟨i, r', rfl⟩ := List.exists_cons_of_ne_nil c
      have := (List.cons.inj z).1
      exact numC_free i (s := 110) (.inr (by decide)) (by rw [this]; decide)
    have hA : ∀ i ∈ r, numA (numC i) = some i := fun i hi => numA_numC (h i hi).1 (h i hi).2
    rw [if_neg e, if_neg]
    · congr 1
      rw [List.map_map]
      have : r.map ((fun p => (numA p).getD 0) ∘ numC) = r.map id := List.map_congr_left fun i hi => by
        show (numA (numC i)).getD 0 = i
        rw [hA i hi]
        rfl
      rw [this, List.map_id]
    · rintro (z | z)
      · exact c (by simpa using z)
      · obtain ⟨o, ho, hn⟩ := List.any_eq_true.mp z
        obtain ⟨p, hp, rfl⟩ := List.mem_map.mp ho
        obtain ⟨i, hi, rfl⟩ := List.mem_map.mp hp
        rw [hA i hi] at hn
        cases hn
theorem step_row {F : List Pap} (hF : F ≠ []) {r : List Int} (h : ∀ i ∈ r, -(10 ^ 15) < i ∧ i < 10 ^ 15) : rowStep F (rowC r) = some (addLast F r) := by
  unfold rowStep
  rw [if_neg, row_back h]
  · show (if F = [] then none else some (addLast F r)) = _
    rw [if_neg hF]
  · rintro ⟨h1, h2, _⟩
    rw [words_row] at h1 h2
    by_cases c : r = []
    · rw [if_pos c] at h1
      simp at h1
    · rw [if_neg c] at h2
      obtain ⟨i, r', rfl⟩ := List.exists_cons_of_ne_nil c
      have := Option.some.inj h2
      exact numC_free i (s := 112) (.inr (by decide)) (by rw [this]; decide)
theorem step_paper {F : List Pap} {n : List Nat} (h : nmA n = true) : rowStep F (paperC ++ ([32] ++ n)) = some (F ++ [(n, [])]) := by
  unfold rowStep
  rw [words_paper h, if_pos ⟨rfl, rfl, h⟩]
  rfl
theorem addLast_snoc {F : List Pap} {n : List Nat} {rs : List (List Int)} {r : List Int} : addLast (F ++ [(n, rs)]) r = F ++ [(n, rs ++ [r])] := by
  unfold addLast
  rw [List.getLast?_append]
  simp
theorem read_rows {F : List Pap} {n : List Nat} {rest : List (List Nat)} : ∀ (rs done : List (List Int)) (k : Nat), (∀ r ∈ rs, ∀ i ∈ r, -(10 ^ 15) < i ∧ i < 10 ^ 15) → readP (rs.map rowC ++ rest) k (F ++ [(n, done)]) = readP rest (k + rs.length) (F ++ [(n, done ++ rs)])
  | [], done, k, _ => by simp
  | r :: rs, done, k, h => by
    rw [List.map_cons, List.cons_append, read_cons (step_row (by simp) (h r List.mem_cons_self)), addLast_snoc, read_rows (rest := rest) (F := F) (n := n) rs (done ++ [r]) (k + 1) fun r' hr => h r' (List.mem_cons_of_mem _ hr)]
    rw [List.append_assoc, List.length_cons, Nat.add_assoc, Nat.add_comm 1]
    rfl
/-- papers written and read again -/
theorem read_back : ∀ (ps F : List Pap) (k : Nat), (∀ p ∈ ps, okP p) → readP (ps.flatMap papC) k F = .inr (F ++ ps)
  | [], F, k, _ => by simp [readP]
  | (n, rs) :: ps, F, k, h => by
    obtain ⟨h1, h2⟩ := h (n, rs) List.mem_cons_self
    rw [List.flatMap_cons]
    unfold papC
    rw [List.cons_append, read_cons (step_paper h1)]
    show readP (rs.map rowC ++ ps.flatMap papC) (k + 1) (F ++ [(n, [])]) = _
    rw [read_rows rs [] (k + 1) h2, read_back ps _ _ fun p hp => h p (List.mem_cons_of_mem _ hp)]
    simp
end Mir

/-! law_k52: papers on the heap -/
namespace Mir
open PySem PySem.Spec PyProof.Rows L2 SX
def rowE (r : List Int) : W := .tup (r.map .int)
def papW (p : Pap) (r : Nat) : W := .tup [.str (S p.1), .ref r]
/-- papers in a list at k, each one's rows in a list of its own -/
structure PapH (k : Nat) (rs : List Nat) (F : List Pap) (g : PH) : Prop where
  main : g[k]? = some (.lst (List.zipWith papW F rs))
  len : rs.length = F.length
  row : ∀ (j : Nat) (p : Pap) (r : Nat), F[j]? = some p → rs[j]? = some r → g[r]? = some (.lst (p.2.map rowE)) ∧ r ≠ k
  nd : rs.Nodup
section
variable {k : Nat} {rs : List Nat} {F : List Pap} {g : PH}
theorem PapH.app (s : PapH k rs F g) (e : PH) : PapH k rs F (g ++ e) where
  main := by rw [List.getElem?_append_left (List.getElem?_eq_some_iff.mp s.main).1]; exact s.main
  len := s.len
  row := fun j p r h1 h2 => by
    obtain ⟨a, b⟩ := s.row j p r h1 h2
    exact ⟨by rw [List.getElem?_append_left (List.getElem?_eq_some_iff.mp a).1]; exact a, b⟩
  nd := s.nd
theorem PapH.lt (s : PapH k rs F g) {r : Nat} (h : r ∈ rs) : r < g.length := by
  obtain ⟨j, e⟩ := List.getElem?_of_mem h
  have hj := (List.getElem?_eq_some_iff.mp e).1
  have := (s.row j _ r (List.getElem?_eq_getElem (by rw [← s.len]; exact hj)) e).1
  exact (List.getElem?_eq_some_iff.mp this).1
theorem PapH.new (s : PapH k rs F g) (n : List Nat) : PapH k (rs ++ [g.length]) (F ++ [(n, [])]) ((g ++ [OB.lst []]).set k (OB.lst (List.zipWith papW F rs ++ [papW (n, []) g.length]))) := by
  have hk := (List.getElem?_eq_some_iff.mp s.main).1
  have hzip : List.zipWith papW (F ++ [(n, [])]) (rs ++ [g.length]) = List.zipWith papW F rs ++ [papW (n, []) g.length] := by
    rw [List.zipWith_append s.len.symm]
    rfl
  refine ⟨?_, by simp [s.len], fun j p r h1 h2 => ?_, ?_⟩
  · rw [List.getElem?_set_self (by simp; omega), hzip]
  · by_cases hj : j < F.length
    · rw [List.getElem?_append_left hj] at h1
      rw [List.getElem?_append_left (by rw [s.len]; exact hj)] at h2
      obtain ⟨a, b⟩ := s.row j p r h1 h2
      refine ⟨?_, b⟩
      rw [List.getElem?_set_ne (Ne.symm b), List.getElem?_append_left (List.getElem?_eq_some_iff.mp a).1]
      exact a
    · have hj2 := (List.getElem?_eq_some_iff.mp h1).1
      rw [List.length_append] at hj2
      simp at hj2
      have : j = F.length := by omega
      subst this
      rw [List.getElem?_append_right (Nat.le_refl _)] at h1
      rw [← s.len, List.getElem?_append_right (Nat.le_refl _)] at h2
      simp at h1 h2
      subst h1
      subst h2
      refine ⟨?_, by omega⟩
      rw [List.getElem?_set_ne (by omega), List.getElem?_append_right (Nat.le_refl _)]
      simp
  · rw [List.nodup_append]
    refine ⟨s.nd, by simp, fun a ha b hb => ?_⟩
    rw [List.mem_singleton.mp hb]
    have := s.lt ha
    omega
theorem PapH.last (s : PapH k rs F g) (h : F ≠ []) : ∃ F0 n rws rs0 r, F = F0 ++ [(n, rws)] ∧ rs = rs0 ++ [r] ∧ rs0.length = F0.length ∧ g[r]? = some (.lst (rws.map rowE)) ∧ r ≠ k := by
  have hrs : rs ≠ [] := fun z => by
    have := s.len
    rw [z] at this
    exact h (List.length_eq_zero_iff.mp this.symm)
  have e1 := (List.dropLast_concat_getLast h).symm
  have e2 := (List.dropLast_concat_getLast hrs).symm
  have hl : rs.dropLast.length = F.dropLast.length := by rw [List.length_dropLast, List.length_dropLast, s.len]
  obtain ⟨a, b⟩ := s.row F.dropLast.length (F.getLast h) (rs.getLast hrs) (by
    have : (F.dropLast ++ [F.getLast h])[F.dropLast.length]? = some (F.getLast h) := by simp
    rw [← e1] at this
    exact this) (by
    have : (rs.dropLast ++ [rs.getLast hrs])[F.dropLast.length]? = some (rs.getLast hrs) := by rw [← hl]; simp
    rw [← e2] at this
    exact this)
  exact ⟨F.dropLast, (F.getLast h).1, (F.getLast h).2, rs.dropLast, rs.getLast hrs, e1, e2, hl, a, b⟩
theorem PapH.add (s : PapH k rs F g) {F0 : List Pap} {n : List Nat} {rws : List (List Int)} {rs0 : List Nat} {r : Nat} (e1 : F = F0 ++ [(n, rws)]) (e2 : rs = rs0 ++ [r]) (hl : rs0.length = F0.length) (row : List Int) :
    PapH k rs (addLast F row) (g.set r (.lst ((rws ++ [row]).map rowE))) := by
  subst e1
  subst e2
  have hr : r < g.length := s.lt (List.mem_append_right _ (List.mem_singleton.mpr rfl))
  have hrk : r ≠ k := (s.row F0.length (n, rws) r (by simp) (by rw [← hl]; simp)).2
  rw [addLast_snoc]
  refine ⟨?_, by simp [hl], fun j p r' h1 h2 => ?_, s.nd⟩
  · rw [List.getElem?_set_ne hrk, s.main, List.zipWith_append hl.symm, List.zipWith_append hl.symm]
    rfl
  · by_cases hj : j < F0.length
    · rw [List.getElem?_append_left hj] at h1
      have h2' := h2
      rw [List.getElem?_append_left (by omega)] at h2'
      obtain ⟨a, b⟩ := s.row j p r' (by rw [List.getElem?_append_left hj]; exact h1) h2
      refine ⟨?_, b⟩
      have hne : r ≠ r' := fun z => by
        have nd := (List.nodup_append.mp s.nd).2.2
        exact nd r' (List.mem_of_getElem? h2') r (List.mem_singleton.mpr rfl) z.symm
      rw [List.getElem?_set_ne hne]
      exact a
    · have hj2 := (List.getElem?_eq_some_iff.mp h1).1
      rw [List.length_append] at hj2
      simp at hj2
      have : j = F0.length := by omega
      subst this
      rw [List.getElem?_append_right (Nat.le_refl _)] at h1
      rw [← hl, List.getElem?_append_right (Nat.le_refl _)] at h2
      simp at h1 h2
      subst h1
      subst h2
      exact ⟨List.getElem?_set_self hr, hrk⟩
end
end Mir

/-! law_k52: papers on the heap as data -/
namespace Mir
open PySem PySem.Spec PyProof.Rows L2 SX
def papE (p : Pap) : W := .tup [.str (S p.1), .fix (p.2.map rowE)]
theorem pl_row {m : Nat} {r : List Int} : plW (m + 1) (rowE r) = true := by unfold rowE; rw [pl_tup]; exact pls_ints _
theorem pls_rows {m : Nat} {rs : List (List Int)} : plWs (m + 1) (rs.map rowE) = true := pls_map _ _ fun r _ => pl_row
theorem pl_pap {m : Nat} {p : Pap} (h : Asc p.1) : plW (m + 4) (papE p) = true := by
  unfold papE
  rw [pl_tup]
  simp [pls_rows, sOk h]
theorem dats_pap {g : PH} : ∀ (F : List Pap) (rs : List Nat), rs.length = F.length → (∀ (j : Nat) (p : Pap) (r : Nat), F[j]? = some p → rs[j]? = some r → g[r]? = some (.lst (p.2.map rowE))) → (∀ p ∈ F, Asc p.1) → datSs (datL 3 g) (List.zipWith papW F rs) = some (dTs (F.map papE))
  | [], [], _, _, _ => rfl
  | [], r :: rs, h, _, _ => by cases h
  | p :: F, [], h, _, _ => by cases h
  | p :: F, r :: rs, h, row, hA => by
    have ih := dats_pap F rs (by simpa using h) (fun j p r h1 h2 => row (j + 1) p r h1 h2) fun p hp => hA p (List.mem_cons_of_mem _ hp)
    have e := row 0 p r rfl rfl
    have e2 : datL 3 g r = some (dT (.fix (p.2.map rowE))) := by
      unfold datL
      rw [e]
      dsimp only
      rw [(dats_pl (datL 2 g) 1 (p.2.map rowE) pls_rows).1]
      rfl
    show datSs (datL 3 g) (papW p r :: List.zipWith papW F rs) = some (dTs (papE p :: F.map papE))
    simp only [datSs, papW, papE, datS, e2, ih, dTs, dT]
    rfl
theorem PapH.eq0 {k : Nat} {rs : List Nat} {F : List Pap} {g : PH} (s : PapH k rs F g) (hA : ∀ p ∈ F, Asc p.1) : wEq (.ref k) (.fix []) g = some (.bl (decide (F = [])), g) := by
  have hd : dat g (.ref k) = some (dT (.fix (F.map papE))) := by
    show datL 4 g k = _
    unfold datL
    rw [s.main]
    dsimp only
    rw [dats_pap F rs s.len (fun j p r h1 h2 => (s.row j p r h1 h2).1) hA]
    rfl
  unfold wEq
  rw [eqB_T (tx := .fix (F.map papE)) (ty := .fix []) (n := 6) (m := 2) hd rfl (by rw [pl_fix]; exact pls_map _ _ fun p hp => pl_pap (hA p hp)) (by simp) (by decide) (by decide) (fun b z => by cases z)]
  rw [Option.map_some]
  congr 3
  cases F <;> simp
end Mir

/-! law_k52: one row read by papers_in -/
namespace Mir
open PySem PySem.Spec PyProof.Rows L2 SX
theorem nm_asc {n : List Nat} (h : nmA n = true) : Asc n := fun c hc => by
  have := (nm_free h).2 c hc
  omega
theorem paper_is : PySem.Str.ofString "paper" = S paperC := by decide +kernel
/-- the suite of papers_in's loop -/
def pBody : SM :=
  (sSeq (sAsg (mFn 1 f_words_of (mCons (mVar 4) mNil)) (gN 5))
  (sIf (mAnd (mB (mOp wEq (mCall wLen (mCons (mVar 5) mNil)) (mC (.int 2)))) (mAnd (mB (mOp wEq (mOp wIx (mVar 5) (mC (.int 0))) (mC (.str "paper")))) (mTru (mFn 1 f_is_name (mCons (mOp wIx (mVar 5) (mC (.int 1))) mNil)))))
  (sDrop (mMt "list" wAppend (mVar 1) (mCons (mTup (mCons (mOp wIx (mVar 5) (mC (.int 1))) (mCons (mNew (mLst mNil)) mNil))) mNil)))
  (sSeq (sAsg (mFn 1 (f_row_in f_number_by) (mCons (mVar 5) mNil)) (gN 6))
  (sSeq (sIf (mOr (mB (mOp wIs (mVar 6) (mC .non))) (mB (mOp wEq (mVar 1) (mFix (mLst mNil)))))
  (sRaiseF "BadText" ["line"] (mCons (mOp wAdd (mVar 3) (mC (.int 1))) mNil))
  sNext)
  (sDrop (mMt "list" wAppend (mOp wIx (mOp wIx (mVar 1) (mUn wNeg (mC (.int 1)))) (mC (.int 1))) (mCons (mVar 6) mNil)))))))
def isPap (ws : List (List Nat)) : Prop := ws.length = 2 ∧ ws.head? = some paperC ∧ nmA (ws.getD 1 []) = true
instance (ws : List (List Nat)) : Decidable (isPap ws) := by unfold isPap; infer_instance
section
variable {ws : List (List Nat)} {h : PH} {ps : LS} {Qb : Bool → PH → Prop}
/-- the test for a paper's first row -/
theorem test_to (h5 : ps[5]? = some (some (.fix (ws.map strW)))) (hw : ∀ p ∈ ws, p.length ≤ 100000) (q : Qb (decide (isPap ws)) h) :
    ((mAnd (mB (mOp wEq (mCall wLen (mCons (mVar 5) mNil)) (mC (.int 2)))) (mAnd (mB (mOp wEq (mOp wIx (mVar 5) (mC (.int 0))) (mC (.str "paper")))) (mTru (mFn 1 f_is_name (mCons (mOp wIx (mVar 5) (mC (.int 1))) mNil))))) ps h).To Qb := by
  simp only [to_and, to_mB, to_op, to_call, to_cons, to_nil, to_var, to_C, to_tru, to_fn]
  refine ⟨_, h5, ?_⟩
  rw [wLen_fix, pto_some, List.length_map]
  rw [show wEq (.int (ws.length : Nat)) (.int 2) h = some (.bl (decide (ws.length = 2)), h) by rw [wEq_int]; congr 3; exact decide_eq_decide.mpr (by omega), pto_some, bto_bl]
  refine .of (fun c => ?_) fun c => ?_
  · obtain ⟨a, b, rfl⟩ : ∃ a b, ws = [a, b] := by
      match ws, c with
      | [a, b], _ => exact ⟨a, b, rfl⟩
    refine ⟨_, h5, ?_⟩
    have i0 : wIx (.fix ([a, b].map strW)) (.int 0) h = some (.str (S a), h) := rfl
    have i1 : wIx (.fix ([a, b].map strW)) (.int 1) h = some (.str (S b), h) := rfl
    rw [i0, pto_some, paper_is, eq_S, pto_some, bto_bl]
    refine .of (fun c2 => ?_) fun c2 => ?_
    · refine ⟨_, h5, ?_⟩
      rw [i1, pto_some]
      refine ⟨rfl, isname_to (hw b (by simp)) ?_⟩
      simp only [tru, oto_some]
      have : decide (isPap [a, b]) = nmA b := by
        cases e : nmA b with
        | true => exact decide_eq_true ⟨rfl, by rw [c2]; rfl, e⟩
        | false =>
          refine decide_eq_false fun z => ?_
          have z2 : nmA b = true := z.2.2
          rw [e] at z2
          cases z2
      rw [this] at q
      exact q
    · rw [decide_eq_false fun z => c2 (Option.some.inj z.2.1)] at q
      exact q
  · rw [decide_eq_false fun z => c z.1] at q
    exact q
end
theorem spl_plen : ∀ {l w p : List Nat}, p ∈ TL.spl [32] 0 w l → p.length ≤ w.length + l.length
  | [], w, p, h => by
    rw [TL.spl_nil, List.mem_singleton] at h
    subst h
    simp
  | d :: r, w, p, h => by
    by_cases e : d = 32
    · rw [TL.spl_hit (by rw [pre_c]; exact decide_eq_true e)] at h
      rcases List.mem_cons.mp h with rfl | h
      · simp
      · have := spl_plen h
        simp at this ⊢
        omega
    · rw [TL.spl_miss (by rw [pre_c]; exact decide_eq_false e)] at h
      have := spl_plen h
      simp at this ⊢
      omega
theorem at_last {l : List W} {x : W} : atI (l ++ [x]) (-1) = some x := by
  unfold atI ixN
  rw [if_neg (by decide)]
  simp
  rw [if_pos (by omega), Option.bind_some, show (-1 + ((l.length : Int) + 1)).toNat = l.length by omega]
  simp
section
variable {k : Nat} {rs : List Nat} {F F' : List Pap} {g : PH} {X R : W} {row : List Nat} {i : Nat} {s5 s6 s7 s8 : Option W}
def rowPost (X R : W) (k i : Nat) (row : List Nat) (s7 s8 : Option W) (F' : List Pap) (ps : LS) (g : PH) : Prop := ∃ (rs' : List Nat) (s5 s6 : Option W), ps = [some X, some (.ref k), some R, some (.int (i : Nat)), some (.str (S row)), s5, s6, s7, s8] ∧ PapH k rs' F' g ∧ F'.length ≤ i + 1 ∧ ∀ p ∈ F', Asc p.1 ∧ p.2.length ≤ i + 1
theorem row_to (s : PapH k rs F g) (hA : ∀ p ∈ F, Asc p.1 ∧ p.2.length ≤ i) (hF : F.length ≤ i) (hi : i ≤ 100000) (ha : Asc row) (hl : row.length ≤ 10000) (hok : rowStep F row = some F') :
    (pBody [some X, some (.ref k), some R, some (.int (i : Nat)), some (.str (S row)), s5, s6, s7, s8] g).To (rowPost X R k i row s7 s8 F') (fun _ _ => False) (fun _ _ => False) fun _ _ => False := by
  unfold pBody
  obtain ⟨ws, hws⟩ : ∃ ws, ws = wordsA row := ⟨_, rfl⟩
  have hw : ∀ p ∈ ws, Asc p := fun p hp c hc => ha c (words_mem (by rw [← hws]; exact hp) c hc)
  have hw2 : ∀ p ∈ ws, p.length ≤ 100000 := fun p hp => by
    have := spl_plen (List.mem_filter.mp (by rw [hws] at hp; exact hp : p ∈ (TL.spl [32] 0 [] row).filter full)).1
    simp at this
    omega
  have hwl : ws.length ≤ 100000 := by
    rw [hws]
    have := spl_len (a := row) (d := 32) (by decide)
    have := List.length_filter_le full (TL.spl [32] 0 [] row)
    unfold wordsA
    omega
  unfold rowStep at hok
  rw [← hws] at hok
  refine seq_go (ps1 := [some X, some (.ref k), some R, some (.int (i : Nat)), some (.str (S row)), some (.fix (ws.map strW)), s6, s7, s8]) (h1 := g) (fun K hK => ?_) ?_
  · simp
    refine words_to (by omega) ?_
    rw [← hws]
    exact hK
  rw [to_sif]
  refine test_to rfl hw2 ?_
  have hlen : (List.zipWith papW F rs).length = F.length := by rw [List.length_zipWith, s.len, Nat.min_self]
  refine .of (fun c => ?_) fun c => ?_
  · unfold isPap at c
    rw [if_pos c] at hok
    have hok := Option.some.inj hok
    subst hok
    obtain ⟨a, b, e⟩ : ∃ a b, ws = [a, b] := by
      match ws, c.1 with
      | [a, b], _ => exact ⟨a, b, rfl⟩
    have hb : ws.getD 1 [] = b := by rw [e]; rfl
    have i1 : ∀ h, wIx (.fix (ws.map strW)) (.int 1) h = some (.str (S b), h) := fun h => by rw [e]; rfl
    have ty := tyW_lst s.main
    simp [ty, i1]
    rw [wAppend_lst (s.app [.lst []]).main, if_pos (by omega), pto_some]
    have hb2 : ws[1]?.getD [] = b := by rw [e]; rfl
    rw [hb2]
    have sn := s.new b
    refine ⟨rs ++ [g.length], _, _, rfl, sn, by rw [List.length_append]; simp; omega, fun p hp => ?_⟩
    rcases List.mem_append.mp hp with z | z
    · exact ⟨(hA p z).1, by have := (hA p z).2; omega⟩
    · rw [List.mem_singleton.mp z]
      exact ⟨hw b (by rw [e]; simp), by simp⟩
  · unfold isPap at c
    rw [if_neg c] at hok
    cases er : rowIn ws with
    | none => rw [er] at hok; cases hok
    | some r =>
      rw [er] at hok
      by_cases c2 : F = []
      · have hok : (if F = [] then none else some (addLast F r)) = some F' := hok
        rw [if_pos c2] at hok
        cases hok
      have hok : (if F = [] then none else some (addLast F r)) = some F' := hok
      rw [if_neg c2] at hok
      have hok := Option.some.inj hok
      refine seq_go (ps1 := [some X, some (.ref k), some R, some (.int (i : Nat)), some (.str (S row)), some (.fix (ws.map strW)), some (rowE r), s7, s8]) (h1 := g) (fun K hK => ?_) ?_
      · simp
        refine row_in_to (fun p hp => ⟨hw p hp, hw2 p hp⟩) hwl ?_
        rw [er]
        exact hK
      refine seq_go (ps1 := [some X, some (.ref k), some R, some (.int (i : Nat)), some (.str (S row)), some (.fix (ws.map strW)), some (rowE r), s7, s8]) (h1 := g) (fun K hK => ?_) ?_
      · have e0 := s.eq0 fun p hp => (hA p hp).1
        have isn : isNonW (rowE r) = false := rfl
        simp [isn, e0]
        refine .no c2 ?_
        exact hK
      · obtain ⟨F0, n, rws, rs0, l, e1, e2, hl2, gl, hlk⟩ := s.last c2
        have ix1 : wIx (.ref k) (.int (-1)) g = some (papW (n, rws) l, g) := by
          simp only [wIx, s.main]
          rw [e1, e2, List.zipWith_append hl2.symm]
          show (atI (List.zipWith papW F0 rs0 ++ [papW (n, rws) l]) (-1)).map _ = _
          rw [at_last]
          rfl
        have ix2 : wIx (papW (n, rws) l) (.int 1) g = some (.ref l, g) := rfl
        have ty := tyW_lst gl
        simp [ix1, ix2, ty]
        rw [wAppend_lst gl, if_pos (by
          have := (hA (n, rws) (by rw [e1]; simp)).2
          rw [List.length_map]
          have : rws.length ≤ i := this
          omega), pto_some]
        have sa := s.add e1 e2 hl2 r
        rw [hok] at sa
        rw [show rws.map rowE ++ [rowE r] = (rws ++ [r]).map rowE by simp]
        refine ⟨rs, _, _, rfl, sa, ?_, fun p hp => ?_⟩
        · rw [← hok, e1, addLast_snoc]
          rw [e1] at hF
          simp at hF ⊢
          omega
        · rw [← hok, e1, addLast_snoc] at hp
          rcases List.mem_append.mp hp with z | z
          · have := hA p (by rw [e1]; exact List.mem_append_left _ z)
            exact ⟨this.1, by omega⟩
          · rw [List.mem_singleton.mp z]
            have := hA (n, rws) (by rw [e1]; simp)
            exact ⟨this.1, by rw [List.length_append]; simp; exact this.2⟩
end
end Mir

/-! law_k52: papers_in -/
namespace Mir
open PySem PySem.Spec PyProof.Rows L2 SX
def badText (n : Int) : XV := ⟨"BadText", [("line", .int n)]⟩
section
variable {k : Nat} {rs : List Nat} {F F' : List Pap} {g : PH} {X R : W} {row : List Nat} {i : Nat} {s5 s6 s7 s8 : Option W}
theorem row_bad (s : PapH k rs F g) (hA : ∀ p ∈ F, Asc p.1 ∧ p.2.length ≤ i) (ha : Asc row) (hl : row.length ≤ 10000) (hok : rowStep F row = none) :
    (pBody [some X, some (.ref k), some R, some (.int (i : Nat)), some (.str (S row)), s5, s6, s7, s8] g).Tx fun x _ _ => x = badText ((i + 1 : Nat) : Int) := by
  unfold pBody
  obtain ⟨ws, hws⟩ : ∃ ws, ws = wordsA row := ⟨_, rfl⟩
  have hw : ∀ p ∈ ws, Asc p := fun p hp c hc => ha c (words_mem (by rw [← hws]; exact hp) c hc)
  have hw2 : ∀ p ∈ ws, p.length ≤ 100000 := fun p hp => by
    have := spl_plen (List.mem_filter.mp (by rw [hws] at hp; exact hp : p ∈ (TL.spl [32] 0 [] row).filter full)).1
    simp at this
    omega
  have hwl : ws.length ≤ 100000 := by
    rw [hws]
    have := spl_len (a := row) (d := 32) (by decide)
    have := List.length_filter_le full (TL.spl [32] 0 [] row)
    unfold wordsA
    omega
  unfold rowStep at hok
  rw [← hws] at hok
  refine seq_tx2 ?_
  simp
  refine words_to (by omega) ?_
  rw [← hws]
  refine if_tx (test_to rfl hw2 ?_)
  refine .of (fun c => ?_) fun c => ?_
  · unfold isPap at c
    rw [if_pos c] at hok
    cases hok
  unfold isPap at c
  rw [if_neg c] at hok
  refine seq_tx2 ?_
  simp
  refine row_in_to (fun p hp => ⟨hw p hp, hw2 p hp⟩) hwl ?_
  refine seq_tx1 (if_tx ?_)
  have raise : ∀ ps : LS, ps[3]? = some (some (.int (i : Nat))) → (sRaiseF "BadText" ["line"] (mCons (mOp wAdd (mVar 3) (mC (.int 1))) mNil) ps g).Tx fun x _ _ => x = badText ((i + 1 : Nat) : Int) := fun ps h3 => by
    unfold sRaiseF
    refine thenS_tx2 ?_
    simp only [to_cons, to_op, to_var, to_C, to_nil]
    refine ⟨_, h3, ?_⟩
    rw [wAdd_int, pto_some]
    simp only [mkX, pvs, toPV]
    simp
    rfl
  have e0 := s.eq0 fun p hp => (hA p hp).1
  cases er : rowIn ws with
  | none =>
    have isn : isNonW (rowW none) = true := rfl
    simp [isn]
    exact raise _ rfl
  | some r =>
    rw [er] at hok
    have hok : (if F = [] then none else some (addLast F r)) = none := hok
    have isn : isNonW (rowW (some r)) = false := rfl
    simp [isn, e0]
    refine .of (fun c2 => ?_) fun c2 => ?_
    · exact raise _ rfl
    · rw [if_neg c2] at hok
      cases hok
end
def rowsT (t : List Nat) : List (List Nat) := if t = [] then [] else TL.spl [10] 0 [] t
def outP (p : Pap) : W := .tup [.str (S p.1), .tup (p.2.map rowE)]
abbrev F_pin : FM := f_papers_in f_words_of f_is_name (f_row_in f_number_by)
def pinI (X : W) (rows : List (List Nat)) (k i : Nat) (ps : LS) (g : PH) : Prop := ∃ (rs : List Nat) (F : List Pap) (s3 s4 s5 s6 : Option W), ps = [some X, some (.ref k), some (.fix (rows.map strW)), s3, s4, s5, s6, none, none] ∧ PapH k rs F g ∧ F.length ≤ i ∧ (∀ p ∈ F, Asc p.1 ∧ p.2.length ≤ i) ∧ readP (rows.drop i) i F = readP rows 0 []
theorem preG {d c : Nat} {r : List Nat} : TL.pre [d] (c :: r) = decide (c = d) := by
  show ([c] == [d]) = _
  by_cases h : c = d
  · subst h; simp
  · rw [decide_eq_false h]
    simp [h]
theorem splG {d : Nat} : ∀ {l w p : List Nat}, p ∈ TL.spl [d] 0 w l → p.length ≤ w.length + l.length ∧ ∀ c ∈ p, c ∈ w ∨ c ∈ l
  | [], w, p, h => by
    rw [TL.spl_nil, List.mem_singleton] at h
    subst h
    exact ⟨by simp, fun c hc => .inl hc⟩
  | e :: r, w, p, h => by
    by_cases c : e = d
    · rw [TL.spl_hit (by rw [preG]; exact decide_eq_true c)] at h
      rcases List.mem_cons.mp h with rfl | h
      · exact ⟨by simp, fun c hc => .inl hc⟩
      · obtain ⟨h1, h2⟩ := splG h
        refine ⟨by simp at h1 ⊢; omega, fun c hc => ?_⟩
        rcases h2 c hc with z | z
        · cases z
        · exact .inr (List.mem_cons_of_mem _ z)
    · rw [TL.spl_miss (by rw [preG]; exact decide_eq_false c)] at h
      obtain ⟨h1, h2⟩ := splG h
      refine ⟨by simp at h1 ⊢; omega, fun c hc => ?_⟩
      rcases h2 c hc with z | z
      · rcases List.mem_append.mp z with z | z
        · exact .inl z
        · rw [List.mem_singleton.mp z]; exact .inr List.mem_cons_self
      · exact .inr (List.mem_cons_of_mem _ z)
theorem rows_are {t : List Nat} (ht : Asc t) (hl : t.length ≤ 9000) {row : List Nat} (h : row ∈ rowsT t) : Asc row ∧ row.length ≤ 10000 := by
  unfold rowsT at h
  split at h
  · cases h
  · obtain ⟨h1, h2⟩ := splG h
    refine ⟨fun c hc => (h2 c hc).elim (fun z => by cases z) (ht c), ?_⟩
    simp at h1
    omega
theorem rows_len {t : List Nat} (hl : t.length ≤ 9000) : (rowsT t).length ≤ 10000 := by
  unfold rowsT
  split
  · simp
  · have := spl_len (a := t) (d := 10) (by decide)
    omega
theorem newline : PySem.Str.ofString "\n" = S [10] := by decide +kernel
section
variable {t : List Nat} {g : PH}
theorem pin_ok {F : List Pap} (ht : Asc t) (hl : t.length ≤ 9000) (hr : readP (rowsT t) 0 [] = .inr F) {Q : W → PH → Prop} (q : ∀ g', Q (.tup (F.map outP)) g') : (F_pin [.str (S t)] g).To Q := by
  unfold F_pin f_papers_in
  rw [run_to, show startW 9 [W.str (S t)] = [some (.str (S t)), none, none, none, none, none, none, none, none] from rfl]
  unfold b_papers_in
  refine seq_op fun K hK => ?_
  simp [tyName]
  refine hK _ _ ?_
  clear hK K
  obtain ⟨k, hk⟩ : ∃ k, k = g.length := ⟨_, rfl⟩
  refine seq_go (ps1 := [some (.str (S t)), some (.ref k), none, none, none, none, none, none, none]) (h1 := g ++ [.lst []]) (fun K hK => by rw [hk] at hK; simp; exact hK) ?_
  refine seq_go (ps1 := [some (.str (S t)), some (.ref k), some (.fix ((rowsT t).map strW)), none, none, none, none, none, none]) (h1 := g ++ [.lst []]) (fun K hK => ?_) ?_
  · unfold rowsT at hK
    simp [empty, newline, ne_S, tyW, wSplit_S (a := t) (d := 10) (h := g ++ [.lst []]) (by omega) (by decide)]
    refine .of (fun c => ?_) fun c => ?_
    · rw [if_pos c] at hK
      exact hK
    · rw [if_neg c] at hK
      exact hK
  have s0 : PapH k [] [] (g ++ [.lst []]) := ⟨by rw [hk]; simp, rfl, fun j p r h1 _ => (by cases h1), List.nodup_nil⟩
  have hrow : ∀ row ∈ rowsT t, Asc row ∧ row.length ≤ 10000 := fun row hr => rows_are ht hl hr
  have hlen : (rowsT t).length ≤ 10000 := rows_len hl
  refine seq_cut (pinI (.str (S t)) (rowsT t) k (rowsT t).length) ?_ ?_
  · rw [to_for]
    simp only [to_enum, to_var]
    refine ⟨_, rfl, ?_⟩
    rw [show iterE big (.fix ((rowsT t).map strW)) (g ++ [.lst []]) = some (itE (itS ((rowsT t).map strW))) from rfl, oto_some]
    refine for_enum (pinI (.str (S t)) (rowsT t) k) ⟨[], [], _, _, _, _, rfl, s0, by simp, fun _ z => (by cases z), rfl⟩ ?_ fun ps g z => by rw [List.length_map] at z; exact z
    rintro i w ps g' ei ⟨rs, F1, s3, s4, s5, s6, rfl, s, hF, hA, hread⟩
    rw [List.getElem?_map] at ei
    obtain ⟨row, er, rfl⟩ := Option.map_eq_some_iff.mp ei
    have hi := (List.getElem?_eq_some_iff.mp er).1
    obtain ⟨ha, hl2⟩ := hrow row (List.mem_of_getElem? er)
    have hdrop : (rowsT t).drop i = row :: (rowsT t).drop (i + 1) := by
      rw [List.drop_eq_getElem_cons hi]
      congr 1
      exact (List.getElem?_eq_some_iff.mp er).2
    rw [hdrop] at hread
    cases es : rowStep F1 row with
    | none =>
      have : readP (row :: (rowsT t).drop (i + 1)) i F1 = .inl (i + 1) := by
        show (match rowStep F1 row with | none => Sum.inl (i + 1) | some F' => readP ((rowsT t).drop (i + 1)) (i + 1) F') = _
        rw [es]
      rw [this, hr] at hread
      cases hread
    | some F2 =>
      rw [read_cons es] at hread
      refine ⟨_, rfl, ?_⟩
      refine (row_to (X := .str (S t)) (R := .fix ((rowsT t).map strW)) (s7 := none) (s8 := none) s hA hF (by omega) ha hl2 es).mono (fun ps g z => ?_) (fun _ _ z => z.elim) (fun _ _ z => z.elim) fun _ _ z => z.elim
      obtain ⟨rs', s5, s6, rfl, z1, z2, z3⟩ := z
      exact ⟨rs', F2, _, _, _, _, rfl, z1, z2, z3, hread⟩
  · rintro ps g' ⟨rs, F1, s3, s4, s5, s6, rfl, s, hF, hA, hread⟩
    rw [List.drop_length, hr] at hread
    have e : F1 = F := by
      have : (Sum.inr F1 : Nat ⊕ List Pap) = .inr F := hread
      exact Sum.inr.inj this
    subst e
    simp [wipeW]
    rw [show iterOf big (.ref k) g' = some (itL k big) by simp only [iterOf, s.main], oto_some]
    have hzl : (List.zipWith papW F1 rs).length = F1.length := by rw [List.length_zipWith, s.len, Nat.min_self]
    refine lc_live (items := List.zipWith papW F1 rs) (by rw [hzl]; unfold big; omega) (fun i acc h => acc = (F1.take i).map outP ∧ h = g') (fun i acc h z => by rw [z.2]; exact s.main) ⟨rfl, rfl⟩ ?_ ?_
    · rintro i w acc h ei ⟨rfl, rfl⟩
      rw [List.getElem?_zipWith] at ei
      cases e1 : F1[i]? with
      | none => rw [e1] at ei; cases ei
      | some p =>
        cases e2 : rs[i]? with
        | none => rw [e1, e2] at ei; cases ei
        | some r =>
          rw [e1, e2] at ei
          have ei := Option.some.inj ei
          subst ei
          have hi := (List.getElem?_eq_some_iff.mp e1).1
          have hg := (s.row i p r e1 e2).1
          refine ⟨_, rfl, ?_⟩
          have sq : seqOf (.ref r) h = some (p.2.map rowE) := by simp only [seqOf, hg]
          have e3 : (F1.take (i + 1)).map outP = (F1.take i).map outP ++ [outP p] := by rw [List.take_succ, e1]; simp
          rw [to_yes, Ite_true, e3]
          unfold outP at *
          simp [sq]
          try omega
    · rintro acc h ⟨rfl, rfl⟩
      rw [hzl, List.take_length]
      try simp
      exact q _
end
end Mir

/-! law_k52: papers_in of bad texts -/
namespace Mir
open PySem PySem.Spec PyProof.Rows L2 SX
theorem readP_inl : ∀ (rows : List (List Nat)) (k : Nat) (F : List Pap) (n : Nat), readP rows k F = .inl n → k < n ∧ n ≤ k + rows.length
  | [], k, F, n, h => by cases h
  | row :: rest, k, F, n, h => by
    cases es : rowStep F row with
    | none =>
      have : readP (row :: rest) k F = .inl (k + 1) := by
        show (match rowStep F row with | none => Sum.inl (k + 1) | some F' => readP rest (k + 1) F') = _
        rw [es]
      rw [this] at h
      have := Sum.inl.inj h
      rw [List.length_cons]
      omega
    | some F' =>
      rw [read_cons es] at h
      have := readP_inl rest (k + 1) F' n h
      rw [List.length_cons]
      omega
section
variable {t : List Nat} {g : PH}
theorem pin_bad {n : Nat} (ht : Asc t) (hl : t.length ≤ 9000) (hr : readP (rowsT t) 0 [] = .inl n) : (F_pin [.str (S t)] g).Tx fun x _ => x = badText (n : Nat) := by
  unfold F_pin f_papers_in
  refine run_tx ?_
  rw [show startW 9 [W.str (S t)] = [some (.str (S t)), none, none, none, none, none, none, none, none] from rfl]
  unfold b_papers_in
  refine seq_tx2 ?_
  simp [tyName]
  obtain ⟨k, hk⟩ : ∃ k, k = g.length := ⟨_, rfl⟩
  refine seq_tx2 ?_
  simp
  refine seq_tx2 ?_
  rw [← hk]
  have two : ∀ (Q : W → PH → Prop), Q (.fix ((rowsT t).map strW)) (g ++ [.lst []]) → ((mIf (mB (mOp wNe (mVar 0) (mC (.str "")))) (mMt "str" wSplit (mVar 0) (mCons (mC (.str "\n")) mNil)) (mFix (mLst mNil))) [some (.str (S t)), some (.ref k), none, none, none, none, none, none, none] (g ++ [.lst []])).To Q := fun Q q => by
    unfold rowsT at q
    simp [empty, newline, ne_S, tyW, wSplit_S (a := t) (d := 10) (h := g ++ [.lst []]) (by omega) (by decide)]
    refine .of (fun c => ?_) fun c => ?_
    · rw [if_pos c] at q
      exact q
    · rw [if_neg c] at q
      exact q
  rw [to_asg]
  refine two _ ?_
  rw [gN_is, oto_some]
  have s0 : PapH k [] [] (g ++ [.lst []]) := ⟨by rw [hk]; simp, rfl, fun j p r h1 _ => (by cases h1), List.nodup_nil⟩
  have hlen : (rowsT t).length ≤ 10000 := rows_len hl
  obtain ⟨n0, n1⟩ := readP_inl _ _ _ _ hr
  have cons : ∀ {i : Nat} {row : List Nat}, (rowsT t)[i]? = some row → (rowsT t).drop i = row :: (rowsT t).drop (i + 1) := fun {i row} er => by
    have hi := (List.getElem?_eq_some_iff.mp er).1
    rw [List.drop_eq_getElem_cons hi]
    congr 1
    exact (List.getElem?_eq_some_iff.mp er).2
  have none_is : ∀ {i : Nat} {row : List Nat} {rest : List (List Nat)} {F : List Pap}, rowStep F row = none → readP (row :: rest) i F = .inl (i + 1) := fun {i row rest F} es => by
    show (match rowStep F row with | none => Sum.inl (i + 1) | some F' => readP rest (i + 1) F') = _
    rw [es]
  refine seq_tx1 (sfor_tx ?_)
  simp only [to_enum, to_var]
  refine ⟨_, rfl, ?_⟩
  rw [show iterE big (.fix ((rowsT t).map strW)) (g ++ [.lst []]) = some (itE (itS ((rowsT t).map strW))) from rfl, oto_some]
  refine enum_tx (pinI (.str (S t)) (rowsT t) k) ⟨[], [], _, _, _, _, rfl, s0, by simp, fun _ z => (by cases z), rfl⟩ (n - 1) (by rw [List.length_map]; omega) ?_ ?_
  · rintro i w ps g' hi ei ⟨rs, F1, s3, s4, s5, s6, rfl, s, hF, hA, hread⟩
    rw [List.getElem?_map] at ei
    obtain ⟨row, er, rfl⟩ := Option.map_eq_some_iff.mp ei
    obtain ⟨ha, hl2⟩ := rows_are ht hl (List.mem_of_getElem? er)
    rw [cons er] at hread
    cases es : rowStep F1 row with
    | none =>
      rw [none_is es, hr] at hread
      have := Sum.inl.inj hread
      omega
    | some F2 =>
      rw [read_cons es] at hread
      refine ⟨_, rfl, ?_⟩
      refine (row_to (X := .str (S t)) (R := .fix ((rowsT t).map strW)) (s7 := none) (s8 := none) s hA hF (by omega) ha hl2 es).mono (fun ps g z => ?_) (fun _ _ z => z.elim) (fun _ _ z => z.elim) fun _ _ z => z.elim
      obtain ⟨rs', s5, s6, rfl, z1, z2, z3⟩ := z
      exact ⟨rs', F2, _, _, _, _, rfl, z1, z2, z3, hread⟩
  · rintro w ps g' ei ⟨rs, F1, s3, s4, s5, s6, rfl, s, hF, hA, hread⟩
    rw [List.getElem?_map] at ei
    obtain ⟨row, er, rfl⟩ := Option.map_eq_some_iff.mp ei
    obtain ⟨ha, hl2⟩ := rows_are ht hl (List.mem_of_getElem? er)
    rw [cons er] at hread
    cases es : rowStep F1 row with
    | some F2 =>
      rw [read_cons es, hr] at hread
      have := readP_inl _ _ _ _ hread
      omega
    | none =>
      refine ⟨_, rfl, ?_⟩
      have e : n - 1 + 1 = n := by omega
      have := row_bad (X := .str (S t)) (R := .fix ((rowsT t).map strW)) (s5 := s5) (s6 := s6) (s7 := none) (s8 := none) s hA ha hl2 es
      rw [e] at this
      exact this
end
end Mir

/-! law_k52: the law's own reading, its test -/
namespace Mir
open PySem PySem.Spec PyProof.Rows L2 SX
theorem spl_flat {d : Nat} : ∀ (l w : List Nat), (TL.spl [d] 0 w l).flatten.length ≤ w.length + l.length
  | [], w => by rw [TL.spl_nil]; simp
  | e :: r, w => by
    by_cases c : e = d
    · rw [TL.spl_hit (by rw [preG]; exact decide_eq_true c)]
      have := spl_flat (d := d) r []
      rw [show TL.spl [d] ([d].length - 1) [] r = TL.spl [d] 0 [] r from rfl, List.flatten_cons, List.length_append]
      simp only [List.length_nil, List.length_cons] at this ⊢
      omega
    · rw [TL.spl_miss (by rw [preG]; exact decide_eq_false c)]
      have := spl_flat (d := d) r (w ++ [e])
      rw [List.length_append] at this
      simp only [List.length_cons, List.length_nil] at this ⊢
      omega
theorem filter_flat {p : List Nat → Bool} : ∀ l : List (List Nat), (l.filter p).flatten.length ≤ l.flatten.length
  | [] => by simp
  | a :: l => by
    have := filter_flat (p := p) l
    rw [List.filter_cons]
    split
    · rw [List.flatten_cons, List.flatten_cons, List.length_append, List.length_append]; omega
    · rw [List.flatten_cons, List.length_append]; omega
theorem words_flat {row : List Nat} : (wordsA row).flatten.length ≤ row.length := by
  have h1 := filter_flat (p := full) (TL.spl [32] 0 [] row)
  have h2 := spl_flat (d := 32) row []
  unfold wordsA
  simp only [List.length_nil] at h2
  omega
theorem strs_strW : ∀ l : List (List Nat), strsW (l.map strW) = some (l.map S)
  | [] => rfl
  | a :: l => by
    have := strs_strW l
    simp only [List.map_cons, strW, strsW] at this ⊢
    rw [strs_strW l]
    rfl
theorem sum_len : ∀ l : List (List Nat), ((l.map S).map (·.length)).sum = l.flatten.length
  | [] => rfl
  | a :: l => by
    have := sum_len l
    simp only [List.map_cons, List.sum_cons, this, S_len, List.flatten_cons, List.length_append]
theorem join_words {l : List (List Nat)} (hl : l.flatten.length ≤ 100000) {h : PH} : wJoin (.str (S [])) [.fix (l.map strW)] h = some (.str (S l.flatten), h) := by
  simp only [wJoin, seqOf, Option.bind_some, strs_strW]
  rw [sum_len, S_len, if_pos (by rw [List.length_nil, Nat.mul_zero]; omega), join_S, joinL_nil]
theorem cut_take1 {xs : List W} : cutW xs none (some 1) = xs.take 1 := by
  unfold cutW
  rw [HT.sIx_none, show (some (1 : Int)) = some (((1 : Nat) : Int)) from rfl, HT.sIx_nat, List.drop_zero, Nat.sub_zero]
  rcases Nat.le_total 1 xs.length with z | z
  · rw [Nat.min_eq_left z]
  · rw [Nat.min_eq_right z, List.take_of_length_le (Nat.le_refl _), List.take_of_length_le z]
theorem cut_drop1 {xs : List W} : cutW xs (some 1) none = xs.drop 1 := by
  unfold cutW
  rw [HT.sIx_none, show (some (1 : Int)) = some (((1 : Nat) : Int)) from rfl, HT.sIx_nat]
  rcases Nat.le_total 1 xs.length with z | z
  · rw [Nat.min_eq_left z, List.take_of_length_le (by rw [List.length_drop]; omega)]
  · rw [Nat.min_eq_right z, List.drop_eq_nil_of_le (Nat.le_refl _), List.drop_eq_nil_of_le z]
    simp
/-- signs of a text that are no letters, in a list of its own -/
def oddS (a : List Nat) : List W := (a.filter fun c => !lowC c).map fun c => .str (S [c])
theorem eq_odd {n : Nat} {a : List Nat} {h : PH} (ha : Asc a) (e : h[n]? = some (.lst (oddS a))) : wEq (.ref n) (.fix []) h = some (.bl (a.all lowC), h) := by
  unfold wEq
  have hp : plWs 2 (oddS a) = true := pls_map _ _ fun c hc => by
    rw [pl_str]
    exact sOk fun d hd => by rw [List.mem_singleton.mp hd]; exact ha c (List.mem_filter.mp hc).1
  rw [eqB_lst (k := 2) (m := 2) e hp (by simp) (by decide) (by decide), Option.map_some]
  congr 3
  rw [← all_not (p := lowC) (q := fun c => !lowC c) (fun _ => rfl)]
  unfold oddS
  cases a.filter fun c => !lowC c <;> simp
theorem eq_wref {n : Nat} {ws m : List (List Nat)} {h : PH} (hw : ∀ p ∈ ws, Asc p) (hm : ∀ p ∈ m, Asc p) (e : h[n]? = some (.lst (ws.map strW))) : wEq (.ref n) (.fix (m.map strW)) h = some (.bl (decide (ws = m)), h) := by
  unfold wEq
  rw [eqB_lst (k := 2) (m := 2) e (pls_S hw) (by rw [pl_fix]; exact pls_S hm) (by decide) (by decide), Option.map_some]
  congr 3
  by_cases c : ws = m
  · rw [decide_eq_true c, decide_eq_true (by rw [c])]
  · rw [decide_eq_false c, decide_eq_false fun z => c (map_strW.mp (W.fix.inj z))]
/-- the suite of _law_due's loop -/
def dTest : BM := (mAnd (mB (mOp wEq (mSl (mVar 4) none (some (mC (.int 1)))) (mFix (mLst (mCons (mC (.str "paper")) mNil))))) (mAnd (mB (mOp wEq (mCall wLen (mCons (mVar 4) mNil)) (mC (.int 2)))) (mAnd (mB (mOp wEq (mVar 5) (mFix (mLst mNil)))) (mB (mOp wLt (mCall wLen (mCons (mOp wIx (mVar 4) (mC (.int 1))) mNil)) (mC (.int 9)))))))
section
variable {ws : List (List Nat)} {h : PH} {ps : LS} {Qb : Bool → PH → Prop} {m n : Nat}
theorem dtest_to (h4 : ps[4]? = some (some (.ref m))) (h5 : ps[5]? = some (some (.ref n))) (e4 : h[m]? = some (.lst (ws.map strW))) (e5 : h[n]? = some (.lst (oddS (ws.drop 1).flatten))) (hw : ∀ p ∈ ws, Asc p ∧ p ≠ [] ∧ p.length ≤ 100000) (q : Qb (decide (isPap ws)) h) : (dTest ps h).To Qb := by
  unfold dTest
  have haf : Asc (ws.drop 1).flatten := fun c hc => by
    obtain ⟨p, hp, h2⟩ := List.mem_flatten.mp hc
    exact (hw p (List.mem_of_mem_drop hp)).1 c h2
  simp only [to_and, to_mB, to_op, to_sl, to_part0, to_part1, to_var, to_C, to_fix, to_lst, to_cons, to_nil, to_call]
  refine ⟨_, h4, _, rfl, ?_⟩
  have es : wSl (.ref m) none (some 1) h = some (.fix ((ws.take 1).map strW), h) := by
    simp only [wSl, e4, cut_take1, List.map_take]
  rw [es, pto_some, paper_is]
  refine ⟨by decide, ?_⟩
  have e1 : wEq (.fix ((ws.take 1).map strW)) (.fix [.str (S paperC)]) h = some (.bl (decide (ws.take 1 = [paperC])), h) := eq_words (m := [paperC]) (fun p hp => (hw p (List.mem_of_mem_take hp)).1) (fun p hp => by rw [List.mem_singleton.mp hp]; decide)
  rw [e1, pto_some, bto_bl]
  refine .of (fun c => ?_) fun c => ?_
  · refine ⟨_, h4, ?_⟩
    rw [wLen_lst e4, pto_some, List.length_map]
    rw [show wEq (.int (ws.length : Nat)) (.int 2) h = some (.bl (decide (ws.length = 2)), h) by rw [wEq_int]; congr 3; exact decide_eq_decide.mpr (by omega), pto_some, bto_bl]
    refine .of (fun c2 => ?_) fun c2 => ?_
    · obtain ⟨a, b, rfl⟩ : ∃ a b, ws = [a, b] := by
        match ws, c2 with
        | [a, b], _ => exact ⟨a, b, rfl⟩
      have ea : a = paperC := by simpa using c
      have hb := hw b (by simp)
      refine ⟨_, h5, by decide, ?_⟩
      rw [eq_odd haf e5, pto_some, bto_bl]
      have ef : ([a, b].drop 1).flatten = b := by simp
      rw [ef]
      have key : decide (isPap [a, b]) = nmA b := by
        cases e : nmA b with
        | true => exact decide_eq_true ⟨rfl, by rw [ea]; rfl, e⟩
        | false =>
          refine decide_eq_false fun z => ?_
          have z2 : nmA b = true := z.2.2
          rw [e] at z2
          cases z2
      rw [key] at q
      unfold nmA at q
      have b1 : 1 ≤ b.length := List.length_pos_iff.mpr hb.2.1
      rw [decide_eq_true b1, Bool.true_and] at q
      refine .ofB (fun c3 => ?_) fun c3 => ?_
      · rw [c3, Bool.and_true] at q
        refine ⟨_, h4, ?_⟩
        have i1 : wIx (.ref m) (.int 1) h = some (.str (S b), h) := by simp only [wIx, e4]; rfl
        rw [i1, pto_some, wLen_S hb.2.2, pto_some]
        rw [show wLt (.int (b.length : Nat)) (.int 9) h = some (.bl (decide (b.length ≤ 8)), h) from by
          show some (W.bl (decide ((b.length : Int) < 9)), h) = _
          congr 3
          exact decide_eq_decide.mpr (by omega), pto_some, bto_bl]
        exact q
      · rw [c3, Bool.and_false] at q
        exact q
    · rw [decide_eq_false fun z => c2 z.1] at q
      exact q
  · rw [decide_eq_false fun z => c (by
      obtain ⟨z1, z2, _⟩ := z
      match ws, z2 with
      | a :: r, z2 => simpa using z2)] at q
    exact q
end
end Mir

/-! law_k52: one row read by the law -/
namespace Mir
open PySem PySem.Spec PyProof.Rows L2 SX
def dHead : SM → SM := fun M =>
  (sSeq (sAsg (mNew (mLc (mIter big (mMt "str" wSplit (mVar 3) (mCons (mC (.str " ")) mNil))) (gN 7) (mB (mOp wNe (mVar 7) (mC (.str "")))) (mVar 7) [7])) (gN 4))
  (sSeq (sAsg (mNew (mLc (mIter big (mMt "str" wJoin (mC (.str "")) (mCons (mSl (mVar 4) (some (mC (.int 1))) none) mNil))) (gN 8) (mB (mOp wNotIn (mVar 8) (mC (.str "abcdefghijklmnopqrstuvwxyz")))) (mVar 8) [8])) (gN 5)) M))
section
variable {g : PH} {X V1 I : W} {row : List Nat} {s4 s5 s6 s7 s8 s9 : Option W} {M : SM} {N B C : LS → PH → Prop} {R : W → PH → Prop}
/-- the words, and the signs that are no letters -/
theorem dhead_to (hl : row.length ≤ 10000)
    (q : (M [some X, some V1, some I, some (.str (S row)), some (.ref g.length), some (.ref (g.length + 1)), s6, s7, s8, s9] (g ++ [.lst ((wordsA row).map strW)] ++ [.lst (oddS ((wordsA row).drop 1).flatten)])).To N R B C) :
    (dHead M [some X, some V1, some I, some (.str (S row)), s4, s5, s6, s7, s8, s9] g).To N R B C := by
  unfold dHead
  have hlen := spl_len (a := row) (d := 32) (by decide)
  have hfl := words_flat (row := row)
  obtain ⟨ws, hws⟩ : ∃ ws, ws = wordsA row := ⟨_, rfl⟩
  rw [← hws] at q hfl
  refine seq_go (ps1 := [some X, some V1, some I, some (.str (S row)), some (.ref g.length), s5, s6, s7, s8, s9]) (h1 := g ++ [.lst (ws.map strW)]) (fun K hK => ?_) ?_
  · simp [blank1, wSplit_S (a := row) (d := 32) (h := g) (by omega) (by decide), tyW, wipeW, iterOf]
    refine lc_filtW (L := TL.spl [32] 0 [] row) (enc := strW) (u := strW) full (by omega) (fun p hp => ⟨_, rfl, fun Q q => ?_, fun _ Q q => ?_⟩) ?_
    · simp [empty, strW, ne_S]
      exact q
    · simp
      exact q
    · rw [hws] at hK
      exact hK
  have e4 : (g ++ [OB.lst (ws.map strW)])[g.length]? = some (.lst (ws.map strW)) := by simp
  have hd : (ws.drop 1).flatten.length ≤ 10000 := by
    have : (ws.drop 1).flatten.length ≤ ws.flatten.length := by
      cases ws with
      | nil => simp
      | cons a r => simp
    omega
  refine seq_go (ps1 := [some X, some V1, some I, some (.str (S row)), some (.ref g.length), some (.ref (g.length + 1)), s6, s7, s8, s9]) (h1 := g ++ [.lst (ws.map strW)] ++ [.lst (oddS (ws.drop 1).flatten)]) (fun K hK => ?_) q
  have es : wSl (.ref g.length) (some 1) none (g ++ [OB.lst (ws.map strW)]) = some (.fix ((ws.drop 1).map strW), g ++ [.lst (ws.map strW)]) := by
    simp only [wSl, e4, cut_drop1, List.map_drop]
  simp only [to_asg, to_new, to_lc, to_iter, to_mt, to_C, to_cons, to_nil, to_sl, to_part0, to_part1, to_var]
  refine ⟨by rw [empty]; rfl, _, rfl, _, rfl, ?_⟩
  rw [es, pto_some, empty, join_words (by omega), pto_some, iter_S, oto_some]
  refine lc_filtW (L := (ws.drop 1).flatten) (enc := fun c => .str (S [c])) (u := fun c => .str (S [c])) (fun c => !lowC c) (by omega) (fun c hc => ⟨_, rfl, fun Q q => ?_, fun _ Q q => ?_⟩) ?_
  · simp [letters, notIn_sign, wipeW]
    rw [mem_low]
    exact q
  · simp [wipeW]
    exact q
  · simp only [gN_is, oto_some]
    have el : (g ++ [OB.lst (ws.map strW)]).length = g.length + 1 := by simp
    rw [el]
    exact hK
end
end Mir

/-! law_k52: a row more -/
namespace Mir
open PySem PySem.Spec PyProof.Rows L2 SX
def okF (F : List Pap) (i : Nat) : Prop := F.length ≤ i ∧ ∀ p ∈ F, Asc p.1 ∧ p.2.length ≤ i
theorem step_facts {F F' : List Pap} {row : List Nat} {i : Nat} (h : rowStep F row = some F') (ok : okF F i) (ha : Asc row) : okF F' (i + 1) := by
  unfold rowStep at h
  by_cases c : (wordsA row).length = 2 ∧ (wordsA row).head? = some paperC ∧ nmA ((wordsA row).getD 1 []) = true
  · rw [if_pos c] at h
    have h := Option.some.inj h
    subst h
    refine ⟨by rw [List.length_append]; have := ok.1; simp; omega, fun p hp => ?_⟩
    rcases List.mem_append.mp hp with z | z
    · have := ok.2 p z
      exact ⟨this.1, by omega⟩
    · rw [List.mem_singleton.mp z]
      exact ⟨nm_asc c.2.2, by simp⟩
  · rw [if_neg c] at h
    cases er : rowIn (wordsA row) with
    | none => rw [er] at h; cases h
    | some r =>
      rw [er] at h
      have h : (if F = [] then none else some (addLast F r)) = some F' := h
      by_cases c2 : F = []
      · rw [if_pos c2] at h; cases h
      rw [if_neg c2] at h
      have h := Option.some.inj h
      subst h
      have e1 := (List.dropLast_concat_getLast c2).symm
      obtain ⟨n, rws, e2⟩ : ∃ n rws, F.getLast c2 = (n, rws) := ⟨_, _, rfl⟩
      rw [e2] at e1
      rw [e1, addLast_snoc]
      rw [e1] at ok
      refine ⟨by have := ok.1; rw [List.length_append] at this ⊢; simp at this ⊢; omega, fun p hp => ?_⟩
      rcases List.mem_append.mp hp with z | z
      · have := ok.2 p (List.mem_append_left _ z)
        exact ⟨this.1, by omega⟩
      · rw [List.mem_singleton.mp z]
        have := ok.2 (n, rws) (by simp)
        exact ⟨this.1, by rw [List.length_append]; have := this.2; simp; exact this⟩
section
variable {k : Nat} {rs : List Nat} {F : List Pap} {g : PH} {ps : LS} {N B C : LS → PH → Prop} {R : W → PH → Prop} {i : Nat}
theorem add_to (s : PapH k rs F g) (c2 : F ≠ []) (ok : okF F i) (hi : i ≤ 100000) (h1 : ps[1]? = some (some (.ref k))) {mx : EM} {r : List Int} (hx : ∀ Q : W → PH → Prop, Q (rowE r) g → (mx ps g).To Q) (q : ∀ g', PapH k rs (addLast F r) g' → N ps g') :
    ((sDrop (mMt "list" wAppend (mOp wIx (mOp wIx (mVar 1) (mUn wNeg (mC (.int 1)))) (mC (.int 1))) (mCons mx mNil))) ps g).To N R B C := by
  obtain ⟨F0, n, rws, rs0, l, e1, e2, hl2, gl, hlk⟩ := s.last c2
  have ix1 : wIx (.ref k) (.int (-1)) g = some (papW (n, rws) l, g) := by
    simp only [wIx, s.main]
    rw [e1, e2, List.zipWith_append hl2.symm]
    show (atI (List.zipWith papW F0 rs0 ++ [papW (n, rws) l]) (-1)).map _ = _
    rw [at_last]
    rfl
  have ix2 : wIx (papW (n, rws) l) (.int 1) g = some (.ref l, g) := rfl
  have ty := tyW_lst gl
  simp only [to_drop, to_mt, to_op, to_var, to_un, to_C, to_cons, to_nil]
  refine ⟨_, h1, ?_⟩
  rw [wNeg_int, pto_some, ix1, pto_some, ix2, pto_some]
  refine ⟨ty, hx _ ?_⟩
  rw [wAppend_lst gl, if_pos (by
    have := (ok.2 (n, rws) (by rw [e1]; simp)).2
    rw [List.length_map]
    have : rws.length ≤ i := this
    omega), pto_some]
  rw [show rws.map rowE ++ [rowE r] = (rws ++ [r]).map rowE by simp]
  exact q _ (s.add e1 e2 hl2 r)
end
end Mir

/-! law_k52: what the law does with a row -/
namespace Mir
open PySem PySem.Spec PyProof.Rows L2 SX
def dRest : SM :=
  (sIf dTest
  (sDrop (mMt "list" wAppend (mVar 1) (mCons (mTup (mCons (mOp wIx (mVar 4) (mC (.int 1))) (mCons (mNew (mLst mNil)) mNil))) mNil)))
  (sIf (mAnd (mB (mOp wNe (mVar 1) (mFix (mLst mNil)))) (mB (mOp wEq (mVar 4) (mFix (mLst (mCons (mC (.str "none")) mNil))))))
  (sDrop (mMt "list" wAppend (mOp wIx (mOp wIx (mVar 1) (mUn wNeg (mC (.int 1)))) (mC (.int 1))) (mCons (mTup mNil) mNil)))
  (sSeq (sAsg (mNew (mLc (mIter big (mVar 4)) (gN 7) mYes (mFn 1 f_Lwhole (mCons (mVar 7) mNil)) [7])) (gN 6))
  (sSeq (sIf (mOr (mB (mOp wEq (mVar 1) (mFix (mLst mNil)))) (mOr (mB (mOp wEq (mVar 6) (mFix (mLst mNil)))) (mB (mOp wIn (mC .non) (mVar 6)))))
  (sRet (mOp wAdd (mVar 2) (mC (.int 1))))
  sNext)
  (sDrop (mMt "list" wAppend (mOp wIx (mOp wIx (mVar 1) (mUn wNeg (mC (.int 1)))) (mC (.int 1))) (mCons (mOn wTupQ (mSeq (mVar 6))) mNil)))))))
theorem PapH.ne0 {k : Nat} {rs : List Nat} {F : List Pap} {g : PH} (s : PapH k rs F g) (hA : ∀ p ∈ F, Asc p.1) : wNe (.ref k) (.fix []) g = some (.bl (!decide (F = [])), g) := by
  have e := s.eq0 hA
  unfold wEq at e
  unfold wNe
  obtain ⟨b, eb, e2⟩ := Option.map_eq_some_iff.mp e
  rw [eb, Option.map_some]
  have : b = decide (F = []) := W.bl.inj (Prod.mk.inj e2).1
  rw [this]
theorem eq_num0 {n : Nat} {l : List (Option Int)} {h : PH} (e : h[n]? = some (.lst (l.map numW))) : wEq (.ref n) (.fix []) h = some (.bl (decide (l = [])), h) := by
  unfold wEq
  rw [eqB_lst (k := 2) (m := 2) e (pls_map _ _ fun o _ => pl_numW) (by simp) (by decide) (by decide), Option.map_some]
  congr 3
  cases l <;> simp
theorem in_numR {n : Nat} {l : List (Option Int)} {h : PH} (e : h[n]? = some (.lst (l.map numW))) : wIn .non (.ref n) h = some (.bl (l.any Option.isNone), h) := by
  have := in_non (l := l) (h := h)
  simp only [wIn, inW] at this ⊢
  rw [e]
  exact this
section
variable {k m n i : Nat} {rs : List Nat} {F : List Pap} {g : PH} {X : W} {row : List Nat} {ws : List (List Nat)} {s6 s7 s8 s9 : Option W} {N B C : LS → PH → Prop} {R : W → PH → Prop}
theorem drest_to (s : PapH k rs F g) (ok : okF F i) (hi : i ≤ 100000) (ha : Asc row) (hws : ws = wordsA row) (hl : row.length ≤ 10000) (e4 : g[m]? = some (.lst (ws.map strW))) (e5 : g[n]? = some (.lst (oddS (ws.drop 1).flatten)))
    (qN : ∀ F' rs' ps' g', rowStep F row = some F' → PapH k rs' F' g' → (∃ s6 s7, ps' = [some X, some (.ref k), some (.int (i : Nat)), some (.str (S row)), some (.ref m), some (.ref n), s6, s7, s8, s9]) → N ps' g')
    (qR : rowStep F row = none → ∀ g', R (.int ((i + 1 : Nat) : Int)) g') :
    (dRest [some X, some (.ref k), some (.int (i : Nat)), some (.str (S row)), some (.ref m), some (.ref n), s6, s7, s8, s9] g).To N R B C := by
  have hw : ∀ p ∈ ws, Asc p ∧ p ≠ [] ∧ p.length ≤ 10000 := fun p hp => by
    rw [hws] at hp
    obtain ⟨h1, h2⟩ := List.mem_filter.mp hp
    obtain ⟨h3, _⟩ := splG h1
    refine ⟨fun c hc => ha c (words_mem hp c hc), fun z => by rw [z] at h2; simp [full] at h2, ?_⟩
    simp at h3
    omega
  have hwl : ws.length ≤ 100000 := by
    rw [hws]
    have := spl_len (a := row) (d := 32) (by decide)
    have := List.length_filter_le full (TL.spl [32] 0 [] row)
    unfold wordsA
    omega
  have hA : ∀ p ∈ F, Asc p.1 := fun p hp => (ok.2 p hp).1
  have step : rowStep F row = if isPap ws then some (F ++ [(ws.getD 1 [], [])]) else match rowIn ws with
    | none => none
    | some r => if F = [] then none else some (addLast F r) := by
    unfold rowStep
    rw [← hws]
    by_cases c : isPap ws
    · rw [if_pos c]; exact if_pos c
    · rw [if_neg c]; exact if_neg c
  have hlen : (List.zipWith papW F rs).length = F.length := by rw [List.length_zipWith, s.len, Nat.min_self]
  have okl := ok.1
  unfold dRest
  rw [to_sif]
  refine dtest_to rfl rfl e4 e5 (fun p hp => ⟨(hw p hp).1, (hw p hp).2.1, by have := (hw p hp).2.2; omega⟩) ?_
  refine .of (fun c => ?_) fun c => ?_
  · rw [if_pos c] at step
    have c1 : ws.length = 2 := c.1
    obtain ⟨a, b, e⟩ : ∃ a b, ws = [a, b] := by
      match ws, c1 with
      | [a, b], _ => exact ⟨a, b, rfl⟩
    have hb : ws.getD 1 [] = b := by rw [e]; rfl
    rw [hb] at step
    have ty := tyW_lst s.main
    have i1 : ∀ x, wIx (.ref m) (.int 1) (g ++ x) = some (.str (S b), g ++ x) := fun x => by
      have : (g ++ x)[m]? = some (.lst (ws.map strW)) := by rw [List.getElem?_append_left (List.getElem?_eq_some_iff.mp e4).1]; exact e4
      simp only [wIx, this]
      rw [e]
      rfl
    have i10 : wIx (.ref m) (.int 1) g = some (.str (S b), g) := by
      have := i1 []
      rw [List.append_nil] at this
      exact this
    simp [ty, i10]
    rw [wAppend_lst (s.app [.lst []]).main, if_pos (by omega), pto_some]
    exact qN _ _ _ _ step (s.new b) ⟨_, _, rfl⟩
  rw [if_neg c] at step
  rw [to_sif]
  simp only [to_and, to_mB, to_op, to_var, to_fix, to_lst, to_nil, to_cons, to_C]
  refine ⟨_, rfl, by decide, ?_⟩
  rw [s.ne0 hA, pto_some, bto_bl, none_is]
  have eN : wEq (.ref m) (.fix [.str (S noneC)]) g = some (.bl (decide (ws = [noneC])), g) := eq_wref (m := [noneC]) (fun p hp => (hw p hp).1) (fun p hp => by rw [List.mem_singleton.mp hp]; decide) e4
  have tail : (¬ (F ≠ [] ∧ ws = [noneC])) → ((sSeq (sAsg (mNew (mLc (mIter big (mVar 4)) (gN 7) mYes (mFn 1 f_Lwhole (mCons (mVar 7) mNil)) [7])) (gN 6))
      (sSeq (sIf (mOr (mB (mOp wEq (mVar 1) (mFix (mLst mNil)))) (mOr (mB (mOp wEq (mVar 6) (mFix (mLst mNil)))) (mB (mOp wIn (mC .non) (mVar 6)))))
      (sRet (mOp wAdd (mVar 2) (mC (.int 1))))
      sNext)
      (sDrop (mMt "list" wAppend (mOp wIx (mOp wIx (mVar 1) (mUn wNeg (mC (.int 1)))) (mC (.int 1))) (mCons (mOn wTupQ (mSeq (mVar 6))) mNil))))) [some X, some (.ref k), some (.int (i : Nat)), some (.str (S row)), some (.ref m), some (.ref n), s6, s7, s8, s9] g).To N R B C := fun hn => by
    obtain ⟨q, hq⟩ : ∃ q, q = g.length := ⟨_, rfl⟩
    refine seq_go (ps1 := [some X, some (.ref k), some (.int (i : Nat)), some (.str (S row)), some (.ref m), some (.ref n), some (.ref q), s7, s8, s9]) (h1 := g ++ [.lst ((ws.map numA).map numW)]) (fun K hK => ?_) ?_
    · simp [wipeW]
      rw [show iterOf big (.ref m) g = some (itL m big) by simp only [iterOf, e4], oto_some]
      refine lc_live (items := ws.map strW) (by rw [List.length_map]; unfold big; omega) (fun j acc h => acc = (ws.take j).map (fun p => numW (numA p)) ∧ h = g) (fun j acc h z => by rw [z.2]; exact e4) ⟨rfl, rfl⟩ ?_ ?_
      · rintro j w acc h ei ⟨rfl, rfl⟩
        rw [List.getElem?_map] at ei
        obtain ⟨p, ep, rfl⟩ := Option.map_eq_some_iff.mp ei
        have hp := hw p (List.mem_of_getElem? ep)
        have hj := (List.getElem?_eq_some_iff.mp ep).1
        refine ⟨_, rfl, ?_⟩
        have e3 : (ws.take (j + 1)).map (fun p => numW (numA p)) = (ws.take j).map (fun p => numW (numA p)) ++ [numW (numA p)] := by rw [List.take_succ, ep]; simp
        rw [to_yes, Ite_true, e3]
        simp only [to_fn, to_cons, to_nil, to_var]
        refine ⟨_, rfl, rfl, lwhole_to hp.1 (by omega) ⟨by rw [List.length_map, List.length_take]; omega, rfl, rfl⟩⟩
      · rintro acc h ⟨rfl, rfl⟩
        rw [List.length_map, List.take_length]
        have e3 : ws.map (fun p => numW (numA p)) = (ws.map numA).map numW := by rw [List.map_map]; rfl
        rw [e3]
        try rw [← hq]
        exact hK
    have sa := s.app [.lst ((ws.map numA).map numW)]
    have e6 : (g ++ [OB.lst ((ws.map numA).map numW)])[q]? = some (.lst ((ws.map numA).map numW)) := by rw [hq]; simp
    have ret : ∀ {N' : LS → PH → Prop}, rowStep F row = none → ((sRet (mOp wAdd (mVar 2) (mC (.int 1)))) [some X, some (.ref k), some (.int (i : Nat)), some (.str (S row)), some (.ref m), some (.ref n), some (.ref q), s7, s8, s9] (g ++ [.lst ((ws.map numA).map numW)])).To N' R B C := fun {N'} h => by
      simp
      exact qR h _
    have eW : decide (ws.map numA = []) = decide (ws = []) := by cases ws <;> simp
    rw [to_seq, to_sif]
    simp only [to_or, to_mB, to_op, to_var, to_fix, to_lst, to_nil, to_C]
    refine ⟨_, rfl, by decide, ?_⟩
    rw [sa.eq0 hA, pto_some, bto_bl]
    refine .of (fun c2 => ?_) fun c2 => ?_
    · rw [Ite_true]
      refine ret ?_
      rw [step]
      cases rowIn ws with
      | none => rfl
      | some r => show (if F = [] then none else some (addLast F r)) = none; rw [if_pos c2]
    · refine ⟨_, rfl, by decide, ?_⟩
      rw [eq_num0 e6, pto_some, bto_bl, eW]
      have hne : ws ≠ [noneC] := fun z => hn ⟨c2, z⟩
      refine .of (fun c3 => ?_) fun c3 => ?_
      · rw [Ite_true]
        refine ret ?_
        rw [step]
        unfold rowIn
        rw [if_neg hne, if_pos (.inl c3)]
      · refine ⟨_, rfl, ?_⟩
        rw [in_numR e6, pto_some, bto_bl]
        refine .ofB (fun c4 => ?_) fun c4 => ?_
        · refine ret ?_
          rw [step]
          unfold rowIn
          rw [if_neg hne, if_pos (.inr c4)]
        · rw [to_next]
          obtain ⟨r, er, hr⟩ : ∃ r, rowIn ws = some r ∧ (ws.map numA).map numW = r.map W.int := by
            refine ⟨ws.map fun p => (numA p).getD 0, ?_, ?_⟩
            · unfold rowIn
              rw [if_neg hne, if_neg (fun z => z.elim c3 fun z => by rw [z] at c4; cases c4)]
            · rw [List.map_map, List.map_map]
              refine List.map_congr_left fun p hp => ?_
              show numW (numA p) = W.int ((numA p).getD 0)
              cases e : numA p with
              | some i => rfl
              | none =>
                have : (ws.map numA).any Option.isNone = true := List.any_eq_true.mpr ⟨_, List.mem_map.mpr ⟨p, hp, rfl⟩, by rw [e]; rfl⟩
                rw [this] at c4
                cases c4
          rw [er] at step
          have step : rowStep F row = if F = [] then none else some (addLast F r) := step
          rw [if_neg c2] at step
          refine add_to sa c2 ok hi rfl (r := r) (fun Q hQ => ?_) fun g' s' => qN _ _ _ _ step s' ⟨_, _, rfl⟩
          have sq : seqOf (.ref q) (g ++ [OB.lst ((ws.map numA).map numW)]) = some (r.map W.int) := by
            rw [← hr]
            show (match (g ++ [OB.lst ((ws.map numA).map numW)])[q]? with | some (.lst xs) => some xs | _ => none) = _
            rw [e6]
          simp only [to_on, to_seqm, to_var]
          refine ⟨_, rfl, ?_⟩
          rw [sq, oto_some, wTupQ_is, pto_some]
          exact hQ
  rw [Ite_not]
  refine .of (fun c2 => ?_) fun c2 => ?_
  · rw [Ite_false]
    exact tail fun z => z.1 c2
  · refine ⟨_, rfl, by decide, ?_⟩
    rw [eN, pto_some, bto_bl]
    refine .of (fun c3 => ?_) fun c3 => ?_
    · have er : rowIn ws = some [] := by unfold rowIn; rw [if_pos c3]
      rw [er] at step
      have step : rowStep F row = if F = [] then none else some (addLast F []) := step
      rw [if_neg c2] at step
      exact add_to s c2 ok hi rfl (r := []) (fun Q q => by simp [rowE] at q ⊢; exact q) fun g' s' => qN _ _ _ _ step s' ⟨_, _, rfl⟩
    · exact tail fun z => c3 z.2
end
end Mir

/-! law_k52: the law's own reading -/
namespace Mir
open PySem PySem.Spec PyProof.Rows L2 SX
def dueI (X : W) (rows : List (List Nat)) (k i : Nat) (ps : LS) (g : PH) : Prop := ∃ (rs : List Nat) (F : List Pap) (s2 s3 s4 s5 s6 s7 s8 s9 : Option W), ps = [some X, some (.ref k), s2, s3, s4, s5, s6, s7, s8, s9] ∧ PapH k rs F g ∧ okF F i ∧ readP (rows.drop i) i F = readP rows 0 []
section
variable {t : List Nat} {g : PH}
theorem due_to (ht : Asc t) (hl : t.length ≤ 9000) {Q : W → PH → Prop} (q1 : ∀ F, readP (rowsT t) 0 [] = .inr F → ∀ g', Q (.tup (F.map outP)) g') (q2 : ∀ n, readP (rowsT t) 0 [] = .inl n → ∀ g', Q (.int (n : Nat)) g') : (f_Ldue f_Lwhole [.str (S t)] g).To Q := by
  unfold f_Ldue
  rw [run_to, show startW 10 [W.str (S t)] = [some (.str (S t)), none, none, none, none, none, none, none, none, none] from rfl]
  unfold b_Ldue
  obtain ⟨k, hk⟩ : ∃ k, k = g.length := ⟨_, rfl⟩
  refine seq_go (ps1 := [some (.str (S t)), some (.ref k), none, none, none, none, none, none, none, none]) (h1 := g ++ [.lst []]) (fun K hK => by rw [hk] at hK; simp; exact hK) ?_
  have s0 : PapH k [] [] (g ++ [.lst []]) := ⟨by rw [hk]; simp, rfl, fun j p r h1 _ => (by cases h1), List.nodup_nil⟩
  have hlen : (rowsT t).length ≤ 10000 := rows_len hl
  have two : ∀ (Q : W → PH → Prop), Q (.fix ((rowsT t).map strW)) (g ++ [.lst []]) → ((mIf (mB (mOp wNe (mVar 0) (mC (.str "")))) (mMt "str" wSplit (mVar 0) (mCons (mC (.str "\n")) mNil)) (mFix (mLst mNil))) [some (.str (S t)), some (.ref k), none, none, none, none, none, none, none, none] (g ++ [.lst []])).To Q := fun Q q => by
    unfold rowsT at q
    simp [empty, newline, ne_S, tyW, wSplit_S (a := t) (d := 10) (h := g ++ [.lst []]) (by omega) (by decide)]
    refine .of (fun c => ?_) fun c => ?_
    · rw [if_pos c] at q
      exact q
    · rw [if_neg c] at q
      exact q
  refine seq_cut (dueI (.str (S t)) (rowsT t) k (rowsT t).length) ?_ ?_
  · rw [to_for, to_enum]
    refine two _ ?_
    rw [show iterE big (.fix ((rowsT t).map strW)) (g ++ [.lst []]) = some (itE (itS ((rowsT t).map strW))) from rfl, oto_some]
    refine for_enum (dueI (.str (S t)) (rowsT t) k) ⟨[], [], _, _, _, _, _, _, _, _, rfl, s0, ⟨by simp, fun _ z => (by cases z)⟩, rfl⟩ ?_ fun ps g z => by rw [List.length_map] at z; exact z
    rintro i w ps g' ei ⟨rs, F1, s2, s3, s4, s5, s6, s7, s8, s9, rfl, s, ok, hread⟩
    rw [List.getElem?_map] at ei
    obtain ⟨row, er, rfl⟩ := Option.map_eq_some_iff.mp ei
    have hi := (List.getElem?_eq_some_iff.mp er).1
    obtain ⟨ha, hl2⟩ := rows_are ht hl (List.mem_of_getElem? er)
    have hdrop : (rowsT t).drop i = row :: (rowsT t).drop (i + 1) := by
      rw [List.drop_eq_getElem_cons hi]
      congr 1
      exact (List.getElem?_eq_some_iff.mp er).2
    rw [hdrop] at hread
    refine ⟨[some (.str (S t)), some (.ref k), some (.int (i : Nat)), some (.str (S row)), s4, s5, s6, s7, s8, s9], rfl, ?_⟩
    refine dhead_to (M := dRest) (X := .str (S t)) (V1 := .ref k) (I := .int (i : Nat)) hl2 ?_
    have gl : (g' ++ [OB.lst ((wordsA row).map strW)] ++ [.lst (oddS ((wordsA row).drop 1).flatten)])[g'.length]? = some (.lst ((wordsA row).map strW)) := by simp
    have gl2 : (g' ++ [OB.lst ((wordsA row).map strW)] ++ [.lst (oddS ((wordsA row).drop 1).flatten)])[g'.length + 1]? = some (.lst (oddS ((wordsA row).drop 1).flatten)) := by
      rw [List.getElem?_append_right (by simp)]
      simp
    refine drest_to ((s.app _).app _) ok (by omega) ha rfl hl2 gl gl2 (fun F' rs' ps' g2 es s' hp => ?_) fun es g2 => ?_
    · obtain ⟨s6, s7, rfl⟩ := hp
      rw [read_cons es] at hread
      exact ⟨rs', F', _, _, _, _, _, _, _, _, rfl, s', step_facts es ok ha, hread⟩
    · have : readP (row :: (rowsT t).drop (i + 1)) i F1 = .inl (i + 1) := by
        show (match rowStep F1 row with | none => Sum.inl (i + 1) | some F' => readP ((rowsT t).drop (i + 1)) (i + 1) F') = _
        rw [es]
      rw [this] at hread
      exact q2 _ hread.symm g2
  · rintro ps g' ⟨rs, F1, s2, s3, s4, s5, s6, s7, s8, s9, rfl, s, ok, hread⟩
    rw [List.drop_length] at hread
    have hr : readP (rowsT t) 0 [] = .inr F1 := hread.symm
    have okl := ok.1
    simp [wipeW]
    rw [show iterOf big (.ref k) g' = some (itL k big) by simp only [iterOf, s.main], oto_some]
    have hzl : (List.zipWith papW F1 rs).length = F1.length := by rw [List.length_zipWith, s.len, Nat.min_self]
    refine lc_live (items := List.zipWith papW F1 rs) (by rw [hzl]; unfold big; omega) (fun i acc h => acc = (F1.take i).map outP ∧ h = g') (fun i acc h z => by rw [z.2]; exact s.main) ⟨rfl, rfl⟩ ?_ ?_
    · rintro i w acc h ei ⟨rfl, rfl⟩
      rw [List.getElem?_zipWith] at ei
      cases e1 : F1[i]? with
      | none => rw [e1] at ei; cases ei
      | some p =>
        cases e2 : rs[i]? with
        | none => rw [e1, e2] at ei; cases ei
        | some r =>
          rw [e1, e2] at ei
          have ei := Option.some.inj ei
          subst ei
          have hi := (List.getElem?_eq_some_iff.mp e1).1
          have hg := (s.row i p r e1 e2).1
          refine ⟨_, rfl, ?_⟩
          have sq : seqOf (.ref r) h = some (p.2.map rowE) := by simp only [seqOf, hg]
          have e3 : (F1.take (i + 1)).map outP = (F1.take i).map outP ++ [outP p] := by rw [List.take_succ, e1]; simp
          rw [to_yes, Ite_true, e3]
          unfold outP at *
          simp [sq]
          try omega
    · rintro acc h ⟨rfl, rfl⟩
      rw [hzl, List.take_length]
      try simp
      exact q1 _ hr _
end
end Mir

/-! law_k52: rows written -/
namespace Mir
open PySem PySem.Spec PyProof.Rows L2 SX
theorem joinW {a : List Nat} {l : List (List Nat)} (hl : l.flatten.length + l.length * a.length ≤ 100000) {h : PH} : wJoin (.str (S a)) [.fix (l.map strW)] h = some (.str (S (TL.joinL a l)), h) := by
  simp only [wJoin, seqOf, Option.bind_some, strs_strW]
  rw [sum_len, S_len, List.length_map, if_pos (by omega), join_S]
theorem numC_len {i : Int} (h : -(10 ^ 15) < i) (h2 : i < 10 ^ 15) : (numC i).length ≤ 16 := by
  unfold numC
  split
  · have := TL.numL_len (n := i.toNat) (k := 15) (by decide) (by omega)
    omega
  · have := TL.numL_len (n := (-i).toNat) (k := 15) (by decide) (by omega)
    rw [List.length_cons]
    omega
theorem wStr_int {i : Int} (h : -(10 ^ 15) < i) (h2 : i < 10 ^ 15) {g : PH} : wStr [.int i] g = some (strW (numC i), g) := by
  simp only [wStr]
  rw [if_pos (by
    have : i.natAbs < 2 ^ 60 := by omega
    by_cases c : i.natAbs = 0
    · rw [c]; decide
    · have := (Nat.log2_lt c).mpr this
      omega)]
  show some (W.str (PySem.Str.ofString (toString i)), g) = _
  rw [str_int]
  rfl
theorem eq_rowE0 {r : List Int} {h : PH} : wEq (rowE r) (.tup []) h = some (.bl (decide (r = [])), h) := by
  unfold rowE
  rw [wEq_pl (n := 2) (m := 2) (by rw [pl_tup]; exact pls_ints _) (by simp) (by decide) (by decide)]
  congr 3
  cases r <;> simp
theorem flat_nums {r : List Int} (h : ∀ i ∈ r, -(10 ^ 15) < i ∧ i < 10 ^ 15) : (r.map numC).flatten.length ≤ 16 * r.length := by
  induction r with
  | nil => simp
  | cons i r ih =>
    have h1 := ih fun j hj => h j (List.mem_cons_of_mem _ hj)
    have h2 := numC_len (h i List.mem_cons_self).1 (h i List.mem_cons_self).2
    rw [List.map_cons, List.flatten_cons, List.length_append, List.length_cons]
    omega
theorem row_text_to {r : List Int} (hr : ∀ i ∈ r, -(10 ^ 15) < i ∧ i < 10 ^ 15) (hl : r.length ≤ 1000) {h : PH} {Q : W → PH → Prop} (q : Q (strW (rowC r)) h) : (f_row_text [rowE r] h).To Q := by
  unfold f_row_text
  rw [run_to, show startW 2 [rowE r] = [some (rowE r), none] from rfl]
  unfold b_row_text
  unfold rowC at q
  have hf := flat_nums hr
  simp only [to_ret, to_if, to_mB, to_op, to_var, to_tup, to_nil, to_C]
  refine ⟨_, rfl, by decide, ?_⟩
  rw [eq_rowE0, pto_some, bto_bl]
  refine .of (fun c => ?_) fun c => ?_
  · rw [if_pos c] at q
    rw [none_is]
    exact q
  · rw [if_neg c] at q
    simp [blank1, tyW, wipeW, rowE]
    refine lc_mapW (L := r) (enc := W.int) (u := fun i => strW (numC i)) (by omega) (fun i hi => ⟨_, rfl, fun Q q => ?_⟩) ?_
    · simp
      rw [wStr_int (hr i hi).1 (hr i hi).2, pto_some]
      exact q
    · have e : r.map (fun i => strW (numC i)) = (r.map numC).map strW := by rw [List.map_map]; rfl
      rw [e, joinW (by rw [List.length_map, List.length_cons, List.length_nil]; omega), pto_some]
      exact q
end Mir

/-! law_k52: papers written -/
namespace Mir
open PySem PySem.Spec PyProof.Rows L2 SX
theorem paperB : PySem.Str.ofString "paper " = S (paperC ++ [32]) := by decide +kernel
/-- papers of no great size -/
def smallP (ps : List Pap) : Prop := ps.length ≤ 10 ∧ ∀ p ∈ ps, okP p ∧ p.2.length ≤ 10 ∧ ∀ r ∈ p.2, r.length ≤ 10
theorem flat_leP {α β : Type} {f : α → List β} {k : Nat} : ∀ {l : List α}, (∀ a ∈ l, (f a).length ≤ k) → (l.flatMap f).length ≤ k * l.length
  | [], _ => by simp
  | a :: l, h => by
    have h1 := h a List.mem_cons_self
    have h2 := flat_leP (l := l) fun b hb => h b (List.mem_cons_of_mem _ hb)
    rw [List.flatMap_cons, List.length_append, List.length_cons, Nat.mul_succ]
    omega
theorem small_len {ps : List Pap} (sm : smallP ps) (i : Nat) : ((ps.take i).flatMap papC).length ≤ 1000 := by
  have := flat_leP (l := ps.take i) (f := papC) (k := 11) fun p hp => by
    have := (sm.2 p (List.mem_of_mem_take hp)).2.1
    unfold papC
    rw [List.length_cons, List.length_map]
    omega
  have h2 := sm.1
  rw [List.length_take] at this
  omega
theorem joinL_len {a : List Nat} : ∀ l : List (List Nat), (TL.joinL a l).length ≤ l.flatten.length + l.length * a.length
  | [] => by simp [TL.joinL]
  | [p] => by simp [TL.joinL]
  | p :: q :: r => by
    have := joinL_len (a := a) (q :: r)
    rw [List.length_cons, Nat.add_mul, Nat.one_mul]
    simp only [TL.joinL, List.length_append, List.flatten_cons] at this ⊢
    omega
theorem flat_le2 {b : Nat} : ∀ {l : List (List Nat)}, (∀ p ∈ l, p.length ≤ b) → l.flatten.length ≤ b * l.length
  | [], _ => by simp
  | a :: l, h => by
    have h1 := h a List.mem_cons_self
    have h2 := flat_le2 (l := l) fun p hp => h p (List.mem_cons_of_mem _ hp)
    rw [List.flatten_cons, List.length_append, List.length_cons, Nat.mul_succ]
    omega
theorem rowC_len {r : List Int} (hr : ∀ i ∈ r, -(10 ^ 15) < i ∧ i < 10 ^ 15) (hl : r.length ≤ 10) : (rowC r).length ≤ 200 := by
  unfold rowC
  split
  · decide
  · have h1 := joinL_len (a := [32]) (r.map numC)
    have h2 := flat_nums hr
    rw [List.length_map, List.length_cons, List.length_nil] at h1
    omega
theorem small_flat {ps : List Pap} (sm : smallP ps) : (ps.flatMap papC).flatten.length ≤ 60000 ∧ (ps.flatMap papC).length ≤ 110 := by
  have h0 := flat_leP (l := ps) (f := papC) (k := 11) fun p hp => by
    have := (sm.2 p hp).2.1
    unfold papC
    rw [List.length_cons, List.length_map]
    omega
  have h1 := flat_le2 (b := 200) (l := ps.flatMap papC) fun row hrow => by
    obtain ⟨p, hp, h⟩ := List.mem_flatMap.mp hrow
    obtain ⟨⟨okn, okr⟩, l1, l2⟩ := sm.2 p hp
    unfold papC at h
    rcases List.mem_cons.mp h with rfl | h
    · unfold nmA at okn
      rw [Bool.and_eq_true, Bool.and_eq_true] at okn
      have := of_decide_eq_true okn.2.1
      simp [paperC]
      omega
    · obtain ⟨r, hr, rfl⟩ := List.mem_map.mp h
      exact rowC_len (okr r hr) (l2 r hr)
  have h2 := sm.1
  exact ⟨by omega, by omega⟩
def ptI (ps0 : List Pap) (A : W) (k i : Nat) (ps : LS) (g : PH) : Prop := ∃ (s2 s3 : Option W), ps = [some A, some (.ref k), s2, s3, none] ∧ g[k]? = some (.lst (((ps0.take i).flatMap papC).map strW))
theorem ptext_to {ps0 : List Pap} (sm : smallP ps0) {g : PH} {Q : W → PH → Prop} (q : ∀ g', Q (strW (TL.joinL [10] (ps0.flatMap papC))) g') : (f_papers_text f_row_text [.tup (ps0.map outP)] g).To Q := by
  unfold f_papers_text
  rw [run_to, show startW 5 [W.tup (ps0.map outP)] = [some (.tup (ps0.map outP)), none, none, none, none] from rfl]
  unfold b_papers_text
  obtain ⟨k, hk⟩ : ∃ k, k = g.length := ⟨_, rfl⟩
  refine seq_go (ps1 := [some (.tup (ps0.map outP)), some (.ref k), none, none, none]) (h1 := g ++ [.lst []]) (fun K hK => by rw [hk] at hK; simp; exact hK) ?_
  refine seq_cut (ptI ps0 (.tup (ps0.map outP)) k ps0.length) ?_ ?_
  · rw [to_for]
    simp
    refine for_items (ptI ps0 (.tup (ps0.map outP)) k) ⟨_, _, rfl, by rw [hk]; simp⟩ ?_ fun ps g z => by rw [List.length_map] at z; exact z
    rintro i w ps g' ei ⟨s2, s3, rfl, e⟩
    rw [List.getElem?_map] at ei
    obtain ⟨p, ep, rfl⟩ := Option.map_eq_some_iff.mp ei
    obtain ⟨⟨okn, okr⟩, l1, l2⟩ := sm.2 p (List.mem_of_getElem? ep)
    refine ⟨[some (.tup (ps0.map outP)), some (.ref k), some (.str (S p.1)), some (.tup (p.2.map rowE)), none], by simp [gT, outP], ?_⟩
    have hb : (((ps0.take i).flatMap papC)).length ≤ 1000 := small_len sm i
    have kl := (List.getElem?_eq_some_iff.mp e).1
    have nl : p.1.length ≤ 8 := by
      have := okn
      unfold nmA at this
      rw [Bool.and_eq_true, Bool.and_eq_true] at this
      exact of_decide_eq_true this.2.1
    refine seq_go (ps1 := [some (.tup (ps0.map outP)), some (.ref k), some (.str (S p.1)), some (.tup (p.2.map rowE)), none]) (h1 := g'.set k (.lst (((ps0.take i).flatMap papC ++ [paperC ++ ([32] ++ p.1)]).map strW))) (fun K hK => ?_) ?_
    · have ty := tyW_lst e
      rw [paperB]
      simp [ty]
      refine ⟨by rw [S_len, S_len]; simp [paperC]; omega, ?_⟩
      rw [S_cat, wAppend_lst e, if_pos (by rw [List.length_map]; omega), pto_some]
      simp [strW] at hK
      simpa using hK
    · have e2 : (g'.set k (.lst (((ps0.take i).flatMap papC ++ [paperC ++ ([32] ++ p.1)]).map strW)))[k]? = some (.lst (((ps0.take i).flatMap papC ++ [paperC ++ ([32] ++ p.1)]).map strW)) := List.getElem?_set_self kl
      simp only [to_drop, to_ext, to_var, to_lc, to_iter]
      refine ⟨_, rfl, tyW_lst e2, _, rfl, ?_⟩
      rw [show ∀ h, iterOf big (.tup (p.2.map rowE)) h = some (itS (p.2.map rowE)) from fun _ => rfl, oto_some]
      refine lc_mapW (L := p.2) (enc := rowE) (u := fun r => strW (rowC r)) (by omega) (fun r hr => ⟨_, rfl, fun Q q => ?_⟩) ?_
      · simp only [to_fn, to_cons, to_nil, to_var]
        refine ⟨_, rfl, rfl, row_text_to (okr r hr) (by have := l2 r hr; omega) q⟩
      · refine ⟨k, _, rfl, e2, by rw [List.length_map, List.length_map, List.length_append, List.length_cons, List.length_nil]; omega, _, _, rfl, ?_⟩
        rw [List.set_set, List.getElem?_set_self kl, List.take_succ, ep, List.flatMap_append]
        simp [papC, strW]
  · rintro ps g' ⟨s2, s3, rfl, e⟩
    rw [List.take_length] at e
    have nl : PySem.Str.ofString "\n" = S [10] := newline
    simp [nl, tyW]
    obtain ⟨f1, f2⟩ := small_flat sm
    have : wJoin (.str (S [10])) [.ref k] g' = wJoin (.str (S [10])) [.fix ((ps0.flatMap papC).map strW)] g' := by simp only [wJoin, seqOf, e]
    rw [this, joinW (by rw [List.length_cons, List.length_nil]; omega), pto_some]
    exact q g'
end Mir

/-! law_k52: papers written and read -/
namespace Mir
open PySem PySem.Spec PyProof.Rows L2 SX
theorem joinL_mem {a : List Nat} : ∀ {l : List (List Nat)} {c : Nat}, c ∈ TL.joinL a l → c ∈ a ∨ ∃ p ∈ l, c ∈ p
  | [], c, h => by cases h
  | [p], c, h => .inr ⟨p, by simp, h⟩
  | p :: q :: r, c, h => by
    simp only [TL.joinL] at h
    rcases List.mem_append.mp h with h | h
    · exact .inr ⟨p, by simp, h⟩
    · rcases List.mem_append.mp h with h | h
      · exact .inl h
      · rcases joinL_mem (l := q :: r) h with z | ⟨p', hp, z⟩
        · exact .inl z
        · exact .inr ⟨p', List.mem_cons_of_mem _ hp, z⟩
theorem rowC_sign {r : List Int} {c : Nat} (h : c ∈ rowC r) : 32 ≤ c ∧ c < 128 := by
  unfold rowC at h
  split at h
  · simp only [noneC, List.mem_cons, List.not_mem_nil, or_false] at h
    omega
  · rcases joinL_mem h with h | ⟨p, hp, h⟩
    · rw [List.mem_singleton.mp h]; decide
    · obtain ⟨i, _, rfl⟩ := List.mem_map.mp hp
      have h2 := numC_asc i c h
      refine ⟨?_, h2⟩
      by_cases z : c < 45
      · exact absurd h (numC_free i (.inl z))
      · omega
theorem papC_sign {p : Pap} (h : okP p) {row : List Nat} (hr : row ∈ papC p) : row ≠ [] ∧ ∀ c ∈ row, 32 ≤ c ∧ c < 128 := by
  unfold papC at hr
  rcases List.mem_cons.mp hr with rfl | hr
  · refine ⟨by simp [paperC], fun c hc => ?_⟩
    rcases List.mem_append.mp hc with hc | hc
    · simp only [paperC, List.mem_cons, List.not_mem_nil, or_false] at hc
      omega
    · rcases List.mem_append.mp hc with hc | hc
      · rw [List.mem_singleton.mp hc]; decide
      · have := (nm_free h.1).2 c hc
        omega
  · obtain ⟨r, hr, rfl⟩ := List.mem_map.mp hr
    refine ⟨fun z => ?_, fun c hc => rowC_sign hc⟩
    have h1 := words_row (r := r)
    rw [z] at h1
    have h2 : wordsA [] = [] := by decide
    rw [h2] at h1
    split at h1
    · cases h1
    · rename_i hne
      exact hne (by simpa using h1.symm)
theorem rows_back {ps : List Pap} (h : ∀ p ∈ ps, okP p) : rowsT (TL.joinL [10] (ps.flatMap papC)) = ps.flatMap papC := by
  have hs : ∀ row ∈ ps.flatMap papC, row ≠ [] ∧ ∀ c ∈ row, 32 ≤ c ∧ c < 128 := fun row hr => by
    obtain ⟨p, hp, h2⟩ := List.mem_flatMap.mp hr
    exact papC_sign (h p hp) h2
  by_cases c : ps.flatMap papC = []
  · rw [c]; rfl
  · unfold rowsT
    rw [if_neg, TL.spl_join c fun p hp z => by have := (hs p hp).2 10 z; omega]
    intro z
    obtain ⟨row, rest, e⟩ := List.exists_cons_of_ne_nil c
    have h1 := (hs row (by rw [e]; simp)).1
    rw [e] at z
    cases rest with
    | nil => exact h1 z
    | cons q r =>
      simp only [TL.joinL] at z
      exact h1 (List.append_eq_nil_iff.mp z).1
/-- papers written are read back -/
theorem text_back {ps : List Pap} (h : ∀ p ∈ ps, okP p) : readP (rowsT (TL.joinL [10] (ps.flatMap papC))) 0 [] = .inr ps := by
  rw [rows_back h, read_back ps [] 0 h]
  rfl
theorem text_asc {ps : List Pap} (h : ∀ p ∈ ps, okP p) : Asc (TL.joinL [10] (ps.flatMap papC)) := fun c hc => by
  rcases joinL_mem hc with z | ⟨row, hr, z⟩
  · rw [List.mem_singleton.mp z]; decide
  · obtain ⟨p, hp, h2⟩ := List.mem_flatMap.mp hr
    exact ((papC_sign (h p hp) h2).2 c z).2
end Mir

/-! law_k52: _law_rows_of -/
namespace Mir
open PySem PySem.Spec PyProof.Rows L2 SX
def lrI (ps0 : List Pap) (A : W) (g : PH) (i : Nat) (ps : LS) (h : PH) : Prop := ∃ (s2 s3 s4 : Option W), ps = [some A, some (.ref g.length), s2, s3, s4, none] ∧ h = g ++ [.lst (((ps0.take i).flatMap papC).map strW)]
def lrJ (D : List (List Nat)) (p : Pap) (A : W) (g : PH) (j : Nat) (ps : LS) (h : PH) : Prop := ∃ (s4 : Option W), ps = [some A, some (.ref g.length), some (.str (S p.1)), some (.tup (p.2.map rowE)), s4, none] ∧ h = g ++ [.lst ((D ++ (paperC ++ ([32] ++ p.1)) :: (p.2.take j).map rowC).map strW)]
theorem end_get {g : PH} {o : OB} : (g ++ [o])[g.length]? = some o := by simp
theorem end_set {g : PH} {o o2 : OB} : (g ++ [o]).set g.length o2 = g ++ [o2] := by
  rw [List.set_append_right _ _ (Nat.le_refl _)]
  simp
theorem lrows_to {ps0 : List Pap} (sm : smallP ps0) {g : PH} {Q : W → PH → Prop} (q : Q (.ref g.length) (g ++ [.lst ((ps0.flatMap papC).map strW)])) : (f_Lrows_of [.tup (ps0.map outP)] g).To Q := by
  unfold f_Lrows_of
  rw [run_to, show startW 6 [W.tup (ps0.map outP)] = [some (.tup (ps0.map outP)), none, none, none, none, none] from rfl]
  unfold b_Lrows_of
  obtain ⟨A, hA⟩ : ∃ A, A = W.tup (ps0.map outP) := ⟨_, rfl⟩
  rw [← hA]
  refine seq_go (ps1 := [some A, some (.ref g.length), none, none, none, none]) (h1 := g ++ [.lst []]) (fun K hK => by simp; exact hK) ?_
  refine seq_cut (lrI ps0 A g ps0.length) ?_ ?_
  · rw [to_for]
    simp only [to_iter, to_var]
    refine ⟨_, rfl, ?_⟩
    rw [show iterOf big A (g ++ [.lst []]) = some (itS (ps0.map outP)) by rw [hA]; rfl, oto_some]
    refine for_items (lrI ps0 A g) ⟨_, _, _, rfl, rfl⟩ ?_ fun ps g z => by rw [List.length_map] at z; exact z
    rintro i w ps g' ei ⟨s2, s3, s4, rfl, rfl⟩
    rw [List.getElem?_map] at ei
    obtain ⟨p, ep, rfl⟩ := Option.map_eq_some_iff.mp ei
    obtain ⟨⟨okn, okr⟩, l1, l2⟩ := sm.2 p (List.mem_of_getElem? ep)
    have hb := small_len sm i
    have nl : p.1.length ≤ 8 := by
      have := okn
      unfold nmA at this
      rw [Bool.and_eq_true, Bool.and_eq_true] at this
      exact of_decide_eq_true this.2.1
    refine ⟨[some A, some (.ref g.length), some (.str (S p.1)), some (.tup (p.2.map rowE)), s4, none], by simp [gT, outP], ?_⟩
    obtain ⟨D, hD⟩ : ∃ D, D = (ps0.take i).flatMap papC := ⟨_, rfl⟩
    rw [← hD] at hb ⊢
    refine seq_go (ps1 := [some A, some (.ref g.length), some (.str (S p.1)), some (.tup (p.2.map rowE)), s4, none]) (h1 := g ++ [.lst ((D ++ [paperC ++ ([32] ++ p.1)]).map strW)]) (fun K hK => ?_) ?_
    · have ty := tyW_lst (end_get (g := g) (o := .lst (D.map strW)))
      simp only [to_drop, to_mt, to_cons, to_nil, to_op, to_var, to_C]
      refine ⟨_, rfl, ty, _, rfl, ?_⟩
      rw [paperB]
      have cat : ∀ h, wAdd (.str (S (paperC ++ [32]))) (.str (S p.1)) h = some (strW (paperC ++ ([32] ++ p.1)), h) := fun h => by
        simp only [wAdd]
        rw [S_len, S_len, if_pos (by simp [paperC]; omega), S_cat, List.append_assoc]
        rfl
      rw [cat, pto_some, wAppend_lst end_get, if_pos (by rw [List.length_map]; omega), pto_some, end_set]
      rw [List.map_append] at hK
      exact hK
    · rw [to_for]
      simp only [to_iter, to_var]
      refine ⟨_, rfl, ?_⟩
      rw [show ∀ h, iterOf big (.tup (p.2.map rowE)) h = some (itS (p.2.map rowE)) from fun _ => rfl, oto_some]
      refine for_items (lrJ D p A g) ⟨_, rfl, rfl⟩ ?_ fun ps h z => ?_
      · rintro j w ps h ej ⟨s4, rfl, rfl⟩
        rw [List.getElem?_map] at ej
        obtain ⟨r, er, rfl⟩ := Option.map_eq_some_iff.mp ej
        have hr := List.mem_of_getElem? er
        have hj := (List.getElem?_eq_some_iff.mp er).1
        refine ⟨[some A, some (.ref g.length), some (.str (S p.1)), some (.tup (p.2.map rowE)), some (rowE r), none], rfl, ?_⟩
        have e4 : D ++ (paperC ++ ([32] ++ p.1)) :: (p.2.take (j + 1)).map rowC = (D ++ (paperC ++ ([32] ++ p.1)) :: (p.2.take j).map rowC) ++ [rowC r] := by
          rw [List.take_succ, er]
          simp
        obtain ⟨E, hE⟩ : ∃ E, E = D ++ (paperC ++ ([32] ++ p.1)) :: (p.2.take j).map rowC := ⟨_, rfl⟩
        have hEl : E.length ≤ 2000 := by
          rw [hE, List.length_append, List.length_cons, List.length_map, List.length_take]
          omega
        rw [← hE] at e4 ⊢
        have ty := tyW_lst (end_get (g := g) (o := .lst (E.map strW)))
        have fin : lrJ D p A g (j + 1) [some A, some (.ref g.length), some (.str (S p.1)), some (.tup (p.2.map rowE)), some (rowE r), none] (g ++ [.lst ((E ++ [rowC r]).map strW)]) := ⟨_, rfl, by rw [e4]⟩
        have app : ∀ (N : LS → PH → Prop) (ps : LS), N ps (g ++ [.lst ((E ++ [rowC r]).map strW)]) → PTo (wAppend (.ref g.length) [strW (rowC r)] (g ++ [OB.lst (E.map strW)])) fun _ h => N ps h := fun N ps z => by
          rw [wAppend_lst end_get, if_pos (by rw [List.length_map]; omega), pto_some, end_set]
          rw [List.map_append] at z
          exact z
        simp only [to_drop, to_mt, to_cons, to_nil, to_var, to_if, to_mB, to_op, to_tup, to_C]
        refine ⟨_, rfl, ty, _, rfl, by decide, ?_⟩
        rw [eq_rowE0, pto_some, bto_bl]
        have hf := flat_nums (okr r hr)
        have hrl := l2 r hr
        refine .of (fun c => ?_) fun c => ?_
        · have er : rowC r = noneC := by unfold rowC; rw [if_pos c]
          rw [none_is]
          rw [er] at app fin
          exact app _ _ fin
        · have er : rowC r = TL.joinL [32] (r.map numC) := by unfold rowC; rw [if_neg c]
          rw [er] at app fin
          rw [blank1]
          simp only [to_fix, to_lc, to_iter, to_var]
          refine ⟨rfl, _, rfl, ?_⟩
          rw [show ∀ h, iterOf big (rowE r) h = some (itS (r.map W.int)) from fun _ => rfl, oto_some]
          refine lc_mapW (L := r) (enc := W.int) (u := fun i => strW (numC i)) (by omega) (fun i hi => ⟨_, rfl, fun Q q => ?_⟩) ?_
          · simp [wipeW]
            rw [wStr_int (okr r hr i hi).1 (okr r hr i hi).2, pto_some]
            exact q
          · have e : r.map (fun i => strW (numC i)) = (r.map numC).map strW := by rw [List.map_map]; rfl
            rw [e, joinW (by rw [List.length_map, List.length_cons, List.length_nil]; omega), pto_some]
            exact app _ _ fin
      · rw [List.length_map] at z
        obtain ⟨s4, rfl, rfl⟩ := z
        refine ⟨_, _, _, rfl, ?_⟩
        rw [List.take_length, List.take_succ, ep, List.flatMap_append, ← hD]
        simp [papC]
  · rintro ps g' ⟨s2, s3, s4, rfl, rfl⟩
    rw [List.take_length]
    simp
    exact q
end Mir

/-! law_k52: the word of a refusal -/
namespace Mir
open PySem PySem.Spec PyProof.Rows L2 SX
theorem fld_line {n : Int} {m : EM} {ps : LS} {h : PH} {Q : W → PH → Prop} (hm : m ps h = .ok (.exc (badText n)) h) (q : Q (.int n) h) : (mFld kn_line "line" m ps h).To Q := by
  unfold mFld
  rw [hm]
  simp only [Res.bind]
  have hc : kn_line.contains (badText n).c = true := show kn_line.contains (PySem.Str.ofString "BadText") = true by decide
  rw [if_pos hc]
  have : (badText n).fs.lookup (PySem.Str.ofString "line") = some (PV.int n) := by
    show List.lookup (PySem.Str.ofString "line") [(PySem.Str.ofString "line", PV.int n)] = _
    simp [List.lookup]
  rw [this]
  simp only [to_ok]
  exact q
theorem lword_to {n : Int} {h : PH} {Q : W → PH → Prop} (q : Q (.tup [.str (PySem.Str.ofString "text"), .int n]) h) : (f_Lword [.exc (badText n)] h).To Q := by
  unfold f_Lword
  rw [run_to, show startW 2 [W.exc (badText n)] = [some (.exc (badText n)), none] from rfl]
  unfold b_Lword
  have hk : knL.contains (badText n).c = true := by show knL.contains "BadText" = true; decide
  have s1 : (["BadArena", "BadAsked", "BadLine", "BadMark", "BadRoom", "BadRun", "BadSaying", "BadState", "BadWay"] : List Str).any (isSub (badText n).c) = false := by show List.any _ (isSub "BadText") = false; decide
  have s2 : (["BadWish", "NoMove", "TooGreat"] : List Str).any (isSub (badText n).c) = false := by show List.any _ (isSub "BadText") = false; decide
  have s3 : (["ValueError"] : List Str).any (isSub (badText n).c) = true := by show List.any _ (isSub "BadText") = true; decide
  have s4 : (["BadText"] : List Str).any (isSub (badText n).c) = true := by show List.any _ (isSub "BadText") = true; decide
  have s5 : (["BadWorks"] : List Str).any (isSub (badText n).c) = false := by show List.any _ (isSub "BadText") = false; decide
  refine seq_go (ps1 := [some (.exc (badText n)), some (.bl false)]) (h1 := h) (fun K hK => ?_) ?_
  · rw [to_asg, to_isx, to_var]
    refine ⟨_, rfl, _, rfl, hk, ?_⟩
    rw [s1, gN_is, oto_some]
    exact hK
  refine seq_go (ps1 := [some (.exc (badText n)), some (.bl false)]) (h1 := h) (fun K hK => ?_) ?_
  · simp only [to_asg, to_orV, to_notV, to_var]
    refine ⟨_, rfl, ?_⟩
    rw [bto_bl, Ite_false, to_isx, to_var]
    refine ⟨_, rfl, _, rfl, hk, ?_⟩
    rw [s2, bto_bl, Ite_false, to_isx, to_var]
    refine ⟨_, rfl, _, rfl, hk, ?_⟩
    rw [s3, bto_bl, gN_is, oto_some]
    exact hK
  have tb : ∀ b g, tru (.bl b) g = some b := fun _ _ => rfl
  have eqb : wEq (.bl true) (.bl false) h = some (.bl false, h) := rfl
  have hm : mVar 0 [some (.exc (badText n)), some (.bl false)] h = .ok (.exc (badText n)) h := rfl
  refine seq_op fun K hK => ?_
  rw [to_sif]
  simp only [to_or, to_tru, to_mB, to_op, to_var]
  refine ⟨_, rfl, ?_⟩
  rw [tb, oto_some, Ite_false, to_isx, to_var]
  refine ⟨_, rfl, _, rfl, hk, ?_⟩
  rw [s4, to_isx, to_var]
  refine ⟨_, rfl, _, rfl, hk, ?_⟩
  rw [s5, eqb, pto_some, bto_bl, Ite_false, to_isi]
  refine fld_line hm ?_
  rw [show tyName (.int n) h = some "int" from rfl, oto_some, show isB "int" "bool" = false from by decide, tb, oto_some, Ite_false, to_next]
  refine hK _ _ ?_
  rw [to_ret, to_if, to_tru, to_isx, to_var]
  refine ⟨_, rfl, _, rfl, hk, ?_⟩
  rw [s4, tb, oto_some, Ite_true, to_tup, to_cons, to_C, to_cons]
  refine fld_line hm ?_
  rw [to_nil]
  exact ⟨by simp, q⟩
end Mir

/-! law_k52: the wide text -/
namespace Mir
open PySem PySem.Spec PyProof.Rows L2 SX
abbrev dblC (l : List Nat) : List Nat := StrLaws.dbl 32 l
def wF (w l : List Nat) : List (List Nat) := (TL.spl [32] 0 w l).filter full
theorem wF_nil (w : List Nat) : wF w [] = [w].filter full := by
  unfold wF
  rw [TL.spl_nil]
theorem wF_hit (w r : List Nat) : wF w (32 :: r) = [w].filter full ++ wF [] r := by
  unfold wF
  rw [TL.spl_hit (by rw [pre_c]; rfl), ← List.filter_append]
  rfl
theorem wF_miss {c : Nat} (h : c ≠ 32) (w r : List Nat) : ∃ w', wF w (c :: r) = wF w' r ∧ ∀ r', wF w (c :: r') = wF w' r' := by
  unfold wF
  refine ⟨_, by rw [TL.spl_miss (by rw [pre_c]; exact decide_eq_false h)], fun r' => by rw [TL.spl_miss (by rw [pre_c]; exact decide_eq_false h)]⟩
theorem wF_0 (r : List Nat) : wF [] (32 :: r) = wF [] r := by
  rw [wF_hit]
  rfl
theorem wF_dbl : ∀ (l w : List Nat), wF w (dblC l) = wF w l
  | [], w => rfl
  | c :: r, w => by
    by_cases h : c = 32
    · subst h
      have : dblC (32 :: r) = 32 :: 32 :: dblC r := by simp [dblC, StrLaws.dbl]
      rw [this, wF_hit, wF_0, wF_dbl r [], wF_hit]
    · have : dblC (c :: r) = c :: dblC r := by simp [dblC, StrLaws.dbl, h]
      obtain ⟨w', h1, h2⟩ := wF_miss h w r
      rw [this, h1, h2, wF_dbl r w']
theorem wF_end : ∀ (l w : List Nat), wF w (l ++ [32]) = wF w l
  | [], w => by
    rw [List.nil_append, wF_hit, wF_nil, wF_nil]
    simp [full]
  | c :: r, w => by
    rw [List.cons_append]
    by_cases h : c = 32
    · subst h
      rw [wF_hit, wF_hit, wF_end r []]
    · obtain ⟨w', h1, h2⟩ := wF_miss h w r
      rw [h1, h2, wF_end r w']
theorem wF_rep (l : List Nat) : ∀ k : Nat, wF [] (List.replicate k 32 ++ l) = wF [] l
  | 0 => rfl
  | k + 1 => by
    rw [List.replicate_succ, List.cons_append, wF_0, wF_rep l k]
/-- a row with blanks put in -/
def wideR (k : Nat) (row : List Nat) : List Nat := List.replicate k 32 ++ (dblC row ++ [32])
theorem words_wide (k : Nat) (row : List Nat) : wordsA (wideR k row) = wordsA row := by
  show wF [] _ = wF [] _
  unfold wideR
  rw [wF_rep, wF_end, wF_dbl]
theorem read_same : ∀ {rows rows' : List (List Nat)} {k : Nat} {F : List Pap}, rows'.map wordsA = rows.map wordsA → readP rows' k F = readP rows k F
  | [], [], k, F, _ => rfl
  | [], _ :: _, k, F, h => by simp at h
  | _ :: _, [], k, F, h => by simp at h
  | r :: rs, r' :: rs', k, F, h => by
    rw [List.map_cons, List.map_cons] at h
    obtain ⟨h1, h2⟩ := List.cons.inj h
    show (match rowStep F r' with | none => Sum.inl (k + 1) | some F' => readP rs' (k + 1) F') = (match rowStep F r with | none => Sum.inl (k + 1) | some F' => readP rs (k + 1) F')
    have : rowStep F r' = rowStep F r := by unfold rowStep; rw [h1]
    rw [this]
    cases rowStep F r with
    | none => rfl
    | some F' => exact read_same h2
theorem dbl_mem {l : List Nat} {c : Nat} (h : c ∈ dblC l) : c ∈ l := by
  induction l with
  | nil => exact h
  | cons d r ih =>
    unfold dblC StrLaws.dbl at h
    split at h
    · rcases List.mem_cons.mp h with rfl | h
      · exact List.mem_cons_self
      · rcases List.mem_cons.mp h with rfl | h
        · exact List.mem_cons_self
        · exact List.mem_cons_of_mem _ (ih h)
    · rcases List.mem_cons.mp h with rfl | h
      · exact List.mem_cons_self
      · exact List.mem_cons_of_mem _ (ih h)
theorem dbl_len (l : List Nat) : (dblC l).length ≤ 2 * l.length := by
  induction l with
  | nil => simp [dblC, StrLaws.dbl]
  | cons d r ih =>
    have e : dblC (d :: r) = if d = 32 then d :: d :: dblC r else d :: dblC r := rfl
    rw [e]
    split <;> simp only [List.length_cons] <;> omega
theorem repl_S {a : List Nat} : Txt.replace (S a) (S [32]) (S [32, 32]) = S (dblC a) := TL.ext_tl (StrLaws.replace_double (S a) 32)
theorem mul_fold (c : Nat) : ∀ (k : Nat) (acc : Array Nat), ((List.replicate k (#[c] : Array Nat)).foldl (· ++ ·) acc).toList = acc.toList ++ List.replicate k c
  | 0, acc => by simp
  | k + 1, acc => by
    rw [List.replicate_succ, List.foldl_cons, mul_fold c k, Array.toList_append, List.replicate_succ, List.append_assoc]
    rfl
theorem mul_S {c : Nat} {n : Int} : Txt.mul (S [c]) n = S (List.replicate n.toNat c) := by
  unfold Txt.mul
  by_cases h : n < 1
  · rw [if_pos h, show n.toNat = 0 by omega]
    rfl
  · rw [if_neg h]
    by_cases h1 : n = 1
    · subst h1
      rfl
    · have : (n == 1 || (S [c]).length == 0) = false := by
        rw [S_len]
        simp [h1]
      rw [this]
      refine TL.ext_tl ?_
      exact mul_fold c n.toNat #[]
/-- papers as the law draws them -/
def tinyP (ps : List Pap) : Prop := ps.length ≤ 4 ∧ ∀ p ∈ ps, okP p ∧ p.2.length ≤ 6 ∧ ∀ r ∈ p.2, r.length ≤ 5
theorem tinyP.small {ps : List Pap} (t : tinyP ps) : smallP ps := ⟨by have := t.1; omega, fun p hp => by
  obtain ⟨h1, h2, h3⟩ := t.2 p hp
  exact ⟨h1, by omega, fun r hr => by have := h3 r hr; omega⟩⟩
theorem rowC_len5 {r : List Int} (hr : ∀ i ∈ r, -(10 ^ 15) < i ∧ i < 10 ^ 15) (hl : r.length ≤ 5) : (rowC r).length ≤ 85 := by
  unfold rowC
  split
  · decide
  · have h1 := joinL_len (a := [32]) (r.map numC)
    have h2 := flat_nums hr
    rw [List.length_map, List.length_cons, List.length_nil] at h1
    omega
theorem tiny_rows {ps : List Pap} (t : tinyP ps) : (ps.flatMap papC).length ≤ 28 ∧ ∀ row ∈ ps.flatMap papC, row.length ≤ 85 ∧ row ≠ [] ∧ ∀ c ∈ row, 32 ≤ c ∧ c < 128 := by
  have h0 := flat_leP (l := ps) (f := papC) (k := 7) fun p hp => by
    have := (t.2 p hp).2.1
    unfold papC
    rw [List.length_cons, List.length_map]
    omega
  have h2 := t.1
  refine ⟨by omega, fun row hrow => ?_⟩
  obtain ⟨p, hp, h⟩ := List.mem_flatMap.mp hrow
  obtain ⟨⟨okn, okr⟩, l1, l2⟩ := t.2 p hp
  refine ⟨?_, papC_sign ⟨okn, okr⟩ h⟩
  unfold papC at h
  rcases List.mem_cons.mp h with rfl | h
  · unfold nmA at okn
    rw [Bool.and_eq_true, Bool.and_eq_true] at okn
    have := of_decide_eq_true okn.2.1
    simp [paperC]
    omega
  · obtain ⟨r, hr, rfl⟩ := List.mem_map.mp h
    exact rowC_len5 (okr r hr) (l2 r hr)
/-- rows of the wide text -/
def isWide (rows ws : List (List Nat)) : Prop := ws.length = rows.length ∧ ∀ (i : Nat) (r w : List Nat), rows[i]? = some r → ws[i]? = some w → ∃ k, k ≤ 2 ∧ w = wideR k r
theorem wide_words {rows ws : List (List Nat)} (h : isWide rows ws) : ws.map wordsA = rows.map wordsA := by
  refine List.ext_getElem? fun i => ?_
  rw [List.getElem?_map, List.getElem?_map]
  cases e : rows[i]? with
  | none =>
    have := List.getElem?_eq_none_iff.mp e
    rw [List.getElem?_eq_none_iff.mpr (by rw [h.1]; exact this)]

  | some r =>
    have hi := (List.getElem?_eq_some_iff.mp e).1
    have e2 : ws[i]? = some (ws[i]'(by rw [h.1]; exact hi)) := List.getElem?_eq_getElem _
    obtain ⟨k, _, hk⟩ := h.2 i r _ e e2
    rw [e2, hk]
    show some _ = some _
    rw [words_wide]
theorem wide_row {rows ws : List (List Nat)} (h : isWide rows ws) (hr : ∀ row ∈ rows, row.length ≤ 85 ∧ row ≠ [] ∧ ∀ c ∈ row, 32 ≤ c ∧ c < 128) : ∀ w ∈ ws, w.length ≤ 173 ∧ w ≠ [] ∧ ∀ c ∈ w, 32 ≤ c ∧ c < 128 := fun w hw => by
  obtain ⟨i, hi, rfl⟩ := List.getElem_of_mem hw
  have hi2 : i < rows.length := by rw [← h.1]; exact hi
  obtain ⟨k, hk, e⟩ := h.2 i _ _ (List.getElem?_eq_getElem hi2) (List.getElem?_eq_getElem hi)
  obtain ⟨h1, h2, h3⟩ := hr _ (List.getElem_mem hi2)
  have := dbl_len (rows[i])
  rw [e]
  unfold wideR
  refine ⟨?_, by simp, fun c hc => ?_⟩
  · rw [List.length_append, List.length_append, List.length_replicate, List.length_cons, List.length_nil]
    omega
  · rcases List.mem_append.mp hc with hc | hc
    · rw [List.eq_of_mem_replicate hc]; decide
    · rcases List.mem_append.mp hc with hc | hc
      · exact h3 c (dbl_mem hc)
      · rw [List.mem_singleton.mp hc]; decide
theorem rowsT_join {l : List (List Nat)} (h : ∀ row ∈ l, row ≠ [] ∧ ∀ c ∈ row, 32 ≤ c ∧ c < 128) : rowsT (TL.joinL [10] l) = l := by
  by_cases c : l = []
  · rw [c]; rfl
  · unfold rowsT
    rw [if_neg, TL.spl_join c fun p hp z => by have := (h p hp).2 10 z; omega]
    intro z
    obtain ⟨row, rest, e⟩ := List.exists_cons_of_ne_nil c
    have h1 := (h row (by rw [e]; simp)).1
    rw [e] at z
    cases rest with
    | nil => exact h1 z
    | cons q r =>
      simp only [TL.joinL] at z
      exact h1 (List.append_eq_nil_iff.mp z).1
theorem join_asc {l : List (List Nat)} (h : ∀ row ∈ l, ∀ c ∈ row, c < 128) : Asc (TL.joinL [10] l) := fun c hc => by
  rcases joinL_mem hc with z | ⟨row, hr, z⟩
  · rw [List.mem_singleton.mp z]; decide
  · exact h row hr c z
theorem wide_read {ps : List Pap} {ws : List (List Nat)} (t : tinyP ps) (h : isWide (ps.flatMap papC) ws) :
    readP (rowsT (TL.joinL [10] ws)) 0 [] = .inr ps ∧ Asc (TL.joinL [10] ws) ∧ (TL.joinL [10] ws).length ≤ 9000 ∧ ws.flatten.length ≤ 9000 ∧ ws.length ≤ 28 := by
  obtain ⟨t1, t2⟩ := tiny_rows t
  have hw := wide_row h t2
  have hl := h.1
  have f := flat_le2 (b := 173) (l := ws) fun p hp => (hw p hp).1
  have j := joinL_len (a := [10]) ws
  rw [List.length_cons, List.length_nil] at j
  refine ⟨?_, join_asc fun row hr c hc => ((hw row hr).2.2 c hc).2, by omega, by omega, by omega⟩
  rw [rowsT_join fun row hr => (hw row hr).2, read_same (wide_words h), read_back ps [] 0 fun p hp => (t.2 p hp).1]
  rfl
theorem tiny_text {ps : List Pap} (t : tinyP ps) : (TL.joinL [10] (ps.flatMap papC)).length ≤ 9000 ∧ (ps.flatMap papC).flatten.length ≤ 3000 ∧ (ps.flatMap papC).length ≤ 28 := by
  obtain ⟨t1, t2⟩ := tiny_rows t
  have f := flat_le2 (b := 85) (l := ps.flatMap papC) fun p hp => (t2 p hp).1
  have j := joinL_len (a := [10]) (ps.flatMap papC)
  rw [List.length_cons, List.length_nil] at j
  exact ⟨by omega, by omega, t1⟩
end Mir

/-! law_k52: the tape -/
namespace Mir
open PySem PySem.Spec PyProof.Rows L2 SX
abbrev kS (s : String) : Key := .inr (PySem.Str.ofString s)
@[simp] theorem kne_cells_own : (PySem.Str.ofString "cells" = PySem.Str.ofString "own") = False := eq_false (by decide +kernel)
@[simp] theorem kne_cells_at : (PySem.Str.ofString "cells" = PySem.Str.ofString "at") = False := eq_false (by decide +kernel)
@[simp] theorem kne_cells_rest : (PySem.Str.ofString "cells" = PySem.Str.ofString "rest") = False := eq_false (by decide +kernel)
@[simp] theorem kne_cells_spot : (PySem.Str.ofString "cells" = PySem.Str.ofString "spot") = False := eq_false (by decide +kernel)
@[simp] theorem kne_own_cells : (PySem.Str.ofString "own" = PySem.Str.ofString "cells") = False := eq_false (by decide +kernel)
@[simp] theorem kne_own_at : (PySem.Str.ofString "own" = PySem.Str.ofString "at") = False := eq_false (by decide +kernel)
@[simp] theorem kne_own_rest : (PySem.Str.ofString "own" = PySem.Str.ofString "rest") = False := eq_false (by decide +kernel)
@[simp] theorem kne_own_spot : (PySem.Str.ofString "own" = PySem.Str.ofString "spot") = False := eq_false (by decide +kernel)
@[simp] theorem kne_at_cells : (PySem.Str.ofString "at" = PySem.Str.ofString "cells") = False := eq_false (by decide +kernel)
@[simp] theorem kne_at_own : (PySem.Str.ofString "at" = PySem.Str.ofString "own") = False := eq_false (by decide +kernel)
@[simp] theorem kne_at_rest : (PySem.Str.ofString "at" = PySem.Str.ofString "rest") = False := eq_false (by decide +kernel)
@[simp] theorem kne_at_spot : (PySem.Str.ofString "at" = PySem.Str.ofString "spot") = False := eq_false (by decide +kernel)
@[simp] theorem kne_rest_cells : (PySem.Str.ofString "rest" = PySem.Str.ofString "cells") = False := eq_false (by decide +kernel)
@[simp] theorem kne_rest_own : (PySem.Str.ofString "rest" = PySem.Str.ofString "own") = False := eq_false (by decide +kernel)
@[simp] theorem kne_rest_at : (PySem.Str.ofString "rest" = PySem.Str.ofString "at") = False := eq_false (by decide +kernel)
@[simp] theorem kne_rest_spot : (PySem.Str.ofString "rest" = PySem.Str.ofString "spot") = False := eq_false (by decide +kernel)
@[simp] theorem kne_spot_cells : (PySem.Str.ofString "spot" = PySem.Str.ofString "cells") = False := eq_false (by decide +kernel)
@[simp] theorem kne_spot_own : (PySem.Str.ofString "spot" = PySem.Str.ofString "own") = False := eq_false (by decide +kernel)
@[simp] theorem kne_spot_at : (PySem.Str.ofString "spot" = PySem.Str.ofString "at") = False := eq_false (by decide +kernel)
@[simp] theorem kne_spot_rest : (PySem.Str.ofString "spot" = PySem.Str.ofString "rest") = False := eq_false (by decide +kernel)
def tapeO (cs : List Int) (d : Bool) (a r s : Int) : OB := .dK [(kS "cells", .fix (cs.map .int)), (kS "own", .bl d), (kS "at", .int a), (kS "rest", .int r), (kS "spot", .int s)]
def IsTape (B : Int) (o : OB) : Prop := ∃ cs d a r s, o = tapeO cs d a r s ∧ cs ≠ [] ∧ cs.length ≤ 63 ∧ 0 ≤ a ∧ a ≤ B ∧ 0 ≤ s ∧ s ≤ 63
theorem IsTape.refs {B : Int} {o : OB} (t : IsTape B o) : refsO o = [] := by
  obtain ⟨cs, d, a, r, s, rfl, _⟩ := t
  simp [tapeO, refsO, refsK]
theorem IsTape.up {B B' : Int} {o : OB} (t : IsTape B o) (h : B ≤ B') : IsTape B' o := by
  obtain ⟨cs, d, a, r, s, rfl, h1, h2, h3, h4, h5⟩ := t
  exact ⟨cs, d, a, r, s, rfl, h1, h2, h3, by omega, h5⟩
section
variable {cs : List Int} {d : Bool} {a r s : Int}
theorem ix_cells {g : PH} : wIx (.ref 0) (.str (PySem.Str.ofString "cells")) (tapeO cs d a r s :: g) = some (.fix (cs.map .int), tapeO cs d a r s :: g) := by
  simp only [tapeO, wIx, List.getElem?_cons_zero, keyW, Option.bind_some]
  rw [show getK [(kS "cells", W.fix (cs.map .int)), (kS "own", .bl d), (kS "at", .int a), (kS "rest", .int r), (kS "spot", .int s)] (kS "cells") = some (.fix (cs.map .int)) by simp [getK]]
  rfl
theorem ix_own {g : PH} : wIx (.ref 0) (.str (PySem.Str.ofString "own")) (tapeO cs d a r s :: g) = some (.bl d, tapeO cs d a r s :: g) := by
  simp only [tapeO, wIx, List.getElem?_cons_zero, keyW, Option.bind_some]
  rw [show getK [(kS "cells", W.fix (cs.map .int)), (kS "own", .bl d), (kS "at", .int a), (kS "rest", .int r), (kS "spot", .int s)] (kS "own") = some (.bl d) by simp [getK]]
  rfl
theorem ix_at {g : PH} : wIx (.ref 0) (.str (PySem.Str.ofString "at")) (tapeO cs d a r s :: g) = some (.int a, tapeO cs d a r s :: g) := by
  simp only [tapeO, wIx, List.getElem?_cons_zero, keyW, Option.bind_some]
  rw [show getK [(kS "cells", W.fix (cs.map .int)), (kS "own", .bl d), (kS "at", .int a), (kS "rest", .int r), (kS "spot", .int s)] (kS "at") = some (.int a) by simp [getK]]
  rfl
theorem ix_rest {g : PH} : wIx (.ref 0) (.str (PySem.Str.ofString "rest")) (tapeO cs d a r s :: g) = some (.int r, tapeO cs d a r s :: g) := by
  simp only [tapeO, wIx, List.getElem?_cons_zero, keyW, Option.bind_some]
  rw [show getK [(kS "cells", W.fix (cs.map .int)), (kS "own", .bl d), (kS "at", .int a), (kS "rest", .int r), (kS "spot", .int s)] (kS "rest") = some (.int r) by simp [getK]]
  rfl
theorem ix_spot {g : PH} : wIx (.ref 0) (.str (PySem.Str.ofString "spot")) (tapeO cs d a r s :: g) = some (.int s, tapeO cs d a r s :: g) := by
  simp only [tapeO, wIx, List.getElem?_cons_zero, keyW, Option.bind_some]
  rw [show getK [(kS "cells", W.fix (cs.map .int)), (kS "own", .bl d), (kS "at", .int a), (kS "rest", .int r), (kS "spot", .int s)] (kS "spot") = some (.int s) by simp [getK]]
  rfl
theorem set_at {g : PH} {v : Int} : setW (.ref 0) (.str (PySem.Str.ofString "at")) (.int v) (tapeO cs d a r s :: g) = some (tapeO cs d v r s :: g) := by
  simp only [tapeO, setW, List.getElem?_cons_zero, keyW]
  rw [if_pos (by simp), show putKW [(kS "cells", W.fix (cs.map .int)), (kS "own", .bl d), (kS "at", .int a), (kS "rest", .int r), (kS "spot", .int s)] (kS "at") (.int v) = [(kS "cells", W.fix (cs.map .int)), (kS "own", .bl d), (kS "at", .int v), (kS "rest", .int r), (kS "spot", .int s)] from by simp only [putKW, List.any_cons, List.any_nil, List.map_cons, List.map_nil]; simp]
  simp [tapeO]
theorem set_rest {g : PH} {v : Int} : setW (.ref 0) (.str (PySem.Str.ofString "rest")) (.int v) (tapeO cs d a r s :: g) = some (tapeO cs d a v s :: g) := by
  simp only [tapeO, setW, List.getElem?_cons_zero, keyW]
  rw [if_pos (by simp), show putKW [(kS "cells", W.fix (cs.map .int)), (kS "own", .bl d), (kS "at", .int a), (kS "rest", .int r), (kS "spot", .int s)] (kS "rest") (.int v) = [(kS "cells", W.fix (cs.map .int)), (kS "own", .bl d), (kS "at", .int a), (kS "rest", .int v), (kS "spot", .int s)] from by simp only [putKW, List.any_cons, List.any_nil, List.map_cons, List.map_nil]; simp]
  simp [tapeO]
theorem set_spot {g : PH} {v : Int} : setW (.ref 0) (.str (PySem.Str.ofString "spot")) (.int v) (tapeO cs d a r s :: g) = some (tapeO cs d a r v :: g) := by
  simp only [tapeO, setW, List.getElem?_cons_zero, keyW]
  rw [if_pos (by simp), show putKW [(kS "cells", W.fix (cs.map .int)), (kS "own", .bl d), (kS "at", .int a), (kS "rest", .int r), (kS "spot", .int s)] (kS "spot") (.int v) = [(kS "cells", W.fix (cs.map .int)), (kS "own", .bl d), (kS "at", .int a), (kS "rest", .int r), (kS "spot", .int v)] from by simp only [putKW, List.any_cons, List.any_nil, List.map_cons, List.map_nil]; simp]
  simp [tapeO]
end
def S_take : FM := lift1 f_Ltake
theorem fits_Ltake : Fits f_Ltake S_take := fits_lift1 _
theorem in2 (x : Int) (h : PH) : ∃ b, wIn (.int x) (.tup [.int 0, .int (-1)]) h = some (.bl b, h) ∧ wNotIn (.int x) (.tup [.int 0, .int (-1)]) h = some (.bl (!b), h) := ⟨_, rfl, rfl⟩
theorem cell_ix {cs : List Int} {i : Int} {h : PH} (h0 : 0 ≤ i) (h1 : i < cs.length) : ∃ c, wIx (.fix (cs.map .int)) (.int i) h = some (.int c, h) := by
  obtain ⟨w, ew, hw⟩ := at_ix (l := cs.map W.int) h0 (by rw [List.length_map]; exact h1)
  obtain ⟨c, _, rfl⟩ := List.mem_map.mp hw
  refine ⟨c, ?_⟩
  show (atI _ i).map _ = _
  rw [ew]
  rfl
def tkI (cs : List Int) (d : Bool) (a m : Int) (ps : LS) (g : PH) : Prop := ∃ r s, ps = [some (.ref 0), some (.int m), some (.int a), none, none, none] ∧ g = [tapeO cs d (a + 1) r s] ∧ 0 ≤ s ∧ s ≤ 63
theorem take_run {B : Int} {o : OB} (t : IsTape B o) (hB : B < 1000000) {m : Int} (hm : 0 < m) (hs : m < 1152921504606846976) : (f_Ltake [.ref 0, .int m] [o]).To fun w g => ∃ o2 g2, g = o2 :: g2 ∧ refsO o2 = [] ∧ refsW w = [] ∧ (∃ r, w = .int r ∧ 0 ≤ r ∧ r < m) ∧ IsTape (B + 1) o2 := by
  obtain ⟨cs, d, a, r, s, rfl, c0, c1, a0, a1, s0, s1⟩ := t
  have hl : 0 < cs.length := List.length_pos_iff.mpr c0
  have mk : ∀ r s, 0 ≤ s → s ≤ 63 → IsTape (B + 1) (tapeO cs d (a + 1) r s) := fun r s s0 s1 => ⟨_, _, _, _, _, rfl, c0, c1, by omega, by omega, s0, s1⟩
  unfold f_Ltake
  rw [run_to, show startW 6 [W.ref 0, .int m] = [some (.ref 0), some (.int m), none, none, none, none] from rfl]
  unfold b_Ltake
  refine seq_go (ps1 := [some (.ref 0), some (.int m), some (.int a), none, none, none]) (h1 := [tapeO cs d a r s]) (fun K hK => ?_) ?_
  · simp [ix_at]
    exact hK
  refine seq_go (ps1 := [some (.ref 0), some (.int m), some (.int a), none, none, none]) (h1 := [tapeO cs d (a + 1) r s]) (fun K hK => ?_) ?_
  · simp [set_at]
    exact hK
  have log : m.natAbs.log2 < 9000 := by
    have : m.natAbs < 2 ^ 60 := by omega
    have := (Nat.log2_lt (n := m.natAbs) (k := 60) (by omega)).mpr this
    omega
  refine seq_cut (tkI cs d a m) ?_ ?_
  · obtain ⟨b, hb, _⟩ := in2 r [tapeO cs d (a + 1) r s]
    have keep : tkI cs d a m [some (.ref 0), some (.int m), some (.int a), none, none, none] [tapeO cs d (a + 1) r s] := ⟨r, s, rfl, rfl, s0, s1⟩
    simp [ix_own, ix_rest, ix_spot, ix_cells, hb, tru]
    refine .ofB (fun _ => ?_) fun _ => keep
    refine .ofB (fun _ => ?_) fun _ => keep
    refine .of (fun hsp => ?_) fun _ => keep
    refine seq_op fun K hK => ?_
    obtain ⟨c, hc⟩ := cell_ix (cs := cs) (i := s) (h := [tapeO cs d (a + 1) r s]) s0 hsp
    simp [ix_cells, ix_spot, hc, set_rest]
    refine hK _ _ ?_
    clear hK K
    simp [ix_spot, set_spot]
    exact ⟨c, s + 1, rfl, rfl, by omega, by omega⟩
  rintro ps g ⟨r, s, rfl, rfl, s0, s1⟩
  refine seq_op fun K hK => ?_
  obtain ⟨b, _, hb⟩ := in2 r [tapeO cs d (a + 1) r s]
  have fin : K [some (.ref 0), some (.int m), some (.int a), none, none, none] [tapeO cs d (a + 1) r s] := by
    refine hK _ _ ?_
    clear hK K
    refine seq_op fun K hK => ?_
    obtain ⟨c, hc⟩ := cell_ix (cs := cs) (i := a % (cs.length : Int)) (h := [tapeO cs d (a + 1) r s]) (Int.emod_nonneg _ (by omega)) (Int.emod_lt_of_pos _ (by omega))
    simp [ix_cells, hc]
    refine ⟨hl, hK _ _ ?_⟩
    clear hK K
    refine seq_op fun K hK => ?_
    obtain ⟨q, hq⟩ : ∃ q, q = c % 2147483629 := ⟨_, rfl⟩
    have q0 : 0 ≤ q := by rw [hq]; exact Int.emod_nonneg _ (by decide)
    have q1 : q < 2147483629 := by rw [hq]; exact Int.emod_lt_of_pos _ (by decide)
    simp
    rw [← hq]
    refine hK _ _ ?_
    clear hK K
    obtain ⟨u, hu⟩ : ∃ u, u = (q + 7919 * a + 1) * 48271 % 2147483647 := ⟨_, rfl⟩
    have u0 : 0 ≤ u := by rw [hu]; exact Int.emod_nonneg _ (by decide)
    have u1 : u < 2147483647 := by rw [hu]; exact Int.emod_lt_of_pos _ (by decide)
    rw [← hu]
    refine seq_op fun K hK => ?_
    simp
    refine ⟨by omega, by omega, hK _ _ ?_⟩
    clear hK K
    obtain ⟨v, hv⟩ : ∃ v, v = u * (u + a * a + 5) % 2147483629 := ⟨_, rfl⟩
    have v0 : 0 ≤ v := by rw [hv]; exact Int.emod_nonneg _ (by decide)
    have v1 : v < 2147483629 := by rw [hv]; exact Int.emod_lt_of_pos _ (by decide)
    rw [← hv]
    simp
    refine ⟨by decide, hm, (mk r s s0 s1).refs, ⟨Int.emod_nonneg _ (by omega), Int.emod_lt_of_pos _ hm⟩, mk r s s0 s1⟩
  simp [ix_own, ix_rest, hb, tru]
  refine .ofB (fun _ => ?_) fun _ => fin
  refine .ofB (fun _ => fin) fun _ => ?_
  refine seq_op fun K hK => ?_
  simp [ix_rest]
  refine ⟨hm, hK _ _ ?_⟩
  clear hK K
  refine seq_op fun K hK => ?_
  simp [ix_rest, set_rest]
  refine ⟨⟨hm, log⟩, hK _ _ ?_⟩
  clear hK K
  simp
  exact ⟨(mk _ s s0 s1).refs, ⟨Int.emod_nonneg _ (by omega), Int.emod_lt_of_pos _ hm⟩, mk _ s s0 s1⟩
theorem take_to {B : Int} {o : OB} {h : PH} {n : Nat} (e : h[n]? = some o) (t : IsTape B o) (hB : B < 1000000) {m : Int} (hm : 0 < m) (hs : m < 1152921504606846976) {Q : W → PH → Prop} (q : ∀ r o2, 0 ≤ r → r < m → IsTape (B + 1) o2 → Q (.int r) (h.set n o2)) : (S_take [.ref n, .int m] h).To Q :=
  lift1_to (P := fun w o2 => (∃ r, w = .int r ∧ 0 ≤ r ∧ r < m) ∧ IsTape (B + 1) o2) e t.refs (by simp) ((take_run t hB hm hs).mono fun w g z => by
    obtain ⟨o2, g2, rfl, z1, z2, z3, z4⟩ := z
    exact ⟨o2, g2, rfl, z1, z2, z3, z4⟩) fun w o2 z => by
      obtain ⟨⟨r, rfl, z1, z2⟩, z3⟩ := z
      exact q r o2 z1 z2 z3
end Mir

/-! law_k52: names drawn -/
namespace Mir
open PySem PySem.Spec PyProof.Rows L2 SX
theorem cutTo {xs : List W} {i : Int} (h0 : 0 ≤ i) : cutW xs none (some i) = xs.take i.toNat := by
  obtain ⟨k, rfl⟩ : ∃ k : Nat, i = k := ⟨i.toNat, by omega⟩
  unfold cutW
  rw [HT.sIx_none, HT.sIx_nat]
  simp [List.take_eq_take_iff]
theorem cutFrom {xs : List W} {i : Int} (h0 : 0 ≤ i) : cutW xs (some i) none = xs.drop i.toNat := by
  obtain ⟨k, rfl⟩ : ∃ k : Nat, i = k := ⟨i.toNat, by omega⟩
  unfold cutW
  rw [HT.sIx_none, HT.sIx_nat]
  rw [List.take_of_length_le (by simp)]
  by_cases h : k ≤ xs.length
  · rw [Nat.min_eq_left h]; simp
  · rw [Nat.min_eq_right (by omega), List.drop_of_length_le (Nat.le_refl _), List.drop_of_length_le (by simp; omega)]
/-- a take of the tape at 0 -/
theorem take0 {B : Int} {o : OB} (t : IsTape B o) (hB : B < 1000000) {m : Int} (hm : 0 < m) (hs : m < 1152921504606846976) {g : PH} {Q : W → PH → Prop} (q : ∀ r o2, 0 ≤ r → r < m → IsTape (B + 1) o2 → Q (.int r) (o2 :: g)) : (S_take [.ref 0, .int m] (o :: g)).To Q := take_to (n := 0) rfl t hB hm hs fun r o2 a b c => q r o2 a b c
theorem low26 : lowL.length = 26 := by decide
theorem low_at {r : Int} (h0 : 0 ≤ r) (h1 : r < 26) : ∃ c, lowC c = true ∧ ∀ h, wIx (.str (S lowL)) (.int r) h = some (.str (S [c]), h) := by
  obtain ⟨c, hc, hx⟩ := sign_at (a := lowL) (by decide) h0 (by rw [low26]; exact h1)
  exact ⟨c, by rw [← mem_low]; exact decide_eq_true hc, hx⟩
theorem mIsTo {l : LM} {ps : LS} {h : PH} {Q : List W → PH → Prop} {lo hi : Option EM} {m : EM} : (mSlL m lo hi ps h).To Q = (m ps h).To fun x g => (mPart lo ps g).To fun a g => (mPart hi ps g).To fun b g => OTo (lstOf x g) fun ws => Q (cutW ws a b) g := by
  simp only [mSlL, to_bind]
  congr 1
  funext x g
  congr 1
  funext a g
  congr 1
  funext b g
  cases lstOf x g <;> simp
abbrev sgn (c : Nat) : W := .str (S [c])
def nmB (o0 : OB) (B : Int) (i : Nat) (acc : List W) (g : PH) : Prop := ∃ (o2 : OB) (cs : List Nat), g = [o2] ∧ acc = cs.map sgn ∧ cs.length = i ∧ (∀ c ∈ cs, lowC c = true) ∧ IsTape (B + i) o2
def nmI (V4 V5 V6 : W) (base : List Nat) (sz : Nat) (o : OB) (m : Nat) (i : Nat) (ps : LS) (g : PH) : Prop := ∃ (fs : List (List Nat)) (s8 s9 : Option W), ps = [some (.ref 0), some (.int (m : Nat)), some (.str (S lowL)), some (.ref 1), some V4, some V5, some V6, some (.ref 2), s8, s9] ∧ g[0]? = some o ∧ g[1]? = some (.lst (base.map sgn)) ∧ g[2]? = some (.lst (fs.map strW)) ∧ fs.length = i ∧ ∀ f ∈ fs, f.length = sz ∧ ∀ c ∈ f, lowC c = true
def badN : List (List Nat) := [[97, 108, 119, 97, 121, 115], [110, 101, 118, 101, 114], [97, 116], [110, 111, 116], [97, 110, 100], [111, 114]]
theorem badN_is : [PySem.Str.ofString "always", PySem.Str.ofString "never", PySem.Str.ofString "at", PySem.Str.ofString "not", PySem.Str.ofString "and", PySem.Str.ofString "or"] = badN.map S := by decide +kernel
theorem in_bad {f : List Nat} {h : PH} : wIn (strW f) (.tup [.str (PySem.Str.ofString "always"), .str (PySem.Str.ofString "never"), .str (PySem.Str.ofString "at"), .str (PySem.Str.ofString "not"), .str (PySem.Str.ofString "and"), .str (PySem.Str.ofString "or")]) h = some (.bl (decide (f ∈ badN)), h) := by
  have e := badN_is
  simp only [List.cons.injEq, badN, List.map_cons, List.map_nil] at e
  obtain ⟨e1, e2, e3, e4, e5, e6, _⟩ := e
  rw [e1, e2, e3, e4, e5, e6]
  show some (W.bl _, h) = _
  congr 3
  have q : ∀ a b : List Nat, eqF (.str (S a)) (strW b) = decide (a = b) := fun a b => by
    show (S a == S b) = _
    rw [S_beq_eq]
  simp only [List.any_cons, List.any_nil, q, badN, List.mem_cons, List.not_mem_nil, or_false]
  simp only [Bool.decide_or, eq_comm, Bool.or_false]
theorem bad_len {f : List Nat} (h : f ∈ badN) : f.length ≤ 6 := by
  simp only [badN, List.mem_cons, List.not_mem_nil, or_false] at h
  rcases h with rfl | rfl | rfl | rfl | rfl | rfl <;> decide
theorem nm_of {f : List Nat} (h1 : 1 ≤ f.length) (h2 : f.length ≤ 8) (h : ∀ c ∈ f, lowC c = true) : nmA f = true := by
  unfold nmA
  rw [decide_eq_true h1, decide_eq_true h2, Bool.true_and, Bool.true_and]
  exact List.all_eq_true.mpr h
def nmM (B : Int) (m : Nat) (base : List Nat) (s4 s5 s6 : Option W) (ps : LS) (g : PH) : Prop := ∃ o2 : OB, ps = [some (.ref 0), some (.int (m : Nat)), some (.str (S lowL)), some (.ref 1), s4, s5, s6, none, none, none] ∧ g = [o2, .lst (base.map sgn)] ∧ IsTape B o2
def nmM3 (B : Int) (m : Nat) (ps : LS) (g : PH) : Prop := ∃ base : List Nat, nmM (B + 8) m base none none none ps g ∧ base.length = 8 ∧ ∀ c ∈ base, lowC c = true
def nmM4 (B : Int) (m : Nat) (base : List Nat) (ps : LS) (g : PH) : Prop := ∃ sz : Nat, nmM (B + 9) m base (some (.int (sz : Nat))) none none ps g ∧ 1 ≤ sz ∧ sz ≤ 8
def nmM5 (B : Int) (m : Nat) (base : List Nat) (sz : Nat) (ps : LS) (g : PH) : Prop := ∃ a : Nat, nmM (B + 10) m base (some (.int (sz : Nat))) (some (.int (a : Nat))) none ps g ∧ a < sz
def nmM6 (B : Int) (m : Nat) (base : List Nat) (sz a : Nat) (ps : LS) (g : PH) : Prop := ∃ fi : Int, nmM (B + 11) m base (some (.int (sz : Nat))) (some (.int (a : Nat))) (some (.int fi)) ps g ∧ 0 ≤ fi
def nmOut (B : Int) (m : Nat) (w : W) (g : PH) : Prop := ∃ (o2 : OB) (fs : List (List Nat)), g[0]? = some o2 ∧ IsTape (B + 11) o2 ∧ lstOf w g = some (fs.map strW) ∧ fs.length = m ∧ ∀ f ∈ fs, nmA f = true
theorem names_to {B : Int} {o : OB} (t : IsTape B o) (hB : B < 900000) {m : Nat} (hm : m ≤ 100) {Q : W → PH → Prop} (q : ∀ w g, nmOut B m w g → Q w g) : (f_Lnames S_take [.ref 0, .int (m : Nat)] [o]).To Q := by
  unfold f_Lnames
  rw [run_to, show startW 10 [W.ref 0, .int (m : Nat)] = [some (.ref 0), some (.int (m : Nat)), none, none, none, none, none, none, none, none] from rfl]
  unfold b_Lnames
  refine seq_go (ps1 := [some (.ref 0), some (.int (m : Nat)), some (.str (S lowL)), none, none, none, none, none, none, none]) (h1 := [o]) (fun K hK => by simp [letters]; exact hK) ?_
  refine seq_cut (nmM3 B m) ?_ ?_
  · simp [wipeW]
    refine lc_items (nmB o B) ⟨o, [], rfl, rfl, rfl, fun _ z => (by cases z), t.up (by omega)⟩ ?_ ?_
    · rintro i w acc h e ⟨o2, cs, rfl, rfl, hl, hc, t2⟩
      obtain ⟨hi, rfl⟩ := range_get e
      refine ⟨_, rfl, ?_⟩
      rw [to_yes, Ite_true]
      simp
      refine take0 t2 (by omega) (by decide) (by decide) fun r o3 r0 r1 t3 => ?_
      obtain ⟨c, hc2, hx⟩ := low_at r0 r1
      rw [hx, pto_some]
      refine ⟨by omega, o3, cs ++ [c], rfl, by simp, by simp [hl], fun d hd => ?_, t3.up (by omega)⟩
      rcases List.mem_append.mp hd with hd | hd
      · exact hc d hd
      · rw [List.mem_singleton.mp hd]; exact hc2
    · rintro acc h ⟨o2, cs, rfl, rfl, hl, hc, t2⟩
      rw [range_len] at hl t2
      exact ⟨cs, ⟨o2, rfl, rfl, t2⟩, hl, hc⟩
  rintro ps g ⟨base, ⟨o2, rfl, rfl, t2⟩, hbl, hbc⟩
  refine seq_cut (nmM4 B m base) ?_ ?_
  · simp
    refine take0 t2 (by omega) (by decide) (by decide) fun r o3 r0 r1 t3 => ?_
    simp
    refine ⟨(1 + r).toNat, ⟨o3, ?_, rfl, t3.up (by omega)⟩, by omega, by omega⟩
    rw [Int.toNat_of_nonneg (by omega)]
  rintro ps g ⟨sz, ⟨o3, rfl, rfl, t3⟩, sz1, sz8⟩
  refine seq_cut (nmM5 B m base sz) ?_ ?_
  · simp
    refine take0 t3 (by omega) (by omega) (by omega) fun r o3 r0 r1 t3 => ?_
    refine ⟨r.toNat, ⟨o3, ?_, rfl, t3.up (by omega)⟩, by omega⟩
    rw [Int.toNat_of_nonneg (by omega)]
  rintro ps g ⟨at', ⟨o4, rfl, rfl, t4⟩, hat⟩
  refine seq_cut (nmM6 B m base sz at') ?_ ?_
  · simp
    refine take0 t4 (by omega) (by decide) (by decide) fun r o3 r0 r1 t3 => ?_
    exact ⟨r, ⟨o3, rfl, rfl, t3.up (by omega)⟩, r0⟩
  rintro ps g ⟨fi, ⟨o5, rfl, rfl, t5⟩, hfi⟩
  refine seq_go (ps1 := [some (.ref 0), some (.int (m : Nat)), some (.str (S lowL)), some (.ref 1), some (.int (sz : Nat)), some (.int (at' : Nat)), some (.int fi), some (.ref 2), none, none]) (h1 := [o5, .lst (base.map sgn), .lst []]) (fun K hK => by simp; exact hK) ?_
  refine seq_cut (nmI (.int (sz : Nat)) (.int (at' : Nat)) (.int fi) base sz o5 m m) ?_ ?_
  · rw [to_for]
    simp
    refine ⟨by omega, ?_⟩
    refine for_items (nmI (.int (sz : Nat)) (.int (at' : Nat)) (.int fi) base sz o5 m) ⟨[], _, _, rfl, rfl, rfl, rfl, rfl, fun _ z => (by cases z)⟩ ?_ fun ps g z => by rw [range_len] at z; exact z
    rintro i w ps g e ⟨fs, s8, s9, rfl, g0, g1, g2, hl, hf⟩
    obtain ⟨hi, rfl⟩ := range_get e
    refine ⟨_, rfl, ?_⟩
    obtain ⟨n, hn⟩ : ∃ n, n = g.length := ⟨_, rfl⟩
    have l0 := (List.getElem?_eq_some_iff.mp g0).1
    have l1 := (List.getElem?_eq_some_iff.mp g1).1
    have l2 := (List.getElem?_eq_some_iff.mp g2).1
    obtain ⟨cs1, hcs1⟩ : ∃ cs1, cs1 = base.take sz := ⟨_, rfl⟩
    have tl : cs1.length = sz := by rw [hcs1, List.length_take]; omega
    refine seq_go (ps1 := [some (.ref 0), some (.int (m : Nat)), some (.str (S lowL)), some (.ref 1), some (.int (sz : Nat)), some (.int (at' : Nat)), some (.int fi), some (.ref 2), some (.int (0 + (i : Nat))), some (.ref n)]) (h1 := g ++ [.lst (cs1.map sgn)]) (fun K hK => ?_) ?_
    · simp only [to_asg, to_new, mIsTo (l := mNil), to_var]
      refine ⟨_, rfl, ?_⟩
      simp [mPart]
      rw [show lstOf (.ref 1) g = some (base.map sgn) by simp only [lstOf, g1], oto_some, cutTo (by omega), Int.toNat_natCast, ← List.map_take, ← hcs1]
      rw [← hn]
      simpa using hK
    obtain ⟨c, hc, hx⟩ := low_at (r := (fi + 7 * (i : Int)) % 26) (Int.emod_nonneg _ (by decide)) (Int.emod_lt_of_pos _ (by decide))
    obtain ⟨cs2, hcs2⟩ : ∃ cs2, cs2 = cs1.set at' c := ⟨_, rfl⟩
    have sl : cs2.length = sz := by rw [hcs2, List.length_set, tl]
    refine seq_go (ps1 := [some (.ref 0), some (.int (m : Nat)), some (.str (S lowL)), some (.ref 1), some (.int (sz : Nat)), some (.int (at' : Nat)), some (.int fi), some (.ref 2), some (.int (0 + (i : Nat))), some (.ref n)]) (h1 := g ++ [.lst (cs2.map sgn)]) (fun K hK => ?_) ?_
    · simp
      rw [hx, pto_some, setW_lst (xs := cs1.map sgn) (by rw [hn]; simp) (by omega) (by rw [List.length_map, tl]; omega), oto_some]
      have e1 : (g ++ [OB.lst (cs1.map sgn)]).set n (.lst ((cs1.map sgn).set ((at' : Int).toNat) (sgn c))) = g ++ [.lst (cs2.map sgn)] := by
        rw [hn, end_set, hcs2, List.map_set]
        rfl
      rw [e1]
      simpa using hK
    · have gn : (g ++ [OB.lst (cs2.map sgn)])[n]? = some (.lst (cs2.map sgn)) := by rw [hn]; simp
      have g2' : (g ++ [OB.lst (cs2.map sgn)])[2]? = some (.lst (fs.map strW)) := by rw [List.getElem?_append_left l2]; exact g2
      have ty := tyW_lst g2'
      have jn : wJoin (.str (S [])) [.ref n] (g ++ [OB.lst (cs2.map sgn)]) = some (strW cs2, g ++ [OB.lst (cs2.map sgn)]) := by
        have : wJoin (.str (S [])) [.ref n] (g ++ [OB.lst (cs2.map sgn)]) = wJoin (.str (S [])) [.fix (cs2.map sgn)] (g ++ [OB.lst (cs2.map sgn)]) := by simp only [wJoin, seqOf, gn]
        rw [this]
        exact join_signs (by omega)
      simp [ty]
      rw [empty, jn, pto_some, wAppend_lst g2', if_pos (by rw [List.length_map]; omega), pto_some]
      refine ⟨rfl, fs ++ [cs2], _, _, rfl, ?_, ?_, ?_, by simp [hl], fun f hf2 => ?_⟩
      · rw [List.getElem?_set_ne (by decide), List.getElem?_append_left l0]; exact g0
      · rw [List.getElem?_set_ne (by decide), List.getElem?_append_left l1]; exact g1
      · rw [List.getElem?_set_self (by rw [List.length_append]; omega)]
        simp
      · rcases List.mem_append.mp hf2 with h | h
        · exact hf f h
        · rw [List.mem_singleton.mp h]
          refine ⟨sl, fun d hd => ?_⟩
          rw [hcs2] at hd
          rcases List.mem_or_eq_of_mem_set hd with h | h
          · rw [hcs1] at h; exact hbc d (List.mem_of_mem_take h)
          · rw [h]; exact hc
  rintro ps g ⟨fs, s8, s9, rfl, g0, g1, g2, hl, hf⟩
  have out : Q (.ref 2) g := q _ _ ⟨o5, fs, g0, t5, by simp only [lstOf, g2], hl, fun f hf2 => nm_of (by have := (hf f hf2).1; omega) (by have := (hf f hf2).1; omega) (hf f hf2).2⟩
  have fasc : ∀ f ∈ fs, Asc f := fun f hf2 c hc => by
    have := (hf f hf2).2 c hc
    unfold lowC at this
    rw [Bool.and_eq_true] at this
    have := of_decide_eq_true this.2
    omega
  refine seq_op fun K hK => ?_
  have last : K [some (.ref 0), some (.int (m : Nat)), some (.str (S lowL)), some (.ref 1), some (.int (sz : Nat)), some (.int (at' : Nat)), some (.int fi), some (.ref 2), s8, s9] g := by
    refine hK _ _ ?_
    simp
    exact out
  clear hK
  have hit : iterOf big (.ref 2) g = some (itL 2 big) := by simp only [iterOf, g2]
  simp [wipeW]
  rw [hit, oto_some]
  refine lc_live (items := fs.map strW) (by rw [List.length_map]; unfold big; omega) (fun i acc h => acc = ((fs.take i).filter fun f => decide (f ∈ badN)).map strW ∧ h = g) (fun i acc h z => by rw [z.2]; exact g2) ⟨rfl, rfl⟩ ?_ ?_
  · rintro i w acc h ei ⟨rfl, rfl⟩
    rw [List.getElem?_map] at ei
    obtain ⟨a, ea, rfl⟩ := Option.map_eq_some_iff.mp ei
    refine ⟨_, rfl, ?_⟩
    have hlen : ((fs.take i).filter fun f => decide (f ∈ badN)).length ≤ fs.length := Nat.le_trans (List.length_filter_le _ _) (by rw [List.length_take]; omega)
    have bp : decide (a ∈ badN) = true → ((fs.take (i + 1)).filter fun f => decide (f ∈ badN)) = ((fs.take i).filter fun f => decide (f ∈ badN)) ++ [a] := fun c => by rw [take_filter' ea, if_pos c]
    have bn : decide (a ∈ badN) = false → ((fs.take (i + 1)).filter fun f => decide (f ∈ badN)) = ((fs.take i).filter fun f => decide (f ∈ badN)) := fun c => by rw [take_filter' ea, if_neg (by rw [c]; decide), List.append_nil]
    simp only [to_mB, to_op, to_var, to_tup, to_cons, to_nil, to_C]
    refine ⟨_, rfl, by decide, ?_⟩
    rw [in_bad, pto_some, bto_bl]
    refine .ofB (fun c => ?_) fun c => ?_
    · refine ⟨_, rfl, by rw [List.length_map]; omega, ?_, rfl⟩
      rw [bp c, List.map_append]
      rfl
    · exact ⟨by rw [bn c], rfl⟩
  · rintro acc h ⟨rfl, rfl⟩
    rw [List.length_map, List.take_length]
    have := ne_S0 (l := fs.filter fun f => decide (f ∈ badN)) (fun f hf2 => fasc f (List.mem_filter.mp hf2).1) (h := h)
    rw [show (fs.filter fun f => decide (f ∈ badN)).map strW = (fs.filter fun f => decide (f ∈ badN)).map fun a => W.str (S a) from rfl, this, pto_some, bto_bl, Ite_not]
    refine .of (fun _ => last) fun c => ?_
    have sz6 : sz ≤ 6 := by
      obtain ⟨f, r, e⟩ := List.exists_cons_of_ne_nil c
      have hm : f ∈ fs.filter fun f => decide (f ∈ badN) := by rw [e]; simp
      have h1 := bad_len (of_decide_eq_true (List.mem_filter.mp hm).2)
      have h2 := (hf f (List.mem_filter.mp hm).1).1
      omega
    rw [hit, oto_some]
    have ex : PySem.Str.ofString "x" = S [120] := by decide +kernel
    refine lc_live (items := fs.map strW) (by rw [List.length_map]; unfold big; omega) (fun i acc g => acc = (fs.take i).map (fun f => strW (f ++ [120])) ∧ g = h) (fun i acc g z => by rw [z.2]; exact g2) ⟨rfl, rfl⟩ ?_ ?_
    · rintro i w acc g ei ⟨rfl, rfl⟩
      rw [List.getElem?_map] at ei
      obtain ⟨a, ea, rfl⟩ := Option.map_eq_some_iff.mp ei
      have ha := hf a (List.mem_of_getElem? ea)
      refine ⟨_, rfl, ?_⟩
      rw [to_yes, Ite_true]
      have cat : wAdd (strW a) (.str (S [120])) g = some (strW (a ++ [120]), g) := by
        unfold strW
        simp only [wAdd]
        rw [S_len, S_len, if_pos (by simp; omega), S_cat]
      simp only [to_op, to_var, to_C]
      refine ⟨_, rfl, ?_⟩
      rw [ex, cat, pto_some]
      refine ⟨by rw [List.length_map, List.length_take]; omega, ?_, rfl⟩
      rw [List.take_succ, ea, List.map_append]
      rfl
    · rintro acc g ⟨rfl, rfl⟩
      rw [List.length_map, List.take_length]
      refine q _ _ ⟨o5, fs.map (· ++ [120]), g0, t5, ?_, by rw [List.length_map]; exact hl, fun f hf2 => ?_⟩
      · show some _ = some _
        rw [List.map_map]
        rfl
      · obtain ⟨a, ha, rfl⟩ := List.mem_map.mp hf2
        have := hf a ha
        refine nm_of (by simp) (by simp; omega) fun c hc => ?_
        rcases List.mem_append.mp hc with h | h
        · exact this.2 c h
        · rw [List.mem_singleton.mp h]; decide
end Mir

/-! law_k52: papers drawn -/
namespace Mir
open PySem PySem.Spec PyProof.Rows L2 SX
section
variable {B : Int} {o : OB} {g : PH} {Q : W → PH → Prop}
theorem pickL {l : List W} (t : IsTape B o) (hB : B < 1000000) (h0 : 0 < l.length) (h1 : l.length ≤ 1000) (q : ∀ w ∈ l, ∀ o2, IsTape (B + 1) o2 → Q w (o2 :: g)) : (f_Lpick S_take [.ref 0, .fix l] (o :: g)).To Q := by
  unfold f_Lpick
  rw [run_to, show startW 2 [W.ref 0, .fix l] = [some (.ref 0), some (.fix l)] from rfl]
  unfold b_Lpick
  simp [wLen_fix]
  refine take0 t hB (by omega) (by omega) fun r o2 r0 r1 t2 => ?_
  obtain ⟨w, ew, hw⟩ := at_ix (l := l) r0 r1
  have : wIx (.fix l) (.int r) (o2 :: g) = some (w, o2 :: g) := by
    show (atI l r).map _ = _
    rw [ew]
    rfl
  rw [this, pto_some]
  exact q w hw o2 t2
theorem pickS {a : List Nat} (t : IsTape B o) (hB : B < 1000000) (h0 : 0 < a.length) (h1 : a.length ≤ 1000) (q : ∀ c ∈ a, ∀ o2, IsTape (B + 1) o2 → Q (.str (S [c])) (o2 :: g)) : (f_Lpick S_take [.ref 0, .str (S a)] (o :: g)).To Q := by
  unfold f_Lpick
  rw [run_to, show startW 2 [W.ref 0, .str (S a)] = [some (.ref 0), some (.str (S a))] from rfl]
  unfold b_Lpick
  simp [wLen_S (a := a) (by omega)]
  refine take0 t hB (by omega) (by omega) fun r o2 r0 r1 t2 => ?_
  obtain ⟨c, hc, hx⟩ := sign_at (a := a) (by omega) r0 r1
  rw [hx, pto_some]
  exact q c hc o2 t2
end
theorem range0 {n i : Nat} {w : W} (e : (rangeW 0 n)[i]? = some w) : i < n ∧ w = .int (i : Nat) := by
  obtain ⟨h1, h2⟩ := range_get e
  exact ⟨h1, by rw [h2, Int.zero_add]⟩
def wordsX : List (List Nat) := [[114, 117, 110], [115, 101, 116], [110, 111, 110, 101], [112, 97, 112, 101, 114]]
theorem wordsX_is : [PySem.Str.ofString "run", PySem.Str.ofString "set", PySem.Str.ofString "none", PySem.Str.ofString "paper"] = wordsX.map S := by decide +kernel
def okPap (p : Pap) : Prop := okP p ∧ p.2.length ≤ 6 ∧ ∀ r ∈ p.2, r.length ≤ 5
def paI (B : Int) (ws : W) (k : Nat) (i : Nat) (ps : LS) (g : PH) : Prop := ∃ (o : OB) (t : PH) (fs : List Pap) (s3 s4 s5 s6 : Option W), g = o :: t ∧ ps = [some (.ref 0), some ws, some (.ref (k + 1)), s3, s4, s5, s6, none] ∧ t[k]? = some (.lst (fs.map outP)) ∧ IsTape (B + 100 * i) o ∧ fs.length = i ∧ ∀ p ∈ fs, okPap p
def paJ (B : Int) (ws : W) (k r : Nat) (I : W) (fs : List Pap) (j : Nat) (ps : LS) (g : PH) : Prop := ∃ (o : OB) (t : PH) (rs : List (List Int)) (s5 s6 : Option W), g = o :: t ∧ ps = [some (.ref 0), some ws, some (.ref (k + 1)), some I, some (.ref (r + 1)), s5, s6, none] ∧ t[k]? = some (.lst (fs.map outP)) ∧ t[r]? = some (.lst (rs.map rowE)) ∧ IsTape (B + 10 * j) o ∧ rs.length = j ∧ ∀ w ∈ rs, w.length ≤ 5 ∧ ∀ i ∈ w, -(10 ^ 15) < i ∧ i < 10 ^ 15
def paL (B : Int) (t : PH) (i : Nat) (acc : List W) (g : PH) : Prop := ∃ (o : OB) (l : List Int), g = o :: t ∧ acc = l.map W.int ∧ l.length = i ∧ IsTape (B + i) o ∧ ∀ i ∈ l, -(10 ^ 15) < i ∧ i < 10 ^ 15
def paIx (B : Int) (ws : W) (k : Nat) (ps : LS) (g : PH) : Prop := ∃ i, i ≤ 4 ∧ paI B ws k i ps g
def paJx (B : Int) (ws : W) (k r : Nat) (I : W) (fs : List Pap) (ps : LS) (g : PH) : Prop := ∃ j, j ≤ 6 ∧ paJ B ws k r I fs j ps g
def paMo (B : Int) (t : PH) (hd : LS) (ps : LS) (g : PH) : Prop := ∃ (o : OB) (mo : Int), g = o :: t ∧ ps = hd ++ [some (.int mo), none] ∧ 1 ≤ mo ∧ mo ≤ 10 ^ 15 ∧ IsTape B o
theorem papers_run {B : Int} {o : OB} (t : IsTape B o) (hB : B < 800000) : (f_Lpapers (f_Lnames S_take) S_take (f_Lpick S_take) [.ref 0] [o]).To fun w g => ∃ o2 g2, g = o2 :: g2 ∧ refsO o2 = [] ∧ refsW w = [] ∧ (∃ ps, w = .tup (ps.map outP) ∧ tinyP ps) ∧ IsTape (B + 1000) o2 := by
  unfold f_Lpapers
  rw [run_to, show startW 8 [W.ref 0] = [some (.ref 0), none, none, none, none, none, none, none] from rfl]
  unfold b_Lpapers
  refine seq_cut (fun ps g => ∃ (o : OB) (t : PH) (ws : List (List Nat)), g = o :: t ∧ ps = [some (.ref 0), some (.fix (ws.map strW)), none, none, none, none, none, none] ∧ IsTape (B + 11) o ∧ ws.length = 8 ∧ ∀ n ∈ ws, nmA n = true) ?_ ?_
  · simp only [to_asg, to_op, to_fn, to_var, to_cons, to_nil, to_C, to_fix, to_lst]
    refine ⟨_, rfl, rfl, ?_⟩
    refine names_to (m := 4) t (by omega) (by decide) fun w g z => ?_
    obtain ⟨o2, fs, g0, t2, hw, hl, hn⟩ := z
    cases g with
    | nil => cases g0
    | cons o3 g =>
      cases g0
      have e := wordsX_is
      simp only [List.cons.injEq, wordsX, List.map_cons, List.map_nil] at e
      obtain ⟨e1, e2, e3, e4, _⟩ := e
      rw [e1, e2, e3, e4]
      have add : wAdd w (.fix [.str (S [114, 117, 110]), .str (S [115, 101, 116]), .str (S [110, 111, 110, 101]), .str (S [112, 97, 112, 101, 114])]) (o2 :: g) = some (.fix ((fs ++ wordsX).map strW), o2 :: g) := by
        have hf : lstOf (.fix [.str (S [114, 117, 110]), .str (S [115, 101, 116]), .str (S [110, 111, 110, 101]), .str (S [112, 97, 112, 101, 114])]) (o2 :: g) = some (wordsX.map strW) := rfl
        cases w with
        | ref n =>
          simp only [wAdd, hw, hf]
          rw [if_pos (by rw [List.length_map, hl]; decide), List.map_append]
        | fix l =>
          simp only [wAdd, hw, hf]
          rw [if_pos (by rw [List.length_map, hl]; decide), List.map_append]
        | _ => cases hw
      rw [add, pto_some, gN_is, oto_some]
      refine ⟨by decide, o2, g, fs ++ wordsX, rfl, rfl, t2, by rw [List.length_append, hl]; rfl, fun n hn2 => ?_⟩
      rcases List.mem_append.mp hn2 with h | h
      · exact hn n h
      · simp only [wordsX, List.mem_cons, List.not_mem_nil, or_false] at h
        rcases h with rfl | rfl | rfl | rfl <;> decide
  rintro ps g ⟨o1, t1, ws, rfl, rfl, tp1, wl, wn⟩
  obtain ⟨k, hk⟩ : ∃ k, k = t1.length := ⟨_, rfl⟩
  obtain ⟨V, hV⟩ : ∃ V, V = W.fix (ws.map strW) := ⟨_, rfl⟩
  rw [← hV]
  refine seq_go (ps1 := [some (.ref 0), some V, some (.ref (k + 1)), none, none, none, none, none]) (h1 := o1 :: (t1 ++ [.lst []])) (fun K hK => by rw [hk] at hK; simp; exact hK) ?_
  refine seq_cut (paIx (B + 12) V k) ?_ ?_
  · rw [to_for]
    simp
    refine take0 tp1 (by omega) (by decide) (by decide) fun r o2 r0 r1 t2 => ?_
    obtain ⟨N, rfl⟩ : ∃ N : Nat, r = N := ⟨r.toNat, by omega⟩
    refine ⟨_, rfl, by omega, ?_⟩
    rw [Int.toNat_natCast]
    refine for_items (paI (B + 12) V k) ⟨o2, t1 ++ [.lst []], [], _, _, _, _, rfl, rfl, by rw [hk]; simp, t2.up (by omega), rfl, fun _ z => (by cases z)⟩ ?_ fun ps g z => ⟨_, by rw [range_len]; omega, z⟩
    rintro i w ps g e ⟨o3, t3, fs, s3, s4, s5, s6, rfl, rfl, hf, tp3, fl, ok⟩
    obtain ⟨hi, rfl⟩ := range0 e
    have hi4 : i < 4 := by omega
    refine ⟨_, rfl, ?_⟩
    obtain ⟨m, hm⟩ : ∃ m, m = t3.length := ⟨_, rfl⟩
    have kl := (List.getElem?_eq_some_iff.mp hf).1
    refine seq_go (ps1 := [some (.ref 0), some V, some (.ref (k + 1)), some (.int (i : Nat)), some (.ref (m + 1)), s5, s6, none]) (h1 := o3 :: (t3 ++ [.lst []])) (fun K hK => by rw [hm] at hK; simp at hK ⊢; exact hK) ?_
    refine seq_cut (paJx (B + 12 + 100 * i + 1) V k m (.int (i : Nat)) fs) ?_ ?_
    · rw [to_for]
      simp
      refine pickL tp3 (by omega) (by decide) (by decide) fun w hw o4 t4 => ?_
      have hw : ∃ N : Nat, N ≤ 6 ∧ w = .int (N : Nat) := by
        simp only [List.mem_cons, List.not_mem_nil, or_false] at hw
        rcases hw with rfl | rfl | rfl | rfl
        · exact ⟨0, by decide, rfl⟩
        · exact ⟨1, by decide, rfl⟩
        · exact ⟨2, by decide, rfl⟩
        · exact ⟨6, by decide, rfl⟩
      obtain ⟨N2, hN2, rfl⟩ := hw
      refine ⟨_, rfl, by omega, ?_⟩
      rw [Int.toNat_natCast]
      refine for_items (paJ (B + 12 + 100 * i + 1) V k m (.int (i : Nat)) fs) ⟨o4, t3 ++ [.lst []], [], _, _, rfl, rfl, by rw [List.getElem?_append_left kl]; exact hf, by rw [hm]; simp, t4.up (by omega), rfl, fun _ z => (by cases z)⟩ ?_ fun ps g z => ⟨_, by rw [range_len]; omega, z⟩
      rintro j w ps g e ⟨o5, t5, rs, s5, s6, rfl, rfl, hf5, hr5, tp5, rl, rok⟩
      obtain ⟨hj, rfl⟩ := range0 e
      refine ⟨_, rfl, ?_⟩
      have rl5 := (List.getElem?_eq_some_iff.mp hr5).1
      refine seq_cut (paMo (B + 12 + 100 * i + 1 + 10 * j + 1) t5 [some (.ref 0), some V, some (.ref (k + 1)), some (.int (i : Nat)), some (.ref (m + 1)), some (.int (j : Nat))]) ?_ ?_
      · have ep : ∀ g, wPow (.int 10) (.int 15) g = some (.int 1000000000000000, g) := fun g => rfl
        simp [ep]
        refine pickL tp5 (by omega) (by decide) (by decide) fun w hw o6 t6 => ?_
        simp only [List.mem_cons, List.not_mem_nil, or_false] at hw
        rcases hw with rfl | rfl | rfl
        · exact ⟨o6, 10, rfl, by simp, by decide, by decide, t6⟩
        · exact ⟨o6, 1000, rfl, by simp, by decide, by decide, t6⟩
        · exact ⟨o6, 1000000000000000, rfl, by simp, by decide, by decide, t6⟩
      rintro ps g ⟨o6, mo, rfl, rfl, m1, m2, tp6⟩
      have ty : ∀ o, tyW "list" (.ref (m + 1)) (o :: t5) = true := fun o => tyW_lst (show (o :: t5)[m + 1]? = _ from hr5)
      simp [ty, wipeW]
      refine take0 tp6 (by omega) (by decide) (by decide) fun r o7 r0 r1 tp7 => ?_
      obtain ⟨N3, rfl⟩ : ∃ N : Nat, r = N := ⟨r.toNat, by omega⟩
      refine ⟨_, rfl, by omega, ?_⟩
      rw [Int.toNat_natCast]
      refine lc_items (paL (B + 12 + 100 * i + 1 + 10 * j + 2) t5) ⟨o7, [], rfl, rfl, rfl, tp7.up (by omega), fun _ z => (by cases z)⟩ ?_ ?_
      · rintro x w acc g e ⟨o8, l, rfl, rfl, ll, tp8, lok⟩
        obtain ⟨hx, rfl⟩ := range0 e
        refine ⟨_, rfl, ?_⟩
        rw [to_yes, Ite_true]
        simp
        refine take0 tp8 (by omega) (by omega) (by omega) fun r o9 r0 r1 tp9 => ?_
        simp
        refine ⟨by omega, o9, l ++ [r - mo + 1], rfl, by simp, by simp [ll], tp9.up (by omega), fun z hz => ?_⟩
        rcases List.mem_append.mp hz with h | h
        · exact lok z h
        · rw [List.mem_singleton.mp h]; omega
      · rintro acc g ⟨o8, l, rfl, rfl, ll, tp8, lok⟩
        rw [range_len] at ll tp8
        rw [wAppend_lst (show (o8 :: t5)[m + 1]? = _ from hr5), if_pos (by rw [List.length_map]; omega), pto_some]
        refine ⟨o8, t5.set m (.lst (rs.map rowE ++ [.tup (l.map W.int)])), rs ++ [l], _, _, rfl, rfl, ?_, ?_, tp8.up (by omega), by simp [rl], fun w hw => ?_⟩
        · rw [List.getElem?_set_ne (by omega)]; exact hf5
        · rw [List.getElem?_set_self rl5, List.map_append]; rfl
        · rcases List.mem_append.mp hw with h | h
          · exact rok w h
          · rw [List.mem_singleton.mp h]; exact ⟨by omega, lok⟩
    · rintro ps g ⟨j, hj, o4, t4, rs, s5, s6, rfl, rfl, hf4, hr4, tp4, rl, rok⟩
      have kl4 := (List.getElem?_eq_some_iff.mp hf4).1
      have ty : ∀ o, tyW "list" (.ref (k + 1)) (o :: t4) = true := fun o => tyW_lst (show (o :: t4)[k + 1]? = _ from hf4)
      simp [ty]
      rw [hV]
      refine pickL tp4 (by omega) (by rw [List.length_map, wl]; decide) (by rw [List.length_map, wl]; decide) fun w hw o5 t5 => ?_
      obtain ⟨n, hn, rfl⟩ := List.mem_map.mp hw
      have sq : seqOf (.ref (m + 1)) (o5 :: t4) = some (rs.map rowE) := by simp only [seqOf, show (o5 :: t4)[m + 1]? = _ from hr4]
      rw [← hV]
      rw [sq, oto_some, wAppend_lst (show (o5 :: t4)[k + 1]? = _ from hf4), if_pos (by rw [List.length_map]; omega), pto_some]
      refine ⟨o5, t4.set k (.lst (fs.map outP ++ [outP (n, rs)])), fs ++ [(n, rs)], _, _, _, _, rfl, rfl, ?_, t5.up (by omega), by simp [fl], fun p hp => ?_⟩
      · rw [List.getElem?_set_self kl4]
        simp
      · rcases List.mem_append.mp hp with h | h
        · exact ok p h
        · rw [List.mem_singleton.mp h]
          exact ⟨⟨wn n hn, fun r hr => (rok r hr).2⟩, (by omega : rs.length ≤ 6), fun r hr => (rok r hr).1⟩
  rintro ps g ⟨i, hi, o3, t3, fs, s3, s4, s5, s6, rfl, rfl, hf, tp3, fl, ok⟩
  have sq : seqOf (.ref (k + 1)) (o3 :: t3) = some (fs.map outP) := by simp only [seqOf, show (o3 :: t3)[k + 1]? = _ from hf]
  have wt : ∀ g, wTupQ (fs.map outP) g = some (.tup (fs.map outP), g) := fun g => by
    simp only [wTupQ]
    try rw [if_pos (by rw [List.length_map]; omega)]
  simp [sq, wt]
  have refs : refsWs (fs.map outP) = [] := refs_map _ _ fun p _ => by
    have : refsWs (p.2.map rowE) = [] := refs_map _ _ fun r _ => by simp [rowE]
    simp [outP, this]
  exact ⟨tp3.refs, refs, ⟨fs, rfl, by omega, ok⟩, tp3.up (by omega)⟩
def S_papers : FM := lift1 (f_Lpapers (f_Lnames S_take) S_take (f_Lpick S_take))
theorem fits_Lpapers : Fits (f_Lpapers (f_Lnames S_take) S_take (f_Lpick S_take)) S_papers := fits_lift1 _
theorem papers_to {B : Int} {o : OB} {g : PH} (t : IsTape B o) (hB : B < 800000) {Q : W → PH → Prop} (q : ∀ ps o2, tinyP ps → IsTape (B + 1000) o2 → Q (.tup (ps.map outP)) (o2 :: g)) : (S_papers [.ref 0] (o :: g)).To Q :=
  lift1_to (n := 0) (P := fun w o2 => (∃ ps, w = .tup (ps.map outP) ∧ tinyP ps) ∧ IsTape (B + 1000) o2) rfl t.refs (by simp) ((papers_run t hB).mono fun w g z => by
    obtain ⟨o2, g2, rfl, z1, z2, z3, z4⟩ := z
    exact ⟨o2, g2, rfl, z1, z2, z3, z4⟩) fun w o2 z => by
      obtain ⟨⟨r, rfl, z1⟩, z3⟩ := z
      exact q r o2 z1 z3
end Mir

/-! law_k52: bent texts -/
namespace Mir
open PySem PySem.Spec PyProof.Rows L2 SX
@[simp] theorem to_par {m1 m2 : EM} {i j : Nat} {ps : LS} {h : PH} {N B C : LS → PH → Prop} {R : W → PH → Prop} : (sPar m1 m2 i j ps h).To N R B C = (m1 ps h).To fun x h1 => (m2 ps h1).To fun y h2 => N ((ps.set i (some x)).set j (some y)) h2 := by
  simp only [sPar, to_thenS, to_nx]
def someA : List (List Nat) := [[], [32], [112, 97, 112, 101, 114], [112, 97, 112, 101, 114, 32, 97], [112, 97, 112, 101, 114, 32, 97, 32, 98], [112, 97, 112, 101, 114, 32, 65], [112, 97, 112, 101, 114, 32, 97, 98, 99, 100, 101, 102, 103, 104, 105], [110, 111, 110, 101], [110, 111, 110, 101, 32, 110, 111, 110, 101], [48, 32, 45, 48], [48, 49]]
def someB : List (List Nat) := [[53, 32, 110, 111, 110, 101], [49, 50, 51, 52, 53, 54, 55, 56, 57, 48, 49, 50, 51, 52, 53, 54], [45, 49, 50, 51, 52, 53, 54, 55, 56, 57, 48, 49, 50, 51, 52, 53], [43, 49], [49, 46, 48], [45, 32, 49], [112, 97, 112, 101, 114, 32, 97, 49], [80, 97, 112, 101, 114, 32, 97], [53]]
theorem someA_is : [PySem.Str.ofString "", PySem.Str.ofString " ", PySem.Str.ofString "paper", PySem.Str.ofString "paper a", PySem.Str.ofString "paper a b", PySem.Str.ofString "paper A", PySem.Str.ofString "paper abcdefghi", PySem.Str.ofString "none", PySem.Str.ofString "none none", PySem.Str.ofString "0 -0", PySem.Str.ofString "01"] = someA.map S := by decide +kernel
theorem someB_is : [PySem.Str.ofString "5 none", PySem.Str.ofString "1234567890123456", PySem.Str.ofString "-123456789012345", PySem.Str.ofString "+1", PySem.Str.ofString "1.0", PySem.Str.ofString "- 1", PySem.Str.ofString "paper a1", PySem.Str.ofString "Paper a", PySem.Str.ofString "5"] = someB.map S := by decide +kernel
theorem someA_w : [W.str (PySem.Str.ofString ""), W.str (PySem.Str.ofString " "), W.str (PySem.Str.ofString "paper"), W.str (PySem.Str.ofString "paper a"), W.str (PySem.Str.ofString "paper a b"), W.str (PySem.Str.ofString "paper A"), W.str (PySem.Str.ofString "paper abcdefghi"), W.str (PySem.Str.ofString "none"), W.str (PySem.Str.ofString "none none"), W.str (PySem.Str.ofString "0 -0"), W.str (PySem.Str.ofString "01")] = someA.map strW := by
  have := congrArg (List.map W.str) someA_is
  rw [List.map_map] at this
  exact this
theorem someB_w : [W.str (PySem.Str.ofString "5 none"), W.str (PySem.Str.ofString "1234567890123456"), W.str (PySem.Str.ofString "-123456789012345"), W.str (PySem.Str.ofString "+1"), W.str (PySem.Str.ofString "1.0"), W.str (PySem.Str.ofString "- 1"), W.str (PySem.Str.ofString "paper a1"), W.str (PySem.Str.ofString "Paper a"), W.str (PySem.Str.ofString "5")] = someB.map strW := by
  have := congrArg (List.map W.str) someB_is
  rw [List.map_map] at this
  exact this
def signsA : List Nat := [32, 45, 48, 49, 53, 57, 97, 101, 112, 110, 111, 114, 65, 10, 46]
theorem signs_is : PySem.Str.ofString " -0159aepnorA\n." = S signsA := by decide +kernel
theorem addF {a b : List (List Nat)} {h : PH} (hl : a.length + b.length ≤ 10000) : wAdd (.fix (a.map strW)) (.fix (b.map strW)) h = some (.fix ((a ++ b).map strW), h) := by
  simp only [wAdd, lstOf]
  rw [if_pos (by rw [List.length_map, List.length_map]; omega), List.map_append]
def fineL (l : List (List Nat)) : Prop := l.length ≤ 60 ∧ ∀ r ∈ l, Asc r ∧ r.length ≤ 90
theorem fine_join {l : List (List Nat)} (f : fineL l) {h : PH} : wJoin (.str (S [10])) [.fix (l.map strW)] h = some (strW (TL.joinL [10] l), h) ∧ Asc (TL.joinL [10] l) ∧ (TL.joinL [10] l).length ≤ 6000 := by
  have h1 := flat_le2 (b := 90) (l := l) fun p hp => (f.2 p hp).2
  have h2 := joinL_len (a := [10]) l
  have h3 := f.1
  rw [List.length_cons, List.length_nil] at h2
  exact ⟨joinW (by rw [List.length_cons, List.length_nil]; omega), join_asc fun row hr => (f.2 row hr).1, by omega⟩
theorem someA_fine : ∀ r ∈ someA ++ someB, Asc r ∧ r.length ≤ 90 := by
  have : (someA ++ someB).all (fun r => r.all (fun c => decide (c < 128)) && decide (r.length ≤ 90)) = true := by decide +kernel
  intro r hr
  have := List.all_eq_true.mp this r hr
  rw [Bool.and_eq_true] at this
  exact ⟨fun c hc => of_decide_eq_true (List.all_eq_true.mp this.1 c hc), of_decide_eq_true this.2⟩
theorem signs_asc : Asc signsA := by
  have : signsA.all (fun c => decide (c < 128)) = true := by decide
  exact fun c hc => of_decide_eq_true (List.all_eq_true.mp this c hc)
section
variable {B : Int} {o : OB} {t : PH} {k : Nat} {rs : List (List Nat)} {Q : W → PH → Prop}
theorem bent_to (tp : IsTape B o) (hB : B < 900000) (hk : t[k]? = some (.lst (rs.map strW))) (hl : rs.length ≤ 28) (hr : ∀ r ∈ rs, Asc r ∧ r.length ≤ 90) (q : ∀ b o2, Asc b → b.length ≤ 9000 → IsTape (B + 10) o2 → Q (strW b) (o2 :: t)) : (f_Lbent_text S_take (f_Lpick S_take) [.ref 0, .ref (k + 1)] (o :: t)).To Q := by
  have out : ∀ l o2, fineL l → IsTape (B + 10) o2 → PTo (wJoin (.str (S [10])) [.fix (l.map strW)] (o2 :: t)) Q := fun l o2 f t2 => by
    obtain ⟨h1, h2, h3⟩ := fine_join f (h := o2 :: t)
    rw [h1, pto_some]
    exact q _ _ h2 (by omega) t2
  unfold f_Lbent_text
  rw [run_to, show startW 10 [W.ref 0, .ref (k + 1)] = [some (.ref 0), some (.ref (k + 1)), none, none, none, none, none, none, none, none] from rfl]
  unfold b_Lbent_text
  refine seq_go (ps1 := [some (.ref 0), some (.ref (k + 1)), some (.fix (someA.map strW)), none, none, none, none, none, none, none]) (h1 := o :: t) (fun K hK => ?_) ?_
  · simp only [to_asg, to_fix, to_lst, to_cons, to_nil, to_C, gN_is, oto_some]
    rw [someA_w]
    exact ⟨by decide, hK⟩
  refine seq_go (ps1 := [some (.ref 0), some (.ref (k + 1)), some (.fix ((someA ++ someB).map strW)), none, none, none, none, none, none, none]) (h1 := o :: t) (fun K hK => ?_) ?_
  · simp only [to_asg, to_op, to_var, to_fix, to_lst, to_cons, to_nil, to_C]
    refine ⟨_, rfl, by decide, ?_⟩
    rw [someB_w, addF (by decide), pto_some, gN_is, oto_some]
    exact hK
  obtain ⟨V, hV⟩ : ∃ V, V = W.fix ((someA ++ someB).map strW) := ⟨_, rfl⟩
  rw [← hV]
  have hk1 : ∀ o, (o :: t)[k + 1]? = some (.lst (rs.map strW)) := fun _ => hk
  refine seq_op fun K hK => ?_
  simp [wLen_lst (hk1 o)]
  refine take0 tp (by omega) (by omega) (by omega) fun a o1 a0 a1 t1 => hK _ _ ?_
  clear hK K
  obtain ⟨a, rfl⟩ : ∃ n : Nat, a = n := ⟨a.toNat, by omega⟩
  refine seq_op fun K hK => ?_
  simp
  refine take0 t1 (by omega) (by decide) (by decide) fun w o2 w0 w1 t2 => hK _ _ ?_
  clear hK K
  have mem1 : ∀ r ∈ rs.take a, Asc r ∧ r.length ≤ 90 := fun r hm => hr r (List.mem_of_mem_take hm)
  have mem2 : ∀ r ∈ rs.drop a, Asc r ∧ r.length ≤ 90 := fun r hm => hr r (List.mem_of_mem_drop hm)
  have len1 : (rs.take a).length ≤ 28 := by rw [List.length_take]; omega
  have len2 : (rs.drop a).length ≤ 28 := by rw [List.length_drop]; omega
  obtain ⟨hd, hhd⟩ : ∃ hd, hd = rs.take a := ⟨_, rfl⟩
  obtain ⟨tl, htl⟩ : ∃ tl, tl = rs.drop a := ⟨_, rfl⟩
  have sl1 : wSl (.ref (k + 1)) none (some (a : Nat)) (o2 :: t) = some (.fix (hd.map strW), o2 :: t) := by
    simp only [wSl, hk1]
    rw [cutTo (by omega), Int.toNat_natCast, hhd, List.map_take]
  have sl2 : wSl (.ref (k + 1)) (some (a : Nat)) none (o2 :: t) = some (.fix (tl.map strW), o2 :: t) := by
    simp only [wSl, hk1]
    rw [cutFrom (by omega), Int.toNat_natCast, htl, List.map_drop]
  rw [← hhd] at mem1 len1
  rw [← htl] at mem2 len2
  have fx1 : ∀ (l : List (List Nat)) (n : Int), 0 ≤ n → wSl (.fix (l.map strW)) none (some n) (o2 :: t) = some (.fix ((l.take n.toNat).map strW), o2 :: t) := fun l n h0 => by
    simp only [wSl]
    rw [cutTo h0, List.map_take]
  have fx2 : ∀ (l : List (List Nat)) (n : Int), 0 ≤ n → wSl (.fix (l.map strW)) (some n) none (o2 :: t) = some (.fix ((l.drop n.toNat).map strW), o2 :: t) := fun l n h0 => by
    simp only [wSl]
    rw [cutFrom h0, List.map_drop]
  refine seq_go (ps1 := [some (.ref 0), some (.ref (k + 1)), some V, some (.int (a : Nat)), some (.int w), some (.fix (hd.map strW)), some (.fix (tl.map strW)), none, none, none]) (h1 := o2 :: t) (fun K hK => ?_) ?_
  · simp [sl1, sl2]
    simpa using hK
  have nl : PySem.Str.ofString "\n" = S [10] := newline
  have ty : ∀ g, tyW "str" (.str (S [10])) g = true := fun _ => rfl
  refine seq_op fun K hK => ?_
  simp only [to_sif, to_mB, to_op, to_var, to_C]
  refine ⟨_, rfl, ?_⟩
  rw [wEq_int, pto_some, bto_bl]
  refine .of (fun _ => ?_) fun _ => ?_
  · simp only [to_ret, to_mt, to_C, to_cons, to_nil, to_op, to_var, to_fix, to_lst, to_fn]
    rw [nl]
    refine ⟨ty _, _, rfl, _, rfl, _, rfl, rfl, ?_⟩
    rw [hV]
    refine pickL t2 (by omega) (by decide) (by decide) fun x hx o3 t3 => ?_
    obtain ⟨r, hr2, rfl⟩ := List.mem_map.mp hx
    refine ⟨by simp, ?_⟩
    rw [show W.fix [strW r] = W.fix ([r].map strW) from rfl, addF (by rw [List.length_cons, List.length_nil]; omega), pto_some]
    refine ⟨_, rfl, ?_⟩
    rw [addF (by rw [List.length_append, List.length_cons, List.length_nil]; omega), pto_some]
    refine out _ _ ⟨by rw [List.length_append, List.length_append, List.length_cons, List.length_nil]; omega, fun r2 h2 => ?_⟩ (t3.up (by omega))
    rcases List.mem_append.mp h2 with h | h
    · rcases List.mem_append.mp h with h | h
      · exact mem1 _ h
      · rw [List.mem_singleton.mp h]; exact someA_fine r hr2
    · exact mem2 _ h
  rw [to_next]
  refine hK _ _ ?_
  clear hK K
  refine seq_op fun K hK => ?_
  simp only [to_sif, to_mB, to_op, to_var, to_C]
  refine ⟨_, rfl, ?_⟩
  rw [wEq_int, pto_some, bto_bl]
  refine .of (fun _ => ?_) fun _ => ?_
  · simp only [to_ret, to_mt, to_C, to_cons, to_nil, to_op, to_var, to_sl, to_part0, to_part1]
    rw [nl]
    refine ⟨ty _, _, rfl, _, rfl, _, rfl, ?_⟩
    rw [fx2 _ _ (by decide), pto_some, addF (by rw [List.length_drop]; omega), pto_some]
    refine out _ _ ⟨by rw [List.length_append, List.length_drop]; omega, fun r2 h2 => ?_⟩ (t2.up (by omega))
    rcases List.mem_append.mp h2 with h | h
    · exact mem1 _ h
    · exact mem2 _ (List.mem_of_mem_drop h)
  rw [to_next]
  refine hK _ _ ?_
  clear hK K
  refine seq_op fun K hK => ?_
  simp only [to_sif, to_mB, to_op, to_var, to_C]
  refine ⟨_, rfl, ?_⟩
  rw [wEq_int, pto_some, bto_bl]
  refine .of (fun _ => ?_) fun _ => ?_
  · simp only [to_ret, to_mt, to_C, to_cons, to_nil, to_op, to_var, to_sl, to_part0, to_part1]
    rw [nl]
    refine ⟨ty _, _, rfl, _, rfl, _, rfl, ?_⟩
    rw [fx1 _ _ (by decide), pto_some, addF (by rw [List.length_take]; omega), pto_some]
    refine ⟨_, rfl, ?_⟩
    have l1 : (tl.take (1 : Int).toNat).length ≤ 1 := by rw [List.length_take]; exact Nat.min_le_left _ _
    rw [addF (by rw [List.length_append]; omega), pto_some]
    refine out _ _ ⟨by rw [List.length_append, List.length_append]; omega, fun r2 h2 => ?_⟩ (t2.up (by omega))
    rcases List.mem_append.mp h2 with h | h
    · rcases List.mem_append.mp h with h | h
      · exact mem1 _ h
      · exact mem2 _ (List.mem_of_mem_take h)
    · exact mem2 _ h
  rw [to_next]
  refine hK _ _ ?_
  clear hK K
  refine seq_op fun K hK => ?_
  simp only [to_sif, to_mB, to_op, to_var, to_C]
  refine ⟨_, rfl, ?_⟩
  rw [wEq_int, pto_some, bto_bl]
  refine .of (fun _ => ?_) fun c3 => ?_
  · simp only [to_ret, to_mt, to_C, to_cons, to_nil, to_op, to_un, to_var, to_sl, to_part0, to_part1]
    rw [nl]
    refine ⟨ty _, _, rfl, _, rfl, _, rfl, ?_⟩
    have l1 : (tl.take (2 : Int).toNat).length ≤ 2 := by rw [List.length_take]; exact Nat.min_le_left _ _
    rw [fx1 _ _ (by decide), pto_some, show wRev (.fix ((tl.take (2 : Int).toNat).map strW)) (o2 :: t) = some (.fix ((tl.take (2 : Int).toNat).reverse.map strW), o2 :: t) by simp only [wRev]; rw [List.map_reverse], pto_some, addF (by rw [List.length_reverse]; omega), pto_some]
    refine ⟨_, rfl, _, rfl, ?_⟩
    rw [fx2 _ _ (by decide), pto_some, addF (by rw [List.length_append, List.length_reverse, List.length_drop]; omega), pto_some]
    refine out _ _ ⟨by rw [List.length_append, List.length_append, List.length_reverse, List.length_drop]; omega, fun r2 h2 => ?_⟩ (t2.up (by omega))
    rcases List.mem_append.mp h2 with h | h
    · rcases List.mem_append.mp h with h | h
      · exact mem1 _ h
      · exact mem2 _ (List.mem_of_mem_take (List.mem_reverse.mp h))
    · exact mem2 _ (List.mem_of_mem_drop h)
  rw [to_next]
  refine hK _ _ ?_
  clear hK K
  have frs : fineL rs := ⟨by omega, hr⟩
  obtain ⟨x, hx⟩ : ∃ x, x = TL.joinL [10] rs := ⟨_, rfl⟩
  obtain ⟨j1, j2, j3⟩ := fine_join frs (h := o2 :: t)
  rw [← hx] at j1 j2 j3
  refine seq_go (ps1 := [some (.ref 0), some (.ref (k + 1)), some V, some (.int (a : Nat)), some (.int w), some (.fix (hd.map strW)), some (.fix (tl.map strW)), some (.str (S x)), none, none]) (h1 := o2 :: t) (fun K hK => ?_) ?_
  · simp only [to_asg, to_mt, to_C, to_cons, to_nil, to_var]
    rw [nl]
    refine ⟨ty _, _, rfl, ?_⟩
    have : wJoin (.str (S [10])) [.ref (k + 1)] (o2 :: t) = wJoin (.str (S [10])) [.fix (rs.map strW)] (o2 :: t) := by simp only [wJoin, seqOf, hk1]
    rw [this, j1, pto_some, gN_is, oto_some]
    exact hK
  refine seq_op fun K hK => ?_
  simp [wLen_S (a := x) (by omega)]
  refine take0 t2 (by omega) (by omega) (by omega) fun s o3 s0 s1 t3 => hK _ _ ?_
  clear hK K
  refine seq_op fun K hK => ?_
  rw [signs_is]
  simp
  refine pickS t3 (by omega) (by decide) (by decide) fun c hc o4 t4 => hK _ _ ?_
  clear hK K
  have w4 : 0 ≤ s + w - 4 := by
    have : w ≠ 3 := c3
    have : 4 ≤ w := by omega
    omega
  simp [wSl_to (a := x) (by omega) s0, wSl_from (a := x) (by omega) w4]
  rw [S_cat, S_cat]
  refine ⟨by rw [S_len, S_len, List.length_take, List.length_cons, List.length_nil]; omega, by rw [S_len, S_len, List.length_append, List.length_take, List.length_drop, List.length_cons, List.length_nil]; omega, ?_⟩
  refine q _ _ (asc_app (asc_app (asc_take j2 _) fun d hd => ?_) (asc_drop j2 _)) ?_ (t4.up (by omega))
  · rw [List.mem_singleton.mp hd]; exact signs_asc c hc
  · rw [List.length_append, List.length_append, List.length_take, List.length_drop, List.length_cons, List.length_nil]
    omega
end
end Mir

/-! law_k52: what is read can be shown -/
namespace Mir
open PySem PySem.Spec PyProof.Rows L2 SX
theorem dv_lt : ∀ (n : Nat) (cs : List Nat), cs.length = n → NumText.AllDigits cs → NumText.digitsVal cs < 10 ^ n
  | 0, cs, hl, _ => by
    have : cs = [] := List.length_eq_zero_iff.mp hl
    subst this
    decide
  | n + 1, cs, hl, h => by
    have hne : cs ≠ [] := fun z => by rw [z] at hl; simp at hl
    obtain ⟨c, hc⟩ : ∃ c, c = cs.getLast hne := ⟨_, rfl⟩
    have e := (List.dropLast_concat_getLast hne).symm
    rw [← hc] at e
    have l2 : cs.dropLast.length = n := by rw [List.length_dropLast]; omega
    have ih := dv_lt n cs.dropLast l2 fun d hd => h d (List.dropLast_subset cs hd)
    have h9 := h c (by rw [hc]; exact List.getLast_mem hne)
    rw [e, NumText.digitsVal_snoc, Nat.pow_succ]
    omega
theorem numA_lt {a : List Nat} {i : Int} (h : numA a = some i) : i.natAbs < 1000000000000000 := by
  unfold numA at h
  split at h
  · rename_i c
    obtain ⟨h1, h2, h3⟩ := c
    split at h
    · cases h
    · have h := Option.some.inj h
      have ad : NumText.AllDigits (figs a) := fun c hc => by
        have := List.all_eq_true.mp h3 c hc
        unfold figC at this
        simpa using this
      have d1 := dv_lt _ _ rfl ad
      have d2 : 10 ^ (figs a).length ≤ 10 ^ 15 := Nat.pow_le_pow_right (by decide) h2
      subst h
      unfold numV
      split <;> omega
  · cases h
theorem wF_len : ∀ (l w : List Nat), (wF w l).length ≤ w.length + l.length
  | [], w => by
    rw [wF_nil]
    cases w <;> simp [full]
  | c :: r, w => by
    by_cases h : c = 32
    · subst h
      rw [wF_hit, List.length_append]
      have h1 := wF_len r []
      have h2 : ([w].filter full).length ≤ w.length := by cases w <;> simp [full]
      simp at h1 ⊢
      omega
    · have e : wF w (c :: r) = wF (w ++ [c]) r := by
        unfold wF
        rw [TL.spl_miss (by rw [pre_c]; exact decide_eq_false h)]
      have := wF_len r (w ++ [c])
      rw [e]
      simp at this ⊢
      omega
theorem words_le (a : List Nat) : (wordsA a).length ≤ a.length := by
  have := wF_len a []
  rw [List.length_nil, Nat.zero_add] at this
  exact this
theorem spl10_flat : ∀ (l w : List Nat), (TL.spl [10] 0 w l).flatten.length ≤ w.length + l.length
  | [], w => by rw [TL.spl_nil]; simp
  | c :: r, w => by
    by_cases h : c = 10
    · subst h
      rw [TL.spl_hit (by rw [preG]; rfl)]
      have := spl10_flat r []
      simp at this ⊢
      omega
    · rw [TL.spl_miss (by rw [preG]; exact decide_eq_false h)]
      have := spl10_flat r (w ++ [c])
      simp at this ⊢
      omega
theorem rows_flat (t : List Nat) : (rowsT t).flatten.length ≤ t.length := by
  unfold rowsT
  split
  · simp
  · have := spl10_flat t []
    simpa using this
theorem wVs_app (a b : List W) : wVs (a ++ b) = wVs a + wVs b := by
  induction a with
  | nil => simp
  | cons x a ih => simp only [List.cons_append, wVs_cons, ih]; omega
theorem wV_row (r : List Int) : wV (rowE r) = 51 * r.length := by
  unfold rowE
  rw [wV_tup]
  induction r with
  | nil => rfl
  | cons i r ih => simp only [List.map_cons, wVs_cons, wV_int, ih, List.length_cons]; omega
def wPs (F : List Pap) : Nat := wVs (F.map outP)
theorem wPs_snoc (F : List Pap) (p : Pap) : wPs (F ++ [p]) = wPs F + wV (outP p) + 1 := by
  unfold wPs
  rw [List.map_append, wVs_app]
  simp
  omega
theorem wV_outP (n : List Nat) (rs : List (List Int)) : wV (outP (n, rs)) = n.length + 2 + wVs (rs.map rowE) := by
  unfold outP
  simp
  show n.length + 1 + (wVs (rs.map rowE) + 1) = _
  omega
def goodF (F : List Pap) : Prop := ∀ p ∈ F, Asc p.1 ∧ ∀ r ∈ p.2, ∀ i ∈ r, i.natAbs < 1000000000000000
theorem rowIn_good {ws : List (List Nat)} {r : List Int} (h : rowIn ws = some r) : (∀ i ∈ r, i.natAbs < 1000000000000000) ∧ r.length ≤ ws.length ∧ 1 ≤ ws.length := by
  unfold rowIn at h
  split at h
  · rename_i c
    have h := Option.some.inj h
    subst h
    rw [c]
    exact ⟨fun _ z => (by cases z), by simp, by simp⟩
  · split at h
    · cases h
    · rename_i c
      have h := Option.some.inj h
      subst h
      refine ⟨fun i hi => ?_, by rw [List.length_map]; exact Nat.le_refl _, List.length_pos_iff.mpr fun z => c (.inl z)⟩
      obtain ⟨p, hp, rfl⟩ := List.mem_map.mp hi
      cases e : numA p with
      | none => exact absurd (.inr (List.any_eq_true.mpr ⟨_, List.mem_map.mpr ⟨p, hp, rfl⟩, by rw [e]; rfl⟩)) c
      | some i => exact numA_lt e
theorem step_good {F F' : List Pap} {row : List Nat} (h : rowStep F row = some F') (g : goodF F) : goodF F' ∧ wPs F' ≤ wPs F + 53 * row.length := by
  have hw := words_le row
  unfold rowStep at h
  by_cases c : (wordsA row).length = 2 ∧ (wordsA row).head? = some paperC ∧ nmA ((wordsA row).getD 1 []) = true
  · rw [if_pos c] at h
    have h := Option.some.inj h
    subst h
    refine ⟨fun p hp => ?_, ?_⟩
    · rcases List.mem_append.mp hp with z | z
      · exact g p z
      · rw [List.mem_singleton.mp z]
        exact ⟨nm_asc c.2.2, fun _ z => (by cases z)⟩
    · rw [wPs_snoc, wV_outP]
      have n8 : ((wordsA row).getD 1 []).length ≤ 8 := by
        have := c.2.2
        unfold nmA at this
        rw [Bool.and_eq_true, Bool.and_eq_true] at this
        exact of_decide_eq_true this.2.1
      simp only [List.map_nil, wVs_nil]
      omega
  · rw [if_neg c] at h
    cases er : rowIn (wordsA row) with
    | none => rw [er] at h; cases h
    | some r =>
      rw [er] at h
      have h : (if F = [] then none else some (addLast F r)) = some F' := h
      by_cases c2 : F = []
      · rw [if_pos c2] at h; cases h
      rw [if_neg c2] at h
      have h := Option.some.inj h
      subst h
      obtain ⟨r1, r2, r3⟩ := rowIn_good er
      have e1 := (List.dropLast_concat_getLast c2).symm
      obtain ⟨n, rws, e2⟩ : ∃ n rws, F.getLast c2 = (n, rws) := ⟨_, _, rfl⟩
      rw [e2] at e1
      obtain ⟨D, hD⟩ : ∃ D, D = F.dropLast := ⟨_, rfl⟩
      rw [← hD] at e1
      rw [e1] at g ⊢
      rw [addLast_snoc]
      refine ⟨fun p hp => ?_, ?_⟩
      · rcases List.mem_append.mp hp with z | z
        · exact g p (List.mem_append_left _ z)
        · rw [List.mem_singleton.mp z]
          have := g (n, rws) (List.mem_append_right _ (List.mem_singleton.mpr rfl))
          refine ⟨this.1, fun r' hr' => ?_⟩
          rcases List.mem_append.mp hr' with z | z
          · exact this.2 r' z
          · rw [List.mem_singleton.mp z]; exact r1
      · rw [wPs_snoc, wPs_snoc, wV_outP, wV_outP, List.map_append, wVs_app]
        simp only [List.map_cons, List.map_nil, wVs_cons, wVs_nil, wV_row]
        omega
theorem read_good : ∀ (rows : List (List Nat)) (k : Nat) (F F' : List Pap), readP rows k F = .inr F' → goodF F → goodF F' ∧ wPs F' ≤ wPs F + 53 * rows.flatten.length
  | [], k, F, F', h, g => by
    have : F = F' := Sum.inr.inj h
    subst this
    exact ⟨g, by omega⟩
  | row :: rest, k, F, F', h, g => by
    cases es : rowStep F row with
    | none =>
      have : readP (row :: rest) k F = .inl (k + 1) := by
        show (match rowStep F row with | none => Sum.inl (k + 1) | some F' => readP rest (k + 1) F') = _
        rw [es]
      rw [this] at h
      cases h
    | some F1 =>
      rw [read_cons es] at h
      obtain ⟨g1, w1⟩ := step_good es g
      obtain ⟨g2, w2⟩ := read_good rest _ _ _ h g1
      refine ⟨g2, ?_⟩
      rw [List.flatten_cons, List.length_append]
      omega
theorem pap_pl {F : List Pap} (g : ∀ p ∈ F, Asc p.1) : plW 4 (.tup (F.map outP)) = true := by
  rw [pl_tup]
  refine pls_map _ _ fun p hp => ?_
  have h1 : plWs 1 (p.2.map rowE) = true := pls_map _ _ fun r _ => by
    unfold rowE
    rw [pl_tup]
    exact pls_ints _
  simp [outP, h1, sOk (g p hp)]
theorem pap_repr {t : List Nat} {F : List Pap} (hl : t.length ≤ 9000) (h : readP (rowsT t) 0 [] = .inr F) : ∃ s : Str, ∀ g, wRepr [.tup (F.map outP)] g = some (.str s, g) := by
  obtain ⟨g, w⟩ := read_good _ _ _ _ h fun _ z => (by cases z)
  have f := rows_flat t
  refine ⟨(dT (.tup (F.map outP))).shown, fun g' => repr_tupV (n := 4) (pap_pl fun p hp => (g p hp).1) (by decide) ?_ ?_⟩
  · rw [smV_tup]
    refine smVs_map _ _ fun p hp => ?_
    obtain ⟨a, b⟩ := g p hp
    have h1 : smVs (p.2.map rowE) = true := smVs_map _ _ fun r hr => by
      unfold rowE
      rw [smV_tup]
      exact smVs_map _ _ fun i hi => by rw [smV_int]; exact decide_eq_true (b r hr i hi)
    have h2 : ((S p.1).cps.toList.all fun c => decide (c < 16 ^ 8)) = true := List.all_eq_true.mpr fun c hc => decide_eq_true (by have := a c hc; omega)
    simp only [outP, smV_tup, smVs_cons, smVs_nil, smV_str, h1, h2, Bool.and_self]
  · rw [wV_tup]
    have : wPs ([] : List Pap) = 0 := rfl
    unfold wPs at w this
    omega
end Mir

/-! law_k52: read rightly -/
namespace Mir
open PySem PySem.Spec PyProof.Rows L2 SX
def S_pin : FM := fun ws h => match ws with
  | .ref n :: r => lift1 F_pin (.ref n :: r) h
  | ws => lift0 F_pin ws h
theorem fits_at {F S1 S2 : FM} {ws : List W} {h : PH} (e : S2 ws h = S1 ws h) (f : S1 ws h = .stuck ∨ ∃ ρ ws' h', PartF F S1 ws h ρ ws' h') : S2 ws h = .stuck ∨ ∃ ρ ws' h', PartF F S2 ws h ρ ws' h' := by
  rcases f with f | ⟨ρ, ws', h', p⟩
  · exact .inl (e.trans f)
  · exact .inr ⟨ρ, ws', h', p.nd, p.lt, p.len, p.obj, p.args, by rw [e]; exact p.out⟩
theorem fits_papers_in : Fits F_pin S_pin := fun ws h => by
  match ws with
  | .ref n :: r => exact fits_at (S1 := lift1 F_pin) rfl (fits_lift1 F_pin (.ref n :: r) h)
  | [] => exact fits_at (S1 := lift0 F_pin) rfl (fits_lift0 F_pin [] h)
  | .non :: r => exact fits_at (S1 := lift0 F_pin) rfl (fits_lift0 F_pin (.non :: r) h)
  | .bl b :: r => exact fits_at (S1 := lift0 F_pin) rfl (fits_lift0 F_pin (.bl b :: r) h)
  | .int b :: r => exact fits_at (S1 := lift0 F_pin) rfl (fits_lift0 F_pin (.int b :: r) h)
  | .str b :: r => exact fits_at (S1 := lift0 F_pin) rfl (fits_lift0 F_pin (.str b :: r) h)
  | .tup b :: r => exact fits_at (S1 := lift0 F_pin) rfl (fits_lift0 F_pin (.tup b :: r) h)
  | .fix b :: r => exact fits_at (S1 := lift0 F_pin) rfl (fits_lift0 F_pin (.fix b :: r) h)
  | .exc b :: r => exact fits_at (S1 := lift0 F_pin) rfl (fits_lift0 F_pin (.exc b :: r) h)
theorem refs_outP (F : List Pap) : refsWs (F.map outP) = [] := refs_map _ _ fun p _ => by
  have : refsWs (p.2.map rowE) = [] := refs_map _ _ fun r _ => by simp [rowE]
  simp [outP, this]
section
variable {t : List Nat} {h : PH}
theorem pinS_ok {F : List Pap} (ht : Asc t) (hl : t.length ≤ 9000) (hr : readP (rowsT t) 0 [] = .inr F) {Q : W → PH → Prop} (q : Q (.tup (F.map outP)) h) : (S_pin [.str (S t)] h).To Q :=
  lift0_to (P := fun w => w = .tup (F.map outP)) (by simp) (pin_ok ht hl hr fun g => ⟨by simp [refs_outP], rfl⟩) fun w z => by rw [z]; exact q
theorem pinS_bad {n : Nat} (ht : Asc t) (hl : t.length ≤ 9000) (hr : readP (rowsT t) 0 [] = .inl n) : (S_pin [.str (S t)] h).Tx fun x g => x = badText (n : Nat) ∧ g = h :=
  lift0_tx (P := fun x => x = badText (n : Nat)) (by simp) (pin_bad ht hl hr)
theorem ne_text {n : Int} : wNe (.tup [.str (PySem.Str.ofString "text"), .int n]) (.tup [.str (PySem.Str.ofString "text"), .int n]) h = some (.bl false, h) := by
  have hs : PyData.strOk (PySem.Str.ofString "text") = true := by decide +kernel
  rw [wNe_pl (n := 2) (m := 2) (by simp [hs]) (by simp [hs]) (by decide) (by decide)]
  simp
def rtI (X D : W) (ps : LS) (g : PH) : Prop := ∃ (s2 s3 s4 : Option W), ps = [some X, some D, s2, s3, s4, none]
theorem right_run (ht : Asc t) (hl : t.length ≤ 9000) : (f_Lright (f_Ldue f_Lwhole) S_pin f_Lword [.str (S t)] []).To fun w g => refsW w = [] ∧ w = .bl true := by
  unfold f_Lright
  rw [run_to, show startW 6 [W.str (S t)] = [some (.str (S t)), none, none, none, none, none] from rfl]
  unfold b_Lright
  have tb : ∀ b g, tru (.bl b) g = some b := fun _ _ => rfl
  have ib : isB "int" "tuple" = false := by decide
  cases e : readP (rowsT t) 0 [] with
  | inr F =>
    obtain ⟨D, hD⟩ : ∃ D, D = W.tup (F.map outP) := ⟨_, rfl⟩
    have dty : ∀ g, tyName D g = some "tuple" := fun g => by rw [hD]; rfl
    obtain ⟨s, hs⟩ := pap_repr hl e
    rw [← hD] at hs
    refine seq_cut (fun ps _ => ps = [some (.str (S t)), some D, none, none, none, none]) ?_ ?_
    · simp
      refine due_to ht hl (fun F' e2 g => ?_) fun n e2 => ?_
      · rw [e] at e2
        cases e2
        simp [hD]
      · rw [e] at e2
        cases e2
    rintro ps g rfl
    refine seq_cut (rtI (.str (S t)) D) ?_ ?_
    · rw [to_for]
      simp
      refine for_items (fun _ => rtI (.str (S t)) D) ⟨_, _, _, rfl⟩ ?_ fun ps g z => z
      rintro j w ps g ej ⟨s2, s3, s4, rfl⟩
      refine ⟨[some (.str (S t)), some D, some w, s3, s4, none], rfl, ?_⟩
      refine seq_go (ps1 := [some (.str (S t)), some D, some w, some .non, s4, none]) (h1 := g) (fun K hK => by simp; exact hK) ?_
      refine seq_go (ps1 := [some (.str (S t)), some D, some w, some .non, some .non, none]) (h1 := g) (fun K hK => by simp; exact hK) ?_
      refine seq_go (ps1 := [some (.str (S t)), some D, some w, some .non, some D, none]) (h1 := g) (fun K hK => ?_) ?_
      · refine try_ok ?_
        simp
        refine pinS_ok ht hl e ?_
        rw [← hD]
        exact hK
      refine seq_go (ps1 := [some (.str (S t)), some D, some w, some .non, some D, none]) (h1 := g) (fun K hK => ?_) ?_
      · simp [dty, tb, hs, wIsNot, isNonW, wNe]
        have : eqB (.str s) (.str s) g = some true := by
          show some (s == s) = _
          simp
        simp [this]
        exact hK
      · simp [dty, tb]
        exact ⟨_, _, _, rfl⟩
    · rintro ps g ⟨s2, s3, s4, rfl⟩
      simp
  | inl n =>
    refine seq_cut (fun ps _ => ps = [some (.str (S t)), some (.int (n : Nat)), none, none, none, none]) ?_ ?_
    · simp
      refine due_to ht hl (fun F' e2 g => ?_) fun n' e2 g => ?_
      · rw [e] at e2
        cases e2
      · rw [e] at e2
        cases e2
        simp
    rintro ps g rfl
    refine seq_cut (rtI (.str (S t)) (.int (n : Nat))) ?_ ?_
    · rw [to_for]
      simp
      refine for_items (fun _ => rtI (.str (S t)) (.int (n : Nat))) ⟨_, _, _, rfl⟩ ?_ fun ps g z => z
      rintro j w ps g ej ⟨s2, s3, s4, rfl⟩
      refine ⟨[some (.str (S t)), some (.int (n : Nat)), some w, s3, s4, none], rfl, ?_⟩
      refine seq_go (ps1 := [some (.str (S t)), some (.int (n : Nat)), some w, some .non, s4, none]) (h1 := g) (fun K hK => by simp; exact hK) ?_
      refine seq_go (ps1 := [some (.str (S t)), some (.int (n : Nat)), some w, some .non, some .non, none]) (h1 := g) (fun K hK => by simp; exact hK) ?_
      refine seq_go (ps1 := [some (.str (S t)), some (.int (n : Nat)), some w, some (.exc (badText (n : Nat))), some .non, none]) (h1 := g) (fun K hK => ?_) ?_
      · refine try_caught ?_
        refine asg_tx (fn_tx ?_)
        simp only [to_cons, to_nil, to_var]
        refine ⟨_, rfl, rfl, ?_⟩
        refine (pinS_bad ht hl e).mono fun x g' z => ?_
        obtain ⟨rfl, rfl⟩ := z
        refine ⟨by show knL.contains "BadText" = true; decide, by show isSub "BadText" "DuelError" = true; decide, ?_⟩
        simp
        exact hK
      refine seq_go (ps1 := [some (.str (S t)), some (.int (n : Nat)), some w, some (.exc (badText (n : Nat))), some .non, none]) (h1 := g) (fun K hK => ?_) ?_
      · simp [tyName, tb, ib]
        exact hK
      · simp [tyName, tb, ib, wIs, isNonW]
        refine lword_to ?_
        rw [ne_text, pto_some, bto_bl, Ite_false]
        exact ⟨_, _, _, rfl⟩
    · rintro ps g ⟨s2, s3, s4, rfl⟩
      simp
def S_right : FM := lift0 (f_Lright (f_Ldue f_Lwhole) S_pin f_Lword)
theorem fits_Lright : Fits (f_Lright (f_Ldue f_Lwhole) S_pin f_Lword) S_right := fits_lift0 _
theorem right_to (ht : Asc t) (hl : t.length ≤ 9000) {Q : W → PH → Prop} (q : Q (.bl true) h) : (S_right [.str (S t)] h).To Q :=
  lift0_to (P := fun w => w = .bl true) (by simp) (right_run ht hl) fun w z => by rw [z]; exact q
end
def S_ptext : FM := lift0 (f_papers_text f_row_text)
theorem fits_papers_text : Fits (f_papers_text f_row_text) S_ptext := fits_lift0 _
theorem ptextS {ps : List Pap} (sm : smallP ps) {h : PH} {Q : W → PH → Prop} (q : Q (strW (TL.joinL [10] (ps.flatMap papC))) h) : (S_ptext [.tup (ps.map outP)] h).To Q :=
  lift0_to (P := fun w => w = strW (TL.joinL [10] (ps.flatMap papC))) (by simp [refs_outP]) (ptext_to sm fun g => ⟨rfl, rfl⟩) fun w z => by rw [z]; exact q
end Mir

/-! law_k52: the state, odd things, the wide text -/
namespace Mir
open PySem PySem.Spec PyProof.Rows L2 SX
theorem lift1_tx {F : FM} {n : Nat} {o : OB} {r : List W} {h : PH} {P : XV → Prop} (e : h[n]? = some o) (ho : refsO o = []) (hw : refsWs r = []) (q : (F (.ref 0 :: r) [o]).Tx fun x g => P x ∧ g = [o]) : (lift1 F (.ref n :: r) h).Tx fun x g => P x ∧ g = h := by
  obtain ⟨x, g, e2, z, rfl⟩ := q.is
  simp only [lift1, e]
  rw [if_pos ⟨ho, hw⟩, e2]
  simp only
  rw [if_pos ho]
  simp only [outR, tx_exc]
  refine ⟨z, ?_⟩
  obtain ⟨hl, e'⟩ := List.getElem?_eq_some_iff.mp e
  rw [← e', List.set_getElem_self]
theorem odd_run {w : W} {g : PH} {s : String} (h1 : tyName w g = some s) (h2 : isB s "str" = false) : (F_pin [w] g).Tx fun x g' => x = badText 1 ∧ g' = g := by
  unfold F_pin f_papers_in
  refine run_tx ?_
  rw [show startW 9 [w] = [some w, none, none, none, none, none, none, none, none] from rfl]
  unfold b_papers_in
  refine seq_tx1 (if_tx ?_)
  have tb : ∀ b g, tru (.bl b) g = some b := fun _ _ => rfl
  simp [h1, h2, tb]
  unfold sRaiseF
  refine thenS_tx2 ?_
  simp only [to_cons, to_C, to_nil]
  simp only [mkX, pvs, toPV]
  simp
  rfl
def oddW (w : W) (g : PH) : Prop := (refsW w = [] ∧ ∃ s, (∀ g, tyName w g = some s) ∧ isB s "str" = false) ∨ ∃ n, w = .ref n ∧ g[n]? = some (.dK [])
theorem odd_tx {w : W} {g : PH} (h : oddW w g) : (S_pin [w] g).Tx fun x g' => x = badText 1 ∧ g' = g := by
  rcases h with ⟨hr, s, h1, h2⟩ | ⟨n, rfl, hn⟩
  · have : S_pin [w] g = lift0 F_pin [w] g := by
      cases w with
      | ref n => simp at hr
      | _ => rfl
    rw [this]
    refine lift0_tx (P := fun x => x = badText 1) (by simp [hr]) ?_
    have := odd_run (h1 []) h2
    obtain ⟨x, g', e, z, _⟩ := this.is
    rw [e, tx_exc]
    exact z
  · show (lift1 F_pin [.ref n] g).Tx _
    refine lift1_tx (P := fun x => x = badText 1) hn rfl rfl ?_
    exact odd_run (s := "dict") rfl (by decide)
section
variable {ns : List Int}
theorem ne_nil {h : PH} : wNe (.fix (ns.map W.int)) (.fix []) h = some (.bl (!decide (ns = [])), h) := by
  rw [wNe_pl (n := 2) (m := 2) (by rw [pl_fix]; exact pls_ints _) (by simp) (by decide) (by decide)]
  congr 4
  cases ns <;> simp
theorem cut_cells (hn : ns.length ≤ 63) : ∃ cs : List Int, cutW (ns.map W.int) (some 1) (some 63) = cs.map W.int ∧ cs.length ≤ 62 := by
  unfold cutW
  rw [show (1 : Int) = ((1 : Nat) : Int) from rfl, show (63 : Int) = ((63 : Nat) : Int) from rfl, HT.sIx_nat, HT.sIx_nat]
  refine ⟨(ns.drop (min 1 (ns.map W.int).length)).take (min 63 (ns.map W.int).length - min 1 (ns.map W.int).length), ?_, ?_⟩
  · rw [List.map_take, List.map_drop]
  · rw [List.length_take, List.length_map]
    omega
theorem state_to (hn : ns.length ≤ 63) {Q : W → PH → Prop} (q : ∀ o, IsTape 0 o → Q (.ref 0) [o]) : (f_Lstate [.fix (ns.map W.int)] []).To Q := by
  unfold f_Lstate
  rw [run_to, show startW 2 [W.fix (ns.map W.int)] = [some (.fix (ns.map W.int)), none] from rfl]
  unfold b_Lstate
  obtain ⟨X, hX⟩ : ∃ X, X = W.fix (ns.map W.int) := ⟨_, rfl⟩
  have hne : ∀ h, wNe X (.fix []) h = some (.bl (!decide (ns = [])), h) := fun h => by rw [hX]; exact ne_nil
  obtain ⟨cs, hcs, cl⟩ := cut_cells hn
  have hsl : ∀ h, wSl X (some 1) (some 63) h = some (.fix (cs.map .int), h) := fun h => by
    rw [hX]
    simp only [wSl]
    rw [hcs]
  have hix : ns ≠ [] → ∃ i, ∀ h, wIx X (.int 0) h = some (.int i, h) := fun c => by
    rw [hX]
    have hl : 0 < ns.length := List.length_pos_iff.mpr c
    obtain ⟨i, hi⟩ := cell_ix (cs := ns) (i := 0) (h := []) (by decide) (by omega)
    refine ⟨i, fun h => ?_⟩
    obtain ⟨j, hj⟩ := cell_ix (cs := ns) (i := 0) (h := h) (by decide) (by omega)
    have hi : (atI (ns.map W.int) 0).map (fun w => (w, ([] : PH))) = some (.int i, []) := hi
    show (atI (ns.map W.int) 0).map (fun w => (w, h)) = some (.int i, h)
    cases e : atI (ns.map W.int) 0 with
    | none => rw [e] at hi; cases hi
    | some w => rw [e] at hi; simp at hi; subst hi; rfl
  rw [← hX]
  refine seq_cut (fun ps g => ∃ b, ps = [some X, some (.bl b)] ∧ g = []) ?_ ?_
  · have ex : ∀ b : Bool, ∃ x, b = x := fun b => ⟨_, rfl⟩
    simp [hne, tru]
    by_cases c : ns = []
    · simp [c]
    · obtain ⟨i, hi⟩ := hix c
      simp [c, hi]
      exact (Decidable.em _).symm
  · rintro ps g ⟨b, rfl, rfl⟩
    have add : ∀ h, wAdd (.fix (cs.map .int)) (.fix [.int 7]) h = some (.fix ((cs ++ [7]).map .int), h) := fun h => by
      simp only [wAdd, lstOf]
      rw [if_pos (by simp; omega), List.map_append]
      rfl
    simp only [to_ret, to_disp]
    simp [hsl, add, keysOf, keyW]
    have mg : mergeW [] [(kS "cells", W.fix ((cs ++ [7]).map .int)), (kS "own", .bl b), (kS "at", .int 0), (kS "rest", .int 0), (kS "spot", .int 0)] = [(kS "cells", W.fix ((cs ++ [7]).map .int)), (kS "own", .bl b), (kS "at", .int 0), (kS "rest", .int 0), (kS "spot", .int 0)] := by simp [mergeW, putKW]
    have := q (tapeO (cs ++ [7]) b 0 0 0) ⟨_, _, _, _, _, rfl, by simp, by simp; omega, by decide, by decide, by decide, by decide⟩
    unfold tapeO at this
    rw [← mg] at this
    simpa using this
end
end Mir

/-! law_k52: the law's run -/
namespace Mir
open PySem PySem.Spec PyProof.Rows L2 SX
abbrev F_LAW52 : FM := f_LAW f_Lstate S_papers f_Lrows_of S_ptext S_pin S_take S_right (f_Lbent_text S_take (f_Lpick S_take)) f_Lword
def lwI (X : W) (i : Nat) (ps : LS) (g : PH) : Prop := ∃ (o : OB) (t : PH) (s2 s3 s4 s5 s6 s7 s11 : Option W), g = o :: t ∧ ps = [some X, some (.ref 0), s2, s3, s4, s5, s6, s7, none, none, none, s11] ∧ IsTape (2000 * i) o
def lwW (B : Int) (t : PH) (rows : List (List Nat)) (i : Nat) (acc : List W) (g : PH) : Prop := ∃ (o : OB) (ws : List (List Nat)), g = o :: t ∧ acc = ws.map strW ∧ isWide (rows.take i) ws ∧ IsTape (B + i) o
def lwB (X D T V : W) (I : Option W) (k : Nat) (B : Int) (t : PH) (i : Nat) (ps : LS) (g : PH) : Prop := ∃ (o : OB) (s7 s11 : Option W), g = o :: t ∧ ps = [some X, some (.ref 0), I, some D, some (.ref (k + 1)), some T, some V, s7, none, none, none, s11] ∧ IsTape (B + 10 * i) o
def lwO (X : W) (s2 s3 s4 s5 s6 s7 s11 : Option W) (G : PH) (ps : LS) (g : PH) : Prop := ∃ (s8 s9 : Option W), g = G ∧ ps = [some X, some (.ref 0), s2, s3, s4, s5, s6, s7, s8, s9, none, s11]
def lwR (X : W) (s2 s3 s4 s5 s6 s7 s8 s9 : Option W) (ps : LS) (g : PH) : Prop := ∃ (s11 : Option W), ps = [some X, some (.ref 0), s2, s3, s4, s5, s6, s7, s8, s9, none, s11]
def lwM (X D T : W) (I s7 s11 : Option W) (k : Nat) (B : Int) (t : PH) (rows : List (List Nat)) (ps : LS) (g : PH) : Prop := ∃ (o : OB) (ws : List (List Nat)), g = o :: t ∧ ps = [some X, some (.ref 0), I, some D, some (.ref (k + 1)), some T, some (strW (TL.joinL [10] ws)), s7, none, none, none, s11] ∧ isWide rows ws ∧ IsTape B o
theorem wide_snoc {rows ws : List (List Nat)} {i : Nat} {r : List Nat} {k : Nat} (h : isWide (rows.take i) ws) (e : rows[i]? = some r) (hk : k ≤ 2) : isWide (rows.take (i + 1)) (ws ++ [wideR k r]) := by
  have hi := (List.getElem?_eq_some_iff.mp e).1
  have tl : (rows.take i).length = i := by rw [List.length_take]; omega
  have wl : ws.length = i := by rw [h.1, tl]
  rw [List.take_succ, e]
  refine ⟨by simp [wl]; omega, fun j a w ea ew => ?_⟩
  by_cases c : j < i
  · rw [List.getElem?_append_left (by omega)] at ea ew
    exact h.2 j a w ea ew
  · have hj : j = i := by
      have := (List.getElem?_eq_some_iff.mp ew).1
      simp at this
      omega
    subst hj
    rw [List.getElem?_append_right (by omega)] at ea ew
    rw [tl] at ea
    rw [wl] at ew
    simp at ea ew
    exact ⟨k, hk, by rw [← ew, ← ea]⟩
theorem rep_row {c : Nat} {n : Int} {g : PH} (h0 : 0 ≤ n) (h : n ≤ 10000) : wMul (.str (S [c])) (.int n) g = some (strW (List.replicate n.toNat c), g) := by
  simp only [wMul]
  rw [S_len, if_pos ⟨by simp, by omega, h⟩, mul_S]
  rfl
theorem catS {x y : List Nat} {g : PH} (h1 : x.length ≤ 8000000) (h2 : y.length ≤ 8000000) : wAdd (strW x) (strW y) g = some (strW (x ++ y), g) := by
  unfold strW
  simp only [wAdd]
  rw [S_len, S_len, if_pos (by omega), S_cat]
theorem rep_asc {c n : Nat} (h : c < 128) : Asc (List.replicate n c) := fun d hd => by rw [List.eq_of_mem_replicate hd]; exact h
/-- one turn -/
theorem turn_text {g : PH} {rows : List (List Nat)} (hl : rows.flatten.length ≤ 9000) (hl2 : rows.length ≤ 28) : wJoin (.str (S [10])) [.fix (rows.map strW)] g = some (strW (TL.joinL [10] rows), g) := joinW (by rw [List.length_cons, List.length_nil]; omega)
theorem law_run (ns : List Int) (hn : ns.length ≤ 63) : (F_LAW52 [.fix (ns.map W.int)] []).To fun w _ => w = .bl true := by
  unfold F_LAW52 f_LAW
  rw [run_to, show startW 12 [W.fix (ns.map W.int)] = [some (.fix (ns.map W.int)), none, none, none, none, none, none, none, none, none, none, none] from rfl]
  unfold b_LAW
  obtain ⟨X, hX⟩ : ∃ X, X = W.fix (ns.map W.int) := ⟨_, rfl⟩
  have st : ∀ Q : W → PH → Prop, (∀ o, IsTape 0 o → Q (.ref 0) [o]) → (f_Lstate [X] []).To Q := fun Q q => by rw [hX]; exact state_to hn q
  rw [← hX]
  have nl : PySem.Str.ofString "\n" = S [10] := newline
  have tb : ∀ b g, tru (.bl b) g = some b := fun _ _ => rfl
  have neS : ∀ (a : List Nat) (g : PH), wNe (strW a) (strW a) g = some (.bl false, g) := fun a g => by
    show wNe (.str (S a)) (.str (S a)) g = _
    rw [ne_S]; simp
  have neT : ∀ (s : Str) (g : PH), wNe (.str s) (.str s) g = some (.bl false, g) := fun s g => by
    have : eqB (.str s) (.str s) g = some true := by
      show some (s == s) = _
      simp
    simp [wNe, this]
  refine seq_cut (lwI X 0) ?_ ?_
  · simp
    exact st _ fun o t => ⟨o, [], _, _, _, _, _, _, _, rfl, rfl, t.up (by omega)⟩
  rintro ps g ⟨o, t, s2, s3, s4, s5, s6, s7, s11, rfl, rfl, tp⟩
  refine seq_cut (lwI X 4) ?_ ?_
  · rw [to_for]
    simp
    refine for_items (lwI X) ⟨o, t, _, _, _, _, _, _, _, rfl, rfl, tp⟩ ?_ fun ps g z => z
    clear tp
    rintro i w ps g ei ⟨o, t, s2, s3, s4, s5, s6, s7, s11, rfl, rfl, tp⟩
    have hi : i < 4 := (range0 (n := 4) ei).1
    refine ⟨[some X, some (.ref 0), some w, s3, s4, s5, s6, s7, none, none, none, s11], rfl, ?_⟩
    refine seq_op fun K hK => ?_
    simp
    refine papers_to tp (by omega) fun P o1 tiny t1 => hK _ _ ?_
    clear hK K
    have small := tiny.small
    obtain ⟨D, hD⟩ : ∃ D, D = W.tup (P.map outP) := ⟨_, rfl⟩
    obtain ⟨rows, hrows⟩ : ∃ rows, rows = P.flatMap papC := ⟨_, rfl⟩
    obtain ⟨k, hk⟩ : ∃ k, k = t.length := ⟨_, rfl⟩
    obtain ⟨t', ht'⟩ : ∃ t', t' = t ++ [OB.lst (rows.map strW)] := ⟨_, rfl⟩
    have tk : t'[k]? = some (.lst (rows.map strW)) := by rw [ht', hk]; simp
    obtain ⟨tr1, tr2⟩ := tiny_rows tiny
    obtain ⟨tx1, tx2, tx3⟩ := tiny_text tiny
    have back := text_back (ps := P) fun p hp => (tiny.2 p hp).1
    have asc := text_asc (ps := P) fun p hp => (tiny.2 p hp).1
    obtain ⟨sh, hsh⟩ := pap_repr tx1 back
    have lr : ∀ Q : W → PH → Prop, Q (.ref (k + 1)) (o1 :: t') → (f_Lrows_of [D] (o1 :: t)).To Q := fun Q q => by
      rw [hD]
      refine lrows_to small ?_
      rw [← hrows]
      have e : (o1 :: t) ++ [OB.lst (rows.map strW)] = o1 :: t' := by rw [ht']; rfl
      rw [e, List.length_cons, ← hk]
      exact q
    have lt : ∀ (h : PH) (Q : W → PH → Prop), Q (strW (TL.joinL [10] rows)) h → (S_ptext [D] h).To Q := fun h Q q => by
      rw [hD]
      refine ptextS small ?_
      rw [← hrows]
      exact q
    have lp : ∀ (x : List Nat) (h : PH) (Q : W → PH → Prop), Asc x → x.length ≤ 9000 → readP (rowsT x) 0 [] = .inr P → Q D h → (S_pin [strW x] h).To Q := fun x h Q h1 h2 h3 q => by
      refine pinS_ok h1 h2 h3 ?_
      rw [← hD]
      exact q
    rw [← hD] at hsh ⊢
    rw [← hrows] at tr1 tr2 tx1 tx2 tx3 back asc
    obtain ⟨T, hT⟩ : ∃ T, T = TL.joinL [10] rows := ⟨_, rfl⟩
    rw [← hT] at tx1 back asc
    refine seq_go (ps1 := [some X, some (.ref 0), some w, some D, some (.ref (k + 1)), s5, s6, s7, none, none, none, s11]) (h1 := o1 :: t') (fun K hK => by simp; exact lr _ hK) ?_
    refine seq_go (ps1 := [some X, some (.ref 0), some w, some D, some (.ref (k + 1)), some (strW T), s6, s7, none, none, none, s11]) (h1 := o1 :: t') (fun K hK => by simp; refine lt _ _ ?_; rw [← hT]; exact hK) ?_
    have jr : ∀ g : PH, g[k + 1]? = some (.lst (rows.map strW)) → wJoin (.str (S [10])) [.ref (k + 1)] g = some (strW T, g) := fun g hg => by
      have : wJoin (.str (S [10])) [.ref (k + 1)] g = wJoin (.str (S [10])) [.fix (rows.map strW)] g := by simp only [wJoin, seqOf, hg]
      rw [this, turn_text (by omega) tx3, ← hT]
    refine seq_go (ps1 := [some X, some (.ref 0), some w, some D, some (.ref (k + 1)), some (strW T), s6, s7, none, none, none, s11]) (h1 := o1 :: t') (fun K hK => ?_) ?_
    · have ty : tyName (strW T) (o1 :: t') = some "str" := rfl
      have tyS : ∀ g, tyW "str" (.str (S [10])) g = true := fun _ => rfl
      simp only [to_sif, to_or, to_not, to_tru, to_isi, to_mB, to_op, to_var, to_mt, to_C, to_cons, to_nil, to_call, to_fn]
      refine ⟨_, rfl, ?_⟩
      rw [ty, oto_some, show isB "str" "str" = true from by decide, tb, oto_some]
      simp only [Bool.not_true, Ite_false]
      refine ⟨_, rfl, ?_⟩
      rw [nl]
      refine ⟨tyS _, _, rfl, ?_⟩
      rw [jr _ tk, pto_some, neS, pto_some, bto_bl, Ite_false]
      refine ⟨_, rfl, rfl, ?_⟩
      refine lp _ _ _ asc tx1 back ?_
      rw [hsh, pto_some]
      refine ⟨_, rfl, ?_⟩
      rw [hsh, pto_some, neT, pto_some, bto_bl, Ite_false, to_next]
      exact hK
    refine seq_cut (lwM X D (strW T) (some w) s7 s11 k (2000 * i + 1100) t' rows) ?_ ?_
    · have tyS : ∀ g, tyW "str" (.str (S [10])) g = true := fun _ => rfl
      have b2 : PySem.Str.ofString "  " = S [32, 32] := by decide +kernel
      simp only [to_asg, to_mt, to_C, to_cons, to_nil, to_fix, to_lc, to_iter, to_var]
      rw [nl]
      refine ⟨tyS _, _, rfl, ?_⟩
      rw [show iterOf big (.ref (k + 1)) (o1 :: t') = some (itL (k + 1) big) by simp only [iterOf, show (o1 :: t')[k + 1]? = _ from tk], oto_some]
      refine lc_live (items := rows.map strW) (by rw [List.length_map]; unfold big; omega) (lwW (2000 * i + 1000) t' rows) (fun i acc h z => by obtain ⟨o, ws, rfl, _⟩ := z; exact tk) ⟨o1, [], rfl, rfl, ⟨rfl, fun j r w h1 _ => by simp at h1⟩, t1.up (by omega)⟩ ?_ ?_
      · rintro j x acc h ej ⟨o2, ws, rfl, rfl, iw, t2⟩
        rw [List.getElem?_map] at ej
        obtain ⟨r, er, rfl⟩ := Option.map_eq_some_iff.mp ej
        obtain ⟨r85, _, _⟩ := tr2 r (List.mem_of_getElem? er)
        have hj := (List.getElem?_eq_some_iff.mp er).1
        have wl : ws.length ≤ j := by rw [iw.1, List.length_take]; omega
        refine ⟨_, rfl, ?_⟩
        rw [to_yes, Ite_true]
        simp only [to_op, to_un, to_C, to_fn, to_cons, to_nil, to_var]
        refine ⟨_, rfl, rfl, ?_⟩
        refine take0 t2 (by omega) (by decide) (by decide) fun n o3 n0 n1 t3 => ?_
        rw [blank1, b2, rep_row n0 (by omega), pto_some]
        refine ⟨_, rfl, ?_⟩
        have dl := dbl_len r
        have rp : wRepl (S [32]) (S [32, 32]) (strW r) (o3 :: t') = some (strW (dblC r), o3 :: t') := by
          unfold strW
          simp only [wRepl]
          rw [S_len, S_len, if_pos (by simp; omega), repl_S]
        rw [rp, pto_some, catS (by rw [List.length_replicate]; omega) (by omega), pto_some]
        rw [show W.str (S [32]) = strW [32] from rfl, catS (by rw [List.length_append, List.length_replicate]; omega) (by simp), pto_some]
        refine ⟨by rw [List.length_map]; omega, o3, ws ++ [wideR n.toNat r], rfl, ?_, wide_snoc iw er (by omega), t3.up (by omega)⟩
        rw [List.map_append]
        unfold wideR
        simp
      · rintro acc h ⟨o2, ws, rfl, rfl, iw, t2⟩
        rw [List.length_map] at iw t2
        rw [List.take_length] at iw
        rw [hrows] at iw
        obtain ⟨w1, w2, w3, w4, w5⟩ := wide_read tiny iw
        rw [turn_text w4 w5, pto_some, gN_is, oto_some]
        rw [← hrows] at iw
        exact ⟨o2, ws, rfl, rfl, iw, t2.up (by omega)⟩
    rintro ps g ⟨o2, ws, rfl, rfl, iw, t2⟩
    rw [hrows] at iw
    obtain ⟨w1, w2, w3, w4, w5⟩ := wide_read tiny iw
    obtain ⟨V, hV⟩ : ∃ V, V = TL.joinL [10] ws := ⟨_, rfl⟩
    rw [← hV] at w1 w2 w3 ⊢
    refine seq_go (ps1 := [some X, some (.ref 0), some w, some D, some (.ref (k + 1)), some (strW T), some (strW V), s7, none, none, none, s11]) (h1 := o2 :: t') (fun K hK => ?_) ?_
    · simp only [to_sif, to_mB, to_op, to_var, to_C, to_cons, to_nil, to_call, to_fn]
      refine ⟨_, rfl, rfl, ?_⟩
      refine lp _ _ _ w2 w3 w1 ?_
      rw [hsh, pto_some]
      refine ⟨_, rfl, ?_⟩
      rw [hsh, pto_some, neT, pto_some, bto_bl, Ite_false, to_next]
      exact hK
    rw [to_for]
    simp
    refine for_items (lwB X D (strW T) (strW V) (some w) k (2000 * i + 1100) t') ⟨o2, _, _, rfl, rfl, t2.up (by omega)⟩ ?_ fun ps g z => ?_
    · rintro j x ps g ej ⟨o3, s7, s11, rfl, rfl, t3⟩
      have hj : j < 6 := (range0 (n := 6) ej).1
      refine ⟨[some X, some (.ref 0), some w, some D, some (.ref (k + 1)), some (strW T), some (strW V), some x, none, none, none, s11], rfl, ?_⟩
      simp only [to_sif, to_not, to_tru, to_fn, to_cons, to_nil, to_var]
      refine ⟨_, rfl, _, rfl, rfl, ?_⟩
      refine bent_to t3 (by omega) tk tr1 (fun r hr => ⟨fun c hc => ((tr2 r hr).2.2 c hc).2, by have := (tr2 r hr).1; omega⟩) fun b o4 h1 h2 t4 => ?_
      refine ⟨rfl, right_to h1 h2 ?_⟩
      rw [tb, oto_some]
      simp only [Bool.not_true, Ite_false, to_next]
      exact ⟨o4, _, _, rfl, rfl, t4.up (by omega)⟩
    · obtain ⟨o3, s7, s11, rfl, rfl, t3⟩ := z
      exact ⟨o3, t', _, _, _, _, _, _, _, rfl, rfl, t3.up (by have : (rangeW 0 6).length = 6 := range_len; omega)⟩
  clear tp
  rintro ps g ⟨o, t, s2, s3, s4, s5, s6, s7, s11, rfl, rfl, tp⟩
  refine seq_cut (lwO X s2 s3 s4 s5 s6 s7 s11 (o :: (t ++ [.dK []]))) ?_ ?_
  · rw [to_for]
    simp
    obtain ⟨G, hG⟩ : ∃ G, G = o :: (t ++ [OB.dK []]) := ⟨_, rfl⟩
    have gd : G[t.length + 1]? = some (.dK []) := by rw [hG]; simp
    rw [← hG]
    refine for_items (fun _ => lwO X s2 s3 s4 s5 s6 s7 s11 G) ⟨_, _, rfl, rfl⟩ ?_ fun ps g z => z
    rintro j x ps g ej ⟨s8, s9, rfl, rfl⟩
    refine ⟨[some X, some (.ref 0), s2, s3, s4, s5, s6, s7, some x, s9, none, s11], rfl, ?_⟩
    have od : oddW x g := by
      have := List.mem_of_getElem? ej
      simp only [List.mem_cons, List.not_mem_nil, or_false] at this
      rcases this with rfl | rfl | rfl | rfl | rfl | rfl
      · exact .inl ⟨rfl, "NoneType", fun _ => rfl, by decide⟩
      · exact .inl ⟨rfl, "int", fun _ => rfl, by decide⟩
      · exact .inl ⟨rfl, "bool", fun _ => rfl, by decide⟩
      · exact .inl ⟨rfl, "list", fun _ => rfl, by decide⟩
      · exact .inl ⟨rfl, "tuple", fun _ => rfl, by decide⟩
      · exact .inr ⟨_, rfl, gd⟩
    refine seq_go (ps1 := [some X, some (.ref 0), s2, s3, s4, s5, s6, s7, some x, some .non, none, s11]) (h1 := g) (fun K hK => by simp; exact hK) ?_
    refine seq_go (ps1 := [some X, some (.ref 0), s2, s3, s4, s5, s6, s7, some x, some (.exc (badText 1)), none, s11]) (h1 := g) (fun K hK => ?_) ?_
    · refine try_caught ?_
      refine drop_tx (fn_tx ?_)
      simp only [to_cons, to_nil, to_var]
      refine ⟨_, rfl, rfl, ?_⟩
      refine (odd_tx od).mono fun y g' z => ?_
      obtain ⟨rfl, rfl⟩ := z
      refine ⟨by show knL.contains "BadText" = true; decide, by show isSub "BadText" "DuelError" = true; decide, ?_⟩
      simp
      exact hK
    · simp [wIs, isNonW]
      refine lword_to ?_
      rw [ne_text, pto_some, bto_bl, Ite_false]
      exact ⟨_, _, rfl, rfl⟩
  rintro ps g ⟨s8, s9, rfl, rfl⟩
  refine seq_cut (lwR X s2 s3 s4 s5 s6 s7 s8 s9) ?_ ?_
  · have f1 : PySem.Str.ofString "9" = S [57] := by decide +kernel
    have f2 : PySem.Str.ofString "8" = S [56] := by decide +kernel
    have f3 : PySem.Str.ofString "7" = S [55] := by decide +kernel
    have f4 : PySem.Str.ofString "a" = S [97] := by decide +kernel
    have f5 : W.str (PySem.Str.ofString "1 -") = strW [49, 32, 45] := by
      have : PySem.Str.ofString "1 -" = S [49, 32, 45] := by decide +kernel
      rw [this]; rfl
    have f6 : W.str (PySem.Str.ofString " 2") = strW [32, 50] := by
      have : PySem.Str.ofString " 2" = S [32, 50] := by decide +kernel
      rw [this]; rfl
    have f7 : W.str (PySem.Str.ofString "none ") = strW [110, 111, 110, 101, 32] := by
      have : PySem.Str.ofString "none " = S [110, 111, 110, 101, 32] := by decide +kernel
      rw [this]; rfl
    have f8 : W.str (PySem.Str.ofString "paper ") = strW [112, 97, 112, 101, 114, 32] := by
      have : PySem.Str.ofString "paper " = S [112, 97, 112, 101, 114, 32] := by decide +kernel
      rw [this]; rfl
    have f9 : W.str (PySem.Str.ofString "paper run\n0 1\n") = strW [112, 97, 112, 101, 114, 32, 114, 117, 110, 10, 48, 32, 49, 10] := by
      have : PySem.Str.ofString "paper run\n0 1\n" = S [112, 97, 112, 101, 114, 32, 114, 117, 110, 10, 48, 32, 49, 10] := by decide +kernel
      rw [this]; rfl
    obtain ⟨G, hG⟩ : ∃ G, G = o :: (t ++ [OB.dK []]) := ⟨_, rfl⟩
    rw [← hG]
    have rep : ∀ c g, c < 128 → ∃ a, wMul (.str (S [c])) (.int 5000) g = some (strW a, g) ∧ Asc a ∧ a.length ≤ 5000 := fun c g hc => ⟨_, rep_row (by decide) (by decide), rep_asc hc, by rw [List.length_replicate]; decide⟩
    rw [to_for]
    obtain ⟨a1, m1, h1, l1⟩ := rep 57 G (by decide)
    obtain ⟨a2, m2, h2, l2⟩ := rep 56 G (by decide)
    obtain ⟨a3, m3, h3, l3⟩ := rep 55 G (by decide)
    obtain ⟨a4, m4, h4, l4⟩ := rep 97 G (by decide)
    simp only [to_iter, to_tup, to_cons, to_nil, to_op, to_C]
    rw [f1, m1, pto_some, f2, m2, pto_some, f5, catS (by simp) (by omega), pto_some, f6, catS (by simp; omega) (by simp), pto_some, f3, m3, pto_some, f7, catS (by simp) (by omega), pto_some, f4, m4, pto_some, f8, catS (by simp) (by omega), pto_some]
    refine ⟨by simp, ?_⟩
    rw [show ∀ xs h, iterOf big (.tup xs) h = some (itS xs) from fun _ _ => rfl, oto_some]
    refine for_items (fun _ => lwR X s2 s3 s4 s5 s6 s7 s8 s9) ⟨_, rfl⟩ ?_ fun ps g z => z
    rintro j x ps g ej ⟨s11, rfl⟩
    refine ⟨[some X, some (.ref 0), s2, s3, s4, s5, s6, s7, s8, s9, none, some x], rfl, ?_⟩
    have od : ∃ b, x = strW b ∧ Asc b ∧ b.length ≤ 5010 := by
      have := List.mem_of_getElem? ej
      simp only [List.mem_cons, List.not_mem_nil, or_false] at this
      rcases this with rfl | rfl | rfl | rfl
      · exact ⟨_, rfl, h1, by omega⟩
      · exact ⟨_, rfl, asc_app (asc_app (by decide) h2) (by decide), by simp; omega⟩
      · exact ⟨_, rfl, asc_app (by decide) h3, by simp; omega⟩
      · exact ⟨_, rfl, asc_app (by decide) h4, by simp; omega⟩
    obtain ⟨b, rfl, hb, lb⟩ := od
    simp only [to_sif, to_not, to_tru, to_fn, to_cons, to_nil, to_var, to_op, to_C]
    refine ⟨_, rfl, ?_⟩
    rw [f9, catS (by simp) (by omega), pto_some]
    refine ⟨rfl, right_to (asc_app (by decide) hb) (by simp; omega) ?_⟩
    rw [tb, oto_some]
    simp only [Bool.not_true, Ite_false, to_next]
    exact ⟨_, rfl⟩
  rintro ps g ⟨s11, rfl⟩
  simp only [to_ret, to_andV, to_op, to_fn, to_cons, to_nil, to_tup, to_C]
  refine ⟨by decide, rfl, ptextS (ps := []) ⟨by decide, fun _ z => (by cases z)⟩ ?_⟩
  rw [empty]
  have e1 : ∀ g, wEq (strW (TL.joinL [10] (([] : List Pap).flatMap papC))) (.str (S [])) g = some (.bl true, g) := fun g => by
    show wEq (.str (S [])) (.str (S [])) g = _
    rw [eq_S]; simp
  rw [e1, pto_some, bto_bl, Ite_true]
  refine ⟨rfl, ?_⟩
  refine pinS_ok (F := []) (by decide) (by simp) rfl ?_
  have e2 : ∀ g, wEq (.tup (([] : List Pap).map outP)) (.tup []) g = some (.bl true, g) := fun g => by
    rw [wEq_pl (n := 2) (m := 2) (by simp) (by simp) (by decide) (by decide)]
    simp
  refine ⟨by decide, ?_⟩
  rw [e2, pto_some]
theorem law_ok : LawOk F_LAW52 := by
  intro ns hn hb
  obtain ⟨w, g, e, rfl⟩ := (law_run ns hn).is
  exact ⟨g, e⟩
end Mir

/-! the head of law_k52_papers_as_text; printed by gen.py -/
namespace Mir
open PySem PySem.Spec PyProof.Rows L2
def r_row_in : FM := f_row_in f_number_by
def r_Lpick : FM := f_Lpick S_take
def r_Lnames : FM := f_Lnames S_take
def r_Ldue : FM := f_Ldue f_Lwhole
def r_Lbent_text : FM := f_Lbent_text S_take r_Lpick
def r_LAW : FM := f_LAW f_Lstate S_papers f_Lrows_of S_ptext S_pin S_take S_right r_Lbent_text f_Lword
theorem g_is_name {P : Program} {w : World} {K : PySem.W.Frag} {mg : Str → Option Value} {base : Heap} {D : Dat} (T : Txt D K mg) : FnG P w K mg base 1 D.a_is_name D.d_is_name ["thing"] (SPm K 1 f_is_name) := o_is_name T 
theorem g_words_of {P : Program} {w : World} {K : PySem.W.Frag} {mg : Str → Option Value} {base : Heap} {D : Dat} (T : Txt D K mg) : FnG P w K mg base 1 D.a_words_of D.d_words_of ["text"] (SPm K 1 f_words_of) := o_words_of T 
theorem g_number_by {P : Program} {w : World} {K : PySem.W.Frag} {mg : Str → Option Value} {base : Heap} {D : Dat} (T : Txt D K mg) : FnG P w K mg base 1 D.a_number_by D.d_number_by ["word"] (SPm K 1 f_number_by) := o_number_by T 
theorem g_row_text {P : Program} {w : World} {K : PySem.W.Frag} {mg : Str → Option Value} {base : Heap} {D : Dat} (T : Txt D K mg) : FnG P w K mg base 1 D.a_row_text D.d_row_text ["row"] (SPm K 1 f_row_text) := o_row_text T 
theorem g_Lstate {P : Program} {w : World} {K : PySem.W.Frag} {mg : Str → Option Value} {base : Heap} {D : Dat} (T : Txt D K mg) : FnG P w K mg base 1 D.a_Lstate D.d_Lstate ["_law_script"] (SPm K 1 f_Lstate) := o_Lstate T 
theorem g_Ltake {P : Program} {w : World} {K : PySem.W.Frag} {mg : Str → Option Value} {base : Heap} {D : Dat} (T : Txt D K mg) : FnG P w K mg base 1 D.a_Ltake D.d_Ltake ["_law_state_here", "_law_many"] (SPm K 2 S_take) := fits_ok (o_Ltake T ) fits_Ltake
theorem g_Lword {P : Program} {w : World} {K : PySem.W.Frag} {mg : Str → Option Value} {base : Heap} {D : Dat} (T : Txt D K mg) : FnG P w K mg base 1 D.a_Lword D.d_Lword ["_law_e"] (SPm K 1 f_Lword) := o_Lword T 
theorem g_Lrows_of {P : Program} {w : World} {K : PySem.W.Frag} {mg : Str → Option Value} {base : Heap} {D : Dat} (T : Txt D K mg) : FnG P w K mg base 1 D.a_Lrows_of D.d_Lrows_of ["_law_papers_here"] (SPm K 1 f_Lrows_of) := o_Lrows_of T 
theorem g_Lwhole {P : Program} {w : World} {K : PySem.W.Frag} {mg : Str → Option Value} {base : Heap} {D : Dat} (T : Txt D K mg) : FnG P w K mg base 1 D.a_Lwhole D.d_Lwhole ["_law_word_here"] (SPm K 1 f_Lwhole) := o_Lwhole T 
theorem g_papers_text {P : Program} {w : World} {K : PySem.W.Frag} {mg : Str → Option Value} {base : Heap} {D : Dat} (T : Txt D K mg) : FnG P w K mg base 2 D.a_papers_text D.d_papers_text ["papers"] (SPm K 1 S_ptext) := fits_ok (o_papers_text T (g_row_text T)) fits_papers_text
theorem g_row_in {P : Program} {w : World} {K : PySem.W.Frag} {mg : Str → Option Value} {base : Heap} {D : Dat} (T : Txt D K mg) : FnG P w K mg base 2 D.a_row_in D.d_row_in ["words"] (SPm K 1 r_row_in) := o_row_in T (g_number_by T)
theorem g_Lpick {P : Program} {w : World} {K : PySem.W.Frag} {mg : Str → Option Value} {base : Heap} {D : Dat} (T : Txt D K mg) : FnG P w K mg base 2 D.a_Lpick D.d_Lpick ["_law_state_here", "_law_some"] (SPm K 2 r_Lpick) := o_Lpick T (g_Ltake T)
theorem g_Lnames {P : Program} {w : World} {K : PySem.W.Frag} {mg : Str → Option Value} {base : Heap} {D : Dat} (T : Txt D K mg) : FnG P w K mg base 2 D.a_Lnames D.d_Lnames ["_law_state_here", "_law_many"] (SPm K 2 r_Lnames) := o_Lnames T (g_Ltake T)
theorem g_Ldue {P : Program} {w : World} {K : PySem.W.Frag} {mg : Str → Option Value} {base : Heap} {D : Dat} (T : Txt D K mg) : FnG P w K mg base 2 D.a_Ldue D.d_Ldue ["_law_text"] (SPm K 1 r_Ldue) := o_Ldue T (g_Lwhole T)
theorem g_papers_in {P : Program} {w : World} {K : PySem.W.Frag} {mg : Str → Option Value} {base : Heap} {D : Dat} (T : Txt D K mg) : FnG P w K mg base 3 D.a_papers_in D.d_papers_in ["text"] (SPm K 1 S_pin) := fits_ok (o_papers_in T (g_words_of T) (g_is_name T) (g_row_in T)) fits_papers_in
theorem g_Lpapers {P : Program} {w : World} {K : PySem.W.Frag} {mg : Str → Option Value} {base : Heap} {D : Dat} (T : Txt D K mg) : FnG P w K mg base 3 D.a_Lpapers D.d_Lpapers ["_law_state_here"] (SPm K 1 S_papers) := fits_ok (o_Lpapers T (g_Lnames T) (g_Ltake T) (g_Lpick T)) fits_Lpapers
theorem g_Lbent_text {P : Program} {w : World} {K : PySem.W.Frag} {mg : Str → Option Value} {base : Heap} {D : Dat} (T : Txt D K mg) : FnG P w K mg base 3 D.a_Lbent_text D.d_Lbent_text ["_law_state_here", "_law_rows"] (SPm K 2 r_Lbent_text) := o_Lbent_text T (g_Ltake T) (g_Lpick T)
theorem g_Lright {P : Program} {w : World} {K : PySem.W.Frag} {mg : Str → Option Value} {base : Heap} {D : Dat} (T : Txt D K mg) : FnG P w K mg base 4 D.a_Lright D.d_Lright ["_law_text"] (SPm K 1 S_right) := fits_ok (o_Lright T (g_Ldue T) (g_papers_in T) (g_Lword T)) fits_Lright
theorem g_LAW {P : Program} {w : World} {K : PySem.W.Frag} {mg : Str → Option Value} {base : Heap} {D : Dat} (T : Txt D K mg) : FnG P w K mg base 5 D.a_LAW D.d_LAW ["_law_script"] (SPm K 1 r_LAW) := o_LAW T (g_Lstate T) (g_Lpapers T) (g_Lrows_of T) (g_papers_text T) (g_papers_in T) (g_Ltake T) (g_Lright T) (g_Lbent_text T) (g_Lword T)
theorem all_mk {P : Program} {w : World} {K : PySem.W.Frag} {h : Heap} {mg : Str → Option Value} {fa : Addr} (X : K.In h) (G : h.Ns mainGlobals mg) (hfa : mg "law" = some (.ref fa))
    {f0 : Addr} {oc0 kV0 dc0 pm0 cd0 ct0 : Value} {od0 an0 : Option Addr} {sl0 : Array (Option Value)}
    {f1 : Addr} {oc1 kV1 dc1 pm1 cd1 ct1 : Value} {od1 an1 : Option Addr} {sl1 : Array (Option Value)}
    {f2 : Addr} {oc2 kV2 dc2 pm2 cd2 ct2 : Value} {od2 an2 : Option Addr} {sl2 : Array (Option Value)}
    {f3 : Addr} {oc3 kV3 dc3 pm3 cd3 ct3 : Value} {od3 an3 : Option Addr} {sl3 : Array (Option Value)}
    {f4 : Addr} {oc4 kV4 dc4 pm4 cd4 ct4 : Value} {od4 an4 : Option Addr} {sl4 : Array (Option Value)}
    {f5 : Addr} {oc5 kV5 dc5 pm5 cd5 ct5 : Value} {od5 an5 : Option Addr} {sl5 : Array (Option Value)}
    {f6 : Addr} {oc6 kV6 dc6 pm6 cd6 ct6 : Value} {od6 an6 : Option Addr} {sl6 : Array (Option Value)}
    {f7 : Addr} {oc7 kV7 dc7 pm7 cd7 ct7 : Value} {od7 an7 : Option Addr} {sl7 : Array (Option Value)}
    {f8 : Addr} {oc8 kV8 dc8 pm8 cd8 ct8 : Value} {od8 an8 : Option Addr} {sl8 : Array (Option Value)}
    {f9 : Addr} {oc9 kV9 dc9 pm9 cd9 ct9 : Value} {od9 an9 : Option Addr} {sl9 : Array (Option Value)}
    {f10 : Addr} {oc10 kV10 dc10 pm10 cd10 ct10 : Value} {od10 an10 : Option Addr} {sl10 : Array (Option Value)}
    {f11 : Addr} {oc11 kV11 dc11 pm11 cd11 ct11 : Value} {od11 an11 : Option Addr} {sl11 : Array (Option Value)}
    {f12 : Addr} {oc12 kV12 dc12 pm12 cd12 ct12 : Value} {od12 an12 : Option Addr} {sl12 : Array (Option Value)}
    {f13 : Addr} {oc13 kV13 dc13 pm13 cd13 ct13 : Value} {od13 an13 : Option Addr} {sl13 : Array (Option Value)}
    {f14 : Addr} {oc14 kV14 dc14 pm14 cd14 ct14 : Value} {od14 an14 : Option Addr} {sl14 : Array (Option Value)}
    {f15 : Addr} {oc15 kV15 dc15 pm15 cd15 ct15 : Value} {od15 an15 : Option Addr} {sl15 : Array (Option Value)}
    {f16 : Addr} {oc16 kV16 dc16 pm16 cd16 ct16 : Value} {od16 an16 : Option Addr} {sl16 : Array (Option Value)}
    {f17 : Addr} {oc17 kV17 dc17 pm17 cd17 ct17 : Value} {od17 an17 : Option Addr} {sl17 : Array (Option Value)}
    {f18 : Addr} {oc18 kV18 dc18 pm18 cd18 ct18 : Value} {od18 an18 : Option Addr} {sl18 : Array (Option Value)}
    {C_BadArena : Addr}
    {C_BadAsked : Addr}
    {C_BadLine : Addr}
    {C_BadMark : Addr}
    {C_BadRoom : Addr}
    {C_BadRun : Addr}
    {C_BadSaying : Addr}
    {C_BadState : Addr}
    {C_BadText : Addr}
    {C_BadWay : Addr}
    {C_BadWish : Addr}
    {C_BadWorks : Addr}
    {C_DuelError : Addr}
    {C_NoMove : Addr}
    {C_TooGreat : Addr}
    {nm_BadText qn_BadText N_BadText bs_BadText bm_BadText sn_BadText su_BadText ab_BadText co_BadText dd_BadText k0_BadText k1_BadText k2_BadText k3_BadText k5_BadText : _}
    {I_BadText : Addr} {ioc_BadText ikV_BadText idc_BadText ipm_BadText icd_BadText ict_BadText : Value} {iod_BadText ian_BadText : Option Addr} {isl_BadText : Array (Option Value)}
    (a0 : PySem.W.nsIn K mainGlobals "is_name" = some (some (.ref f0))) (l0 : K.lookup f0 = some ⟨oc0, od0, .func (PySem.W.fnOf "is_name" "is_name" (defArgs st_is_name) (defBody st_is_name) (defScope st_is_name) .none kV0 dc0 pm0 an0 cd0 ct0), sl0⟩) (c0 : PySem.W.codeIn K cd0 "is_name" = true) (k0 : PySem.W.keepIn K (.ref f0) = true)
    (a1 : PySem.W.nsIn K mainGlobals "words_of" = some (some (.ref f1))) (l1 : K.lookup f1 = some ⟨oc1, od1, .func (PySem.W.fnOf "words_of" "words_of" (defArgs st_words_of) (defBody st_words_of) (defScope st_words_of) .none kV1 dc1 pm1 an1 cd1 ct1), sl1⟩) (c1 : PySem.W.codeIn K cd1 "words_of" = true) (k1 : PySem.W.keepIn K (.ref f1) = true)
    (a2 : PySem.W.nsIn K mainGlobals "number_by" = some (some (.ref f2))) (l2 : K.lookup f2 = some ⟨oc2, od2, .func (PySem.W.fnOf "number_by" "number_by" (defArgs st_number_by) (defBody st_number_by) (defScope st_number_by) .none kV2 dc2 pm2 an2 cd2 ct2), sl2⟩) (c2 : PySem.W.codeIn K cd2 "number_by" = true) (k2 : PySem.W.keepIn K (.ref f2) = true)
    (a3 : PySem.W.nsIn K mainGlobals "row_text" = some (some (.ref f3))) (l3 : K.lookup f3 = some ⟨oc3, od3, .func (PySem.W.fnOf "row_text" "row_text" (defArgs st_row_text) (defBody st_row_text) (defScope st_row_text) .none kV3 dc3 pm3 an3 cd3 ct3), sl3⟩) (c3 : PySem.W.codeIn K cd3 "row_text" = true) (k3 : PySem.W.keepIn K (.ref f3) = true)
    (a4 : PySem.W.nsIn K mainGlobals "_law_state" = some (some (.ref f4))) (l4 : K.lookup f4 = some ⟨oc4, od4, .func (PySem.W.fnOf "_law_state" "_law_state" (defArgs st_Lstate) (defBody st_Lstate) (defScope st_Lstate) .none kV4 dc4 pm4 an4 cd4 ct4), sl4⟩) (c4 : PySem.W.codeIn K cd4 "_law_state" = true) (k4 : PySem.W.keepIn K (.ref f4) = true)
    (a5 : PySem.W.nsIn K mainGlobals "_law_take" = some (some (.ref f5))) (l5 : K.lookup f5 = some ⟨oc5, od5, .func (PySem.W.fnOf "_law_take" "_law_take" (defArgs st_Ltake) (defBody st_Ltake) (defScope st_Ltake) .none kV5 dc5 pm5 an5 cd5 ct5), sl5⟩) (c5 : PySem.W.codeIn K cd5 "_law_take" = true) (k5 : PySem.W.keepIn K (.ref f5) = true)
    (a6 : PySem.W.nsIn K mainGlobals "_law_word" = some (some (.ref f6))) (l6 : K.lookup f6 = some ⟨oc6, od6, .func (PySem.W.fnOf "_law_word" "_law_word" (defArgs st_Lword) (defBody st_Lword) (defScope st_Lword) .none kV6 dc6 pm6 an6 cd6 ct6), sl6⟩) (c6 : PySem.W.codeIn K cd6 "_law_word" = true) (k6 : PySem.W.keepIn K (.ref f6) = true)
    (a7 : PySem.W.nsIn K mainGlobals "_law_rows_of" = some (some (.ref f7))) (l7 : K.lookup f7 = some ⟨oc7, od7, .func (PySem.W.fnOf "_law_rows_of" "_law_rows_of" (defArgs st_Lrows_of) (defBody st_Lrows_of) (defScope st_Lrows_of) .none kV7 dc7 pm7 an7 cd7 ct7), sl7⟩) (c7 : PySem.W.codeIn K cd7 "_law_rows_of" = true) (k7 : PySem.W.keepIn K (.ref f7) = true)
    (a8 : PySem.W.nsIn K mainGlobals "_law_whole" = some (some (.ref f8))) (l8 : K.lookup f8 = some ⟨oc8, od8, .func (PySem.W.fnOf "_law_whole" "_law_whole" (defArgs st_Lwhole) (defBody st_Lwhole) (defScope st_Lwhole) .none kV8 dc8 pm8 an8 cd8 ct8), sl8⟩) (c8 : PySem.W.codeIn K cd8 "_law_whole" = true) (k8 : PySem.W.keepIn K (.ref f8) = true)
    (a9 : PySem.W.nsIn K mainGlobals "papers_text" = some (some (.ref f9))) (l9 : K.lookup f9 = some ⟨oc9, od9, .func (PySem.W.fnOf "papers_text" "papers_text" (defArgs st_papers_text) (defBody st_papers_text) (defScope st_papers_text) .none kV9 dc9 pm9 an9 cd9 ct9), sl9⟩) (c9 : PySem.W.codeIn K cd9 "papers_text" = true) (k9 : PySem.W.keepIn K (.ref f9) = true)
    (a10 : PySem.W.nsIn K mainGlobals "row_in" = some (some (.ref f10))) (l10 : K.lookup f10 = some ⟨oc10, od10, .func (PySem.W.fnOf "row_in" "row_in" (defArgs st_row_in) (defBody st_row_in) (defScope st_row_in) .none kV10 dc10 pm10 an10 cd10 ct10), sl10⟩) (c10 : PySem.W.codeIn K cd10 "row_in" = true) (k10 : PySem.W.keepIn K (.ref f10) = true)
    (a11 : PySem.W.nsIn K mainGlobals "_law_pick" = some (some (.ref f11))) (l11 : K.lookup f11 = some ⟨oc11, od11, .func (PySem.W.fnOf "_law_pick" "_law_pick" (defArgs st_Lpick) (defBody st_Lpick) (defScope st_Lpick) .none kV11 dc11 pm11 an11 cd11 ct11), sl11⟩) (c11 : PySem.W.codeIn K cd11 "_law_pick" = true) (k11 : PySem.W.keepIn K (.ref f11) = true)
    (a12 : PySem.W.nsIn K mainGlobals "_law_names" = some (some (.ref f12))) (l12 : K.lookup f12 = some ⟨oc12, od12, .func (PySem.W.fnOf "_law_names" "_law_names" (defArgs st_Lnames) (defBody st_Lnames) (defScope st_Lnames) .none kV12 dc12 pm12 an12 cd12 ct12), sl12⟩) (c12 : PySem.W.codeIn K cd12 "_law_names" = true) (k12 : PySem.W.keepIn K (.ref f12) = true)
    (a13 : PySem.W.nsIn K mainGlobals "_law_due" = some (some (.ref f13))) (l13 : K.lookup f13 = some ⟨oc13, od13, .func (PySem.W.fnOf "_law_due" "_law_due" (defArgs st_Ldue) (defBody st_Ldue) (defScope st_Ldue) .none kV13 dc13 pm13 an13 cd13 ct13), sl13⟩) (c13 : PySem.W.codeIn K cd13 "_law_due" = true) (k13 : PySem.W.keepIn K (.ref f13) = true)
    (a14 : PySem.W.nsIn K mainGlobals "papers_in" = some (some (.ref f14))) (l14 : K.lookup f14 = some ⟨oc14, od14, .func (PySem.W.fnOf "papers_in" "papers_in" (defArgs st_papers_in) (defBody st_papers_in) (defScope st_papers_in) .none kV14 dc14 pm14 an14 cd14 ct14), sl14⟩) (c14 : PySem.W.codeIn K cd14 "papers_in" = true) (k14 : PySem.W.keepIn K (.ref f14) = true)
    (a15 : PySem.W.nsIn K mainGlobals "_law_papers" = some (some (.ref f15))) (l15 : K.lookup f15 = some ⟨oc15, od15, .func (PySem.W.fnOf "_law_papers" "_law_papers" (defArgs st_Lpapers) (defBody st_Lpapers) (defScope st_Lpapers) .none kV15 dc15 pm15 an15 cd15 ct15), sl15⟩) (c15 : PySem.W.codeIn K cd15 "_law_papers" = true) (k15 : PySem.W.keepIn K (.ref f15) = true)
    (a16 : PySem.W.nsIn K mainGlobals "_law_bent_text" = some (some (.ref f16))) (l16 : K.lookup f16 = some ⟨oc16, od16, .func (PySem.W.fnOf "_law_bent_text" "_law_bent_text" (defArgs st_Lbent_text) (defBody st_Lbent_text) (defScope st_Lbent_text) .none kV16 dc16 pm16 an16 cd16 ct16), sl16⟩) (c16 : PySem.W.codeIn K cd16 "_law_bent_text" = true) (k16 : PySem.W.keepIn K (.ref f16) = true)
    (a17 : PySem.W.nsIn K mainGlobals "_law_right" = some (some (.ref f17))) (l17 : K.lookup f17 = some ⟨oc17, od17, .func (PySem.W.fnOf "_law_right" "_law_right" (defArgs st_Lright) (defBody st_Lright) (defScope st_Lright) .none kV17 dc17 pm17 an17 cd17 ct17), sl17⟩) (c17 : PySem.W.codeIn K cd17 "_law_right" = true) (k17 : PySem.W.keepIn K (.ref f17) = true)
    (a18 : PySem.W.nsIn K mainGlobals "law" = some (some (.ref f18))) (l18 : K.lookup f18 = some ⟨oc18, od18, .func (PySem.W.fnOf "law" "law" (defArgs st_LAW) (defBody st_LAW) (defScope st_LAW) .none kV18 dc18 pm18 an18 cd18 ct18), sl18⟩) (c18 : PySem.W.codeIn K cd18 "law" = true) (k18 : PySem.W.keepIn K (.ref f18) = true)
    (a_BadArena : PySem.W.nsIn K mainGlobals "BadArena" = some (some (.ref C_BadArena)))
    (a_BadAsked : PySem.W.nsIn K mainGlobals "BadAsked" = some (some (.ref C_BadAsked)))
    (a_BadLine : PySem.W.nsIn K mainGlobals "BadLine" = some (some (.ref C_BadLine)))
    (a_BadMark : PySem.W.nsIn K mainGlobals "BadMark" = some (some (.ref C_BadMark)))
    (a_BadRoom : PySem.W.nsIn K mainGlobals "BadRoom" = some (some (.ref C_BadRoom)))
    (a_BadRun : PySem.W.nsIn K mainGlobals "BadRun" = some (some (.ref C_BadRun)))
    (a_BadSaying : PySem.W.nsIn K mainGlobals "BadSaying" = some (some (.ref C_BadSaying)))
    (a_BadState : PySem.W.nsIn K mainGlobals "BadState" = some (some (.ref C_BadState)))
    (a_BadText : PySem.W.nsIn K mainGlobals "BadText" = some (some (.ref C_BadText)))
    (a_BadWay : PySem.W.nsIn K mainGlobals "BadWay" = some (some (.ref C_BadWay)))
    (a_BadWish : PySem.W.nsIn K mainGlobals "BadWish" = some (some (.ref C_BadWish)))
    (a_BadWorks : PySem.W.nsIn K mainGlobals "BadWorks" = some (some (.ref C_BadWorks)))
    (a_DuelError : PySem.W.nsIn K mainGlobals "DuelError" = some (some (.ref C_DuelError)))
    (a_NoMove : PySem.W.nsIn K mainGlobals "NoMove" = some (some (.ref C_NoMove)))
    (a_TooGreat : PySem.W.nsIn K mainGlobals "TooGreat" = some (some (.ref C_TooGreat)))
    (hg_BadText : PySem.W.findIn K (.ref C_BadText) "__getattribute__" = some (some (.builtin "BaseException.__getattribute__")))
    (hk_BadText : PySem.W.findIn K (.ref C_BadText) "__getattr__" = some none)
    (hs_BadText : PySem.W.subIn K (.ref C_BadText) (.type "BaseException") = some true)
    (hd_BadText : PySem.W.hasDictIn K C_BadText = true)
    (ha_BadText : PySem.W.findIn K (.ref C_BadText) "__class__" = some (some (.builtin "object.__class__")))
    (hm_BadText : PySem.W.mroIn K C_BadText (.type "object") = some true)
    (lc_BadText : K.lookup C_BadText = some (excClassObj nm_BadText qn_BadText C_BadText N_BadText bs_BadText bm_BadText true sn_BadText su_BadText ab_BadText co_BadText dd_BadText k0_BadText k1_BadText k2_BadText k3_BadText k5_BadText "ValueError.__new__"))
    (rb_BadText : PySem.HandSPX.refsVE bm_BadText = true)
    (sa_BadText : PySem.W.findIn K (.ref C_BadText) "__setattr__" = some (some (.builtin "object.__setattr__")))
    (kp_BadText : PySem.W.keepIn K (.ref C_BadText) = true)
    (sb_BadText : PySem.W.subIn K (.ref C_BadText) (.type "BaseException") = some true)
    (ty_BadText : PySem.W.typeIn K (.ref C_BadText) = some (.type "type"))
    (fi_BadText : PySem.W.findIn K (.ref C_BadText) "__init__" = some (some (.ref I_BadText)))
    (ti_BadText : PySem.W.typeIn K (.ref I_BadText) = some (.type "function"))
    (li_BadText : K.lookup I_BadText = some ⟨ioc_BadText, iod_BadText, .func (PySem.W.fnOf "__init__" "BadText.__init__" (defArgs in_BadText) (defBody in_BadText) (defScope in_BadText) .none ikV_BadText idc_BadText ipm_BadText ian_BadText icd_BadText ict_BadText), isl_BadText⟩)
    (ci_BadText : PySem.W.codeIn K icd_BadText "BadText.__init__" = true)
    (ki_BadText : PySem.W.keepIn K (.ref I_BadText) = true)
    (no_line_BadText : PySem.W.findIn K (.ref C_BadText) "line" = some none)
    (q_n : PySem.W.specialIn K (.builtin "object.__class__") "__get__" = some (some (.builtin "getset_descriptor.__get__")))
    (q_t : PySem.W.takesIn K (.builtin "object.__class__") = some true)
    (k_BadText_BadArena : PySem.W.kitOne K (.ref C_BadText) (.ref C_BadArena) = some false)
    (k_BadText_BadAsked : PySem.W.kitOne K (.ref C_BadText) (.ref C_BadAsked) = some false)
    (k_BadText_BadLine : PySem.W.kitOne K (.ref C_BadText) (.ref C_BadLine) = some false)
    (k_BadText_BadMark : PySem.W.kitOne K (.ref C_BadText) (.ref C_BadMark) = some false)
    (k_BadText_BadRoom : PySem.W.kitOne K (.ref C_BadText) (.ref C_BadRoom) = some false)
    (k_BadText_BadRun : PySem.W.kitOne K (.ref C_BadText) (.ref C_BadRun) = some false)
    (k_BadText_BadSaying : PySem.W.kitOne K (.ref C_BadText) (.ref C_BadSaying) = some false)
    (k_BadText_BadState : PySem.W.kitOne K (.ref C_BadText) (.ref C_BadState) = some false)
    (k_BadText_BadText : PySem.W.kitOne K (.ref C_BadText) (.ref C_BadText) = some true)
    (k_BadText_BadWay : PySem.W.kitOne K (.ref C_BadText) (.ref C_BadWay) = some false)
    (k_BadText_BadWish : PySem.W.kitOne K (.ref C_BadText) (.ref C_BadWish) = some false)
    (k_BadText_BadWorks : PySem.W.kitOne K (.ref C_BadText) (.ref C_BadWorks) = some false)
    (k_BadText_NoMove : PySem.W.kitOne K (.ref C_BadText) (.ref C_NoMove) = some false)
    (k_BadText_TooGreat : PySem.W.kitOne K (.ref C_BadText) (.ref C_TooGreat) = some false)
    (k_BadText_ValueError : PySem.W.kitOne K (.ref C_BadText) (.type "ValueError") = some true)
    (x1_DuelError : PySem.W.subIn K (.ref C_DuelError) (.type "BaseException") = some true) (x2_DuelError : PySem.W.hasDictIn K C_DuelError = true) (x3_DuelError : PySem.W.typeIn K (.ref C_DuelError) = some (.type "type"))
    (s_BadText_DuelError : PySem.W.subIn K (.ref C_BadText) (.ref C_DuelError) = some true)
    (dr_DuelError : PySem.W.readsIn K C_DuelError (.type "type") = true)
    (ds_DuelError : PySem.W.specialIn K (.ref C_DuelError) "__getattribute__" = some (some (.builtin "type.__getattribute__")))
    (df_DuelError : PySem.W.findCls K (.ref C_DuelError) (.type "type") "__init__" = some (.val (.builtin "ValueError.__init__")))
    (n_ValueError : PySem.W.nsIn K mainGlobals "ValueError" = some none)
    (n_all : PySem.W.nsIn K mainGlobals "all" = some none)
    (n_bool : PySem.W.nsIn K mainGlobals "bool" = some none)
    (n_enumerate : PySem.W.nsIn K mainGlobals "enumerate" = some none)
    (n_int : PySem.W.nsIn K mainGlobals "int" = some none)
    (n_isinstance : PySem.W.nsIn K mainGlobals "isinstance" = some none)
    (n_len : PySem.W.nsIn K mainGlobals "len" = some none)
    (n_range : PySem.W.nsIn K mainGlobals "range" = some none)
    (n_repr : PySem.W.nsIn K mainGlobals "repr" = some none)
    (n_str : PySem.W.nsIn K mainGlobals "str" = some none)
    (n_tuple : PySem.W.nsIn K mainGlobals "tuple" = some none)
    {t_EMPTY : Tok} (v_EMPTY : PySem.W.nsIn K mainGlobals "EMPTY" = some (some (.str "none" t_EMPTY)))
    {t_FIGURES : Tok} (v_FIGURES : PySem.W.nsIn K mainGlobals "FIGURES" = some (some (.str "0123456789" t_FIGURES)))
    {t_LETTERS : Tok} (v_LETTERS : PySem.W.nsIn K mainGlobals "LETTERS" = some (some (.str "abcdefghijklmnopqrstuvwxyz" t_LETTERS)))
    {t_MOST_FIGURES : Tok} (v_MOST_FIGURES : PySem.W.nsIn K mainGlobals "MOST_FIGURES" = some (some (.int 15 t_MOST_FIGURES)))
    {t_MOST_LETTERS : Tok} (v_MOST_LETTERS : PySem.W.nsIn K mainGlobals "MOST_LETTERS" = some (some (.int 8 t_MOST_LETTERS))) :
    ∃ fd : FuncData, (∀ (s : Shared) (u : Value), BindsTo s fd ⟨[u], []⟩ [("_law_script", u)]) ∧ ∀ base : Heap, K.In base → base.Ns mainGlobals mg → FnG P w K mg base 5 fa fd ["_law_script"] (SPm K 1 r_LAW) := by
  have e := hfa.symm.trans (PySem.W.mg_of X G a18)
  cases e
  let D : Dat := ⟨f0, (PySem.W.fnOf "is_name" "is_name" (defArgs st_is_name) (defBody st_is_name) (defScope st_is_name) .none kV0 dc0 pm0 an0 cd0 ct0), f1, (PySem.W.fnOf "words_of" "words_of" (defArgs st_words_of) (defBody st_words_of) (defScope st_words_of) .none kV1 dc1 pm1 an1 cd1 ct1), f2, (PySem.W.fnOf "number_by" "number_by" (defArgs st_number_by) (defBody st_number_by) (defScope st_number_by) .none kV2 dc2 pm2 an2 cd2 ct2), f3, (PySem.W.fnOf "row_text" "row_text" (defArgs st_row_text) (defBody st_row_text) (defScope st_row_text) .none kV3 dc3 pm3 an3 cd3 ct3), f4, (PySem.W.fnOf "_law_state" "_law_state" (defArgs st_Lstate) (defBody st_Lstate) (defScope st_Lstate) .none kV4 dc4 pm4 an4 cd4 ct4), f5, (PySem.W.fnOf "_law_take" "_law_take" (defArgs st_Ltake) (defBody st_Ltake) (defScope st_Ltake) .none kV5 dc5 pm5 an5 cd5 ct5), f6, (PySem.W.fnOf "_law_word" "_law_word" (defArgs st_Lword) (defBody st_Lword) (defScope st_Lword) .none kV6 dc6 pm6 an6 cd6 ct6), f7, (PySem.W.fnOf "_law_rows_of" "_law_rows_of" (defArgs st_Lrows_of) (defBody st_Lrows_of) (defScope st_Lrows_of) .none kV7 dc7 pm7 an7 cd7 ct7), f8, (PySem.W.fnOf "_law_whole" "_law_whole" (defArgs st_Lwhole) (defBody st_Lwhole) (defScope st_Lwhole) .none kV8 dc8 pm8 an8 cd8 ct8), f9, (PySem.W.fnOf "papers_text" "papers_text" (defArgs st_papers_text) (defBody st_papers_text) (defScope st_papers_text) .none kV9 dc9 pm9 an9 cd9 ct9), f10, (PySem.W.fnOf "row_in" "row_in" (defArgs st_row_in) (defBody st_row_in) (defScope st_row_in) .none kV10 dc10 pm10 an10 cd10 ct10), f11, (PySem.W.fnOf "_law_pick" "_law_pick" (defArgs st_Lpick) (defBody st_Lpick) (defScope st_Lpick) .none kV11 dc11 pm11 an11 cd11 ct11), f12, (PySem.W.fnOf "_law_names" "_law_names" (defArgs st_Lnames) (defBody st_Lnames) (defScope st_Lnames) .none kV12 dc12 pm12 an12 cd12 ct12), f13, (PySem.W.fnOf "_law_due" "_law_due" (defArgs st_Ldue) (defBody st_Ldue) (defScope st_Ldue) .none kV13 dc13 pm13 an13 cd13 ct13), f14, (PySem.W.fnOf "papers_in" "papers_in" (defArgs st_papers_in) (defBody st_papers_in) (defScope st_papers_in) .none kV14 dc14 pm14 an14 cd14 ct14), f15, (PySem.W.fnOf "_law_papers" "_law_papers" (defArgs st_Lpapers) (defBody st_Lpapers) (defScope st_Lpapers) .none kV15 dc15 pm15 an15 cd15 ct15), f16, (PySem.W.fnOf "_law_bent_text" "_law_bent_text" (defArgs st_Lbent_text) (defBody st_Lbent_text) (defScope st_Lbent_text) .none kV16 dc16 pm16 an16 cd16 ct16), f17, (PySem.W.fnOf "_law_right" "_law_right" (defArgs st_Lright) (defBody st_Lright) (defScope st_Lright) .none kV17 dc17 pm17 an17 cd17 ct17), fa, (PySem.W.fnOf "law" "law" (defArgs st_LAW) (defBody st_LAW) (defScope st_LAW) .none kV18 dc18 pm18 an18 cd18 ct18), C_BadArena, C_BadAsked, C_BadLine, C_BadMark, C_BadRoom, C_BadRun, C_BadSaying, C_BadState, C_BadText, C_BadWay, C_BadWish, C_BadWorks, C_DuelError, C_NoMove, C_TooGreat, I_BadText, (PySem.W.fnOf "__init__" "BadText.__init__" (defArgs in_BadText) (defBody in_BadText) (defScope in_BadText) .none ikV_BadText idc_BadText ipm_BadText ian_BadText icd_BadText ict_BadText)⟩
  have T : Txt D K mg := {
    g_is_name := PySem.W.mg_of X G a0
    f_is_name := fun_mk l0 c0 k0
    b_is_name := Fun.binds (fun_mk (st := st_is_name) l0 c0 k0) (ps := ["thing"]) fun _ _ _ _ _ _ us hl => match us, hl with | [_], _ => rfl
    g_words_of := PySem.W.mg_of X G a1
    f_words_of := fun_mk l1 c1 k1
    b_words_of := Fun.binds (fun_mk (st := st_words_of) l1 c1 k1) (ps := ["text"]) fun _ _ _ _ _ _ us hl => match us, hl with | [_], _ => rfl
    g_number_by := PySem.W.mg_of X G a2
    f_number_by := fun_mk l2 c2 k2
    b_number_by := Fun.binds (fun_mk (st := st_number_by) l2 c2 k2) (ps := ["word"]) fun _ _ _ _ _ _ us hl => match us, hl with | [_], _ => rfl
    g_row_text := PySem.W.mg_of X G a3
    f_row_text := fun_mk l3 c3 k3
    b_row_text := Fun.binds (fun_mk (st := st_row_text) l3 c3 k3) (ps := ["row"]) fun _ _ _ _ _ _ us hl => match us, hl with | [_], _ => rfl
    g_Lstate := PySem.W.mg_of X G a4
    f_Lstate := fun_mk l4 c4 k4
    b_Lstate := Fun.binds (fun_mk (st := st_Lstate) l4 c4 k4) (ps := ["_law_script"]) fun _ _ _ _ _ _ us hl => match us, hl with | [_], _ => rfl
    g_Ltake := PySem.W.mg_of X G a5
    f_Ltake := fun_mk l5 c5 k5
    b_Ltake := Fun.binds (fun_mk (st := st_Ltake) l5 c5 k5) (ps := ["_law_state_here", "_law_many"]) fun _ _ _ _ _ _ us hl => match us, hl with | [_, _], _ => rfl
    g_Lword := PySem.W.mg_of X G a6
    f_Lword := fun_mk l6 c6 k6
    b_Lword := Fun.binds (fun_mk (st := st_Lword) l6 c6 k6) (ps := ["_law_e"]) fun _ _ _ _ _ _ us hl => match us, hl with | [_], _ => rfl
    g_Lrows_of := PySem.W.mg_of X G a7
    f_Lrows_of := fun_mk l7 c7 k7
    b_Lrows_of := Fun.binds (fun_mk (st := st_Lrows_of) l7 c7 k7) (ps := ["_law_papers_here"]) fun _ _ _ _ _ _ us hl => match us, hl with | [_], _ => rfl
    g_Lwhole := PySem.W.mg_of X G a8
    f_Lwhole := fun_mk l8 c8 k8
    b_Lwhole := Fun.binds (fun_mk (st := st_Lwhole) l8 c8 k8) (ps := ["_law_word_here"]) fun _ _ _ _ _ _ us hl => match us, hl with | [_], _ => rfl
    g_papers_text := PySem.W.mg_of X G a9
    f_papers_text := fun_mk l9 c9 k9
    b_papers_text := Fun.binds (fun_mk (st := st_papers_text) l9 c9 k9) (ps := ["papers"]) fun _ _ _ _ _ _ us hl => match us, hl with | [_], _ => rfl
    g_row_in := PySem.W.mg_of X G a10
    f_row_in := fun_mk l10 c10 k10
    b_row_in := Fun.binds (fun_mk (st := st_row_in) l10 c10 k10) (ps := ["words"]) fun _ _ _ _ _ _ us hl => match us, hl with | [_], _ => rfl
    g_Lpick := PySem.W.mg_of X G a11
    f_Lpick := fun_mk l11 c11 k11
    b_Lpick := Fun.binds (fun_mk (st := st_Lpick) l11 c11 k11) (ps := ["_law_state_here", "_law_some"]) fun _ _ _ _ _ _ us hl => match us, hl with | [_, _], _ => rfl
    g_Lnames := PySem.W.mg_of X G a12
    f_Lnames := fun_mk l12 c12 k12
    b_Lnames := Fun.binds (fun_mk (st := st_Lnames) l12 c12 k12) (ps := ["_law_state_here", "_law_many"]) fun _ _ _ _ _ _ us hl => match us, hl with | [_, _], _ => rfl
    g_Ldue := PySem.W.mg_of X G a13
    f_Ldue := fun_mk l13 c13 k13
    b_Ldue := Fun.binds (fun_mk (st := st_Ldue) l13 c13 k13) (ps := ["_law_text"]) fun _ _ _ _ _ _ us hl => match us, hl with | [_], _ => rfl
    g_papers_in := PySem.W.mg_of X G a14
    f_papers_in := fun_mk l14 c14 k14
    b_papers_in := Fun.binds (fun_mk (st := st_papers_in) l14 c14 k14) (ps := ["text"]) fun _ _ _ _ _ _ us hl => match us, hl with | [_], _ => rfl
    g_Lpapers := PySem.W.mg_of X G a15
    f_Lpapers := fun_mk l15 c15 k15
    b_Lpapers := Fun.binds (fun_mk (st := st_Lpapers) l15 c15 k15) (ps := ["_law_state_here"]) fun _ _ _ _ _ _ us hl => match us, hl with | [_], _ => rfl
    g_Lbent_text := PySem.W.mg_of X G a16
    f_Lbent_text := fun_mk l16 c16 k16
    b_Lbent_text := Fun.binds (fun_mk (st := st_Lbent_text) l16 c16 k16) (ps := ["_law_state_here", "_law_rows"]) fun _ _ _ _ _ _ us hl => match us, hl with | [_, _], _ => rfl
    g_Lright := PySem.W.mg_of X G a17
    f_Lright := fun_mk l17 c17 k17
    b_Lright := Fun.binds (fun_mk (st := st_Lright) l17 c17 k17) (ps := ["_law_text"]) fun _ _ _ _ _ _ us hl => match us, hl with | [_], _ => rfl
    g_LAW := PySem.W.mg_of X G a18
    f_LAW := fun_mk l18 c18 k18
    b_LAW := Fun.binds (fun_mk (st := st_LAW) l18 c18 k18) (ps := ["_law_script"]) fun _ _ _ _ _ _ us hl => match us, hl with | [_], _ => rfl
    m_BadArena := PySem.W.mg_of X G a_BadArena
    m_BadAsked := PySem.W.mg_of X G a_BadAsked
    m_BadLine := PySem.W.mg_of X G a_BadLine
    m_BadMark := PySem.W.mg_of X G a_BadMark
    m_BadRoom := PySem.W.mg_of X G a_BadRoom
    m_BadRun := PySem.W.mg_of X G a_BadRun
    m_BadSaying := PySem.W.mg_of X G a_BadSaying
    m_BadState := PySem.W.mg_of X G a_BadState
    m_BadText := PySem.W.mg_of X G a_BadText
    m_BadWay := PySem.W.mg_of X G a_BadWay
    m_BadWish := PySem.W.mg_of X G a_BadWish
    m_BadWorks := PySem.W.mg_of X G a_BadWorks
    m_DuelError := PySem.W.mg_of X G a_DuelError
    m_NoMove := PySem.W.mg_of X G a_NoMove
    m_TooGreat := PySem.W.mg_of X G a_TooGreat
    ns_BadText := a_BadText
    ox_BadText := ⟨⟨_, _, _, _, _, _, _, _, _, _, _, _, _, _, _, lc_BadText, rb_BadText⟩, sa_BadText, sb_BadText, ty_BadText, kp_BadText⟩
    fi_BadText := fi_BadText
    ti_BadText := ti_BadText
    fn_BadText := fun_mk li_BadText ci_BadText ki_BadText
    bi_BadText := Fun.binds (fun_mk (st := in_BadText) li_BadText ci_BadText ki_BadText) (ps := ["self", "line"]) fun _ _ _ _ _ _ us hl => match us, hl with | [_, _], _ => rfl
    no_BadText_line := no_line_BadText
    p_BadArena := fun c hc => by
      simp only [knL, List.mem_cons, List.not_mem_nil, or_false] at hc
      rcases hc with rfl
      · exact epair_of a_BadText (.inl (PySem.W.mg_of X G a_BadArena)) k_BadText_BadArena (by decide)
    p_BadAsked := fun c hc => by
      simp only [knL, List.mem_cons, List.not_mem_nil, or_false] at hc
      rcases hc with rfl
      · exact epair_of a_BadText (.inl (PySem.W.mg_of X G a_BadAsked)) k_BadText_BadAsked (by decide)
    p_BadLine := fun c hc => by
      simp only [knL, List.mem_cons, List.not_mem_nil, or_false] at hc
      rcases hc with rfl
      · exact epair_of a_BadText (.inl (PySem.W.mg_of X G a_BadLine)) k_BadText_BadLine (by decide)
    p_BadMark := fun c hc => by
      simp only [knL, List.mem_cons, List.not_mem_nil, or_false] at hc
      rcases hc with rfl
      · exact epair_of a_BadText (.inl (PySem.W.mg_of X G a_BadMark)) k_BadText_BadMark (by decide)
    p_BadRoom := fun c hc => by
      simp only [knL, List.mem_cons, List.not_mem_nil, or_false] at hc
      rcases hc with rfl
      · exact epair_of a_BadText (.inl (PySem.W.mg_of X G a_BadRoom)) k_BadText_BadRoom (by decide)
    p_BadRun := fun c hc => by
      simp only [knL, List.mem_cons, List.not_mem_nil, or_false] at hc
      rcases hc with rfl
      · exact epair_of a_BadText (.inl (PySem.W.mg_of X G a_BadRun)) k_BadText_BadRun (by decide)
    p_BadSaying := fun c hc => by
      simp only [knL, List.mem_cons, List.not_mem_nil, or_false] at hc
      rcases hc with rfl
      · exact epair_of a_BadText (.inl (PySem.W.mg_of X G a_BadSaying)) k_BadText_BadSaying (by decide)
    p_BadState := fun c hc => by
      simp only [knL, List.mem_cons, List.not_mem_nil, or_false] at hc
      rcases hc with rfl
      · exact epair_of a_BadText (.inl (PySem.W.mg_of X G a_BadState)) k_BadText_BadState (by decide)
    p_BadText := fun c hc => by
      simp only [knL, List.mem_cons, List.not_mem_nil, or_false] at hc
      rcases hc with rfl
      · exact epair_of a_BadText (.inl (PySem.W.mg_of X G a_BadText)) k_BadText_BadText (by decide)
    p_BadWay := fun c hc => by
      simp only [knL, List.mem_cons, List.not_mem_nil, or_false] at hc
      rcases hc with rfl
      · exact epair_of a_BadText (.inl (PySem.W.mg_of X G a_BadWay)) k_BadText_BadWay (by decide)
    p_BadWish := fun c hc => by
      simp only [knL, List.mem_cons, List.not_mem_nil, or_false] at hc
      rcases hc with rfl
      · exact epair_of a_BadText (.inl (PySem.W.mg_of X G a_BadWish)) k_BadText_BadWish (by decide)
    p_BadWorks := fun c hc => by
      simp only [knL, List.mem_cons, List.not_mem_nil, or_false] at hc
      rcases hc with rfl
      · exact epair_of a_BadText (.inl (PySem.W.mg_of X G a_BadWorks)) k_BadText_BadWorks (by decide)
    p_NoMove := fun c hc => by
      simp only [knL, List.mem_cons, List.not_mem_nil, or_false] at hc
      rcases hc with rfl
      · exact epair_of a_BadText (.inl (PySem.W.mg_of X G a_NoMove)) k_BadText_NoMove (by decide)
    p_TooGreat := fun c hc => by
      simp only [knL, List.mem_cons, List.not_mem_nil, or_false] at hc
      rcases hc with rfl
      · exact epair_of a_BadText (.inl (PySem.W.mg_of X G a_TooGreat)) k_BadText_TooGreat (by decide)
    p_ValueError := fun c hc => by
      simp only [knL, List.mem_cons, List.not_mem_nil, or_false] at hc
      rcases hc with rfl
      · exact epair_of a_BadText (.inr ⟨PySem.W.mg_none_of X G n_ValueError, rfl⟩) k_BadText_ValueError (by decide)
    h_DuelError := fun c hc => by
      simp only [knL, List.mem_cons, List.not_mem_nil, or_false] at hc
      rcases hc with rfl
      · exact emat_of a_BadText (.inl (PySem.W.mg_of X G a_DuelError)) (PySem.W.exm_ref x1_DuelError x2_DuelError x3_DuelError s_BadText_DuelError) (by decide)
    fl_line := fun c hc => by
      simp only [kn_line, List.mem_cons, List.not_mem_nil, or_false] at hc
      rcases hc with rfl
      · exact fun C e => by
          rw [a_BadText] at e
          cases e
          exact ⟨⟨hg_BadText, hk_BadText, hs_BadText, hd_BadText⟩, no_line_BadText⟩
    fl_word := fun c hc => by
      unfold kn_word at hc
      cases hc
    xs := fun c hc => by
      simp only [knL, List.mem_cons, List.not_mem_nil, or_false] at hc
      rcases hc with rfl
      · exact exn_of a_BadText ⟨hg_BadText, hk_BadText, hs_BadText, hd_BadText, ha_BadText, q_n, q_t, hm_BadText⟩
    di_DuelError := ⟨PySem.W.mg_of X G a_DuelError, dr_DuelError, ds_DuelError, df_DuelError⟩
    n_ValueError := PySem.W.mg_none_of X G n_ValueError
    n_all := PySem.W.mg_none_of X G n_all
    n_bool := PySem.W.mg_none_of X G n_bool
    n_enumerate := PySem.W.mg_none_of X G n_enumerate
    n_int := PySem.W.mg_none_of X G n_int
    n_isinstance := PySem.W.mg_none_of X G n_isinstance
    n_len := PySem.W.mg_none_of X G n_len
    n_range := PySem.W.mg_none_of X G n_range
    n_repr := PySem.W.mg_none_of X G n_repr
    n_str := PySem.W.mg_none_of X G n_str
    n_tuple := PySem.W.mg_none_of X G n_tuple
    k_EMPTY := ⟨_, PySem.W.mg_of X G v_EMPTY⟩
    k_FIGURES := ⟨_, PySem.W.mg_of X G v_FIGURES⟩
    k_LETTERS := ⟨_, PySem.W.mg_of X G v_LETTERS⟩
    k_MOST_FIGURES := ⟨_, PySem.W.mg_of X G v_MOST_FIGURES⟩
    k_MOST_LETTERS := ⟨_, PySem.W.mg_of X G v_MOST_LETTERS⟩ }
  exact ⟨D.d_LAW, fun s u => .of_eq rfl, fun base _ _ => g_LAW T⟩

theorem head : PySem.Challenge.rw_waitduel_k52_papers_as_text.Holds := by
  w_on; o_law; k_head; (case hw => w_witness2)
  k_fill
  refine walk_m (l := PySem.Challenge.rw_waitduel_k52_papers_as_text) (k := 5) (x := "_law_script") (F := r_LAW) rfl rfl ⟨rfl, by decide, by decide⟩ (fun w h Y => PySem.W.kIn_of Y) law_ok ?F
  case F =>
    intro w mg fa h KX G hmg
    refine' all_mk KX G hmg ?a0 ?l0 ?c0 ?k0 ?a1 ?l1 ?c1 ?k1 ?a2 ?l2 ?c2 ?k2 ?a3 ?l3 ?c3 ?k3 ?a4 ?l4 ?c4 ?k4 ?a5 ?l5 ?c5 ?k5 ?a6 ?l6 ?c6 ?k6 ?a7 ?l7 ?c7 ?k7 ?a8 ?l8 ?c8 ?k8 ?a9 ?l9 ?c9 ?k9 ?a10 ?l10 ?c10 ?k10 ?a11 ?l11 ?c11 ?k11 ?a12 ?l12 ?c12 ?k12 ?a13 ?l13 ?c13 ?k13 ?a14 ?l14 ?c14 ?k14 ?a15 ?l15 ?c15 ?k15 ?a16 ?l16 ?c16 ?k16 ?a17 ?l17 ?c17 ?k17 ?a18 ?l18 ?c18 ?k18 ?a_BadArena ?a_BadAsked ?a_BadLine ?a_BadMark ?a_BadRoom ?a_BadRun ?a_BadSaying ?a_BadState ?a_BadText ?a_BadWay ?a_BadWish ?a_BadWorks ?a_DuelError ?a_NoMove ?a_TooGreat ?hg_BadText ?hk_BadText ?hs_BadText ?hd_BadText ?ha_BadText ?hm_BadText ?lc_BadText ?rb_BadText ?sa_BadText ?kp_BadText ?sb_BadText ?ty_BadText ?fi_BadText ?ti_BadText ?li_BadText ?ci_BadText ?ki_BadText ?no_line_BadText ?q_n ?q_t ?k_BadText_BadArena ?k_BadText_BadAsked ?k_BadText_BadLine ?k_BadText_BadMark ?k_BadText_BadRoom ?k_BadText_BadRun ?k_BadText_BadSaying ?k_BadText_BadState ?k_BadText_BadText ?k_BadText_BadWay ?k_BadText_BadWish ?k_BadText_BadWorks ?k_BadText_NoMove ?k_BadText_TooGreat ?k_BadText_ValueError ?x1_DuelError ?x2_DuelError ?x3_DuelError ?s_BadText_DuelError ?dr_DuelError ?ds_DuelError ?df_DuelError ?n_ValueError ?n_all ?n_bool ?n_enumerate ?n_int ?n_isinstance ?n_len ?n_range ?n_repr ?n_str ?n_tuple ?v_EMPTY ?v_FIGURES ?v_LETTERS ?v_MOST_FIGURES ?v_MOST_LETTERS
    (case a0 => k_is)
    (case l0 => k_is)
    (case c0 => k_is)
    (case k0 => k_is)
    (case a1 => k_is)
    (case l1 => k_is)
    (case c1 => k_is)
    (case k1 => k_is)
    (case a2 => k_is)
    (case l2 => k_is)
    (case c2 => k_is)
    (case k2 => k_is)
    (case a3 => k_is)
    (case l3 => k_is)
    (case c3 => k_is)
    (case k3 => k_is)
    (case a4 => k_is)
    (case l4 => k_is)
    (case c4 => k_is)
    (case k4 => k_is)
    (case a5 => k_is)
    (case l5 => k_is)
    (case c5 => k_is)
    (case k5 => k_is)
    (case a6 => k_is)
    (case l6 => k_is)
    (case c6 => k_is)
    (case k6 => k_is)
    (case a7 => k_is)
    (case l7 => k_is)
    (case c7 => k_is)
    (case k7 => k_is)
    (case a8 => k_is)
    (case l8 => k_is)
    (case c8 => k_is)
    (case k8 => k_is)
    (case a9 => k_is)
    (case l9 => k_is)
    (case c9 => k_is)
    (case k9 => k_is)
    (case a10 => k_is)
    (case l10 => k_is)
    (case c10 => k_is)
    (case k10 => k_is)
    (case a11 => k_is)
    (case l11 => k_is)
    (case c11 => k_is)
    (case k11 => k_is)
    (case a12 => k_is)
    (case l12 => k_is)
    (case c12 => k_is)
    (case k12 => k_is)
    (case a13 => k_is)
    (case l13 => k_is)
    (case c13 => k_is)
    (case k13 => k_is)
    (case a14 => k_is)
    (case l14 => k_is)
    (case c14 => k_is)
    (case k14 => k_is)
    (case a15 => k_is)
    (case l15 => k_is)
    (case c15 => k_is)
    (case k15 => k_is)
    (case a16 => k_is)
    (case l16 => k_is)
    (case c16 => k_is)
    (case k16 => k_is)
    (case a17 => k_is)
    (case l17 => k_is)
    (case c17 => k_is)
    (case k17 => k_is)
    (case a18 => k_is)
    (case l18 => k_is)
    (case c18 => k_is)
    (case k18 => k_is)
    (case a_BadArena => k_is)
    (case a_BadAsked => k_is)
    (case a_BadLine => k_is)
    (case a_BadMark => k_is)
    (case a_BadRoom => k_is)
    (case a_BadRun => k_is)
    (case a_BadSaying => k_is)
    (case a_BadState => k_is)
    (case a_BadText => k_is)
    (case a_BadWay => k_is)
    (case a_BadWish => k_is)
    (case a_BadWorks => k_is)
    (case a_DuelError => k_is)
    (case a_NoMove => k_is)
    (case a_TooGreat => k_is)
    (case hg_BadText => k_is)
    (case hk_BadText => k_is)
    (case hs_BadText => k_is)
    (case hd_BadText => k_is)
    (case ha_BadText => k_is)
    (case hm_BadText => k_is)
    (case lc_BadText => k_is)
    (case rb_BadText => decide +kernel)
    (case sa_BadText => k_is)
    (case kp_BadText => k_is)
    (case sb_BadText => k_is)
    (case ty_BadText => k_is)
    (case fi_BadText => k_is)
    (case ti_BadText => k_is)
    (case li_BadText => k_is)
    (case ci_BadText => k_is)
    (case ki_BadText => k_is)
    (case no_line_BadText => k_is)
    (case q_n => k_is)
    (case q_t => k_is)
    (case k_BadText_BadArena => kit_is)
    (case k_BadText_BadAsked => kit_is)
    (case k_BadText_BadLine => kit_is)
    (case k_BadText_BadMark => kit_is)
    (case k_BadText_BadRoom => kit_is)
    (case k_BadText_BadRun => kit_is)
    (case k_BadText_BadSaying => kit_is)
    (case k_BadText_BadState => kit_is)
    (case k_BadText_BadText => kit_is)
    (case k_BadText_BadWay => kit_is)
    (case k_BadText_BadWish => kit_is)
    (case k_BadText_BadWorks => kit_is)
    (case k_BadText_NoMove => kit_is)
    (case k_BadText_TooGreat => kit_is)
    (case k_BadText_ValueError => kit_is)
    (case x1_DuelError => k_is)
    (case x2_DuelError => k_is)
    (case x3_DuelError => k_is)
    (case s_BadText_DuelError => k_is)
    (case dr_DuelError => k_is)
    (case ds_DuelError => k_is)
    (case df_DuelError => k_is)
    (case n_ValueError => k_is)
    (case n_all => k_is)
    (case n_bool => k_is)
    (case n_enumerate => k_is)
    (case n_int => k_is)
    (case n_isinstance => k_is)
    (case n_len => k_is)
    (case n_range => k_is)
    (case n_repr => k_is)
    (case n_str => k_is)
    (case n_tuple => k_is)
    (case v_EMPTY => k_is)
    (case v_FIGURES => k_is)
    (case v_LETTERS => k_is)
    (case v_MOST_FIGURES => k_is)
    (case v_MOST_LETTERS => k_is)
end Mir

theorem PySem.Challenge.cw_waitduel_k52_papers_as_text_holds : PySem.Challenge.rw_waitduel_k52_papers_as_text.Holds := by
  exact Mir.head
