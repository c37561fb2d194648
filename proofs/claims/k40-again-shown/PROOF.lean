import PyProof.Rows.All
import Wide.All
import OpenK.AllK
import Wide.FinOn
import HandS.ForMost
import HandS.Exc
import HandS.TryOnly
import HandS.TryMany
import HandS.ExcOwn
import HandS.ExcInit
import HandS.WordsExc
import HandS.IsInst
import HandS.TupAny
import PyProof.StrBlock2
import HandS.TupMul
import HandS.Wide
import HandS.Style
import HandS.TupLe
import HandS.Iter
import PyProof.ListOps
import PyProof.Rows.SeqMore
import HandS.SortInts
import HandS.Conv
import KE.GoesEnum
import HandS.Zip
import HandS.RevRange
import HandS.Rev
import HandS.Small
import HandS.WordsDict
import PyProof.ReprRoads
import HandS.Ends
import HandS.EndBits
import HandS.RaiseMore
import PyProof.ReprLen
import KE.KExcIs
import HandS.ExcIs
import HandS.ExcValue
import HandS.ExcField
import HandS.More
import HandS.Dict
import PyProof.TupleOfSeq
import HandS.Deep
import PyProof.P3In
import KE.KRevSl
import HandS.SetFor
import HandS.Replace
import HandS.ReplaceLit
import HandS.Strs
import PySem.Challenge.RW_waitduel_k40_whole_again_shown
set_option Elab.async false
set_option linter.all false
set_option maxRecDepth 100000
set_option maxHeartbeats 4000000
/-! Mir: a heap of one's own in plain data (immutable things are trees, what changes stands at a number), and how it lies in HandS's heap. -/
namespace Mir
open PySem L2

/-- a plain thing in an exception's field -/
inductive PV where
  | non
  | bl (b : Bool)
  | int (i : Int)
  | str (x : Str)
def PV.v : PV → V
  | .non => .non
  | .bl b => .bl b
  | .int i => .int i
  | .str x => .str x
/-- an exception: its class by name, its own fields -/
structure XV where
  c : Str
  fs : List (Str × PV)
/-- an exception's object at a -/
def exV (C : Addr) (d : Option Addr) (a : Addr) : HO := .ext fun h => ∃ (oe : Obj) (vs : Array Value), h.get? a = some oe ∧ Zc (.ref C) d oe ∧ oe.data = .fields vs
/-- an exception of the class that is named so, its dict at d -/
def XRep (K : PySem.W.Frag) (_ : List Addr) (H : Hp) (x : XV) (c : Value) (d : Option Addr) : Prop :=
  (∃ C : Addr, c = .ref C ∧ PySem.W.nsIn K mainGlobals x.c = some (some (.ref C))) ∧ ((d = none ∧ x.fs = []) ∨ ∃ dd : Addr, d = some dd ∧ H dd = some (.xd (x.fs.map fun p => (p.1, p.2.v))))
/-- an exception that is kept -/
def ExR (K : PySem.W.Frag) (H : Hp) (x : XV) (a : Addr) : Prop := ∃ (C : Addr) (d : Option Addr), XRep K [] H x (.ref C) d ∧ H a = some (exV C d a)
/-- a value: immutable things as trees, mutable ones by number; fix: a list that never changes -/
inductive W where
  | non
  | bl (b : Bool)
  | int (i : Int)
  | str (x : Str)
  | tup (xs : List W)
  | fix (xs : List W)
  | exc (x : XV)
  | ref (n : Nat)

/-- what stands at a number -/
inductive OB where
  | lst (xs : List W)
  | dK (kvs : List (Key × W))
  | ins (c : Str) (fs : List (Str × W))
  | lk (kvs : List (Key × W))

abbrev PH := List OB
abbrev LS := List (Option W)

/-- a list that never changes: locked, or of the written part -/
def FixL (K : PySem.W.Frag) (H : Hp) (a : Addr) (xs : List V) : Prop :=
  (∃ o, H a = some (.frz o (.lst xs))) ∨
    ∃ (o : Obj) (its : Array Value) (n : Nat), K.lookup a = some o ∧ o.cls = .type "list" ∧ o.dict = none ∧ o.data = .seq its n ∧ its.size ≤ sizeLine ∧ Vals xs its.toList
theorem FixL.seq {K : PySem.W.Frag} {H : Hp} {a : Addr} {xs : List V} (h : FixL K H a xs) : SqL K H a xs := by
  rcases h with ⟨o, h⟩ | h
  · exact .inl (.inr ⟨o, h⟩)
  · exact .inr h

mutual
def Rep (K : PySem.W.Frag) (f : List Addr) (H : Hp) : W → V → Prop
  | .non, v => v = .non
  | .bl b, v => v = .bl b
  | .int i, v => v = .int i
  | .str x, v => v = .str x
  | .tup xs, v => ∃ a vs, v = .ref a ∧ SqT K H a vs ∧ Reps K f H xs vs
  | .fix xs, v => ∃ a vs, v = .ref a ∧ FixL K H a vs ∧ Reps K f H xs vs
  | .exc x, v => ∃ a, v = .ref a ∧ ExR K H x a
  | .ref n, v => ∃ a, v = .ref a ∧ f[n]? = some a
def Reps (K : PySem.W.Frag) (f : List Addr) (H : Hp) : List W → List V → Prop
  | [], vs => vs = []
  | x :: xs, vs => ∃ v r, vs = v :: r ∧ Rep K f H x v ∧ Reps K f H xs r
end

/-- all that stood outside of f stands -/
def Grow (f : List Addr) (H H' : Hp) : Prop := ∀ a o, H a = some o → a ∉ f → H' a = some o
/-- f' goes on behind f -/
def Ext (f f' : List Addr) : Prop := ∃ g, f' = f ++ g
theorem Ext.refl (f : List Addr) : Ext f f := ⟨[], by simp⟩
theorem Ext.trans {f g k : List Addr} (a : Ext f g) (b : Ext g k) : Ext f k := by
  obtain ⟨x, rfl⟩ := a
  obtain ⟨y, rfl⟩ := b
  exact ⟨x ++ y, by simp⟩
theorem Ext.get {f g : List Addr} (a : Ext f g) {n : Nat} {x : Addr} (h : f[n]? = some x) : g[n]? = some x := by
  obtain ⟨y, rfl⟩ := a
  rw [List.getElem?_append_left (List.getElem?_eq_some_iff.mp h).1]
  exact h
theorem Ext.mem {f g : List Addr} (a : Ext f g) {x : Addr} (h : x ∈ f) : x ∈ g := by
  obtain ⟨y, rfl⟩ := a
  exact List.mem_append_left _ h
theorem Ext.snoc (f : List Addr) (p : Addr) : Ext f (f ++ [p]) := ⟨[p], rfl⟩
theorem Grow.refl (f : List Addr) (H : Hp) : Grow f H H := fun _ _ e _ => e

/-- the things that a tree leans on stay -/
structure Stay (K : PySem.W.Frag) (H H' : Hp) : Prop where
  t : ∀ a xs, SqT K H a xs → SqT K H' a xs
  l : ∀ a xs, FixL K H a xs → FixL K H' a xs
  e : ∀ a φ, H a = some (.ext φ) → H' a = some (.ext φ)
  d : ∀ a gs, H a = some (.xd gs) → H' a = some (.xd gs)
theorem Stay.refl (K : PySem.W.Frag) (H : Hp) : Stay K H H := ⟨fun _ _ h => h, fun _ _ h => h, fun _ _ h => h, fun _ _ h => h⟩
theorem Stay.trans {K : PySem.W.Frag} {H H1 H2 : Hp} (a : Stay K H H1) (b : Stay K H1 H2) : Stay K H H2 :=
  ⟨fun x xs h => b.t x xs (a.t x xs h), fun x xs h => b.l x xs (a.l x xs h), fun x xs h => b.e x xs (a.e x xs h), fun x xs h => b.d x xs (a.d x xs h)⟩
theorem XRep.mono {K : PySem.W.Frag} {f f' : List Addr} {H H' : Hp} (s : Stay K H H') {x : XV} {c : Value} {d : Option Addr} (r : XRep K f H x c d) : XRep K f' H' x c d := by
  obtain ⟨h1, h2 | ⟨dd, e1, e2⟩⟩ := r
  · exact ⟨h1, .inl h2⟩
  · exact ⟨h1, .inr ⟨dd, e1, s.d _ _ e2⟩⟩
theorem ExR.mono {K : PySem.W.Frag} {H H' : Hp} (s : Stay K H H') {x : XV} {a : Addr} (r : ExR K H x a) : ExR K H' x a := by
  obtain ⟨C, d, h1, h2⟩ := r
  exact ⟨C, d, h1.mono s, s.e _ _ h2⟩

mutual
theorem Rep.mono {K : PySem.W.Frag} {f f' : List Addr} {H H' : Hp} (e : Ext f f') (s : Stay K H H') : ∀ (w : W) (v : V), Rep K f H w v → Rep K f' H' w v
  | .non, v, h => by simpa only [Rep] using h
  | .bl b, v, h => by simpa only [Rep] using h
  | .int i, v, h => by simpa only [Rep] using h
  | .str x, v, h => by simpa only [Rep] using h
  | .tup xs, v, h => by
    simp only [Rep] at h ⊢
    obtain ⟨a, vs, h1, h2, h3⟩ := h
    exact ⟨a, vs, h1, s.t a vs h2, Reps.mono e s xs vs h3⟩
  | .fix xs, v, h => by
    simp only [Rep] at h ⊢
    obtain ⟨a, vs, h1, h2, h3⟩ := h
    exact ⟨a, vs, h1, s.l a vs h2, Reps.mono e s xs vs h3⟩
  | .exc x, v, h => by
    simp only [Rep] at h ⊢
    obtain ⟨a, h1, h2⟩ := h
    exact ⟨a, h1, h2.mono s⟩
  | .ref n, v, h => by
    simp only [Rep] at h ⊢
    obtain ⟨a, h1, h2⟩ := h
    exact ⟨a, h1, e.get h2⟩
theorem Reps.mono {K : PySem.W.Frag} {f f' : List Addr} {H H' : Hp} (e : Ext f f') (s : Stay K H H') : ∀ (ws : List W) (vs : List V), Reps K f H ws vs → Reps K f' H' ws vs
  | [], vs, h => by simpa only [Reps] using h
  | x :: xs, vs, h => by
    simp only [Reps] at h ⊢
    obtain ⟨v, r, h1, h2, h3⟩ := h
    exact ⟨v, r, h1, Rep.mono e s x v h2, Reps.mono e s xs r h3⟩
end

theorem Reps.length {K : PySem.W.Frag} {f : List Addr} {H : Hp} : ∀ {ws : List W} {vs : List V}, Reps K f H ws vs → ws.length = vs.length
  | [], vs, h => by
    simp only [Reps] at h
    subst h
    rfl
  | x :: xs, vs, h => by
    simp only [Reps] at h
    obtain ⟨v, r, rfl, _, h3⟩ := h
    simp only [List.length_cons, Reps.length h3]
theorem Reps.get {K : PySem.W.Frag} {f : List Addr} {H : Hp} : ∀ {ws : List W} {vs : List V} {i : Nat} {w : W}, Reps K f H ws vs → ws[i]? = some w → ∃ v, vs[i]? = some v ∧ Rep K f H w v
  | [], vs, i, w, h, e => by simp at e
  | x :: xs, vs, 0, w, h, e => by
    simp only [Reps] at h
    obtain ⟨v, r, rfl, h2, _⟩ := h
    simp at e
    subst e
    exact ⟨v, by simp, h2⟩
  | x :: xs, vs, i + 1, w, h, e => by
    simp only [Reps] at h
    obtain ⟨v, r, rfl, _, h3⟩ := h
    simp only [List.getElem?_cons_succ] at e ⊢
    exact Reps.get h3 e
theorem Reps.getv {K : PySem.W.Frag} {f : List Addr} {H : Hp} {ws : List W} {vs : List V} {i : Nat} {v : V} (h : Reps K f H ws vs) (e : vs[i]? = some v) : ∃ w, ws[i]? = some w ∧ Rep K f H w v := by
  have hl := h.length
  have hi : i < ws.length := by rw [hl]; exact (List.getElem?_eq_some_iff.mp e).1
  obtain ⟨v', e', r⟩ := h.get (List.getElem?_eq_getElem hi)
  rw [e] at e'
  cases e'
  exact ⟨_, List.getElem?_eq_getElem hi, r⟩
theorem Reps.append {K : PySem.W.Frag} {f : List Addr} {H : Hp} : ∀ {ws zs : List W} {vs us : List V}, Reps K f H ws vs → Reps K f H zs us → Reps K f H (ws ++ zs) (vs ++ us)
  | [], zs, vs, us, h, k => by
    simp only [Reps] at h
    subst h
    exact k
  | x :: xs, zs, vs, us, h, k => by
    simp only [Reps] at h
    obtain ⟨v, r, rfl, h2, h3⟩ := h
    simp only [List.cons_append, Reps]
    exact ⟨v, r ++ us, rfl, h2, Reps.append h3 k⟩
theorem Reps.one {K : PySem.W.Frag} {f : List Addr} {H : Hp} {w : W} {v : V} (h : Rep K f H w v) : Reps K f H [w] [v] := by
  simp only [Reps]
  exact ⟨v, [], rfl, h, rfl⟩
theorem Reps.nil {K : PySem.W.Frag} {f : List Addr} {H : Hp} : Reps K f H [] [] := by simp only [Reps]
theorem Reps.cons {K : PySem.W.Frag} {f : List Addr} {H : Hp} {w : W} {v : V} {ws : List W} {vs : List V} (h : Rep K f H w v) (k : Reps K f H ws vs) : Reps K f H (w :: ws) (v :: vs) := by
  simp only [Reps]
  exact ⟨v, vs, rfl, h, k⟩
theorem Reps.nil_inv {K : PySem.W.Frag} {f : List Addr} {H : Hp} {vs : List V} (h : Reps K f H [] vs) : vs = [] := by simpa only [Reps] using h
theorem Reps.cons_inv {K : PySem.W.Frag} {f : List Addr} {H : Hp} {w : W} {ws : List W} {vs : List V} (h : Reps K f H (w :: ws) vs) : ∃ v r, vs = v :: r ∧ Rep K f H w v ∧ Reps K f H ws r := by simpa only [Reps] using h
theorem Reps.set {K : PySem.W.Frag} {f : List Addr} {H : Hp} {w : W} {v : V} (r : Rep K f H w v) : ∀ {ws : List W} {vs : List V} (i : Nat), Reps K f H ws vs → Reps K f H (ws.set i w) (vs.set i v)
  | [], vs, i, h => by
    simp only [Reps] at h
    subst h
    simp only [List.set_nil, Reps]
  | x :: xs, vs, 0, h => by
    obtain ⟨u, t, rfl, h1, h2⟩ := h.cons_inv
    simp only [List.set_cons_zero]
    exact .cons r h2
  | x :: xs, vs, i + 1, h => by
    obtain ⟨u, t, rfl, h1, h2⟩ := h.cons_inv
    simp only [List.set_cons_succ]
    exact .cons h1 (Reps.set r i h2)
theorem Reps.drop {K : PySem.W.Frag} {f : List Addr} {H : Hp} : ∀ {ws : List W} {vs : List V} (n : Nat), Reps K f H ws vs → Reps K f H (ws.drop n) (vs.drop n)
  | ws, vs, 0, h => h
  | [], vs, n + 1, h => by
    simp only [Reps] at h
    subst h
    simp only [List.drop_nil, Reps]
  | x :: xs, vs, n + 1, h => by
    obtain ⟨u, t, rfl, h1, h2⟩ := h.cons_inv
    exact Reps.drop n h2
theorem Reps.take {K : PySem.W.Frag} {f : List Addr} {H : Hp} : ∀ {ws : List W} {vs : List V} (n : Nat), Reps K f H ws vs → Reps K f H (ws.take n) (vs.take n)
  | ws, vs, 0, h => by simp only [List.take_zero, Reps]
  | [], vs, n + 1, h => by
    simp only [Reps] at h
    subst h
    simp only [List.take_nil, Reps]
  | x :: xs, vs, n + 1, h => by
    obtain ⟨u, t, rfl, h1, h2⟩ := h.cons_inv
    exact .cons h1 (Reps.take n h2)
theorem Reps.reverse {K : PySem.W.Frag} {f : List Addr} {H : Hp} : ∀ {ws : List W} {vs : List V}, Reps K f H ws vs → Reps K f H ws.reverse vs.reverse
  | [], vs, h => by
    simp only [Reps] at h
    subst h
    simp only [List.reverse_nil, Reps]
  | x :: xs, vs, h => by
    obtain ⟨u, t, rfl, h1, h2⟩ := h.cons_inv
    rw [List.reverse_cons, List.reverse_cons]
    exact (Reps.reverse h2).append (.one h1)

/-- pairs by key -/
def KRep {κ : Type} (K : PySem.W.Frag) (f : List Addr) (H : Hp) : List (κ × W) → List (κ × V) → Prop
  | [], kvs => kvs = []
  | (k, w) :: r, kvs => ∃ v s, kvs = (k, v) :: s ∧ Rep K f H w v ∧ KRep K f H r s
theorem KRep.mono {κ : Type} {K : PySem.W.Frag} {f f' : List Addr} {H H' : Hp} (e : Ext f f') (s : Stay K H H') : ∀ (ws : List (κ × W)) (vs : List (κ × V)), KRep K f H ws vs → KRep K f' H' ws vs
  | [], vs, h => h
  | (k, w) :: r, vs, h => by
    obtain ⟨v, t, h1, h2, h3⟩ := h
    exact ⟨v, t, h1, Rep.mono e s w v h2, KRep.mono e s r t h3⟩
theorem KRep.length {κ : Type} {K : PySem.W.Frag} {f : List Addr} {H : Hp} : ∀ {ws : List (κ × W)} {vs : List (κ × V)}, KRep K f H ws vs → ws.length = vs.length
  | [], vs, h => by
    have h : vs = [] := h
    subst h
    rfl
  | (k, w) :: r, vs, h => by
    obtain ⟨v, t, rfl, h2, h3⟩ := h
    simp only [List.length_cons, KRep.length h3]

/-- how an object lies at a -/
def ObjR (K : PySem.W.Frag) (f : List Addr) (H : Hp) : OB → Addr → Prop
  | .lst xs, a => ∃ vs, H a = some (.lst vs) ∧ Reps K f H xs vs
  | .dK kvs, a => ∃ vs, H a = some (.dK vs) ∧ KRep K f H kvs vs
  | .ins c fs, a => ∃ C dx vs, PySem.W.nsIn K mainGlobals c = some (some (.ref C)) ∧ H a = some (.ins C dx vs) ∧ KRep K f H fs vs
  | .lk kvs, a => ∃ o vs, H a = some (.frz o (.dK vs)) ∧ KRep K f H kvs vs
/-- what may stand at a -/
def Mov : HO → Prop
  | .lst _ => True
  | .dK _ => True
  | .ins _ _ _ => True
  | .frz _ (.dK _) => True
  | _ => False
theorem ObjR.mov {K : PySem.W.Frag} {f : List Addr} {H : Hp} {o : OB} {a : Addr} (h : ObjR K f H o a) : ∃ u, H a = some u ∧ Mov u := by
  cases o with
  | lst xs => obtain ⟨vs, h, _⟩ := h; exact ⟨_, h, trivial⟩
  | dK kvs => obtain ⟨vs, h, _⟩ := h; exact ⟨_, h, trivial⟩
  | ins c fs => obtain ⟨C, dx, vs, _, h, _⟩ := h; exact ⟨_, h, trivial⟩
  | lk kvs => obtain ⟨o, vs, h, _⟩ := h; exact ⟨_, h, trivial⟩
theorem ObjR.mono {K : PySem.W.Frag} {f f' : List Addr} {H H' : Hp} {o : OB} {a : Addr} (e : Ext f f') (s : Stay K H H') (same : H' a = H a) (h : ObjR K f H o a) : ObjR K f' H' o a := by
  cases o with
  | lst xs => obtain ⟨vs, h1, h2⟩ := h; exact ⟨vs, same.trans h1, Reps.mono e s _ _ h2⟩
  | dK kvs => obtain ⟨vs, h1, h2⟩ := h; exact ⟨vs, same.trans h1, KRep.mono e s _ _ h2⟩
  | ins c fs => obtain ⟨C, dx, vs, h0, h1, h2⟩ := h; exact ⟨C, dx, vs, h0, same.trans h1, KRep.mono e s _ _ h2⟩
  | lk kvs => obtain ⟨o, vs, h1, h2⟩ := h; exact ⟨o, vs, same.trans h1, KRep.mono e s _ _ h2⟩

/-- the own heap lies in HandS's -/
structure Sim (K : PySem.W.Frag) (f : List Addr) (h : PH) (H : Hp) : Prop where
  len : f.length = h.length
  nd : f.Nodup
  obj : ∀ (n : Nat) (o : OB), h[n]? = some o → ∃ a, f[n]? = some a ∧ ObjR K f H o a

theorem Sim.mov {K : PySem.W.Frag} {f : List Addr} {h : PH} {H : Hp} (s : Sim K f h H) {a : Addr} (ha : a ∈ f) : ∃ u, H a = some u ∧ Mov u := by
  obtain ⟨n, hn, e⟩ := List.getElem_of_mem ha
  have hn2 : n < h.length := by rw [← s.len]; exact hn
  obtain ⟨b, hb, r⟩ := s.obj n h[n] (List.getElem?_eq_getElem hn2)
  rw [List.getElem?_eq_getElem hn] at hb
  cases hb
  rw [e] at r
  exact r.mov
theorem Sim.fresh {K : PySem.W.Frag} {f : List Addr} {h : PH} {H : Hp} (s : Sim K f h H) {p : Addr} (hp : H p = none) : p ∉ f := fun hm => by
  obtain ⟨u, e, _⟩ := s.mov hm
  rw [hp] at e
  cases e
/-- growth keeps the trees -/
theorem Sim.stay {K : PySem.W.Frag} {f : List Addr} {h : PH} {H H' : Hp} (s : Sim K f h H) (g : Grow f H H') : Stay K H H' := by
  have key : ∀ a u, H a = some u → ¬ Mov u → H' a = some u := fun a u e nm => g a u e fun hm => by
    obtain ⟨u', e', m⟩ := s.mov hm
    rw [e] at e'
    cases e'
    exact nm m
  refine ⟨fun a xs r => ?_, fun a xs r => ?_, fun a φ r => key _ _ r id, fun a gs r => key _ _ r id⟩
  · rcases r with (r | ⟨o, r⟩) | r
    · exact .inl (.inl (key _ _ r id))
    · exact .inl (.inr ⟨o, key _ _ r id⟩)
    · exact .inr r
  · rcases r with ⟨o, r⟩ | r
    · exact .inl ⟨o, key _ _ r id⟩
    · exact .inr r
/-- growth, step by step -/
theorem Grow.trans {K : PySem.W.Frag} {f f1 : List Addr} {h : PH} {H H1 H2 : Hp} (s : Sim K f h H) {h1 : PH} (s1 : Sim K f1 h1 H1) (e : Ext f f1) (a : Grow f H H1) (b : Grow f1 H1 H2) (new : ∀ x ∈ f1, x ∉ f → H x = none) : Grow f H H2 := fun x o hx hn =>
  b x o (a x o hx hn) fun hm => by
    have := new x hm hn
    rw [hx] at this
    cases this
end Mir

/-! Mir: readings by computations over the own heap. -/
namespace Mir
open PySem L2

inductive Res (α : Type) where
  | ok (a : α) (h : PH)
  | exc (x : XV) (h : PH)
  | stuck
inductive SRes where
  | nx (ps : LS) (h : PH)
  | rt (w : W) (h : PH)
  | bk (ps : LS) (h : PH)
  | ct (ps : LS) (h : PH)
  | exc (x : XV) (ps : LS) (h : PH)
  | stuck
def Res.bind {α β : Type} : Res α → (α → PH → Res β) → Res β
  | .ok a h, k => k a h
  | .exc x h, _ => .exc x h
  | .stuck, _ => .stuck
def Res.map {α β : Type} (g : α → β) : Res α → Res β
  | .ok a h => .ok (g a) h
  | .exc x h => .exc x h
  | .stuck => .stuck

/-- from one state to a later one -/
structure Step (K : PySem.W.Frag) (f : List Addr) (H : Hp) (f' : List Addr) (h' : PH) (H' : Hp) : Prop where
  ext : Ext f f'
  new : ∀ x ∈ f', x ∉ f → H x = none
  grow : Grow f H H'
  lk : ∀ (a : Addr) (o : Obj) (us : List (Key × V)), H a = some (.frz o (.dK us)) → H' a = some (.frz o (.dK us))
  sim : Sim K f' h' H'
theorem Step.refl {K : PySem.W.Frag} {f : List Addr} {h : PH} {H : Hp} (s : Sim K f h H) : Step K f H f h H := ⟨.refl f, fun x a b => absurd a b, .refl f H, fun _ _ _ e => e, s⟩
theorem Step.trans {K : PySem.W.Frag} {f f1 f2 : List Addr} {h1 h2 : PH} {H H1 H2 : Hp} (a : Step K f H f1 h1 H1) (b : Step K f1 H1 f2 h2 H2) : Step K f H f2 h2 H2 := by
  refine ⟨a.ext.trans b.ext, fun x hx hn => ?_, fun x o hx hn => ?_, fun x o us e => b.lk _ _ _ (a.lk _ _ _ e), b.sim⟩
  · by_cases m : x ∈ f1
    · exact a.new x m hn
    · have q := b.new x hx m
      cases e : H x with
      | none => rfl
      | some o =>
        rw [a.grow x o e hn] at q
        cases q
  · refine b.grow x o (a.grow x o hx hn) fun m => ?_
    rw [a.new x m hn] at hx
    cases hx
theorem Step.stay {K : PySem.W.Frag} {f f' : List Addr} {h h' : PH} {H H' : Hp} (s : Sim K f h H) (a : Step K f H f' h' H') : Stay K H H' := s.stay a.grow
theorem Step.rep {K : PySem.W.Frag} {f f' : List Addr} {h h' : PH} {H H' : Hp} (s : Sim K f h H) (a : Step K f H f' h' H') {w : W} {v : V} (r : Rep K f H w v) : Rep K f' H' w v := Rep.mono a.ext (a.stay s) w v r
theorem Step.reps {K : PySem.W.Frag} {f f' : List Addr} {h h' : PH} {H H' : Hp} (s : Sim K f h H) (a : Step K f H f' h' H') {w : List W} {v : List V} (r : Reps K f H w v) : Reps K f' H' w v := Reps.mono a.ext (a.stay s) w v r

/-- the slots -/
def SRep (K : PySem.W.Frag) (f : List Addr) (H : Hp) (ps : LS) (σ : L2.St) : Prop :=
  ps.length = σ.length ∧ ∀ (i : Nat) (w : W), ps[i]? = some (some w) → ∃ v, σ[i]? = some (some v) ∧ Rep K f H w v
theorem SRep.mono {K : PySem.W.Frag} {f f' : List Addr} {H H' : Hp} {ps : LS} {σ : L2.St} (e : Ext f f') (s : Stay K H H') (r : SRep K f H ps σ) : SRep K f' H' ps σ :=
  ⟨r.1, fun i w q => by
    obtain ⟨v, h1, h2⟩ := r.2 i w q
    exact ⟨v, h1, Rep.mono e s w v h2⟩⟩
theorem Step.srep {K : PySem.W.Frag} {f f' : List Addr} {h h' : PH} {H H' : Hp} (s : Sim K f h H) (a : Step K f H f' h' H') {ps : LS} {σ : L2.St} (r : SRep K f H ps σ) : SRep K f' H' ps σ := r.mono a.ext (a.stay s)
theorem SRep.set {K : PySem.W.Frag} {f : List Addr} {H : Hp} {ps : LS} {σ : L2.St} (r : SRep K f H ps σ) (i : Nat) {w : W} {v : V} (q : Rep K f H w v) : SRep K f H (ps.set i (some w)) (σ.set i (some v)) := by
  refine ⟨by simp only [List.length_set]; exact r.1, fun j u e => ?_⟩
  by_cases hj : i = j
  · subst hj
    by_cases hi : i < ps.length
    · rw [List.getElem?_set_self hi] at e
      cases e
      exact ⟨v, List.getElem?_set_self (by rw [← r.1]; exact hi), q⟩
    · rw [List.getElem?_eq_none (by simpa using hi)] at e
      cases e
  · rw [List.getElem?_set_ne hj] at e ⊢
    exact r.2 j u e
/-- slots forgotten -/
theorem SRep.unset {K : PySem.W.Frag} {f : List Addr} {H : Hp} {ps : LS} {σ : L2.St} (r : SRep K f H ps σ) (i : Nat) : SRep K f H (ps.set i none) (σ.set i none) := by
  refine ⟨by simp only [List.length_set]; exact r.1, fun j u e => ?_⟩
  by_cases hj : i = j
  · subst hj
    by_cases hi : i < ps.length
    · rw [List.getElem?_set_self hi] at e
      cases e
    · rw [List.getElem?_eq_none (by simpa using hi)] at e
      cases e
  · rw [List.getElem?_set_ne hj] at e ⊢
    exact r.2 j u e


abbrev RR (α β : Type) := Hp → List Addr → Hp → α → β → Prop
/-- what is wanted behind a computation -/
def Post {α β : Type} (K : PySem.W.Frag) (R : RR α β) (f : List Addr) (H : Hp) (r : Res α) (Q : β → Hp → Prop) (E : XK) : Prop :=
  match r with
  | .ok a h' => ∀ f' H' b, Step K f H f' h' H' → R H f' H' a b → Q b H'
  | .exc x h' => ∀ f' H' c d, Step K f H f' h' H' → XRep K f' H' x c d → E c d H'
  | .stuck => False
/-- a relation whose newness goes back along a step -/
def Back {α β : Type} (K : PySem.W.Frag) (R : RR α β) : Prop := ∀ (f f1 : List Addr) (h h1 : PH) (H H1 : Hp) (f' : List Addr) (H' : Hp) (a : α) (b : β), Sim K f h H → Step K f H f1 h1 H1 → R H1 f' H' a b → R H f' H' a b

theorem Post.mono {α β : Type} {K : PySem.W.Frag} {R : RR α β} {f : List Addr} {H : Hp} {r : Res α} {Q Q' : β → Hp → Prop} {E E' : XK} (h : Post K R f H r Q E) (hQ : ∀ b H', Q b H' → Q' b H') (hE : ∀ c d H', E c d H' → E' c d H') : Post K R f H r Q' E' := by
  cases r with
  | ok a h' => exact fun f' H' b s q => hQ _ _ (h f' H' b s q)
  | exc x h' => exact fun f' H' c d s q => hE _ _ _ (h f' H' c d s q)
  | stuck => exact h
theorem Post.bind {α β γ δ : Type} {K : PySem.W.Frag} {R : RR α β} {R1 : RR γ δ} {f : List Addr} {h : PH} {H : Hp} {r : Res γ} {k : γ → PH → Res α} {Q : β → Hp → Prop} {E : XK} (s : Sim K f h H) (hb : Back K R) (p : Post K R f H (r.bind k) Q E) :
    Post K R1 f H r (fun b H1 => ∃ f1 h1 a, Step K f H f1 h1 H1 ∧ R1 H f1 H1 a b ∧ Post K R f1 H1 (k a h1) Q E) E := by
  cases r with
  | stuck => exact p
  | exc x h' => exact p
  | ok a h1 =>
    intro f1 H1 b s1 q1
    refine ⟨f1, h1, a, s1, q1, ?_⟩
    have p : Post K R f H (k a h1) Q E := p
    cases e : k a h1 with
    | stuck => rw [e] at p; exact p
    | exc x h2 =>
      rw [e] at p
      exact fun f2 H2 c d s2 q2 => p f2 H2 c d (s1.trans s2) q2
    | ok a2 h2 =>
      rw [e] at p
      exact fun f2 H2 b2 s2 q2 => p f2 H2 b2 (s1.trans s2) (hb _ _ _ _ _ _ _ _ _ _ s s1 q2)

abbrev RW (K : PySem.W.Frag) : RR W V := fun _ f H w v => Rep K f H w v
abbrev RA (K : PySem.W.Frag) : RR (List W) (List V) := fun _ f H w v => Reps K f H w v
abbrev RB : RR Bool Bool := fun _ _ _ a b => a = b
/-- a list that none else knows -/
abbrev RL (K : PySem.W.Frag) : RR (List W) V := fun H0 f H ws v => ∃ p vs, v = .ref p ∧ H0 p = none ∧ p ∉ f ∧ H p = some (.lst vs) ∧ Reps K f H ws vs
theorem back_W {K : PySem.W.Frag} : Back K (RW K) := fun _ _ _ _ _ _ _ _ _ _ _ _ q => q
theorem back_A {K : PySem.W.Frag} : Back K (RA K) := fun _ _ _ _ _ _ _ _ _ _ _ _ q => q
theorem back_B {K : PySem.W.Frag} : Back K RB := fun _ _ _ _ _ _ _ _ _ _ _ _ q => q
theorem Step.none_back {K : PySem.W.Frag} {f f1 : List Addr} {h h1 : PH} {H H1 : Hp} (s : Sim K f h H) (s1 : Step K f H f1 h1 H1) {p : Addr} (e : H1 p = none) : H p = none := by
  cases q : H p with
  | none => rfl
  | some o =>
    by_cases m : p ∈ f
    · obtain ⟨u, e', _⟩ := s1.sim.mov (s1.ext.mem m)
      rw [e] at e'
      cases e'
    · rw [s1.grow p o q m] at e
      cases e
theorem back_L {K : PySem.W.Frag} : Back K (RL K) := fun _ _ _ _ _ _ _ _ _ _ s s1 ⟨p, vs, h1, h2, h3⟩ => ⟨p, vs, h1, s1.none_back s h2, h3⟩

/-! ### the readings -/
abbrev EM := LS → PH → Res W
abbrev LM := LS → PH → Res (List W)
abbrev BM := LS → PH → Res Bool
abbrev SM := LS → PH → SRes
/-- the reading by a computation -/
def tG {α β : Type} (K : PySem.W.Frag) (R : RR α β) (W0 : WX) (m : LS → PH → Res α) : L2.St → Hp → (β → Hp → Prop) → Prop :=
  fun σ H Q => ∃ f h ps, Sim K f h H ∧ SRep K f H ps σ ∧ Post K R f H (m ps h) Q fun c d H' => W0 c d σ H'
abbrev tE (K : PySem.W.Frag) (W0 : WX) (m : EM) : TE := tG K (RW K) W0 m
abbrev tL (K : PySem.W.Frag) (W0 : WX) (m : LM) : TE := tG K (RL K) W0 m
abbrev tA (K : PySem.W.Frag) (W0 : WX) (m : LM) : TA := tG K (RA K) W0 m
abbrev tT (K : PySem.W.Frag) (W0 : WX) (m : BM) : TT := tG K RB W0 m
abbrev SE (X : Cx) (W0 : WX) (e : Expr) (m : EM) : Prop := PE X e (tE X.K W0 m)
abbrev SL (X : Cx) (W0 : WX) (e : Expr) (m : LM) : Prop := PE X e (tL X.K W0 m)
abbrev SA (X : Cx) (W0 : WX) (es : List Expr) (m : LM) : Prop := PA X es (tA X.K W0 m)
abbrev ST (X : Cx) (W0 : WX) (e : Expr) (m : BM) : Prop := PT X e (tT X.K W0 m)
abbrev SW (X : Cx) (W0 : WX) (e : Expr) (m : BM) : Prop := PW X e (tT X.K W0 m)

theorem pe_imp {X : Cx} {e : Expr} {t t' : TE} (h : PE X e t) (i : ∀ σ H Q, t' σ H Q → t σ H Q) : PE X e t' := ⟨fun pins s σ H Q I q => h.run pins s σ H Q I (i σ H Q q)⟩
theorem pt_imp {X : Cx} {e : Expr} {t t' : TT} (h : PT X e t) (i : ∀ σ H Q, t' σ H Q → t σ H Q) : PT X e t' := ⟨fun pins s σ H Q I q => h.run pins s σ H Q I (i σ H Q q)⟩
theorem pw_imp {X : Cx} {e : Expr} {t t' : TT} (h : PW X e t) (i : ∀ σ H Q, t' σ H Q → t σ H Q) : PW X e t' := ⟨fun wh pins s σ H Q I q => h.run wh pins s σ H Q I (i σ H Q q)⟩
theorem pa_imp {X : Cx} {es : List Expr} {t t' : TA} (h : PA X es t) (i : ∀ σ H Q, t' σ H Q → t σ H Q) : PA X es t' := ⟨fun pos pins s σ H Q I q => h.run pos pins s σ H Q I (i σ H Q q)⟩
theorem ps_imp {X : Cx} {st : Stmt} {t t' : TS} (h : L2.PS X st t) (i : ∀ D σ H, t' D σ H → t D σ H) : L2.PS X st t' := ⟨fun pins s σ H D I q => h.run pins s σ H D I (i D σ H q)⟩
theorem pss_imp {X : Cx} {st : List Stmt} {t t' : TS} (h : PSs X st t) (i : ∀ D σ H, t' D σ H → t D σ H) : PSs X st t' := ⟨fun pins s σ H D I q => h.run pins s σ H D I (i D σ H q)⟩

/-- one computation, then another one, over the same slots -/
theorem tG_bind {α β γ δ : Type} {K : PySem.W.Frag} {R : RR α β} {R1 : RR γ δ} {W0 : WX} {m1 : LS → PH → Res γ} {k : γ → LS → PH → Res α} {σ : L2.St} {H : Hp} {Q : β → Hp → Prop} (hb : Back K R)
    (h : tG K R W0 (fun ps h => (m1 ps h).bind fun a h1 => k a ps h1) σ H Q) :
    tG K R1 W0 m1 σ H fun b H1 => ∃ f0 H0 h0, Sim K f0 h0 H0 ∧ ∃ f1 h1 ps a, Step K f0 H0 f1 h1 H1 ∧ SRep K f1 H1 ps σ ∧ R1 H0 f1 H1 a b ∧ Post K R f1 H1 (k a ps h1) Q fun c d H' => W0 c d σ H' := by
  obtain ⟨f, h, ps, s, r, p⟩ := h
  refine ⟨f, h, ps, s, r, (Post.bind (R1 := R1) s hb p).mono (fun b H1 hh => ?_) fun c d H' e => e⟩
  obtain ⟨f1, h1, a, s1, q1, p1⟩ := hh
  exact ⟨f, H, h, s, f1, h1, ps, a, s1, s1.srep s r, q1, p1⟩
end Mir

/-! Mir: expressions. -/
namespace Mir
open PySem L2

def Res.ofO {α : Type} : Option (α × PH) → Res α
  | some (a, h) => .ok a h
  | none => .stuck
def mVar (i : Nat) : EM := fun ps h => match ps[i]? with
  | some (some w) => .ok w h
  | _ => .stuck
def mC (w : W) : EM := fun _ h => .ok w h
def mOp (o : W → W → PH → Option (W × PH)) (m1 m2 : EM) : EM := fun ps h => (m1 ps h).bind fun x h1 => (m2 ps h1).bind fun y h2 => .ofO (o x y h2)
def mUn (o : W → PH → Option (W × PH)) (m : EM) : EM := fun ps h => (m ps h).bind fun x h1 => .ofO (o x h1)

/-- what an operation by values asks, from the computation -/
def Op2 (K : PySem.W.Frag) (r : R2) (o : W → W → PH → Option (W × PH)) : Prop :=
  ∀ (f : List Addr) (h : PH) (H : Hp) (x y : W) (v u : V) (Q : VK) (E : XK), Sim K f h H → Rep K f H x v → Rep K f H y u → Post K (RW K) f H (.ofO (o x y h)) Q E → r v u H Q
def Op1 (K : PySem.W.Frag) (r : V → Hp → VK → Prop) (o : W → PH → Option (W × PH)) : Prop :=
  ∀ (f : List Addr) (h : PH) (H : Hp) (x : W) (v : V) (Q : VK) (E : XK), Sim K f h H → Rep K f H x v → Post K (RW K) f H (.ofO (o x h)) Q E → r v H Q

section
variable {X : Cx} {W0 : WX} {a b c : Expr} {pos : Pos} {m1 m2 m3 : EM}

theorem post_pure {K : PySem.W.Frag} {f : List Addr} {h : PH} {H : Hp} {w : W} {v : V} {Q : VK} {E : XK} (s : Sim K f h H) (p : Post K (RW K) f H (.ok w h) Q E) (r : Rep K f H w v) : Q v H := p f H v (.refl s) r

theorem se_var (i : Nat) {x : Str} (hN : X.N[i]? = some x := by rfl) (hv : Vis X.env.scope x := by first | exact Or.inl rfl | exact Or.inr (Or.inl rfl) | exact Or.inr (Or.inr rfl)) (hd : (x == ("__debug__" : Str)) = false := by decide)
    (hcd : (x == ("__classdict__" : Str)) = false := by decide) : SE X W0 (.Name x pos) (mVar i) := pe_imp (pe_var hN hv hd hcd) fun σ H Q h => by
  obtain ⟨f, h, ps, s, r, p⟩ := h
  unfold mVar at p
  split at p
  · rename_i w e
    obtain ⟨v, h1, h2⟩ := r.2 i w e
    exact ⟨v, h1, post_pure s p h2⟩
  · exact p.elim
theorem se_const {e : Expr} {v : V} {w : W} (h : PE X e (tC v)) (r : ∀ f H, Rep X.K f H w v) : SE X W0 e (mC w) := pe_imp h fun σ H Q h => by
  obtain ⟨f, h, ps, s, _, p⟩ := h
  exact post_pure s p (r f H)
theorem se_int {i j} : SE X W0 (.Constant (.int i) j pos) (mC (.int i)) := se_const pe_int fun f H => by simp only [Rep]
theorem se_str {x j} : SE X W0 (.Constant (.str x) j pos) (mC (.str x)) := se_const pe_str fun f H => by simp only [Rep]
theorem se_bl {x j} : SE X W0 (.Constant (.bool x) j pos) (mC (.bl x)) := se_const pe_bl fun f H => by simp only [Rep]
theorem se_non {j} : SE X W0 (.Constant .none j pos) (mC .non) := se_const pe_non fun f H => by simp only [Rep]
/-- a constant of the module's top -/
theorem se_glob {x : Str} {v : V} {u : Value} {w : W} (r : ∀ f H, Rep X.K f H w v) (hm : X.mg x = some u) (rv : RelV v u) (hg : Gl X x := by rfl) (hd : (x == ("__debug__" : Str)) = false := by decide) : SE X W0 (.Name x pos) (mC w) :=
  se_const (pe_glob hg hm rv hd) r

theorem tE_bin {K : PySem.W.Frag} {r : R2} {o : W → W → PH → Option (W × PH)} (ho : Op2 K r o) {σ : L2.St} {H : Hp} {Q : VK} (h : tE K W0 (mOp o m1 m2) σ H Q) : tOp r (tE K W0 m1) (tE K W0 m2) σ H Q := by
  obtain ⟨f, h, ps, s, sr, p⟩ := h
  refine ⟨f, h, ps, s, sr, (Post.bind s back_W p).mono (fun v H1 hh => ?_) fun _ _ _ e => e⟩
  obtain ⟨f1, h1, x, s1, q1, p1⟩ := hh
  refine ⟨f1, h1, ps, s1.sim, s1.srep s sr, (Post.bind s1.sim back_W p1).mono (fun u H2 hh => ?_) fun _ _ _ e => e⟩
  obtain ⟨f2, h2, y, s2, q2, p2⟩ := hh
  exact ho f2 h2 H2 x y v u Q _ s2.sim (s2.rep s1.sim q1) q2 p2
theorem se_bin {op : Operator} {r : R2} {o : W → W → PH → Option (W × PH)} (hr : OpR X (binaryOp op) r) (ho : Op2 X.K r o) (ha : SE X W0 a m1) (hb : SE X W0 b m2) : SE X W0 (.BinOp a op b pos) (mOp o m1 m2) :=
  pe_imp (pe_op hr ha hb) fun _ _ _ h => tE_bin ho h
theorem se_un {op : UnaryOp} {r : V → Hp → VK → Prop} {o : W → PH → Option (W × PH)} (hr : UnR X (unaryOp op) r) (ho : Op1 X.K r o) (ha : SE X W0 a m1) : SE X W0 (.UnaryOp op a pos) (mUn o m1) :=
  pe_imp (pe_un hr ha) fun σ H Q h => by
    obtain ⟨f, h, ps, s, sr, p⟩ := h
    refine ⟨f, h, ps, s, sr, (Post.bind s back_W p).mono (fun v H1 hh => ?_) fun _ _ _ e => e⟩
    obtain ⟨f1, h1, x, s1, q1, p1⟩ := hh
    exact ho f1 h1 H1 x v Q _ s1.sim q1 p1
/-- a comparison as a value -/
theorem se_cmp {op : CmpOp} {r : R2} {o : W → W → PH → Option (W × PH)} (hr : OpR X (compareOp op) r) (ho : Op2 X.K r o) (ha : SE X W0 a m1) (hb : SE X W0 b m2) (hm : behindInMarks op b = false := by first | exact nomark _ | with_unfolding_all rfl) :
    SE X W0 (.Compare a [op] [b] pos) (mOp o m1 m2) := pe_imp (pe_cmpR hr ha hb hm) fun _ _ _ h => tE_bin ho h
/-- a[b] -/
theorem se_ix {r : R2} {o : W → W → PH → Option (W × PH)} (hr : IxR X r) (ho : Op2 X.K r o) (ha : SE X W0 a m1) (hb : SE X W0 b m2) (hs : PlainIx b := by exact fun _ _ => rfl) : SE X W0 (.Subscript a b pos) (mOp o m1 m2) :=
  pe_imp (pe_ix hr ha hb hs) fun _ _ _ h => tE_bin ho h

/-! ### tests -/
/-- a bool, as a test -/
def toB : W → PH → Res Bool
  | .bl b, h => .ok b h
  | _, _ => .stuck
def mB (m : EM) : BM := fun ps h => (m ps h).bind toB
theorem post_bl {K : PySem.W.Frag} {f : List Addr} {h : PH} {H : Hp} {x : W} {v : V} {Q : Bool → Hp → Prop} {E : XK} (s : Sim K f h H) (r : Rep K f H x v)
    (p : Post K RB f H (toB x h) Q E) : ∃ k, v = .bl k ∧ Q k H := by
  cases x with
  | bl b =>
    have e : v = .bl b := by simpa only [Rep] using r
    exact ⟨b, e, p f H b (.refl s) rfl⟩
  | _ => exact p.elim
theorem tT_test {K : PySem.W.Frag} {σ : L2.St} {H : Hp} {Q : Bool → Hp → Prop} (h : tT K W0 (mB m1) σ H Q) : tTest (tE K W0 m1) σ H Q := by
  obtain ⟨f, h, ps, s, sr, p⟩ := h
  refine ⟨f, h, ps, s, sr, (Post.bind s back_B p).mono (fun v H1 hh => ?_) fun _ _ _ e => e⟩
  obtain ⟨f1, h1, x, s1, q1, p1⟩ := hh
  exact post_bl s1.sim q1 p1
theorem st_cmp {op : CmpOp} {r : R2} {o : W → W → PH → Option (W × PH)} (hr : OpR X (compareOp op) r) (ho : Op2 X.K r o) (ha : SE X W0 a m1) (hb : SE X W0 b m2) (hm : behindInMarks op b = false := by first | exact nomark _ | with_unfolding_all rfl) :
    ST X W0 (.Compare a [op] [b] pos) (mB (mOp o m1 m2)) := pt_imp (pt_cmpR hr ha hb hm) fun σ H Q h => by
  obtain ⟨f, h, ps, s, sr, p⟩ := h
  have q : tE X.K W0 (mOp o m1 m2) σ H fun x H' => ∃ k, x = .bl k ∧ Q k H' := by
    refine ⟨f, h, ps, s, sr, (Post.bind s back_B p).mono (fun v H1 hh => ?_) fun _ _ _ e => e⟩
    obtain ⟨f1, h1, x, s1, q1, p1⟩ := hh
    exact post_bl s1.sim q1 p1
  exact tE_bin ho q
/-- any expression whose value is a bool, as a test -/
theorem st_val {e : Expr} (ha : SE X W0 e m1) (he : ∀ whole, isTrue e X.env whole = (do let v ← whole; standAt e.pos; holding [v] (truthy v)) := by intro _; rfl) : ST X W0 e (mB m1) :=
  pt_imp (pt_val ha he) fun σ H Q h => tT_test h

/-- a truth by the own heap -/
def tru : W → PH → Option Bool
  | .non, _ => some false
  | .bl b, _ => some b
  | .int i, _ => some (i != 0)
  | .str y, _ => if y.length ≤ sizeLine then some ((y.length : Int) != 0) else none
  | .tup xs, _ => some (!xs.isEmpty)
  | .fix xs, _ => some (!xs.isEmpty)
  | .exc _, _ => none
  | .ref n, h => match h[n]? with
    | some (.lst xs) => some (!xs.isEmpty)
    | some (.dK kvs) => some (!kvs.isEmpty)
    | _ => none
def mTru (m : EM) : BM := fun ps h => (m ps h).bind fun x h1 => match tru x h1 with
  | some b => .ok b h1
  | none => .stuck
theorem Reps.isEmpty {K : PySem.W.Frag} {f : List Addr} {H : Hp} {ws : List W} {vs : List V} (h : Reps K f H ws vs) : ws.isEmpty = vs.isEmpty := by
  cases ws with
  | nil =>
    rw [h.nil_inv]
    rfl
  | cons w r =>
    obtain ⟨v, t, rfl, _, _⟩ := h.cons_inv
    rfl
theorem KRep.isEmpty {κ : Type} {K : PySem.W.Frag} {f : List Addr} {H : Hp} {ws : List (κ × W)} {vs : List (κ × V)} (h : KRep K f H ws vs) : ws.isEmpty = vs.isEmpty := by
  cases ws with
  | nil =>
    have e : vs = [] := h
    rw [e]
    rfl
  | cons w r =>
    obtain ⟨v, t, rfl, _, _⟩ := h
    rfl
theorem Sim.at {K : PySem.W.Frag} {f : List Addr} {h : PH} {H : Hp} (s : Sim K f h H) {n : Nat} {o : OB} {v : V} (e : h[n]? = some o) (r : Rep K f H (.ref n) v) : ∃ a, v = .ref a ∧ f[n]? = some a ∧ ObjR K f H o a := by
  simp only [Rep] at r
  obtain ⟨a, h1, h2⟩ := r
  obtain ⟨b, h3, h4⟩ := s.obj n o e
  rw [h2] at h3
  cases h3
  exact ⟨a, h1, h2, h4⟩
theorem truV_of {K : PySem.W.Frag} {f : List Addr} {h : PH} {H : Hp} {x : W} {v : V} {k : Bool} (s : Sim K f h H) (r : Rep K f H x v) (e : tru x h = some k) : TruV K v H k := by
  cases x with
  | non => simp only [Rep] at r; subst r; simp only [tru, Option.some.injEq] at e; exact e.symm
  | bl b => simp only [Rep] at r; subst r; simp only [tru, Option.some.injEq] at e; exact e.symm
  | int i => simp only [Rep] at r; subst r; simp only [tru, Option.some.injEq] at e; exact e.symm
  | str y =>
    simp only [Rep] at r; subst r
    simp only [tru] at e
    split at e
    · rename_i hl
      simp only [Option.some.injEq] at e
      exact ⟨hl, e.symm⟩
    · cases e
  | tup xs =>
    simp only [Rep] at r
    obtain ⟨a, vs, rfl, h1, h2⟩ := r
    simp only [tru, Option.some.injEq] at e
    exact .inr (.inl ⟨vs, h1, by rw [← e, h2.isEmpty]⟩)
  | fix xs =>
    simp only [Rep] at r
    obtain ⟨a, vs, rfl, h1, h2⟩ := r
    simp only [tru, Option.some.injEq] at e
    exact .inl ⟨vs, h1.seq, by rw [← e, h2.isEmpty]⟩
  | exc _ => cases e
  | ref n =>
    simp only [tru] at e
    split at e
    · rename_i xs hn
      obtain ⟨a, rfl, _, vs, h1, h2⟩ := s.at hn r
      simp only [Option.some.injEq] at e
      exact .inl ⟨vs, SqL.of h1, by rw [← e, h2.isEmpty]⟩
    · rename_i xs hn
      obtain ⟨a, rfl, _, vs, h1, h2⟩ := s.at hn r
      simp only [Option.some.injEq] at e
      exact .inr (.inr ⟨vs, h1, by rw [← e, h2.isEmpty]⟩)
    · cases e
theorem st_tru {e : Expr} (ha : SE X W0 e m1) (he : ∀ whole, isTrue e X.env whole = (do let v ← whole; standAt e.pos; holding [v] (truthy v)) := by intro _; rfl) : ST X W0 e (mTru m1) :=
  pt_imp (pt_truth ha he) fun σ H Q h => by
    obtain ⟨f, h, ps, s, sr, p⟩ := h
    refine ⟨f, h, ps, s, sr, (Post.bind s back_B p).mono (fun v H1 hh => ?_) fun _ _ _ e => e⟩
    obtain ⟨f1, h1, x, s1, q1, p1⟩ := hh
    cases e : tru x h1 with
    | none => simp only [e] at p1; exact p1.elim
    | some k =>
      simp only [e] at p1
      exact ⟨k, truV_of s1.sim q1 e, p1 f1 H1 k (.refl s1.sim) rfl⟩

def mAnd (m n : BM) : BM := fun ps h => (m ps h).bind fun b h1 => if b = true then n ps h1 else .ok false h1
def mOr (m n : BM) : BM := fun ps h => (m ps h).bind fun b h1 => if b = true then .ok true h1 else n ps h1
def mNot (m : BM) : BM := fun ps h => (m ps h).bind fun b h1 => .ok (!b) h1
variable {n1 n2 : BM} {rest : List Expr}
theorem sw_and1 (ha : ST X W0 a n1) : SW X W0 (.BoolOp .And [a] pos) n1 := pw_and1 ha
theorem sw_or1 (ha : ST X W0 a n1) : SW X W0 (.BoolOp .Or [a] pos) n1 := pw_or1 ha
theorem sw_and (ha : ST X W0 a n1) (hb : SW X W0 (.BoolOp .And (b :: rest) pos) n2) : SW X W0 (.BoolOp .And (a :: b :: rest) pos) (mAnd n1 n2) := pw_imp (pw_and ha hb) fun σ H Q h => by
  obtain ⟨f, h, ps, s, sr, p⟩ := h
  refine ⟨f, h, ps, s, sr, (Post.bind s back_B p).mono (fun v H1 hh => ?_) fun _ _ _ e => e⟩
  obtain ⟨f1, h1, x, s1, q1, p1⟩ := hh
  cases q1
  by_cases hx : v = true
  · rw [if_pos hx] at p1 ⊢
    exact ⟨f1, h1, ps, s1.sim, s1.srep s sr, p1⟩
  · rw [if_neg hx] at p1 ⊢
    exact p1 f1 H1 _ (.refl s1.sim) rfl
theorem sw_or (ha : ST X W0 a n1) (hb : SW X W0 (.BoolOp .Or (b :: rest) pos) n2) : SW X W0 (.BoolOp .Or (a :: b :: rest) pos) (mOr n1 n2) := pw_imp (pw_or ha hb) fun σ H Q h => by
  obtain ⟨f, h, ps, s, sr, p⟩ := h
  refine ⟨f, h, ps, s, sr, (Post.bind s back_B p).mono (fun v H1 hh => ?_) fun _ _ _ e => e⟩
  obtain ⟨f1, h1, x, s1, q1, p1⟩ := hh
  cases q1
  by_cases hx : v = true
  · rw [if_pos hx] at p1 ⊢
    exact p1 f1 H1 _ (.refl s1.sim) rfl
  · rw [if_neg hx] at p1 ⊢
    exact ⟨f1, h1, ps, s1.sim, s1.srep s sr, p1⟩
theorem st_not (ha : ST X W0 a n1) : ST X W0 (.UnaryOp .Not a pos) (mNot n1) := pt_imp (pt_not ha) fun σ H Q h => by
  obtain ⟨f, h, ps, s, sr, p⟩ := h
  refine ⟨f, h, ps, s, sr, (Post.bind s back_B p).mono (fun v H1 hh => ?_) fun _ _ _ e => e⟩
  obtain ⟨f1, h1, x, s1, q1, p1⟩ := hh
  cases q1
  exact p1 f1 H1 _ (.refl s1.sim) rfl
/-- a if t else b -/
def mIf (t : BM) (m n : EM) : EM := fun ps h => (t ps h).bind fun b h1 => if b = true then m ps h1 else n ps h1
theorem se_if (hc : ST X W0 c n1) (ha : SE X W0 a m1) (hb : SE X W0 b m2) : SE X W0 (.IfExp c a b pos) (mIf n1 m1 m2) := pe_imp (pe_ifExp hc ha hb) fun σ H Q h => by
  obtain ⟨f, h, ps, s, sr, p⟩ := h
  refine ⟨f, h, ps, s, sr, (Post.bind s back_W p).mono (fun v H1 hh => ?_) fun _ _ _ e => e⟩
  obtain ⟨f1, h1, x, s1, q1, p1⟩ := hh
  cases q1
  by_cases hx : v = true
  · rw [if_pos hx] at p1 ⊢
    exact ⟨f1, h1, ps, s1.sim, s1.srep s sr, p1⟩
  · rw [if_neg hx] at p1 ⊢
    exact ⟨f1, h1, ps, s1.sim, s1.srep s sr, p1⟩
/-- and, or, not as values: of bools -/
def mAndV (m n : EM) : EM := fun ps h => (m ps h).bind fun x h1 => match x with
  | .bl b => if b = true then n ps h1 else .ok (.bl false) h1
  | _ => .stuck
def mOrV (m n : EM) : EM := fun ps h => (m ps h).bind fun x h1 => match x with
  | .bl b => if b = true then .ok (.bl true) h1 else n ps h1
  | _ => .stuck
def mNotV (m : EM) : EM := fun ps h => (m ps h).bind fun x h1 => match x with
  | .bl b => .ok (.bl (!b)) h1
  | _ => .stuck
theorem se_one {op} (h : SE X W0 a m1) : SE X W0 (.BoolOp op [a] pos) m1 := pe_one h
theorem se_and (ha : SE X W0 a m1) (hb : SE X W0 (.BoolOp .And (b :: rest) pos) m2) : SE X W0 (.BoolOp .And (a :: b :: rest) pos) (mAndV m1 m2) := pe_imp (pe_and ha hb) fun σ H Q h => by
  obtain ⟨f, h, ps, s, sr, p⟩ := h
  refine ⟨f, h, ps, s, sr, (Post.bind s back_W p).mono (fun v H1 hh => ?_) fun _ _ _ e => e⟩
  obtain ⟨f1, h1, x, s1, q1, p1⟩ := hh
  cases x with
  | bl k =>
    have e : v = .bl k := by simpa only [Rep] using q1
    refine ⟨k, e, ?_⟩
    dsimp only at p1
    by_cases hx : k = true
    · rw [if_pos hx] at p1 ⊢
      exact ⟨f1, h1, ps, s1.sim, s1.srep s sr, p1⟩
    · rw [if_neg hx] at p1 ⊢
      exact p1 f1 H1 _ (.refl s1.sim) (by simp only [Rep])
  | _ => exact p1.elim
theorem se_or (ha : SE X W0 a m1) (hb : SE X W0 (.BoolOp .Or (b :: rest) pos) m2) : SE X W0 (.BoolOp .Or (a :: b :: rest) pos) (mOrV m1 m2) := pe_imp (pe_or ha hb) fun σ H Q h => by
  obtain ⟨f, h, ps, s, sr, p⟩ := h
  refine ⟨f, h, ps, s, sr, (Post.bind s back_W p).mono (fun v H1 hh => ?_) fun _ _ _ e => e⟩
  obtain ⟨f1, h1, x, s1, q1, p1⟩ := hh
  cases x with
  | bl k =>
    have e : v = .bl k := by simpa only [Rep] using q1
    refine ⟨k, e, ?_⟩
    dsimp only at p1
    by_cases hx : k = true
    · rw [if_pos hx] at p1 ⊢
      exact p1 f1 H1 _ (.refl s1.sim) (by simp only [Rep])
    · rw [if_neg hx] at p1 ⊢
      exact ⟨f1, h1, ps, s1.sim, s1.srep s sr, p1⟩
  | _ => exact p1.elim
theorem se_not (ha : SE X W0 a m1) : SE X W0 (.UnaryOp .Not a pos) (mNotV m1) := pe_imp (pe_not ha) fun σ H Q h => by
  obtain ⟨f, h, ps, s, sr, p⟩ := h
  refine ⟨f, h, ps, s, sr, (Post.bind s back_W p).mono (fun v H1 hh => ?_) fun _ _ _ e => e⟩
  obtain ⟨f1, h1, x, s1, q1, p1⟩ := hh
  cases x with
  | bl k =>
    have e : v = .bl k := by simpa only [Rep] using q1
    exact ⟨k, e, p1 f1 H1 _ (.refl s1.sim) (by simp only [Rep])⟩
  | _ => exact p1.elim

/-! ### argument lists, displays -/
def mNil : LM := fun _ h => .ok [] h
def mCons (m : EM) (r : LM) : LM := fun ps h => (m ps h).bind fun x h1 => (r ps h1).bind fun xs h2 => .ok (x :: xs) h2
variable {es : List Expr} {l1 l2 : LM} {e : Expr}
theorem sa_nil : SA X W0 [] mNil := pa_imp pa_nil fun σ H Q h => by
  obtain ⟨f, h, ps, s, sr, p⟩ := h
  exact p f H [] (.refl s) .nil
theorem sa_cons (ha : SE X W0 e m1) (hr : SA X W0 es l1) (hs : starEach (e :: es) X.env = (false, eval e X.env) :: starEach es X.env := by rfl) : SA X W0 (e :: es) (mCons m1 l1) := pa_imp (pa_cons ha hr hs) fun σ H Q h => by
  obtain ⟨f, h, ps, s, sr, p⟩ := h
  refine ⟨f, h, ps, s, sr, (Post.bind s back_A p).mono (fun v H1 hh => ?_) fun _ _ _ e => e⟩
  obtain ⟨f1, h1, x, s1, q1, p1⟩ := hh
  refine ⟨f1, h1, ps, s1.sim, s1.srep s sr, (Post.bind s1.sim back_A p1).mono (fun vs H2 hh => ?_) fun _ _ _ e => e⟩
  obtain ⟨f2, h2, xs, s2, q2, p2⟩ := hh
  exact p2 f2 H2 _ (.refl s2.sim) (.cons (s2.rep s1.sim q1) q2)

/-- an object of no one's, new -/
theorem Sim.other {K : PySem.W.Frag} {f : List Addr} {h : PH} {H : Hp} (s : Sim K f h H) {p : Addr} {o : HO} (hp : H p = none) : Step K f H f h (upd H p o) := by
  have nf := s.fresh hp
  have g : Grow f H (upd H p o) := fun a u e hn => by rw [upd_ne (ne_of_none e hp)]; exact e
  refine ⟨.refl f, fun x a b => absurd a b, g, fun a o us e => by rw [upd_ne (ne_of_none e hp)]; exact e, s.len, s.nd, fun n ob e => ?_⟩
  obtain ⟨a, h1, h2⟩ := s.obj n ob e
  have ha : a ∈ f := List.mem_of_getElem? h1
  exact ⟨a, h1, h2.mono (.refl f) (s.stay g) (upd_ne fun z => nf (z ▸ ha))⟩
def mTup (l : LM) : EM := fun ps h => (l ps h).bind fun xs h1 => if xs.length ≤ 16777216 then .ok (.tup xs) h1 else .stuck
theorem se_tup {x1} (ha : SA X W0 es l1) : SE X W0 (.Tuple es x1 pos) (mTup l1) := pe_imp (pe_tup ha) fun σ H Q h => by
  obtain ⟨f, h, ps, s, sr, p⟩ := h
  refine ⟨f, h, ps, s, sr, (Post.bind s back_W p).mono (fun vs H1 hh => ?_) fun _ _ _ e => e⟩
  obtain ⟨f1, h1, xs, s1, q1, p1⟩ := hh
  by_cases hl : xs.length ≤ 16777216
  · rw [if_pos hl] at p1
    refine ⟨by rw [← q1.length, sizeLine_eq]; exact hl, fun q hq => p1 f1 _ _ (s1.sim.other hq) ?_⟩
    simp only [Rep]
    exact ⟨q, vs, rfl, SqT.of upd_same, Reps.mono (.refl f1) (s1.sim.stay (s1.sim.other hq).grow) _ _ q1⟩
  · rw [if_neg hl] at p1
    exact p1.elim
/-- a list display -/
def mLst (l : LM) : LM := fun ps h => (l ps h).bind fun xs h1 => if xs.length ≤ 16777216 then .ok xs h1 else .stuck
theorem sl_lst (ha : SA X W0 es l1) : SL X W0 (.List es pos) (mLst l1) := pe_imp (pe_lst ha) fun σ H Q h => by
  obtain ⟨f, h, ps, s, sr, p⟩ := h
  refine ⟨f, h, ps, s, sr, (Post.bind s back_L p).mono (fun vs H1 hh => ?_) fun _ _ _ e => e⟩
  obtain ⟨f1, h1, xs, s1, q1, p1⟩ := hh
  by_cases hl : xs.length ≤ 16777216
  · rw [if_pos hl] at p1
    refine ⟨by rw [← q1.length, sizeLine_eq]; exact hl, fun q hq => p1 f1 _ _ (s1.sim.other hq) ?_⟩
    exact ⟨q, vs, rfl, hq, s1.sim.fresh hq, upd_same, Reps.mono (.refl f1) (s1.sim.stay (s1.sim.other hq).grow) _ _ q1⟩
  · rw [if_neg hl] at p1
    exact p1.elim
/-- a new list, at a number of its own -/
def mNew (l : LM) : EM := fun ps h => (l ps h).bind fun xs h1 => .ok (.ref h1.length) (h1 ++ [.lst xs])
theorem Sim.take_in {K : PySem.W.Frag} {f : List Addr} {h : PH} {H : Hp} (s : Sim K f h H) {p : Addr} {o : OB} (np : p ∉ f) (ho : ObjR K f H o p) : Sim K (f ++ [p]) (h ++ [o]) H := by
  have st : Stay K H H := .refl K H
  refine ⟨by simp [s.len], List.nodup_append.mpr ⟨s.nd, by simp, ?_⟩, fun n ob e => ?_⟩
  · intro a ha b hb
    rw [List.mem_singleton] at hb
    subst hb
    exact fun z => np (z ▸ ha)
  · by_cases hn : n < h.length
    · rw [List.getElem?_append_left hn] at e
      obtain ⟨a, h1, h2⟩ := s.obj n ob e
      exact ⟨a, (Ext.snoc f p).get h1, h2.mono (.snoc f p) st rfl⟩
    · rw [List.getElem?_append_right (by omega)] at e
      have e2 : n - h.length = 0 := by
        cases k : n - h.length with
        | zero => rfl
        | succ j => rw [k] at e; simp at e
      rw [e2] at e
      simp only [List.getElem?_cons_zero, Option.some.injEq] at e
      subst e
      refine ⟨p, ?_, ho.mono (.snoc f p) st rfl⟩
      rw [List.getElem?_append_right (by rw [s.len]; omega)]
      have e3 : n - f.length = 0 := by rw [s.len]; exact e2
      rw [e3]
      rfl
theorem se_new (ha : SL X W0 e l1) : SE X W0 e (mNew l1) := pe_imp ha fun σ H Q h => by
  obtain ⟨f, h, ps, s, sr, p⟩ := h
  refine ⟨f, h, ps, s, sr, ?_⟩
  have p : Post X.K (RW X.K) f H ((l1 ps h).bind fun xs h1 => .ok (.ref h1.length) (h1 ++ [.lst xs])) Q _ := p
  cases e : l1 ps h with
  | stuck => rw [e] at p; exact p
  | exc x h' => rw [e] at p; exact p
  | ok xs h1 =>
    rw [e] at p
    intro f1 H1 v s1 q1
    obtain ⟨q, vs, rfl, hq, nq, eq, rq⟩ := q1
    refine p (f1 ++ [q]) H1 (.ref q) ⟨s1.ext.trans (.snoc f1 q), fun x hx hn => ?_, s1.grow, s1.lk, s1.sim.take_in nq ⟨vs, eq, rq⟩⟩ ?_
    · rcases List.mem_append.mp hx with m | m
      · exact s1.new x m hn
      · rw [List.mem_singleton] at m
        rw [m]
        exact hq
    · simp only [Rep]
      refine ⟨q, rfl, ?_⟩
      rw [List.getElem?_append_right (by rw [s1.sim.len]; omega), s1.sim.len]
      simp
end
end Mir

/-! Mir: operators. -/
namespace Mir
open PySem PySem.Spec PyProof.Rows L2

theorem Op2.or {K : PySem.W.Frag} {r r' : R2} {o : W → W → PH → Option (W × PH)} (h : ∀ (f : List Addr) (h : PH) (H : Hp) (x y : W) (v u : V) (Q : VK) (E : XK), Sim K f h H → Rep K f H x v → Rep K f H y u → Post K (RW K) f H (.ofO (o x y h)) Q E → r v u H Q ∨ r' v u H Q) :
    Op2 K (fun x y H Q => r x y H Q ∨ r' x y H Q) o := h
section
variable {K : PySem.W.Frag} {f : List Addr} {h : PH} {H : Hp} {x y : W} {v u : V} {Q : VK} {E : XK}
theorem rep_int {i : Int} : Rep K f H (.int i) v ↔ v = .int i := by simp only [Rep]
theorem rep_bl {i : Bool} : Rep K f H (.bl i) v ↔ v = .bl i := by simp only [Rep]
theorem rep_str {i : Str} : Rep K f H (.str i) v ↔ v = .str i := by simp only [Rep]
theorem rep_non : Rep K f H .non v ↔ v = .non := by simp only [Rep]
theorem rep_tup {xs : List W} : Rep K f H (.tup xs) v ↔ ∃ a vs, v = .ref a ∧ SqT K H a vs ∧ Reps K f H xs vs := by simp only [Rep]
theorem rep_exc {x : XV} : Rep K f H (.exc x) v ↔ ∃ a, v = .ref a ∧ ExR K H x a := by simp only [Rep]
theorem rep_fix {xs : List W} : Rep K f H (.fix xs) v ↔ ∃ a vs, v = .ref a ∧ FixL K H a vs ∧ Reps K f H xs vs := by simp only [Rep]
theorem post_ok {w : W} (s : Sim K f h H) (p : Post K (RW K) f H (.ofO (some (w, h))) Q E) {v : V} (r : Rep K f H w v) : Q v H := post_pure s p r
/-- a new tuple -/
theorem post_tup {xs : List W} {vs : List V} (s : Sim K f h H) (p : Post K (RW K) f H (.ofO (some (.tup xs, h))) Q E) (r : Reps K f H xs vs) {q : Addr} (hq : H q = none) : Q (.ref q) (upd H q (.tup vs)) :=
  p f _ _ (s.other hq) (rep_tup.mpr ⟨q, vs, rfl, SqT.of upd_same, Reps.mono (.refl f) (s.stay (s.other hq).grow) _ _ r⟩)
end

/-! ### a fresh list stays as it is from now on -/
abbrev QF (Q : VK) : VK := fun v H1 => Q v H1 ∨ ∃ a vs, v = .ref a ∧ H1 a = some (.lst vs) ∧ ∀ o, Q v (upd H1 a (.frz o (.lst vs)))
theorem pe_frz {X : Cx} {e : Expr} {t : TE} (h : PE X e t) : PE X e (fun σ H Q => t σ H (QF Q)) := by
  refine ⟨fun pins s σ H Q I q => thn (h.run pins s σ H _ I q) fun u s1 hh => ?_⟩
  obtain ⟨x, H1, I1, r, q1⟩ := hh
  rcases q1 with q1 | ⟨a, vs, rfl, e1, q1⟩
  · exact ⟨x, H1, I1, r, q1⟩
  · obtain ⟨o, I2⟩ := I1.lock e1 trivial
    exact ⟨_, _, I2, r, q1 o⟩
theorem stay_frz {K : PySem.W.Frag} {H : Hp} {D : Addr} {vs : List V} {o : Obj} (e : H D = some (.lst vs)) : Stay K H (upd H D (.frz o (.lst vs))) := by
  have key : ∀ a u, H a = some u → (∀ xs, u ≠ .lst xs) → upd H D (.frz o (.lst vs)) a = some u := fun a u e2 n => by
    rw [upd_ne (fun z => by subst z; rw [e] at e2; cases e2; exact n _ rfl)]
    exact e2
  refine ⟨fun a xs r => ?_, fun a xs r => ?_, fun a φ r => key _ _ r (fun _ z => by cases z), fun a gs r => key _ _ r (fun _ z => by cases z)⟩
  · rcases r with (r | ⟨o, r⟩) | r
    · exact .inl (.inl (key _ _ r (fun _ z => by cases z)))
    · exact .inl (.inr ⟨o, key _ _ r (fun _ z => by cases z)⟩)
    · exact .inr r
  · rcases r with ⟨o, r⟩ | r
    · exact .inl ⟨o, key _ _ r (fun _ z => by cases z)⟩
    · exact .inr r
theorem Step.freeze {K : PySem.W.Frag} {f f1 : List Addr} {h1 : PH} {H H1 : Hp} (st : Step K f H f1 h1 H1) {D : Addr} {vs : List V} {o : Obj} (hD : H D = none) (nd : D ∉ f1) (e : H1 D = some (.lst vs)) : Step K f H f1 h1 (upd H1 D (.frz o (.lst vs))) :=
  ⟨st.ext, st.new, fun a u ea na => by
    rw [upd_ne (fun z => by subst z; rw [hD] at ea; cases ea)]
    exact st.grow a u ea na, fun a o us ea => by
    have := st.lk a o us ea
    rw [upd_ne (fun z => by subst z; rw [e] at this; cases this)]
    exact this, st.sim.len, st.sim.nd, fun n ob q => by
    obtain ⟨a, h1, h2⟩ := st.sim.obj n ob q
    exact ⟨a, h1, h2.mono (.refl f1) (stay_frz e) (upd_ne fun z => nd (z ▸ List.mem_of_getElem? h1))⟩⟩
/-- a list that none will change -/
def mFix (l : LM) : EM := fun ps h => (l ps h).bind fun xs h1 => .ok (.fix xs) h1
theorem se_fix {X : Cx} {W0 : WX} {e : Expr} {l1 : LM} (ha : SL X W0 e l1) : SE X W0 e (mFix l1) := pe_imp (pe_frz ha) fun σ H Q h => by
  obtain ⟨f, h, ps, s, sr, p⟩ := h
  refine ⟨f, h, ps, s, sr, ?_⟩
  have p : Post X.K (RW X.K) f H ((l1 ps h).bind fun xs h1 => .ok (.fix xs) h1) Q _ := p
  cases e : l1 ps h with
  | stuck => rw [e] at p; exact p
  | exc x h' => rw [e] at p; exact p
  | ok xs h1 =>
    rw [e] at p
    intro f1 H1 v s1 q1
    obtain ⟨q, vs, rfl, hq, nq, eq, rq⟩ := q1
    exact .inr ⟨q, vs, rfl, eq, fun o => p f1 _ _ (s1.freeze hq nq eq) (rep_fix.mpr ⟨q, vs, rfl, .inl ⟨o, upd_same⟩, Reps.mono (.refl f1) (stay_frz eq) _ _ rq⟩)⟩
section
variable {K : PySem.W.Frag} {f : List Addr} {h : PH} {H : Hp} {Q : VK} {E : XK}
theorem post_fix {xs : List W} {vs : List V} (s : Sim K f h H) (p : Post K (RW K) f H (.ofO (some (.fix xs, h))) Q E) (r : Reps K f H xs vs) {q : Addr} (hq : H q = none) : QF Q (.ref q) (upd H q (.lst vs)) :=
  .inr ⟨q, vs, rfl, upd_same, fun o => by
    have st := s.other (o := .lst vs) hq
    exact p f _ _ (st.freeze hq (s.fresh hq) upd_same) (rep_fix.mpr ⟨q, vs, rfl, .inl ⟨o, upd_same⟩, Reps.mono (.refl f) ((s.stay st.grow).trans (stay_frz upd_same)) _ _ r⟩)⟩
end
/-- as Op2; a list told is one that none will change -/
def Op2F (K : PySem.W.Frag) (r : R2) (o : W → W → PH → Option (W × PH)) : Prop :=
  ∀ (f : List Addr) (h : PH) (H : Hp) (x y : W) (v u : V) (Q : VK) (E : XK), Sim K f h H → Rep K f H x v → Rep K f H y u → Post K (RW K) f H (.ofO (o x y h)) Q E → r v u H (QF Q)
theorem se_binF {X : Cx} {W0 : WX} {a b : Expr} {pos : Pos} {m1 m2 : EM} {op : Operator} {r : R2} {o : W → W → PH → Option (W × PH)} (hr : OpR X (binaryOp op) r) (ho : Op2F X.K r o) (ha : SE X W0 a m1) (hb : SE X W0 b m2) : SE X W0 (.BinOp a op b pos) (mOp o m1 m2) :=
  pe_imp (pe_frz (pe_op hr ha hb)) fun σ H Q h => by
    obtain ⟨f, h, ps, s, sr, p⟩ := h
    refine ⟨f, h, ps, s, sr, (Post.bind (R1 := RW X.K) s back_W p).mono (fun v H1 hh => ?_) fun _ _ _ e => e⟩
    obtain ⟨f1, h1, x, s1, q1, p1⟩ := hh
    refine ⟨f1, h1, ps, s1.sim, s1.srep s sr, (Post.bind (R1 := RW X.K) s1.sim back_W p1).mono (fun u H2 hh => ?_) fun _ _ _ e => e⟩
    obtain ⟨f2, h2, y, s2, q2, p2⟩ := hh
    exact ho f2 h2 H2 x y v u Q _ s2.sim (s2.rep s1.sim q1) q2 p2
def lstOf : W → PH → Option (List W)
  | .fix xs, _ => some xs
  | .ref n, h => match h[n]? with
    | some (.lst xs) => some xs
    | _ => none
  | _, _ => none
theorem lstOf_rep {K : PySem.W.Frag} {f : List Addr} {h : PH} {H : Hp} {x : W} {v : V} {ws : List W} (s : Sim K f h H) (r : Rep K f H x v) (e : lstOf x h = some ws) : ∃ a vs, v = .ref a ∧ SqL K H a vs ∧ Reps K f H ws vs := by
  cases x with
  | fix xs =>
    obtain ⟨a, vs, rfl, h1, h2⟩ := rep_fix.mp r
    cases e
    exact ⟨a, vs, rfl, h1.seq, h2⟩
  | ref n =>
    simp only [lstOf] at e
    split at e
    · rename_i xs hn
      obtain ⟨a, rfl, _, vs, h1, h2⟩ := s.at hn r
      cases e
      exact ⟨a, vs, rfl, SqL.of h1, h2⟩
    · cases e
  | _ => cases e

/-! ### whole numbers -/
def wI (g : Int → Int → Option W) : W → W → PH → Option (W × PH)
  | .int i, .int j, h => (g i j).map fun w => (w, h)
  | _, _, _ => none
theorem wI_of {g : Int → Int → Option W} {x y : W} {h : PH} {w : W × PH} (e : wI g x y h = some w) : ∃ i j z, x = .int i ∧ y = .int j ∧ g i j = some z ∧ w = (z, h) := by
  unfold wI at e
  split at e
  · rename_i i j
    cases e2 : g i j with
    | none => rw [e2] at e; cases e
    | some z =>
      rw [e2] at e
      exact ⟨i, j, z, rfl, rfl, e2, (Option.some.inj e).symm⟩
  · cases e
theorem op2_I {K : PySem.W.Frag} {C : Int → Int → Prop} {g : Int → Int → V} {k : Int → Int → Option W} (hk : ∀ i j w, k i j = some w → C i j ∧ ∀ f H, Rep K f H w (g i j)) : Op2 K (rI C g) (wI k) := by
  intro f h H x y v u Q E s rx ry p
  cases e : wI k x y h with
  | none => rw [e] at p; exact p.elim
  | some w =>
    rw [e] at p
    obtain ⟨i, j, z, rfl, rfl, e2, rfl⟩ := wI_of e
    obtain ⟨c, r⟩ := hk i j z e2
    exact ⟨i, j, rep_int.mp rx, rep_int.mp ry, c, post_ok s p (r f H)⟩
theorem op2_I0 {K : PySem.W.Frag} {g : Int → Int → V} {k : Int → Int → Option W} (hk : ∀ i j w, k i j = some w → ∀ f H, Rep K f H w (g i j)) : Op2 K (rI0 g) (wI k) := by
  intro f h H x y v u Q E s rx ry p
  cases e : wI k x y h with
  | none => rw [e] at p; exact p.elim
  | some w =>
    rw [e] at p
    obtain ⟨i, j, z, rfl, rfl, e2, rfl⟩ := wI_of e
    exact ⟨i, j, rep_int.mp rx, rep_int.mp ry, post_ok s p (hk i j z e2 f H)⟩
def wSub := wI fun i j => some (.int (i - j))
def wMod := wI fun i j => if 0 < j then some (.int (i % j)) else none
def wFdiv := wI fun i j => if 0 < j ∧ j.natAbs.log2 < 9000 then some (.int (i / j)) else none
def wPow := wI fun i j => if 0 ≤ j ∧ j ≤ 1000000 ∧ i.natAbs < 2 ^ 64 then some (.int (i ^ j.toNat)) else none
section
variable {K : PySem.W.Frag} {X : Cx} {W0 : WX} {a b : Expr} {pos : Pos} {m1 m2 : EM}
theorem se_sub (ha : SE X W0 a m1) (hb : SE X W0 b m2) : SE X W0 (.BinOp a .Sub b pos) (mOp wSub m1 m2) :=
  se_bin op_sub (op2_I0 fun i j w e f H => by cases e; simp only [Rep]) ha hb
theorem se_mod (ha : SE X W0 a m1) (hb : SE X W0 b m2) : SE X W0 (.BinOp a .Mod b pos) (mOp wMod m1 m2) :=
  se_bin op_mod (op2_I fun i j w e => by
    split at e
    · rename_i c
      cases e
      exact ⟨c, fun f H => by simp only [Rep]⟩
    · cases e) ha hb
theorem se_fdiv (ha : SE X W0 a m1) (hb : SE X W0 b m2) : SE X W0 (.BinOp a .FloorDiv b pos) (mOp wFdiv m1 m2) :=
  se_bin op_fdivW (op2_I fun i j w e => by
    split at e
    · rename_i c
      cases e
      exact ⟨c, fun f H => by simp only [Rep]⟩
    · cases e) ha hb
theorem se_pow (ha : SE X W0 a m1) (hb : SE X W0 b m2) : SE X W0 (.BinOp a .Pow b pos) (mOp wPow m1 m2) :=
  se_bin op_pow (op2_I fun i j w e => by
    split at e
    · rename_i c
      cases e
      exact ⟨c, fun f H => by simp only [Rep]⟩
    · cases e) ha hb
def wNeg : W → PH → Option (W × PH)
  | .int i, h => some (.int (-i), h)
  | _, _ => none
theorem se_neg (ha : SE X W0 a m1) : SE X W0 (.UnaryOp .USub a pos) (mUn wNeg m1) := se_un un_neg (fun f h H x v Q E s r p => by
  unfold wNeg at p
  split at p
  · exact ⟨_, rep_int.mp r, post_ok s p (rep_int.mpr rfl)⟩
  · exact p.elim) ha

/-! ### + -/
def wAdd : W → W → PH → Option (W × PH)
  | .int i, .int j, h => some (.int (i + j), h)
  | .str x, .str y, h => if x.length + y.length ≤ 16777216 then some (.str (x ++ y), h) else none
  | .tup xs, .tup ys, h => if xs.length + ys.length ≤ 16777216 then some (.tup (xs ++ ys), h) else none
  | x, y, h => match lstOf x h, lstOf y h with
    | some xs, some ys => if xs.length + ys.length ≤ 16777216 then some (.fix (xs ++ ys), h) else none
    | _, _ => none
/-- two lists, of any sort -/
abbrev rCatS (K : PySem.W.Frag) : R2 := fun x y H Q => ∃ l b xs zs, x = .ref l ∧ y = .ref b ∧ SqL K H l xs ∧ SqL K H b zs ∧ xs.length + zs.length ≤ 16777216 ∧ ∀ p, H p = none → Q (.ref p) (upd H p (.lst (xs ++ zs)))
theorem op_catS {X : Cx} : OpR X (binaryOp .Add) (rCatS X.K) := by
  intro pins s σ H x y v u Q I rx ry h
  obtain ⟨l, b, xs, zs, rfl, rfl, hx, hy, hz, q⟩ := h
  cases rx
  cases ry
  obtain ⟨i1, r1, ⟨⟨c1, d1, t1, sl1⟩, n1, e1, k1, w1, z1⟩, _⟩ := I.list hx
  obtain ⟨i2, r2, ⟨⟨c2, d2, t2, sl2⟩, n2, e2, k2, w2, z2⟩, _⟩ := I.list hy
  simp only at k1 w1 z1 k2 w2 z2
  subst k1 w1 z1 k2 w2 z2
  have hl : i1.toArray.size + i2.toArray.size ≤ sizeLine := by
    rw [List.size_toArray, List.size_toArray, ← r1.length, ← r2.length, sizeLine_eq]
    exact hz
  refine concat_meets ⟨_, e1, rfl⟩ ⟨_, e2, rfl⟩ noFill_list_add seq_list_add PySem.F.slot_list_add PySem.F.entry_list_add (PySem.F.args_list_add_2 _ _)
    (list_addW l b i1.toArray i2.toArray n1 n2 none none sl1 sl2 hl) ⟨e1, e2, ?_⟩
  have ea : i1.toArray ++ i2.toArray = (i1 ++ i2).toArray := by simp
  rw [ea]
  have hz2 : (xs ++ zs).length ≤ sizeLine := by
    rw [List.length_append, sizeLine_eq]
    exact hz
  exact ⟨.ref _, _, I.lnew (t' := s.toks) (r1.append r2) hz2, rfl, q _ I.fresh⟩
theorem op2_add : Op2F K (fun x y H Q => rI0 (fun i j => .int (i + j)) x y H Q ∨ (∃ i j, x = .str i ∧ y = .str j ∧ i.length + j.length ≤ sizeLine ∧ Q (.str (i ++ j)) H) ∨ rCatA K x y H Q ∨ rCatS K x y H Q) wAdd := by
  intro f h H x y v u Q E s rx ry p
  unfold wAdd at p
  split at p
  · exact .inl ⟨_, _, rep_int.mp rx, rep_int.mp ry, .inl (post_ok s p (rep_int.mpr rfl))⟩
  · split at p
    · rename_i c
      exact .inr (.inl ⟨_, _, rep_str.mp rx, rep_str.mp ry, by rw [sizeLine_eq]; exact c, .inl (post_ok s p (rep_str.mpr rfl))⟩)
    · exact p.elim
  · split at p
    · rename_i c
      obtain ⟨a, vs, rfl, ha, ra⟩ := rep_tup.mp rx
      obtain ⟨b, us, rfl, hb, rb⟩ := rep_tup.mp ry
      refine .inr (.inr (.inl ⟨a, b, vs, us, rfl, rfl, ha, hb, by rw [← ra.length, ← rb.length, sizeLine_eq]; exact c, fun e => .inl ?_, fun _ e => .inl ?_, fun _ _ q hq => .inl (post_tup s p (ra.append rb) hq)⟩))
      · subst e
        refine post_ok s p (rep_tup.mpr ⟨b, us, rfl, hb, ?_⟩)
        exact ra.append rb
      · subst e
        refine post_ok s p (rep_tup.mpr ⟨a, vs, rfl, ha, ?_⟩)
        have z := ra.append rb
        rw [List.append_nil] at z
        exact z
    · exact p.elim
  · split at p
    · rename_i xs ys e1 e2
      split at p
      · rename_i c
        obtain ⟨a, vs, rfl, ha, ra⟩ := lstOf_rep s rx e1
        obtain ⟨b, us, rfl, hb, rb⟩ := lstOf_rep s ry e2
        exact .inr (.inr (.inr ⟨a, b, vs, us, rfl, rfl, ha, hb, by rw [← ra.length, ← rb.length]; exact c, fun q hq => post_fix s p (ra.append rb) hq⟩))
      · exact p.elim
    · exact p.elim
theorem se_add (ha : SE X W0 a m1) (hb : SE X W0 b m2) : SE X W0 (.BinOp a .Add b pos) (mOp wAdd m1 m2) := se_binF (op_add.or (op_add_str.or (op_catA.or op_catS))) op2_add ha hb
/-- two lists: a fresh one -/
def mCat (m1 m2 : EM) : LM := fun ps h => (m1 ps h).bind fun x h1 => (m2 ps h1).bind fun y h2 => match lstOf x h2, lstOf y h2 with
  | some xs, some ys => if xs.length + ys.length ≤ 16777216 then .ok (xs ++ ys) h2 else .stuck
  | _, _ => .stuck
theorem sl_cat (ha : SE X W0 a m1) (hb : SE X W0 b m2) : SL X W0 (.BinOp a .Add b pos) (mCat m1 m2) := pe_imp (pe_op op_catS ha hb) fun σ H Q h => by
  obtain ⟨f, h, ps, s, sr, p⟩ := h
  refine ⟨f, h, ps, s, sr, (Post.bind (R1 := RW X.K) s back_L p).mono (fun v H1 hh => ?_) fun _ _ _ e => e⟩
  obtain ⟨f1, h1, x, s1, q1, p1⟩ := hh
  refine ⟨f1, h1, ps, s1.sim, s1.srep s sr, (Post.bind (R1 := RW X.K) s1.sim back_L p1).mono (fun u H2 hh => ?_) fun _ _ _ e => e⟩
  obtain ⟨f2, h2, y, s2, q2, p2⟩ := hh
  split at p2
  · rename_i xs ys e1 e2
    split at p2
    · rename_i c
      obtain ⟨a, vs, rfl, ha, ra⟩ := lstOf_rep s2.sim (s2.rep s1.sim q1) e1
      obtain ⟨b, us, rfl, hb, rb⟩ := lstOf_rep s2.sim q2 e2
      refine ⟨a, b, vs, us, rfl, rfl, ha, hb, by rw [← ra.length, ← rb.length]; exact c, fun q hq => ?_⟩
      have st := s2.sim.other (o := .lst (vs ++ us)) hq
      exact p2 f2 _ _ st ⟨q, _, rfl, hq, s2.sim.fresh hq, upd_same, Reps.mono (.refl f2) (s2.sim.stay st.grow) _ _ (ra.append rb)⟩
    · exact p2.elim
  · exact p2.elim

/-! ### * -/
def wMul : W → W → PH → Option (W × PH)
  | .int i, .int j, h => if (-(2 ^ 64) < i ∧ i < 2 ^ 64) ∨ (-(2 ^ 64) < j ∧ j < 2 ^ 64) then some (.int (i * j), h) else none
  | .tup xs, .int k, h => if xs ≠ [] ∧ 2 ≤ k ∧ k ≤ 1000 ∧ xs.length ≤ 1000 then some (.tup (List.replicate k.toNat xs).flatten, h) else none
  | .str z, .int k, h => if z.length ≤ 1000 ∧ -1000 ≤ k ∧ k ≤ 10000 then some (.str (Txt.mul z k), h) else none
  | _, _, _ => none
theorem mulS_ok {z : Str} {k : Int} (h1 : z.length ≤ 1000) (h2 : -1000 ≤ k) (h3 : k ≤ 10000) : MulOk z k := by
  refine ⟨by rw [decide_eq_false (by omega), decide_eq_false (by omega)]; rfl, fun a _ => ?_, fun a _ => ?_⟩
  · have : (1000 : Int) ≤ (2 ^ 63 - 1) / k := (Int.le_ediv_iff_mul_le (by omega)).mpr (by omega)
    omega
  · have : z.length * k.toNat ≤ 1000 * 10000 := Nat.mul_le_mul h1 (by omega)
    unfold Builtin.Str.tooLong
    rw [sizeLine_eq]
    exact decide_eq_false (by omega)
abbrev rMulS : R2 := fun x y H Q => ∃ z k, x = .str z ∧ y = .int k ∧ z.length ≤ 1000 ∧ -1000 ≤ k ∧ k ≤ 10000 ∧ Q (.str (Txt.mul z k)) H
theorem op_mulS {X : Cx} : OpR X (binaryOp .Mult) rMulS := by
  intro pins s σ H x y v u Q I rx ry h
  obtain ⟨z, k, rfl, rfl, h1, h2, h3, q⟩ := h
  obtain ⟨t, rfl⟩ := rx
  obtain ⟨t', rfl⟩ := ry
  exact PySem.SB.mul (mulS_ok h1 h2 h3) fun t' tk => ⟨.str _, H, I.tok _, ⟨_, rfl⟩, q⟩
theorem Reps.rep_flat {K : PySem.W.Frag} {f : List Addr} {H : Hp} {ws : List W} {vs : List V} (r : Reps K f H ws vs) : ∀ n : Nat, Reps K f H (List.replicate n ws).flatten (List.replicate n vs).flatten
  | 0 => by simp only [List.replicate_zero, List.flatten_nil, Reps]
  | n + 1 => by
    rw [List.replicate_succ, List.replicate_succ, List.flatten_cons, List.flatten_cons]
    exact r.append (Reps.rep_flat r n)
theorem op2_mul : Op2 K (fun x y H Q => rI CMul (fun i j => .int (i * j)) x y H Q ∨ rRepT K x y H Q ∨ rMulS x y H Q) wMul := by
  intro f h H x y v u Q E s rx ry p
  unfold wMul at p
  split at p
  · split at p
    · rename_i c
      exact .inl ⟨_, _, rep_int.mp rx, rep_int.mp ry, c, post_ok s p (rep_int.mpr rfl)⟩
    · exact p.elim
  · split at p
    · rename_i c
      obtain ⟨a, vs, rfl, ha, ra⟩ := rep_tup.mp rx
      refine .inr <| .inl ⟨a, _, vs, rfl, rep_int.mp ry, ha, fun e => ?_, c.2.1, c.2.2.1, by rw [← ra.length]; exact c.2.2.2, fun q hq => post_tup s p (ra.rep_flat _) hq⟩
      subst e
      have z := ra.length
      exact c.1 (List.length_eq_zero_iff.mp z)
    · exact p.elim
  · split at p
    · rename_i c
      exact .inr <| .inr ⟨_, _, rep_str.mp rx, rep_int.mp ry, c.1, c.2.1, c.2.2, post_ok s p (rep_str.mpr rfl)⟩
    · exact p.elim
  · exact p.elim
theorem se_mul (ha : SE X W0 a m1) (hb : SE X W0 b m2) : SE X W0 (.BinOp a .Mult b pos) (mOp wMul m1 m2) := se_bin (op_mul.or (op_repT.or op_mulS)) op2_mul ha hb
end
end Mir

/-! Mir: comparisons. -/
namespace Mir
open PySem L2

/-! ### order -/
def wCmp (p : Int → Int → Bool) (q : List Nat → List Nat → Bool) : W → W → PH → Option (W × PH)
  | .int i, .int j, h => some (.bl (p i j), h)
  | .str x, .str y, h => some (.bl (q x.cps.toList y.cps.toList), h)
  | _, _, _ => none
def wLt := wCmp (fun i j => decide (i < j)) fun x y => decide (x < y)
def wLe := wCmp (fun i j => decide (i ≤ j)) fun x y => !decide (y < x)
def wGt := wCmp (fun i j => decide (j < i)) fun x y => decide (y < x)
def wGe := wCmp (fun i j => decide (j ≤ i)) fun x y => !decide (x < y)
section
variable {K : PySem.W.Frag} {X : Cx} {W0 : WX} {a b c : Expr} {pos : Pos} {m1 m2 m3 : EM}
theorem op2_cmp {p : Int → Int → Bool} {q : List Nat → List Nat → Bool} {r : R2} (hr : ∀ (i j : Str) (H : Hp) (Q : VK), Q (.bl (q i.cps.toList j.cps.toList)) H → r (.str i) (.str j) H Q) : Op2 K (fun x y H Q => rI0 (fun i j => .bl (p i j)) x y H Q ∨ r x y H Q) (wCmp p q) := by
  intro f h H x y v u Q E s rx ry z
  unfold wCmp at z
  split at z
  · exact .inl ⟨_, _, rep_int.mp rx, rep_int.mp ry, post_ok s z (rep_bl.mpr rfl)⟩
  · have e1 := rep_str.mp rx
    have e2 := rep_str.mp ry
    subst e1 e2
    exact .inr (hr _ _ _ _ (post_ok s z (rep_bl.mpr rfl)))
  · exact z.elim
abbrev rSS (q : List Nat → List Nat → Bool) : R2 := fun x y H Q => ∃ i j, x = .str i ∧ y = .str j ∧ Q (.bl (q i.cps.toList j.cps.toList)) H
theorem o_lt : OpR X (compareOp .Lt) (fun x y H Q => rI0 (fun i j => .bl (decide (i < j))) x y H Q ∨ rSS (fun x y => decide (x < y)) x y H Q) := op_lt.or op_lt_str
theorem o_le : OpR X (compareOp .LtE) (fun x y H Q => rI0 (fun i j => .bl (decide (i ≤ j))) x y H Q ∨ rSS (fun x y => !decide (y < x)) x y H Q) := op_le.or op_le_str
theorem o_gt : OpR X (compareOp .Gt) (fun x y H Q => rI0 (fun i j => .bl (decide (j < i))) x y H Q ∨ rSS (fun x y => decide (y < x)) x y H Q) := op_gt.or op_gt_str
theorem o_ge : OpR X (compareOp .GtE) (fun x y H Q => rI0 (fun i j => .bl (decide (j ≤ i))) x y H Q ∨ rSS (fun x y => !decide (x < y)) x y H Q) := op_ge.or op_ge_str
theorem p_lt : Op2 K (fun x y H Q => rI0 (fun i j => .bl (decide (i < j))) x y H Q ∨ rSS (fun x y => decide (x < y)) x y H Q) wLt := op2_cmp fun i j H Q q => ⟨i, j, rfl, rfl, q⟩
theorem p_le : Op2 K (fun x y H Q => rI0 (fun i j => .bl (decide (i ≤ j))) x y H Q ∨ rSS (fun x y => !decide (y < x)) x y H Q) wLe := op2_cmp fun i j H Q q => ⟨i, j, rfl, rfl, q⟩
theorem p_gt : Op2 K (fun x y H Q => rI0 (fun i j => .bl (decide (j < i))) x y H Q ∨ rSS (fun x y => decide (y < x)) x y H Q) wGt := op2_cmp fun i j H Q q => ⟨i, j, rfl, rfl, q⟩
theorem p_ge : Op2 K (fun x y H Q => rI0 (fun i j => .bl (decide (j ≤ i))) x y H Q ∨ rSS (fun x y => !decide (x < y)) x y H Q) wGe := op2_cmp fun i j H Q q => ⟨i, j, rfl, rfl, q⟩

/-- a op1 b op2 c -/
def mChain (o o' : W → W → PH → Option (W × PH)) (m1 m2 m3 : EM) : EM := fun ps h => (m1 ps h).bind fun x h1 => (m2 ps h1).bind fun y h2 => (Res.ofO (o x y h2)).bind fun z h3 => match z with
  | .bl k => if k = true then (m3 ps h3).bind fun w h4 => .ofO (o' y w h4) else .ok (.bl false) h3
  | _ => .stuck
/-- an operation that keeps its operands' trees -/
theorem tE_chain {r r' : R2} {o o' : W → W → PH → Option (W × PH)} (ho : Op2 K r o) (ho' : Op2 K r' o') {σ : L2.St} {H : Hp} {Q : VK} (h : tE K W0 (mChain o o' m1 m2 m3) σ H Q) : tChain r r' (tE K W0 m1) (tE K W0 m2) (tE K W0 m3) σ H Q := by
  obtain ⟨f, h, ps, s, sr, p⟩ := h
  refine ⟨f, h, ps, s, sr, (Post.bind s back_W p).mono (fun v H1 hh => ?_) fun _ _ _ e => e⟩
  obtain ⟨f1, h1, x, s1, q1, p1⟩ := hh
  refine ⟨f1, h1, ps, s1.sim, s1.srep s sr, (Post.bind s1.sim back_W p1).mono (fun u H2 hh => ?_) fun _ _ _ e => e⟩
  obtain ⟨f2, h2, y, s2, q2, p2⟩ := hh
  refine ho f2 h2 H2 x y v u _ (fun c d H' => W0 c d σ H') s2.sim (s2.rep s1.sim q1) q2 ((Post.bind (R1 := RW K) s2.sim back_W p2).mono (fun t H3 hh => ?_) fun _ _ _ e => e)
  obtain ⟨f3, h3, z, s3, q3, p3⟩ := hh
  cases z with
  | bl k =>
    refine ⟨k, rep_bl.mp q3, ?_⟩
    dsimp only at p3
    by_cases hk : k = true
    · rw [if_pos hk] at p3 ⊢
      refine ⟨f3, h3, ps, s3.sim, s3.srep s2.sim (s2.srep s1.sim (s1.srep s sr)), (Post.bind s3.sim back_W p3).mono (fun w H4 hh => ?_) fun _ _ _ e => e⟩
      obtain ⟨f4, h4, w', s4, q4, p4⟩ := hh
      exact ho' f4 h4 H4 y w' u w Q _ s4.sim (s4.rep s3.sim (s3.rep s2.sim q2)) q4 p4
    · rw [if_neg hk] at p3 ⊢
      exact p3 f3 H3 _ (.refl s3.sim) (rep_bl.mpr rfl)
  | _ => exact p3.elim
theorem se_chain {op op' : CmpOp} {r r' : R2} {o o' : W → W → PH → Option (W × PH)} (hr : OpR X (compareOp op) r) (ho : Op2 X.K r o) (hr' : OpR X (compareOp op') r') (ho' : Op2 X.K r' o') (ha : SE X W0 a m1) (hb : SE X W0 b m2) (hc : SE X W0 c m3)
    (hm : lastMarks [op, op'] [b, c] = false := by with_unfolding_all rfl) : SE X W0 (.Compare a [op, op'] [b, c] pos) (mChain o o' m1 m2 m3) :=
  pe_imp (pe_chain hr hr' ha hb hc hm) fun _ _ _ h => tE_chain ho ho' h
theorem st_chain {op op' : CmpOp} {r r' : R2} {o o' : W → W → PH → Option (W × PH)} (hr : OpR X (compareOp op) r) (ho : Op2 X.K r o) (hr' : OpR X (compareOp op') r') (ho' : Op2 X.K r' o') (ha : SE X W0 a m1) (hb : SE X W0 b m2) (hc : SE X W0 c m3)
    (hm : lastMarks [op, op'] [b, c] = false := by with_unfolding_all rfl) : ST X W0 (.Compare a [op, op'] [b, c] pos) (mB (mChain o o' m1 m2 m3)) :=
  pt_imp (pt_chain hr hr' ha hb hc hm) fun σ H Q h => by
    obtain ⟨f, h, ps, s, sr, p⟩ := h
    have q : tE X.K W0 (mChain o o' m1 m2 m3) σ H fun x H' => ∃ k, x = .bl k ∧ Q k H' := by
      refine ⟨f, h, ps, s, sr, (Post.bind s back_B p).mono (fun v H1 hh => ?_) fun _ _ _ e => e⟩
      obtain ⟨f1, h1, x, s1, q1, p1⟩ := hh
      exact post_bl s1.sim q1 p1
    exact tE_chain ho ho' q

/-! ### ==: data -/
mutual
def datS (look : Nat → Option PyData) : W → Option PyData
  | .non => some .none
  | .bl b => some (.bool b)
  | .int i => some (.int i)
  | .str x => some (.str x)
  | .tup xs => (datSs look xs).map .tuple
  | .fix xs => (datSs look xs).map .list
  | .exc _ => none
  | .ref n => look n
def datSs (look : Nat → Option PyData) : List W → Option (List PyData)
  | [] => some []
  | x :: xs => match datS look x, datSs look xs with
    | some d, some ds => some (d :: ds)
    | _, _ => none
end
def datL : Nat → PH → Nat → Option PyData
  | 0, _, _ => none
  | n + 1, h, k => match h[k]? with
    | some (.lst xs) => (datSs (datL n h) xs).map .list
    | _ => none
abbrev dat (h : PH) (w : W) : Option PyData := datS (datL 4 h) w
mutual
theorem dp_of {f : List Addr} {H : Hp} {look : Nat → Option PyData} (hl : ∀ (n : Nat) (d : PyData) (v : V), look n = some d → Rep K f H (.ref n) v → Dp K H v d) : ∀ (w : W) (v : V) (d : PyData), datS look w = some d → Rep K f H w v → Dp K H v d
  | .non, v, d, e, r => by
    rw [rep_non.mp r]
    simp only [datS, Option.some.injEq] at e
    subst e
    exact .non
  | .bl b, v, d, e, r => by
    rw [rep_bl.mp r]
    simp only [datS, Option.some.injEq] at e
    subst e
    exact .bl b
  | .int b, v, d, e, r => by
    rw [rep_int.mp r]
    simp only [datS, Option.some.injEq] at e
    subst e
    exact .int b
  | .str b, v, d, e, r => by
    rw [rep_str.mp r]
    simp only [datS, Option.some.injEq] at e
    subst e
    exact .str b
  | .tup xs, v, d, e, r => by
    obtain ⟨a, vs, rfl, h1, h2⟩ := rep_tup.mp r
    simp only [datS] at e
    obtain ⟨ds, e1, rfl⟩ := Option.map_eq_some_iff.mp e
    exact .tup h1 (dp_all hl xs vs ds e1 h2)
  | .fix xs, v, d, e, r => by
    obtain ⟨a, vs, rfl, h1, h2⟩ := rep_fix.mp r
    simp only [datS] at e
    obtain ⟨ds, e1, rfl⟩ := Option.map_eq_some_iff.mp e
    exact .lst h1.seq (dp_all hl xs vs ds e1 h2)
  | .exc _, v, d, e, r => by simp [datS] at e
  | .ref n, v, d, e, r => by
    simp only [datS] at e
    exact hl n d v e r
theorem dp_all {f : List Addr} {H : Hp} {look : Nat → Option PyData} (hl : ∀ (n : Nat) (d : PyData) (v : V), look n = some d → Rep K f H (.ref n) v → Dp K H v d) : ∀ (ws : List W) (vs : List V) (ds : List PyData), datSs look ws = some ds → Reps K f H ws vs → DpAll K H vs ds
  | [], vs, ds, e, r => by
    rw [r.nil_inv]
    simp only [datSs, Option.some.injEq] at e
    subst e
    exact .nil
  | x :: xs, vs, ds, e, r => by
    obtain ⟨v, t, rfl, h1, h2⟩ := r.cons_inv
    simp only [datSs] at e
    split at e
    · rename_i d ds' e1 e2
      cases e
      exact .cons (dp_of hl x v d e1 h1) (dp_all hl xs t ds' e2 h2)
    · cases e
end
theorem dp_look {f : List Addr} {h : PH} {H : Hp} (s : Sim K f h H) : ∀ (m n : Nat) (d : PyData) (v : V), datL m h n = some d → Rep K f H (.ref n) v → Dp K H v d
  | 0, n, d, v, e, r => by simp [datL] at e
  | m + 1, n, d, v, e, r => by
    simp only [datL] at e
    split at e
    · rename_i xs hn
      obtain ⟨a, rfl, _, vs, h1, h2⟩ := s.at hn r
      obtain ⟨ds, e1, rfl⟩ := Option.map_eq_some_iff.mp e
      exact .lst (SqL.of h1) (dp_all (dp_look s m) xs vs ds e1 h2)
    · cases e
theorem dp {f : List Addr} {h : PH} {H : Hp} (s : Sim K f h H) {w : W} {v : V} {d : PyData} (e : dat h w = some d) (r : Rep K f H w v) : Dp K H v d := dp_of (dp_look s 4) w v d e r

/-- == by the own heap -/
def eqB : W → W → PH → Option Bool
  | .int i, .int j, _ => some (i == j)
  | .str i, .str j, _ => some (i == j)
  | .non, .non, _ => some true
  | .non, .int _, _ => some false
  | .int _, .non, _ => some false
  | .non, .str _, _ => some false
  | .str _, .non, _ => some false
  | .int _, .str _, _ => some false
  | .str _, .int _, _ => some false
  | .bl i, .bl j, _ => some (i == j)
  | x, y, h => match dat h x, dat h y with
    | some d, some e => if SeqAt.shaped d = true ∧ SeqAt.shaped e = true then some (PyData.eqv d e) else none
    | _, _ => none
def wEq (x y : W) (h : PH) : Option (W × PH) := (eqB x y h).map fun b => (.bl b, h)
def wNe (x y : W) (h : PH) : Option (W × PH) := (eqB x y h).map fun b => (.bl (!b), h)
theorem eqB_of {f : List Addr} {h : PH} {H : Hp} {x y : W} {v u : V} {b : Bool} (s : Sim K f h H) (rx : Rep K f H x v) (ry : Rep K f H y u) (e : eqB x y h = some b) :
    (scal v u = true ∧ decide (v = u) = b) ∨ ∃ d e, Dp K H v d ∧ Dp K H u e ∧ SeqAt.shaped d = true ∧ SeqAt.shaped e = true ∧ PyData.eqv d e = b := by
  unfold eqB at e
  split at e
  · rw [rep_int.mp rx, rep_int.mp ry]
    exact .inl ⟨rfl, by rw [dec_int]; exact Option.some.inj e⟩
  · rw [rep_str.mp rx, rep_str.mp ry]
    exact .inl ⟨rfl, by rw [dec_str]; exact Option.some.inj e⟩
  · rw [rep_non.mp rx, rep_non.mp ry]
    exact .inl ⟨rfl, by simpa using e⟩
  · rw [rep_non.mp rx, rep_int.mp ry]
    exact .inl ⟨rfl, by simpa using e⟩
  · rw [rep_int.mp rx, rep_non.mp ry]
    exact .inl ⟨rfl, by simpa using e⟩
  · rw [rep_non.mp rx, rep_str.mp ry]
    exact .inl ⟨rfl, by simpa using e⟩
  · rw [rep_str.mp rx, rep_non.mp ry]
    exact .inl ⟨rfl, by simpa using e⟩
  · rw [rep_int.mp rx, rep_str.mp ry]
    exact .inl ⟨rfl, by simpa using e⟩
  · rw [rep_str.mp rx, rep_int.mp ry]
    exact .inl ⟨rfl, by simpa using e⟩
  · rw [rep_bl.mp rx, rep_bl.mp ry]
    exact .inl ⟨rfl, by rw [dec_bl]; exact Option.some.inj e⟩
  · split at e
    · rename_i d d' e1 e2
      split at e
      · rename_i c
        exact .inr ⟨d, d', dp s e1 rx, dp s e2 ry, c.1, c.2, Option.some.inj e⟩
      · cases e
    · cases e
theorem p_eq : Op2 K (fun x y H Q => rEq x y H Q ∨ rEqD K x y H Q) wEq := by
  intro f h H x y v u Q E s rx ry p
  unfold wEq at p
  cases e : eqB x y h with
  | none => rw [e] at p; exact p.elim
  | some b =>
    rw [e] at p
    rcases eqB_of s rx ry e with ⟨h1, h2⟩ | ⟨d, d', h1, h2, h3, h4, h5⟩
    · exact .inl ⟨h1, by rw [h2]; exact post_ok s p (rep_bl.mpr rfl)⟩
    · exact .inr ⟨d, d', h1, h2, h3, h4, by rw [h5]; exact post_ok s p (rep_bl.mpr rfl)⟩
theorem p_ne : Op2 K (fun x y H Q => rNe x y H Q ∨ rNeD K x y H Q) wNe := by
  intro f h H x y v u Q E s rx ry p
  unfold wNe at p
  cases e : eqB x y h with
  | none => rw [e] at p; exact p.elim
  | some b =>
    rw [e] at p
    rcases eqB_of s rx ry e with ⟨h1, h2⟩ | ⟨d, d', h1, h2, h3, h4, h5⟩
    · exact .inl ⟨h1, by rw [h2]; exact post_ok s p (rep_bl.mpr rfl)⟩
    · exact .inr ⟨d, d', h1, h2, h3, h4, by rw [h5]; exact post_ok s p (rep_bl.mpr rfl)⟩
theorem o_eq {k : Nat} (hr : Room k X.A) : OpR X (compareOp .Eq) (fun x y H Q => rEq x y H Q ∨ rEqD X.K x y H Q) := op_eq.or (op_eqD hr.units)
theorem o_ne {k : Nat} (hr : Room k X.A) : OpR X (compareOp .NotEq) (fun x y H Q => rNe x y H Q ∨ rNeD X.K x y H Q) := op_ne.or (op_neD hr.units)

/-! ### is -/
def isNonW : W → Bool
  | .non => true
  | _ => false
def wIs : W → W → PH → Option (W × PH)
  | x, .non, h => some (.bl (isNonW x), h)
  | .bl a, .bl b, h => some (.bl (decide (a = b)), h)
  | _, _, _ => none
def wIsNot : W → W → PH → Option (W × PH)
  | x, .non, h => some (.bl (!isNonW x), h)
  | .bl a, .bl b, h => some (.bl (!decide (a = b)), h)
  | _, _, _ => none
theorem rep_is_non {f : List Addr} {H : Hp} {x : W} {v : V} (r : Rep K f H x v) : decide (v = V.non) = isNonW x := by
  cases x with
  | non => rw [rep_non.mp r]; rfl
  | bl _ => rw [rep_bl.mp r]; rfl
  | int _ => rw [rep_int.mp r]; rfl
  | str _ => rw [rep_str.mp r]; rfl
  | tup _ => obtain ⟨a, vs, rfl, _⟩ := rep_tup.mp r; rfl
  | fix _ => obtain ⟨a, vs, rfl, _⟩ := rep_fix.mp r; rfl
  | exc _ => obtain ⟨a, rfl, _⟩ := rep_exc.mp r; rfl
  | ref _ =>
    simp only [Rep] at r
    obtain ⟨a, rfl, _⟩ := r
    rfl
theorem p_is : Op2 K (fun x y H Q => (y = .non ∧ Q (.bl (decide (x = .non))) H) ∨ rIsB x y H Q) wIs := by
  intro f h H x y v u Q E s rx ry p
  unfold wIs at p
  split at p
  · exact .inl ⟨rep_non.mp ry, by rw [rep_is_non rx]; exact post_ok s p (rep_bl.mpr rfl)⟩
  · exact .inr ⟨_, _, rep_bl.mp rx, rep_bl.mp ry, post_ok s p (rep_bl.mpr rfl)⟩
  · exact p.elim
theorem p_isNot : Op2 K (fun x y H Q => (y = .non ∧ Q (.bl (!decide (x = .non))) H) ∨ rNotB x y H Q) wIsNot := by
  intro f h H x y v u Q E s rx ry p
  unfold wIsNot at p
  split at p
  · refine .inl ⟨rep_non.mp ry, ?_⟩
    rw [rep_is_non rx]
    exact post_ok s p (rep_bl.mpr rfl)
  · exact .inr ⟨_, _, rep_bl.mp rx, rep_bl.mp ry, post_ok s p (rep_bl.mpr rfl)⟩
  · exact p.elim
theorem o_is : OpR X (compareOp .Is) (fun x y H Q => (y = .non ∧ Q (.bl (decide (x = .non))) H) ∨ rIsB x y H Q) := op_isN.or op_isBl
theorem o_isNot : OpR X (compareOp .IsNot) (fun x y H Q => (y = .non ∧ Q (.bl (!decide (x = .non))) H) ∨ rNotB x y H Q) := op_notN.or op_notBl
end
end Mir

/-! Mir: in, subscripts, slices. -/
namespace Mir
open PySem L2

/-! ### flat things -/
def flatW : W → Bool
  | .non => true
  | .bl _ => true
  | .int _ => true
  | .str _ => true
  | _ => false
def eqF : W → W → Bool
  | .non, .non => true
  | .bl a, .bl b => a == b
  | .bl a, .int b => (if a then 1 else 0) == b
  | .int a, .bl b => a == (if b then 1 else 0)
  | .int a, .int b => a == b
  | .str a, .str b => a == b
  | _, _ => false
def keyW : W → Option Key
  | .int i => some (.inl i)
  | .str x => some (.inr x)
  | _ => none
def getK {κ : Type} [DecidableEq κ] (kvs : List (κ × W)) (k : κ) : Option W := (kvs.find? fun kv => decide (kv.1 = k)).map (·.2)
def putKW {κ : Type} [DecidableEq κ] (kvs : List (κ × W)) (k : κ) (w : W) : List (κ × W) :=
  if (kvs.any fun kv => decide (kv.1 = k)) then kvs.map fun kv => if kv.1 = k then (kv.1, w) else kv else kvs ++ [(k, w)]
section
variable {K : PySem.W.Frag} {f : List Addr} {h : PH} {H : Hp} {x y : W} {v u : V} {Q : VK} {E : XK}
theorem flat_of (r : Rep K f H x v) (e : flatW x = true) : flatV v = true := by
  cases x with
  | non => rw [rep_non.mp r]; rfl
  | bl b => rw [rep_bl.mp r]; rfl
  | int i => rw [rep_int.mp r]; rfl
  | str s => rw [rep_str.mp r]; rfl
  | _ => cases e
theorem eqF_of (r : Rep K f H x v) (q : Rep K f H y u) (e : flatW x = true) (e2 : flatW y = true) : eqV v u = eqF x y := by
  cases x with
  | non => rw [rep_non.mp r]; cases y with
    | non => rw [rep_non.mp q]; rfl
    | bl b => rw [rep_bl.mp q]; rfl
    | int i => rw [rep_int.mp q]; rfl
    | str s => rw [rep_str.mp q]; rfl
    | _ => cases e2
  | bl b => rw [rep_bl.mp r]; cases y with
    | non => rw [rep_non.mp q]; rfl
    | bl b => rw [rep_bl.mp q]; rfl
    | int i => rw [rep_int.mp q]; rfl
    | str s => rw [rep_str.mp q]; rfl
    | _ => cases e2
  | int i => rw [rep_int.mp r]; cases y with
    | non => rw [rep_non.mp q]; rfl
    | bl b => rw [rep_bl.mp q]; rfl
    | int i => rw [rep_int.mp q]; rfl
    | str s => rw [rep_str.mp q]; rfl
    | _ => cases e2
  | str s => rw [rep_str.mp r]; cases y with
    | non => rw [rep_non.mp q]; rfl
    | bl b => rw [rep_bl.mp q]; rfl
    | int i => rw [rep_int.mp q]; rfl
    | str s => rw [rep_str.mp q]; rfl
    | _ => cases e2
  | _ => cases e
theorem flats_of : ∀ {xs : List W} {vs : List V}, Reps K f H xs vs → xs.all flatW = true → vs.all flatV = true
  | [], vs, r, _ => by rw [r.nil_inv]; rfl
  | w :: ws, vs, r, e => by
    obtain ⟨v, t, rfl, h1, h2⟩ := r.cons_inv
    rw [List.all_cons, Bool.and_eq_true] at e ⊢
    exact ⟨flat_of h1 e.1, flats_of h2 e.2⟩
theorem inV_of {x : W} {v : V} (r : Rep K f H x v) (e : flatW x = true) : ∀ {xs : List W} {vs : List V}, Reps K f H xs vs → xs.all flatW = true → inV v vs = xs.any fun y => eqF y x
  | [], vs, q, _ => by rw [q.nil_inv]; rfl
  | w :: ws, vs, q, e2 => by
    obtain ⟨u, t, rfl, h1, h2⟩ := q.cons_inv
    rw [List.all_cons, Bool.and_eq_true] at e2
    have ih := inV_of r e h2 e2.2
    unfold inV at ih ⊢
    rw [List.any_cons, List.any_cons, ih, eqF_of h1 r e2.1 e]
theorem key_rep {k : Key} (e : keyW x = some k) (r : Rep K f H x v) : v = kV k := by
  cases x with
  | int i => cases e; exact rep_int.mp r
  | str s => cases e; exact rep_str.mp r
  | _ => cases e
theorem KRep.get {κ : Type} [DecidableEq κ] : ∀ {ws : List (κ × W)} {vs : List (κ × V)} (k : κ), KRep K f H ws vs → match getK ws k with
    | some w => ∃ v, valV vs k = some v ∧ Rep K f H w v
    | none => valV vs k = none
  | [], vs, k, r => by
    have e : vs = [] := r
    subst e
    rfl
  | (j, w) :: ws, vs, k, r => by
    obtain ⟨v, t, rfl, h1, h2⟩ := r
    have ih := KRep.get k h2
    by_cases e : j = k
    · have a : getK ((j, w) :: ws) k = some w := by simp [getK, List.find?_cons, e]
      rw [a]
      exact ⟨v, valV_pos e, h1⟩
    · have a : getK ((j, w) :: ws) k = getK ws k := by simp [getK, List.find?_cons, e]
      rw [a, valV_neg (p := (j, v)) e]
      exact ih
theorem KRep.any {κ : Type} [DecidableEq κ] : ∀ {ws : List (κ × W)} {vs : List (κ × V)} (k : κ), KRep K f H ws vs → (ws.any fun kv => decide (kv.1 = k)) = vs.any fun kv => decide (kv.1 = k)
  | [], vs, k, r => by
    have e : vs = [] := r
    subst e
    rfl
  | (j, w) :: ws, vs, k, r => by
    obtain ⟨v, t, rfl, h1, h2⟩ := r
    rw [List.any_cons, List.any_cons, KRep.any k h2]
theorem KRep.map {κ : Type} [DecidableEq κ] {w : W} {v : V} (q : Rep K f H w v) : ∀ {ws : List (κ × W)} {vs : List (κ × V)} (k : κ), KRep K f H ws vs → KRep K f H (ws.map fun kv => if kv.1 = k then (kv.1, w) else kv) (vs.map fun kv => if kv.1 = k then (kv.1, v) else kv)
  | [], vs, k, r => by
    have e : vs = [] := r
    subst e
    rfl
  | (j, z) :: ws, vs, k, r => by
    obtain ⟨u, t, rfl, h1, h2⟩ := r
    have ih := KRep.map q k h2
    rw [List.map_cons, List.map_cons]
    by_cases e : j = k
    · rw [if_pos e, if_pos e]
      exact ⟨v, _, rfl, q, ih⟩
    · rw [if_neg e, if_neg e]
      exact ⟨u, _, rfl, h1, ih⟩
theorem KRep.snoc {κ : Type} {w : W} {v : V} (q : Rep K f H w v) : ∀ {ws : List (κ × W)} {vs : List (κ × V)} (k : κ), KRep K f H ws vs → KRep K f H (ws ++ [(k, w)]) (vs ++ [(k, v)])
  | [], vs, k, r => by
    have e : vs = [] := r
    subst e
    exact ⟨v, [], rfl, q, rfl⟩
  | (j, z) :: ws, vs, k, r => by
    obtain ⟨u, t, rfl, h1, h2⟩ := r
    exact ⟨u, _, rfl, h1, KRep.snoc q k h2⟩
theorem KRep.put {κ : Type} [DecidableEq κ] {w : W} {v : V} (q : Rep K f H w v) {ws : List (κ × W)} {vs : List (κ × V)} (k : κ) (r : KRep K f H ws vs) : KRep K f H (putKW ws k w) (putK vs k v) := by
  unfold putKW putK
  rw [r.any k]
  by_cases c : (vs.any fun kv => decide (kv.1 = k)) = true
  · rw [if_pos c, if_pos c]
    exact r.map q k
  · rw [if_neg c, if_neg c]
    exact r.snoc q k
/-- a new list at a number -/
theorem post_new {xs : List W} {vs : List V} (s : Sim K f h H) (p : Post K (RW K) f H (.ofO (some (.ref h.length, h ++ [.lst xs]))) Q E) (r : Reps K f H xs vs) {q : Addr} (hq : H q = none) : Q (.ref q) (upd H q (.lst vs)) := by
  have st := s.other (o := .lst vs) hq
  have nq := s.fresh hq
  refine p (f ++ [q]) _ _ ⟨.snoc f q, fun x hx hn => ?_, st.grow, st.lk, st.sim.take_in nq ⟨vs, upd_same, Reps.mono (.refl f) (s.stay st.grow) _ _ r⟩⟩ ?_
  · rcases List.mem_append.mp hx with m | m
    · exact absurd m hn
    · rw [List.mem_singleton] at m
      rw [m]
      exact hq
  · simp only [Rep]
    refine ⟨q, rfl, ?_⟩
    rw [List.getElem?_append_right (by rw [s.len]; omega), s.len]
    simp
end

/-! ### in -/
def inW (x y : W) (h : PH) : Option Bool :=
  match y with
  | .tup ys => if flatW x = true ∧ ys.all flatW = true then some (ys.any fun z => eqF z x) else none
  | .fix ys => if flatW x = true ∧ ys.all flatW = true then some (ys.any fun z => eqF z x) else none
  | .str z => match x with
    | .str c => if c.cps.size = 1 then some (decide (c.cps.getD 0 0 ∈ z.cps.toList)) else some (!(Builtin.Str.occurrences z c 0 z.length 1).isEmpty)
    | _ => none
  | .ref n => match h[n]? with
    | some (.lst ys) => if flatW x = true ∧ ys.all flatW = true then some (ys.any fun z => eqF z x) else none
    | some (.dK kvs) => (keyW x).map fun k => (getK kvs k).isSome
    | some (.lk kvs) => (keyW x).map fun k => (getK kvs k).isSome
    | _ => none
  | _ => none
theorem DGet.fz {H : Hp} {a : Addr} {o : Obj} {kvs : List (Key × V)} {k : Key} (e : H a = some (.frz o (.dK kvs))) : DGet H a (kV k) (valV kvs k) := .inl ⟨kvs, k, .inr ⟨o, e⟩, rfl, rfl⟩
def wIn (x y : W) (h : PH) : Option (W × PH) := (inW x y h).map fun b => (.bl b, h)
def wNotIn (x y : W) (h : PH) : Option (W × PH) := (inW x y h).map fun b => (.bl (!b), h)
abbrev rDIn (neg : Bool) : R2 := fun x y H Q => ∃ a o, y = .ref a ∧ DGet H a x o ∧ Q (.bl (if neg then !o.isSome else o.isSome)) H
abbrev rInSg (neg : Bool) : R2 := fun x y H Q => ∃ (c : Nat) (z : Str), x = .str ⟨#[c]⟩ ∧ y = .str z ∧ Q (.bl (if neg then !decide (c ∈ z.cps.toList) else decide (c ∈ z.cps.toList))) H
abbrev rInStr (neg : Bool) : R2 := fun x y H Q => ∃ i j, x = .str i ∧ y = .str j ∧ Q (.bl (if neg then !(!(Builtin.Str.occurrences j i 0 j.length 1).isEmpty) else !(Builtin.Str.occurrences j i 0 j.length 1).isEmpty)) H
abbrev rInAll (K : PySem.W.Frag) (neg : Bool) : R2 := fun x y H Q => rIn K neg x y H Q ∨ rInSg neg x y H Q ∨ rInStr neg x y H Q ∨ rDIn neg x y H Q
section
variable {K : PySem.W.Frag} {X : Cx} {W0 : WX} {a b c : Expr} {pos : Pos} {m1 m2 m3 : EM}
theorem o_dIn {k : Nat} (hr : Room k X.A) : OpR X (compareOp .In) (rDIn false) := by
  intro pins s σ H x y v u Q I rx ry h
  obtain ⟨a, o, rfl, g, q⟩ := h
  cases ry
  have hu : X.A.units + 1 < cLine := by have := hr.units; omega
  exact d_in hu I g rx fun s' I' => ⟨.bl o.isSome, H, I', rfl, q⟩
theorem o_dNotIn {k : Nat} (hr : Room k X.A) : OpR X (compareOp .NotIn) (rDIn true) := by
  intro pins s σ H x y v u Q I rx ry h
  obtain ⟨a, o, rfl, g, q⟩ := h
  cases ry
  have hu : X.A.units + 1 < cLine := by have := hr.units; omega
  exact d_notIn hu I g rx fun s' I' => ⟨.bl (!o.isSome), H, I', rfl, q⟩
theorem o_in {k : Nat} (hr : Room k X.A) : OpR X (compareOp .In) (rInAll X.K false) := op_in_seq.or (op_in_sign.or (op_in_str.or (o_dIn hr)))
theorem o_notIn {k : Nat} (hr : Room k X.A) : OpR X (compareOp .NotIn) (rInAll X.K true) := op_notIn_seq.or (op_notIn_sign.or (op_notin_str.or (o_dNotIn hr)))
theorem str_one {c : Str} (h : c.cps.size = 1) : c = ⟨#[c.cps.getD 0 0]⟩ := by
  obtain ⟨cs⟩ := c
  have h : cs.size = 1 := h
  obtain ⟨z, rfl⟩ := Array.size_eq_one_iff.mp h
  rfl
theorem p_in_gen (neg : Bool) : Op2 K (rInAll K neg) (fun x y h => (inW x y h).map fun b => (.bl (if neg then !b else b), h)) := by
  intro f h H x y v u Q E s rx ry p
  dsimp only at p
  cases e : inW x y h with
  | none => rw [e] at p; exact p.elim
  | some b =>
    rw [e] at p
    have q : Q (.bl (if neg then !b else b)) H := post_ok s p (rep_bl.mpr rfl)
    clear p
    cases y with
    | tup ys =>
      obtain ⟨a, vs, rfl, h1, h2⟩ := rep_tup.mp ry
      simp only [inW] at e
      split at e
      · rename_i c
        refine .inl ⟨a, vs, rfl, .inr h1, flat_of rx c.1, flats_of h2 c.2, ?_⟩
        rw [inV_of rx c.1 h2 c.2, Option.some.inj e]
        exact q
      · cases e
    | fix ys =>
      obtain ⟨a, vs, rfl, h1, h2⟩ := rep_fix.mp ry
      simp only [inW] at e
      split at e
      · rename_i c
        refine .inl ⟨a, vs, rfl, .inl h1.seq, flat_of rx c.1, flats_of h2 c.2, ?_⟩
        rw [inV_of rx c.1 h2 c.2, Option.some.inj e]
        exact q
      · cases e
    | str z =>
      have ey := rep_str.mp ry
      subst ey
      simp only [inW] at e
      split at e
      · rename_i c
        have ex := rep_str.mp rx
        subst ex
        split at e
        · rename_i hc
          refine .inr (.inl ⟨c.cps.getD 0 0, z, by rw [← str_one hc], rfl, ?_⟩)
          rw [Option.some.inj e]
          exact q
        · refine .inr (.inr (.inl ⟨c, z, rfl, rfl, ?_⟩))
          rw [Option.some.inj e]
          exact q
      · cases e
    | ref n =>
      simp only [inW] at e
      split at e
      · rename_i ys hn
        obtain ⟨a, rfl, _, vs, h1, h2⟩ := s.at hn ry
        split at e
        · rename_i c
          refine .inl ⟨a, vs, rfl, .inl (SqL.of h1), flat_of rx c.1, flats_of h2 c.2, ?_⟩
          rw [inV_of rx c.1 h2 c.2, Option.some.inj e]
          exact q
        · cases e
      · rename_i kvs hn
        obtain ⟨a, rfl, _, vs, h1, h2⟩ := s.at hn ry
        obtain ⟨k, hk, rfl⟩ := Option.map_eq_some_iff.mp e
        have hv := key_rep hk rx
        subst hv
        refine .inr (.inr (.inr ⟨a, valV vs k, rfl, DGet.k h1, ?_⟩))
        have g := KRep.get k h2
        have g2 : (valV vs k).isSome = (getK kvs k).isSome := by
          cases e3 : getK kvs k with
          | none => rw [e3] at g; rw [g]; rfl
          | some w =>
            rw [e3] at g
            obtain ⟨z, g1, _⟩ := g
            rw [g1]
            rfl
        rw [g2]
        exact q
      · rename_i kvs hn
        obtain ⟨a, rfl, _, o, vs, h1, h2⟩ := s.at hn ry
        obtain ⟨k, hk, rfl⟩ := Option.map_eq_some_iff.mp e
        have hv := key_rep hk rx
        subst hv
        refine .inr (.inr (.inr ⟨a, valV vs k, rfl, DGet.fz h1, ?_⟩))
        have g := KRep.get k h2
        have g2 : (valV vs k).isSome = (getK kvs k).isSome := by
          cases e3 : getK kvs k with
          | none => rw [e3] at g; rw [g]; rfl
          | some w =>
            rw [e3] at g
            obtain ⟨z, g1, _⟩ := g
            rw [g1]
            rfl
        rw [g2]
        exact q
      · cases e
    | _ => cases e
theorem p_in : Op2 K (rInAll K false) wIn := p_in_gen false
theorem p_notIn : Op2 K (rInAll K true) wNotIn := p_in_gen true

/-! ### a[b] -/
abbrev rDGet : R2 := fun x y H Q => ∃ a v, x = .ref a ∧ DGet H a y (some v) ∧ Q v H
theorem ix_dict {k : Nat} (hr : Room k X.A) : IxR X rDGet := by
  intro value slice pins s σ H x y v u Q I rx ry h hs
  obtain ⟨a, z, rfl, g, q⟩ := h
  cases rx
  have hu : X.A.units + 1 < cLine := by have := hr.units; omega
  exact PyProof.Rows.tail_any (dict_typeIs I g) PySem.F.slot_dict_getitem.lookup (d_getItem hu I g ry fun w' s' I' r' => ⟨z, H, I', r', q⟩) hs
def wIx (x y : W) (h : PH) : Option (W × PH) :=
  match x with
  | .tup xs => match y with
    | .int i => (atI xs i).map fun w => (w, h)
    | _ => none
  | .fix xs => match y with
    | .int i => (atI xs i).map fun w => (w, h)
    | _ => none
  | .str z => match y with
    | .int i => if z.length ≤ 16777216 then (atI z.cps.toList i).map fun c => (.str ⟨#[c]⟩, h) else none
    | _ => none
  | .ref n => match h[n]? with
    | some (.lst xs) => match y with
      | .int i => (atI xs i).map fun w => (w, h)
      | _ => none
    | some (.dK kvs) => (keyW y).bind fun k => (getK kvs k).map fun w => (w, h)
    | some (.lk kvs) => (keyW y).bind fun k => (getK kvs k).map fun w => (w, h)
    | _ => none
  | _ => none
theorem Reps.atI {f : List Addr} {H : Hp} {ws : List W} {vs : List V} {i : Int} {w : W} (r : Reps K f H ws vs) (e : L2.atI ws i = some w) : ∃ v, L2.atI vs i = some v ∧ Rep K f H w v := by
  unfold L2.atI at e ⊢
  rw [← r.length]
  cases e1 : ixN ws.length i with
  | none => rw [e1] at e; cases e
  | some j =>
    rw [e1] at e
    obtain ⟨v, h1, h2⟩ := r.get e
    exact ⟨v, h1, h2⟩
abbrev rIxAll (K : PySem.W.Frag) : R2 := fun x y H Q => rIx K x y H Q ∨ rDGet x y H Q
theorem ix_all {k : Nat} (hr : Room k X.A) : IxR X (rIxAll X.K) := ix_seq.or (ix_dict hr)
theorem p_ix : Op2 K (rIxAll K) wIx := by
  intro f h H x y v u Q E s rx ry p
  cases x with
  | tup xs =>
    obtain ⟨a, vs, rfl, h1, h2⟩ := rep_tup.mp rx
    cases y with
    | int i =>
      have ey := rep_int.mp ry
      subst ey
      simp only [wIx] at p
      cases e : L2.atI xs i with
      | none => rw [e] at p; exact p.elim
      | some w =>
        rw [e] at p
        obtain ⟨z, h3, h4⟩ := h2.atI e
        exact .inl (.inr (.inl ⟨a, vs, i, z, rfl, rfl, h1, h3, post_ok s p h4⟩))
    | _ => exact p.elim
  | fix xs =>
    obtain ⟨a, vs, rfl, h1, h2⟩ := rep_fix.mp rx
    cases y with
    | int i =>
      have ey := rep_int.mp ry
      subst ey
      simp only [wIx] at p
      cases e : L2.atI xs i with
      | none => rw [e] at p; exact p.elim
      | some w =>
        rw [e] at p
        obtain ⟨z, h3, h4⟩ := h2.atI e
        exact .inl (.inl ⟨a, vs, i, z, rfl, rfl, h1.seq, h3, post_ok s p h4⟩)
    | _ => exact p.elim
  | str z =>
    have ex := rep_str.mp rx
    subst ex
    cases y with
    | int i =>
      have ey := rep_int.mp ry
      subst ey
      simp only [wIx] at p
      split at p
      · rename_i hz
        cases e : L2.atI z.cps.toList i with
        | none => rw [e] at p; exact p.elim
        | some c =>
          rw [e] at p
          exact .inl (.inr (.inr ⟨z, i, c, rfl, rfl, by rw [sizeLine_eq]; exact hz, e, post_ok s p (rep_str.mpr rfl)⟩))
      · exact p.elim
    | _ => exact p.elim
  | ref n =>
    simp only [wIx] at p
    split at p
    · rename_i xs hn
      obtain ⟨a, rfl, _, vs, h1, h2⟩ := s.at hn rx
      split at p
      · rename_i i
        have ey := rep_int.mp ry
        subst ey
        cases e : L2.atI xs i with
        | none => rw [e] at p; exact p.elim
        | some w =>
          rw [e] at p
          obtain ⟨z, h3, h4⟩ := h2.atI e
          exact .inl (.inl ⟨a, vs, i, z, rfl, rfl, SqL.of h1, h3, post_ok s p h4⟩)
      · exact p.elim
    · rename_i kvs hn
      obtain ⟨a, rfl, _, vs, h1, h2⟩ := s.at hn rx
      cases e : keyW y with
      | none => rw [e] at p; exact p.elim
      | some k =>
        rw [e] at p
        have hv := key_rep e ry
        subst hv
        have g := KRep.get k h2
        cases e2 : getK kvs k with
        | none => simp only [Option.bind_some, e2] at p; exact p.elim
        | some w =>
          simp only [Option.bind_some, e2] at p
          rw [e2] at g
          obtain ⟨z, g1, g2⟩ := g
          exact .inr ⟨a, z, rfl, g1 ▸ DGet.k h1, post_ok s p g2⟩
    · rename_i kvs hn
      obtain ⟨a, rfl, _, o, vs, h1, h2⟩ := s.at hn rx
      cases e : keyW y with
      | none => rw [e] at p; exact p.elim
      | some k =>
        rw [e] at p
        have hv := key_rep e ry
        subst hv
        have g := KRep.get k h2
        cases e2 : getK kvs k with
        | none => simp only [Option.bind_some, e2] at p; exact p.elim
        | some w =>
          simp only [Option.bind_some, e2] at p
          rw [e2] at g
          obtain ⟨z, g1, g2⟩ := g
          exact .inr ⟨a, z, rfl, g1 ▸ DGet.fz h1, post_ok s p g2⟩
    · exact p.elim
  | _ => exact p.elim
theorem se_sub' {k : Nat} (hr : Room k X.A) (ha : SE X W0 a m1) (hb : SE X W0 b m2) (hs : PlainIx b := by exact fun _ _ => rfl) : SE X W0 (.Subscript a b pos) (mOp wIx m1 m2) := se_ix (ix_all hr) p_ix ha hb hs
end
end Mir

/-! Mir: slices, calls of built-ins. -/
namespace Mir
open PySem L2

/-! ### sequences -/
abbrev RQ (K : PySem.W.Frag) : RR (List W) V := fun _ f H ws v => ∃ a vs, v = .ref a ∧ (SqL K H a vs ∨ SqT K H a vs) ∧ Reps K f H ws vs
abbrev SQ (X : Cx) (W0 : WX) (e : Expr) (m : LM) : Prop := PE X e (tG X.K (RQ X.K) W0 m)
theorem back_Q {K : PySem.W.Frag} : Back K (RQ K) := fun _ _ _ _ _ _ _ _ _ _ _ _ q => q
def seqOf : W → PH → Option (List W)
  | .tup xs, _ => some xs
  | .fix xs, _ => some xs
  | .ref n, h => match h[n]? with
    | some (.lst xs) => some xs
    | _ => none
  | _, _ => none
def mSeq (m : EM) : LM := fun ps h => (m ps h).bind fun x h1 => match seqOf x h1 with
  | some xs => .ok xs h1
  | none => .stuck
section
variable {K : PySem.W.Frag} {X : Cx} {W0 : WX} {a b c e : Expr} {pos : Pos} {m1 m2 m3 : EM} {l1 l2 : LM}
theorem seqOf_rep {f : List Addr} {h : PH} {H : Hp} {x : W} {v : V} {ws : List W} (s : Sim K f h H) (r : Rep K f H x v) (e : seqOf x h = some ws) : ∃ a vs, v = .ref a ∧ (SqL K H a vs ∨ SqT K H a vs) ∧ Reps K f H ws vs := by
  cases x with
  | tup xs =>
    obtain ⟨a, vs, rfl, h1, h2⟩ := rep_tup.mp r
    cases e
    exact ⟨a, vs, rfl, .inr h1, h2⟩
  | fix xs =>
    obtain ⟨a, vs, rfl, h1, h2⟩ := rep_fix.mp r
    cases e
    exact ⟨a, vs, rfl, .inl h1.seq, h2⟩
  | ref n =>
    simp only [seqOf] at e
    split at e
    · rename_i xs hn
      obtain ⟨a, rfl, _, vs, h1, h2⟩ := s.at hn r
      cases e
      exact ⟨a, vs, rfl, .inl (SqL.of h1), h2⟩
    · cases e
  | _ => cases e
theorem sq_list (h : SL X W0 e l1) : SQ X W0 e l1 := pe_imp h fun σ H Q h => by
  obtain ⟨f, h, ps, s, sr, p⟩ := h
  refine ⟨f, h, ps, s, sr, ?_⟩
  cases e : l1 ps h with
  | stuck => rw [e] at p; exact p
  | exc x h' => rw [e] at p; exact p
  | ok xs h1 =>
    rw [e] at p
    intro f1 H1 v s1 q1
    obtain ⟨q, vs, rfl, hq, nq, eq, rq⟩ := q1
    exact p f1 H1 _ s1 ⟨q, vs, rfl, .inl (SqL.of eq), rq⟩
theorem sq_val (h : SE X W0 e m1) : SQ X W0 e (mSeq m1) := pe_imp h fun σ H Q h => by
  obtain ⟨f, h, ps, s, sr, p⟩ := h
  refine ⟨f, h, ps, s, sr, (Post.bind s back_Q p).mono (fun v H1 hh => ?_) fun _ _ _ e => e⟩
  obtain ⟨f1, h1, x, s1, q1, p1⟩ := hh
  cases e : seqOf x h1 with
  | none => simp only [e] at p1; exact p1.elim
  | some ws =>
    simp only [e] at p1
    exact p1 f1 H1 v (.refl s1.sim) (seqOf_rep s1.sim q1 e)

/-! ### slices -/
def mPart : Option EM → LS → PH → Res (Option Int)
  | none, _, h => .ok none h
  | some m, ps, h => (m ps h).bind fun x h1 => match x with
    | .int i => .ok (some i) h1
    | _ => .stuck
def cutW (xs : List W) (lo hi : Option Int) : List W := (xs.drop (HT.sIx xs.length 0 lo)).take (HT.sIx xs.length xs.length hi - HT.sIx xs.length 0 lo)
def wSl (x : W) (lo hi : Option Int) (h : PH) : Option (W × PH) :=
  match x with
  | .tup xs => some (.tup (cutW xs lo hi), h)
  | .str z => if z.length ≤ 16777216 then some (.str (cutS z lo hi), h) else none
  | .fix xs => some (.fix (cutW xs lo hi), h)
  | .ref n => match h[n]? with
    | some (.lst xs) => some (.fix (cutW xs lo hi), h)
    | _ => none
  | _ => none
def mSl (m : EM) (lo hi : Option EM) : EM := fun ps h => (m ps h).bind fun x h1 => (mPart lo ps h1).bind fun l h2 => (mPart hi ps h2).bind fun u h3 => .ofO (wSl x l u h3)
/-- a part of a slice -/
inductive SPO (X : Cx) (W0 : WX) : Option Expr → Option EM → Prop where
  | none : SPO X W0 none none
  | some {e : Expr} {m : EM} (h : SE X W0 e m) : SPO X W0 (some e) (some m)
abbrev RI : RR (Option Int) (Option Int) := fun _ _ _ a b => a = b
theorem back_I : Back K RI := fun _ _ _ _ _ _ _ _ _ _ _ _ q => q
theorem SPO.po {e : Option Expr} {m : Option EM} (h : SPO X W0 e m) : ∃ t, PO X e t ∧ ∀ σ H Q, tG X.K RI W0 (mPart m) σ H Q → t σ H Q := by
  cases h with
  | none =>
    refine ⟨_, po_none, fun σ H Q h => ?_⟩
    obtain ⟨f, h, ps, s, sr, p⟩ := h
    exact p f H Option.none (.refl s) rfl
  | some h =>
    refine ⟨_, po_some h, fun σ H Q h => ?_⟩
    obtain ⟨f, h, ps, s, sr, p⟩ := h
    refine ⟨f, h, ps, s, sr, (Post.bind s back_I p).mono (fun v H1 hh => ?_) fun _ _ _ e => e⟩
    obtain ⟨f1, h1, x, s1, q1, p1⟩ := hh
    cases x with
    | int i => exact ⟨i, rep_int.mp q1, p1 f1 H1 _ (.refl s1.sim) rfl⟩
    | _ => exact p1.elim
theorem Reps.cut {f : List Addr} {H : Hp} {ws : List W} {vs : List V} (r : Reps K f H ws vs) (lo hi : Option Int) : Reps K f H (cutW ws lo hi) (cutV vs lo hi) := by
  unfold cutW cutV
  rw [r.length]
  exact (r.drop _).take _
theorem cut_all (xs : List V) (lo hi : Option Int) (h : HT.sIx xs.length 0 lo = 0 ∧ HT.sIx xs.length xs.length hi = xs.length) : cutV xs lo hi = xs := by
  unfold cutV
  rw [h.1, h.2]
  simp
abbrev rSlAll (K : PySem.W.Frag) : V → Option Int → Option Int → Hp → VK → Prop := fun x lo hi H Q => rSlL K x lo hi H Q ∨ rSlA K x lo hi H Q ∨ rSlS x lo hi H Q
theorem sl_all : SlR X (rSlAll X.K) := sl_list.or (sl_tupA.or sl_str)
theorem wSl_rule {f : List Addr} {h : PH} {H : Hp} {x : W} {v : V} {lo hi : Option Int} {Q : VK} {E : XK} (s : Sim K f h H) (rx : Rep K f H x v) (p : Post K (RW K) f H (.ofO (wSl x lo hi h)) Q E) : rSlAll K v lo hi H (QF Q) := by
  cases x with
  | tup xs =>
    obtain ⟨a, vs, rfl, h1, h2⟩ := rep_tup.mp rx
    refine .inr (.inl ⟨a, vs, rfl, h1, fun c => .inl ?_, fun _ q hq => .inl (post_tup s p (h2.cut lo hi) hq)⟩)
    refine post_ok s p (rep_tup.mpr ⟨a, vs, rfl, h1, ?_⟩)
    have z := h2.cut lo hi
    rw [cut_all vs lo hi c] at z
    exact z
  | str z =>
    have ex := rep_str.mp rx
    subst ex
    simp only [wSl] at p
    split at p
    · rename_i hz
      exact .inr (.inr ⟨z, rfl, by rw [sizeLine_eq]; exact hz, .inl (post_ok s p (rep_str.mpr rfl))⟩)
    · exact p.elim
  | fix xs =>
    obtain ⟨a, vs, rfl, h1, h2⟩ := rep_fix.mp rx
    exact .inl ⟨a, vs, rfl, h1.seq, fun q hq => post_fix s p (h2.cut lo hi) hq⟩
  | ref n =>
    simp only [wSl] at p
    split at p
    · rename_i xs hn
      obtain ⟨a, rfl, _, vs, h1, h2⟩ := s.at hn rx
      exact .inl ⟨a, vs, rfl, SqL.of h1, fun q hq => post_fix s p (h2.cut lo hi) hq⟩
    · exact p.elim
  | _ => exact p.elim
theorem se_slice {lo hi : Option Expr} {ml mh : Option EM} {p2 : Pos} (ha : SE X W0 a m1) (hl : SPO X W0 lo ml) (hh : SPO X W0 hi mh) : SE X W0 (.Subscript a (.Slice lo hi none p2) pos) (mSl m1 ml mh) := by
  obtain ⟨tl, pl, il⟩ := hl.po
  obtain ⟨th, ph, ih⟩ := hh.po
  refine pe_imp (pe_frz (pe_slice sl_all ha pl ph)) fun σ H Q h => ?_
  obtain ⟨f, h, ps, s, sr, p⟩ := h
  refine ⟨f, h, ps, s, sr, (Post.bind s back_W p).mono (fun v H1 hh => ?_) fun _ _ _ e => e⟩
  obtain ⟨f1, h1, x, s1, q1, p1⟩ := hh
  refine il σ H1 _ ⟨f1, h1, ps, s1.sim, s1.srep s sr, (Post.bind (R1 := RI) s1.sim back_W p1).mono (fun l H2 hh => ?_) fun _ _ _ e => e⟩
  obtain ⟨f2, h2, l', s2, q2, p2⟩ := hh
  cases q2
  refine ih σ H2 _ ⟨f2, h2, ps, s2.sim, s2.srep s1.sim (s1.srep s sr), (Post.bind (R1 := RI) s2.sim back_W p2).mono (fun u H3 hh => ?_) fun _ _ _ e => e⟩
  obtain ⟨f3, h3, u', s3, q3, p3⟩ := hh
  cases q3
  exact wSl_rule s3.sim (s3.rep s2.sim (s2.rep s1.sim q1)) p3

/-! ### calls of built-ins -/
def OpC (K : PySem.W.Frag) (r : List V → Hp → VK → Prop) (o : List W → PH → Option (W × PH)) : Prop :=
  ∀ (f : List Addr) (h : PH) (H : Hp) (xs : List W) (vs : List V) (Q : VK) (E : XK), Sim K f h H → Reps K f H xs vs → Post K (RW K) f H (.ofO (o xs h)) Q E → r vs H Q
def mCall (o : List W → PH → Option (W × PH)) (l : LM) : EM := fun ps h => (l ps h).bind fun xs h1 => .ofO (o xs h1)
variable {x : Str} {id T : String} {r : List V → Hp → VK → Prop} {o : List W → PH → Option (W × PH)} {es : List Expr} {p : Pos}
theorem tE_call (ho : OpC K r o) {σ : L2.St} {H : Hp} {Q : VK} (h : tE K W0 (mCall o l1) σ H Q) : tCB r (tA K W0 l1) σ H Q := by
  obtain ⟨f, h, ps, s, sr, p⟩ := h
  refine ⟨f, h, ps, s, sr, (Post.bind s back_W p).mono (fun v H1 hh => ?_) fun _ _ _ e => e⟩
  obtain ⟨f1, h1, x, s1, q1, p1⟩ := hh
  exact ho f1 h1 H1 x v Q _ s1.sim q1 p1
theorem se_callB (hc : CallR X (.builtin id) r) (ho : OpC X.K r o) (hm : X.mg x = none) (hv : bootBuiltins x = some (.builtin id)) (ha : SA X W0 (e :: es) l1) (hg : Gl X x := by rfl) (hn : x ≠ "__name__" := by decide) (hdb : (x == ("__debug__" : Str)) = false := by decide)
    (he : starEach (e :: es) X.env = (false, eval e X.env) :: starEach es X.env := by rfl) (hpl : (backTo pos (starEach es X.env)).any (·.1) = false := by rfl) : SE X W0 (.Call (.Name x p) (e :: es) [] pos) (mCall o l1) :=
  pe_imp (pe_callB hc hg hm hv ha hn hdb he hpl) fun _ _ _ h => tE_call ho h
theorem se_callT (hc : CallR X (.type T) r) (ho : OpC X.K r o) (hm : X.mg x = none) (hv : bootBuiltins x = some (.type T)) (ha : SA X W0 (e :: es) l1) (hg : Gl X x := by rfl) (hn : x ≠ "__name__" := by decide) (hdb : (x == ("__debug__" : Str)) = false := by decide)
    (he : starEach (e :: es) X.env = (false, eval e X.env) :: starEach es X.env := by rfl) (hpl : (backTo pos (starEach es X.env)).any (·.1) = false := by rfl) : SE X W0 (.Call (.Name x p) (e :: es) [] pos) (mCall o l1) :=
  pe_imp (pe_callTy hc hg hm hv ha hn hdb he hpl) fun _ _ _ h => tE_call ho h
/-- one argument, a sequence -/
def OpS {α : Type} (K : PySem.W.Frag) (R : RR α V) (r : List V → Hp → VK → Prop) (o : List W → PH → Option (α × PH)) : Prop :=
  ∀ (f : List Addr) (h : PH) (H : Hp) (a : Addr) (ws : List W) (vs : List V) (Q : VK) (E : XK), Sim K f h H → (SqL K H a vs ∨ SqT K H a vs) → Reps K f H ws vs → Post K R f H (.ofO (o ws h)) Q E → r [.ref a] H Q
def mOn {α : Type} (o : List W → PH → Option (α × PH)) (l : LM) : LS → PH → Res α := fun ps h => (l ps h).bind fun xs h1 => .ofO (o xs h1)
theorem tG_on {α : Type} {R : RR α V} {o : List W → PH → Option (α × PH)} (hb : Back K R) (ho : OpS K R r o) {σ : L2.St} {H : Hp} {Q : VK} (h : tG K R W0 (mOn o l1) σ H Q) : tCB r (tCons (tG K (RQ K) W0 l1) tNil) σ H Q := by
  obtain ⟨f, h, ps, s, sr, p⟩ := h
  refine ⟨f, h, ps, s, sr, (Post.bind s hb p).mono (fun v H1 hh => ?_) fun _ _ _ e => e⟩
  obtain ⟨f1, h1, ws, s1, q1, p1⟩ := hh
  obtain ⟨a, vs, rfl, hq, rr⟩ := q1
  exact ho f1 h1 H1 a ws vs Q _ s1.sim hq rr p1
theorem pg_callBS {α : Type} {R : RR α V} {o : List W → PH → Option (α × PH)} (hb : Back X.K R) (hc : CallR X (.builtin id) r) (ho : OpS X.K R r o) (hm : X.mg x = none) (hv : bootBuiltins x = some (.builtin id)) (ha : SQ X W0 e l1) (hg : Gl X x := by rfl) (hn : x ≠ "__name__" := by decide) (hdb : (x == ("__debug__" : Str)) = false := by decide)
    (he : starEach [e] X.env = (false, eval e X.env) :: starEach [] X.env := by rfl) (hpl : (backTo pos (starEach [] X.env)).any (·.1) = false := by rfl) : PE X (.Call (.Name x p) [e] [] pos) (tG X.K R W0 (mOn o l1)) :=
  pe_imp (pe_callB hc hg hm hv (pa_cons ha pa_nil he) hn hdb he hpl) fun _ _ _ h => tG_on hb ho h
theorem pg_callTS {α : Type} {R : RR α V} {o : List W → PH → Option (α × PH)} (hb : Back X.K R) (hc : CallR X (.type T) r) (ho : OpS X.K R r o) (hm : X.mg x = none) (hv : bootBuiltins x = some (.type T)) (ha : SQ X W0 e l1) (hg : Gl X x := by rfl) (hn : x ≠ "__name__" := by decide) (hdb : (x == ("__debug__" : Str)) = false := by decide)
    (he : starEach [e] X.env = (false, eval e X.env) :: starEach [] X.env := by rfl) (hpl : (backTo pos (starEach [] X.env)).any (·.1) = false := by rfl) : PE X (.Call (.Name x p) [e] [] pos) (tG X.K R W0 (mOn o l1)) :=
  pe_imp (pe_callTy hc hg hm hv (pa_cons ha pa_nil he) hn hdb he hpl) fun _ _ _ h => tG_on hb ho h
end
end Mir

/-! Mir: built-ins, one by one. -/
namespace Mir
open PySem L2

theorem CallR.or {X : Cx} {f : Value} {r r' : List V → Hp → VK → Prop} (h : CallR X f r) (h' : CallR X f r') : CallR X f (fun xs H Q => r xs H Q ∨ r' xs H Q) := by
  intro pins s σ H xs us Q I rr q
  rcases q with q | q
  · exact h pins s σ H xs us Q I rr q
  · exact h' pins s σ H xs us Q I rr q
/-! ### lists alone -/
abbrev RM (K : PySem.W.Frag) : RR (List W) V := fun _ f H ws v => ∃ a vs, v = .ref a ∧ SqL K H a vs ∧ Reps K f H ws vs
abbrev SMq (X : Cx) (W0 : WX) (e : Expr) (m : LM) : Prop := PE X e (tG X.K (RM X.K) W0 m)
theorem back_M {K : PySem.W.Frag} : Back K (RM K) := fun _ _ _ _ _ _ _ _ _ _ _ _ q => q
def mLstOf (m : EM) : LM := fun ps h => (m ps h).bind fun x h1 => match lstOf x h1 with
  | some xs => .ok xs h1
  | none => .stuck
section
variable {K : PySem.W.Frag} {X : Cx} {W0 : WX} {a b c e : Expr} {pos : Pos} {m1 m2 m3 : EM} {l1 l2 : LM}
theorem sm_list (h : SL X W0 e l1) : SMq X W0 e l1 := pe_imp h fun σ H Q h => by
  obtain ⟨f, h, ps, s, sr, p⟩ := h
  refine ⟨f, h, ps, s, sr, ?_⟩
  cases e : l1 ps h with
  | stuck => rw [e] at p; exact p
  | exc x h' => rw [e] at p; exact p
  | ok xs h1 =>
    rw [e] at p
    intro f1 H1 v s1 q1
    obtain ⟨q, vs, rfl, hq, nq, eq, rq⟩ := q1
    exact p f1 H1 _ s1 ⟨q, vs, rfl, SqL.of eq, rq⟩
theorem sm_val (h : SE X W0 e m1) : SMq X W0 e (mLstOf m1) := pe_imp h fun σ H Q h => by
  obtain ⟨f, h, ps, s, sr, p⟩ := h
  refine ⟨f, h, ps, s, sr, (Post.bind s back_M p).mono (fun v H1 hh => ?_) fun _ _ _ e => e⟩
  obtain ⟨f1, h1, x, s1, q1, p1⟩ := hh
  cases e : lstOf x h1 with
  | none => simp only [e] at p1; exact p1.elim
  | some ws =>
    simp only [e] at p1
    exact p1 f1 H1 v (.refl s1.sim) (lstOf_rep s1.sim q1 e)
def OpM {α : Type} (K : PySem.W.Frag) (R : RR α V) (r : List V → Hp → VK → Prop) (o : List W → PH → Option (α × PH)) : Prop :=
  ∀ (f : List Addr) (h : PH) (H : Hp) (a : Addr) (ws : List W) (vs : List V) (Q : VK) (E : XK), Sim K f h H → SqL K H a vs → Reps K f H ws vs → Post K R f H (.ofO (o ws h)) Q E → r [.ref a] H Q
variable {x : Str} {id T : String} {r : List V → Hp → VK → Prop} {es : List Expr} {p : Pos}
theorem tG_onM {α : Type} {R : RR α V} {o : List W → PH → Option (α × PH)} (hb : Back K R) (ho : OpM K R r o) {σ : L2.St} {H : Hp} {Q : VK} (h : tG K R W0 (mOn o l1) σ H Q) : tCB r (tCons (tG K (RM K) W0 l1) tNil) σ H Q := by
  obtain ⟨f, h, ps, s, sr, p⟩ := h
  refine ⟨f, h, ps, s, sr, (Post.bind s hb p).mono (fun v H1 hh => ?_) fun _ _ _ e => e⟩
  obtain ⟨f1, h1, ws, s1, q1, p1⟩ := hh
  obtain ⟨a, vs, rfl, hq, rr⟩ := q1
  exact ho f1 h1 H1 a ws vs Q _ s1.sim hq rr p1
theorem pg_callBM {α : Type} {R : RR α V} {o : List W → PH → Option (α × PH)} (hb : Back X.K R) (hc : CallR X (.builtin id) r) (ho : OpM X.K R r o) (hm : X.mg x = none) (hv : bootBuiltins x = some (.builtin id)) (ha : SMq X W0 e l1) (hg : Gl X x := by rfl) (hn : x ≠ "__name__" := by decide) (hdb : (x == ("__debug__" : Str)) = false := by decide)
    (he : starEach [e] X.env = (false, eval e X.env) :: starEach [] X.env := by rfl) (hpl : (backTo pos (starEach [] X.env)).any (·.1) = false := by rfl) : PE X (.Call (.Name x p) [e] [] pos) (tG X.K R W0 (mOn o l1)) :=
  pe_imp (pe_callB hc hg hm hv (pa_cons ha pa_nil he) hn hdb he hpl) fun _ _ _ h => tG_onM hb ho h

/-! ### len -/
def wLenQ (ws : List W) (h : PH) : Option (W × PH) := some (.int ws.length, h)
def wLen : List W → PH → Option (W × PH)
  | [.str x], h => if x.length ≤ 16777216 then some (.int x.length, h) else none
  | [.tup xs], h => some (.int xs.length, h)
  | [.fix xs], h => some (.int xs.length, h)
  | [.ref n], h => match h[n]? with
    | some (.lst xs) => some (.int xs.length, h)
    | some (.dK kvs) => some (.int kvs.length, h)
    | _ => none
  | _, _ => none
abbrev rLenV (K : PySem.W.Frag) : List V → Hp → VK → Prop := fun xs H Q => ∃ x n, xs = [x] ∧ LenV K x H n ∧ Q (.int n) H
abbrev rLenD : List V → Hp → VK → Prop := fun xs H Q => ∃ a kvs, xs = [.ref a] ∧ Rd H a (.dK kvs) ∧ Q (.int (kvs.length : Nat)) H
theorem c_lenD : CallR X (.builtin "len") rLenD := by
  intro pins s σ H xs us Q I r h
  obtain ⟨a, kvs, rfl, e, q⟩ := h
  obtain ⟨u, rfl, rx⟩ := vals1 r
  cases rx
  exact d_len I e fun t s' I' => ⟨.int kvs.length, H, I', ⟨t, rfl⟩, q⟩
theorem c_len : CallR X (.builtin "len") (fun xs H Q => rLenV X.K xs H Q ∨ rLenD xs H Q) := CallR.or call_len c_lenD
theorem q_len : OpS K (RW K) (fun xs H Q => rLenV K xs H Q ∨ rLenD xs H Q) wLenQ := by
  intro f h H a ws vs Q E s hq r p
  refine .inl ⟨.ref a, vs.length, rfl, ?_, by rw [← r.length]; exact post_ok s p (rep_int.mpr rfl)⟩
  rcases hq with hq | hq
  · exact .inl ⟨vs, hq, rfl⟩
  · exact .inr ⟨vs, hq, rfl⟩
theorem o_len : OpC K (fun xs H Q => rLenV K xs H Q ∨ rLenD xs H Q) wLen := by
  intro f h H xs vs Q E s r p
  unfold wLen at p
  split at p
  · obtain ⟨v, t, rfl, h1, h2⟩ := r.cons_inv
    have e1 := rep_str.mp h1
    have e2 := h2.nil_inv
    subst e1 e2
    split at p
    · rename_i hz
      exact .inl ⟨_, _, rfl, ⟨by rw [sizeLine_eq]; exact hz, rfl⟩, post_ok s p (rep_int.mpr rfl)⟩
    · exact p.elim
  · obtain ⟨v, t, rfl, h1, h2⟩ := r.cons_inv
    obtain ⟨a, vs, rfl, h3, h4⟩ := rep_tup.mp h1
    have e2 := h2.nil_inv
    subst e2
    exact .inl ⟨_, vs.length, rfl, .inr ⟨vs, h3, rfl⟩, by rw [← h4.length]; exact post_ok s p (rep_int.mpr rfl)⟩
  · obtain ⟨v, t, rfl, h1, h2⟩ := r.cons_inv
    obtain ⟨a, vs, rfl, h3, h4⟩ := rep_fix.mp h1
    have e2 := h2.nil_inv
    subst e2
    exact .inl ⟨_, vs.length, rfl, .inl ⟨vs, h3.seq, rfl⟩, by rw [← h4.length]; exact post_ok s p (rep_int.mpr rfl)⟩
  · obtain ⟨v, t, rfl, h1, h2⟩ := r.cons_inv
    have e2 := h2.nil_inv
    subst e2
    split at p
    · rename_i hn
      obtain ⟨a, rfl, _, vs, h3, h4⟩ := s.at hn h1
      exact .inl ⟨_, vs.length, rfl, .inl ⟨vs, SqL.of h3, rfl⟩, by rw [← h4.length]; exact post_ok s p (rep_int.mpr rfl)⟩
    · rename_i hn
      obtain ⟨a, rfl, _, vs, h3, h4⟩ := s.at hn h1
      exact .inr ⟨a, vs, rfl, .inl h3, by rw [← h4.length]; exact post_ok s p (rep_int.mpr rfl)⟩
    · exact p.elim
  · exact p.elim

/-! ### all, any, sum -/
def bools : List W → Option (List Bool)
  | [] => some []
  | .bl b :: r => (bools r).map (b :: ·)
  | _ :: _ => none
def intsW : List W → Option (List Int)
  | [] => some []
  | .int b :: r => (intsW r).map (b :: ·)
  | _ :: _ => none
def strsW : List W → Option (List Str)
  | [] => some []
  | .str b :: r => (strsW r).map (b :: ·)
  | _ :: _ => none
theorem bools_rep {f : List Addr} {H : Hp} : ∀ {ws : List W} {vs : List V} {bs : List Bool}, bools ws = some bs → Reps K f H ws vs → vs = bs.map V.bl
  | [], vs, bs, e, r => by
    cases e
    exact r.nil_inv
  | .bl b :: ws, vs, bs, e, r => by
    obtain ⟨v, t, rfl, h1, h2⟩ := r.cons_inv
    obtain ⟨cs, e1, rfl⟩ := Option.map_eq_some_iff.mp e
    rw [rep_bl.mp h1, bools_rep e1 h2]
    rfl
  | .non :: _, _, _, e, _ => by cases e
  | .int _ :: _, _, _, e, _ => by cases e
  | .str _ :: _, _, _, e, _ => by cases e
  | .tup _ :: _, _, _, e, _ => by cases e
  | .fix _ :: _, _, _, e, _ => by cases e
  | .exc _ :: _, _, _, e, _ => by cases e
  | .ref _ :: _, _, _, e, _ => by cases e
theorem intsW_rep {f : List Addr} {H : Hp} : ∀ {ws : List W} {vs : List V} {bs : List Int}, intsW ws = some bs → Reps K f H ws vs → vs = bs.map V.int
  | [], vs, bs, e, r => by
    cases e
    exact r.nil_inv
  | .int b :: ws, vs, bs, e, r => by
    obtain ⟨v, t, rfl, h1, h2⟩ := r.cons_inv
    obtain ⟨cs, e1, rfl⟩ := Option.map_eq_some_iff.mp e
    rw [rep_int.mp h1, intsW_rep e1 h2]
    rfl
  | .non :: _, _, _, e, _ => by cases e
  | .bl _ :: _, _, _, e, _ => by cases e
  | .str _ :: _, _, _, e, _ => by cases e
  | .tup _ :: _, _, _, e, _ => by cases e
  | .fix _ :: _, _, _, e, _ => by cases e
  | .exc _ :: _, _, _, e, _ => by cases e
  | .ref _ :: _, _, _, e, _ => by cases e
theorem strsW_rep {f : List Addr} {H : Hp} : ∀ {ws : List W} {vs : List V} {bs : List Str}, strsW ws = some bs → Reps K f H ws vs → vs = bs.map V.str
  | [], vs, bs, e, r => by
    cases e
    exact r.nil_inv
  | .str b :: ws, vs, bs, e, r => by
    obtain ⟨v, t, rfl, h1, h2⟩ := r.cons_inv
    obtain ⟨cs, e1, rfl⟩ := Option.map_eq_some_iff.mp e
    rw [rep_str.mp h1, strsW_rep e1 h2]
    rfl
  | .non :: _, _, _, e, _ => by cases e
  | .bl _ :: _, _, _, e, _ => by cases e
  | .int _ :: _, _, _, e, _ => by cases e
  | .tup _ :: _, _, _, e, _ => by cases e
  | .fix _ :: _, _, _, e, _ => by cases e
  | .exc _ :: _, _, _, e, _ => by cases e
  | .ref _ :: _, _, _, e, _ => by cases e
theorem reps_ints {f : List Addr} {H : Hp} : ∀ (bs : List Int), Reps K f H (bs.map W.int) (bs.map V.int)
  | [] => .nil
  | b :: bs => .cons (rep_int.mpr rfl) (reps_ints bs)
theorem reps_strs {f : List Addr} {H : Hp} : ∀ (bs : List Str), Reps K f H (bs.map W.str) (bs.map V.str)
  | [] => .nil
  | b :: bs => .cons (rep_str.mpr rfl) (reps_strs bs)
def wAll (ws : List W) (h : PH) : Option (W × PH) := (bools ws).map fun bs => (.bl (bs.all fun b => b), h)
def wAny (ws : List W) (h : PH) : Option (W × PH) := (bools ws).map fun bs => (.bl (bs.any fun b => b), h)
def wSum (ws : List W) (h : PH) : Option (W × PH) := (intsW ws).map fun bs => (.int bs.sum, h)
theorem q_all : OpM K (RW K) (rAll K) wAll := by
  intro f h H a ws vs Q E s hq r p
  unfold wAll at p
  cases e : bools ws with
  | none => rw [e] at p; exact p.elim
  | some bs =>
    rw [e] at p
    have ev := bools_rep e r
    subst ev
    exact ⟨a, bs, rfl, hq, post_ok s p (rep_bl.mpr rfl)⟩
theorem q_any : OpM K (RW K) (rAny K) wAny := by
  intro f h H a ws vs Q E s hq r p
  unfold wAny at p
  cases e : bools ws with
  | none => rw [e] at p; exact p.elim
  | some bs =>
    rw [e] at p
    have ev := bools_rep e r
    subst ev
    exact ⟨a, bs, rfl, hq, post_ok s p (rep_bl.mpr rfl)⟩
theorem q_sum : OpM K (RW K) (rSum K) wSum := by
  intro f h H a ws vs Q E s hq r p
  unfold wSum at p
  cases e : intsW ws with
  | none => rw [e] at p; exact p.elim
  | some bs =>
    rw [e] at p
    have ev := intsW_rep e r
    subst ev
    exact ⟨a, bs, rfl, hq, post_ok s p (rep_int.mpr rfl)⟩
/-- the greatest, the least of a list that isn't empty -/
def maxI : List Int → Option Int
  | [] => none
  | a :: r => some (r.foldl (fun m x => if x > m then x else m) a)
def minI : List Int → Option Int
  | [] => none
  | a :: r => some (r.foldl (fun m x => if x < m then x else m) a)
theorem foldmax (r : List Int) : ∀ (a : Int), a ≤ r.foldl (fun m x => if x > m then x else m) a ∧ (∀ y ∈ r, y ≤ r.foldl (fun m x => if x > m then x else m) a) ∧ (r.foldl (fun m x => if x > m then x else m) a = a ∨ r.foldl (fun m x => if x > m then x else m) a ∈ r) := by
  induction r with
  | nil => intro a; simp
  | cons b r ih =>
    intro a
    rw [List.foldl_cons]
    have hc : ∃ c, c = (if b > a then b else a) ∧ a ≤ c ∧ b ≤ c ∧ (c = a ∨ c = b) := by
      refine ⟨_, rfl, ?_, ?_, ?_⟩
      · split <;> omega
      · split <;> omega
      · split <;> simp
    obtain ⟨c, e, c1, c2, c3⟩ := hc
    rw [← e]
    obtain ⟨h1, h2, h3⟩ := ih c
    refine ⟨by omega, fun y hy => ?_, ?_⟩
    · rcases List.mem_cons.mp hy with e | e
      · omega
      · exact h2 y e
    · rcases h3 with h3 | h3
      · rw [h3]
        rcases c3 with c3 | c3
        · exact .inl c3
        · rw [c3]
          exact .inr List.mem_cons_self
      · exact .inr (List.mem_cons_of_mem _ h3)
theorem foldmin (r : List Int) : ∀ (a : Int), r.foldl (fun m x => if x < m then x else m) a ≤ a ∧ (∀ y ∈ r, r.foldl (fun m x => if x < m then x else m) a ≤ y) ∧ (r.foldl (fun m x => if x < m then x else m) a = a ∨ r.foldl (fun m x => if x < m then x else m) a ∈ r) := by
  induction r with
  | nil => intro a; simp
  | cons b r ih =>
    intro a
    rw [List.foldl_cons]
    have hc : ∃ c, c = (if b < a then b else a) ∧ c ≤ a ∧ c ≤ b ∧ (c = a ∨ c = b) := by
      refine ⟨_, rfl, ?_, ?_, ?_⟩
      · split <;> omega
      · split <;> omega
      · split <;> simp
    obtain ⟨c, e, c1, c2, c3⟩ := hc
    rw [← e]
    obtain ⟨h1, h2, h3⟩ := ih c
    refine ⟨by omega, fun y hy => ?_, ?_⟩
    · rcases List.mem_cons.mp hy with e | e
      · omega
      · exact h2 y e
    · rcases h3 with h3 | h3
      · rw [h3]
        rcases c3 with c3 | c3
        · exact .inl c3
        · rw [c3]
          exact .inr List.mem_cons_self
      · exact .inr (List.mem_cons_of_mem _ h3)
theorem maxI_is {l : List Int} {m : Int} (e : maxI l = some m) : m ∈ l ∧ ∀ y ∈ l, y ≤ m := by
  cases l with
  | nil => cases e
  | cons a r =>
    have e : r.foldl (fun m x => if x > m then x else m) a = m := Option.some.inj e
    obtain ⟨h1, h2, h3⟩ := foldmax r a
    rw [e] at h1 h2 h3
    refine ⟨?_, fun y hy => ?_⟩
    · rcases h3 with h3 | h3
      · rw [h3]; exact List.mem_cons_self
      · exact List.mem_cons_of_mem _ h3
    · rcases List.mem_cons.mp hy with q | q
      · rw [q]; exact h1
      · exact h2 y q
theorem minI_is {l : List Int} {m : Int} (e : minI l = some m) : m ∈ l ∧ ∀ y ∈ l, m ≤ y := by
  cases l with
  | nil => cases e
  | cons a r =>
    have e : r.foldl (fun m x => if x < m then x else m) a = m := Option.some.inj e
    obtain ⟨h1, h2, h3⟩ := foldmin r a
    rw [e] at h1 h2 h3
    refine ⟨?_, fun y hy => ?_⟩
    · rcases h3 with h3 | h3
      · rw [h3]; exact List.mem_cons_self
      · exact List.mem_cons_of_mem _ h3
    · rcases List.mem_cons.mp hy with q | q
      · rw [q]; exact h1
      · exact h2 y q
def wMax (ws : List W) (h : PH) : Option (W × PH) := ((intsW ws).bind maxI).map fun m => (.int m, h)
def wMin (ws : List W) (h : PH) : Option (W × PH) := ((intsW ws).bind minI).map fun m => (.int m, h)
theorem q_max : OpM K (RW K) (rMax K) wMax := by
  intro f h H a ws vs Q E s hq r p
  unfold wMax at p
  cases e : intsW ws with
  | none => rw [e] at p; exact p.elim
  | some bs =>
    rw [e] at p
    simp only [Option.bind_some] at p
    have ev := intsW_rep e r
    subst ev
    cases e2 : maxI bs with
    | none => rw [e2] at p; exact p.elim
    | some m =>
      rw [e2] at p
      obtain ⟨k1, k2⟩ := maxI_is e2
      refine ⟨a, bs, rfl, hq, List.length_pos_of_mem k1, fun z hz hle => ?_⟩
      have : z = m := Int.le_antisymm (k2 z hz) (hle m k1)
      rw [this]
      exact post_ok s p (rep_int.mpr rfl)
theorem q_min : OpM K (RW K) (rMin K) wMin := by
  intro f h H a ws vs Q E s hq r p
  unfold wMin at p
  cases e : intsW ws with
  | none => rw [e] at p; exact p.elim
  | some bs =>
    rw [e] at p
    simp only [Option.bind_some] at p
    have ev := intsW_rep e r
    subst ev
    cases e2 : minI bs with
    | none => rw [e2] at p; exact p.elim
    | some m =>
      rw [e2] at p
      obtain ⟨k1, k2⟩ := minI_is e2
      refine ⟨a, bs, rfl, hq, List.length_pos_of_mem k1, fun z hz hle => ?_⟩
      have : z = m := Int.le_antisymm (hle m k1) (k2 z hz)
      rw [this]
      exact post_ok s p (rep_int.mpr rfl)

/-! ### abs, max and min of two, int, str -/
def wAbs : List W → PH → Option (W × PH)
  | [.int i], h => some (.int (if i < 0 then -i else i), h)
  | _, _ => none
def wMax2 : List W → PH → Option (W × PH)
  | [.int i, .int j], h => some (.int (if j > i then j else i), h)
  | _, _ => none
def wMin2 : List W → PH → Option (W × PH)
  | [.int i, .int j], h => some (.int (if j < i then j else i), h)
  | _, _ => none
def wInt : List W → PH → Option (W × PH)
  | [.int i], h => some (.int i, h)
  | [.bl k], h => some (.int (if k then 1 else 0), h)
  | [.str x], h => if x.length ≤ 640 then (PySem.intText? x).map fun n => (.int n, h) else none
  | _, _ => none
def wStr : List W → PH → Option (W × PH)
  | [.int i], h => if i.natAbs.log2 < 1920 then some (.str (toString i), h) else none
  | _, _ => none
theorem Reps.one_inv {f : List Addr} {H : Hp} {w : W} {vs : List V} (r : Reps K f H [w] vs) : ∃ v, vs = [v] ∧ Rep K f H w v := by
  obtain ⟨v, t, rfl, h1, h2⟩ := r.cons_inv
  exact ⟨v, by rw [h2.nil_inv], h1⟩
theorem Reps.two_inv {f : List Addr} {H : Hp} {w z : W} {vs : List V} (r : Reps K f H [w, z] vs) : ∃ v u, vs = [v, u] ∧ Rep K f H w v ∧ Rep K f H z u := by
  obtain ⟨v, t, rfl, h1, h2⟩ := r.cons_inv
  obtain ⟨u, rfl, h3⟩ := h2.one_inv
  exact ⟨v, u, rfl, h1, h3⟩
theorem o_abs : OpC K (fun xs H Q => ∃ i, xs = [V.int i] ∧ Q (.int (if i < 0 then -i else i)) H) wAbs := by
  intro f h H xs vs Q E s r p
  unfold wAbs at p
  split at p
  · obtain ⟨v, rfl, h1⟩ := r.one_inv
    exact ⟨_, by rw [rep_int.mp h1], post_ok s p (rep_int.mpr rfl)⟩
  · exact p.elim
theorem o_max2 : OpC K (fun xs H Q => ∃ i j, xs = [V.int i, .int j] ∧ Q (.int (if j > i then j else i)) H) wMax2 := by
  intro f h H xs vs Q E s r p
  unfold wMax2 at p
  split at p
  · obtain ⟨v, u, rfl, h1, h2⟩ := r.two_inv
    exact ⟨_, _, by rw [rep_int.mp h1, rep_int.mp h2], post_ok s p (rep_int.mpr rfl)⟩
  · exact p.elim
theorem o_min2 : OpC K (fun xs H Q => ∃ i j, xs = [V.int i, .int j] ∧ Q (.int (if j < i then j else i)) H) wMin2 := by
  intro f h H xs vs Q E s r p
  unfold wMin2 at p
  split at p
  · obtain ⟨v, u, rfl, h1, h2⟩ := r.two_inv
    exact ⟨_, _, by rw [rep_int.mp h1, rep_int.mp h2], post_ok s p (rep_int.mpr rfl)⟩
  · exact p.elim
abbrev rInt : List V → Hp → VK → Prop := fun xs H Q => ((∃ i, xs = [V.int i] ∧ Q (.int i) H) ∨ ∃ k, xs = [.bl k] ∧ Q (.int (if k then 1 else 0)) H) ∨ ∃ a n, xs = [.str a] ∧ PySem.intText? a = some n ∧ a.length ≤ 640 ∧ Q (.int n) H
theorem c_int : CallR X (.type "int") rInt := CallR.or call_int1 call_int_str
theorem o_int : OpC K rInt wInt := by
  intro f h H xs vs Q E s r p
  unfold wInt at p
  split at p
  · obtain ⟨v, rfl, h1⟩ := r.one_inv
    exact .inl (.inl ⟨_, by rw [rep_int.mp h1], post_ok s p (rep_int.mpr rfl)⟩)
  · obtain ⟨v, rfl, h1⟩ := r.one_inv
    exact .inl (.inr ⟨_, by rw [rep_bl.mp h1], post_ok s p (rep_int.mpr rfl)⟩)
  · obtain ⟨v, rfl, h1⟩ := r.one_inv
    split at p
    · rename_i x hz
      cases e : PySem.intText? x with
      | none => rw [e] at p; exact p.elim
      | some n =>
        rw [e] at p
        exact .inr ⟨_, n, by rw [rep_str.mp h1], e, hz, post_ok s p (rep_int.mpr rfl)⟩
    · exact p.elim
  · exact p.elim
theorem o_str : OpC K (fun xs H Q => ∃ i, xs = [V.int i] ∧ i.natAbs.log2 < 1920 ∧ Q (.str (toString i)) H) wStr := by
  intro f h H xs vs Q E s r p
  unfold wStr at p
  split at p
  · split at p
    · rename_i c
      obtain ⟨v, rfl, h1⟩ := r.one_inv
      exact ⟨_, by rw [rep_int.mp h1], c, post_ok s p (rep_str.mpr rfl)⟩
    · exact p.elim
  · exact p.elim

/-! ### tuple(..), list(..), sorted(..) -/
def wTupQ (ws : List W) (h : PH) : Option (W × PH) := some (.tup ws, h)
abbrev rTupOf (K : PySem.W.Frag) : List V → Hp → VK → Prop := fun xs H Q => ∃ p ys, xs = [.ref p] ∧ ((SqL K H p ys ∧ ∀ l, H l = none → Q (.ref l) (upd H l (.tup ys))) ∨ (SqT K H p ys ∧ Q (.ref p) H))
theorem q_tup : OpS K (RW K) (rTupOf K) wTupQ := by
  intro f h H a ws vs Q E s hq r p
  refine ⟨a, vs, rfl, ?_⟩
  rcases hq with hq | hq
  · exact .inl ⟨hq, fun l hl => post_tup s p r hl⟩
  · exact .inr ⟨hq, post_ok s p (rep_tup.mpr ⟨a, vs, rfl, hq, r⟩)⟩
/-- behind a rule that lays a new list -/
theorem post_fresh {f : List Addr} {h : PH} {H : Hp} {ws : List W} {vs : List V} {Q : VK} {E : XK} (s : Sim K f h H) (p : Post K (RL K) f H (.ofO (some (ws, h))) Q E) (r : Reps K f H ws vs) {q : Addr} (hq : H q = none) : Q (.ref q) (upd H q (.lst vs)) :=
  p f _ _ (s.other hq) ⟨q, vs, rfl, hq, s.fresh hq, upd_same, Reps.mono (.refl f) (s.stay (s.other hq).grow) _ _ r⟩
def lId (ws : List W) (h : PH) : Option (List W × PH) := some (ws, h)
abbrev rLstOf (K : PySem.W.Frag) : List V → Hp → VK → Prop := fun xs H Q => ∃ p ys, xs = [.ref p] ∧ (SqL K H p ys ∨ SqT K H p ys) ∧ ∀ l, H l = none → Q (.ref l) (upd H l (.lst ys))
theorem q_list : OpS K (RL K) (rLstOf K) lId := by
  intro f h H a ws vs Q E s hq r p
  exact ⟨a, vs, rfl, hq, fun l hl => post_fresh s p r hl⟩
/-- the rising arrangement -/
def insI (x : Int) : List Int → List Int
  | [] => [x]
  | y :: r => if x ≤ y then x :: y :: r else y :: insI x r
def sortI (l : List Int) : List Int := l.foldr insI []
theorem insI_perm (x : Int) : ∀ l : List Int, (insI x l).Perm (x :: l)
  | [] => .refl _
  | y :: r => by
    unfold insI
    split
    · exact .refl _
    · exact ((insI_perm x r).cons y).trans (.swap x y r)
theorem sortI_perm (l : List Int) : (sortI l).Perm l := by
  induction l with
  | nil => exact .refl _
  | cons x l ih => exact (insI_perm x _).trans (ih.cons x)
theorem insI_up (x : Int) : ∀ l : List Int, l.Pairwise (· ≤ ·) → (insI x l).Pairwise (· ≤ ·)
  | [], _ => by simp [insI]
  | y :: r, h => by
    obtain ⟨h1, h2⟩ := List.pairwise_cons.mp h
    unfold insI
    split
    · rename_i c
      refine List.pairwise_cons.mpr ⟨fun z hz => ?_, h⟩
      rcases List.mem_cons.mp hz with e | e
      · rw [e]; exact c
      · exact Int.le_trans c (h1 z e)
    · rename_i c
      refine List.pairwise_cons.mpr ⟨fun z hz => ?_, insI_up x r h2⟩
      rcases List.mem_cons.mp ((insI_perm x r).mem_iff.mp hz) with e | e
      · rw [e]; omega
      · exact h1 z e
theorem sortI_up (l : List Int) : (sortI l).Pairwise (· ≤ ·) := by
  induction l with
  | nil => exact .nil
  | cons x l ih => exact insI_up x _ ih
theorem up_unique : ∀ {l m : List Int}, l.Perm m → l.Pairwise (· ≤ ·) → m.Pairwise (· ≤ ·) → l = m
  | [], m, p, _, _ => by rw [List.nil_perm.mp p]
  | a :: l, [], p, _, _ => absurd (p.symm) (by simp)
  | a :: l, b :: m, p, h1, h2 => by
    obtain ⟨a1, a2⟩ := List.pairwise_cons.mp h1
    obtain ⟨b1, b2⟩ := List.pairwise_cons.mp h2
    have e : a = b := by
      have m1 : b ∈ a :: l := p.mem_iff.mpr List.mem_cons_self
      have m2 : a ∈ b :: m := p.mem_iff.mp List.mem_cons_self
      rcases List.mem_cons.mp m1 with q | q
      · exact q.symm
      · rcases List.mem_cons.mp m2 with q2 | q2
        · exact q2
        · exact Int.le_antisymm (a1 b q) (b1 a q2)
    subst e
    rw [up_unique (List.Perm.cons_inv p) a2 b2]
def lSorted (ws : List W) (h : PH) : Option (List W × PH) := (intsW ws).map fun bs => ((sortI bs).map W.int, h)
theorem q_sorted : OpM K (RL K) (rSortedI K) lSorted := by
  intro f h H a ws vs Q E s hq r p
  unfold lSorted at p
  cases e : intsW ws with
  | none => rw [e] at p; exact p.elim
  | some bs =>
    rw [e] at p
    have ev := intsW_rep e r
    subst ev
    refine ⟨a, bs, rfl, hq, fun ns' q hp hu hq' => ?_⟩
    have e3 : ns' = sortI bs := up_unique (hp.trans (sortI_perm bs).symm) hu (sortI_up bs)
    subst e3
    exact post_fresh s p (reps_ints _) hq'
end
end Mir

/-! Mir: targets, statements. -/
namespace Mir
open PySem L2

/-! ### targets -/
abbrev GM := W → LS → Option LS
abbrev GMs := List W → LS → Option LS
/-- nothing but the slots ts may be otherwise -/
def But (ts : List Nat) (σ σ' : L2.St) : Prop := σ'.length = σ.length ∧ ∀ i, i ∉ ts → σ'[i]? = σ[i]?
theorem But.refl (σ : L2.St) : But [] σ σ := ⟨rfl, fun _ _ => rfl⟩
theorem But.trans {a b : List Nat} {σ σ1 σ2 : L2.St} (h : But a σ σ1) (k : But b σ1 σ2) : But (a ++ b) σ σ2 :=
  ⟨k.1.trans h.1, fun i hi => (k.2 i fun z => hi (List.mem_append_right _ z)).trans (h.2 i fun z => hi (List.mem_append_left _ z))⟩
def tTg (K : PySem.W.Frag) (ts : List Nat) (g : GM) : TG := fun v σ H Q => ∃ f h ps w ps', Sim K f h H ∧ SRep K f H ps σ ∧ Rep K f H w v ∧ g w ps = some ps' ∧ ∀ σ', SRep K f H ps' σ' → But ts σ σ' → Q σ' H
def tTgs (K : PySem.W.Frag) (ts : List Nat) (g : GMs) : TGs := fun vs σ H Q => ∃ f h ps ws ps', Sim K f h H ∧ SRep K f H ps σ ∧ Reps K f H ws vs ∧ g ws ps = some ps' ∧ ∀ σ', SRep K f H ps' σ' → But ts σ σ' → Q σ' H
abbrev SG (X : Cx) (tg : Expr) (ts : List Nat) (g : GM) : Prop := PG X tg (tTg X.K ts g)
abbrev SGs (X : Cx) (es : List Expr) (ts : List Nat) (g : GMs) : Prop := PGs X es (tTgs X.K ts g)
theorem pg_imp {X : Cx} {e : Expr} {t t' : TG} (h : PG X e t) (i : ∀ v σ H Q, t' v σ H Q → t v σ H Q) : PG X e t' := ⟨fun pins s σ H v u Q I r q => h.run pins s σ H v u Q I r (i v σ H Q q)⟩
theorem pgs_imp {X : Cx} {es : List Expr} {t t' : TGs} (h : PGs X es t) (i : ∀ v σ H Q, t' v σ H Q → t v σ H Q) : PGs X es t' := ⟨fun pins s σ H v u Q I r q => h.run pins s σ H v u Q I r (i v σ H Q q)⟩
def gN (i : Nat) : GM := fun w ps => some (ps.set i (some w))
def gNil' : GMs := fun ws ps => match ws with
  | [] => some ps
  | _ => none
def gCons' (g : GM) (r : GMs) : GMs := fun ws ps => match ws with
  | w :: ws => (g w ps).bind fun ps' => r ws ps'
  | [] => none
/-- a tuple is taken apart -/
def gT (r : GMs) : GM := fun w ps => match w with
  | .tup ws => r ws ps
  | _ => none
section
variable {X : Cx} {pos : Pos}
theorem sg_name (i : Nat) {x : Str} (hN : X.N.Nodup) (hi : X.N[i]? = some x := by rfl) (hx : Loc X.env.scope x := by first | exact .inl rfl | exact .inr rfl) (hf : X.fn x = true ∨ X.env.scope.names.lookup x = some .local := by first | exact .inl rfl | exact .inr rfl | assumption) : SG X (.Name x pos) [i] (gN i) :=
  pg_imp (pg_name (i := i) hN hi hx hf) fun v σ H Q h => by
    obtain ⟨f, h, ps, w, ps', s, sr, r, e, q⟩ := h
    cases e
    exact q _ (sr.set i r) ⟨by simp, fun j hj => List.getElem?_set_ne fun z => hj (by simp [z])⟩
theorem sgs_nil : SGs X [] [] gNil' := pgs_imp pgs_nil fun vs σ H Q h => by
  obtain ⟨f, h, ps, ws, ps', s, sr, r, e, q⟩ := h
  unfold gNil' at e
  split at e
  · cases e
    exact ⟨r.nil_inv, q _ sr (.refl σ)⟩
  · cases e
theorem sgs_cons {e : Expr} {es : List Expr} {g : GM} {r : GMs} {ts us : List Nat} (h1 : SG X e ts g) (h2 : SGs X es us r) (hs : (assignEach (e :: es) X.env).map (·.2) = assign e X.env :: (assignEach es X.env).map (·.2) := by rfl) : SGs X (e :: es) (ts ++ us) (gCons' g r) :=
  pgs_imp (pgs_cons h1 h2 hs) fun vs σ H Q h => by
    obtain ⟨f, h, ps, ws, ps', s, sr, rr, e, q⟩ := h
    unfold gCons' at e
    split at e
    · rename_i w ws
      obtain ⟨v, t, rfl, r1, r2⟩ := rr.cons_inv
      obtain ⟨ps1, e1, e2⟩ := Option.bind_eq_some_iff.mp e
      exact ⟨v, t, rfl, f, h, ps, w, ps1, s, sr, r1, e1, fun σ' sr' b' => ⟨f, h, ps1, ws, ps', s, sr', r2, e2, fun σ2 sr2 b2 => q σ2 sr2 (b'.trans b2)⟩⟩
    · cases e
/-- (a, b, ..) = a tuple -/
theorem sg_tup {es : List Expr} {k : Nat} {r : GMs} {ts : List Nat} {n : Nat} (hc : X.calm = true) (h : SGs X es ts r) (hl : ∀ ws ps ps', r ws ps = some ps' → ws.length = n)
    (hn : (assignEach es X.env).length = n := by rfl) (hst : (assignEach es X.env).findIdx? (·.1) = none := by rfl) : SG X (.Tuple es k pos) ts (gT r) := pg_imp (pg_tup hc h hn hst) fun v σ H Q h => by
  obtain ⟨f, h, ps, w, ps', s, sr, rr, e, q⟩ := h
  unfold gT at e
  split at e
  · rename_i ws
    obtain ⟨a, vs, rfl, h1, h2⟩ := rep_tup.mp rr
    exact ⟨a, vs, rfl, h1, by rw [← h2.length]; exact hl _ _ _ e, f, h, ps, ws, ps', s, sr, h2, e, q⟩
  · cases e
theorem gl_nil {ws : List W} {ps ps' : LS} (e : gNil' ws ps = some ps') : ws.length = 0 := by
  unfold gNil' at e
  split at e
  · rfl
  · cases e
theorem gl_cons {g : GM} {r : GMs} {n : Nat} (h : ∀ ws ps ps', r ws ps = some ps' → ws.length = n) {ws : List W} {ps ps' : LS} (e : gCons' g r ws ps = some ps') : ws.length = n + 1 := by
  unfold gCons' at e
  split at e
  · obtain ⟨ps1, _, e2⟩ := Option.bind_eq_some_iff.mp e
    rw [List.length_cons, h _ _ _ e2]
  · cases e
end

/-! ### statements -/
def PostS (K : PySem.W.Frag) (f : List Addr) (H : Hp) (r : SRes) (D : Ends) (W0 : WX) : Prop :=
  match r with
  | .nx ps h' => ∀ f' H' σ', Step K f H f' h' H' → SRep K f' H' ps σ' → D.nx σ' H'
  | .bk ps h' => ∀ f' H' σ', Step K f H f' h' H' → SRep K f' H' ps σ' → D.bk σ' H'
  | .ct ps h' => ∀ f' H' σ', Step K f H f' h' H' → SRep K f' H' ps σ' → D.ct σ' H'
  | .rt w h' => ∀ f' H' v, Step K f H f' h' H' → Rep K f' H' w v → D.rt v H'
  | .exc x ps h' => ∀ f' H' σ' c d, Step K f H f' h' H' → SRep K f' H' ps σ' → XRep K f' H' x c d → W0 c d σ' H'
  | .stuck => False
def tS (K : PySem.W.Frag) (W0 : WX) (m : SM) : TS := fun D σ H => ∃ f h ps, Sim K f h H ∧ SRep K f H ps σ ∧ PostS K f H (m ps h) D W0
abbrev SS (X : Cx) (W0 : WX) (st : Stmt) (m : SM) : Prop := PS X st (tS X.K W0 m)
abbrev SSs (X : Cx) (W0 : WX) (st : List Stmt) (m : SM) : Prop := PSs X st (tS X.K W0 m)
/-- from a later state -/
theorem PostS.later {K : PySem.W.Frag} {f f1 : List Addr} {h1 : PH} {H H1 : Hp} {r : SRes} {D : Ends} {W0 : WX} (s1 : Step K f H f1 h1 H1) (p : PostS K f H r D W0) : PostS K f1 H1 r D W0 := by
  cases r with
  | nx ps h' => exact fun f' H' σ' s q => p f' H' σ' (s1.trans s) q
  | bk ps h' => exact fun f' H' σ' s q => p f' H' σ' (s1.trans s) q
  | ct ps h' => exact fun f' H' σ' s q => p f' H' σ' (s1.trans s) q
  | rt ps h' => exact fun f' H' σ' s q => p f' H' σ' (s1.trans s) q
  | exc x ps h' => exact fun f' H' σ' c d s q => p f' H' σ' c d (s1.trans s) q
  | stuck => exact p
/-- a computation of a value, then a statement's -/
def Res.thenS {α : Type} (r : Res α) (ps : LS) (k : α → PH → SRes) : SRes :=
  match r with
  | .ok a h => k a h
  | .exc x h => .exc x ps h
  | .stuck => .stuck
theorem PostS.bind {γ δ : Type} {K : PySem.W.Frag} {R1 : RR γ δ} {f : List Addr} {h : PH} {H : Hp} {r : Res γ} {ps : LS} {σ : L2.St} {k : γ → PH → SRes} {D : Ends} {W0 : WX} (s : Sim K f h H) (sr : SRep K f H ps σ) (p : PostS K f H (r.thenS ps k) D W0) :
    Post K R1 f H r (fun b H1 => ∃ f1 h1 a, Step K f H f1 h1 H1 ∧ SRep K f1 H1 ps σ ∧ R1 H f1 H1 a b ∧ PostS K f1 H1 (k a h1) D W0) fun c d H' => W0 c d σ H' := by
  cases r with
  | stuck => exact p
  | exc x h' => exact fun f' H' c d s1 q => p f' H' σ c d s1 (s1.srep s sr) q
  | ok a h1 => exact fun f1 H1 b s1 q1 => ⟨f1, h1, a, s1, s1.srep s sr, q1, PostS.later s1 p⟩
def sNext : SM := fun ps h => .nx ps h
def sSeq (m n : SM) : SM := fun ps h => match m ps h with
  | .nx ps1 h1 => n ps1 h1
  | r => r
def sAsg (m : EM) (g : GM) : SM := fun ps h => (m ps h).thenS ps fun w h1 => match g w ps with
  | some ps1 => .nx ps1 h1
  | none => .stuck
def sDrop (m : EM) : SM := fun ps h => (m ps h).thenS ps fun _ h1 => .nx ps h1
def sRet (m : EM) : SM := fun ps h => (m ps h).thenS ps fun w h1 => .rt w h1
def sRetN : SM := fun _ h => .rt .non h
def sIf (t : BM) (m n : SM) : SM := fun ps h => (t ps h).thenS ps fun b h1 => if b = true then m ps h1 else n ps h1
def sBreak : SM := fun ps h => .bk ps h
def sCont : SM := fun ps h => .ct ps h
section
variable {K : PySem.W.Frag} {X : Cx} {W0 : WX} {st : Stmt} {rest : List Stmt} {M N : SM} {e tg : Expr} {m : EM} {t : BM} {g : GM} {ts : List Nat} {pos : Pos}
theorem sss_nil : SSs X W0 [] sNext := pss_imp pss_nil fun D σ H h => by
  obtain ⟨f, h, ps, s, sr, p⟩ := h
  exact p f H σ (.refl s) sr
theorem tS_seq {D : Ends} {σ : L2.St} {H : Hp} (h : tS K W0 (sSeq M N) D σ H) : tS K W0 M { D with nx := tS K W0 N D } σ H := by
  obtain ⟨f, h, ps, s, sr, p⟩ := h
  refine ⟨f, h, ps, s, sr, ?_⟩
  unfold sSeq at p
  cases e : M ps h with
  | nx ps1 h1 =>
    rw [e] at p
    exact fun f1 H1 σ1 s1 sr1 => ⟨f1, h1, ps1, s1.sim, sr1, PostS.later s1 p⟩
  | bk _ _ => rw [e] at p; exact p
  | ct _ _ => rw [e] at p; exact p
  | rt _ _ => rw [e] at p; exact p
  | exc _ _ _ => rw [e] at p; exact p
  | stuck => rw [e] at p; exact p
theorem sss_cons (h1 : SS X W0 st M) (h2 : SSs X W0 rest N) : SSs X W0 (st :: rest) (sSeq M N) := pss_imp (pss_cons h1 h2) fun D σ H h => tS_seq h
theorem sss_one (h1 : SS X W0 st M) : SSs X W0 [st] M := pss_one h1
theorem ss_pass : SS X W0 (.Pass pos) sNext := ps_imp ps_pass fun D σ H h => by
  obtain ⟨f, h, ps, s, sr, p⟩ := h
  exact p f H σ (.refl s) sr
theorem ss_break : SS X W0 (.Break pos) sBreak := ps_imp ps_break fun D σ H h => by
  obtain ⟨f, h, ps, s, sr, p⟩ := h
  exact p f H σ (.refl s) sr
theorem ss_cont : SS X W0 (.Continue pos) sCont := ps_imp ps_continue fun D σ H h => by
  obtain ⟨f, h, ps, s, sr, p⟩ := h
  exact p f H σ (.refl s) sr
theorem ss_expr (he : SE X W0 e m) (hs : swapsWith e none pos.line X.env = pure false := by rfl) : SS X W0 (.Expr e pos) (sDrop m) := ps_imp (ps_expr he hs) fun D σ H h => by
  obtain ⟨f, h, ps, s, sr, p⟩ := h
  refine ⟨f, h, ps, s, sr, (PostS.bind (R1 := RW X.K) s sr p).mono (fun v H1 hh => ?_) fun _ _ _ e => e⟩
  obtain ⟨f1, h1, a, s1, sr1, q1, p1⟩ := hh
  exact p1 f1 H1 σ (.refl s1.sim) sr1
theorem ss_ret (he : SE X W0 e m) : SS X W0 (.Return (some e) pos) (sRet m) := ps_imp (ps_ret he) fun D σ H h => by
  obtain ⟨f, h, ps, s, sr, p⟩ := h
  refine ⟨f, h, ps, s, sr, (PostS.bind (R1 := RW X.K) s sr p).mono (fun v H1 hh => ?_) fun _ _ _ e => e⟩
  obtain ⟨f1, h1, a, s1, sr1, q1, p1⟩ := hh
  exact p1 f1 H1 v (.refl s1.sim) q1
theorem ss_retN : SS X W0 (.Return none pos) sRetN := ps_imp ps_retN fun D σ H h => by
  obtain ⟨f, h, ps, s, sr, p⟩ := h
  exact p f H .non (.refl s) (rep_non.mpr rfl)
theorem ss_if {a b : List Stmt} (hc : ST X W0 e t) (ha : SSs X W0 a M) (hb : SSs X W0 b N) : SS X W0 (.If e a b pos) (sIf t M N) := ps_imp (ps_if hc ha hb) fun D σ H h => by
  obtain ⟨f, h, ps, s, sr, p⟩ := h
  refine ⟨f, h, ps, s, sr, (PostS.bind (R1 := RB) s sr p).mono (fun v H1 hh => ?_) fun _ _ _ e => e⟩
  obtain ⟨f1, h1, a, s1, sr1, q1, p1⟩ := hh
  cases q1
  by_cases hx : v = true
  · rw [if_pos hx] at p1 ⊢
    exact ⟨f1, h1, ps, s1.sim, sr1, p1⟩
  · rw [if_neg hx] at p1 ⊢
    exact ⟨f1, h1, ps, s1.sim, sr1, p1⟩
theorem tS_asg {D : Ends} {σ : L2.St} {H : Hp} (h : tS K W0 (sAsg m g) D σ H) : tAsg (tE K W0 m) (tTg K ts g) D σ H := by
  obtain ⟨f, h, ps, s, sr, p⟩ := h
  refine ⟨f, h, ps, s, sr, (PostS.bind (R1 := RW K) s sr p).mono (fun v H1 hh => ?_) fun _ _ _ e => e⟩
  obtain ⟨f1, h1, a, s1, sr1, q1, p1⟩ := hh
  cases e : g a ps with
  | none => simp only [e] at p1; exact p1.elim
  | some ps1 =>
    simp only [e] at p1
    exact ⟨f1, h1, ps, a, ps1, s1.sim, sr1, q1, e, fun σ' sr' _ => p1 f1 H1 σ' (.refl s1.sim) sr'⟩
/-- target = value, any target -/
theorem ss_asg (he : SE X W0 e m) (hg : SG X tg ts g) (hs : swapsWithSole [tg] e pos.line X.env = pure false := by rfl) (hw : swappedStores [tg] e X.env = pure none := by rfl)
    (h1 : (assignEach [tg] X.env).map (·.2) = [assign tg X.env] := by rfl) : SS X W0 (.Assign [tg] e pos) (sAsg m g) := ps_imp (ps_asg he hg hs hw h1) fun D σ H h => tS_asg h
/-- name = value -/
theorem ss_set (i : Nat) {x : Str} {pos' : Pos} (hN : X.N.Nodup) (he : SE X W0 e m) (hi : X.N[i]? = some x := by rfl) (hx : Loc X.env.scope x := by first | exact .inl rfl | exact .inr rfl) (hs : swapsWith e (some (.Name x pos')) pos.line X.env = pure false := by rfl) (hf : X.fn x = true ∨ X.env.scope.names.lookup x = some .local := by first | exact .inl rfl | exact .inr rfl | assumption) :
    SS X W0 (.Assign [.Name x pos'] e pos) (sAsg m (gN i)) := ps_imp (ps_set (i := i) hN hi hx he hs hf) fun D σ H h => by
  obtain ⟨f, h, ps, s, sr, p⟩ := h
  refine ⟨f, h, ps, s, sr, (PostS.bind (R1 := RW X.K) s sr p).mono (fun v H1 hh => ?_) fun _ _ _ e => e⟩
  obtain ⟨f1, h1, a, s1, sr1, q1, p1⟩ := hh
  exact p1 f1 H1 _ (.refl s1.sim) (sr1.set i q1)
end

/-! ### loops -/
/-- what is walked: the item at a turn (none: the end), by the heap as it stands; how many turns at most -/
structure PIt where
  get : Nat → PH → Option (Option W)
  fuel : Nat
def itS (items : List W) : PIt := ⟨fun i _ => some items[i]?, items.length + 1⟩
def itL (n fuel : Nat) : PIt := ⟨fun i h => match h[n]? with
  | some (.lst xs) => some xs[i]?
  | _ => none, fuel⟩
def itE (it : PIt) : PIt := ⟨fun i h => (it.get i h).map fun o => o.map fun w => .tup [.int (i : Nat), w], it.fuel⟩
/-- the kit's iterator is this one -/
abbrev RIt (K : PySem.W.Frag) : RR PIt It := fun _ f H it J => ∀ (f2 : List Addr) (h2 : PH) (H2 : Hp) (i : Nat), Step K f H f2 h2 H2 → match it.get i h2 with
  | none => True
  | some none => J.stop i H2
  | some (some w) => J.go i H2 ∧ ∀ x H', J.yld i H2 x H' → Step K f2 H2 f2 h2 H' ∧ Rep K f2 H' w x
theorem back_It {K : PySem.W.Frag} : Back K (RIt K) := fun _ _ _ _ _ _ _ _ _ _ _ _ q => q
abbrev IM := LS → PH → Res PIt
abbrev SI (X : Cx) (W0 : WX) (tg iter : Expr) (m : IM) : Prop := PI X tg iter (tG X.K (RIt X.K) W0 m)
theorem pi_imp {X : Cx} {tg e : Expr} {t t' : TI} (h : PI X tg e t) (i : ∀ σ H Q, t' σ H Q → t σ H Q) : PI X tg e t' := ⟨fun pins s σ H Q I q => h.run pins s σ H Q I (i σ H Q q)⟩
def forGo (it : PIt) (g : GM) (body : SM) : Nat → Nat → LS → PH → SRes
  | 0, _, _, _ => .stuck
  | k + 1, i, ps, h => match it.get i h with
    | none => .stuck
    | some none => .nx ps h
    | some (some w) => match g w ps with
      | none => .stuck
      | some ps1 => match body ps1 h with
        | .nx ps2 h2 => forGo it g body k (i + 1) ps2 h2
        | .ct ps2 h2 => forGo it g body k (i + 1) ps2 h2
        | .bk ps2 h2 => .nx ps2 h2
        | r => r
def sFor (m : IM) (g : GM) (body : SM) : SM := fun ps h => (m ps h).thenS ps fun it h1 => forGo it g body it.fuel 0 ps h1
section
variable {K : PySem.W.Frag} {X : Cx} {W0 : WX} {M N : SM} {e tg iter c : Expr} {m : IM} {t : BM} {g : GM} {ts : List Nat} {pos : Pos}
theorem tS_for {D : Ends} {σ : L2.St} {H : Hp} (h : tS K W0 (sFor m g M) D σ H) : tFor (tG K (RIt K) W0 m) (tTg K ts g) (tS K W0 M) D σ H := by
  obtain ⟨f, h, ps, s, sr, p⟩ := h
  refine ⟨f, h, ps, s, sr, (PostS.bind (R1 := RIt K) s sr p).mono (fun J H1 hh => ?_) fun _ _ _ e => e⟩
  obtain ⟨f1, h1, it, s1, sr1, q1, p1⟩ := hh
  refine ⟨fun i k σ' H' => ∃ f2 h2 ps2, Step K f1 H1 f2 h2 H' ∧ SRep K f2 H' ps2 σ' ∧ PostS K f2 H' (forGo it g M k i ps2 h2) D W0, ⟨it.fuel, f1, h1, ps, .refl s1.sim, sr1, p1⟩, ?_⟩
  rintro i k σ' H' ⟨f2, h2, ps2, s2, sr2, p2⟩
  cases k with
  | zero => exact p2.elim
  | succ k =>
    unfold forGo at p2
    have q := q1 f2 h2 H' i s2
    cases e : it.get i h2 with
    | none => rw [e] at p2; exact p2.elim
    | some o =>
      rw [e] at p2 q
      cases o with
      | none => exact .inl ⟨q, p2 f2 H' σ' (.refl s2.sim) sr2⟩
      | some w =>
        dsimp only at p2 q
        refine .inr ⟨q.1, fun σ3 H3 => ∃ f3 h3 ps3, Step K f1 H1 f3 h3 H3 ∧ SRep K f3 H3 ps3 σ3 ∧ PostS K f3 H3 (forGo it g M k (i + 1) ps3 h3) D W0, fun σ3 H3 hh => ⟨k, Nat.lt_succ_self k, hh⟩, fun x H3 y => ?_⟩
        obtain ⟨s3, r3⟩ := q.2 x H3 y
        cases eg : g w ps2 with
        | none => simp only [eg] at p2; exact p2.elim
        | some ps3 =>
          simp only [eg] at p2
          refine ⟨f2, h2, ps2, w, ps3, s3.sim, s3.srep s2.sim sr2, r3, eg, fun σ4 sr4 _ => ⟨f2, h2, ps3, s3.sim, sr4, ?_⟩⟩
          cases eb : M ps3 h2 with
          | nx ps5 h5 =>
            simp only [eb] at p2
            exact fun f5 H5 σ5 s5 sr5 => ⟨f5, h5, ps5, s2.trans (s3.trans s5), sr5, PostS.later (s3.trans s5) p2⟩
          | ct ps5 h5 =>
            simp only [eb] at p2
            exact fun f5 H5 σ5 s5 sr5 => ⟨f5, h5, ps5, s2.trans (s3.trans s5), sr5, PostS.later (s3.trans s5) p2⟩
          | bk ps5 h5 =>
            simp only [eb] at p2
            exact fun f5 H5 σ5 s5 sr5 => p2 f5 H5 σ5 (s3.trans s5) sr5
          | rt w5 h5 =>
            simp only [eb] at p2
            exact fun f5 H5 v5 s5 r5 => p2 f5 H5 v5 (s3.trans s5) r5
          | exc x5 ps5 h5 =>
            simp only [eb] at p2
            exact fun f5 H5 σ5 c5 d5 s5 r5 => p2 f5 H5 σ5 c5 d5 (s3.trans s5) r5
          | stuck =>
            simp only [eb] at p2
            exact p2.elim
theorem ss_for {body : List Stmt} (hp : PassesOwn (model X.prog X.w) X.A X.env X.xe) (hc : X.calm = true) (hi : SI X W0 tg iter m) (hg : SG X tg ts g) (hb : SSs X W0 body M)
    (hs : ∀ x, foldedSetIterable iter X.env x = pure x := by intro _; rfl) : SS X W0 (.For tg iter body [] pos) (sFor m g M) := ps_imp (ps_for hp hc hi hg hb hs) fun D σ H h => tS_for h
/-- while -/
def whGo (t : BM) (body : SM) : Nat → LS → PH → SRes
  | 0, _, _ => .stuck
  | k + 1, ps, h => (t ps h).thenS ps fun b h1 => if b = true then (match body ps h1 with
      | .nx ps2 h2 => whGo t body k ps2 h2
      | .ct ps2 h2 => whGo t body k ps2 h2
      | .bk ps2 h2 => .nx ps2 h2
      | r => r) else .nx ps h1
def sWhile (n : Nat) (t : BM) (body : SM) : SM := fun ps h => whGo t body n ps h
theorem tS_while {n : Nat} {D : Ends} {σ : L2.St} {H : Hp} (h : tS K W0 (sWhile n t M) D σ H) : tWhile (tT K W0 t) (tS K W0 M) D σ H := by
  obtain ⟨f, h, ps, s, sr, p⟩ := h
  refine ⟨fun k σ' H' => ∃ f2 h2 ps2, Step K f H f2 h2 H' ∧ SRep K f2 H' ps2 σ' ∧ PostS K f2 H' (whGo t M k ps2 h2) D W0, ⟨n, f, h, ps, .refl s, sr, p⟩, ?_⟩
  rintro k σ' H' ⟨f2, h2, ps2, s2, sr2, p2⟩
  cases k with
  | zero => exact p2.elim
  | succ k =>
    unfold whGo at p2
    refine ⟨f2, h2, ps2, s2.sim, sr2, (PostS.bind (R1 := RB) s2.sim sr2 p2).mono (fun b H3 hh => ?_) fun _ _ _ e => e⟩
    obtain ⟨f3, h3, a, s3, sr3, q3, p3⟩ := hh
    cases q3
    by_cases hx : b = true
    · rw [if_pos hx] at p3 ⊢
      refine ⟨fun σ3 H3 => ∃ f3 h3 ps3, Step K f H f3 h3 H3 ∧ SRep K f3 H3 ps3 σ3 ∧ PostS K f3 H3 (whGo t M k ps3 h3) D W0, fun σ3 H3 hh => ⟨k, Nat.lt_succ_self k, hh⟩, f3, h3, ps2, s3.sim, sr3, ?_⟩
      cases eb : M ps2 h3 with
      | nx ps5 h5 =>
        simp only [eb] at p3
        exact fun f5 H5 σ5 s5 sr5 => ⟨f5, h5, ps5, s2.trans (s3.trans s5), sr5, PostS.later s5 p3⟩
      | ct ps5 h5 =>
        simp only [eb] at p3
        exact fun f5 H5 σ5 s5 sr5 => ⟨f5, h5, ps5, s2.trans (s3.trans s5), sr5, PostS.later s5 p3⟩
      | bk ps5 h5 =>
        simp only [eb] at p3
        exact fun f5 H5 σ5 s5 sr5 => p3 f5 H5 σ5 s5 sr5
      | rt w5 h5 =>
        simp only [eb] at p3
        exact fun f5 H5 v5 s5 r5 => p3 f5 H5 v5 s5 r5
      | exc x5 ps5 h5 =>
        simp only [eb] at p3
        exact fun f5 H5 σ5 c5 d5 s5 r5 => p3 f5 H5 σ5 c5 d5 s5 r5
      | stuck =>
        simp only [eb] at p3
        exact p3.elim
    · rw [if_neg hx] at p3 ⊢
      exact p3 f3 H3 σ' (.refl s3.sim) sr3
theorem ss_while (n : Nat) {body : List Stmt} (hp : PassesOwn (model X.prog X.w) X.A X.env X.xe) (hc : ST X W0 c t) (hb : SSs X W0 body M) : SS X W0 (.While c body [] pos) (sWhile n t M) := ps_imp (ps_while hp hc hb) fun D σ H h => tS_while h
end
end Mir

/-! Mir: what loops walk. -/
namespace Mir
open PySem L2

/-! ### enumerate of a tuple -/
section
open PySem.Spec PyProof.Rows
theorem meets_enum1 {v : Value} {o : Obj} {G : Heap → Prop} (B : Begins v o G) :
    Meets (Builtin.«enumerate.__new__» ⟨[.type "enumerate", v], []⟩) (fun _ R s => G s.heap ∧
      R (.ok (.ret (.ref (s.heap.push o).objs.size))) { s with heap := (s.heap.push o).push { cls := .type "enumerate", data := .fields #[.none, .bool false, .ref s.heap.objs.size, rawInt 0, .none, .none] } }) :=
  .of_wp fun prog w A R s hh => by
    obtain ⟨hp, g, d, tk, os⟩ := s
    obtain ⟨hG, hR⟩ := hh
    have hsub := sub_enumerate
    have begin1 : ∀ {A' : Around} {E Q : Value → Shared → Prop}, Q (.ref hp.objs.size) ⟨hp.push o, g, d, tk, os⟩ → wpAny (model prog w) A' (pyIter v) Q E ⟨hp, g, d, tk, os⟩ :=
      fun q => B.iter prog w _ _ ⟨hp, g, d, tk, os⟩ _ hG q
    wp_walk using begin1
    refine wpAny_stack_any fun st => wpAny_pure ?_
    split
    · rename_i c _ _ _ _ _
      cases (c == Value.type "enumerate") <;> (wp_walk using begin1; exact ⟨_, rfl, hR⟩)
    · wp_walk using begin1
      exact ⟨_, rfl, hR⟩
theorem enum_made {prog : Program} {w : World} {A : Around} {E : Value → Shared → Prop} {s : Shared} {v : Value} {o : Obj} {G : Heap → Prop} {Q : Value → Shared → Prop} (B : Begins v o G) (hG : G s.heap)
    (hQ : ∀ h', IsEnum h' (s.heap.objs.size + 1) s.heap.objs.size 0 .none → h'.get? s.heap.objs.size = some o → (∀ b ob, s.heap.get? b = some ob → h'.get? b = some ob) → Q (.ref (s.heap.objs.size + 1)) { s with heap := h' }) :
    wpAny (model prog w) A (call (.type "enumerate") [v]) Q E s := by
  refine callType_new F.called_enumerate (by decide) (F.typeCall_enumerate_1 _) (F.newCall_enumerate_1 _) (fun obj => F.args_object_init_2 obj _) F.entry_enumerate_new (meets_enum1 B) ⟨hG, ?_⟩
  have z : (s.heap.push o).objs.size = s.heap.objs.size + 1 := Heap.size_push ..
  show _ ∧ _
  rw [z]
  have he : IsEnum ((s.heap.push o).push { cls := .type "enumerate", data := .fields #[.none, .bool false, .ref s.heap.objs.size, rawInt 0, .none, .none] }) (s.heap.objs.size + 1) s.heap.objs.size 0 .none := by
    have q := Heap.get?_push_size (s.heap.push o) (o := { cls := .type "enumerate", data := .fields #[.none, .bool false, .ref s.heap.objs.size, rawInt 0, .none, .none] }) rfl
    rw [z] at q
    exact q
  exact ⟨⟨_, he, rfl⟩, hQ _ he (Heap.get?_push_of_some _ (Heap.get?_push_size _ B.free)) fun b ob x => Heap.get?_push_of_some _ (Heap.get?_push_of_some _ x)⟩
end
def IteT (K : PySem.W.Frag) (a : Addr) : It :=
  ⟨fun i H => ∃ (xs : List V) (x : V), SqT K H a xs ∧ xs[i]? = some x, fun i H v H' => ∃ T x, v = .ref T ∧ H T = none ∧ H' = upd H T (.tup [.int (i : Nat), x]) ∧ ∀ xs, SqT K H a xs → xs[i]? = some x, fun i H => ∃ xs : List V, SqT K H a xs ∧ xs.length ≤ i⟩
section
open PySem.Spec PyProof.Rows
theorem enum_stops {prog : Program} {w : World} {A : Around} {E : Value → Shared → Prop} {s : Shared} {e it l : Addr} {i : Nat} {items : Array Value} {old : Value} {Q : Option Value → Shared → Prop} (hh : A.handled = none)
    (he : IsEnum s.heap e it i old) (hit : s.heap.IsTupleIter it l i) (hl : s.heap.IsTuple l items) (hx : items[i]? = none) (hQ : ∀ h', Heap.ExtBut it s.heap h' → Q none { s with heap := h' }) : wpAny (model prog w) A (pyNext (.ref e)) Q E s := by
  have ty : s.TypeIs (.ref e) "enumerate" := ⟨_, he, rfl⟩
  unfold pyNext
  refine wpAny_bind (wpAny_attempt ?_)
  refine wpAny_callSpecial?_slot (name := Str.ofString "__next__") ty F.slot_enumerate_next ?_
  refine wpAny_call_entry F.slot_enumerate_next ty F.entry_enumerate_next ?_ (F.args_enumerate_next_1 _)
  show wpAny _ _ (field (.ref e) 2 >>= _) _ _ _
  refine wpAny_bind (wpAny_field he rfl (x := .ref it) rfl (wpAny_bind (wpAny_nextOf_tuple_end hh hit hl hx fun h' x he' hx' => ?_)))
  obtain ⟨o, ho, hc⟩ := hx'
  exact wpAny_bind (wpAny_isInstance (T := "StopIteration") (b := true) ⟨o, ho, hc⟩ isSubtype_stop (wpAny_pure (hQ _ he')))
theorem turn_enumT {P : Program} {w : World} {K : PySem.W.Frag} {elts : List Expr} {kk : Nat} {tpos : Pos} (a e it : Addr) :
    Turn P w K (.Tuple elts kk tpos) (IteT K a) [e, it] e (fun i h => (∃ old, IsEnum h e it ((i : Nat) : Int) old) ∧ h.IsTupleIter it a i ∧ e ≠ it) := by
  have away : ∀ {h : Heap} {i : Nat} {old : Value} {its : Array Value}, IsEnum h e it (i : Int) old → h.IsTupleIter it a i → h.IsTuple a its → a ≠ it ∧ e ≠ a := by
    intro h i old its h1 h2 h3
    obtain ⟨o2, g2, c2, _⟩ := h2
    obtain ⟨o3, g3, c3, _⟩ := h3
    refine ⟨fun z => ?_, fun z => ?_⟩
    · rw [z, g2] at g3
      cases g3
      rw [c2] at c3
      simp at c3
    · rw [← z, h1] at g3
      cases g3
      simp at c3
  refine ⟨by simp, fun i h st b hb => ?_, fun i h h' st k => ?_, ?_, ?_, fun A i s Q E st q => ?_⟩
  · obtain ⟨⟨old, h1⟩, ⟨o, g, _, d⟩, _⟩ := st
    rcases List.mem_cons.mp hb with z | z
    · rw [z]
      exact ⟨_, h1, fun v q => nomatch q⟩
    · rw [List.mem_singleton.mp z]
      exact ⟨o, g, fun v q => by rw [d] at q; cases q⟩
  · obtain ⟨⟨old, h1⟩, h2, h3⟩ := st
    exact ⟨⟨old, k e (by simp) _ h1⟩, h2.at fun o q => k it (by simp) o q, h3⟩
  · intro X hP hw hK hc i pins s σ H E I hf st hg
    subst hP hw hK
    obtain ⟨⟨old, he⟩, hit, hne⟩ := st
    obtain ⟨xs, x, hq, hx⟩ := hg
    obtain ⟨its, rv, tp, hz⟩ := I.tuple hq
    obtain ⟨u, hu, ru⟩ := rv.get hx
    obtain ⟨na, nb⟩ := away he hit tp
    have D := Draws.tuple (prog := X.prog) (w := X.w) (A := X.A.in1) (I.ok.hd hc) it a na its.toArray
    have hi : i < its.toArray.size := by
      have := (List.getElem?_eq_some_iff.mp hu).1
      simpa using this
    have lt : ∀ b ∈ [e, it], b < s.heap.objs.size := fun b hb => by
      rcases List.mem_cons.mp hb with z | z
      · rw [z]
        exact Heap.lt_size he
      · rw [List.mem_singleton.mp z]
        obtain ⟨_, g, _⟩ := hit
        exact Heap.lt_size g
    refine wpAny_pyNext_enum_itemD D he ⟨hit, tp⟩ hi hne (by simp [hne, nb]) fun y h' tk hy ho st' hT hsz hk => ?_
    have ey : y = u := by
      have hy : its.toArray[i]? = some y := hy
      simp only [List.getElem?_toArray] at hy
      rw [hu] at hy
      exact (Option.some.inj hy).symm
    subst ey
    refine ⟨_, rfl, wpAny_letOwnedTupleGo_enum (s := { s with heap := h', toks := tk + 1 }) ho fun h2 he2 sb => ?_⟩
    have hT2 : h2.get? s.heap.objs.size = some { cls := .type "tuple", data := .seq #[.int i tk, y] } := (sb.2 _ (Nat.ne_of_gt (lt e (by simp)))).trans hT
    have new : ObjOk X.prog X.w (upd H s.heap.objs.size (.tup [.int (i : Nat), x])) h2 s.heap.objs.size (.tup [.int (i : Nat), x]) :=
      ⟨by show 2 ≤ sizeLine; decide, [.int i tk, y], .cons ⟨_, rfl⟩ (.cons ru .nil), ⟨_, hT2, rfl, _, rfl⟩⟩
    have I1 : Inv X pins σ (upd H s.heap.objs.size (.tup [.int (i : Nat), x])) { s with heap := h2, toks := tk + 1 } :=
      I.turnedNew (ch := [e, it]) (fun b ob hb q => (sb.2 b (fun z => hb (by simp [z]))).trans (hk b ob (fun z => hb (by simp [z])) (fun z => hb (by simp [z])) q)) hf (Nat.le_refl _) new
    refine ⟨.ref s.heap.objs.size, _, I1, rfl, ⟨_, x, rfl, I.hok.fresh (Nat.le_refl _), rfl, fun ys hy => by rw [I.tuple_inj hy hq]; exact hx⟩, ⟨⟨y, ?_⟩, st'.1.at fun o q => (sb.2 it (Ne.symm hne)).trans q, hne⟩, fun b hb => ?_⟩
    · have e1 : ((i + 1 : Nat) : Int) = (i : Int) + 1 := by omega
      rw [e1]
      exact he2
    · rw [upd_ne (Nat.ne_of_lt (lt b hb))]
      exact (hf b hb).1
  · intro X hP hw hK hc i pins s σ H E I hf st hg
    subst hP hw hK
    obtain ⟨⟨old, he⟩, hit, hne⟩ := st
    obtain ⟨xs, hq, hx⟩ := hg
    obtain ⟨its, rv, tp, hz⟩ := I.tuple hq
    obtain ⟨na, nb⟩ := away he hit tp
    obtain ⟨f0, f1, f2, f3, f4, f5⟩ := hf it (by simp)
    have hl := rv.length
    refine enum_stops (I.ok.hd hc) he hit tp (by simp; omega) fun h' eb => ⟨rfl, I.turned (t' := s.toks) (fun b o hb q => eb b o hb q) f0 f1 f3 f4 f5⟩
  · obtain ⟨⟨_, he⟩, _⟩ := st
    exact wpAny_pyIter_enum he q
end
end Mir

/-! Mir: what loops walk, by the own heap. -/
namespace Mir
open PySem L2

/-- a key as a value -/
def wKey : Key → W
  | .inl i => .int i
  | .inr x => .str x
def iterOf (fuel : Nat) (x : W) (h : PH) : Option PIt :=
  match x with
  | .tup xs => some (itS xs)
  | .fix xs => some (itS xs)
  | .str z => some (itS (z.cps.toList.map fun c => .str ⟨#[c]⟩))
  | .ref n => match h[n]? with
    | some (.lst _) => some (itL n fuel)
    | some (.lk kvs) => some (itS (kvs.map fun p => wKey p.1))
    | _ => none
  | _ => none
def mIter (fuel : Nat) (m : EM) : IM := fun ps h => (m ps h).bind fun x h1 => match iterOf fuel x h1 with
  | some it => .ok it h1
  | none => .stuck
def mIterS (l : LM) : IM := fun ps h => (l ps h).bind fun xs h1 => .ok (itS xs) h1
def iterE (fuel : Nat) (x : W) (h : PH) : Option PIt :=
  match x with
  | .tup xs => some (itE (itS xs))
  | .fix xs => some (itE (itS xs))
  | .ref n => match h[n]? with
    | some (.lst _) => some (itE (itL n fuel))
    | _ => none
  | _ => none
def mEnum (fuel : Nat) (m : EM) : IM := fun ps h => (m ps h).bind fun x h1 => match iterE fuel x h1 with
  | some it => .ok it h1
  | none => .stuck
def mEnumS (l : LM) : IM := fun ps h => (l ps h).bind fun xs h1 => .ok (itE (itS xs)) h1
def itZ (a b : PIt) : PIt := ⟨fun i h => match a.get i h, b.get i h with
  | some (some x), some (some y) => some (some (.tup [x, y]))
  | some none, some _ => some none
  | some (some _), some none => some none
  | _, _ => none, a.fuel⟩
def iterZ (fuel : Nat) (x y : W) (h : PH) : Option PIt :=
  match x, y with
  | .tup xs, .tup ys => some (itZ (itS xs) (itS ys))
  | .tup _, _ => none
  | _, .tup _ => none
  | .str _, _ => none
  | _, .str _ => none
  | x, y => match iterOf fuel x h, iterOf fuel y h with
    | some a, some b => some (itZ a b)
    | _, _ => none
def mZip (fuel : Nat) (m n : EM) : IM := fun ps h => (m ps h).bind fun x h1 => (n ps h1).bind fun y h2 => match iterZ fuel x y h2 with
  | some it => .ok it h2
  | none => .stuck
def rangeW (lo : Int) (n : Nat) : List W := (List.range n).map fun i => .int (lo + (i : Nat))
def mRange1 (m : EM) : IM := fun ps h => (m ps h).bind fun x h1 => match x with
  | .int j => if -(2 ^ 62) ≤ j ∧ j < 2 ^ 62 then .ok (itS (rangeW 0 j.toNat)) h1 else .stuck
  | _ => .stuck
def mRange2 (m n : EM) : IM := fun ps h => (m ps h).bind fun x h1 => (n ps h1).bind fun y h2 => match x, y with
  | .int i, .int j => if -(2 ^ 62) ≤ i ∧ i < 2 ^ 62 ∧ -(2 ^ 62) ≤ j ∧ j < 2 ^ 62 then .ok (itS (rangeW i (j - i).toNat)) h2 else .stuck
  | _, _ => .stuck

theorem PI.or {X : Cx} {tg e : Expr} {t t' : TI} (h : PI X tg e t) (h' : PI X tg e t') : PI X tg e (fun σ H R => t σ H R ∨ t' σ H R) := ⟨fun pins s σ H R I q => by
  rcases q with q | q
  · exact h.run pins s σ H R I q
  · exact h'.run pins s σ H R I q⟩
theorem PE.or {X : Cx} {e : Expr} {t t' : TE} (h : PE X e t) (h' : PE X e t') : PE X e (fun σ H R => t σ H R ∨ t' σ H R) := ⟨fun pins s σ H R I q => by
  rcases q with q | q
  · exact h.run pins s σ H R I q
  · exact h'.run pins s σ H R I q⟩

section
variable {K : PySem.W.Frag} {X : Cx} {W0 : WX} {e e2 tg iter c : Expr} {m m2 : EM} {l : LM} {pos p : Pos}
/-- later, what a tree is stands -/
theorem seqT_later {f f2 : List Addr} {h h2 : PH} {H H2 : Hp} (s : Sim K f h H) (s2 : Step K f H f2 h2 H2) {a : Addr} {vs : List V} (q : SqT K H a vs) : SqT K H2 a vs := (s.stay s2.grow).t a vs q
theorem it_tup {f : List Addr} {h : PH} {H H0 : Hp} {a : Addr} {vs : List V} {xs : List W} (s : Sim K f h H) (q : SqT K H a vs) (r : Reps K f H xs vs) : RIt K H0 f H (itS xs) (Itt K a) := by
  intro f2 h2 H2 i s2
  have q2 := seqT_later s s2 q
  have r2 := s2.reps s r
  show match (some xs[i]? : Option (Option W)) with
    | none => True
    | some none => (Itt K a).stop i H2
    | some (some w) => (Itt K a).go i H2 ∧ ∀ x H', (Itt K a).yld i H2 x H' → Step K f2 H2 f2 h2 H' ∧ Rep K f2 H' w x
  cases e : xs[i]? with
  | none => exact ⟨vs, q2, by rw [← r2.length]; exact List.getElem?_eq_none_iff.mp e⟩
  | some w =>
    obtain ⟨v, h3, h4⟩ := r2.get e
    refine ⟨⟨vs, v, q2, h3⟩, fun x H' y => ?_⟩
    obtain ⟨rfl, y2⟩ := y
    have e2 := y2 vs q2
    rw [h3] at e2
    cases e2
    exact ⟨.refl s2.sim, h4⟩
/-- a list that stays -/
theorem it_lst {f : List Addr} {h : PH} {H H0 : Hp} {a : Addr} {vs : List V} {xs : List W} (s : Sim K f h H) (q : ∀ f2 h2 H2, Step K f H f2 h2 H2 → SqL K H2 a vs) (r : Reps K f H xs vs) : RIt K H0 f H (itS xs) (Itl K a) := by
  intro f2 h2 H2 i s2
  have q2 := q f2 h2 H2 s2
  have r2 := s2.reps s r
  show match (some xs[i]? : Option (Option W)) with
    | none => True
    | some none => (Itl K a).stop i H2
    | some (some w) => (Itl K a).go i H2 ∧ ∀ x H', (Itl K a).yld i H2 x H' → Step K f2 H2 f2 h2 H' ∧ Rep K f2 H' w x
  cases e : xs[i]? with
  | none => exact ⟨vs, q2, by rw [← r2.length]; exact List.getElem?_eq_none_iff.mp e⟩
  | some w =>
    obtain ⟨v, h3, h4⟩ := r2.get e
    refine ⟨⟨vs, v, q2, h3⟩, fun x H' y => ?_⟩
    obtain ⟨rfl, y2⟩ := y
    have e2 := y2 vs q2
    rw [h3] at e2
    cases e2
    exact ⟨.refl s2.sim, h4⟩
theorem fix_later {f : List Addr} {h : PH} {H : Hp} {a : Addr} {vs : List V} (s : Sim K f h H) (q : FixL K H a vs) : ∀ f2 h2 H2, Step K f H f2 h2 H2 → SqL K H2 a vs := fun f2 h2 H2 s2 => ((s.stay s2.grow).l a vs q).seq
theorem own_later {f : List Addr} {H : Hp} {a : Addr} {vs : List V} (na : a ∉ f) (q : H a = some (.lst vs)) : ∀ f2 h2 H2, Step K f H f2 h2 H2 → SqL K H2 a vs := fun f2 h2 H2 s2 => SqL.of (s2.grow a _ q na)
/-- a list that may change -/
theorem it_live {f : List Addr} {H H0 : Hp} {a : Addr} {n fuel : Nat} (hf : f[n]? = some a) : RIt K H0 f H (itL n fuel) (Itl K a) := by
  intro f2 h2 H2 i s2
  have hf2 := s2.ext.get hf
  show match (match h2[n]? with
      | some (.lst xs) => some xs[i]?
      | _ => none : Option (Option W)) with
    | none => True
    | some none => (Itl K a).stop i H2
    | some (some w) => (Itl K a).go i H2 ∧ ∀ x H', (Itl K a).yld i H2 x H' → Step K f2 H2 f2 h2 H' ∧ Rep K f2 H' w x
  cases e1 : h2[n]? with
  | none => trivial
  | some o =>
    cases o with
    | lst xs =>
      obtain ⟨b, hb, vs, h1, r⟩ := s2.sim.obj n _ e1
      rw [hf2] at hb
      cases hb
      dsimp only
      cases e : xs[i]? with
      | none => exact ⟨vs, SqL.of h1, by rw [← r.length]; exact List.getElem?_eq_none_iff.mp e⟩
      | some w =>
        obtain ⟨v, h3, h4⟩ := r.get e
        refine ⟨⟨vs, v, SqL.of h1, h3⟩, fun x H' y => ?_⟩
        obtain ⟨rfl, y2⟩ := y
        have e2 := y2 vs (SqL.of h1)
        rw [h3] at e2
        cases e2
        exact ⟨.refl s2.sim, h4⟩
    | dK _ => trivial
    | ins _ _ => trivial
    | lk _ => trivial
theorem it_str {f : List Addr} {h : PH} {H H0 : Hp} {z : Str} (s : Sim K f h H) : RIt K H0 f H (itS (z.cps.toList.map fun c => .str ⟨#[c]⟩)) (Its z) := by
  intro f2 h2 H2 i s2
  show match (some (z.cps.toList.map fun c => W.str ⟨#[c]⟩)[i]? : Option (Option W)) with
    | none => True
    | some none => (Its z).stop i H2
    | some (some w) => (Its z).go i H2 ∧ ∀ x H', (Its z).yld i H2 x H' → Step K f2 H2 f2 h2 H' ∧ Rep K f2 H' w x
  rw [List.getElem?_map]
  cases e : z.cps.toList[i]? with
  | none =>
    have q := List.getElem?_eq_none_iff.mp e
    exact (by simpa using q : z.cps.size ≤ i)
  | some c =>
    have hi : i < z.cps.size := by
      have := (List.getElem?_eq_some_iff.mp e).1
      simpa using this
    refine ⟨hi, fun x H' y => ?_⟩
    obtain ⟨rfl, d, hd, rfl⟩ := y
    have e3 : z.cps[i]? = some c := by rw [← Array.getElem?_toList]; exact e
    rw [e3] at hd
    cases hd
    exact ⟨.refl s2.sim, rep_str.mpr rfl⟩
theorem rep_key {f : List Addr} {H : Hp} {k : Key} : Rep K f H (wKey k) (kV k) := by
  cases k <;> simp only [wKey, kV, Rep]
theorem KRep.getK {f : List Addr} {H : Hp} : ∀ {ws : List (Key × W)} {vs : List (Key × V)} {i : Nat} {k : Key} {w : W}, KRep K f H ws vs → ws[i]? = some (k, w) → ∃ v, vs[i]? = some (k, v) ∧ Rep K f H w v
  | [], vs, i, k, w, r, e => by simp at e
  | (k0, w0) :: t, vs, i, k, w, r, e => by
    obtain ⟨v, s, rfl, r1, r2⟩ := r
    cases i with
    | zero =>
      simp only [List.getElem?_cons_zero, Option.some.injEq, Prod.mk.injEq] at e
      obtain ⟨rfl, rfl⟩ := e
      exact ⟨v, rfl, r1⟩
    | succ i => exact KRep.getK (i := i) r2 (by simpa using e)
theorem it_keys {f : List Addr} {h : PH} {H H0 : Hp} {d : Addr} {o : Obj} {us : List (Key × V)} {kvs : List (Key × W)} (s : Sim K f h H) (hd : H d = some (.frz o (.dK us))) (r : KRep K f H kvs us) : RIt K H0 f H (itS (kvs.map fun p => wKey p.1)) (Itk d o us) := by
  intro f2 h2 H2 i s2
  have q2 := s2.lk _ _ _ hd
  show match (some (kvs.map fun p => wKey p.1)[i]? : Option (Option W)) with
    | none => True
    | some none => (Itk d o us).stop i H2
    | some (some w) => (Itk d o us).go i H2 ∧ ∀ x H', (Itk d o us).yld i H2 x H' → Step K f2 H2 f2 h2 H' ∧ Rep K f2 H' w x
  rw [List.getElem?_map]
  cases e : kvs[i]? with
  | none => exact ⟨q2, by rw [← r.length]; exact List.getElem?_eq_none_iff.mp e⟩
  | some w =>
    obtain ⟨k, w⟩ := w
    refine ⟨⟨q2, by rw [← r.length]; exact (List.getElem?_eq_some_iff.mp e).1⟩, fun x H' y => ?_⟩
    obtain ⟨rfl, k', v', e', rfl⟩ := y
    obtain ⟨v, ev, _⟩ := r.getK e
    rw [ev] at e'
    cases e'
    exact ⟨.refl s2.sim, rep_key⟩
/-- for x in e: a tuple, a list, a text, a dict that is locked -/
theorem si_iter (fuel : Nat) (ha : SE X W0 e m) : SI X W0 tg e (mIter fuel m) := pi_imp (PI.or (pi_tup ha) (PI.or (pi_list ha) (PI.or (pi_str ha) (pi_keys ha)))) fun σ H R h => by
  obtain ⟨f, h, ps, s, sr, p⟩ := h
  have p : Post X.K (RIt X.K) f H ((m ps h).bind _) R _ := p
  cases e1 : m ps h with
  | stuck => rw [e1] at p; exact p.elim
  | exc x h1 => rw [e1] at p; exact .inl ⟨f, h, ps, s, sr, by rw [e1]; exact p⟩
  | ok x h1 =>
    rw [e1] at p
    have p : Post X.K (RIt X.K) f H (match iterOf fuel x h1 with
      | some it => .ok it h1
      | none => .stuck) R _ := p
    cases x with
    | tup xs =>
      refine .inl ⟨f, h, ps, s, sr, ?_⟩
      rw [e1]
      intro f1 H1 v s1 q1
      obtain ⟨a, vs, rfl, h2, h3⟩ := rep_tup.mp q1
      exact ⟨a, rfl, ⟨vs, h2⟩, p f1 H1 _ s1 (it_tup s1.sim h2 h3)⟩
    | fix xs =>
      refine .inr (.inl ⟨f, h, ps, s, sr, ?_⟩)
      rw [e1]
      intro f1 H1 v s1 q1
      obtain ⟨a, vs, rfl, h2, h3⟩ := rep_fix.mp q1
      exact ⟨a, rfl, ⟨vs, h2.seq⟩, p f1 H1 _ s1 (it_lst s1.sim (fix_later s1.sim h2) h3)⟩
    | str z =>
      refine .inr (.inr (.inl ⟨f, h, ps, s, sr, ?_⟩))
      rw [e1]
      intro f1 H1 v s1 q1
      exact ⟨z, rep_str.mp q1, p f1 H1 _ s1 (it_str s1.sim)⟩
    | ref n =>
      have p : Post X.K (RIt X.K) f H (match (match h1[n]? with
        | some (.lst _) => some (itL n fuel)
        | some (.lk kvs) => some (itS (kvs.map fun p => wKey p.1))
        | _ => none : Option PIt) with
        | some it => .ok it h1
        | none => .stuck) R _ := p
      cases e2 : h1[n]? with
      | none => rw [e2] at p; exact p.elim
      | some o =>
        rw [e2] at p
        cases o with
        | lst xs =>
          refine .inr (.inl ⟨f, h, ps, s, sr, ?_⟩)
          rw [e1]
          intro f1 H1 v s1 q1
          obtain ⟨a, rfl, hf, vs, h2, h3⟩ := s1.sim.at e2 q1
          exact ⟨a, rfl, ⟨vs, SqL.of h2⟩, p f1 H1 _ s1 (it_live hf)⟩
        | dK _ => exact p.elim
        | ins _ _ => exact p.elim
        | lk kvs =>
          refine .inr (.inr (.inr ⟨f, h, ps, s, sr, ?_⟩))
          rw [e1]
          intro f1 H1 v s1 q1
          obtain ⟨a, rfl, hf, o, vs, h2, h3⟩ := s1.sim.at e2 q1
          exact ⟨a, o, rfl, .inl ⟨vs, h2, p f1 H1 _ s1 (it_keys s1.sim h2 h3)⟩⟩
    | non => exact p.elim
    | exc _ => exact p.elim
    | bl _ => exact p.elim
    | int _ => exact p.elim
theorem si_fresh (ha : SL X W0 e l) : SI X W0 tg e (mIterS l) := pi_imp (pi_list ha) fun σ H R h => by
  obtain ⟨f, h, ps, s, sr, p⟩ := h
  refine ⟨f, h, ps, s, sr, ?_⟩
  have p : Post X.K (RIt X.K) f H ((l ps h).bind _) R _ := p
  cases e1 : l ps h with
  | stuck => rw [e1] at p; exact p.elim
  | exc x h1 => rw [e1] at p; exact p
  | ok xs h1 =>
    rw [e1] at p
    intro f1 H1 v s1 q1
    obtain ⟨q, vs, rfl, hq, nq, eq, rq⟩ := q1
    exact ⟨q, rfl, ⟨vs, SqL.of eq⟩, p f1 H1 _ s1 (it_lst s1.sim (own_later nq eq) rq)⟩

/-! ### range -/
theorem it_rng {f : List Addr} {h : PH} {H H0 : Hp} {lo : Int} {n : Nat} (s : Sim K f h H) : RIt K H0 f H (itS (rangeW lo n)) (Itr lo n) := by
  intro f2 h2 H2 i s2
  show match (some (rangeW lo n)[i]? : Option (Option W)) with
    | none => True
    | some none => (Itr lo n).stop i H2
    | some (some w) => (Itr lo n).go i H2 ∧ ∀ x H', (Itr lo n).yld i H2 x H' → Step K f2 H2 f2 h2 H' ∧ Rep K f2 H' w x
  unfold rangeW
  rw [List.getElem?_map]
  by_cases hi : i < n
  · rw [List.getElem?_range hi]
    refine ⟨hi, fun x H' y => ?_⟩
    obtain ⟨rfl, rfl⟩ := y
    exact ⟨.refl s2.sim, rep_int.mpr rfl⟩
  · rw [List.getElem?_eq_none (by rw [List.length_range]; omega)]
    exact Nat.le_of_not_lt hi
theorem si_range1 (hm : X.mg "range" = none) (ha : SE X W0 e m) (hg : Gl X "range" := by rfl) (hs : starEach [e] X.env = [(false, eval e X.env)] := by rfl) : SI X W0 tg (.Call (.Name "range" p) [e] [] pos) (mRange1 m) :=
  pi_imp (pi_range1 hg hm (pa_cons ha pa_nil hs) hs) fun σ H R h => by
    obtain ⟨f, h, ps, s, sr, p⟩ := h
    refine ⟨f, h, ps, s, sr, (Post.bind (R1 := RW X.K) s back_It p).mono (fun v H1 hh => ?_) fun _ _ _ e => e⟩
    obtain ⟨f1, h1, x, s1, q1, p1⟩ := hh
    cases x with
    | int j =>
      dsimp only at p1
      split at p1
      · rename_i c
        exact ⟨j, by rw [rep_int.mp q1], c.1, c.2, p1 f1 H1 _ (.refl s1.sim) (it_rng s1.sim)⟩
      · exact p1.elim
    | _ => exact p1.elim
theorem si_range2 (hm : X.mg "range" = none) (ha : SE X W0 e m) (hb : SE X W0 e2 m2) (hg : Gl X "range" := by rfl) (hs : starEach [e, e2] X.env = [(false, eval e X.env), (false, eval e2 X.env)] := by rfl) (hs2 : starEach [e2] X.env = [(false, eval e2 X.env)] := by rfl) :
    SI X W0 tg (.Call (.Name "range" p) [e, e2] [] pos) (mRange2 m m2) :=
  pi_imp (pi_range2 hg hm (pa_cons ha (pa_cons hb pa_nil hs2) (by rw [hs, hs2])) hs hs2) fun σ H R h => by
    obtain ⟨f, h, ps, s, sr, p⟩ := h
    refine ⟨f, h, ps, s, sr, (Post.bind (R1 := RW X.K) s back_It p).mono (fun v H1 hh => ?_) fun _ _ _ e => e⟩
    obtain ⟨f1, h1, x, s1, q1, p1⟩ := hh
    refine ⟨f1, h1, ps, s1.sim, s1.srep s sr, (Post.bind (R1 := RW X.K) s1.sim back_It p1).mono (fun u H2 hh => ?_) fun _ _ _ e => e⟩
    obtain ⟨f2, h2, y, s2, q2, p2⟩ := hh
    cases x with
    | int i =>
      cases y with
      | int j =>
        dsimp only at p2
        split at p2
        · rename_i c
          have e1 := rep_int.mp (s2.rep s1.sim q1)
          exact ⟨i, j, by rw [e1, rep_int.mp q2], ⟨c.1, c.2.1, c.2.2.1, c.2.2.2⟩, p2 f2 H2 _ (.refl s2.sim) (it_rng s2.sim)⟩
        · exact p2.elim
      | _ => exact p2.elim
    | _ => cases y <;> exact p2.elim

/-! ### enumerate -/
theorem itE_of {f : List Addr} {h : PH} {H H0 : Hp} {it : PIt} {J J' : It} (r : RIt K H0 f H it J) (hstop : ∀ i H, J.stop i H → J'.stop i H) (hgo : ∀ i H, J.go i H → J'.go i H)
    (hy : ∀ i H v H', J'.yld i H v H' → ∃ T x, v = .ref T ∧ H T = none ∧ H' = upd H T (.tup [.int (i : Nat), x]) ∧ J.yld i H x H) : RIt K H0 f H (itE it) J' := by
  intro f2 h2 H2 i s2
  have q := r f2 h2 H2 i s2
  show match ((it.get i h2).map fun o => o.map fun w => W.tup [.int (i : Nat), w] : Option (Option W)) with
    | none => True
    | some none => J'.stop i H2
    | some (some w) => J'.go i H2 ∧ ∀ x H', J'.yld i H2 x H' → Step K f2 H2 f2 h2 H' ∧ Rep K f2 H' w x
  cases e : it.get i h2 with
  | none => trivial
  | some o =>
    rw [e] at q
    cases o with
    | none => exact hstop _ _ q
    | some w =>
      refine ⟨hgo _ _ q.1, fun v H' y => ?_⟩
      obtain ⟨T, x, rfl, hT, rfl, y2⟩ := hy i H2 v H' y
      obtain ⟨_, rx⟩ := q.2 x H2 y2
      have st := s2.sim.other (o := .tup [.int (i : Nat), x]) hT
      refine ⟨st, rep_tup.mpr ⟨T, _, rfl, SqT.of upd_same, ?_⟩⟩
      exact .cons (rep_int.mpr rfl) (.one (st.rep s2.sim rx))
theorem itE_l {f : List Addr} {h : PH} {H H0 : Hp} {it : PIt} {a : Addr} (r : RIt K H0 f H it (Itl K a)) : RIt K H0 f H (itE it) (Ite K a) :=
  itE_of (h := h) r (fun _ _ q => q) (fun _ _ q => q) fun i H v H' ⟨T, x, h1, h2, h3, h4⟩ => ⟨T, x, h1, h2, h3, rfl, h4⟩
theorem itE_t {f : List Addr} {h : PH} {H H0 : Hp} {it : PIt} {a : Addr} (r : RIt K H0 f H it (Itt K a)) : RIt K H0 f H (itE it) (IteT K a) :=
  itE_of (h := h) r (fun _ _ q => q) (fun _ _ q => q) fun i H v H' ⟨T, x, h1, h2, h3, h4⟩ => ⟨T, x, h1, h2, h3, rfl, h4⟩
def iEnumT (K : PySem.W.Frag) (ta : TA) : TI := fun σ H R => ta σ H fun vs H1 => ∃ a xs, vs = [.ref a] ∧ SqT K H1 a xs ∧ R (IteT K a) H1
theorem pi_enumT {ta : TA} {tpos : Pos} {elts : List Expr} {kk : Nat} (hg : Gl X "enumerate") (hm : X.mg "enumerate" = none) (ha : PA X [e] ta) (hs : starEach [e] X.env = [(false, eval e X.env)] := by rfl) :
    PI X (.Tuple elts kk tpos) (.Call (.Name "enumerate" p) [e] [] pos) (iEnumT X.K ta) := by
  refine ⟨fun pins s σ H R I h => ?_⟩
  refine PyProof.Rows.Call_ (ld_blt I hg hm PyProof.Rows.boot_enumerate (PyProof.Rows.callWith_type1 (thn (ha.run pos pins s σ H _ I h) fun us s1 ⟨vs, H1, I1, r1, q1⟩ => ?_) hs rfl))
  obtain ⟨a, xs, ex, hq, q⟩ := q1
  subst ex
  obtain ⟨u, rfl, ru⟩ := vals1 r1
  cases ru
  obtain ⟨its, rv, tp, hz⟩ := I1.tuple hq
  refine enum_made (begins_tuple a its.toArray) tp fun h' he hit hk => PySem.wpAny_pyIter_enum he ?_
  have I2 : Inv X pins σ H1 { s1 with heap := h' } := I1.kept (t' := s1.toks) hk
  refine ⟨s1.heap.objs.size + 1, [s1.heap.objs.size + 1, s1.heap.objs.size], _, _, H1, rfl, I2, turn_enumT a (s1.heap.objs.size + 1) s1.heap.objs.size, ⟨⟨.none, he⟩, ⟨_, hit, rfl, rfl⟩, Nat.succ_ne_self _⟩, fun b hb => ?_, q⟩
  have hle : s1.heap.objs.size ≤ b := by
    rcases List.mem_cons.mp hb with z | z
    · rw [z]; exact Nat.le_succ _
    · rw [List.mem_singleton.mp z]; exact Nat.le_refl _
  have old := I1.fpOk hle (I1.hok.fresh hle)
  exact old
theorem si_enum (fuel : Nat) {tpos : Pos} {elts : List Expr} {kk : Nat} (hm : X.mg "enumerate" = none) (ha : SE X W0 e m) (hg : Gl X "enumerate" := by rfl) (hs : starEach [e] X.env = [(false, eval e X.env)] := by rfl) :
    SI X W0 (.Tuple elts kk tpos) (.Call (.Name "enumerate" p) [e] [] pos) (mEnum fuel m) := pi_imp (PI.or (pi_enumT hg hm (pa_cons ha pa_nil hs) hs) (pi_enum hg hm (pa_cons ha pa_nil hs) hs)) fun σ H R h => by
  obtain ⟨f, h, ps, s, sr, p⟩ := h
  have p : Post X.K (RIt X.K) f H ((m ps h).bind _) R _ := p
  cases e1 : m ps h with
  | stuck => rw [e1] at p; exact p.elim
  | exc x h1 => rw [e1] at p; exact .inl ⟨f, h, ps, s, sr, by rw [e1]; exact p⟩
  | ok x h1 =>
    rw [e1] at p
    have p : Post X.K (RIt X.K) f H (match iterE fuel x h1 with
      | some it => .ok it h1
      | none => .stuck) R _ := p
    cases x with
    | tup xs =>
      refine .inl ⟨f, h, ps, s, sr, ?_⟩
      rw [e1]
      intro f1 H1 v s1 q1
      obtain ⟨a, vs, rfl, h2, h3⟩ := rep_tup.mp q1
      exact ⟨a, vs, rfl, h2, p f1 H1 _ s1 (itE_t (h := h1) (it_tup s1.sim h2 h3))⟩
    | fix xs =>
      refine .inr ⟨f, h, ps, s, sr, ?_⟩
      rw [e1]
      intro f1 H1 v s1 q1
      obtain ⟨a, vs, rfl, h2, h3⟩ := rep_fix.mp q1
      exact ⟨a, vs, rfl, h2.seq, p f1 H1 _ s1 (itE_l (h := h1) (it_lst s1.sim (fix_later s1.sim h2) h3))⟩
    | ref n =>
      refine .inr ⟨f, h, ps, s, sr, ?_⟩
      rw [e1]
      intro f1 H1 v s1 q1
      have p : Post X.K (RIt X.K) f H (match (match h1[n]? with
        | some (.lst _) => some (itE (itL n fuel))
        | _ => none : Option PIt) with
        | some it => .ok it h1
        | none => .stuck) R _ := p
      cases e2 : h1[n]? with
      | none => rw [e2] at p; exact p.elim
      | some o =>
        rw [e2] at p
        cases o with
        | lst xs =>
          obtain ⟨a, rfl, hf, vs, h2, h3⟩ := s1.sim.at e2 q1
          exact ⟨a, vs, rfl, SqL.of h2, p f1 H1 _ s1 (itE_l (h := h1) (it_live hf))⟩
        | dK _ => exact p.elim
        | ins _ _ => exact p.elim
        | lk _ => exact p.elim
    | non => exact p.elim
    | exc _ => exact p.elim
    | bl _ => exact p.elim
    | int _ => exact p.elim
    | str _ => exact p.elim
theorem si_enumS {tpos : Pos} {elts : List Expr} {kk : Nat} (hm : X.mg "enumerate" = none) (ha : SL X W0 e l) (hg : Gl X "enumerate" := by rfl) (hs : starEach [e] X.env = [(false, eval e X.env)] := by rfl) :
    SI X W0 (.Tuple elts kk tpos) (.Call (.Name "enumerate" p) [e] [] pos) (mEnumS l) := pi_imp (pi_enum hg hm (pa_cons ha pa_nil hs) hs) fun σ H R h => by
  obtain ⟨f, h, ps, s, sr, p⟩ := h
  refine ⟨f, h, ps, s, sr, ?_⟩
  have p : Post X.K (RIt X.K) f H ((l ps h).bind _) R _ := p
  cases e1 : l ps h with
  | stuck => rw [e1] at p; exact p.elim
  | exc x h1 => rw [e1] at p; exact p
  | ok xs h1 =>
    rw [e1] at p
    intro f1 H1 v s1 q1
    obtain ⟨q, vs, rfl, hq, nq, eq, rq⟩ := q1
    exact ⟨q, vs, rfl, SqL.of eq, p f1 H1 _ s1 (itE_l (h := h1) (it_lst s1.sim (own_later nq eq) rq))⟩
end
end Mir

/-! Mir: list comprehensions. -/
namespace Mir
open PySem L2

def wipeW (ps : LS) : List Nat → LS
  | [] => ps
  | v :: vs => (wipeW ps vs).set v none
theorem SRep.wipe {K : PySem.W.Frag} {f : List Addr} {H : Hp} {ps : LS} {σ : L2.St} (r : SRep K f H ps σ) : ∀ vs : List Nat, SRep K f H (wipeW ps vs) (L2.wipe σ vs)
  | [] => r
  | v :: vs => (SRep.wipe r vs).unset v
theorem wipe_get (σ : L2.St) (i : Nat) : ∀ vs : List Nat, (L2.wipe σ vs)[i]? = if i ∈ vs then (if i < σ.length then some none else none) else σ[i]?
  | [] => by simp [L2.wipe]
  | v :: vs => by
    unfold L2.wipe
    by_cases h : v = i
    · subst h
      by_cases hl : v < σ.length
      · rw [List.getElem?_set_self (by rw [wipe_length]; exact hl)]; simp [hl]
      · rw [List.getElem?_eq_none (by rw [List.length_set, wipe_length]; omega)]; simp [hl]
    · rw [List.getElem?_set_ne h, wipe_get σ i vs]
      have : (i ∈ v :: vs) = (i ∈ vs) := by simp [Ne.symm h]
      simp only [this]
theorem But.wipe {ts vs : List Nat} {σ σ' : L2.St} (b : But ts (L2.wipe σ vs) σ') (hs : ∀ i ∈ ts, i ∈ vs) : L2.wipe σ' vs = L2.wipe σ vs := by
  have hl : σ'.length = σ.length := by rw [b.1, wipe_length]
  refine List.ext_getElem? fun i => ?_
  rw [wipe_get, wipe_get, hl]
  by_cases h : i ∈ vs
  · rw [if_pos h, if_pos h]
  · rw [if_neg h, if_neg h, b.2 i fun z => h (hs i z), wipe_get, if_neg h]

/-- one's own list is written -/
theorem stay_lst {K : PySem.W.Frag} {H : Hp} {D : Addr} {vs us : List V} (e : H D = some (.lst vs)) : Stay K H (upd H D (.lst us)) := by
  have key : ∀ a u, H a = some u → (∀ xs, u ≠ .lst xs) → upd H D (.lst us) a = some u := fun a u e2 n => by
    rw [upd_ne (fun z => by subst z; rw [e] at e2; cases e2; exact n _ rfl)]
    exact e2
  refine ⟨fun a xs r => ?_, fun a xs r => ?_, fun a φ r => key _ _ r (fun _ z => by cases z), fun a gs r => key _ _ r (fun _ z => by cases z)⟩
  · rcases r with (r | ⟨o, r⟩) | r
    · exact .inl (.inl (key _ _ r (fun _ z => by cases z)))
    · exact .inl (.inr ⟨o, key _ _ r (fun _ z => by cases z)⟩)
    · exact .inr r
  · rcases r with ⟨o, r⟩ | r
    · exact .inl ⟨o, key _ _ r (fun _ z => by cases z)⟩
    · exact .inr r
theorem Sim.own_set {K : PySem.W.Frag} {f : List Addr} {h : PH} {H : Hp} (s : Sim K f h H) {D : Addr} {vs us : List V} (nd : D ∉ f) (e : H D = some (.lst vs)) : Sim K f h (upd H D (.lst us)) :=
  ⟨s.len, s.nd, fun n o q => by
    obtain ⟨a, h1, h2⟩ := s.obj n o q
    exact ⟨a, h1, h2.mono (.refl f) (stay_lst e) (upd_ne fun z => nd (z ▸ List.mem_of_getElem? h1))⟩⟩

def lcGo (it : PIt) (g : GM) (tt : BM) (te : EM) (psw : LS) : Nat → Nat → List W → PH → Res (List W)
  | 0, _, _, _ => .stuck
  | k + 1, i, acc, h => match it.get i h with
    | none => .stuck
    | some none => .ok acc h
    | some (some w) => match g w psw with
      | none => .stuck
      | some ps1 => match tt ps1 h with
        | .ok true h2 => (match te ps1 h2 with
          | .ok x h3 => if acc.length < 16777216 then lcGo it g tt te psw k (i + 1) (acc ++ [x]) h3 else .stuck
          | _ => .stuck)
        | .ok false h2 => lcGo it g tt te psw k (i + 1) acc h2
        | _ => .stuck
def mLc (mi : IM) (g : GM) (tt : BM) (te : EM) (vs : List Nat) : LM := fun ps h => (mi ps h).bind fun it h1 => lcGo it g tt te (wipeW ps vs) it.fuel 0 [] h1
abbrev Wno : WX := fun _ _ _ _ => False
theorem tL_lc {K : PySem.W.Frag} {W0 : WX} {mi : IM} {g : GM} {tt : BM} {te : EM} {vs ts : List Nat} (hts : ∀ i ∈ ts, i ∈ vs) {σ : L2.St} {H : Hp} {Q : VK} (h : tL K W0 (mLc mi g tt te vs) σ H Q) :
    tLc (tG K (RIt K) W0 mi) (tTg K ts g) (tT K Wno tt) (tE K Wno te) vs σ H Q := by
  obtain ⟨f, h, ps, s, sr, p⟩ := h
  refine ⟨f, h, ps, s, sr, (Post.bind (R1 := RIt K) s back_L p).mono (fun J H1 hh => ?_) fun _ _ _ e => e⟩
  obtain ⟨f1, h1, it, s1, q1, p1⟩ := hh
  intro D hD
  have base := s1.sim.other (o := .lst []) hD
  refine ⟨fun i k H2 => ∃ f2 h2 acc us, Step K f1 H1 f2 h2 H2 ∧ D ∉ f2 ∧ H2 D = some (.lst us) ∧ Reps K f2 H2 acc us ∧ Post K (RL K) f1 H1 (lcGo it g tt te (wipeW ps vs) k i acc h2) Q (fun c d H' => W0 c d σ H'),
    ⟨it.fuel, f1, h1, [], [], base, s1.sim.fresh hD, upd_same, .nil, p1⟩, ?_⟩
  rintro i k H2 ⟨f2, h2, acc, us, s2, nD, eD, rA, p2⟩
  cases k with
  | zero => exact p2.elim
  | succ k =>
    unfold lcGo at p2
    have q := q1 f2 h2 H2 i s2
    cases e : it.get i h2 with
    | none => rw [e] at p2; exact p2.elim
    | some o =>
      rw [e] at p2 q
      cases o with
      | none => exact .inl ⟨q, p2 f2 H2 _ s2 ⟨D, us, rfl, hD, nD, eD, rA⟩⟩
      | some w =>
        dsimp only at p2 q
        refine .inr ⟨q.1, fun H3 => ∃ f3 h3 acc us, Step K f1 H1 f3 h3 H3 ∧ D ∉ f3 ∧ H3 D = some (.lst us) ∧ Reps K f3 H3 acc us ∧ Post K (RL K) f1 H1 (lcGo it g tt te (wipeW ps vs) k (i + 1) acc h3) Q (fun c d H' => W0 c d σ H'),
          fun H3 hh => ⟨k, Nat.lt_succ_self k, hh⟩, fun x H3 y => ?_⟩
        obtain ⟨s3, r3⟩ := q.2 x H3 y
        have sr3 : SRep K f2 H3 (wipeW ps vs) (L2.wipe σ vs) := (s3.srep s2.sim (s2.srep s1.sim (s1.srep s sr))).wipe vs
        cases eg : g w (wipeW ps vs) with
        | none => simp only [eg] at p2; exact p2.elim
        | some ps1 =>
          simp only [eg] at p2
          refine ⟨f2, h2, wipeW ps vs, w, ps1, s3.sim, sr3, r3, eg, fun σ4 sr4 b4 => ⟨b4.wipe hts, f2, h2, ps1, s3.sim, sr4, ?_⟩⟩
          have eD3 : H3 D = some (.lst us) := s3.grow D _ eD nD
          cases et : tt ps1 h2 with
          | stuck => simp only [et] at p2; exact p2.elim
          | exc x h3 => simp only [et] at p2; exact p2.elim
          | ok b h3 =>
            intro f4 H4 b' s4 qb
            cases qb
            have nD4 : D ∉ f4 := fun z => by
              have := s4.new D z nD
              rw [eD3] at this
              cases this
            have eD4 : H4 D = some (.lst us) := s4.grow D _ eD3 nD
            cases b with
            | false =>
              simp only [et] at p2
              rw [if_neg (by decide)]
              exact ⟨f4, h3, acc, us, s2.trans (s3.trans s4), nD4, eD4, s4.reps s3.sim (s3.reps s2.sim rA), p2⟩
            | true =>
              simp only [et] at p2
              rw [if_pos rfl]
              refine ⟨f4, h3, ps1, s4.sim, s4.srep s3.sim sr4, ?_⟩
              cases ee : te ps1 h3 with
              | stuck => simp only [ee] at p2; exact p2.elim
              | exc x h5 => simp only [ee] at p2; exact p2.elim
              | ok x h5 =>
                simp only [ee] at p2
                split at p2
                · rename_i hl
                  intro f5 H5 v5 s5 r5
                  have nD5 : D ∉ f5 := fun z => by
                    have := s5.new D z nD4
                    rw [eD4] at this
                    cases this
                  have eD5 : H5 D = some (.lst us) := s5.grow D _ eD4 nD4
                  have rA5 := s5.reps s4.sim (s4.reps s3.sim (s3.reps s2.sim rA))
                  refine ⟨us, eD5, by rw [← rA.length, sizeLine_eq]; exact hl, f5, h5, acc ++ [x], us ++ [v5], ?_, nD5, upd_same, Reps.mono (.refl f5) (stay_lst eD5) _ _ (rA5.append (.one r5)), p2⟩
                  have tot := s2.trans (s3.trans (s4.trans s5))
                  exact ⟨tot.ext, tot.new, fun a o ea na => by
                    rw [upd_ne (fun z => by subst z; rw [hD] at ea; cases ea)]
                    exact tot.grow a o ea na, fun a o vs ea => by
                    have := tot.lk a o vs ea
                    rw [upd_ne (fun z => by subst z; rw [eD5] at this; cases this)]
                    exact this, s5.sim.own_set nD5 eD5⟩
                · exact p2.elim
theorem tE_new {K : PySem.W.Frag} {W0 : WX} {l1 : LM} {σ : L2.St} {H : Hp} {Q : VK} (h : tE K W0 (mNew l1) σ H Q) : tL K W0 l1 σ H Q := by
  obtain ⟨f, h, ps, s, sr, p⟩ := h
  refine ⟨f, h, ps, s, sr, ?_⟩
  have p : Post K (RW K) f H ((l1 ps h).bind fun xs h1 => .ok (.ref h1.length) (h1 ++ [.lst xs])) Q _ := p
  cases e : l1 ps h with
  | stuck => rw [e] at p; exact p
  | exc x h' => rw [e] at p; exact p
  | ok xs h1 =>
    rw [e] at p
    intro f1 H1 v s1 q1
    obtain ⟨q, vs, rfl, hq, nq, eq, rq⟩ := q1
    refine p (f1 ++ [q]) H1 (.ref q) ⟨s1.ext.trans (.snoc f1 q), fun x hx hn => ?_, s1.grow, s1.lk, s1.sim.take_in nq ⟨vs, eq, rq⟩⟩ ?_
    · rcases List.mem_append.mp hx with m | m
      · exact s1.new x m hn
      · rw [List.mem_singleton] at m
        rw [m]
        exact hq
    · simp only [Rep]
      refine ⟨q, rfl, ?_⟩
      rw [List.getElem?_append_right (by rw [s1.sim.len]; omega), s1.sim.len]
      simp
/-- the tests of a clause -/
def mYes : BM := fun _ h => .ok true h
section
variable {X : Cx} {W0 : WX} {tg iter elt e : Expr} {m : IM} {g : GM} {tt : BM} {te : EM} {ts : List Nat} {pos : Pos} {ifs : List Expr} {scope : Scope}
abbrev STs (X : Cx) (W0 : WX) (ifs : List Expr) (m : BM) : Prop := PTs X ifs (tT X.K W0 m)
theorem sts_nil : STs X W0 [] mYes := by
  refine ⟨fun pins s σ H Q I h => ?_⟩
  obtain ⟨f, h, ps, s1, sr, p⟩ := h
  exact (pts_nil (X := X)).run pins s σ H Q I (p f H true (.refl s1) rfl)
theorem sl_lc (own : List (Str × Nat)) (hc : X.calm = true) (hN : X.N.Nodup) (hi : SI X W0 tg iter m) (hok : blkC X.N X.env.scope scope own = true)
    (hg : ∀ (s : Shared) (H : Hp) (C : Addr) (cl : List (Str × Addr)) (fp : List Addr), SG (X.blk s H scope (compEnvC scope cl C X.env) fp) tg ts g)
    (ht : ∀ (s : Shared) (H : Hp) (C : Addr) (cl : List (Str × Addr)) (fp : List Addr), STs (X.blk s H scope (compEnvC scope cl C X.env) fp) Wno ifs tt)
    (he : ∀ (s : Shared) (H : Hp) (C : Addr) (cl : List (Str × Addr)) (fp : List Addr), SE (X.blk s H scope (compEnvC scope cl C X.env) fp) Wno elt te)
    (hts : ∀ i ∈ ts, i ∈ own.map (·.2) := by decide) (hs : ∀ x, foldedSetIterable iter X.env x = pure x := by intro _; rfl) :
    SL X W0 (.ListComp elt [⟨tg, iter, ifs, 0⟩] scope pos) (mLc m g tt te (own.map (·.2))) :=
  pe_imp (pe_lc hc hN hi (blkOk_by hok) hg ht he hs) fun σ H Q h => tL_lc hts h
/-- name = [..] on one line -/
theorem ss_setLc (i : Nat) {y : Str} {py spos : Pos} (own : List (Str × Nat)) (hc : X.calm = true) (hN : X.N.Nodup) (hi : SI X W0 tg iter m) (hok : blkC X.N X.env.scope scope own = true)
    (hg : ∀ (s : Shared) (H : Hp) (C : Addr) (cl : List (Str × Addr)) (fp : List Addr), SG (X.blk s H scope (compEnvC scope cl C X.env) fp) tg ts g)
    (ht : ∀ (s : Shared) (H : Hp) (C : Addr) (cl : List (Str × Addr)) (fp : List Addr), STs (X.blk s H scope (compEnvC scope cl C X.env) fp) Wno ifs tt)
    (he : ∀ (s : Shared) (H : Hp) (C : Addr) (cl : List (Str × Addr)) (fp : List Addr), SE (X.blk s H scope (compEnvC scope cl C X.env) fp) Wno elt te)
    (hy : X.N[i]? = some y := by rfl) (hyl : X.env.scope.names.lookup y = some .local := by rfl)
    (hsw : swapsWith (.ListComp elt [⟨tg, iter, ifs, 0⟩] scope pos) (some (.Name y py)) spos.line X.env = pure true := by exact sw_true rfl rfl rfl (by decide +kernel))
    (hts : ∀ i ∈ ts, i ∈ own.map (·.2) := by decide) (hs : ∀ x, foldedSetIterable iter X.env x = pure x := by intro _; rfl) :
    SS X W0 (.Assign [.Name y py] (.ListComp elt [⟨tg, iter, ifs, 0⟩] scope pos) spos) (sAsg (mNew (mLc m g tt te (own.map (·.2)))) (gN i)) :=
  ps_imp (ps_setLc hc hN hy hyl hsw hi (blkOk_by hok) hg ht he hs) fun D σ H h => by
    have h2 : tE X.K W0 (mNew (mLc m g tt te (own.map (·.2)))) σ H fun v H1 => gName i v σ H1 D.nx := by
      obtain ⟨f, h, ps, s, sr, p⟩ := h
      refine ⟨f, h, ps, s, sr, (PostS.bind (R1 := RW X.K) s sr p).mono (fun v H1 hh => ?_) fun _ _ _ e => e⟩
      obtain ⟨f1, h1, a, s1, sr1, q1, p1⟩ := hh
      exact p1 f1 H1 _ (.refl s1.sim) (sr1.set i q1)
    exact tL_lc hts (tE_new h2)
end
end Mir

/-! Mir: defs, calls, promises over a part of the heap. -/
namespace Mir
open PySem PySem.Spec PyProof.Rows L2

/-! ### a def's promise, where nothing is being told as text (no repr runs) -/
abbrev Gd (A : Around) : Prop := A.guards = some []
structure FnG (P : Program) (w : World) (K : PySem.W.Frag) (mg : Str → Option Value) (base : Heap) (k : Nat) (f : Addr) (fd : FuncData) (ps : List Str) (sp : Sp) : Prop where
  len : ∀ vs H Q E, sp vs H Q E → vs.length = ps.length
  run : ∀ (A : Around) (fs : List Env) (s : Shared) (H : Hp) (args : Args) (us : List Value) (vs : List V) (Q : VK) (E : XK), Room k A → Gd A → Env0 P w K mg base A fs s H → BindsTo s fd args (ps.zip us) → Vals vs us →
    sp vs H Q E → codeAny (model P w) A (.call (.ref f) args) (CR (L2.CX P w) fs P w H s Q E) s
theorem FnG.imp {P : Program} {w : World} {K : PySem.W.Frag} {mg : Str → Option Value} {base : Heap} {k : Nat} {f : Addr} {fd : FuncData} {ps : List Str} {sp sp2 : Sp} (F : FnG P w K mg base k f fd ps sp) (i : ∀ vs H Q E, sp2 vs H Q E → sp vs H Q E) :
    FnG P w K mg base k f fd ps sp2 := ⟨fun vs H Q E z => F.len _ _ _ _ (i _ _ _ _ z), fun A fs s H args us vs Q E r g e b v z => F.run A fs s H args us vs Q E r g e b v (i _ _ _ _ z)⟩
theorem FnG.mono {P : Program} {w : World} {K : PySem.W.Frag} {mg : Str → Option Value} {base : Heap} {j k : Nat} {f : Addr} {fd : FuncData} {ps : List Str} {sp : Sp} (F : FnG P w K mg base j f fd ps sp) (h : j ≤ k) : FnG P w K mg base k f fd ps sp :=
  ⟨F.len, fun A fs s H args us vs Q E r => F.run A fs s H args us vs Q E (r.mono h)⟩
section
variable {P : Program} {w : World} {K : PySem.W.Frag} {mg : Str → Option Value} {base : Heap}
theorem fng_of {x qual : Str} {st : Stmt} {f : Addr} {fd : FuncData} {N ps : List Str} {k : Nat} {sp : Sp} (F : Fun K x qual st f fd) (S : FnScope N ps (defScope st)) (len : ∀ vs H Q E, sp vs H Q E → vs.length = ps.length)
    (hbody : ∀ (cdv : Value) (A : Around) (fs : List Env) (s : Shared) (H : Hp) (vs : List V) (Q : VK) (E : XK), Room k (A.deeper (envOfC qual (defScope st) s.heap.objs.size f cdv)) → Gd (A.deeper (envOfC qual (defScope st) s.heap.objs.size f cdv)) → sp vs H Q E →
      ∃ t, PSs (cxOf (L2.CX P w) P w K mg base N qual (defScope st) f cdv A fs s H E) (defBody st) t ∧ t ⟨fun _ H' => Q .non H', Q, fun _ _ => False, fun _ _ => False⟩ (L2.start N vs) H) : FnG P w K mg base (k + 1) f fd ps sp := by
  obtain ⟨oc, od, kV, doc, pm, an, cdv, ct, osl, rfl, lk, hcd⟩ := F.ex
  refine ⟨len, fun A fs s H args us vs Q E room gd e0 bnd rv z => ?_⟩
  have kept : ∀ b o, base.get? b = some o → s.heap.get? b = some o := fun b o e => (e0.bs b o e).1
  have kin := e0.mod.kin.keeps kept
  have names : ∀ y ∈ ps.zip us, (defScope st).names.lookup y.1 = some .local ∨ ((defScope st).names.lookup y.1 = some .cell ∧ ((cellsFrom (s.heap.objs.size + 1) (defScope st).names []).lookup y.1).isSome = true) := by
    rintro ⟨n, v⟩ hy
    exact (S.par n (List.of_mem_zip hy).1).imp id fun q => ⟨q, PySem.W.cellsFrom_some _ _ _ (.inl q)⟩
  refine codeAny_call_function room.depth (kin _ _ lk) rfl S.co S.gen rfl (PySem.W.codeRec_of kin hcd) (bnd _ _ _ _ (wpAny_newFunctionEnv_cells S.kind names ?_))
  rintro env rfl s1 x
  refine ⟨(e0.mod.nolimit.keeps kept).keeps x.toInCall.keep, codeAny_func ?_⟩
  obtain ⟨t, ht, hq⟩ := hbody cdv A fs s H vs Q E (room.deeper _) gd z
  have I := inv_start (CX := L2.CX P w) (E := E) S room.hd e0 (len _ _ _ _ z) rv x
  refine wpAny_mono (ht.run [] s1 _ H _ I hq) (fun fl s2 hs => ?_) fun _ _ hs => hs
  cases fl with
  | ret u =>
    obtain ⟨v, σ2, H2, J, r2, q⟩ := hs
    exact ⟨v, H2, J.os, J.bare, J.base, J.hok, r2, q⟩
  | next =>
    obtain ⟨σ2, H2, J, q⟩ := hs
    exact ⟨.non, H2, J.os, J.bare, J.base, J.hok, rfl, q⟩
  | brk => exact False.elim (hs.elim fun _ z => z.elim fun _ z => z.2)
  | cont => exact False.elim (hs.elim fun _ z => z.elim fun _ z => z.2)
end
section
variable {X : Cx} {k : Nat} {f : Addr} {fd : FuncData} {ps : List Str} {sp : Sp} {W0 : WX} {x : Str} {p pos : Pos} {e : Expr} {es : List Expr} {t : TA}
theorem run_g {pins : List (Addr × Obj)} {σ : L2.St} {H : Hp} {s : Shared} {Q : VK} {E : XK} {us : List Value} {vs : List V} (F : FnG X.prog X.w X.K X.mg X.base k f fd ps sp) (hr : Room k X.A) (gd : Gd X.A) (hb : Binds X.K fd ps []) (hx : PassesAt (L2.CX X.prog X.w) X σ E)
    (I : Inv X pins σ H s) (r : Vals vs us) (z : sp vs H Q E) : wpAny (model X.prog X.w) X.A (call (.ref f) us) (EP X pins σ Q) X.xe s := by
  have bnd := hb s us I.kIn (by rw [List.append_nil, ← r.length]; exact F.len _ _ _ _ z)
  rw [List.append_nil] at bnd
  refine wpAny_call (codeAny_mono (F.run X.A X.stack s H ⟨us, []⟩ us vs Q E hr gd I.env0 bnd r z) ?_)
  rintro (er | fl) s2 q
  · exact hx pins H s er s2 I q
  · cases fl with
    | ret u => exact I.after q
    | _ => exact False.elim q
theorem pe_g (F : FnG X.prog X.w X.K X.mg X.base k f fd ps sp) (hr : Room k X.A) (gd : Gd X.A) (hg : Gl X x) (hm : X.mg x = some (.ref f)) (hk : PySem.W.keepIn X.K (.ref f) = true) (hb : Binds X.K fd ps []) (tk : Takes X W0)
    (ha : PA X (e :: es) t) (hdb : (x == ("__debug__" : Str)) = false) (he : starEach (e :: es) X.env = (false, eval e X.env) :: starEach es X.env) (hpl : (backTo pos (starEach es X.env)).any (·.1) = false) :
    PE X (.Call (.Name x p) (e :: es) [] pos) (tCallS sp (WE W0) t) := ⟨fun pins s σ H Q I h =>
  wpAny_Call_Name_kw (ld_glob I hg hm (PySem.W.callWith_K (h₀ := X.base) I.ok.mod.kin hk (thn (ha.run pos pins s σ H _ I h) fun us s1 hh => by
    obtain ⟨vs, H1, I1, r, q⟩ := hh
    exact ⟨I1.kIn, run_g F hr gd hb (L2.passAt tk σ) I1 r q⟩) he hpl) hdb)⟩
theorem pe_g0 (F : FnG X.prog X.w X.K X.mg X.base k f fd [] sp) (hr : Room k X.A) (gd : Gd X.A) (hg : Gl X x) (hm : X.mg x = some (.ref f)) (hk : PySem.W.keepIn X.K (.ref f) = true) (hb : Binds X.K fd [] []) (tk : Takes X W0)
    (hdb : (x == ("__debug__" : Str)) = false) : PE X (.Call (.Name x p) [] [] pos) (tCallS sp (WE W0) tNil) := ⟨fun pins s σ H Q I h =>
  wpAny_Call_Name_kw (ld_glob I hg hm (PySem.W.callWith_K0 I.kIn hk (run_g (us := []) F hr gd hb (L2.passAt tk σ) I .nil h)) hdb)⟩
end

abbrev FM := List W → PH → Res W
/-- a promise by a computation of the n arguments -/
def SPm (K : PySem.W.Frag) (n : Nat) (F : FM) : Sp := fun vs H Q E => vs.length = n ∧ ∃ f h ws, Sim K f h H ∧ Reps K f H ws vs ∧ Post K (RW K) f H (F ws h) Q E
def startW (n : Nat) (ws : List W) : LS := ws.map some ++ List.replicate (n - ws.length) none
/-- a def's body, n slots -/
def runB (n : Nat) (B : SM) : FM := fun ws h => match B (startW n ws) h with
  | .nx _ h' => .ok .non h'
  | .rt w h' => .ok w h'
  | .exc x _ h' => .exc x h'
  | _ => .stuck
theorem reps_get {K : PySem.W.Frag} {f : List Addr} {H : Hp} {ws : List W} {vs : List V} (r : Reps K f H ws vs) (N : List Str) : SRep K f H (startW N.length ws) (L2.start N vs) := by
  unfold startW L2.start
  rw [← r.length]
  refine ⟨by simp only [List.length_append, List.length_map, List.length_replicate, r.length], fun i w e => ?_⟩
  by_cases hi : i < ws.length
  · rw [List.getElem?_append_left (by simpa using hi), List.getElem?_map] at e
    obtain ⟨w', e1, e2⟩ := Option.map_eq_some_iff.mp e
    cases e2
    obtain ⟨v, h1, h2⟩ := r.get e1
    refine ⟨v, ?_, h2⟩
    rw [List.getElem?_append_left (by rw [List.length_map, ← r.length]; exact hi), List.getElem?_map, h1]
    rfl
  · rw [List.getElem?_append_right (by simpa using Nat.le_of_not_lt hi), List.getElem?_replicate] at e
    split at e <;> cases e
section
variable {P : Program} {w : World} {K : PySem.W.Frag} {mg : Str → Option Value} {base : Heap}
/-- THE RULE for a def -/
theorem ok_body {x qual : Str} {st : Stmt} {f : Addr} {fd : FuncData} {N ps : List Str} {k : Nat} {B : SM} (F : Fun K x qual st f fd) (S : FnScope N ps (defScope st))
    (h : ∀ (cdv : Value) (A : Around) (outer : List Env) (s : Shared) (H : Hp) (E : XK), Room k (A.deeper (envOfC qual (defScope st) s.heap.objs.size f cdv)) → Gd (A.deeper (envOfC qual (defScope st) s.heap.objs.size f cdv)) →
      SSs (cxOf (L2.CX P w) P w K mg base N qual (defScope st) f cdv A outer s H E) (fun c d _ H => E c d H) (defBody st) B) : FnG P w K mg base (k + 1) f fd ps (SPm K ps.length (runB N.length B)) := by
  refine fng_of F S (fun vs H Q E h => h.1) fun cdv A outer s H vs Q E hr gd hh => ⟨_, h cdv A outer s H E hr gd, ?_⟩
  obtain ⟨hl, f0, h0, ws, s0, r0, p0⟩ := hh
  refine ⟨f0, h0, startW N.length ws, s0, reps_get r0 N, ?_⟩
  unfold runB at p0
  cases e : B (startW N.length ws) h0 with
  | nx ps h' => rw [e] at p0; exact fun f' H' σ' s' _ => p0 f' H' _ s' (rep_non.mpr rfl)
  | rt w h' => rw [e] at p0; exact fun f' H' v s' r' => p0 f' H' v s' r'
  | exc x ps h' => rw [e] at p0; exact fun f' H' σ' c d s' _ x' => p0 f' H' c d s' x'
  | bk ps h' => rw [e] at p0; exact p0.elim
  | ct ps h' => rw [e] at p0; exact p0.elim
  | stuck => rw [e] at p0; exact p0.elim
end
/-- a call -/
def mFn (n : Nat) (F : FM) (l : LM) : EM := fun ps h => (l ps h).bind fun xs h1 => if xs.length = n then F xs h1 else .stuck
section
variable {X : Cx} {W0 : WX} {k : Nat} {f : Addr} {fd : FuncData} {ps : List Str} {F : FM} {x : Str} {p pos : Pos} {e : Expr} {es : List Expr} {l : LM} {n : Nat}
theorem se_call (FK : FnG X.prog X.w X.K X.mg X.base k f fd ps (SPm X.K n F)) (hb : Binds X.K fd ps []) (hk : PySem.W.keepIn X.K (.ref f) = true) (hr : Room k X.A) (gd : Gd X.A) (tk : Takes X W0) (hm : X.mg x = some (.ref f)) (ha : SA X W0 (e :: es) l) (hg : Gl X x := by rfl)
    (hdb : (x == ("__debug__" : Str)) = false := by decide) (he : starEach (e :: es) X.env = (false, eval e X.env) :: starEach es X.env := by rfl) (hpl : (backTo pos (starEach es X.env)).any (·.1) = false := by rfl) :
    SE X W0 (.Call (.Name x p) (e :: es) [] pos) (mFn n F l) :=
  pe_imp (pe_g FK hr gd hg hm hk hb tk ha hdb he hpl) fun σ H Q h => by
    obtain ⟨f, h, ps, s, sr, p⟩ := h
    refine ⟨f, h, ps, s, sr, (Post.bind (R1 := RA X.K) s back_W p).mono (fun v H1 hh => ?_) fun _ _ _ e => e⟩
    obtain ⟨f1, h1, a, s1, q1, p1⟩ := hh
    split at p1
    · rename_i hl
      exact ⟨by rw [← q1.length]; exact hl, f1, h1, a, s1.sim, q1, p1⟩
    · exact p1.elim
def mFn0 (F : FM) : EM := fun _ h => F [] h
theorem se_call0 (FK : FnG X.prog X.w X.K X.mg X.base k f fd [] (SPm X.K 0 F)) (hb : Binds X.K fd [] []) (hk : PySem.W.keepIn X.K (.ref f) = true) (hr : Room k X.A) (gd : Gd X.A) (tk : Takes X W0) (hm : X.mg x = some (.ref f)) (hg : Gl X x := by rfl)
    (hdb : (x == ("__debug__" : Str)) = false := by decide) : SE X W0 (.Call (.Name x p) [] [] pos) (mFn0 F) :=
  pe_imp (pe_g0 FK hr gd hg hm hk hb tk hdb) fun σ H Q h => by
    obtain ⟨f, h, ps, s, sr, p⟩ := h
    exact ⟨rfl, f, h, [], s, .nil, p⟩
end

/-! ### a part of the heap -/
mutual
def Emb (M : Nat → Nat → Prop) : W → W → Prop
  | .non, w => w = .non
  | .bl b, w => w = .bl b
  | .int i, w => w = .int i
  | .str x, w => w = .str x
  | .tup xs, w => ∃ ys, w = .tup ys ∧ Embs M xs ys
  | .fix xs, w => ∃ ys, w = .fix ys ∧ Embs M xs ys
  | .exc x, w => w = .exc x
  | .ref i, w => ∃ n, w = .ref n ∧ M i n
def Embs (M : Nat → Nat → Prop) : List W → List W → Prop
  | [], ws => ws = []
  | x :: xs, ws => ∃ y ys, ws = y :: ys ∧ Emb M x y ∧ Embs M xs ys
end
mutual
theorem Rep.fwd {K : PySem.W.Frag} {f g : List Addr} {H : Hp} {M : Nat → Nat → Prop} (hM : ∀ i n a, M i n → f[i]? = some a → g[n]? = some a) : ∀ (x y : W) (v : V), Emb M x y → Rep K f H x v → Rep K g H y v
  | .non, y, v, e, r => by simp only [Emb] at e; subst e; simpa only [Rep] using r
  | .bl b, y, v, e, r => by simp only [Emb] at e; subst e; simpa only [Rep] using r
  | .int i, y, v, e, r => by simp only [Emb] at e; subst e; simpa only [Rep] using r
  | .str z, y, v, e, r => by simp only [Emb] at e; subst e; simpa only [Rep] using r
  | .exc z, y, v, e, r => by simp only [Emb] at e; subst e; simpa only [Rep] using r
  | .tup xs, y, v, e, r => by
    simp only [Emb] at e
    obtain ⟨ys, rfl, e⟩ := e
    simp only [Rep] at r ⊢
    obtain ⟨a, vs, h1, h2, h3⟩ := r
    exact ⟨a, vs, h1, h2, Reps.fwd hM xs ys vs e h3⟩
  | .fix xs, y, v, e, r => by
    simp only [Emb] at e
    obtain ⟨ys, rfl, e⟩ := e
    simp only [Rep] at r ⊢
    obtain ⟨a, vs, h1, h2, h3⟩ := r
    exact ⟨a, vs, h1, h2, Reps.fwd hM xs ys vs e h3⟩
  | .ref i, y, v, e, r => by
    simp only [Emb] at e
    obtain ⟨n, rfl, e⟩ := e
    simp only [Rep] at r ⊢
    obtain ⟨a, h1, h2⟩ := r
    exact ⟨a, h1, hM i n a e h2⟩
theorem Reps.fwd {K : PySem.W.Frag} {f g : List Addr} {H : Hp} {M : Nat → Nat → Prop} (hM : ∀ i n a, M i n → f[i]? = some a → g[n]? = some a) : ∀ (xs ys : List W) (vs : List V), Embs M xs ys → Reps K f H xs vs → Reps K g H ys vs
  | [], ys, vs, e, r => by simp only [Embs] at e; subst e; simpa only [Reps] using r
  | x :: xs, ys, vs, e, r => by
    simp only [Embs] at e
    obtain ⟨y, zs, rfl, e1, e2⟩ := e
    obtain ⟨v, us, rfl, r1, r2⟩ := r.cons_inv
    exact .cons (Rep.fwd hM x y v e1 r1) (Reps.fwd hM xs zs us e2 r2)
end
mutual
theorem Rep.bwd {K : PySem.W.Frag} {f g : List Addr} {H : Hp} {M : Nat → Nat → Prop} (hM : ∀ i n a, M i n → g[n]? = some a → f[i]? = some a) : ∀ (x y : W) (v : V), Emb M x y → Rep K g H y v → Rep K f H x v
  | .non, y, v, e, r => by simp only [Emb] at e; subst e; simpa only [Rep] using r
  | .bl b, y, v, e, r => by simp only [Emb] at e; subst e; simpa only [Rep] using r
  | .int i, y, v, e, r => by simp only [Emb] at e; subst e; simpa only [Rep] using r
  | .str z, y, v, e, r => by simp only [Emb] at e; subst e; simpa only [Rep] using r
  | .exc z, y, v, e, r => by simp only [Emb] at e; subst e; simpa only [Rep] using r
  | .tup xs, y, v, e, r => by
    simp only [Emb] at e
    obtain ⟨ys, rfl, e⟩ := e
    simp only [Rep] at r ⊢
    obtain ⟨a, vs, h1, h2, h3⟩ := r
    exact ⟨a, vs, h1, h2, Reps.bwd hM xs ys vs e h3⟩
  | .fix xs, y, v, e, r => by
    simp only [Emb] at e
    obtain ⟨ys, rfl, e⟩ := e
    simp only [Rep] at r ⊢
    obtain ⟨a, vs, h1, h2, h3⟩ := r
    exact ⟨a, vs, h1, h2, Reps.bwd hM xs ys vs e h3⟩
  | .ref i, y, v, e, r => by
    simp only [Emb] at e
    obtain ⟨n, rfl, e⟩ := e
    simp only [Rep] at r ⊢
    obtain ⟨a, h1, h2⟩ := r
    exact ⟨a, h1, hM i n a e h2⟩
theorem Reps.bwd {K : PySem.W.Frag} {f g : List Addr} {H : Hp} {M : Nat → Nat → Prop} (hM : ∀ i n a, M i n → g[n]? = some a → f[i]? = some a) : ∀ (xs ys : List W) (vs : List V), Embs M xs ys → Reps K g H ys vs → Reps K f H xs vs
  | [], ys, vs, e, r => by simp only [Embs] at e; subst e; simpa only [Reps] using r
  | x :: xs, ys, vs, e, r => by
    simp only [Embs] at e
    obtain ⟨y, zs, rfl, e1, e2⟩ := e
    obtain ⟨v, us, rfl, r1, r2⟩ := r.cons_inv
    exact .cons (Rep.bwd hM x y v e1 r1) (Reps.bwd hM xs zs us e2 r2)
end
def KEmb {κ : Type} (M : Nat → Nat → Prop) : List (κ × W) → List (κ × W) → Prop
  | [], ks => ks = []
  | (k, x) :: r, ks => ∃ y s, ks = (k, y) :: s ∧ Emb M x y ∧ KEmb M r s
theorem KRep.fwd {κ : Type} {K : PySem.W.Frag} {f g : List Addr} {H : Hp} {M : Nat → Nat → Prop} (hM : ∀ i n a, M i n → f[i]? = some a → g[n]? = some a) : ∀ (x y : List (κ × W)) (v : List (κ × V)), KEmb M x y → KRep K f H x v → KRep K g H y v
  | [], y, v, e, r => by
    have e : y = [] := e
    subst e
    exact r
  | (k, x) :: t, y, v, e, r => by
    obtain ⟨z, s, rfl, e1, e2⟩ := e
    obtain ⟨u, q, rfl, r1, r2⟩ := r
    exact ⟨u, q, rfl, Rep.fwd hM _ _ _ e1 r1, KRep.fwd hM t s q e2 r2⟩
theorem KRep.bwd {κ : Type} {K : PySem.W.Frag} {f g : List Addr} {H : Hp} {M : Nat → Nat → Prop} (hM : ∀ i n a, M i n → g[n]? = some a → f[i]? = some a) : ∀ (x y : List (κ × W)) (v : List (κ × V)), KEmb M x y → KRep K g H y v → KRep K f H x v
  | [], y, v, e, r => by
    have e : y = [] := e
    subst e
    exact r
  | (k, x) :: t, y, v, e, r => by
    obtain ⟨z, s, rfl, e1, e2⟩ := e
    obtain ⟨u, q, rfl, r1, r2⟩ := r
    exact ⟨u, q, rfl, Rep.bwd hM _ _ _ e1 r1, KRep.bwd hM t s q e2 r2⟩
def EmbO (M : Nat → Nat → Prop) : OB → OB → Prop
  | .lst xs, o => ∃ ys, o = .lst ys ∧ Embs M xs ys
  | .dK xs, o => ∃ ys, o = .dK ys ∧ KEmb M xs ys
  | .ins C xs, o => ∃ ys, o = .ins C ys ∧ KEmb M xs ys
  | .lk xs, o => ∃ ys, o = .lk ys ∧ KEmb M xs ys
theorem ObjR.fwd {K : PySem.W.Frag} {f g : List Addr} {H : Hp} {M : Nat → Nat → Prop} (hM : ∀ i n a, M i n → f[i]? = some a → g[n]? = some a) {o u : OB} {a : Addr} (e : EmbO M o u) (r : ObjR K f H o a) : ObjR K g H u a := by
  cases o with
  | lst xs =>
    obtain ⟨ys, rfl, e⟩ := e
    obtain ⟨vs, h1, h2⟩ := r
    exact ⟨vs, h1, Reps.fwd hM _ _ _ e h2⟩
  | dK xs =>
    obtain ⟨ys, rfl, e⟩ := e
    obtain ⟨vs, h1, h2⟩ := r
    exact ⟨vs, h1, KRep.fwd hM _ _ _ e h2⟩
  | ins C xs =>
    obtain ⟨ys, rfl, e⟩ := e
    obtain ⟨C, dx, vs, h0, h1, h2⟩ := r
    exact ⟨C, dx, vs, h0, h1, KRep.fwd hM _ _ _ e h2⟩
  | lk xs =>
    obtain ⟨ys, rfl, e⟩ := e
    obtain ⟨o, vs, h1, h2⟩ := r
    exact ⟨o, vs, h1, KRep.fwd hM _ _ _ e h2⟩
theorem ObjR.bwd {K : PySem.W.Frag} {f g : List Addr} {H : Hp} {M : Nat → Nat → Prop} (hM : ∀ i n a, M i n → g[n]? = some a → f[i]? = some a) {o u : OB} {a : Addr} (e : EmbO M o u) (r : ObjR K g H u a) : ObjR K f H o a := by
  cases o with
  | lst xs =>
    obtain ⟨ys, rfl, e⟩ := e
    obtain ⟨vs, h1, h2⟩ := r
    exact ⟨vs, h1, Reps.bwd hM _ _ _ e h2⟩
  | dK xs =>
    obtain ⟨ys, rfl, e⟩ := e
    obtain ⟨vs, h1, h2⟩ := r
    exact ⟨vs, h1, KRep.bwd hM _ _ _ e h2⟩
  | ins C xs =>
    obtain ⟨ys, rfl, e⟩ := e
    obtain ⟨C, dx, vs, h0, h1, h2⟩ := r
    exact ⟨C, dx, vs, h0, h1, KRep.bwd hM _ _ _ e h2⟩
  | lk xs =>
    obtain ⟨ys, rfl, e⟩ := e
    obtain ⟨o, vs, h1, h2⟩ := r
    exact ⟨o, vs, h1, KRep.bwd hM _ _ _ e h2⟩
/-- where the numbers of the part come to stand: ρ by the caller's numbers, κ those of the new ones that are kept -/
def Mp (ρ κ : List Nat) (n : Nat) : Nat → Nat → Prop := fun i m => ρ[i]? = some m ∨ ∃ j : Nat, κ[j]? = some i ∧ m = n + j
/-- h2, by the part, is hS, by the whole -/
structure Back2 (ρ κ : List Nat) (h h2 hS : PH) : Prop where
  nd : κ.Nodup
  new : ∀ i ∈ κ, ρ.length ≤ i ∧ i < h2.length
  len : hS.length = h.length + κ.length
  old : ∀ n, n < h.length → n ∉ ρ → hS[n]? = h[n]?
  at1 : ∀ (i n : Nat), ρ[i]? = some n → ∃ o u, h2[i]? = some o ∧ hS[n]? = some u ∧ EmbO (Mp ρ κ h.length) o u
  at2 : ∀ (j i : Nat), κ[j]? = some i → ∃ o u, h2[i]? = some o ∧ hS[h.length + j]? = some u ∧ EmbO (Mp ρ κ h.length) o u
def OutF (ρ : List Nat) (h : PH) : Res W → Res W → Prop
  | .ok w2 h2, .ok w hS => ∃ κ, Back2 ρ κ h h2 hS ∧ Emb (Mp ρ κ h.length) w2 w
  | .exc x2 h2, .exc x hS => ∃ κ, Back2 ρ κ h h2 hS ∧ x2 = x
  | _, .stuck => True
  | _, _ => False
/-- F over the part of h by ρ does what S does over h -/
structure PartF (F S : FM) (ws : List W) (h : PH) (ρ : List Nat) (ws' : List W) (h' : PH) : Prop where
  nd : ρ.Nodup
  lt : ∀ n ∈ ρ, n < h.length
  len : h'.length = ρ.length
  obj : ∀ (i n : Nat), ρ[i]? = some n → ∃ o u, h'[i]? = some o ∧ h[n]? = some u ∧ EmbO (fun (i n : Nat) => ρ[i]? = some n) o u
  args : Embs (fun (i n : Nat) => ρ[i]? = some n) ws' ws
  out : OutF ρ h (F ws' h') (S ws h)
def Fits (F S : FM) : Prop := ∀ ws h, S ws h = .stuck ∨ ∃ ρ ws' h', PartF F S ws h ρ ws' h'
section
variable {K : PySem.W.Frag} {f : List Addr} {h : PH} {H : Hp} {ρ κ : List Nat} {h' : PH}
theorem nd_inj {α : Type} {l : List α} (h : l.Nodup) {i j : Nat} {a : α} (e : l[i]? = some a) (e2 : l[j]? = some a) : i = j := by
  have key : ∀ i j : Nat, i < j → l[i]? = some a → l[j]? = some a → False := fun i j hij e e2 => by
    obtain ⟨h1, q1⟩ := List.getElem?_eq_some_iff.mp e
    obtain ⟨h2, q2⟩ := List.getElem?_eq_some_iff.mp e2
    exact (List.pairwise_iff_getElem.mp h) i j h1 h2 hij (q1.trans q2.symm)
  rcases Nat.lt_trichotomy i j with z | z | z
  · exact (key i j z e e2).elim
  · exact z
  · exact (key j i z e2 e).elim
def pick (f : List Addr) (ρ : List Nat) : List Addr := ρ.map fun n => f.getD n 0
theorem pick_get (hlt : ∀ n ∈ ρ, n < f.length) {i n : Nat} (e : ρ[i]? = some n) : (pick f ρ)[i]? = f[n]? ∧ f[n]? = some (f.getD n 0) := by
  have hn := hlt n (List.mem_of_getElem? e)
  unfold pick
  rw [List.getElem?_map, e, List.getElem?_eq_getElem hn]
  simp [List.getD, List.getElem?_eq_getElem hn]
theorem pick_nd (fn : f.Nodup) (hlt : ∀ n ∈ ρ, n < f.length) (nd : ρ.Nodup) : (pick f ρ).Nodup := by
  refine List.pairwise_iff_getElem.mpr fun i j hi hj hij e => ?_
  have li : i < ρ.length := by unfold pick at hi; simpa using hi
  have lj : j < ρ.length := by unfold pick at hj; simpa using hj
  obtain ⟨p1, p2⟩ := pick_get hlt (List.getElem?_eq_getElem li)
  obtain ⟨p3, p4⟩ := pick_get hlt (List.getElem?_eq_getElem lj)
  have e1 := p1.symm.trans (List.getElem?_eq_getElem hi)
  have e2 := p3.symm.trans (List.getElem?_eq_getElem hj)
  rw [e] at e1
  have := nd_inj fn e1 e2
  exact (List.pairwise_iff_getElem.mp nd) i j li lj hij this
theorem part_sim (s : Sim K f h H) (nd : ρ.Nodup) (lt : ∀ n ∈ ρ, n < h.length) (len : h'.length = ρ.length) (obj : ∀ (i n : Nat), ρ[i]? = some n → ∃ o u, h'[i]? = some o ∧ h[n]? = some u ∧ EmbO (fun (i n : Nat) => ρ[i]? = some n) o u) : Sim K (pick f ρ) h' H := by
  have hlt : ∀ n ∈ ρ, n < f.length := fun n hn => by rw [s.len]; exact lt n hn
  refine ⟨by unfold pick; rw [List.length_map, len], pick_nd s.nd hlt nd, fun i o e => ?_⟩
  have hi : i < ρ.length := by rw [← len]; exact (List.getElem?_eq_some_iff.mp e).1
  obtain ⟨o', u, e1, e2, e3⟩ := obj i ρ[i] (List.getElem?_eq_getElem hi)
  rw [e] at e1
  cases e1
  obtain ⟨a, ha, r⟩ := s.obj _ _ e2
  obtain ⟨p1, p2⟩ := pick_get hlt (List.getElem?_eq_getElem hi)
  refine ⟨a, by rw [p1, ha], ObjR.bwd (fun j n b ej eb => ?_) e3 r⟩
  rw [(pick_get hlt ej).1, eb]
theorem part_back (s : Sim K f h H) (nd : ρ.Nodup) (lt : ∀ n ∈ ρ, n < h.length) (s' : Sim K (pick f ρ) h' H) {f2 : List Addr} {h2 hS : PH} {H2 : Hp} (st : Step K (pick f ρ) H f2 h2 H2) (b : Back2 ρ κ h h2 hS) :
    Step K f H (f ++ pick f2 κ) hS H2 ∧ ∀ i n a, Mp ρ κ h.length i n → f2[i]? = some a → (f ++ pick f2 κ)[n]? = some a := by
  have hlt : ∀ n ∈ ρ, n < f.length := fun n hn => by rw [s.len]; exact lt n hn
  have kl : ∀ n ∈ κ, n < f2.length := fun n hn => by rw [st.sim.len]; exact (b.new n hn).2
  have pl : (pick f ρ).length = ρ.length := by unfold pick; rw [List.length_map]
  have hM : ∀ i n a, Mp ρ κ h.length i n → f2[i]? = some a → (f ++ pick f2 κ)[n]? = some a := fun i n a m e => by
    rcases m with m | ⟨j, m, rfl⟩
    · obtain ⟨p1, p2⟩ := pick_get hlt m
      have : f2[i]? = some (f.getD n 0) := st.ext.get (p1.trans p2)
      rw [e] at this
      cases this
      rw [List.getElem?_append_left (hlt n (List.mem_of_getElem? m))]
      exact p2
    · rw [List.getElem?_append_right (by rw [s.len]; omega), s.len, Nat.add_sub_cancel_left, (pick_get kl m).1]
      exact e
  have newH : ∀ x ∈ pick f2 κ, H x = none := fun x hx => by
    unfold pick at hx
    obtain ⟨i, hi, rfl⟩ := List.mem_map.mp hx
    have h2i := kl i hi
    have e : f2[i]? = some (f2.getD i 0) := by simp [List.getD, List.getElem?_eq_getElem h2i]
    refine st.new _ (List.mem_of_getElem? e) fun z => ?_
    obtain ⟨j, hj, ej⟩ := List.getElem_of_mem z
    have e2 : f2[j]? = some (f2.getD i 0) := st.ext.get (by rw [List.getElem?_eq_getElem hj, ej])
    have hji : j = i := nd_inj st.sim.nd e2 e
    have := (b.new i hi).1
    rw [pl] at hj
    omega
  have notf : ∀ x ∈ pick f2 κ, x ∉ f := fun x hx m => by
    obtain ⟨u, e, _⟩ := s.mov m
    rw [newH x hx] at e
    cases e
  have gr : Grow f H H2 := fun x o e hn => st.grow x o e fun z => hn (by
    unfold pick at z
    obtain ⟨n, hn2, rfl⟩ := List.mem_map.mp z
    obtain ⟨i, hi, ei⟩ := List.getElem_of_mem hn2
    have ei : ρ[i]? = some n := List.getElem?_eq_some_iff.mpr ⟨hi, ei⟩
    exact List.mem_of_getElem? (pick_get hlt ei).2)
  have ex : Ext f (f ++ pick f2 κ) := ⟨_, rfl⟩
  have sty := s'.stay st.grow
  refine ⟨⟨ex, fun x hx hn => ?_, gr, st.lk, by rw [List.length_append, b.len, s.len]; unfold pick; rw [List.length_map], ?_, fun n o e => ?_⟩, hM⟩
  · rcases List.mem_append.mp hx with m | m
    · exact absurd m hn
    · exact newH x m
  · exact List.nodup_append.mpr ⟨s.nd, pick_nd st.sim.nd kl b.nd, fun a ha c hc z => notf c hc (z ▸ ha)⟩
  · by_cases hn : n < h.length
    · by_cases hm : n ∈ ρ
      · obtain ⟨i, hi, ei⟩ := List.getElem_of_mem hm
        have ei : ρ[i]? = some n := List.getElem?_eq_some_iff.mpr ⟨hi, ei⟩
        obtain ⟨o2, u, e1, e2, e3⟩ := b.at1 i n ei
        rw [e] at e2
        cases e2
        obtain ⟨a, ha, r⟩ := st.sim.obj _ _ e1
        exact ⟨a, hM i n a (.inl ei) ha, ObjR.fwd hM e3 r⟩
      · have e0 : h[n]? = some o := by rw [← b.old n hn hm]; exact e
        obtain ⟨a, ha, r⟩ := s.obj n o e0
        refine ⟨a, ex.get ha, r.mono ex sty ?_⟩
        obtain ⟨u, eu, _⟩ := s.mov (List.mem_of_getElem? ha)
        rw [eu]
        refine st.grow a u eu fun z => ?_
        unfold pick at z
        obtain ⟨m, hm2, em⟩ := List.mem_map.mp z
        obtain ⟨i, hi, ei⟩ := List.getElem_of_mem hm2
        have ei : ρ[i]? = some m := List.getElem?_eq_some_iff.mpr ⟨hi, ei⟩
        have em2 := (pick_get hlt ei).2
        rw [em] at em2
        have := nd_inj s.nd em2 ha
        subst this
        exact hm hm2
    · have hj : n - h.length < κ.length := by
        have := (List.getElem?_eq_some_iff.mp e).1
        rw [b.len] at this
        omega
      obtain ⟨o2, u, e1, e2, e3⟩ := b.at2 (n - h.length) _ (List.getElem?_eq_getElem hj)
      have en : h.length + (n - h.length) = n := by omega
      rw [en, e] at e2
      cases e2
      obtain ⟨a, ha, r⟩ := st.sim.obj _ _ e1
      exact ⟨a, hM _ n a (.inr ⟨n - h.length, List.getElem?_eq_getElem hj, en.symm⟩) ha, ObjR.fwd hM e3 r⟩
end
/-- a promise over the part gives the one over the whole -/
theorem fits_ok {P : Program} {w : World} {K : PySem.W.Frag} {mg : Str → Option Value} {base : Heap} {k : Nat} {f : Addr} {fd : FuncData} {ps : List Str} {n : Nat} {F S : FM} (FK : FnG P w K mg base k f fd ps (SPm K n F)) (hf : Fits F S) : FnG P w K mg base k f fd ps (SPm K n S) := by
  refine FK.imp fun vs H Q E hh => ?_
  obtain ⟨hl, f0, h0, ws, s0, r0, p0⟩ := hh
  rcases hf ws h0 with z | ⟨ρ, ws', h', pf⟩
  · rw [z] at p0
    exact p0.elim
  · have hlt : ∀ n ∈ ρ, n < f0.length := fun n hn => by rw [s0.len]; exact pf.lt n hn
    have s' := part_sim s0 pf.nd pf.lt pf.len pf.obj
    refine ⟨hl, pick f0 ρ, h', ws', s', Reps.bwd (fun i n a e1 e2 => by rw [(pick_get hlt e1).1, e2]) _ _ _ pf.args r0, ?_⟩
    have o := pf.out
    cases e1 : F ws' h' with
    | stuck =>
      rw [e1] at o
      cases e2 : S ws h0 with
      | stuck => rw [e2] at p0; exact p0.elim
      | ok a b => rw [e2] at o; exact o.elim
      | exc a b => rw [e2] at o; exact o.elim
    | ok w2 h2 =>
      rw [e1] at o
      cases e2 : S ws h0 with
      | stuck => rw [e2] at p0; exact p0.elim
      | exc a b => rw [e2] at o; exact o.elim
      | ok a b =>
        rw [e2] at o p0
        obtain ⟨κ, bk, em⟩ := o
        intro f2 H2 v st r
        obtain ⟨st2, hM⟩ := part_back s0 pf.nd pf.lt s' st bk
        exact p0 _ H2 v st2 (Rep.fwd hM _ _ _ em r)
    | exc x2 h2 =>
      rw [e1] at o
      cases e2 : S ws h0 with
      | stuck => rw [e2] at p0; exact p0.elim
      | ok a b => rw [e2] at o; exact o.elim
      | exc a b =>
        rw [e2] at o p0
        obtain ⟨κ, bk, ec⟩ := o
        subst ec
        intro f2 H2 c d st r
        obtain ⟨st2, hM⟩ := part_back s0 pf.nd pf.lt s' st bk
        exact p0 _ H2 c d st2 r
end Mir

/-! Mir: isinstance, what is written, methods, dicts. -/
namespace Mir
open PySem PySem.Spec PyProof.Rows L2

section
variable {X : Cx} {W0 : WX} {tt : BM} {c : Expr}
theorem sts_one (h : ST X W0 c tt) : STs X W0 [c] tt := pts_one h
end

/-! ### isinstance -/
def tyName : W → PH → Option String
  | .non, _ => some "NoneType"
  | .bl _, _ => some "bool"
  | .int _, _ => some "int"
  | .str _, _ => some "str"
  | .tup _, _ => some "tuple"
  | .fix _, _ => some "list"
  | .exc _, _ => none
  | .ref n, h => match h[n]? with
    | some (.lst _) => some "list"
    | some (.dK _) => some "dict"
    | _ => none
def isB (t T : String) : Bool := t == T || (t == "bool" && T == "int")
def mIsi (T : String) (m : EM) : EM := fun ps h => (m ps h).bind fun x h1 => match tyName x h1 with
  | some t => .ok (.bl (isB t T)) h1
  | none => .stuck
def plainTys : List String := ["bool", "int", "str", "tuple", "list", "dict"]
theorem tyName_in {x : W} {h : PH} {t : String} (e : tyName x h = some t) : t ∈ (["NoneType", "bool", "int", "str", "tuple", "list", "dict"] : List String) := by
  cases x <;> simp only [tyName] at e
  case ref n =>
    split at e <;> first | (cases e; done) | (cases e; decide)
  case exc => cases e
  all_goals (cases e; decide)
theorem kit_all : ∀ t ∈ (["NoneType", "bool", "int", "str", "tuple", "list", "dict"] : List String), ∀ T ∈ plainTys, kitB t T = some (isB t T) := by decide +kernel
section
variable {K : PySem.W.Frag} {X : Cx} {W0 : WX} {e o : Expr} {es : List Expr} {m : EM} {l : LM} {p p2 pos : Pos}
theorem tyX_of {f : List Addr} {h : PH} {H : Hp} {x : W} {v : V} {t : String} (s : Sim K f h H) (r : Rep K f H x v) (e : tyName x h = some t) : TyX K H v (.type t) := by
  cases x with
  | non => cases e; rw [rep_non.mp r]; exact .base .non
  | bl b => cases e; rw [rep_bl.mp r]; exact .base (.bl b)
  | int i => cases e; rw [rep_int.mp r]; exact .base (.int i)
  | str z => cases e; rw [rep_str.mp r]; exact .base (.str z)
  | tup xs =>
    cases e
    obtain ⟨a, vs, rfl, h1, _⟩ := rep_tup.mp r
    rcases h1 with (h1 | ⟨o, h1⟩) | ⟨o, its, n, h1, h2, _⟩
    · exact .base (.tup h1)
    · exact .fTuple h1
    · exact .kTuple h1 h2
  | fix xs =>
    cases e
    obtain ⟨a, vs, rfl, h1, _⟩ := rep_fix.mp r
    rcases h1 with ⟨o, h1⟩ | ⟨o, its, n, h1, h2, _⟩
    · exact .base (.frz h1)
    · exact .kList h1 h2
  | exc _ => cases e
  | ref n =>
    simp only [tyName] at e
    split at e
    · rename_i xs hn
      obtain ⟨a, rfl, _, vs, h1, _⟩ := s.at hn r
      cases e
      exact .base (.lst h1)
    · rename_i xs hn
      obtain ⟨a, rfl, _, vs, h1, _⟩ := s.at hn r
      cases e
      exact .base (.dK h1)
    · cases e
theorem se_isi (T : String) {n : Str} (hT : T ∈ plainTys) (hm : X.mg "isinstance" = none) (hmT : X.mg n = none) (ha : SE X W0 e m) (hv : bootBuiltins n = some (.type T)) (hg : Gl X "isinstance" := by rfl) (hgT : Gl X n := by rfl)
    (hb : bootBuiltins "isinstance" = some (.builtin "isinstance") := by rfl) (hdT : (n == ("__debug__" : Str)) = false := by decide)
    (hs1 : starEach [.Name n p2] X.env = [(false, eval (.Name n p2) X.env)] := by rfl) (he : starEach [e, .Name n p2] X.env = (false, eval e X.env) :: starEach [.Name n p2] X.env := by rfl)
    (hpl : (backTo pos (starEach [.Name n p2] X.env)).any (·.1) = false := by rfl) (hnT : n ≠ "__name__" := by decide) :
    SE X W0 (.Call (.Name "isinstance" p) [e, .Name n p2] [] pos) (mIsi T m) :=
  pe_imp (pe_callB call_isi hg hm hb (pa_cons ha (pa_cons (pe_bltn hgT hmT hv (show RelV (V.ty T) (Value.type T) from rfl) hnT hdT) pa_nil hs1) he) (by decide) (by decide) he hpl) fun σ H Q h => by
    obtain ⟨f, h, ps, s, sr, p⟩ := h
    refine ⟨f, h, ps, s, sr, (Post.bind (R1 := RW X.K) s back_W p).mono (fun v H1 hh => ?_) fun _ _ _ e => e⟩
    obtain ⟨f1, h1, x, s1, q1, p1⟩ := hh
    cases et : tyName x h1 with
    | none => simp only [et] at p1; exact p1.elim
    | some t =>
      simp only [et] at p1
      exact ⟨v, .ty T, _, _, _, rfl, .ty T, tyX_of s1.sim q1 et, kit_ty (kit_all t (tyName_in et) T hT), p1 f1 H1 _ (.refl s1.sim) (rep_bl.mpr rfl)⟩

/-! ### the own heap is written -/
theorem Sim.put {f : List Addr} {h : PH} {H : Hp} (s : Sim K f h H) {n : Nat} {a : Addr} (hf : f[n]? = some a) {u : HO} {o' : OB} (ho : ObjR K f (upd H a u) o' a) (hm0 : ∀ o us, H a = some (.frz o (.dK us)) → False) : Step K f H f (h.set n o') (upd H a u) := by
  have g : Grow f H (upd H a u) := fun b w e hn => by rw [upd_ne (fun z => hn (by rw [z]; exact List.mem_of_getElem? hf))]; exact e
  refine ⟨.refl f, fun x a b => absurd a b, g, fun b o us e => by
    rw [upd_ne (fun z => hm0 o us (by rw [z] at e; exact e))]
    exact e, by rw [List.length_set]; exact s.len, s.nd, fun m ob e => ?_⟩
  by_cases hm : n = m
  · subst hm
    have hl : n < h.length := by rw [← s.len]; exact (List.getElem?_eq_some_iff.mp hf).1
    rw [List.getElem?_set_self hl] at e
    cases e
    exact ⟨a, hf, ho⟩
  · rw [List.getElem?_set_ne hm] at e
    obtain ⟨b, h1, h2⟩ := s.obj m ob e
    exact ⟨b, h1, h2.mono (.refl f) (s.stay g) (upd_ne fun z => hm (nd_inj s.nd hf (z ▸ h1)))⟩
theorem Sim.put_lst {f : List Addr} {h : PH} {H : Hp} (s : Sim K f h H) {n : Nat} {a : Addr} (hf : f[n]? = some a) {us : List V} {xs : List W} (r : Reps K f H xs us) (hm0 : ∀ o us, H a = some (.frz o (.dK us)) → False) : Step K f H f (h.set n (.lst xs)) (upd H a (.lst us)) := by
  have g : Grow f H (upd H a (.lst us)) := fun b w e hn => by rw [upd_ne (fun z => hn (by rw [z]; exact List.mem_of_getElem? hf))]; exact e
  exact s.put hf ⟨us, upd_same, Reps.mono (.refl f) (s.stay g) _ _ r⟩ hm0
theorem Sim.put_dK {f : List Addr} {h : PH} {H : Hp} (s : Sim K f h H) {n : Nat} {a : Addr} (hf : f[n]? = some a) {us : List (Key × V)} {xs : List (Key × W)} (r : KRep K f H xs us) (hm0 : ∀ o us, H a = some (.frz o (.dK us)) → False) : Step K f H f (h.set n (.dK xs)) (upd H a (.dK us)) := by
  have g : Grow f H (upd H a (.dK us)) := fun b w e hn => by rw [upd_ne (fun z => hn (by rw [z]; exact List.mem_of_getElem? hf))]; exact e
  exact s.put hf ⟨us, upd_same, KRep.mono (.refl f) (s.stay g) _ _ r⟩ hm0

/-! ### o[i] = v -/
def setW (x y w : W) (h : PH) : Option PH :=
  match x with
  | .ref n => match h[n]? with
    | some (.lst xs) => match y with
      | .int k => (ixN xs.length k).map fun j => h.set n (.lst (xs.set j w))
      | _ => none
    | some (.dK kvs) => match keyW y with
      | some k => if kvs.length < 16777216 then some (h.set n (.dK (putKW kvs k w))) else none
      | none => none
    | _ => none
  | _ => none
abbrev rSetAll : TSet := fun o i v H Q => rSetL o i v H Q ∨ rSetD o i v H Q
theorem set_all {k : Nat} (hr : Room k X.A) : PSet X rSetAll := by
  intro pins s σ H o i v ov iv u Q I ro ri rv h
  rcases h with h | h
  · exact set_list pins s σ H o i v ov iv u Q I ro ri rv h
  · exact set_dict (hu_of hr) pins s σ H o i v ov iv u Q I ro ri rv h
theorem setW_rule {f : List Addr} {h h' : PH} {H : Hp} {x y w : W} {o i v : V} {Q : Hp → Prop} (s : Sim K f h H) (rx : Rep K f H x o) (ry : Rep K f H y i) (rw' : Rep K f H w v) (e : setW x y w h = some h') (q : ∀ H', Step K f H f h' H' → Q H') : rSetAll o i v H Q := by
  unfold setW at e
  split at e
  · rename_i n
    split at e
    · rename_i xs hn
      split at e
      · rename_i k
        obtain ⟨j, e1, e2⟩ := Option.map_eq_some_iff.mp e
        cases e2
        obtain ⟨a, rfl, hf, vs, h1, h2⟩ := s.at hn rx
        exact .inl ⟨a, vs, k, j, rfl, rep_int.mp ry, h1, by rw [← h2.length]; exact e1, q _ (s.put_lst hf (h2.set rw' j) fun _ _ z => by rw [h1] at z; cases z)⟩
      · cases e
    · rename_i kvs hn
      split at e
      · rename_i k ek
        split at e
        · rename_i hl
          cases e
          obtain ⟨a, rfl, hf, vs, h1, h2⟩ := s.at hn rx
          refine .inr ⟨a, _, rfl, ?_, q _ (s.put_dK hf (h2.put rw' k) fun _ _ z => by rw [h1] at z; cases z)⟩
          rw [key_rep ek ry]
          exact DPut.k h1 (by rw [← h2.length, sizeLine_eq]; exact hl)
        · cases e
      · cases e
    · cases e
  · cases e
def sSetIx (me mo mi : EM) : SM := fun ps h => (me ps h).thenS ps fun w h1 => (mo ps h1).thenS ps fun x h2 => (mi ps h2).thenS ps fun y h3 => match setW x y w h3 with
  | some h4 => .nx ps h4
  | none => .stuck
theorem ss_setix {k : Nat} {v i : Expr} {me mo mi : EM} {pos' : Pos} (hr : Room k X.A) (hv : SE X W0 v me) (ho : SE X W0 o mo) (hi : SE X W0 i mi) (hs : swapsWithSole [.Subscript o i pos'] v pos.line X.env = pure false := by rfl) (hw : swappedStores [.Subscript o i pos'] v X.env = pure none := by rfl)
    (h1 : (assignEach [.Subscript o i pos'] X.env).map (·.2) = [assign (.Subscript o i pos') X.env] := by rfl)
    (ha : ∀ v, assign (.Subscript o i pos') X.env v = (do
      let ov ← holding [v] (eval o X.env)
      let iv ← holding [v, ov] (eval i X.env)
      standAt pos'
      holding [v, ov, iv] (setItem ov iv v)
      release [v, ov, iv] []) := by intro _; rfl) : SS X W0 (.Assign [.Subscript o i pos'] v pos) (sSetIx me mo mi) :=
  ps_imp (ps_asg hv (pg_sub ho hi (set_all hr) ha) hs hw h1) fun D σ H h => by
    obtain ⟨f, h, ps, s, sr, p⟩ := h
    refine ⟨f, h, ps, s, sr, (PostS.bind (R1 := RW X.K) s sr p).mono (fun v H1 hh => ?_) fun _ _ _ e => e⟩
    obtain ⟨f1, h1, w, s1, sr1, q1, p1⟩ := hh
    refine ⟨f1, h1, ps, s1.sim, sr1, (PostS.bind (R1 := RW X.K) s1.sim sr1 p1).mono (fun ov H2 hh => ?_) fun _ _ _ e => e⟩
    obtain ⟨f2, h2, x, s2, sr2, q2, p2⟩ := hh
    refine ⟨f2, h2, ps, s2.sim, sr2, (PostS.bind (R1 := RW X.K) s2.sim sr2 p2).mono (fun iv H3 hh => ?_) fun _ _ _ e => e⟩
    obtain ⟨f3, h3, y, s3, sr3, q3, p3⟩ := hh
    cases e : setW x y w h3 with
    | none => simp only [e] at p3; exact p3.elim
    | some h4 =>
      simp only [e] at p3
      exact setW_rule s3.sim (s3.rep s2.sim q2) q3 (s3.rep s2.sim (s2.rep s1.sim q1)) e fun H' st => p3 f3 H' σ st (st.srep s3.sim sr3)

/-! ### methods -/
def tyW (T : String) (x : W) (h : PH) : Bool := match x with
  | .str _ => T == "str"
  | .fix _ => T == "list"
  | .ref n => match h[n]? with
    | some (.lst _) => T == "list"
    | some (.dK _) => T == "dict"
    | _ => false
  | _ => false
theorem tyW_of {f : List Addr} {h : PH} {H : Hp} {x : W} {v : V} {T : String} (s : Sim K f h H) (r : Rep K f H x v) (e : tyW T x h = true) : tyV K T v H := by
  cases x with
  | str z => rw [rep_str.mp r]; exact (show T = "str" by simpa [tyW] using e)
  | fix xs =>
    obtain ⟨a, vs, rfl, h1, _⟩ := rep_fix.mp r
    exact .inl ⟨by simpa [tyW] using e, _, h1.seq⟩
  | ref n =>
    simp only [tyW] at e
    split at e
    · rename_i xs hn
      obtain ⟨a, rfl, _, vs, h1, _⟩ := s.at hn r
      exact .inl ⟨by simpa using e, _, SqL.of h1⟩
    · rename_i xs hn
      obtain ⟨a, rfl, _, vs, h1, _⟩ := s.at hn r
      exact .inr (.inr (.inl ⟨by simpa using e, .inl ⟨_, h1⟩⟩))
    · cases e
  | _ => cases e
/-- a method by a computation; a list told is one that none will change -/
def OpMt (K : PySem.W.Frag) (r : V → List V → Hp → VK → Prop) (o : W → List W → PH → Option (W × PH)) : Prop :=
  ∀ (f : List Addr) (h : PH) (H : Hp) (x : W) (v : V) (xs : List W) (vs : List V) (Q : VK) (E : XK), Sim K f h H → Rep K f H x v → Reps K f H xs vs → Post K (RW K) f H (.ofO (o x xs h)) Q E → r v vs H (QF Q)
def mMt (T : String) (o : W → List W → PH → Option (W × PH)) (m : EM) (l : LM) : EM := fun ps h => (m ps h).bind fun x h1 => if tyW T x h1 = true then (l ps h1).bind fun xs h2 => .ofO (o x xs h2) else .stuck
variable {T id : String} {name : Str} {apos cpos : Pos} {r : V → List V → Hp → VK → Prop} {om : W → List W → PH → Option (W × PH)}
theorem se_mt (pa : PlainAttrs T) (slot : Slot T name id) (hty : typeOf (.builtin id) = pure (.type "method_descriptor")) (hm : MtR X id r) (hop : OpMt X.K r om) (ho : SE X W0 o m) (ha : SA X W0 (e :: es) l)
    (hbase : attributeBase o name X.env (eval o X.env) = eval o X.env := by rfl)
    (hfew : ((backTo cpos (starEach (e :: es) X.env)).all (fun x => !x.1) && (backToKw cpos (keywordEach [] X.env)).all (fun x => x.1.isSome)
      && decide ((e :: es).length + ([] : List Keyword).length + (if ([] : List Keyword).isEmpty then 0 else 1) < 30)) = true := by rfl)
    (hline : (apos.endLine == cpos.line) = true := by rfl) (hs : starEach (e :: es) X.env = (false, eval e X.env) :: starEach es X.env := by rfl) (hplain : (backTo cpos (starEach es X.env)).any (·.1) = false := by rfl) :
    SE X W0 (.Call (.Attribute o name apos) (e :: es) [] cpos) (mMt T om m l) :=
  pe_imp (pe_frz (pe_bm pa slot hty hm ho ha hbase hfew hline hs hplain)) fun σ H Q h => by
    obtain ⟨f, h, ps, s, sr, p⟩ := h
    refine ⟨f, h, ps, s, sr, (Post.bind (R1 := RW X.K) s back_W p).mono (fun v H1 hh => ?_) fun _ _ _ e => e⟩
    obtain ⟨f1, h1, x, s1, q1, p1⟩ := hh
    split at p1
    · rename_i ht
      refine ⟨tyW_of s1.sim q1 ht, f1, h1, ps, s1.sim, s1.srep s sr, (Post.bind (R1 := RA X.K) s1.sim back_W p1).mono (fun vs H2 hh => ?_) fun _ _ _ e => e⟩
      obtain ⟨f2, h2, xs, s2, q2, p2⟩ := hh
      exact hop f2 h2 H2 x v xs vs Q _ s2.sim (s2.rep s1.sim q1) q2 p2
    · exact p1.elim
theorem se_mt0 (pa : PlainAttrs T) (slot : Slot T name id) (hty : typeOf (.builtin id) = pure (.type "method_descriptor")) (hm : MtR X id r) (hop : OpMt X.K r om) (ho : SE X W0 o m)
    (hbase : attributeBase o name X.env (eval o X.env) = eval o X.env := by rfl) (hline : (apos.endLine == cpos.line) = true := by rfl) :
    SE X W0 (.Call (.Attribute o name apos) [] [] cpos) (mMt T om m mNil) :=
  pe_imp (pe_frz (pe_bm0 pa slot hty hm ho hbase hline)) fun σ H Q h => by
    obtain ⟨f, h, ps, s, sr, p⟩ := h
    refine ⟨f, h, ps, s, sr, (Post.bind (R1 := RW X.K) s back_W p).mono (fun v H1 hh => ?_) fun _ _ _ e => e⟩
    obtain ⟨f1, h1, x, s1, q1, p1⟩ := hh
    split at p1
    · rename_i ht
      exact ⟨tyW_of s1.sim q1 ht, hop f1 h1 H1 x v [] [] Q _ s1.sim q1 .nil p1⟩
    · exact p1.elim
/-- xs.append(x) -/
def wAppend (x : W) (xs : List W) (h : PH) : Option (W × PH) := match x, xs with
  | .ref n, [y] => match h[n]? with
    | some (.lst zs) => if zs.length < 16777216 then some (.non, h.set n (.lst (zs ++ [y]))) else none
    | _ => none
  | _, _ => none
theorem op_append : OpMt K rAppend wAppend := by
  intro f h H x v xs vs Q E s rx rxs p
  unfold wAppend at p
  split at p
  · rename_i n y
    split at p
    · rename_i zs hn
      split at p
      · rename_i hl
        obtain ⟨a, rfl, hf, us, h1, h2⟩ := s.at hn rx
        obtain ⟨u, rfl, ru⟩ := rxs.one_inv
        exact ⟨a, us, u, rfl, rfl, h1, by rw [← h2.length, sizeLine_eq]; exact hl, .inl (p f _ _ (s.put_lst hf (h2.append (.one ru)) fun _ _ z => by rw [h1] at z; cases z) (rep_non.mpr rfl))⟩
      · exact p.elim
    · exact p.elim
  · exact p.elim
theorem se_append {e1 : Expr} {m1 : EM} (hmt : MtR X "list.append" rAppend) (ho : SE X W0 o m) (ha : SE X W0 e1 m1) (hbase : attributeBase o "append" X.env (eval o X.env) = eval o X.env := by rfl)
    (hfew : ((backTo cpos (starEach [e1] X.env)).all (fun x => !x.1) && (backToKw cpos (keywordEach [] X.env)).all (fun x => x.1.isSome)
      && decide (([e1] : List Expr).length + ([] : List Keyword).length + (if ([] : List Keyword).isEmpty then 0 else 1) < 30)) = true := by rfl)
    (hline : (apos.endLine == cpos.line) = true := by rfl) (hs : starEach [e1] X.env = [(false, eval e1 X.env)] := by rfl) : SE X W0 (.Call (.Attribute o "append" apos) [e1] [] cpos) (mMt "list" wAppend m (mCons m1 mNil)) :=
  se_mt PySem.F.plainAttrs_list PySem.F.slot_list_append PySem.F.type_list_append hmt op_append ho (sa_cons ha sa_nil hs) hbase hfew hline hs

/-! ### dict displays -/
def mPairs : List (EM × EM) → LS → PH → Res (List (W × W))
  | [], _, h => .ok [] h
  | (mk, mv) :: r, ps, h => (mk ps h).bind fun x h1 => (mv ps h1).bind fun y h2 => (mPairs r ps h2).bind fun zs h3 => .ok ((x, y) :: zs) h3
def keysOf : List (W × W) → Option (List (Key × W))
  | [] => some []
  | (x, y) :: r => match keyW x, keysOf r with
    | some k, some s => some ((k, y) :: s)
    | _, _ => none
def mergeW (kvs more : List (Key × W)) : List (Key × W) := more.foldl (fun acc kv => putKW acc kv.1 kv.2) kvs
def mDisp (l : List (EM × EM)) : EM := fun ps h => (mPairs l ps h).bind fun zs h1 => match keysOf zs with
  | some kvs => if kvs.length ≤ 15 then .ok (.ref h1.length) (h1 ++ [.dK (mergeW [] kvs)]) else .stuck
  | none => .stuck
abbrev RP (K : PySem.W.Frag) : RR (List (W × W)) (List (V × V)) := fun _ f H ws vs => Reps K f H (ws.map (·.1)) (vs.map (·.1)) ∧ Reps K f H (ws.map (·.2)) (vs.map (·.2))
theorem back_P : Back K (RP K) := fun _ _ _ _ _ _ _ _ _ _ _ _ q => q
abbrev tMs (K : PySem.W.Frag) (W0 : WX) (l : List (EM × EM)) : List (TE × TE) := l.map fun p => (tE K W0 p.1, tE K W0 p.2)
abbrev SPs (X : Cx) (W0 : WX) (pos : Pos) (keys : List (Option Expr)) (values : List Expr) (l : List (EM × EM)) : Prop := PPs X pos keys values (tMs X.K W0 l)
theorem sps_nil : SPs X W0 pos [] [] [] := pps_nil
theorem sps_cons {k v : Expr} {ks : List (Option Expr)} {vs : List Expr} {mk mv : EM} {r : List (EM × EM)} (hk : SE X W0 k mk) (hv : SE X W0 v mv) (hr : SPs X W0 pos ks vs r) : SPs X W0 pos (some k :: ks) (v :: vs) ((mk, mv) :: r) := pps_cons hk hv hr
theorem tPairs_of : ∀ (l : List (EM × EM)) (f : List Addr) (h : PH) (H : Hp) (ps : LS) (σ : L2.St) (Q : List (V × V) → Hp → Prop), Sim K f h H → SRep K f H ps σ → Post K (RP K) f H (mPairs l ps h) Q (fun c d H' => W0 c d σ H') → tPairs (tMs K W0 l) σ H Q
  | [], f, h, H, ps, σ, Q, s, sr, p => p f H [] (.refl s) ⟨.nil, .nil⟩
  | (mk, mv) :: r, f, h, H, ps, σ, Q, s, sr, p => by
    refine ⟨f, h, ps, s, sr, (Post.bind (R1 := RW K) s back_P p).mono (fun v H1 hh => ?_) fun _ _ _ e => e⟩
    obtain ⟨f1, h1, x, s1, q1, p1⟩ := hh
    refine ⟨f1, h1, ps, s1.sim, s1.srep s sr, (Post.bind (R1 := RW K) s1.sim back_P p1).mono (fun u H2 hh => ?_) fun _ _ _ e => e⟩
    obtain ⟨f2, h2, y, s2, q2, p2⟩ := hh
    refine tPairs_of r f2 h2 H2 ps σ _ s2.sim (s2.srep s1.sim (s1.srep s sr)) ((Post.bind (R1 := RP K) s2.sim back_P p2).mono (fun us H3 hh => ?_) fun _ _ _ e => e)
    obtain ⟨f3, h3, zs, s3, q3, p3⟩ := hh
    exact p3 f3 H3 _ (.refl s3.sim) ⟨.cons (s3.rep s2.sim (s2.rep s1.sim q1)) q3.1, .cons (s3.rep s2.sim q2) q3.2⟩
theorem keys_rep {f : List Addr} {H : Hp} : ∀ {zs : List (W × W)} {vs : List (V × V)} {kvs : List (Key × W)}, keysOf zs = some kvs → Reps K f H (zs.map (·.1)) (vs.map (·.1)) → Reps K f H (zs.map (·.2)) (vs.map (·.2)) →
    ∃ us : List (Key × V), vs = us.map (fun kv => (kV kv.1, kv.2)) ∧ KRep K f H kvs us
  | [], vs, kvs, e, r1, r2 => by
    cases e
    have := r1.nil_inv
    cases vs with
    | nil => exact ⟨[], rfl, rfl⟩
    | cons a b => cases this
  | (x, y) :: t, vs, kvs, e, r1, r2 => by
    simp only [keysOf] at e
    split at e
    · rename_i k s ek es
      cases e
      cases vs with
      | nil => obtain ⟨v, r, z, _⟩ := r1.cons_inv; cases z
      | cons ab r =>
        obtain ⟨a, b⟩ := ab
        obtain ⟨v1, t1, z1, a1, a2⟩ := r1.cons_inv
        obtain ⟨v2, t2, z2, b1, b2⟩ := r2.cons_inv
        cases z1
        cases z2
        obtain ⟨us, rfl, kr⟩ := keys_rep es a2 b2
        exact ⟨(k, b) :: us, by rw [List.map_cons, ← key_rep ek a1], b, us, rfl, b1, kr⟩
    · cases e
theorem merge_rep {f : List Addr} {H : Hp} : ∀ {kvs : List (Key × W)} {us : List (Key × V)} {a : List (Key × W)} {b : List (Key × V)}, KRep K f H kvs us → KRep K f H a b → KRep K f H (mergeW a kvs) (mergeK b us)
  | [], us, a, b, r, q => by
    have r : us = [] := r
    subst r
    exact q
  | (k, w) :: t, us, a, b, r, q => by
    obtain ⟨v, s, rfl, r1, r2⟩ := r
    show KRep K f H (mergeW (putKW a k w) t) (mergeK (putK b k v) s)
    exact merge_rep r2 (q.put r1 k)
theorem Step.take_in {f f1 : List Addr} {h1 : PH} {H H1 : Hp} (st : Step K f H f1 h1 H1) {q : Addr} {o : OB} (hq : H q = none) (nq : q ∉ f1) (ho : ObjR K f1 H1 o q) : Step K f H (f1 ++ [q]) (h1 ++ [o]) H1 :=
  ⟨st.ext.trans (.snoc f1 q), fun x hx hn => by
    rcases List.mem_append.mp hx with m | m
    · exact st.new x m hn
    · rw [List.mem_singleton] at m
      rw [m]
      exact hq, st.grow, st.lk, st.sim.take_in nq ho⟩
theorem Step.own_dict {f f1 : List Addr} {h1 : PH} {H H1 : Hp} (st : Step K f H f1 h1 H1) {D : Addr} {vs us : List (Key × V)} (hD : H D = none) (nd : D ∉ f1) (e : H1 D = some (.dK vs)) : Step K f H f1 h1 (upd H1 D (.dK us)) ∧ Stay K H1 (upd H1 D (.dK us)) := by
  have key : ∀ a u, H1 a = some u → (∀ xs, u ≠ .dK xs) → upd H1 D (.dK us) a = some u := fun a u e2 n => by
    rw [upd_ne (fun z => by subst z; rw [e] at e2; cases e2; exact n _ rfl)]
    exact e2
  have sty : Stay K H1 (upd H1 D (.dK us)) := by
    refine ⟨fun a xs r => ?_, fun a xs r => ?_, fun a φ r => key _ _ r (fun _ z => by cases z), fun a gs r => key _ _ r (fun _ z => by cases z)⟩
    · rcases r with (r | ⟨o, r⟩) | r
      · exact .inl (.inl (key _ _ r (fun _ z => by cases z)))
      · exact .inl (.inr ⟨o, key _ _ r (fun _ z => by cases z)⟩)
      · exact .inr r
    · rcases r with ⟨o, r⟩ | r
      · exact .inl ⟨o, key _ _ r (fun _ z => by cases z)⟩
      · exact .inr r
  exact ⟨⟨st.ext, st.new, fun a u ea na => by
    rw [upd_ne (fun z => by subst z; rw [hD] at ea; cases ea)]
    exact st.grow a u ea na, fun a o vs ea => by
    have := st.lk a o vs ea
    rw [upd_ne (fun z => by subst z; rw [e] at this; cases this)]
    exact this, st.sim.len, st.sim.nd, fun n ob q => by
    obtain ⟨a, h1, h2⟩ := st.sim.obj n ob q
    exact ⟨a, h1, h2.mono (.refl f1) sty (upd_ne fun z => nd (z ▸ List.mem_of_getElem? h1))⟩⟩, sty⟩
theorem tE_disp {l : List (EM × EM)} {σ : L2.St} {H : Hp} {Q : VK} (h : tE K W0 (mDisp l) σ H Q) : tDisp (tMs K W0 l) σ H Q := by
  obtain ⟨f, h, ps, s, sr, p⟩ := h
  intro q hq
  have st := s.other (o := .dK []) hq
  have nq := s.fresh hq
  refine tPairs_of l f h _ ps σ _ st.sim (st.srep s sr) ?_
  have p : Post K (RW K) f H ((mPairs l ps h).bind _) Q _ := p
  cases e : mPairs l ps h with
  | stuck => rw [e] at p; exact p.elim
  | exc x h1 =>
    rw [e] at p
    exact fun f1 H1 c d s1 xr => p f1 H1 c d (st.trans s1) xr
  | ok zs h1 =>
    rw [e] at p
    intro f1 H1 vs s1 r1
    have p : Post K (RW K) f H (match keysOf zs with
      | some kvs => if kvs.length ≤ 15 then .ok (.ref h1.length) (h1 ++ [.dK (mergeW [] kvs)]) else .stuck
      | none => .stuck) Q _ := p
    cases ek : keysOf zs with
    | none => rw [ek] at p; exact p.elim
    | some kvs =>
      rw [ek] at p
      dsimp only at p
      split at p
      · rename_i hl
        obtain ⟨us, rfl, kr⟩ := keys_rep ek r1.1 r1.2
        have e0 : H1 q = some (.dK []) := s1.grow q _ upd_same nq
        have nq1 : q ∉ f1 := fun m => by
          have := s1.new q m nq
          rw [upd_same] at this
          cases this
        obtain ⟨s2, sty⟩ := (st.trans s1).own_dict (us := mergeK [] us) hq nq1 e0
        refine ⟨e0, us, rfl, by rw [← kr.length]; exact hl, p (f1 ++ [q]) _ _ (s2.take_in hq nq1 ⟨_, upd_same, KRep.mono (.refl f1) sty _ _ (merge_rep kr rfl)⟩) ?_⟩
        simp only [Rep]
        refine ⟨q, rfl, ?_⟩
        rw [List.getElem?_append_right (by rw [s1.sim.len]; omega), s1.sim.len]
        simp
      · exact p.elim
theorem se_dict {keys : List (Option Expr)} {values : List Expr} {l : List (EM × EM)} (hp : SPs X W0 pos keys values l) (hall : keys.all (·.isSome) = true := by rfl) (hl : keys.length = values.length := by rfl) (h0 : keys ≠ [] := by exact List.cons_ne_nil _ _)
    (h15 : keys.length ≤ 15 := by decide) : SE X W0 (.Dict keys values pos) (mDisp l) := pe_imp (pe_disp hp hall hl h0 h15) fun σ H Q h => tE_disp h
def mDict0 : EM := fun _ h => .ok (.ref h.length) (h ++ [.dK []])
theorem se_dict0 : SE X W0 (.Dict [] [] pos) mDict0 := pe_imp pe_dnewK fun σ H Q h => by
  obtain ⟨f, h, ps, s, sr, p⟩ := h
  intro q hq
  have st := s.other (o := .dK []) hq
  refine p (f ++ [q]) _ _ (st.take_in hq (s.fresh hq) ⟨[], upd_same, rfl⟩) ?_
  simp only [Rep]
  refine ⟨q, rfl, ?_⟩
  rw [List.getElem?_append_right (by rw [s.len]; omega), s.len]
  simp
end
/-- what is never come to -/
def sDead : SM := fun _ _ => .stuck
theorem ss_dead {X : Cx} {W0 : WX} {st : Stmt} : SS X W0 st sDead := ⟨fun pins s σ H D I h => by
  obtain ⟨f, h, ps, s, sr, p⟩ := h
  exact p.elim⟩
def big : Nat := 16777217
end Mir

/-! Mir: repr, join; the law's head. -/
namespace Mir
open PySem PySem.Spec PyProof.Rows L2

/-! ### repr -/
def wRepr : List W → PH → Option (W × PH)
  | [.str z], h => if (reprText z).length ≤ 16777216 then some (.str (reprText z), h) else none
  | [.int i], h => if i.natAbs.log2 < 1920 then some (.str (toString i), h) else none
  | [.tup xs], h => match dat h (.tup xs) with
    | some d => if d.showable = true ∧ d.hasDict = false ∧ d.depth ≤ 100 ∧ d.shown.length ≤ 16777216 then some (.str d.shown, h) else none
    | none => none
  | [.fix xs], h => match dat h (.fix xs) with
    | some d => if d.showable = true ∧ d.hasDict = false ∧ d.depth ≤ 100 ∧ d.shown.length ≤ 16777216 then some (.str d.shown, h) else none
    | none => none
  | [.ref n], h => match dat h (.ref n) with
    | some d => if d.showable = true ∧ d.hasDict = false ∧ d.depth ≤ 100 ∧ d.shown.length ≤ 16777216 then some (.str d.shown, h) else none
    | none => none
  | _, _ => none
abbrev rRepr (K : PySem.W.Frag) : List V → Hp → VK → Prop := fun xs H Q => (∃ a d, xs = [.ref a] ∧ Dp K H (.ref a) d ∧ d.showable = true ∧ d.hasDict = false ∧ d.depth ≤ 100 ∧ d.shown.length ≤ 16777216 ∧ Q (.str d.shown) H) ∨
  (∃ z, xs = [.str z] ∧ (reprText z).length ≤ 16777216 ∧ Q (.str (reprText z)) H) ∨ ∃ i, xs = [.int i] ∧ i.natAbs.log2 < 1920 ∧ Q (.str (toString i)) H
section
variable {K : PySem.W.Frag} {X : Cx} {W0 : WX} {e o : Expr} {es : List Expr} {m : EM} {l : LM} {p p2 pos : Pos}
theorem c_repr {k : Nat} (hr : Room k X.A) (gd : Gd X.A) : CallR X (.builtin "repr") (rRepr X.K) := by
  intro pins s σ H xs us Q I rv h
  rcases h with ⟨a, d, rfl, dp, h1, h2, h3, h4, q⟩ | ⟨z, rfl, hz, q⟩ | ⟨i, rfl, hi, q⟩
  · obtain ⟨u, rfl, ru⟩ := vals1 rv
    cases (show u = Value.ref a from ru)
    obtain ⟨as, rd⟩ := Dp.reads I d _ _ dp (show RelV (V.ref a) (Value.ref a) from rfl)
    have hu := hr.units
    refine PySem.repr_of_reads' rd h1 (PyData.noDict_hsm h2) gd ?_ (fun _ _ e => e) (fun h' t tk keep => ?_) (by rw [sizeLine_eq]; exact h4)
    · have : cLine ≥ X.A.units + 200 := by have := hr.un; omega
      omega
    · exact ⟨.str d.shown, H, I.kept (t' := tk) keep, ⟨t, rfl⟩, q⟩
  · obtain ⟨u, rfl, t, rfl⟩ := vals1 rv
    exact PySem.P.repr_of_str ⟨.str _, H, I.tok _, ⟨_, rfl⟩, q⟩ (by rw [sizeLine_eq]; exact hz)
  · exact SkE.call_repr_int pins s σ H _ us Q I rv ⟨i, rfl, hi, q⟩
theorem o_repr : OpC K (rRepr K) wRepr := by
  intro f h H xs vs Q E s r p
  unfold wRepr at p
  split at p
  · obtain ⟨v, rfl, r1⟩ := r.one_inv
    split at p
    · rename_i c
      exact .inr (.inl ⟨_, by rw [rep_str.mp r1], c, post_ok s p (rep_str.mpr rfl)⟩)
    · exact p.elim
  · obtain ⟨v, rfl, r1⟩ := r.one_inv
    split at p
    · rename_i c
      exact .inr (.inr ⟨_, by rw [rep_int.mp r1], c, post_ok s p (rep_str.mpr rfl)⟩)
    · exact p.elim
  · obtain ⟨v, rfl, r1⟩ := r.one_inv
    split at p
    · rename_i d e
      split at p
      · rename_i c
        have dd := dp s e r1
        obtain ⟨a, us, rfl, _⟩ := rep_tup.mp r1
        exact .inl ⟨a, d, rfl, dd, c.1, c.2.1, c.2.2.1, c.2.2.2, post_ok s p (rep_str.mpr rfl)⟩
      · exact p.elim
    · exact p.elim
  · obtain ⟨v, rfl, r1⟩ := r.one_inv
    split at p
    · rename_i d e
      split at p
      · rename_i c
        have dd := dp s e r1
        obtain ⟨a, us, rfl, _⟩ := rep_fix.mp r1
        exact .inl ⟨a, d, rfl, dd, c.1, c.2.1, c.2.2.1, c.2.2.2, post_ok s p (rep_str.mpr rfl)⟩
      · exact p.elim
    · exact p.elim
  · obtain ⟨v, rfl, r1⟩ := r.one_inv
    split at p
    · rename_i d e
      split at p
      · rename_i c
        have dd := dp s e r1
        simp only [Rep] at r1
        obtain ⟨a, rfl, _⟩ := r1
        exact .inl ⟨a, d, rfl, dd, c.1, c.2.1, c.2.2.1, c.2.2.2, post_ok s p (rep_str.mpr rfl)⟩
      · exact p.elim
    · exact p.elim
  · exact p.elim

/-! ### join -/
def wJoin (x : W) (xs : List W) (h : PH) : Option (W × PH) := match x, xs with
  | .str a, [y] => match (seqOf y h).bind strsW with
    | some ys => if (ys.map (·.length)).sum + ys.length * a.length ≤ 16777216 then some (.str (Txt.join a ys), h) else none
    | none => none
  | _, _ => none
abbrev rJoin (K : PySem.W.Frag) : V → List V → Hp → VK → Prop := fun x xs H Q => ∃ a p, ∃ ys : List Str, x = .str a ∧ xs = [.ref p] ∧ (SqL K H p (ys.map V.str) ∨ SqT K H p (ys.map V.str)) ∧ (ys.map (·.length)).sum + ys.length * a.length ≤ 16777216 ∧ Q (.str (Txt.join a ys)) H
theorem op_join : OpMt K (rJoin K) wJoin := by
  intro f h H x v xs vs Q E s rx rxs p
  unfold wJoin at p
  split at p
  · rename_i a y
    obtain ⟨u, rfl, ru⟩ := rxs.one_inv
    split at p
    · rename_i ys e
      obtain ⟨ws, e1, e2⟩ := Option.bind_eq_some_iff.mp e
      split at p
      · rename_i c
        obtain ⟨b, us, rfl, hq, r2⟩ := seqOf_rep s ru e1
        have := strsW_rep e2 r2
        subst this
        exact ⟨a, b, ys, rep_str.mp rx, rfl, hq, c, .inl (post_ok s p (rep_str.mpr rfl))⟩
      · exact p.elim
    · exact p.elim
  · exact p.elim
variable {apos cpos : Pos}
theorem se_join {e1 : Expr} {m1 : EM} (ho : SE X W0 o m) (ha : SE X W0 e1 m1) (hbase : attributeBase o "join" X.env (eval o X.env) = eval o X.env := by rfl)
    (hfew : ((backTo cpos (starEach [e1] X.env)).all (fun x => !x.1) && (backToKw cpos (keywordEach [] X.env)).all (fun x => x.1.isSome)
      && decide (([e1] : List Expr).length + ([] : List Keyword).length + (if ([] : List Keyword).isEmpty then 0 else 1) < 30)) = true := by rfl)
    (hline : (apos.endLine == cpos.line) = true := by rfl) (hs : starEach [e1] X.env = [(false, eval e1 X.env)] := by rfl) : SE X W0 (.Call (.Attribute o "join" apos) [e1] [] cpos) (mMt "str" wJoin m (mCons m1 mNil)) :=
  se_mt PySem.F.plainAttrs_str PySem.F.slot_str_join PySem.F.type_str_join mt_join op_join ho (sa_cons ha sa_nil hs) hbase hfew hline hs
end

/-! ### the head -/
/-- the law's script as it stands at the entry -/
def hScript (K : PySem.W.Frag) (a : Addr) (vs : List Value) (ns : List Int) : Hp := fun b => match K.lookup a with
  | some _ => none
  | none => if b = a then some (.frz { cls := .type "list", data := .seq vs.toArray } (.lst (ns.map V.int))) else none
theorem hScript_is {K : PySem.W.Frag} {a b : Addr} {vs : List Value} {ns : List Int} {u : HO} (e : hScript K a vs ns b = some u) : b = a ∧ K.lookup a = none ∧ u = .frz { cls := .type "list", data := .seq vs.toArray } (.lst (ns.map V.int)) := by
  unfold hScript at e
  split at e
  · cases e
  · rename_i q
    by_cases hb : b = a
    · rw [if_pos hb] at e
      cases e
      exact ⟨hb, q, rfl⟩
    · rw [if_neg hb] at e
      cases e
/-- what the law is to show: over the empty own heap, its script a list that never changes -/
def LawOk (F : FM) : Prop := ∀ ns : List Int, ns.length ≤ 63 → (∀ z ∈ ns, Builtin.Int.intBits z ≤ 1048576) → ∃ g, F [.fix (ns.map W.int)] [] = .ok (.bl true) g
theorem head_run {P : Program} {w : World} {K : PySem.W.Frag} {mg mb : Str → Option Value} {k : Nat} {fa a : Addr} {fd : FuncData} {x : Str} {t : Shared} {vs : List Value} {ns : List Int} {F : FM} (kin : K.In t.heap) (nsg : t.heap.Ns mainGlobals mg) (nsb : t.heap.Ns builtinsNs mb)
    (blt : ∀ x : Str, x ≠ "__name__" → mb x = bootBuiltins x) (lim : t.heap.NoLimit) (gens : t.gens = #[]) (at0 : t.heap.get? a = some { cls := .type "list", data := .seq vs.toArray }) (iv : IntsAre vs ns) (len : ns.length ≤ 63) (bits : ∀ z ∈ ns, Builtin.Int.intBits z ≤ 1048576) (room : Room k callerA)
    (FK : ∀ base : Heap, K.In base → base.Ns mainGlobals mg → FnG P w K mg base k fa fd [x] (SPm K 1 F)) (bnd : ∀ (s : Shared) (u : Value), BindsTo s fd ⟨[u], []⟩ [(x, u)]) (law : LawOk F) :
    codeAny (model P w) callerA (.call (.ref fa) ⟨[.ref a], []⟩) (fun r t' => r = .ok (.ret (.bool true)) ∧ OldK t.heap t'.heap ∧ t'.os = t.os ∧ AllBare t'.gens) t := by
  have rv := vals_ints iv
  have short : ns.length ≤ sizeLine := Nat.le_trans len (by rw [sizeLine_eq]; decide)
  let H := hScript K a vs ns
  have hok : HOk P w H t.heap := fun b u e => by
    obtain ⟨rfl, _, rfl⟩ := hScript_is e
    exact ⟨at0, by rw [List.length_map]; exact short, vs, _, rv, at0⟩
  have fixed : FixL K H a (ns.map V.int) := by
    cases q : K.lookup a with
    | some o =>
      have e := kin a o q
      rw [at0] at e
      cases e
      exact .inr ⟨_, vs.toArray, _, q, rfl, rfl, rfl, by rw [List.size_toArray, iv.length]; exact short, by simpa using rv⟩
    | none => exact .inl ⟨_, by show hScript K a vs ns a = _; unfold hScript; rw [q]; exact if_pos rfl⟩
  have clear : ∀ {b : Addr} {o : Obj}, t.heap.get? b = some o → (b = a → K.lookup a = none → False) → (hidT t.heap H).get? b = some o := fun {b o} e z => hidT_get e (by
    cases q : H b with
    | none => rfl
    | some u =>
      obtain ⟨e1, e2, _⟩ := hScript_is q
      exact (z e1 e2).elim)
  have spaces : ∀ {b : Addr} {m : Str → Option Value}, t.heap.Ns b m → (hidT t.heap H).Ns b m := fun {b m} hh => by
    obtain ⟨o, es, ep, e, d, r⟩ := hh
    refine ⟨o, es, ep, clear e fun z _ => ?_, d, r⟩
    subst z
    rw [at0] at e
    cases e
    cases d
  have kin2 : K.In (hidT t.heap H) := fun b o e => clear (kin b o e) fun z q => by
    subst z
    rw [e] at q
    cases q
  have e0 : Env0 P w K mg (hidT t.heap H) callerA [] t H := ⟨rfl, ⟨kin2, spaces nsg, ⟨mb, spaces nsb, blt⟩, by obtain ⟨mc, h1, h2⟩ := lim; exact ⟨mc, spaces h1, h2⟩⟩, fun b o e => of_hidT e, Nat.le_of_eq (hidT_size _ _), trivial,
    fun b hb => (by cases hb), hok, .of_eq gens⟩
  obtain ⟨g, eg⟩ := law ns len bits
  have goal : SPm K 1 F [.ref a] H (fun v _ => v = .bl true) fun _ _ _ => False := by
    refine ⟨rfl, [], [], [.fix (ns.map W.int)], ⟨rfl, List.nodup_nil, fun n o e => by simp at e⟩, .one (rep_fix.mpr ⟨a, _, rfl, fixed, reps_ints ns⟩), ?_⟩
    rw [eg]
    exact fun f' H' v s' r => rep_bl.mp r
  refine codeAny_mono ((FK _ kin2 (spaces nsg)).run callerA [] t H ⟨[.ref a], []⟩ [.ref a] [.ref a] _ _ room rfl e0 (bnd t (.ref a)) (.cons rfl .nil) goal) ?_
  rintro (er | fl) t2 h
  · obtain ⟨_, _, _, _, _, _, _, _, _, _, _, _, z⟩ := h
    exact z.elim
  · cases fl with
    | ret u =>
      obtain ⟨v, H2, os, bare, un, hok2, ru, q⟩ := h
      have q : v = .bl true := q
      subst q
      cases (show u = Value.bool true from ru)
      refine ⟨rfl, OldK.of_keep fun b o e => ?_, os, bare⟩
      cases q : H b with
      | none => exact un.keep b o e q (fun z => by cases z) (fun z => by cases z)
      | some u =>
        obtain ⟨rfl, _, rfl⟩ := hScript_is q
        rw [at0] at e
        cases e
        exact (hok2 _ _ (un.frzs _ _ _ q)).1
    | _ => exact False.elim h
theorem walk_m {l : PySem.W.OpenLaw} {k : Nat} {q : Program} {loose : List Str} {XP : (Str → Option Value) → Heap → Prop} {YP : World → Heap → Prop} {d : DefRec} {K : Params → PySem.W.Frag} {x : Str} {F : FM} (hn : l.most = some 63) (hdf : d.params.defaults = []) (room : Room k callerA)
    (hY : ∀ (w : World) (h : Heap), YP w h → (K w.params).In h) (law : LawOk F)
    (FK : ∀ (w : World) (mg : Str → Option Value) (fa : Addr) (h : Heap), (K w.params).In h → h.Ns mainGlobals mg → mg d.name = some (.ref fa) →
      ∃ fd : FuncData, (∀ (s : Shared) (u : Value), BindsTo s fd ⟨[u], []⟩ [(x, u)]) ∧ ∀ base : Heap, (K w.params).In base → base.Ns mainGlobals mg → FnG l.prog w (K w.params) mg base k fa fd [x] (SPm (K w.params) 1 F)) :
    PySem.W.WalkO q loose XP YP l.row.toRowW d [] (fun f vs => PySem.call f vs) := by
  refine Att.attach_callB hn hdf fun w s₀ t mg mb fa o pm cd doc a vs ns G Y ho hd hcd hmg at0 iv len bits gens => ?_
  obtain ⟨fd, bnd, FF⟩ := FK w mg fa _ (hY w _ Y) G.T.g hmg
  exact head_run (hY w _ Y) G.T.g G.T.b G.T.builtins G.T.nolimit gens at0 iv len bits room FF bnd law
end Mir

/-! Mir: a def run alone, upon nothing or upon one thing of the heap; what it makes is carried out. -/
namespace Mir
open PySem PySem.Spec PyProof.Rows L2

mutual
def refsW : W → List Nat
  | .tup xs => refsWs xs
  | .fix xs => refsWs xs
  | .ref n => [n]
  | _ => []
def refsWs : List W → List Nat
  | [] => []
  | x :: xs => refsW x ++ refsWs xs
end
def refsK {κ : Type} : List (κ × W) → List Nat
  | [] => []
  | (_, x) :: r => refsW x ++ refsK r
def refsO : OB → List Nat
  | .lst xs => refsWs xs
  | .dK kvs => refsK kvs
  | .ins _ fs => refsK fs
  | .lk kvs => refsK kvs
mutual
def renW (f : Nat → Nat) : W → W
  | .tup xs => .tup (renWs f xs)
  | .fix xs => .fix (renWs f xs)
  | .ref n => .ref (f n)
  | .non => .non
  | .bl b => .bl b
  | .int i => .int i
  | .str x => .str x
  | .exc x => .exc x
def renWs (f : Nat → Nat) : List W → List W
  | [] => []
  | x :: xs => renW f x :: renWs f xs
end
def renK {κ : Type} (f : Nat → Nat) : List (κ × W) → List (κ × W)
  | [] => []
  | (k, x) :: r => (k, renW f x) :: renK f r
def renO (f : Nat → Nat) : OB → OB
  | .lst xs => .lst (renWs f xs)
  | .dK kvs => .dK (renK f kvs)
  | .ins C fs => .ins C (renK f fs)
  | .lk kvs => .lk (renK f kvs)
section
variable {M : Nat → Nat → Prop} {f : Nat → Nat}
mutual
theorem emb_ren : ∀ w : W, (∀ k ∈ refsW w, M k (f k)) → Emb M w (renW f w)
  | .non, _ => by simp only [renW, Emb]
  | .bl _, _ => by simp only [renW, Emb]
  | .int _, _ => by simp only [renW, Emb]
  | .str _, _ => by simp only [renW, Emb]
  | .exc _, _ => by simp only [renW, Emb]
  | .tup xs, h => by
    simp only [renW, Emb]
    exact ⟨_, rfl, embs_ren xs (by simpa only [refsW] using h)⟩
  | .fix xs, h => by
    simp only [renW, Emb]
    exact ⟨_, rfl, embs_ren xs (by simpa only [refsW] using h)⟩
  | .ref n, h => by
    simp only [renW, Emb]
    exact ⟨_, rfl, h n (by simp [refsW])⟩
theorem embs_ren : ∀ ws : List W, (∀ k ∈ refsWs ws, M k (f k)) → Embs M ws (renWs f ws)
  | [], _ => by simp only [renWs, Embs]
  | x :: xs, h => by
    simp only [renWs, Embs]
    simp only [refsWs, List.mem_append] at h
    exact ⟨_, _, rfl, emb_ren x fun k hk => h k (.inl hk), embs_ren xs fun k hk => h k (.inr hk)⟩
end
theorem embk_ren {κ : Type} : ∀ ws : List (κ × W), (∀ k ∈ refsK ws, M k (f k)) → KEmb M ws (renK f ws)
  | [], _ => rfl
  | (k, x) :: r, h => by
    simp only [refsK, List.mem_append] at h
    exact ⟨_, _, rfl, emb_ren x fun k hk => h k (.inl hk), embk_ren r fun k hk => h k (.inr hk)⟩
theorem embo_ren (o : OB) (h : ∀ k ∈ refsO o, M k (f k)) : EmbO M o (renO f o) := by
  cases o with
  | lst xs => exact ⟨_, rfl, embs_ren xs h⟩
  | dK xs => exact ⟨_, rfl, embk_ren xs h⟩
  | ins C xs => exact ⟨_, rfl, embk_ren xs h⟩
  | lk xs => exact ⟨_, rfl, embk_ren xs h⟩
mutual
theorem ren_id : ∀ w : W, refsW w = [] → renW f w = w
  | .non, _ => rfl
  | .bl _, _ => rfl
  | .int _, _ => rfl
  | .str _, _ => rfl
  | .exc _, _ => rfl
  | .tup xs, h => by simp only [renW, rens_id xs (by simpa only [refsW] using h)]
  | .fix xs, h => by simp only [renW, rens_id xs (by simpa only [refsW] using h)]
  | .ref n, h => by simp [refsW] at h
theorem rens_id : ∀ ws : List W, refsWs ws = [] → renWs f ws = ws
  | [], _ => rfl
  | x :: xs, h => by
    simp only [refsWs, List.append_eq_nil_iff] at h
    simp only [renWs, ren_id x h.1, rens_id xs h.2]
end
theorem renk_id {κ : Type} : ∀ ws : List (κ × W), refsK ws = [] → renK f ws = ws
  | [], _ => rfl
  | (k, x) :: r, h => by
    simp only [refsK, List.append_eq_nil_iff] at h
    simp only [renK, ren_id x h.1, renk_id r h.2]
theorem reno_id (o : OB) (h : refsO o = []) : renO f o = o := by
  cases o with
  | lst xs => simp only [renO, rens_id xs h]
  | dK xs => simp only [renO, renk_id xs h]
  | ins C xs => simp only [renO, renk_id xs h]
  | lk xs => simp only [renO, renk_id xs h]
end
/-- the things that a value leans on, three deep -/
def objs (g : PH) (ks : List Nat) : List Nat := ks.flatMap fun k => match g[k]? with
  | some o => refsO o
  | none => []
def reach (g : PH) (l0 : List Nat) : List Nat := l0 ++ objs g l0 ++ objs g (objs g l0)
def pos (κ : List Nat) (n : Nat) (k : Nat) : Nat := n + κ.idxOf k
def news (g : PH) (κ : List Nat) (n : Nat) : PH := κ.filterMap fun k => (g[k]?).map (renO (pos κ n))
/-- all that is reached is reached once, lies in g behind m things, and nothing else is -/
def apt (g : PH) (l0 κ : List Nat) (m : Nat) : Bool := decide κ.Nodup && κ.all (fun k => decide (m ≤ k ∧ k < g.length)) && (objs g κ).all (fun k => decide (k ∈ κ)) && l0.all fun k => decide (k ∈ κ)
theorem apt_of {g : PH} {l0 κ : List Nat} {m : Nat} (h : apt g l0 κ m = true) : κ.Nodup ∧ (∀ k ∈ κ, m ≤ k ∧ k < g.length) ∧ (∀ k ∈ κ, ∀ o, g[k]? = some o → ∀ j ∈ refsO o, j ∈ κ) ∧ ∀ k ∈ l0, k ∈ κ := by
  unfold apt at h
  simp only [Bool.and_eq_true, decide_eq_true_eq, List.all_eq_true] at h
  obtain ⟨⟨⟨h1, h2⟩, h3⟩, h4⟩ := h
  exact ⟨h1, h2, fun k hk o e j hj => h3 j (by
    unfold objs
    refine List.mem_flatMap.mpr ⟨k, hk, ?_⟩
    rw [e]
    exact hj), h4⟩
theorem news_get {g : PH} {κ : List Nat} {n m : Nat} (h2 : ∀ k ∈ κ, m ≤ k ∧ k < g.length) : (news g κ n).length = κ.length ∧ ∀ (j i : Nat), κ[j]? = some i → ∃ o, g[i]? = some o ∧ (news g κ n)[j]? = some (renO (pos κ n) o) := by
  have key : ∀ (l : List Nat) (f : Nat → Nat), (∀ k ∈ l, k < g.length) → (l.filterMap fun k => (g[k]?).map (renO f)).length = l.length ∧ ∀ (j i : Nat), l[j]? = some i → ∃ o, g[i]? = some o ∧ (l.filterMap fun k => (g[k]?).map (renO f))[j]? = some (renO f o) := by
    intro l f
    induction l with
    | nil => exact fun _ => ⟨rfl, fun j i e => by simp at e⟩
    | cons a l ih =>
      intro h
      obtain ⟨i1, i2⟩ := ih fun k hk => h k (List.mem_cons_of_mem _ hk)
      have ha := h a List.mem_cons_self
      have e : ((a :: l).filterMap fun k => (g[k]?).map (renO f)) = renO f g[a] :: l.filterMap fun k => (g[k]?).map (renO f) := by
        simp [List.filterMap_cons, List.getElem?_eq_getElem ha]
      refine ⟨by rw [e, List.length_cons, List.length_cons, i1], fun j i q => ?_⟩
      rw [e]
      cases j with
      | zero =>
        simp at q
        subst q
        exact ⟨_, List.getElem?_eq_getElem ha, rfl⟩
      | succ j => exact i2 j i (by simpa using q)
  exact key κ _ fun k hk => (h2 k hk).2
/-- what the run upon the part makes of the whole -/
def outR (ρ : List Nat) (h hb : PH) (r : Res W) : Res W := match r with
  | .ok w g => let κ := reach g (refsW w)
    if apt g (refsW w) κ ρ.length = true then .ok (renW (pos κ h.length) w) (hb ++ news g κ h.length) else .stuck
  | .exc x _ => .exc x hb
  | .stuck => .stuck
/-- upon nothing -/
def lift0 (F : FM) : FM := fun ws h => if refsWs ws = [] then outR [] h h (F ws []) else .stuck
theorem back0 {h g : PH} {l0 κ : List Nat} (ha : apt g l0 κ 0 = true) : Back2 [] κ h g (h ++ news g κ h.length) := by
  obtain ⟨h1, h2, h3, h4⟩ := apt_of ha
  obtain ⟨n1, n2⟩ := news_get (n := h.length) h2
  refine ⟨h1, fun i hi => ⟨Nat.zero_le _, (h2 i hi).2⟩, by rw [List.length_append, n1], fun n hn _ => List.getElem?_append_left hn, fun i n e => by simp at e, fun j i e => ?_⟩
  obtain ⟨o, e1, e2⟩ := n2 j i e
  refine ⟨o, _, e1, by rw [List.getElem?_append_right (Nat.le_add_right _ _), Nat.add_sub_cancel_left]; exact e2, embo_ren o fun k hk => .inr ⟨κ.idxOf k, ?_, rfl⟩⟩
  have hm := h3 i (List.mem_of_getElem? e) o e1 k hk
  rw [List.getElem?_eq_getElem (List.idxOf_lt_length_of_mem hm), List.getElem_idxOf]
theorem embs_refl (M : Nat → Nat → Prop) (ws : List W) (h : refsWs ws = []) : Embs M ws ws := by
  have := embs_ren (M := M) (f := id) ws (by rw [h]; exact fun _ z => by cases z)
  rwa [rens_id ws h] at this
theorem fits_lift0 (F : FM) : Fits F (lift0 F) := by
  intro ws h
  unfold lift0
  by_cases hw : refsWs ws = []
  · rw [if_pos hw]
    refine .inr ⟨[], ws, [], List.nodup_nil, fun n hn => (by cases hn), rfl, fun i n e => (by simp at e), embs_refl _ ws hw, ?_⟩
    rw [if_pos hw]
    unfold outR
    cases F ws [] with
    | stuck => exact trivial
    | exc x g => exact ⟨[], ⟨List.nodup_nil, fun i hi => (by cases hi), by simp, fun n hn _ => rfl, fun i n e => (by simp at e), fun j i e => by simp at e⟩, rfl⟩
    | ok w g =>
      dsimp only
      split
      · rename_i ha
        obtain ⟨h1, h2, h3, h4⟩ := apt_of ha
        refine ⟨_, back0 ha, emb_ren w fun k hk => .inr ⟨_, ?_, rfl⟩⟩
        have hm := h4 k hk
        rw [List.getElem?_eq_getElem (List.idxOf_lt_length_of_mem hm), List.getElem_idxOf]
      · exact trivial
  · rw [if_neg hw]
    exact .inl rfl
/-- upon the thing at the first argument -/
def lift1 (F : FM) : FM := fun ws h => match ws with
  | .ref n :: r => match h[n]? with
    | some o => if refsO o = [] ∧ refsWs r = [] then (match F (.ref 0 :: r) [o] with
      | .ok w (o2 :: g) => if refsO o2 = [] then outR [n] h (h.set n o2) (.ok w (o2 :: g)) else .stuck
      | .exc x (o2 :: g) => if refsO o2 = [] then outR [n] h (h.set n o2) (.exc x (o2 :: g)) else .stuck
      | _ => .stuck) else .stuck
    | none => .stuck
  | _ => .stuck
theorem back1 {h g : PH} {l0 κ : List Nat} {n : Nat} {o2 : OB} (hn : n < h.length) (ho : refsO o2 = []) (ha : apt (o2 :: g) l0 κ 1 = true) : Back2 [n] κ h (o2 :: g) (h.set n o2 ++ news (o2 :: g) κ h.length) := by
  obtain ⟨h1, h2, h3, h4⟩ := apt_of ha
  obtain ⟨n1, n2⟩ := news_get (n := h.length) h2
  refine ⟨h1, fun i hi => h2 i hi, by rw [List.length_append, n1, List.length_set], fun m hm q => ?_, fun i m e => ?_, fun j i e => ?_⟩
  · rw [List.getElem?_append_left (by rw [List.length_set]; exact hm), List.getElem?_set_ne fun z => q (by simp [z])]
  · cases i with
    | zero =>
      simp at e
      subst e
      refine ⟨o2, o2, rfl, by rw [List.getElem?_append_left (by rw [List.length_set]; exact hn), List.getElem?_set_self hn], ?_⟩
      have := embo_ren (M := Mp [n] κ h.length) (f := id) o2 (by rw [ho]; exact fun _ z => by cases z)
      rwa [reno_id o2 ho] at this
    | succ i => simp at e
  · obtain ⟨o, e1, e2⟩ := n2 j i e
    refine ⟨o, _, e1, by rw [List.getElem?_append_right (by rw [List.length_set]; exact Nat.le_add_right _ _), List.length_set, Nat.add_sub_cancel_left]; exact e2, embo_ren o fun k hk => .inr ⟨κ.idxOf k, ?_, rfl⟩⟩
    have hm := h3 i (List.mem_of_getElem? e) o e1 k hk
    rw [List.getElem?_eq_getElem (List.idxOf_lt_length_of_mem hm), List.getElem_idxOf]
theorem fits_lift1 (F : FM) : Fits F (lift1 F) := by
  intro ws h
  match ws with
  | .ref n :: r =>
    cases e : h[n]? with
    | none => exact .inl (by simp only [lift1, e])
    | some o =>
      by_cases hc : refsO o = [] ∧ refsWs r = []
      · have hn : n < h.length := (List.getElem?_eq_some_iff.mp e).1
        have eo : ∀ M, EmbO M o o := fun M => by
          have := embo_ren (M := M) (f := id) o (by rw [hc.1]; exact fun _ z => by cases z)
          rwa [reno_id o hc.1] at this
        refine .inr ⟨[n], .ref 0 :: r, [o], by simp, fun m hm => by rw [List.mem_singleton.mp hm]; exact hn, rfl, fun i m q => ?_, ?_, ?_⟩
        · cases i with
          | zero =>
            simp at q
            subst q
            exact ⟨o, o, rfl, e, eo _⟩
          | succ i => simp at q
        · simp only [Embs]
          exact ⟨_, _, rfl, by simp only [Emb]; exact ⟨n, rfl, rfl⟩, embs_refl _ r hc.2⟩
        · have eS : lift1 F (.ref n :: r) h = (match F (.ref 0 :: r) [o] with
            | .ok w (o2 :: g) => if refsO o2 = [] then outR [n] h (h.set n o2) (.ok w (o2 :: g)) else .stuck
            | .exc x (o2 :: g) => if refsO o2 = [] then outR [n] h (h.set n o2) (.exc x (o2 :: g)) else .stuck
            | _ => .stuck) := by simp only [lift1, e]; rw [if_pos hc]
          rw [eS]
          cases F (.ref 0 :: r) [o] with
          | stuck => exact trivial
          | exc x g =>
            cases g with
            | nil => exact trivial
            | cons o2 g =>
              dsimp only
              split
              · rename_i ho
                unfold outR
                dsimp only
                refine ⟨[], ⟨List.nodup_nil, fun i hi => (by cases hi), by simp, fun m hm q => List.getElem?_set_ne fun z => q (by simp [z]), fun i m q => ?_, fun j i q => by simp at q⟩, rfl⟩
                cases i with
                | zero =>
                  simp at q
                  subst q
                  refine ⟨o2, o2, rfl, List.getElem?_set_self hn, ?_⟩
                  have := embo_ren (M := Mp [n] [] h.length) (f := id) o2 (by rw [ho]; exact fun _ z => by cases z)
                  rwa [reno_id o2 ho] at this
                | succ i => simp at q
              · exact trivial
          | ok w g =>
            cases g with
            | nil => exact trivial
            | cons o2 g =>
              dsimp only
              split
              · rename_i ho
                unfold outR
                dsimp only
                split
                · rename_i ha
                  obtain ⟨h1, h2, h3, h4⟩ := apt_of ha
                  refine ⟨_, back1 hn ho ha, emb_ren w fun k hk => .inr ⟨_, ?_, rfl⟩⟩
                  have hm := h4 k hk
                  rw [List.getElem?_eq_getElem (List.idxOf_lt_length_of_mem hm), List.getElem_idxOf]
                · exact trivial
              · exact trivial
      · exact .inl (by simp only [lift1, e]; rw [if_neg hc])
  | [] => exact .inl rfl
  | .non :: r => exact .inl rfl
  | .bl _ :: r => exact .inl rfl
  | .int _ :: r => exact .inl rfl
  | .str _ :: r => exact .inl rfl
  | .tup _ :: r => exact .inl rfl
  | .fix _ :: r => exact .inl rfl
  | .exc _ :: r => exact .inl rfl

/-! ### how they are used -/
section
variable {F : FM} {ws r : List W} {h g : PH} {w : W} {n : Nat} {o o2 : OB}
theorem apt_nil {m : Nat} : apt g [] (reach g []) m = true := by
  simp [apt, reach, objs]
theorem out_plain {ρ : List Nat} {hb : PH} (e : refsW w = []) : outR ρ h hb (.ok w g) = .ok w hb := by
  unfold outR
  dsimp only
  rw [e, if_pos apt_nil, ren_id w e]
  simp [news, reach, objs]
theorem lift0_plain (hw : refsWs ws = []) (e : F ws [] = .ok w g) (hr : refsW w = []) : lift0 F ws h = .ok w h := by
  unfold lift0
  rw [if_pos hw, e, out_plain hr]
theorem out_list {ρ : List Nat} {hb : PH} {k : Nat} {xs : List W} (e : g[k]? = some (.lst xs)) (hx : refsWs xs = []) (hk : ρ.length ≤ k) : outR ρ h hb (.ok (.ref k) g) = .ok (.ref h.length) (hb ++ [.lst xs]) := by
  have r1 : objs g [k] = [] := by simp [objs, e, refsO, hx]
  have r2 : objs g [] = [] := rfl
  have rk : reach g [k] = [k] := by unfold reach; rw [r1, r2]; rfl
  have hl := (List.getElem?_eq_some_iff.mp e).1
  unfold outR
  dsimp only
  have er : refsW (.ref k) = [k] := by simp only [refsW]
  rw [er, rk, if_pos (by simp [apt, r1, hl, hk])]
  simp [renW, pos, news, e, renO, rens_id xs hx]
theorem lift0_list {k : Nat} {xs : List W} (hw : refsWs ws = []) (e : F ws [] = .ok (.ref k) g) (eg : g[k]? = some (.lst xs)) (hx : refsWs xs = []) : lift0 F ws h = .ok (.ref h.length) (h ++ [.lst xs]) := by
  unfold lift0
  rw [if_pos hw, e, out_list eg hx (Nat.zero_le _)]
theorem lift1_plain (en : h[n]? = some o) (ho : refsO o = []) (hw : refsWs r = []) (e : F (.ref 0 :: r) [o] = .ok w (o2 :: g)) (h2 : refsO o2 = []) (hr : refsW w = []) : lift1 F (.ref n :: r) h = .ok w (h.set n o2) := by
  simp only [lift1, en]
  rw [if_pos ⟨ho, hw⟩, e]
  dsimp only
  rw [if_pos h2, out_plain hr]
theorem lift1_list {k : Nat} {xs : List W} (en : h[n]? = some o) (ho : refsO o = []) (hw : refsWs r = []) (e : F (.ref 0 :: r) [o] = .ok (.ref (k + 1)) (o2 :: g)) (h2 : refsO o2 = []) (eg : g[k]? = some (.lst xs)) (hx : refsWs xs = []) :
    lift1 F (.ref n :: r) h = .ok (.ref h.length) (h.set n o2 ++ [.lst xs]) := by
  simp only [lift1, en]
  rw [if_pos ⟨ho, hw⟩, e]
  dsimp only
  rw [if_pos h2, out_list (by simpa using eg) hx (by simp)]
end
end Mir

/-! Mir: what a computation ends in, piece by piece (for the plain laws). -/
namespace Mir
open PySem PySem.Spec PyProof.Rows L2

@[irreducible] def Res.To {α : Type} (r : Res α) (Q : α → PH → Prop) : Prop := match r with
  | .ok a h => Q a h
  | _ => False
@[irreducible] def SRes.To (r : SRes) (N : LS → PH → Prop) (R : W → PH → Prop) (B C : LS → PH → Prop) : Prop := match r with
  | .nx ps h => N ps h
  | .rt w h => R w h
  | .bk ps h => B ps h
  | .ct ps h => C ps h
  | _ => False
/-- one of two, by a truth -/
@[irreducible] def Ite (b : Bool) (A B : Prop) : Prop := if b = true then A else B
section
variable {A B : Prop} {b : Bool} {p : Prop} [i : Decidable p]
@[simp] theorem Ite_true : Ite true A B = A := by unfold Ite; rfl
@[simp] theorem Ite_false : Ite false A B = B := by unfold Ite; rfl
@[simp] theorem Ite_not : Ite (!b) A B = Ite b B A := by cases b <;> simp
theorem Ite.of (h : p → A) (k : ¬ p → B) : Ite (decide p) A B := by
  by_cases q : p
  · rw [decide_eq_true q, Ite_true]; exact h q
  · rw [decide_eq_false q, Ite_false]; exact k q
theorem Ite.yes (q : p) (h : A) : Ite (decide p) A B := Ite.of (fun _ => h) fun z => absurd q z
theorem Ite.no (q : ¬ p) (h : B) : Ite (decide p) A B := Ite.of (fun z => absurd z q) fun _ => h
theorem Ite.ofB (h : b = true → A) (k : b = false → B) : Ite b A B := by
  cases b
  · rw [Ite_false]; exact k rfl
  · rw [Ite_true]; exact h rfl
end
/-- of a truth -/
@[irreducible] def BTo (x : W) (Q : Bool → Prop) : Prop := match x with
  | .bl b => Q b
  | _ => False
theorem bto_no {x : W} {Q : Bool → Prop} (h : ∀ b, x ≠ .bl b) : BTo x Q = False := by
  unfold BTo
  cases x with
  | bl b => exact absurd rfl (h b)
  | _ => rfl
@[simp] theorem bto_non {Q : Bool → Prop} : BTo .non Q = False := bto_no fun _ z => by cases z
@[simp] theorem bto_int {Q : Bool → Prop} {i : Int} : BTo (.int i) Q = False := bto_no fun _ z => by cases z
@[simp] theorem bto_str {Q : Bool → Prop} {i : Str} : BTo (.str i) Q = False := bto_no fun _ z => by cases z
@[simp] theorem bto_tup {Q : Bool → Prop} {i : List W} : BTo (.tup i) Q = False := bto_no fun _ z => by cases z
@[simp] theorem bto_fix {Q : Bool → Prop} {i : List W} : BTo (.fix i) Q = False := bto_no fun _ z => by cases z
@[simp] theorem bto_exc {Q : Bool → Prop} {i : XV} : BTo (.exc i) Q = False := bto_no fun _ z => by cases z
@[simp] theorem bto_ref {Q : Bool → Prop} {i : Nat} : BTo (.ref i) Q = False := bto_no fun _ z => by cases z
@[simp] theorem bto_bl {b : Bool} {Q : Bool → Prop} : BTo (.bl b) Q = Q b := by unfold BTo; rfl
/-- of what may be there -/
@[irreducible] def OTo {α : Type} (o : Option α) (Q : α → Prop) : Prop := match o with
  | some a => Q a
  | none => False
@[irreducible] def PTo {α : Type} (o : Option (α × PH)) (Q : α → PH → Prop) : Prop := match o with
  | some p => Q p.1 p.2
  | none => False
section
variable {α β : Type} {Q : α → Prop} {P : α → PH → Prop} {h : PH}
@[simp] theorem oto_some {a : α} : OTo (some a) Q = Q a := by unfold OTo; rfl
@[simp] theorem oto_none : OTo none Q = False := by unfold OTo; rfl
@[simp] theorem oto_ite {c : Prop} [Decidable c] {o : Option α} : OTo (if c then o else none) Q = (c ∧ OTo o Q) := by
  by_cases hc : c <;> simp [hc]
@[simp] theorem oto_map {f : β → α} {o : Option β} : OTo (o.map f) Q = OTo o fun b => Q (f b) := by cases o <;> simp
@[simp] theorem oto_bind {f : β → Option α} {o : Option β} : OTo (o.bind f) Q = OTo o fun b => OTo (f b) Q := by cases o <;> simp
@[simp] theorem pto_some {a : α} : PTo (some (a, h)) P = P a h := by unfold PTo; rfl
@[simp] theorem pto_none : PTo none P = False := by unfold PTo; rfl
@[simp] theorem pto_ite {c : Prop} [Decidable c] {o : Option (α × PH)} : PTo (if c then o else none) P = (c ∧ PTo o P) := by
  by_cases hc : c <;> simp [hc]
@[simp] theorem pto_map {f : β → α} {o : Option β} : PTo (o.map fun b => (f b, h)) P = OTo o fun b => P (f b) h := by cases o <;> simp
@[simp] theorem pto_map0 {o : Option α} : PTo (o.map fun b => (b, h)) P = OTo o fun b => P b h := by cases o <;> simp
theorem oto_is {o : Option α} (q : OTo o Q) : ∃ a, o = some a ∧ Q a := by
  cases o with
  | some a => exact ⟨a, rfl, by simpa using q⟩
  | none => simp at q
theorem OTo.mono {Q' : α → Prop} {o : Option α} (q : OTo o Q) (i : ∀ a, Q a → Q' a) : OTo o Q' := by
  cases o with
  | some a => simp at q ⊢; exact i a q
  | none => simp at q
end
theorem Res.To.mono {α : Type} {r : Res α} {Q Q' : α → PH → Prop} (h : r.To Q) (i : ∀ a g, Q a g → Q' a g) : r.To Q' := by
  unfold Res.To at h ⊢
  cases r with
  | ok a g => exact i a g h
  | exc x g => exact h
  | stuck => exact h
theorem SRes.To.mono {r : SRes} {N N' B B' C C' : LS → PH → Prop} {R R' : W → PH → Prop} (h : r.To N R B C) (i : ∀ a g, N a g → N' a g) (j : ∀ a g, R a g → R' a g) (k : ∀ a g, B a g → B' a g) (l : ∀ a g, C a g → C' a g) : r.To N' R' B' C' := by
  unfold SRes.To at h ⊢
  cases r with
  | nx a g => exact i a g h
  | rt a g => exact j a g h
  | bk a g => exact k a g h
  | ct a g => exact l a g h
  | exc x p g => exact h
  | stuck => exact h
theorem Res.To.is {α : Type} {r : Res α} {Q : α → PH → Prop} (h : r.To Q) : ∃ a g, r = .ok a g ∧ Q a g := by
  unfold Res.To at h
  cases r with
  | ok a g => exact ⟨a, g, rfl, h⟩
  | exc x g => exact h.elim
  | stuck => exact h.elim
section
variable {α β : Type} {Q : α → PH → Prop} {N B C : LS → PH → Prop} {R : W → PH → Prop} {ps : LS} {h : PH}
@[simp] theorem to_ok {a : α} : (Res.ok a h).To Q = Q a h := by unfold Res.To; rfl
@[simp] theorem to_exc {x : XV} : (Res.exc x h : Res α).To Q = False := by unfold Res.To; rfl
@[simp] theorem to_stuck : (Res.stuck : Res α).To Q = False := by unfold Res.To; rfl
@[simp] theorem to_bind {r : Res β} {k : β → PH → Res α} : (r.bind k).To Q = r.To fun b g => (k b g).To Q := by cases r <;> simp [Res.bind]
@[simp] theorem to_ite {c : Prop} [Decidable c] {r : Res α} : (if c then r else .stuck).To Q = (c ∧ r.To Q) := by
  by_cases hc : c <;> simp [hc]
@[simp] theorem to_ofO {o : Option (α × PH)} : (Res.ofO o).To Q = PTo o Q := by
  cases o with
  | none => simp [Res.ofO]
  | some p => simp only [Res.ofO, to_ok]; unfold PTo; rfl
@[simp] theorem to_nx : (SRes.nx ps h).To N R B C = N ps h := by unfold SRes.To; rfl
@[simp] theorem to_rt {w : W} : (SRes.rt w h).To N R B C = R w h := by unfold SRes.To; rfl
@[simp] theorem to_bk : (SRes.bk ps h).To N R B C = B ps h := by unfold SRes.To; rfl
@[simp] theorem to_ct : (SRes.ct ps h).To N R B C = C ps h := by unfold SRes.To; rfl
@[simp] theorem to_sexc {x : XV} : (SRes.exc x ps h).To N R B C = False := by unfold SRes.To; rfl
@[simp] theorem to_sstuck : SRes.stuck.To N R B C = False := by unfold SRes.To; rfl
@[simp] theorem to_thenS {r : Res α} {k : α → PH → SRes} : (r.thenS ps k).To N R B C = r.To fun a g => (k a g).To N R B C := by cases r <;> simp [Res.thenS]
end
section
variable {Q : W → PH → Prop} {Ql : List W → PH → Prop} {Qb : Bool → PH → Prop} {Qi : PIt → PH → Prop} {N B C : LS → PH → Prop} {R : W → PH → Prop} {ps : LS} {h : PH} {m m1 m2 m3 : EM} {l : LM} {t t2 : BM} {M M2 : SM} {g : GM} {mi : IM}
@[simp] theorem to_var {i : Nat} : (mVar i ps h).To Q = ∃ w, ps[i]? = some (some w) ∧ Q w h := by
  unfold mVar
  cases e : ps[i]? with
  | none => simp
  | some o => cases o <;> simp
@[simp] theorem to_C {w : W} : (mC w ps h).To Q = Q w h := by simp [mC]
@[simp] theorem to_op {o : W → W → PH → Option (W × PH)} : (mOp o m1 m2 ps h).To Q = (m1 ps h).To fun x g => (m2 ps g).To fun y g => PTo (o x y g) Q := by simp [mOp]
@[simp] theorem to_un {o : W → PH → Option (W × PH)} : (mUn o m1 ps h).To Q = (m1 ps h).To fun x g => PTo (o x g) Q := by simp [mUn]
@[simp] theorem to_nil : (mNil ps h).To Ql = Ql [] h := by simp [mNil]
@[simp] theorem to_cons : (mCons m l ps h).To Ql = (m ps h).To fun x g => (l ps g).To fun xs g => Ql (x :: xs) g := by simp [mCons]
@[simp] theorem to_tup : (mTup l ps h).To Q = (l ps h).To fun xs g => xs.length ≤ 16777216 ∧ Q (.tup xs) g := by simp [mTup]
@[simp] theorem to_lst : (mLst l ps h).To Ql = (l ps h).To fun xs g => xs.length ≤ 16777216 ∧ Ql xs g := by simp [mLst]
@[simp] theorem to_new : (mNew l ps h).To Q = (l ps h).To fun xs g => Q (.ref g.length) (g ++ [.lst xs]) := by simp [mNew]
@[simp] theorem to_fix : (mFix l ps h).To Q = (l ps h).To fun xs g => Q (.fix xs) g := by simp [mFix]
@[simp] theorem to_call {o : List W → PH → Option (W × PH)} : (mCall o l ps h).To Q = (l ps h).To fun xs g => PTo (o xs g) Q := by simp [mCall]
@[simp] theorem to_on {α : Type} {Qa : α → PH → Prop} {o : List W → PH → Option (α × PH)} : (mOn o l ps h).To Qa = (l ps h).To fun xs g => PTo (o xs g) Qa := by simp [mOn]
@[simp] theorem to_fn {n : Nat} {F : FM} : (mFn n F l ps h).To Q = (l ps h).To fun xs g => xs.length = n ∧ (F xs g).To Q := by simp [mFn]
@[simp] theorem to_fn0 {F : FM} : (mFn0 F ps h).To Q = (F [] h).To Q := by simp only [mFn0]
@[simp] theorem to_seqm : (mSeq m ps h).To Ql = (m ps h).To fun x g => OTo (seqOf x g) fun xs => Ql xs g := by
  simp only [mSeq, to_bind]
  congr 1
  funext x g
  cases seqOf x g <;> simp
@[simp] theorem to_lstm : (mLstOf m ps h).To Ql = (m ps h).To fun x g => OTo (lstOf x g) fun xs => Ql xs g := by
  simp only [mLstOf, to_bind]
  congr 1
  funext x g
  cases lstOf x g <;> simp
@[simp] theorem to_mB : (mB m ps h).To Qb = (m ps h).To fun x g => BTo x fun b => Qb b g := by
  simp only [mB, to_bind]
  congr 1
  funext x g
  cases x <;> simp [toB]
@[simp] theorem to_tru : (mTru m ps h).To Qb = (m ps h).To fun x g => OTo (tru x g) fun b => Qb b g := by
  simp only [mTru, to_bind]
  congr 1
  funext x g
  cases tru x g <;> simp
@[simp] theorem to_and : (mAnd t t2 ps h).To Qb = (t ps h).To fun b g => Ite b ((t2 ps g).To Qb) (Qb false g) := by
  simp only [mAnd, to_bind]
  congr 1
  funext b g
  cases b <;> simp
@[simp] theorem to_or : (mOr t t2 ps h).To Qb = (t ps h).To fun b g => Ite b (Qb true g) ((t2 ps g).To Qb) := by
  simp only [mOr, to_bind]
  congr 1
  funext b g
  cases b <;> simp
@[simp] theorem to_not : (mNot t ps h).To Qb = (t ps h).To fun b g => Qb (!b) g := by simp [mNot]
@[simp] theorem to_if : (mIf t m1 m2 ps h).To Q = (t ps h).To fun b g => Ite b ((m1 ps g).To Q) ((m2 ps g).To Q) := by
  simp only [mIf, to_bind]
  congr 1
  funext b g
  cases b <;> simp
@[simp] theorem to_andV : (mAndV m1 m2 ps h).To Q = (m1 ps h).To fun x g => BTo x fun b => Ite b ((m2 ps g).To Q) (Q (.bl false) g) := by
  simp only [mAndV, to_bind]
  congr 1
  funext x g
  cases x with
  | bl b => cases b <;> simp
  | _ => simp
@[simp] theorem to_orV : (mOrV m1 m2 ps h).To Q = (m1 ps h).To fun x g => BTo x fun b => Ite b (Q (.bl true) g) ((m2 ps g).To Q) := by
  simp only [mOrV, to_bind]
  congr 1
  funext x g
  cases x with
  | bl b => cases b <;> simp
  | _ => simp
@[simp] theorem to_notV : (mNotV m ps h).To Q = (m ps h).To fun x g => BTo x fun b => Q (.bl (!b)) g := by
  simp only [mNotV, to_bind]
  congr 1
  funext x g
  cases x <;> simp
@[simp] theorem to_chain {o o' : W → W → PH → Option (W × PH)} : (mChain o o' m1 m2 m3 ps h).To Q = (m1 ps h).To fun x g => (m2 ps g).To fun y g => PTo (o x y g) fun w g => BTo w fun b => Ite b ((m3 ps g).To fun z g => PTo (o' y z g) Q) (Q (.bl false) g) := by
  simp only [mChain, to_bind, to_ofO]
  congr 1
  funext x g
  congr 1
  funext y g
  congr 1
  funext p
  cases p with
  | bl b => cases b <;> simp
  | _ => simp
@[simp] theorem to_isi {T : String} : (mIsi T m ps h).To Q = (m ps h).To fun x g => OTo (tyName x g) fun s => Q (.bl (isB s T)) g := by
  simp only [mIsi, to_bind]
  congr 1
  funext x g
  cases tyName x g <;> simp
@[simp] theorem to_mt {T : String} {o : W → List W → PH → Option (W × PH)} : (mMt T o m l ps h).To Q = (m ps h).To fun x g => tyW T x g = true ∧ (l ps g).To fun xs g => PTo (o x xs g) Q := by simp [mMt]
@[simp] theorem to_sl {lo hi : Option EM} : (mSl m lo hi ps h).To Q = (m ps h).To fun x g => (mPart lo ps g).To fun a g => (mPart hi ps g).To fun b g => PTo (wSl x a b g) Q := by simp [mSl]
@[simp] theorem to_part0 {Qo : Option Int → PH → Prop} : (mPart none ps h).To Qo = Qo none h := by simp [mPart]
@[simp] theorem to_part1 {Qo : Option Int → PH → Prop} : (mPart (some m) ps h).To Qo = (m ps h).To fun x g => ∃ i, x = .int i ∧ Qo (some i) g := by
  simp only [mPart, to_bind]
  congr 1
  funext x g
  cases x <;> simp
@[simp] theorem to_cat : (mCat m1 m2 ps h).To Ql = (m1 ps h).To fun x g => (m2 ps g).To fun y g => OTo (lstOf x g) fun xs => OTo (lstOf y g) fun ys => xs.length + ys.length ≤ 16777216 ∧ Ql (xs ++ ys) g := by
  simp only [mCat, to_bind]
  congr 1
  funext x g
  congr 1
  funext y g
  cases lstOf x g with
  | none => simp
  | some xs => cases lstOf y g <;> simp
@[simp] theorem to_pnil {Qp : List (W × W) → PH → Prop} : (mPairs [] ps h).To Qp = Qp [] h := by simp [mPairs]
@[simp] theorem to_pcons {Qp : List (W × W) → PH → Prop} {r : List (EM × EM)} : (mPairs ((m1, m2) :: r) ps h).To Qp = (m1 ps h).To fun x g => (m2 ps g).To fun y g => (mPairs r ps g).To fun zs g => Qp ((x, y) :: zs) g := by simp [mPairs]
@[simp] theorem to_disp {r : List (EM × EM)} : (mDisp r ps h).To Q = (mPairs r ps h).To fun zs g => OTo (keysOf zs) fun kvs => kvs.length ≤ 15 ∧ Q (.ref g.length) (g ++ [.dK (mergeW [] kvs)]) := by
  simp only [mDisp, to_bind]
  congr 1
  funext zs g
  cases keysOf zs <;> simp
@[simp] theorem to_dict0 : (mDict0 ps h).To Q = Q (.ref h.length) (h ++ [.dK []]) := by simp [mDict0]
/-! statements -/
@[simp] theorem to_next : (sNext ps h).To N R B C = N ps h := by simp [sNext]
@[simp] theorem to_break : (sBreak ps h).To N R B C = B ps h := by simp [sBreak]
@[simp] theorem to_cont : (sCont ps h).To N R B C = C ps h := by simp [sCont]
@[simp] theorem to_retN : (sRetN ps h).To N R B C = R .non h := by simp [sRetN]
@[simp] theorem to_ret : (sRet m ps h).To N R B C = (m ps h).To R := by simp [sRet]
@[simp] theorem to_drop : (sDrop m ps h).To N R B C = (m ps h).To fun _ g => N ps g := by simp [sDrop]
theorem to_seq : (sSeq M M2 ps h).To N R B C = (M ps h).To (fun ps1 g => (M2 ps1 g).To N R B C) R B C := by
  unfold sSeq
  cases M ps h <;> simp
@[simp] theorem to_asg : (sAsg m g ps h).To N R B C = (m ps h).To fun w h1 => OTo (g w ps) fun ps1 => N ps1 h1 := by
  simp only [sAsg, to_thenS]
  congr 1
  funext w h1
  cases g w ps with
  | none => simp
  | some x => simp
@[simp] theorem to_sif : (sIf t M M2 ps h).To N R B C = (t ps h).To fun b g => Ite b ((M ps g).To N R B C) ((M2 ps g).To N R B C) := by
  simp only [sIf, to_thenS]
  congr 1
  funext b g
  cases b <;> simp
@[simp] theorem to_setix : (sSetIx m1 m2 m3 ps h).To N R B C = (m1 ps h).To fun w g => (m2 ps g).To fun x g => (m3 ps g).To fun y g => OTo (setW x y w g) fun g' => N ps g' := by
  simp only [sSetIx, to_thenS]
  congr 1
  funext w g
  congr 1
  funext x g
  congr 1
  funext y g
  cases setW x y w g with
  | none => simp
  | some z => simp
@[simp] theorem to_for : (sFor mi g M ps h).To N R B C = (mi ps h).To fun it h1 => (forGo it g M it.fuel 0 ps h1).To N R B C := by simp [sFor]
@[simp] theorem to_while {n : Nat} : (sWhile n t M ps h).To N R B C = (whGo t M n ps h).To N R B C := by simp only [sWhile]
@[simp] theorem gN_is {i : Nat} {w : W} : gN i w ps = some (ps.set i (some w)) := rfl
@[simp] theorem gT_is {r : GMs} {ws : List W} : gT r (.tup ws) ps = r ws ps := rfl
@[simp] theorem gnil_is : gNil' [] ps = some ps := rfl
@[simp] theorem gcons_is {r : GMs} {w : W} {ws : List W} : gCons' g r (w :: ws) ps = (g w ps).bind fun ps' => r ws ps' := rfl
@[simp] theorem to_iters : (mIterS l ps h).To Qi = (l ps h).To fun xs g => Qi (itS xs) g := by simp [mIterS]
@[simp] theorem to_iter {n : Nat} : (mIter n m ps h).To Qi = (m ps h).To fun x g => OTo (iterOf n x g) fun it => Qi it g := by
  simp only [mIter, to_bind]
  congr 1
  funext x g
  cases iterOf n x g <;> simp
@[simp] theorem to_enum {n : Nat} : (mEnum n m ps h).To Qi = (m ps h).To fun x g => OTo (iterE n x g) fun it => Qi it g := by
  simp only [mEnum, to_bind]
  congr 1
  funext x g
  cases iterE n x g <;> simp
@[simp] theorem to_enums : (mEnumS l ps h).To Qi = (l ps h).To fun xs g => Qi (itE (itS xs)) g := by simp [mEnumS]
@[simp] theorem to_range1 : (mRange1 m ps h).To Qi = (m ps h).To fun x g => ∃ j, x = .int j ∧ (-(2 ^ 62) ≤ j ∧ j < 2 ^ 62) ∧ Qi (itS (rangeW 0 j.toNat)) g := by
  simp only [mRange1, to_bind]
  congr 1
  funext x g
  cases x <;> simp
@[simp] theorem to_range2 : (mRange2 m1 m2 ps h).To Qi = (m1 ps h).To fun x g => (m2 ps g).To fun y g => ∃ i j, x = .int i ∧ y = .int j ∧ (-(2 ^ 62) ≤ i ∧ i < 2 ^ 62 ∧ -(2 ^ 62) ≤ j ∧ j < 2 ^ 62) ∧ Qi (itS (rangeW i (j - i).toNat)) g := by
  simp only [mRange2, to_bind]
  congr 1
  funext x g
  congr 1
  funext y g
  cases x <;> cases y <;> simp
/-- the first of two statements, with what follows out of sight -/
theorem seq_op (q : ∀ K : LS → PH → Prop, (∀ ps g, (M2 ps g).To N R B C → K ps g) → (M ps h).To K R B C) : (sSeq M M2 ps h).To N R B C := by
  rw [to_seq]
  exact q _ fun _ _ z => z
theorem seq_go {ps1 : LS} {h1 : PH} (q : ∀ K : LS → PH → Prop, K ps1 h1 → (M ps h).To K R B C) (r : (M2 ps1 h1).To N R B C) : (sSeq M M2 ps h).To N R B C := by
  rw [to_seq]
  exact q _ r
theorem seq_cut (Mid : LS → PH → Prop) (q : (M ps h).To Mid R B C) (r : ∀ ps g, Mid ps g → (M2 ps g).To N R B C) : (sSeq M M2 ps h).To N R B C := by
  rw [to_seq]
  exact q.mono r (fun _ _ z => z) (fun _ _ z => z) fun _ _ z => z
/-! loops -/
theorem for_gen {it : PIt} {items : List W} {g : GM} (I : Nat → LS → PH → Prop) (get : ∀ i ps h, I i ps h → it.get i h = some items[i]?)
    (step : ∀ i w ps h, items[i]? = some w → I i ps h → ∃ ps1, g w ps = some ps1 ∧ (M ps1 h).To (I (i + 1)) R N (I (i + 1))) (fin : ∀ ps h, I items.length ps h → N ps h) :
    ∀ (k i : Nat) (ps : LS) (h : PH), i ≤ items.length → items.length < i + k → I i ps h → (forGo it g M k i ps h).To N R B C
  | 0, i, ps, h, hi, hk, q => by omega
  | k + 1, i, ps, h, hi, hk, q => by
    unfold forGo
    rw [get i ps h q]
    cases e : items[i]? with
    | none =>
      have : i = items.length := by
        have := List.getElem?_eq_none_iff.mp e
        omega
      subst this
      rw [to_nx]
      exact fin ps h q
    | some w =>
      obtain ⟨ps1, e1, q1⟩ := step i w ps h e q
      have hl := (List.getElem?_eq_some_iff.mp e).1
      dsimp only
      rw [e1]
      dsimp only
      cases eb : M ps1 h with
      | nx a b =>
        rw [eb] at q1
        simp only [to_nx, to_ct] at q1
        exact for_gen I get step fin k (i + 1) a b (by omega) (by omega) q1
      | ct a b =>
        rw [eb] at q1
        simp only [to_nx, to_ct] at q1
        exact for_gen I get step fin k (i + 1) a b (by omega) (by omega) q1
      | bk a b => rw [eb] at q1; simpa using q1
      | rt a b => rw [eb] at q1; simpa using q1
      | exc a b c => rw [eb] at q1; simp at q1
      | stuck => rw [eb] at q1; simp at q1
theorem for_items {items : List W} {g : GM} (I : Nat → LS → PH → Prop) (h0 : I 0 ps h)
    (step : ∀ i w ps h, items[i]? = some w → I i ps h → ∃ ps1, g w ps = some ps1 ∧ (M ps1 h).To (I (i + 1)) R N (I (i + 1))) (fin : ∀ ps h, I items.length ps h → N ps h) :
    (forGo (itS items) g M (itS items).fuel 0 ps h).To N R B C := for_gen I (fun _ _ _ _ => rfl) step fin _ 0 ps h (Nat.zero_le _) (by simp [itS]) h0
def pairsW (items : List W) : List W := items.zipIdx.map fun p => .tup [.int (p.2 : Nat), p.1]
theorem pairs_get (items : List W) (i : Nat) : (pairsW items)[i]? = items[i]?.map fun w => .tup [.int (i : Nat), w] := by
  unfold pairsW
  rw [List.getElem?_map, List.getElem?_zipIdx]
  cases items[i]? <;> simp
theorem for_enum {items : List W} {g : GM} (I : Nat → LS → PH → Prop) (h0 : I 0 ps h)
    (step : ∀ (i : Nat) (w : W) ps h, items[i]? = some w → I i ps h → ∃ ps1, g (.tup [.int (i : Nat), w]) ps = some ps1 ∧ (M ps1 h).To (I (i + 1)) R N (I (i + 1))) (fin : ∀ ps h, I items.length ps h → N ps h) :
    (forGo (itE (itS items)) g M (itE (itS items)).fuel 0 ps h).To N R B C :=
  for_gen (items := pairsW items) I (fun i _ h _ => by rw [pairs_get]; rfl) (fun i w ps h e q => by
    rw [pairs_get] at e
    obtain ⟨w', e1, rfl⟩ := Option.map_eq_some_iff.mp e
    exact step i w' ps h e1 q) (fun ps h q => fin ps h (by simpa [pairsW] using q)) _ 0 ps h (Nat.zero_le _) (by simp [itE, itS, pairsW]) h0
/-- while: V what is left to do -/
theorem while_inv (I : Nat → LS → PH → Prop) (step : ∀ v ps h, I v ps h → (t ps h).To fun b h1 => Ite b ((M ps h1).To (fun ps2 h2 => ∃ v', v' < v ∧ I v' ps2 h2) R N (fun ps2 h2 => ∃ v', v' < v ∧ I v' ps2 h2)) (N ps h1)) :
    ∀ (n v : Nat) (ps : LS) (h : PH), v < n → I v ps h → (whGo t M n ps h).To N R B C
  | 0, v, ps, h, hv, q => by omega
  | n + 1, v, ps, h, hv, q => by
    unfold whGo
    rw [to_thenS]
    refine (step v ps h q).mono fun b h1 z => ?_
    cases b with
    | false => simpa using z
    | true =>
      simp only [if_true, Ite_true] at z ⊢
      cases eb : M ps h1 with
      | nx a b =>
        rw [eb] at z
        simp only [to_nx, to_ct] at z
        obtain ⟨v', hv', z⟩ := z
        exact while_inv I step n v' a b (by omega) z
      | ct a b =>
        rw [eb] at z
        simp only [to_nx, to_ct] at z
        obtain ⟨v', hv', z⟩ := z
        exact while_inv I step n v' a b (by omega) z
      | bk a b => rw [eb] at z; simpa using z
      | rt a b => rw [eb] at z; simpa using z
      | exc a b c => rw [eb] at z; simp at z
      | stuck => rw [eb] at z; simp at z
/-- a comprehension: J by the items gone and the list so far -/
theorem lc_gen {it : PIt} {items : List W} {g : GM} {tt : BM} {te : EM} {psw : LS} (J : Nat → List W → PH → Prop) (get : ∀ i acc h, J i acc h → it.get i h = some items[i]?)
    (step : ∀ i w acc h, items[i]? = some w → J i acc h → ∃ ps1, g w psw = some ps1 ∧ (tt ps1 h).To fun b h2 => Ite b ((te ps1 h2).To fun x h3 => acc.length < 16777216 ∧ J (i + 1) (acc ++ [x]) h3) (J (i + 1) acc h2)) (fin : ∀ acc h, J items.length acc h → Ql acc h) :
    ∀ (k i : Nat) (acc : List W) (h : PH), i ≤ items.length → items.length < i + k → J i acc h → (lcGo it g tt te psw k i acc h).To Ql
  | 0, i, acc, h, hi, hk, q => by omega
  | k + 1, i, acc, h, hi, hk, q => by
    unfold lcGo
    rw [get i acc h q]
    cases e : items[i]? with
    | none =>
      have : i = items.length := by
        have := List.getElem?_eq_none_iff.mp e
        omega
      subst this
      rw [to_ok]
      exact fin acc h q
    | some w =>
      obtain ⟨ps1, e1, q1⟩ := step i w acc h e q
      have hl := (List.getElem?_eq_some_iff.mp e).1
      dsimp only
      rw [e1]
      dsimp only
      cases et : tt ps1 h with
      | ok b h2 =>
        rw [et, to_ok] at q1
        cases b with
        | false => exact lc_gen J get step fin k (i + 1) acc h2 (by omega) (by omega) (by simpa using q1)
        | true =>
          have q1 : (te ps1 h2).To fun x h3 => acc.length < 16777216 ∧ J (i + 1) (acc ++ [x]) h3 := by simpa using q1
          cases ee : te ps1 h2 with
          | ok x h3 =>
            rw [ee, to_ok] at q1
            simp only [ee]
            rw [if_pos q1.1]
            exact lc_gen J get step fin k (i + 1) _ h3 (by omega) (by omega) q1.2
          | exc _ _ => rw [ee] at q1; simp at q1
          | stuck => rw [ee] at q1; simp at q1
      | exc _ _ => rw [et] at q1; simp at q1
      | stuck => rw [et] at q1; simp at q1
@[simp] theorem to_lc {tt : BM} {te : EM} {vs : List Nat} : (mLc mi g tt te vs ps h).To Ql = (mi ps h).To fun it h1 => (lcGo it g tt te (wipeW ps vs) it.fuel 0 [] h1).To Ql := by simp [mLc]
@[simp] theorem to_yes : (mYes ps h).To Qb = Qb true h := by simp [mYes]
theorem lc_items {items : List W} {g : GM} {tt : BM} {te : EM} {psw : LS} (J : Nat → List W → PH → Prop) (h0 : J 0 [] h)
    (step : ∀ i w acc h, items[i]? = some w → J i acc h → ∃ ps1, g w psw = some ps1 ∧ (tt ps1 h).To fun b h2 => Ite b ((te ps1 h2).To fun x h3 => acc.length < 16777216 ∧ J (i + 1) (acc ++ [x]) h3) (J (i + 1) acc h2)) (fin : ∀ acc h, J items.length acc h → Ql acc h) :
    (lcGo (itS items) g tt te psw (itS items).fuel 0 [] h).To Ql := lc_gen J (fun _ _ _ _ => rfl) step fin _ 0 [] h (Nat.zero_le _) (by simp [itS]) h0
theorem lc_enum {items : List W} {g : GM} {tt : BM} {te : EM} {psw : LS} (J : Nat → List W → PH → Prop) (h0 : J 0 [] h)
    (step : ∀ (i : Nat) (w : W) acc h, items[i]? = some w → J i acc h → ∃ ps1, g (.tup [.int (i : Nat), w]) psw = some ps1 ∧ (tt ps1 h).To fun b h2 => Ite b ((te ps1 h2).To fun x h3 => acc.length < 16777216 ∧ J (i + 1) (acc ++ [x]) h3) (J (i + 1) acc h2)) (fin : ∀ acc h, J items.length acc h → Ql acc h) :
    (lcGo (itE (itS items)) g tt te psw (itE (itS items)).fuel 0 [] h).To Ql :=
  lc_gen (items := pairsW items) J (fun i _ h _ => by rw [pairs_get]; rfl) (fun i w acc h e q => by
    rw [pairs_get] at e
    obtain ⟨w', e1, rfl⟩ := Option.map_eq_some_iff.mp e
    exact step i w' acc h e1 q) (fun acc h q => fin acc h (by simpa [pairsW] using q)) _ 0 [] h (Nat.zero_le _) (by simp [itE, itS, pairsW]) h0
/-- over a list of the heap that stays -/
theorem lc_live {n fuel : Nat} {items : List W} {g : GM} {tt : BM} {te : EM} {psw : LS} (hf : items.length < fuel) (J : Nat → List W → PH → Prop) (stay : ∀ i acc h, J i acc h → h[n]? = some (.lst items)) (h0 : J 0 [] h)
    (step : ∀ i w acc h, items[i]? = some w → J i acc h → ∃ ps1, g w psw = some ps1 ∧ (tt ps1 h).To fun b h2 => Ite b ((te ps1 h2).To fun x h3 => acc.length < 16777216 ∧ J (i + 1) (acc ++ [x]) h3) (J (i + 1) acc h2)) (fin : ∀ acc h, J items.length acc h → Ql acc h) :
    (lcGo (itL n fuel) g tt te psw (itL n fuel).fuel 0 [] h).To Ql := lc_gen J (fun i acc h q => by simp only [itL, stay i acc h q]) step fin _ 0 [] h (Nat.zero_le _) (by simpa [itL] using hf) h0
theorem for_live {n fuel : Nat} {items : List W} {g : GM} (hf : items.length < fuel) (I : Nat → LS → PH → Prop) (stay : ∀ i ps h, I i ps h → h[n]? = some (.lst items)) (h0 : I 0 ps h)
    (step : ∀ i w ps h, items[i]? = some w → I i ps h → ∃ ps1, g w ps = some ps1 ∧ (M ps1 h).To (I (i + 1)) R N (I (i + 1))) (fin : ∀ ps h, I items.length ps h → N ps h) :
    (forGo (itL n fuel) g M (itL n fuel).fuel 0 ps h).To N R B C := for_gen I (fun i ps h q => by simp only [itL, stay i ps h q]) step fin _ 0 ps h (Nat.zero_le _) (by simpa [itL] using hf) h0
theorem run_to {n : Nat} {ws : List W} : (runB n M ws h).To Q = (M (startW n ws) h).To (fun _ g => Q .non g) Q (fun _ _ => False) fun _ _ => False := by
  unfold runB
  cases M (startW n ws) h <;> simp
end
end Mir

/-! Mir: operators at values of known form; equality of plain data. -/
namespace Mir
open PySem PySem.Spec PyProof.Rows L2

section
variable {i j k : Int} {x y : W} {h : PH} {n : Nat} {xs ys : List W} {s t : Str} {b c : Bool}
@[simp] theorem wAdd_int : wAdd (.int i) (.int j) h = some (.int (i + j), h) := rfl
@[simp] theorem wAdd_str : wAdd (.str s) (.str t) h = if s.length + t.length ≤ 16777216 then some (.str (s ++ t), h) else none := rfl
@[simp] theorem wAdd_tup : wAdd (.tup xs) (.tup ys) h = if xs.length + ys.length ≤ 16777216 then some (.tup (xs ++ ys), h) else none := rfl
@[simp] theorem wAdd_fix : wAdd (.fix xs) (.fix ys) h = if xs.length + ys.length ≤ 16777216 then some (.fix (xs ++ ys), h) else none := rfl
@[simp] theorem wSub_int : wSub (.int i) (.int j) h = some (.int (i - j), h) := rfl
@[simp] theorem wMod_int : wMod (.int i) (.int j) h = if 0 < j then some (.int (i % j), h) else none := by
  show ((if 0 < j then some (W.int (i % j)) else none).map fun w => (w, h)) = _
  by_cases q : 0 < j <;> simp [q]
@[simp] theorem wFdiv_int : wFdiv (.int i) (.int j) h = if 0 < j ∧ j.natAbs.log2 < 9000 then some (.int (i / j), h) else none := by
  show ((if 0 < j ∧ j.natAbs.log2 < 9000 then some (W.int (i / j)) else none).map fun w => (w, h)) = _
  by_cases q : 0 < j ∧ j.natAbs.log2 < 9000 <;> simp [q]
@[simp] theorem wMul_int : wMul (.int i) (.int j) h = if (-(2 ^ 64) < i ∧ i < 2 ^ 64) ∨ (-(2 ^ 64) < j ∧ j < 2 ^ 64) then some (.int (i * j), h) else none := rfl
@[simp] theorem wNeg_int : wNeg (.int i) h = some (.int (-i), h) := rfl
@[simp] theorem wLt_int : wLt (.int i) (.int j) h = some (.bl (decide (i < j)), h) := rfl
@[simp] theorem wLe_int : wLe (.int i) (.int j) h = some (.bl (decide (i ≤ j)), h) := rfl
@[simp] theorem wGt_int : wGt (.int i) (.int j) h = some (.bl (decide (j < i)), h) := rfl
@[simp] theorem wGe_int : wGe (.int i) (.int j) h = some (.bl (decide (j ≤ i)), h) := rfl
theorem beq_dec (i j : Int) : (i == j) = decide (i = j) := by
  by_cases h : i = j <;> simp [h]
@[simp] theorem wEq_int : wEq (.int i) (.int j) h = some (.bl (decide (i = j)), h) := by
  show some (W.bl (i == j), h) = _
  rw [beq_dec]
@[simp] theorem wNe_int : wNe (.int i) (.int j) h = some (.bl (!decide (i = j)), h) := by
  show some (W.bl (!(i == j)), h) = _
  rw [beq_dec]
@[simp] theorem wEq_str : wEq (.str s) (.str t) h = some (.bl (decide (s = t)), h) := by
  show some (W.bl (s == t), h) = _
  by_cases q : s = t <;> simp [q]
@[simp] theorem wNe_str : wNe (.str s) (.str t) h = some (.bl (!decide (s = t)), h) := by
  show some (W.bl (!(s == t)), h) = _
  by_cases q : s = t <;> simp [q]
@[simp] theorem wIs_non : wIs x .non h = some (.bl (isNonW x), h) := by cases x <;> rfl
@[simp] theorem wIs_bl : wIs (.bl b) (.bl c) h = some (.bl (decide (b = c)), h) := rfl
@[simp] theorem wIsNot_non : wIsNot x .non h = some (.bl (!isNonW x), h) := by cases x <;> rfl
@[simp] theorem wIsNot_bl : wIsNot (.bl b) (.bl c) h = some (.bl (!decide (b = c)), h) := rfl
@[simp] theorem wIx_tup : wIx (.tup xs) (.int i) h = (atI xs i).map fun w => (w, h) := rfl
@[simp] theorem wIx_fix : wIx (.fix xs) (.int i) h = (atI xs i).map fun w => (w, h) := rfl
theorem wIx_lst (e : h[n]? = some (.lst xs)) : wIx (.ref n) (.int i) h = (atI xs i).map fun w => (w, h) := by simp only [wIx, e]
theorem atI_nat {α : Type} (l : List α) (i : Int) (h0 : 0 ≤ i) : atI l i = l[i.toNat]? := by
  unfold atI ixN
  rw [if_pos h0]
  by_cases h1 : i < l.length
  · rw [if_pos h1]; rfl
  · rw [if_neg h1, List.getElem?_eq_none (by omega)]
    rfl
theorem oto_at {α : Type} {Q : α → Prop} {l : List α} {i : Int} (h0 : 0 ≤ i) (h1 : i < l.length) (q : ∀ a, l[i.toNat]? = some a → a ∈ l → Q a) : OTo (atI l i) Q := by
  rw [atI_nat l i h0, List.getElem?_eq_getElem (by omega), oto_some]
  exact q _ (List.getElem?_eq_getElem (by omega)) (List.getElem_mem _)
theorem atI_map {α β : Type} (f : α → β) (l : List α) (i : Int) : atI (l.map f) i = (atI l i).map f := by
  unfold atI
  rw [List.length_map]
  cases ixN l.length i <;> simp
theorem setW_lst (e : h[n]? = some (.lst xs)) (h0 : 0 ≤ i) (h1 : i.toNat < xs.length) : setW (.ref n) (.int i) x h = some (h.set n (.lst (xs.set i.toNat x))) := by
  simp only [setW, e, ixN]
  rw [if_pos h0, if_pos (by omega)]
  rfl
@[simp] theorem wLen_tup : wLen [.tup xs] h = some (.int xs.length, h) := rfl
@[simp] theorem wLen_fix : wLen [.fix xs] h = some (.int xs.length, h) := rfl
theorem wLen_lst (e : h[n]? = some (.lst xs)) : wLen [.ref n] h = some (.int xs.length, h) := by simp only [wLen, e]
@[simp] theorem wLenQ_is : wLenQ xs h = some (.int xs.length, h) := rfl
@[simp] theorem wAbs_int : wAbs [.int i] h = some (.int (if i < 0 then -i else i), h) := rfl
@[simp] theorem wMax2_int : wMax2 [.int i, .int j] h = some (.int (if j > i then j else i), h) := rfl
@[simp] theorem wMin2_int : wMin2 [.int i, .int j] h = some (.int (if j < i then j else i), h) := rfl
@[simp] theorem wInt_int : wInt [.int i] h = some (.int i, h) := rfl
@[simp] theorem wInt_bl : wInt [.bl b] h = some (.int (if b then 1 else 0), h) := rfl
@[simp] theorem wTupQ_is : wTupQ xs h = some (.tup xs, h) := rfl
@[simp] theorem lId_is : lId xs h = some (xs, h) := rfl
@[simp] theorem seqOf_tup : seqOf (.tup xs) h = some xs := rfl
@[simp] theorem seqOf_fix : seqOf (.fix xs) h = some xs := rfl
theorem seqOf_lst (e : h[n]? = some (.lst xs)) : seqOf (.ref n) h = some xs := by simp only [seqOf, e]
@[simp] theorem lstOf_fix : lstOf (.fix xs) h = some xs := rfl
theorem lstOf_lst (e : h[n]? = some (.lst xs)) : lstOf (.ref n) h = some xs := by simp only [lstOf, e]
theorem wAppend_lst (e : h[n]? = some (.lst xs)) : wAppend (.ref n) [x] h = if xs.length < 16777216 then some (.non, h.set n (.lst (xs ++ [x]))) else none := by simp only [wAppend, e]
theorem tyW_lst (e : h[n]? = some (.lst xs)) : tyW "list" (.ref n) h = true := by simp only [tyW, e]; rfl
@[simp] theorem iterOf_tup : iterOf n (.tup xs) h = some (itS xs) := rfl
@[simp] theorem iterOf_fix : iterOf n (.fix xs) h = some (itS xs) := rfl
@[simp] theorem iterE_tup : iterE n (.tup xs) h = some (itE (itS xs)) := rfl
@[simp] theorem iterE_fix : iterE n (.fix xs) h = some (itE (itS xs)) := rfl
@[simp] theorem isNon_non : isNonW .non = true := rfl
@[simp] theorem isNon_tup : isNonW (.tup xs) = false := rfl
@[simp] theorem isNon_int : isNonW (.int i) = false := rfl
@[simp] theorem isNon_ref : isNonW (.ref n) = false := rfl
@[simp] theorem refs_int : refsW (.int i) = [] := rfl
@[simp] theorem refs_str : refsW (.str s) = [] := rfl
@[simp] theorem refs_non : refsW .non = [] := rfl
@[simp] theorem refs_bl : refsW (.bl b) = [] := rfl
@[simp] theorem refs_tup : refsW (.tup xs) = refsWs xs := by simp only [refsW]
@[simp] theorem refs_fix : refsW (.fix xs) = refsWs xs := by simp only [refsW]
@[simp] theorem refs_ref : refsW (.ref n) = [n] := by simp only [refsW]
@[simp] theorem refs_nil : refsWs [] = [] := by simp only [refsWs]
@[simp] theorem refs_cons : refsWs (x :: xs) = refsW x ++ refsWs xs := by simp only [refsWs]
@[simp] theorem refs_lst : refsO (.lst xs) = refsWs xs := rfl
@[simp] theorem refs_app : refsWs (xs ++ ys) = refsWs xs ++ refsWs ys := by
  induction xs with
  | nil => simp
  | cons a l ih => simp [ih]
theorem refs_all (q : ∀ x ∈ xs, refsW x = []) : refsWs xs = [] := by
  induction xs with
  | nil => simp
  | cons a l ih => simp [q a List.mem_cons_self, ih fun x hx => q x (List.mem_cons_of_mem _ hx)]
theorem refs_map {α : Type} (f : α → W) (l : List α) (q : ∀ a ∈ l, refsW (f a) = []) : refsWs (l.map f) = [] := refs_all fun x hx => by
  obtain ⟨a, ha, rfl⟩ := List.mem_map.mp hx
  exact q a ha
@[simp] theorem refs_ints (ns : List Int) : refsWs (ns.map W.int) = [] := refs_map _ _ fun _ _ => rfl
end

/-! ### plain data -/
mutual
/-- no truth, no thing of the heap; n deep -/
def plW : Nat → W → Bool
  | _, .non => true
  | _, .int _ => true
  | _, .str x => PyData.strOk x
  | 0, _ => false
  | n + 1, .tup xs => plWs n xs
  | n + 1, .fix xs => plWs n xs
  | _, _ => false
def plWs : Nat → List W → Bool
  | _, [] => true
  | n, x :: xs => plW n x && plWs n xs
end
mutual
def dT : W → PyData
  | .non => .none
  | .bl b => .bool b
  | .int i => .int i
  | .str x => .str x
  | .tup xs => .tuple (dTs xs)
  | .fix xs => .list (dTs xs)
  | .ref _ => .none
  | .exc _ => .none
def dTs : List W → List PyData
  | [] => []
  | x :: xs => dT x :: dTs xs
end
mutual
theorem dat_pl (look : Nat → Option PyData) : ∀ (n : Nat) (w : W), plW n w = true → datS look w = some (dT w) ∧ (dT w).canLay0 = true ∧ (dT w).depth ≤ n
  | n, .non, _ => ⟨rfl, rfl, by simp [dT, PyData.depth]⟩
  | n, .int _, _ => ⟨rfl, rfl, by simp [dT, PyData.depth]⟩
  | n, .str x, h => by
    have h : PyData.strOk x = true := by cases n <;> simpa [plW] using h
    exact ⟨rfl, by simpa [dT, PyData.canLay0] using h, by simp [dT, PyData.depth]⟩
  | 0, .tup xs, h => by simp [plW] at h
  | 0, .fix xs, h => by simp [plW] at h
  | 0, .bl xs, h => by simp [plW] at h
  | 0, .ref xs, h => by simp [plW] at h
  | 0, .exc xs, h => by simp [plW] at h
  | n + 1, .bl xs, h => by simp [plW] at h
  | n + 1, .ref xs, h => by simp [plW] at h
  | n + 1, .exc xs, h => by simp [plW] at h
  | n + 1, .tup xs, h => by
    obtain ⟨a, b, c⟩ := dats_pl look n xs (by simpa only [plW] using h)
    exact ⟨by simp only [datS, a, Option.map_some, dT], by simpa only [dT, PyData.canLay0] using b, by simp only [dT, PyData.depth]; omega⟩
  | n + 1, .fix xs, h => by
    obtain ⟨a, b, c⟩ := dats_pl look n xs (by simpa only [plW] using h)
    exact ⟨by simp only [datS, a, Option.map_some, dT], by simpa only [dT, PyData.canLay0] using b, by simp only [dT, PyData.depth]; omega⟩
theorem dats_pl (look : Nat → Option PyData) : ∀ (n : Nat) (ws : List W), plWs n ws = true → datSs look ws = some (dTs ws) ∧ PyData.canLayAll0 (dTs ws) = true ∧ PyData.depthAll (dTs ws) ≤ n
  | n, [], _ => ⟨rfl, rfl, by simp [dTs, PyData.depthAll]⟩
  | n, x :: xs, h => by
    simp only [plWs, Bool.and_eq_true] at h
    obtain ⟨a, b, c⟩ := dat_pl look n x h.1
    obtain ⟨a2, b2, c2⟩ := dats_pl look n xs h.2
    exact ⟨by simp only [datSs, a, a2, dTs], by simp only [dTs, PyData.canLayAll0, b, b2, Bool.and_self], by simp only [dTs, PyData.depthAll]; omega⟩
end
theorem plF_ref {m n : Nat} : plW m (.ref n) = false := by cases m <;> simp [plW]
theorem plF_exc {m : Nat} {x : XV} : plW m (.exc x) = false := by cases m <;> simp [plW]
theorem plF_bl {m : Nat} {b : Bool} : plW m (.bl b) = false := by cases m <;> simp [plW]
mutual
theorem eqv_pl : ∀ (n : Nat) (x y : W) (m : Nat), plW n x = true → plW m y = true → (PyData.eqv (dT x) (dT y) = true ↔ x = y)
  | n, .non, y, m, h, k => by
    cases y with
    | ref q => rw [plF_ref] at k; cases k
    | exc q => rw [plF_exc] at k; cases k
    | bl b => rw [plF_bl] at k; cases k
    | _ => simp [dT, PyData.eqv]
  | n, .int i, y, m, h, k => by
    cases y with
    | ref q => rw [plF_ref] at k; cases k
    | exc q => rw [plF_exc] at k; cases k
    | bl b => rw [plF_bl] at k; cases k
    | _ => simp [dT, PyData.eqv]
  | n, .str i, y, m, h, k => by
    cases y with
    | ref q => rw [plF_ref] at k; cases k
    | exc q => rw [plF_exc] at k; cases k
    | bl b => rw [plF_bl] at k; cases k
    | _ => simp [dT, PyData.eqv]
  | 0, .tup xs, y, m, h, k => by simp [plW] at h
  | 0, .fix xs, y, m, h, k => by simp [plW] at h
  | 0, .bl xs, y, m, h, k => by simp [plW] at h
  | 0, .ref xs, y, m, h, k => by simp [plW] at h
  | 0, .exc xs, y, m, h, k => by simp [plW] at h
  | n + 1, .bl xs, y, m, h, k => by simp [plW] at h
  | n + 1, .ref xs, y, m, h, k => by simp [plW] at h
  | n + 1, .exc xs, y, m, h, k => by simp [plW] at h
  | n + 1, .tup xs, y, m, h, k => by
    simp only [plW] at h
    cases y with
    | tup ys =>
      cases m with
      | zero => simp [plW] at k
      | succ m =>
        simp only [plW] at k
        simp only [dT, PyData.eqv, W.tup.injEq]
        exact eqvs_pl n xs ys m h k
    | _ => simp [dT, PyData.eqv]
  | n + 1, .fix xs, y, m, h, k => by
    simp only [plW] at h
    cases y with
    | fix ys =>
      cases m with
      | zero => simp [plW] at k
      | succ m =>
        simp only [plW] at k
        simp only [dT, PyData.eqv, W.fix.injEq]
        exact eqvs_pl n xs ys m h k
    | _ => simp [dT, PyData.eqv]
theorem eqvs_pl : ∀ (n : Nat) (xs ys : List W) (m : Nat), plWs n xs = true → plWs m ys = true → (PyData.eqvAll (dTs xs) (dTs ys) = true ↔ xs = ys)
  | n, [], [], m, h, k => by simp [dTs, PyData.eqvAll]
  | n, [], y :: ys, m, h, k => by simp [dTs, PyData.eqvAll]
  | n, x :: xs, [], m, h, k => by simp [dTs, PyData.eqvAll]
  | n, x :: xs, y :: ys, m, h, k => by
    simp only [plWs, Bool.and_eq_true] at h k
    simp only [dTs, PyData.eqvAll, Bool.and_eq_true, List.cons.injEq, eqv_pl n x y m h.1 k.1, eqvs_pl n xs ys m h.2 k.2]
end
theorem shaped_pl {n : Nat} {d : PyData} (h1 : d.canLay0 = true) (h2 : d.depth ≤ n) (hn : n ≤ 64) : SeqAt.shaped d = true := by
  unfold SeqAt.shaped
  rw [h1, decide_eq_true (by omega : d.depth ≤ 64)]
  rfl
noncomputable instance : DecidableEq W := fun _ _ => Classical.propDecidable _
/-- == of plain data, wherever it lies -/
theorem eqB_dat {x y : W} {h : PH} {d e : PyData} (hx : dat h x = some d) (hy : dat h y = some e) (sx : SeqAt.shaped d = true) (sy : SeqAt.shaped e = true) (hb : ∀ b, x ≠ .bl b) : eqB x y h = some (PyData.eqv d e) := by
  unfold eqB
  split
  case h_1 => cases hx; cases hy; simp [PyData.eqv]
  case h_2 => cases hx; cases hy; simp [PyData.eqv]
  case h_3 => cases hx; cases hy; simp [PyData.eqv]
  case h_4 => cases hx; cases hy; simp [PyData.eqv]
  case h_5 => cases hx; cases hy; simp [PyData.eqv]
  case h_6 => cases hx; cases hy; simp [PyData.eqv]
  case h_7 => cases hx; cases hy; simp [PyData.eqv]
  case h_8 => cases hx; cases hy; simp [PyData.eqv]
  case h_9 => cases hx; cases hy; simp [PyData.eqv]
  case h_10 => exact absurd rfl (hb _)
  case h_11 =>
    simp only [hx, hy]
    rw [if_pos ⟨sx, sy⟩]
theorem eqB_pl {x y : W} {h : PH} {n m : Nat} (hx : plW n x = true) (hy : plW m y = true) (hn : n ≤ 64) (hm : m ≤ 64) : eqB x y h = some (decide (x = y)) := by
  obtain ⟨a, b, c⟩ := dat_pl (datL 4 h) n x hx
  obtain ⟨a2, b2, c2⟩ := dat_pl (datL 4 h) m y hy
  rw [eqB_dat a a2 (shaped_pl b c hn) (shaped_pl b2 c2 hm) (fun b z => by subst z; cases n <;> simp [plW] at hx)]
  have := eqv_pl n x y m hx hy
  congr 1
  by_cases q : x = y
  · rw [this.mpr q, decide_eq_true q]
  · rw [decide_eq_false q]
    cases e : PyData.eqv (dT x) (dT y) with
    | false => rfl
    | true => exact absurd (this.mp e) q
theorem wEq_pl {x y : W} {h : PH} {n m : Nat} (hx : plW n x = true) (hy : plW m y = true) (hn : n ≤ 64) (hm : m ≤ 64) : wEq x y h = some (.bl (decide (x = y)), h) := by
  unfold wEq
  rw [eqB_pl hx hy hn hm]
  rfl
theorem wNe_pl {x y : W} {h : PH} {n m : Nat} (hx : plW n x = true) (hy : plW m y = true) (hn : n ≤ 64) (hm : m ≤ 64) : wNe x y h = some (.bl (!decide (x = y)), h) := by
  unfold wNe
  rw [eqB_pl hx hy hn hm]
  rfl
/-- a list of the heap, of plain data -/
theorem dat_lst {h : PH} {n k : Nat} {xs : List W} (e : h[n]? = some (.lst xs)) (hx : plWs k xs = true) : dat h (.ref n) = some (dT (.fix xs)) := by
  have := (dats_pl (datL 3 h) k xs hx).1
  show datL 4 h n = _
  unfold datL
  rw [e]
  dsimp only
  rw [this]
  simp only [Option.map_some, dT]
theorem eqB_lst {h : PH} {n k m : Nat} {xs : List W} {y : W} (e : h[n]? = some (.lst xs)) (hx : plWs k xs = true) (hy : plW m y = true) (hk : k < 64) (hm : m ≤ 64) : eqB (.ref n) y h = some (decide (W.fix xs = y)) := by
  have hx2 : plW (k + 1) (.fix xs) = true := by simpa only [plW] using hx
  obtain ⟨a, b, c⟩ := dat_pl (datL 4 h) (k + 1) (.fix xs) hx2
  obtain ⟨a2, b2, c2⟩ := dat_pl (datL 4 h) m y hy
  rw [eqB_dat (dat_lst e hx) a2 (shaped_pl b c (by omega)) (shaped_pl b2 c2 hm) (fun b z => by cases z)]
  have := eqv_pl (k + 1) (.fix xs) y m hx2 hy
  congr 1
  by_cases q : W.fix xs = y
  · rw [this.mpr q, decide_eq_true q]
  · rw [decide_eq_false q]
    cases e : PyData.eqv (dT (.fix xs)) (dT y) with
    | false => rfl
    | true => exact absurd (this.mp e) q
theorem eqB_lst2 {h : PH} {n n' k m : Nat} {xs ys : List W} (e : h[n]? = some (.lst xs)) (hx : plWs k xs = true) (e2 : h[n']? = some (.lst ys)) (hy : plWs m ys = true) (hk : k < 64) (hm : m < 64) : eqB (.ref n) (.ref n') h = some (decide (xs = ys)) := by
  have hx2 : plW (k + 1) (.fix xs) = true := by simpa only [plW] using hx
  have hy2 : plW (m + 1) (.fix ys) = true := by simpa only [plW] using hy
  obtain ⟨a, b, c⟩ := dat_pl (datL 4 h) (k + 1) (.fix xs) hx2
  obtain ⟨a2, b2, c2⟩ := dat_pl (datL 4 h) (m + 1) (.fix ys) hy2
  rw [eqB_dat (dat_lst e hx) (dat_lst e2 hy) (shaped_pl b c (by omega)) (shaped_pl b2 c2 (by omega)) (fun b z => by cases z)]
  have := eqv_pl (k + 1) (.fix xs) (.fix ys) (m + 1) hx2 hy2
  congr 1
  by_cases q : xs = ys
  · rw [this.mpr (by rw [q]), decide_eq_true q]
  · rw [decide_eq_false q]
    cases e : PyData.eqv (dT (.fix xs)) (dT (.fix ys)) with
    | false => rfl
    | true => exact absurd (by simpa using this.mp e) q
theorem pls_all {n : Nat} {xs : List W} (h : ∀ x ∈ xs, plW n x = true) : plWs n xs = true := by
  induction xs with
  | nil => rfl
  | cons a l ih => simp only [plWs, h a List.mem_cons_self, ih fun x hx => h x (List.mem_cons_of_mem _ hx), Bool.and_self]
theorem pls_map {α : Type} {n : Nat} (f : α → W) (l : List α) (h : ∀ a ∈ l, plW n (f a) = true) : plWs n (l.map f) = true := pls_all fun x hx => by
  obtain ⟨a, ha, rfl⟩ := List.mem_map.mp hx
  exact h a ha
@[simp] theorem pl_int {n : Nat} {i : Int} : plW n (.int i) = true := by cases n <;> rfl
@[simp] theorem pl_non {n : Nat} : plW n .non = true := by cases n <;> rfl
@[simp] theorem pl_str {n : Nat} {s : Str} : plW n (.str s) = PyData.strOk s := by cases n <;> rfl
@[simp] theorem pl_tup {n : Nat} {xs : List W} : plW (n + 1) (.tup xs) = plWs n xs := by simp only [plW]
@[simp] theorem pl_fix {n : Nat} {xs : List W} : plW (n + 1) (.fix xs) = plWs n xs := by simp only [plW]
@[simp] theorem pls_nil {n : Nat} : plWs n [] = true := by simp only [plWs]
@[simp] theorem pls_cons {n : Nat} {x : W} {xs : List W} : plWs n (x :: xs) = (plW n x && plWs n xs) := by simp only [plWs]
@[simp] theorem pls_ints {n : Nat} (l : List Int) : plWs n (l.map W.int) = true := pls_map _ _ fun _ _ => pl_int
theorem flat_ints (l : List Int) : (l.map W.int).all flatW = true := by
  induction l with
  | nil => rfl
  | cons a r ih => simp [flatW]
theorem any_ints (x : Int) (l : List Int) : ((l.map W.int).any fun z => eqF z (.int x)) = decide (x ∈ l) := by
  induction l with
  | nil => simp
  | cons a r ih =>
    rw [List.map_cons, List.any_cons, ih]
    by_cases h : x = a
    · subst h
      simp [eqF]
    · have : (a == x) = false := by simp [Ne.symm h]
      simp [eqF, this, h]
theorem inW_ints (x : Int) (l : List Int) (h : PH) : inW (.int x) (.fix (l.map W.int)) h = some (decide (x ∈ l)) := by
  simp only [inW]
  rw [if_pos ⟨rfl, flat_ints l⟩, any_ints]
@[simp] theorem wIn_ints {x : Int} {l : List Int} {h : PH} : wIn (.int x) (.fix (l.map W.int)) h = some (.bl (decide (x ∈ l)), h) := by
  unfold wIn
  rw [inW_ints]
  rfl
@[simp] theorem wNotIn_ints {x : Int} {l : List Int} {h : PH} : wNotIn (.int x) (.fix (l.map W.int)) h = some (.bl (!decide (x ∈ l)), h) := by
  unfold wNotIn
  rw [inW_ints]
  rfl
theorem lift1_to {F : FM} {n : Nat} {o : OB} {r : List W} {h : PH} {Q : W → PH → Prop} {P : W → OB → Prop} (e : h[n]? = some o) (ho : refsO o = []) (hw : refsWs r = []) (run : (F (.ref 0 :: r) [o]).To fun w g => ∃ o2 g2, g = o2 :: g2 ∧ refsO o2 = [] ∧ refsW w = [] ∧ P w o2)
    (q : ∀ w o2, P w o2 → Q w (h.set n o2)) : (lift1 F (.ref n :: r) h).To Q := by
  obtain ⟨w, g, e1, o2, g2, rfl, h2, hr, p⟩ := run.is
  rw [lift1_plain e ho hw e1 h2 hr, to_ok]
  exact q w o2 p
theorem lift0_to {F : FM} {ws : List W} {h : PH} {Q : W → PH → Prop} {P : W → Prop} (hw : refsWs ws = []) (run : (F ws []).To fun w g => refsW w = [] ∧ P w) (q : ∀ w, P w → Q w h) : (lift0 F ws h).To Q := by
  obtain ⟨w, g, e1, hr, p⟩ := run.is
  rw [lift0_plain hw e1 hr, to_ok]
  exact q w p
theorem lift0_lst {F : FM} {ws : List W} {h : PH} {Q : W → PH → Prop} {P : List W → Prop} (hw : refsWs ws = []) (run : (F ws []).To fun w g => ∃ k xs, w = .ref k ∧ g[k]? = some (.lst xs) ∧ refsWs xs = [] ∧ P xs) (q : ∀ xs, P xs → Q (.ref h.length) (h ++ [.lst xs])) : (lift0 F ws h).To Q := by
  obtain ⟨w, g, e1, k, xs, rfl, eg, hr, p⟩ := run.is
  rw [lift0_list hw e1 eg hr, to_ok]
  exact q xs p
/-- a tuple of a fresh list and something plain -/
theorem lift0_pair {F : FM} {ws : List W} {h : PH} {Q : W → PH → Prop} {P : List W → W → Prop} (hw : refsWs ws = []) (run : (F ws []).To fun w g => ∃ k xs y, w = .tup [.ref k, y] ∧ g[k]? = some (.lst xs) ∧ refsWs xs = [] ∧ refsW y = [] ∧ P xs y)
    (q : ∀ xs y, P xs y → Q (.tup [.ref h.length, y]) (h ++ [.lst xs])) : (lift0 F ws h).To Q := by
  obtain ⟨w, g, e1, k, xs, y, rfl, eg, hx, hy, p⟩ := run.is
  have r1 : objs g [k] = [] := by simp [objs, eg, refsO, hx]
  have r2 : objs g [] = [] := rfl
  have rk : reach g [k] = [k] := by unfold reach; rw [r1, r2]; rfl
  have hl := (List.getElem?_eq_some_iff.mp eg).1
  have er : refsW (.tup [.ref k, y]) = [k] := by simp [hy]
  unfold lift0
  rw [if_pos hw, e1]
  unfold outR
  dsimp only
  rw [er, rk, if_pos (by simp [apt, r1, hl])]
  have e2 : renW (pos [k] h.length) (.tup [.ref k, y]) = .tup [.ref h.length, y] := by simp [renW, renWs, pos, ren_id y hy]
  have e3 : news g [k] h.length = [.lst xs] := by simp [news, eg, renO, rens_id xs hx]
  rw [e2, e3, to_ok]
  exact q xs y p
theorem atI_neg1 {α : Type} (l : List α) (x : α) : atI (l ++ [x]) (-1) = some x := by
  unfold atI ixN
  rw [if_neg (by decide), List.length_append, List.length_singleton, if_pos (by omega)]
  have : (-1 + ((l.length + 1 : Nat) : Int)).toNat = l.length := by omega
  show (l ++ [x])[(-1 + ((l.length + 1 : Nat) : Int)).toNat]? = some x
  rw [this]
  simp
@[simp] theorem tyName_int {h : PH} {i : Int} : tyName (.int i) h = some "int" := rfl
@[simp] theorem tyName_bl {h : PH} {i : Bool} : tyName (.bl i) h = some "bool" := rfl
@[simp] theorem tyName_str {h : PH} {i : Str} : tyName (.str i) h = some "str" := rfl
@[simp] theorem tyName_non {h : PH} : tyName .non h = some "NoneType" := rfl
@[simp] theorem tyName_tup {h : PH} {i : List W} : tyName (.tup i) h = some "tuple" := rfl
@[simp] theorem tyName_fix {h : PH} {i : List W} : tyName (.fix i) h = some "list" := rfl
theorem tyName_lst {h : PH} {n : Nat} {xs : List W} (e : h[n]? = some (.lst xs)) : tyName (.ref n) h = some "list" := by simp only [tyName, e]
@[simp] theorem tru_bl {h : PH} {b : Bool} : tru (.bl b) h = some b := rfl
@[simp] theorem isB_ii : isB "int" "int" = true := rfl
@[simp] theorem isB_ib : isB "int" "bool" = false := by decide
@[simp] theorem isB_bi : isB "bool" "int" = true := by decide
@[simp] theorem isB_bb : isB "bool" "bool" = true := rfl
@[simp] theorem isB_ss : isB "str" "str" = true := rfl
@[simp] theorem isB_si : isB "str" "int" = false := by decide
@[simp] theorem isB_ni : isB "NoneType" "int" = false := by decide
@[simp] theorem isB_ti : isB "tuple" "int" = false := by decide
@[simp] theorem isB_li : isB "list" "int" = false := by decide
@[simp] theorem isB_ll : isB "list" "list" = true := rfl
@[simp] theorem isB_tt : isB "tuple" "tuple" = true := rfl
end Mir

/-! Mir: repr of plain data is told; == of what lies in the heap. -/
namespace Mir
open PySem PySem.Spec PyProof.Rows L2
mutual
/-- small numbers, plain signs, nothing of the heap -/
def smW : W → Bool
  | .int i => decide (i.natAbs < 10000000)
  | .str x => x.cps.toList.all fun c => decide (c < 16 ^ 8)
  | .tup xs => smWs xs
  | .fix xs => smWs xs
  | .ref _ => false
  | .exc _ => false
  | _ => true
def smWs : List W → Bool
  | [] => true
  | x :: xs => smW x && smWs xs
end
mutual
/-- how great at most -/
def wB : W → Nat
  | .int _ => 24
  | .str x => x.cps.size
  | .tup xs => wBs xs
  | .fix xs => wBs xs
  | _ => 0
def wBs : List W → Nat
  | [] => 0
  | x :: xs => wB x + 1 + wBs xs
end
mutual
theorem sm_of : ∀ w : W, smW w = true → (dT w).leavesShort 8 = true ∧ (dT w).showable = true ∧ (dT w).hasDict = false ∧ (dT w).weight ≤ wB w
  | .non, _ => ⟨rfl, rfl, rfl, by simp [dT, PyData.weight]⟩
  | .bl b, _ => ⟨rfl, rfl, rfl, by simp [dT, PyData.weight]⟩
  | .int i, h => by
    have h : i.natAbs < 10000000 := by simpa [smW] using h
    have e := int_text_length_le10 (a := i) (k := 7) (by decide) (by simpa using h)
    have l2 : i.natAbs ≠ 0 → i.natAbs.log2 < 24 := fun z => (Nat.log2_lt z).mpr (by omega)
    refine ⟨?_, ?_, rfl, ?_⟩
    · have e2 : (PyData.shown (.int i)).length ≤ 8 := by
        show (Str.ofString (toString i)).length ≤ 8
        rw [PySem.ofString_length]
        exact e
      simp only [dT, PyData.leavesShort]
      exact decide_eq_true e2
    · simp only [dT, PyData.showable, decide_eq_true_eq]
      by_cases z : i.natAbs = 0
      · rw [z]; decide
      · have := l2 z
        omega
    · simp only [dT, PyData.weight, wB]
      split
      · omega
      · rename_i z
        have : i.natAbs ≠ 0 := fun q => z (by simpa using q)
        have := l2 this
        omega
  | .str x, h => ⟨by simpa [dT, PyData.leavesShort, smW] using h, rfl, rfl, by simp [dT, PyData.weight, wB]⟩
  | .ref _, h => by simp [smW] at h
  | .exc _, h => by simp [smW] at h
  | .tup xs, h => by
    obtain ⟨a, b, c, d⟩ := sms_of xs (by simpa only [smW] using h)
    exact ⟨by simpa only [dT, PyData.leavesShort] using a, by simpa only [dT, PyData.showable] using b, by simpa only [dT, PyData.hasDict] using c, by simpa only [dT, PyData.weight, wB] using d⟩
  | .fix xs, h => by
    obtain ⟨a, b, c, d⟩ := sms_of xs (by simpa only [smW] using h)
    exact ⟨by simpa only [dT, PyData.leavesShort] using a, by simpa only [dT, PyData.showable] using b, by simpa only [dT, PyData.hasDict] using c, by simpa only [dT, PyData.weight, wB] using d⟩
theorem sms_of : ∀ ws : List W, smWs ws = true → PyData.leavesShortAll 8 (dTs ws) = true ∧ PyData.showableAll (dTs ws) = true ∧ PyData.hasDictAll (dTs ws) = false ∧ PyData.weightAll (dTs ws) ≤ wBs ws
  | [], _ => ⟨rfl, rfl, rfl, by simp [dTs, PyData.weightAll]⟩
  | x :: xs, h => by
    simp only [smWs, Bool.and_eq_true] at h
    obtain ⟨a, b, c, d⟩ := sm_of x h.1
    obtain ⟨a2, b2, c2, d2⟩ := sms_of xs h.2
    exact ⟨by simp only [dTs, PyData.leavesShortAll, a, a2, Bool.and_self], by simp only [dTs, PyData.showableAll, b, b2, Bool.and_self], by simp only [dTs, PyData.hasDictAll, c, c2, Bool.or_self], by simp only [dTs, PyData.weightAll, wBs]; omega⟩
end
theorem repr_tup {xs : List W} {n : Nat} {h : PH} (hp : plW n (.tup xs) = true) (hn : n ≤ 100) (hs : smW (.tup xs) = true) (hw : wB (.tup xs) ≤ 1600000) : wRepr [.tup xs] h = some (.str (dT (.tup xs)).shown, h) := by
  obtain ⟨a, b, c⟩ := dat_pl (datL 4 h) n (.tup xs) hp
  obtain ⟨s1, s2, s3, s4⟩ := sm_of (.tup xs) hs
  have l := PyData.shown_le 8 (by decide) _ s1
  have e : dat h (.tup xs) = some (dT (.tup xs)) := a
  simp only [wRepr, e]
  rw [if_pos ⟨s2, s3, by omega, by omega⟩]
@[simp] theorem sm_int {i : Int} : smW (.int i) = decide (i.natAbs < 10000000) := by simp only [smW]
@[simp] theorem sm_str {x : Str} : smW (.str x) = x.cps.toList.all fun c => decide (c < 16 ^ 8) := by simp only [smW]
@[simp] theorem sm_tup {xs : List W} : smW (.tup xs) = smWs xs := by simp only [smW]
@[simp] theorem sm_fix {xs : List W} : smW (.fix xs) = smWs xs := by simp only [smW]
@[simp] theorem sms_nil : smWs [] = true := by simp only [smWs]
@[simp] theorem sms_cons {x : W} {xs : List W} : smWs (x :: xs) = (smW x && smWs xs) := by simp only [smWs]
@[simp] theorem wB_int {i : Int} : wB (.int i) = 24 := by simp only [wB]
@[simp] theorem wB_str {x : Str} : wB (.str x) = x.cps.size := by simp only [wB]
@[simp] theorem wB_tup {xs : List W} : wB (.tup xs) = wBs xs := by simp only [wB]
@[simp] theorem wB_fix {xs : List W} : wB (.fix xs) = wBs xs := by simp only [wB]
@[simp] theorem wBs_nil : wBs [] = 0 := by simp only [wBs]
@[simp] theorem wBs_cons {x : W} {xs : List W} : wBs (x :: xs) = wB x + 1 + wBs xs := by simp only [wBs]
theorem sms_map {α : Type} (f : α → W) (l : List α) (h : ∀ a ∈ l, smW (f a) = true) : smWs (l.map f) = true := by
  induction l with
  | nil => rfl
  | cons a r ih => simp only [List.map_cons, sms_cons, h a List.mem_cons_self, ih fun b hb => h b (List.mem_cons_of_mem _ hb), Bool.and_self]
theorem wBs_map {α : Type} (f : α → W) (l : List α) (k : Nat) (h : ∀ a ∈ l, wB (f a) ≤ k) : wBs (l.map f) ≤ (k + 1) * l.length := by
  induction l with
  | nil => simp
  | cons a r ih =>
    have h1 := h a List.mem_cons_self
    have h2 := ih fun b hb => h b (List.mem_cons_of_mem _ hb)
    simp only [List.map_cons, wBs_cons, List.length_cons, Nat.mul_add, Nat.mul_one]
    omega
/-- == of what is told to be tx and ty -/
theorem eqB_T {x y tx ty : W} {h : PH} {n m : Nat} (hx : dat h x = some (dT tx)) (hy : dat h y = some (dT ty)) (px : plW n tx = true) (py : plW m ty = true) (hn : n ≤ 64) (hm : m ≤ 64) (hb : ∀ b, x ≠ .bl b) : eqB x y h = some (decide (tx = ty)) := by
  obtain ⟨_, b, c⟩ := dat_pl (datL 4 h) n tx px
  obtain ⟨_, b2, c2⟩ := dat_pl (datL 4 h) m ty py
  rw [eqB_dat hx hy (shaped_pl b c hn) (shaped_pl b2 c2 hm) hb]
  have := eqv_pl n tx ty m px py
  congr 1
  by_cases q : tx = ty
  · rw [this.mpr q, decide_eq_true q]
  · rw [decide_eq_false q]
    cases e : PyData.eqv (dT tx) (dT ty) with
    | false => rfl
    | true => exact absurd (this.mp e) q
theorem wNe_T {x y tx ty : W} {h : PH} {n m : Nat} (hx : dat h x = some (dT tx)) (hy : dat h y = some (dT ty)) (px : plW n tx = true) (py : plW m ty = true) (hn : n ≤ 64) (hm : m ≤ 64) (hb : ∀ b, x ≠ .bl b) : wNe x y h = some (.bl (!decide (tx = ty)), h) := by
  unfold wNe
  rw [eqB_T hx hy px py hn hm hb]
  rfl
theorem wEq_T {x y tx ty : W} {h : PH} {n m : Nat} (hx : dat h x = some (dT tx)) (hy : dat h y = some (dT ty)) (px : plW n tx = true) (py : plW m ty = true) (hn : n ≤ 64) (hm : m ≤ 64) (hb : ∀ b, x ≠ .bl b) : wEq x y h = some (.bl (decide (tx = ty)), h) := by
  unfold wEq
  rw [eqB_T hx hy px py hn hm hb]
  rfl
/-- a list of the heap whose items are lists of the heap, of plain data -/
theorem dat_lst2 {h : PH} {n k : Nat} {rs : List Nat} {L : Nat → List W} (e : h[n]? = some (.lst (rs.map W.ref))) (hl : ∀ r ∈ rs, h[r]? = some (.lst (L r))) (hp : ∀ r ∈ rs, plWs k (L r) = true) : dat h (.ref n) = some (dT (.fix (rs.map fun r => W.fix (L r)))) := by
  show datL 4 h n = _
  unfold datL
  rw [e]
  dsimp only
  have : datSs (datL 3 h) (rs.map W.ref) = some (dTs (rs.map fun r => W.fix (L r))) := by
    clear e
    induction rs with
    | nil => rfl
    | cons a r ih =>
      have i := ih (fun x hx => hl x (List.mem_cons_of_mem _ hx)) fun x hx => hp x (List.mem_cons_of_mem _ hx)
      have e1 : datS (datL 3 h) (.ref a) = some (dT (.fix (L a))) := by
        show datL 3 h a = _
        unfold datL
        rw [hl a List.mem_cons_self]
        dsimp only
        rw [(dats_pl (datL 2 h) k (L a) (hp a List.mem_cons_self)).1]
        simp only [Option.map_some, dT]
      simp only [List.map_cons, datSs, e1, i, dTs]
  rw [this]
  simp only [Option.map_some, dT]
end Mir

/-! Mir: exceptions of the program's own classes: raised, caught and kept, asked of. -/
namespace Mir
open PySem PySem.Spec PyProof.Rows L2

/-! ### an exception taken over from the air -/
section
variable {X : Cx} {pins : List (Addr × Obj)} {σ : L2.St} {H : Hp} {s sI : Shared} {a C : Addr} {d : Option Addr} {oe : Obj} {vs : Array Value}
theorem exV_ok {P : Program} {w : World} {G : Hp} {h : Heap} (he : h.get? a = some oe) (hz : Zc (.ref C) d oe) (hv : oe.data = .fields vs) : ObjOk P w G h a (exV C d a) :=
  ⟨⟨oe, vs, he, hz, hv⟩, ⟨oe, he⟩, fun h1 h2 z k => by
    obtain ⟨o, u, q, r⟩ := z
    exact ⟨o, u, k o q, r⟩⟩
/-- the state with it: J is of the state ahead, where it did not stand -/
theorem inv_adopt (J : Inv X pins σ H sI) (I : Inv X pins σ H s) (hx : X.ex = []) (hn : sI.heap.get? a = none) (na : H a = none) (nL : a ≠ X.env.locals) (nF : a ∉ X.fs) (he : s.heap.get? a = some oe) (hz : Zc (.ref C) d oe) (hv : oe.data = .fields vs) :
    Inv X pins σ (upd H a (exV C d a)) s := by
  have n0 : ∀ b o, X.s_0.heap.get? b = some o → b ≠ a := fun b o e z => by
    obtain ⟨o', q⟩ := J.base.there b o e (by rw [hx]; exact List.not_mem_nil)
    rw [z, hn] at q
    cases q
  refine ⟨I.ok, I.os, I.bare, ⟨I.base.keep, I.base.slot, fun b o e n h => ?_, I.base.there, fun b xs e => ?_, fun b o u e => ?_, fun b ps e => ?_⟩, I.loc, I.cell, ?_, fun x c e => ?_, fun p hp => ?_, fun b u e => ?_, I.len⟩
  · rw [upd_ne (n0 b o e)]
    exact I.base.free b o e n h
  · have q := I.base.tups b xs e
    rw [upd_ne (ne_of_none q na)]
    exact q
  · have q := I.base.frzs b o u e
    rw [upd_ne (ne_of_none q na)]
    exact q
  · obtain ⟨m, q⟩ := I.base.tbls b ps e
    exact ⟨m, by rw [upd_ne (ne_of_none q na)]; exact q⟩
  · rw [upd_ne (Ne.symm nL)]
    exact I.free
  · obtain ⟨v, o, q, _⟩ := J.cell x c e
    rw [upd_ne (fun z => by rw [z, hn] at q; cases q)]
    exact I.freeC x c e
  · obtain ⟨q, _⟩ := J.pin p hp
    obtain ⟨h1, h2, h3⟩ := I.pin p hp
    exact ⟨h1, by rw [upd_ne (fun z => by rw [z, hn] at q; cases q)]; exact h2, h3⟩
  · by_cases hb : b = a
    · subst hb
      rw [upd_same] at e
      cases e
      exact exV_ok he hz hv
    · rw [upd_ne hb] at e
      exact (I.hok b u e).stay (fun _ _ _ q => q) (fun c q => by rw [upd_ne (ne_of_none q na)]; exact q) fun c xs q => by rw [upd_ne (ne_of_none q na)]; exact q
theorem inv_suite0 (I : Inv X pins σ H s) : Inv (X.suite a (X.pn ++ pins)) [] σ H s :=
  ⟨I.ok.suite _ _, I.os, I.bare, I.base, I.loc, I.cell, I.free, I.freeC, fun p hp => I.pin p (by rw [List.append_nil] at hp; exact hp), I.hok, I.len⟩
theorem inv_unsuite0 (ok : X.Ok) {p2 : List (Addr × Obj)} (I : Inv (X.suite a (X.pn ++ pins)) p2 σ H s) : Inv X pins σ H s :=
  ⟨ok, I.os, I.bare, I.base, I.loc, I.cell, I.free, I.freeC, fun p hp => I.pin p (List.mem_append_left _ hp), I.hok, I.len⟩
end

/-! ### try: the exception that is caught is kept -/
/-- a clause: the class, the name's slot, the suite's reading -/
structure Cl where
  c : Value
  i : Option Nat
  t : TS
def Cl.set (k : Cl) (a : Addr) (σ : L2.St) : L2.St := match k.i with
  | none => σ
  | some i => σ.set i (some (.ref a))
def Cl.end_ (k : Cl) (σ : L2.St) : L2.St := match k.i with
  | none => σ
  | some i => σ.set i none
def Cl.D (k : Cl) (D : Ends) : Ends := { nx := fun σ' H' => D.nx (k.end_ σ') H', rt := D.rt, bk := fun σ' H' => D.bk (k.end_ σ') H', ct := fun σ' H' => D.ct (k.end_ σ') H' }
/-- what the clauses want of an exception of the body -/
def wK (K : PySem.W.Frag) (Wo : WX) (D : Ends) : List Cl → WX
  | [] => Wo
  | k :: r => fun cls d σ H => ∃ b, PySem.W.exmOne K cls k.c = some b ∧ (b = true → ∃ C, cls = .ref C ∧ ∀ a, H a = none → k.t (k.D D) (k.set a σ) (upd H a (exV C d a))) ∧ (b = false → wK K Wo D r cls d σ H)
inductive HdK (X : Cx) : List ExceptHandler → List Cl → Prop
  | nil : HdK X [] []
  | plain {x : Str} {k : Cl} {b₀ : Stmt} {suite : List Stmt} {np pos' : Pos} {hds : List ExceptHandler} {l : List Cl} (hc : Names X x k.c) (hi : k.i = none)
      (hsu : ∀ (a : Addr) (pn : List (Addr × Obj)), PSs (X.suite a pn) (b₀ :: suite) k.t) (r : HdK X hds l) : HdK X (.ExceptHandler (some (.Name x np)) none (b₀ :: suite) pos' :: hds) (k :: l)
  | named {x n : Str} {i : Nat} {k : Cl} {b₀ : Stmt} {suite : List Stmt} {np pos' : Pos} {hds : List ExceptHandler} {l : List Cl} (hc : Names X x k.c) (hi : k.i = some i) (hN : X.N.Nodup) (hn : X.N[i]? = some n) (hln : X.env.kindOf n = some .local)
      (hsu : ∀ (a : Addr) (pn : List (Addr × Obj)), PSs (X.suite a pn) (b₀ :: suite) k.t) (r : HdK X hds l) : HdK X (.ExceptHandler (some (.Name x np)) (some n) (b₀ :: suite) pos' :: hds) (k :: l)
section
variable {X : Cx} {body : List Stmt} {h₀ : ExceptHandler} {hds : List ExceptHandler} {l : List Cl} {pos : Pos} {tb : WX → TS} {Wo : WX}
theorem ps_try_keep (hs : X.stack = X.env :: X.outer) (hf : X.env.frame = some X.env.locals) (hx : X.ex = []) (tk : Takes X Wo)
    (hb : ∀ (W : WX) (pn : List (Addr × Obj)) (xe : Value → Shared → Prop), Takes (X.tr pn xe) W → PassesOwn (model X.prog X.w) X.A X.env xe → PSs (X.tr pn xe) body (tb W))
    (hh : HdK X (h₀ :: hds) l) : PS X (.Try body (h₀ :: hds) [] [] pos) (fun D σ H => tb (wK X.K Wo D l) D σ H) := by
  refine ⟨fun pins s σ H D I h => ?_⟩
  have ok := I.ok
  have frames : X.A.frames = some (X.env :: X.outer) := by rw [ok.frames, hs]
  have catch_ : ∀ u s', XE (X.tr (X.pn ++ pins) fun e s₁ => wpAny (model X.prog X.w) X.A (noteFrame e X.env) (fun _ s₂ => wpAny (model X.prog X.w) X.A (setFlight e none) (fun _ s₃ =>
      wpAny (model X.prog X.w) X.A (handleBy e X.env (h₀ :: hds)) (SP X pins D) X.xe s₃) X.xe s₂) X.xe s₁) (wK X.K Wo D l) u s' →
      wpAny (model X.prog X.w) X.A (noteFrame u X.env) (fun _ s₂ => wpAny (model X.prog X.w) X.A (setFlight u none) (fun _ s₃ =>
      wpAny (model X.prog X.w) X.A (handleBy u X.env (h₀ :: hds)) (SP X pins D) X.xe s₃) X.xe s₂) X.xe s' := by
    intro u s' xx
    obtain ⟨a, B, sI, pins', σ1, H1, cls, d, rfl, J0, nb, up, sky, na, os, ag, w⟩ := xx
    have J : Inv X pins σ1 H1 sI := J0.ofTry ok
    have sky2 : Sky B (X.env :: X.outer) a (Zc cls d) X.env.locals s'.heap := by rw [← hs]; exact sky
    have nB : B.get? a = none := by
      rcases sky2 with z | z | z
      · exact z.2.1
      · exact z.2.1
      · exact z.2.1
    refine Sky.land Zc.steady frames hf sky2 fun h3 fl3 up3 => ?_
    have J3 : Inv X pins σ1 H1 { s' with heap := h3 } := J.landed nb fl3.1 (up.trans up3) os ag
    obtain ⟨oe3, vs3, he3, hz3, hd3⟩ := fl3.there
    have outside : a ∉ frs (X.env :: X.outer) := fun hm => by
      obtain ⟨_, o2, e2, hnf⟩ := fl3.2.2.1.mem hm
      rw [he3] at e2
      cases e2
      exact hnf _ hd3
    have nL : a ≠ X.env.locals := fun z => outside (List.mem_filterMap.mpr ⟨X.env, List.mem_cons_self, by rw [hf, z]⟩)
    have nF : a ∉ X.fs := fun hm => by
      obtain ⟨e, he, q⟩ := List.mem_filterMap.mp hm
      exact outside (List.mem_filterMap.mpr ⟨e, List.mem_cons_of_mem _ he, q⟩)
    have nI : sI.heap.get? a = none := by
      cases e : sI.heap.get? a with
      | none => rfl
      | some o =>
        have := nb a o e (by rw [hs]; exact outside)
        rw [nB] at this
        cases this
    have S3 : Inv (X.suite a (X.pn ++ pins)) [] σ1 H1 { s' with heap := h3 } := inv_suite0 J3
    have asked : ∀ {x : Str} {c : Value} {np : Pos} {Q E : Value → Shared → Prop}, Names X x c → Q c { s' with heap := h3 } → wpAny (model X.prog X.w) (X.A.mark (some (.ref a))) (eval (.Name x np) X.env) Q E { s' with heap := h3 } := fun {x c np Q E} hc q => by
      obtain ⟨hg, hdb, hm | ⟨hm, hv, hnn⟩⟩ := hc
      · exact ld_glob (X := X.suite a (X.pn ++ pins)) S3 hg hm q hdb
      · exact ld_blt (X := X.suite a (X.pn ++ pins)) S3 hg hm hv q hnn hdb
    have LT : PySem.W.Looks (model X.prog X.w) h3 (typeOf (.ref a)) cls := fun A Q E s k q => wpAny_typeOf_ref (k _ _ he3) (by rw [hz3.1]; exact q)
    have taken : ∀ {C : Addr} {s4 : Shared}, cls = .ref C → Inv X pins σ1 H1 s4 → (∃ oe vs, s4.heap.get? a = some oe ∧ Zc cls d oe ∧ oe.data = .fields vs) → Inv X pins σ1 (upd H1 a (exV C d a)) s4 := fun {C s4} ec I4 z => by
      obtain ⟨oe, vs, z1, z2, z3⟩ := z
      subst ec
      exact inv_adopt J I4 hx nI na nL nF z1 z2 z3
    have go : ∀ {hd2 : List ExceptHandler} {l2 : List Cl}, HdK X hd2 l2 → wK X.K Wo D l2 cls d σ1 H1 →
        wpAny (model X.prog X.w) X.A (handleBy (.ref a) X.env hd2) (SP X pins D) X.xe { s' with heap := h3 } := by
      intro hd2 l2 hk
      induction hk with
      | nil =>
        intro w2
        refine wpAny_handleBy_nil ?_
        obtain ⟨g1, g2, g3, oe, vs, T, oT, tt, g4, g5, g6, g7, g8⟩ := id fl3
        have last : wpAny (model X.prog X.w) X.A (setFlight (.ref a) X.env.frame) (fun _ s4 => wpAny (model X.prog X.w) X.A (throw (.ref a) : Sem Flow) (SP X pins D) X.xe s4) X.xe { s' with heap := h3 } := by
          rw [hf]
          exact HandSPX.setFlight_upZ fl3 fun h4 q4 up4 => wpAny_throw (tk _ _ ⟨a, B, sI, pins, σ1, H1, cls, d, rfl, J, nb, (up.trans up3).trans up4, .inr (.inr (by rw [hs]; exact q4)), na, os, ag, w2⟩)
        unfold PySem.passOn
        refine wpAny_bind (wpAny_field g4 g6 g7 ?_)
        rw [if_neg (show ¬ ((Value.ref T == Value.none) = true) from by simp)]
        first
          | exact wpAny_bind (wpAny_pure (wpAny_bind last))
          | exact wpAny_bind last
      | @plain x k b₀ suite np pos' hd3 l3 hc hi hsu r ih =>
        intro w2
        obtain ⟨b, hb1, yes, no⟩ := w2
        refine wpAny_handleBy_cons (codeAny_handlers_test (asked hc ((PySem.W.exm_one (M := model X.prog X.w) J3.kIn LT hb1).here ?_))) (by intro q; cases q)
        cases b with
        | false =>
          show wpAny _ X.A (handleBy (.ref a) X.env hd3) _ _ _
          exact ih (no rfl)
        | true =>
          obtain ⟨C, ec, q⟩ := yes rfl
          refine codeAny_handlers_suite (HandSPX.lands_againZ fl3 fun h4 fl4 up4 => ?_)
          have I4 : Inv X pins σ1 H1 { s' with heap := h4 } := J.landed nb fl4.1 ((up.trans up3).trans up4) os ag
          have q := q a na
          simp only [Cl.set, hi] at q
          refine wpAny_mono ((hsu a (X.pn ++ pins)).run [] _ _ _ _ (inv_suite0 (taken ec I4 fl4.there)) q) (fun f s6 hsp => ?_) (fun _ _ z => False.elim z)
          have ee : ∀ σ : L2.St, k.end_ σ = σ := fun σ => by simp only [Cl.end_, hi]
          cases f with
          | next =>
            obtain ⟨σ6, H6, S6, q6⟩ := hsp
            exact ⟨_, _, inv_unsuite0 ok S6, (ee σ6) ▸ q6⟩
          | brk =>
            obtain ⟨σ6, H6, S6, q6⟩ := hsp
            exact ⟨_, _, inv_unsuite0 ok S6, (ee σ6) ▸ q6⟩
          | cont =>
            obtain ⟨σ6, H6, S6, q6⟩ := hsp
            exact ⟨_, _, inv_unsuite0 ok S6, (ee σ6) ▸ q6⟩
          | ret u =>
            obtain ⟨v6, σ6, H6, S6, r6, q6⟩ := hsp
            exact ⟨_, _, _, inv_unsuite0 ok S6, r6, q6⟩
      | @named x n i k b₀ suite np pos' hd3 l3 hc hi hN hn hln hsu r ih =>
        intro w2
        obtain ⟨b, hb1, yes, no⟩ := w2
        refine wpAny_handleBy_cons (codeAny_handlers_test (asked hc ((PySem.W.exm_one (M := model X.prog X.w) J3.kIn LT hb1).here ?_))) (by intro q; cases q)
        cases b with
        | false =>
          show wpAny _ X.A (handleBy (.ref a) X.env hd3) _ _ _
          exact ih (no rfl)
        | true =>
          obtain ⟨C, ec, q⟩ := yes rfl
          refine codeAny_handlers_suite_as (HandSPX.lands_againZ fl3 fun h4 fl4 up4 => ?_)
          have I4 : Inv X pins σ1 H1 { s' with heap := h4 } := J.landed nb fl4.1 ((up.trans up3).trans up4) os ag
          have q := q a na
          simp only [Cl.set, hi] at q
          refine store_ok (X := X.suite a (X.pn ++ pins)) (v := .ref a) (inv_suite0 (taken ec I4 fl4.there)) hN hn (.inl hln) rfl (fun s5 S5 => ?_) (.inr hln)
          refine wpAny_mono ((hsu a (X.pn ++ pins)).run [] s5 _ _ _ S5 q) (fun f s6 hsp => ?_) (fun _ _ z => False.elim z)
          have ee : ∀ σ : L2.St, k.end_ σ = σ.set i none := fun σ => by simp only [Cl.end_, hi]
          cases f with
          | next =>
            obtain ⟨σ6, H6, S6, q6⟩ := hsp
            exact gone_ok (inv_unsuite0 ok S6) hN hn hln fun s7 J7 => ⟨_, _, J7, (ee σ6) ▸ q6⟩
          | brk =>
            obtain ⟨σ6, H6, S6, q6⟩ := hsp
            exact gone_ok (inv_unsuite0 ok S6) hN hn hln fun s7 J7 => ⟨_, _, J7, (ee σ6) ▸ q6⟩
          | cont =>
            obtain ⟨σ6, H6, S6, q6⟩ := hsp
            exact gone_ok (inv_unsuite0 ok S6) hN hn hln fun s7 J7 => ⟨_, _, J7, (ee σ6) ▸ q6⟩
          | ret u =>
            obtain ⟨v6, σ6, H6, S6, r6, q6⟩ := hsp
            exact gone_ok (inv_unsuite0 ok S6) hN hn hln fun s7 J7 => ⟨_, _, _, J7, r6, q6⟩
    exact go hh w
  refine wpAny_Try_except (wpAny_mono ((hb (wK X.K Wo D l) (X.pn ++ pins) _ catch_ PassesOwn.looking).run [] s σ H D (I.toTry _) h) (fun f s1 hsp => ?_) fun e s1 he => he)
  cases f with
  | next =>
    obtain ⟨σ1, H1, J, q⟩ := hsp
    exact wpAny_execs_nil ⟨σ1, H1, J.ofTry ok, q⟩
  | brk =>
    obtain ⟨σ1, H1, J, q⟩ := hsp
    exact ⟨σ1, H1, J.ofTry ok, q⟩
  | cont =>
    obtain ⟨σ1, H1, J, q⟩ := hsp
    exact ⟨σ1, H1, J.ofTry ok, q⟩
  | ret u =>
    obtain ⟨v, σ1, H1, J, r, q⟩ := hsp
    exact ⟨v, σ1, H1, J.ofTry ok, r, q⟩
end
end Mir

/-! Mir: raise, try and isinstance by the own computations. -/
namespace Mir
open PySem PySem.Spec PyProof.Rows L2

/-- the program's classes: all stand under DuelError -/
def isSub (c d : Str) : Bool := c == d || d == "DuelError" || d == "ValueError"
def ClsOf (mg : Str → Option Value) (d : Str) (u : Value) : Prop := mg d = some u ∨ (mg d = none ∧ bootBuiltins d = some u)
/-- isinstance says so of c and d -/
def EPair (K : PySem.W.Frag) (mg : Str → Option Value) (c d : Str) : Prop := ∀ (C : Addr) (u : Value), PySem.W.nsIn K mainGlobals c = some (some (.ref C)) → ClsOf mg d u → PySem.W.kitOne K (.ref C) u = some (isSub c d)
/-- a clause says so of c and d -/
def EMat (K : PySem.W.Frag) (mg : Str → Option Value) (c d : Str) : Prop := ∀ (C : Addr) (u : Value), PySem.W.nsIn K mainGlobals c = some (some (.ref C)) → ClsOf mg d u → PySem.W.exmOne K (.ref C) u = some (isSub c d)
theorem cls_one {K : PySem.W.Frag} {mg : Str → Option Value} {c d : Str} {C : Addr} {u : Value} (hc : PySem.W.nsIn K mainGlobals c = some (some (.ref C))) (hd : mg d = some u ∨ (mg d = none ∧ bootBuiltins d = some u)) {C2 : Addr} {u2 : Value} (e : PySem.W.nsIn K mainGlobals c = some (some (.ref C2))) (z : ClsOf mg d u2) : C2 = C ∧ u2 = u := by
  rw [hc] at e
  cases e
  refine ⟨rfl, ?_⟩
  rcases z with z | ⟨z, z2⟩ <;> rcases hd with hd | ⟨hd, h2⟩
  · rw [hd] at z; exact (Option.some.inj z).symm
  · rw [hd] at z; cases z
  · rw [hd] at z; cases z
  · rw [h2] at z2; exact (Option.some.inj z2).symm
theorem epair_of {K : PySem.W.Frag} {mg : Str → Option Value} {c d : Str} {C : Addr} {u : Value} {b : Bool} (hc : PySem.W.nsIn K mainGlobals c = some (some (.ref C))) (hd : mg d = some u ∨ (mg d = none ∧ bootBuiltins d = some u)) (k : PySem.W.kitOne K (.ref C) u = some b) (hb : isSub c d = b) : EPair K mg c d := fun C2 u2 e z => by
  obtain ⟨rfl, rfl⟩ := cls_one hc hd e z
  rw [k, hb]
theorem emat_of {K : PySem.W.Frag} {mg : Str → Option Value} {c d : Str} {C : Addr} {u : Value} {b : Bool} (hc : PySem.W.nsIn K mainGlobals c = some (some (.ref C))) (hd : mg d = some u ∨ (mg d = none ∧ bootBuiltins d = some u)) (k : PySem.W.exmOne K (.ref C) u = some b) (hb : isSub c d = b) : EMat K mg c d := fun C2 u2 e z => by
  obtain ⟨rfl, rfl⟩ := cls_one hc hd e z
  rw [k, hb]

/-! ### try -/
structure ClM where
  d : Str
  i : Option Nat
  m : SM
def bindE (i : Option Nat) (x : XV) (ps : LS) : LS := match i with
  | none => ps
  | some i => ps.set i (some (.exc x))
def endE (i : Option Nat) (ps : LS) : LS := match i with
  | none => ps
  | some i => ps.set i none
def resE (i : Option Nat) : SRes → SRes
  | .nx ps h => .nx (endE i ps) h
  | .bk ps h => .bk (endE i ps) h
  | .ct ps h => .ct (endE i ps) h
  | .rt w h => .rt w h
  | _ => .stuck
def hnd (x : XV) (ps : LS) (h : PH) : List ClM → SRes
  | [] => .exc x ps h
  | k :: r => if isSub x.c k.d = true then resE k.i (k.m (bindE k.i x ps) h) else hnd x ps h r
def sTry (kn : List Str) (mb : SM) (l : List ClM) : SM := fun ps h => match mb ps h with
  | .exc x ps1 h1 => if kn.contains x.c = true then hnd x ps1 h1 l else .stuck
  | r => r
inductive HdM (X : Cx) (kn : List Str) : List ExceptHandler → List ClM → Prop
  | nil : HdM X kn [] []
  | plain {u : Value} {k : ClM} {b₀ : Stmt} {suite : List Stmt} {np pos' : Pos} {hds : List ExceptHandler} {l : List ClM} (hc : Names X k.d u) (hp : ∀ c ∈ kn, EMat X.K X.mg c k.d) (hi : k.i = none)
      (hsu : ∀ (a : Addr) (pn : List (Addr × Obj)), SSs (X.suite a pn) Wno (b₀ :: suite) k.m) (r : HdM X kn hds l) : HdM X kn (.ExceptHandler (some (.Name k.d np)) none (b₀ :: suite) pos' :: hds) (k :: l)
  | named {u : Value} {n : Str} {i : Nat} {k : ClM} {b₀ : Stmt} {suite : List Stmt} {np pos' : Pos} {hds : List ExceptHandler} {l : List ClM} (hc : Names X k.d u) (hp : ∀ c ∈ kn, EMat X.K X.mg c k.d) (hi : k.i = some i)
      (hN : X.N.Nodup) (hn : X.N[i]? = some n) (hln : X.env.kindOf n = some .local)
      (hsu : ∀ (a : Addr) (pn : List (Addr × Obj)), SSs (X.suite a pn) Wno (b₀ :: suite) k.m) (r : HdM X kn hds l) : HdM X kn (.ExceptHandler (some (.Name k.d np)) (some n) (b₀ :: suite) pos' :: hds) (k :: l)
theorem clsOf_names {X : Cx} {d : Str} {u : Value} (h : Names X d u) : ClsOf X.mg d u := by
  obtain ⟨_, _, z | ⟨z1, z2, _⟩⟩ := h
  · exact .inl z
  · exact .inr ⟨z1, z2⟩
section
variable {X : Cx} {W0 : WX} {kn : List Str}
/-- a caught exception stands in the slot -/
theorem srep_end {f : List Addr} {H : Hp} {ps : LS} {σ : L2.St} {k : ClM} {t : TS} {u : Value} (q : SRep X.K f H ps σ) : SRep X.K f H (endE k.i ps) (Cl.end_ ⟨u, k.i, t⟩ σ) := by
  unfold endE Cl.end_
  cases k.i with
  | none => exact q
  | some i => exact q.unset i
theorem wk_one {D : Ends} {f : List Addr} {h : PH} {H : Hp} {σ : L2.St} {ps : LS} {x : XV} {c : Value} {d : Option Addr} {k : ClM} {l : List ClM} {lc : List Cl} {u : Value} (hu : ClsOf X.mg k.d u) (hp : EMat X.K X.mg x.c k.d)
    (s : Sim X.K f h H) (sr : SRep X.K f H ps σ) (xr : XRep X.K f H x c d) (p : PostS X.K f H (hnd x ps h (k :: l)) D W0) (go : PostS X.K f H (hnd x ps h l) D W0 → wK X.K W0 D lc c d σ H) :
    wK X.K W0 D (⟨u, k.i, tS X.K Wno k.m⟩ :: lc) c d σ H := by
  obtain ⟨⟨C, rfl, ns⟩, dd⟩ := id xr
  refine ⟨isSub x.c k.d, hp C u ns hu, fun yes => ⟨C, rfl, fun a na => ?_⟩, fun no => go ?_⟩
  · have p : PostS X.K f H (hnd x ps h (k :: l)) D W0 := p
    rw [show hnd x ps h (k :: l) = resE k.i (k.m (bindE k.i x ps) h) by simp only [hnd]; rw [if_pos yes]] at p
    have st := s.other (o := exV C d a) na
    have sty := st.stay s
    have p := PostS.later st p
    refine ⟨f, h, bindE k.i x ps, st.sim, ?_, ?_⟩
    · have sr2 := st.srep s sr
      unfold bindE Cl.set
      cases k.i with
      | none => exact sr2
      | some i => exact sr2.set i (rep_exc.mpr ⟨a, rfl, C, d, xr.mono sty, upd_same⟩)
    · cases e : k.m (bindE k.i x ps) h with
      | nx ps2 h2 => rw [e] at p; exact fun f' H' σ' s2 q => p f' H' _ s2 (srep_end q)
      | bk ps2 h2 => rw [e] at p; exact fun f' H' σ' s2 q => p f' H' _ s2 (srep_end q)
      | ct ps2 h2 => rw [e] at p; exact fun f' H' σ' s2 q => p f' H' _ s2 (srep_end q)
      | rt w h2 => rw [e] at p; exact p
      | exc y ps2 h2 => rw [e] at p; exact p.elim
      | stuck => rw [e] at p; exact p.elim
  · have e : hnd x ps h (k :: l) = hnd x ps h l := by simp only [hnd]; rw [if_neg (by rw [no]; exact Bool.false_ne_true)]
    rw [e] at p
    exact p
theorem hd_go {hs : List ExceptHandler} {l : List ClM} (hk : HdM X kn hs l) : ∃ lc : List Cl, HdK X hs lc ∧ ∀ (D : Ends) (f : List Addr) (h : PH) (H : Hp) (σ : L2.St) (ps : LS) (x : XV) (c : Value) (d : Option Addr), x.c ∈ kn →
    Sim X.K f h H → SRep X.K f H ps σ → XRep X.K f H x c d → PostS X.K f H (hnd x ps h l) D W0 → wK X.K W0 D lc c d σ H := by
  induction hk with
  | nil => exact ⟨[], .nil, fun D f h H σ ps x c d hx s sr xr p => p f H σ c d (.refl s) sr xr⟩
  | @plain u k b₀ suite np pos' hds l hc hp hi hsu r ih =>
    obtain ⟨lc, h1, h2⟩ := ih
    exact ⟨⟨u, k.i, tS X.K Wno k.m⟩ :: lc, .plain (k := ⟨u, k.i, tS X.K Wno k.m⟩) hc hi hsu h1, fun D f h H σ ps x c d hx s sr xr p => wk_one (clsOf_names hc) (hp _ hx) s sr xr p (h2 D f h H σ ps x c d hx s sr xr)⟩
  | @named u n i k b₀ suite np pos' hds l hc hp hi hN hn hln hsu r ih =>
    obtain ⟨lc, h1, h2⟩ := ih
    exact ⟨⟨u, k.i, tS X.K Wno k.m⟩ :: lc, .named (k := ⟨u, k.i, tS X.K Wno k.m⟩) hc hi hN hn hln hsu h1, fun D f h H σ ps x c d hx s sr xr p => wk_one (clsOf_names hc) (hp _ hx) s sr xr p (h2 D f h H σ ps x c d hx s sr xr)⟩
theorem ss_try {body : List Stmt} {h₀ : ExceptHandler} {hds : List ExceptHandler} {l : List ClM} {pos : Pos} {mb : SM} (hs : X.stack = X.env :: X.outer) (hf : X.env.frame = some X.env.locals) (hx : X.ex = []) (tk : Takes X W0)
    (hb : ∀ (W : WX) (pn : List (Addr × Obj)) (xe : Value → Shared → Prop), Takes (X.tr pn xe) W → PassesOwn (model X.prog X.w) X.A X.env xe → SSs (X.tr pn xe) W body mb) (hh : HdM X kn (h₀ :: hds) l) : SS X W0 (.Try body (h₀ :: hds) [] [] pos) (sTry kn mb l) := by
  obtain ⟨lc, h1, h2⟩ := hd_go (W0 := W0) hh
  refine ps_imp (ps_try_keep (tb := fun W => tS X.K W mb) hs hf hx tk (fun W pn xe tk2 po => hb W pn xe tk2 po) h1) fun D σ H h => ?_
  obtain ⟨f, h, ps, s, sr, p⟩ := h
  refine ⟨f, h, ps, s, sr, ?_⟩
  unfold sTry at p
  cases e : mb ps h with
  | nx ps1 h1 => rw [e] at p; exact p
  | bk ps1 h1 => rw [e] at p; exact p
  | ct ps1 h1 => rw [e] at p; exact p
  | rt w h1 => rw [e] at p; exact p
  | stuck => rw [e] at p; exact p.elim
  | exc x ps1 g1 =>
    rw [e] at p
    dsimp only at p
    split at p
    · rename_i hk
      exact fun f' H' σ' c d s2 q xr => h2 D f' g1 H' σ' ps1 x c d (by simpa using hk) s2.sim q xr (PostS.later s2 p)
    · exact p.elim
end

/-! ### raise -/
def sRaise (c : Str) : SM := fun ps h => .exc ⟨c, []⟩ ps h
/-- a class without own __init__ -/
structure ECls (K : PySem.W.Frag) (mg : Str → Option Value) (c : Str) : Prop where
  ex : ∃ C : Addr, mg c = some (.ref C) ∧ PySem.W.nsIn K mainGlobals c = some (some (.ref C)) ∧ PySem.W.keepIn K (.ref C) = true ∧ PySem.W.subIn K (.ref C) (.type "BaseException") = some true ∧ PySem.W.typeIn K (.ref C) = some (.type "type") ∧
    PySem.W.excIn K C [.type "ValueError", .type "Exception", .type "BaseException", .type "object"] "ValueError.__new__" = true
end Mir

/-! Mir: raise; isinstance and the fields of a kept exception; one made by hand. -/
namespace Mir
open PySem PySem.Spec PyProof.Rows L2
section
variable {X : Cx} {W0 : WX} {pos pos2 p p2 : Pos} {e : Expr} {m : EM}
/-- raise C('..') -/
theorem ss_raise {c t : Str} {j : Nat} (T : ECls X.K X.mg c) (hc : X.calm = true) (tk : Takes X W0) (hg : Gl X c := by rfl) (hdb : (c == ("__debug__" : Str)) = false := by decide) :
    SS X W0 (.Raise (some (.Call (.Name c p) [.Constant (.str t) j p2] [] pos)) none pos2) (sRaise c) := by
  obtain ⟨C, h1, h2, h3, h4, h5, h6⟩ := T.ex
  refine ps_imp (ps_raise hc tk (pmk_own PySem.F.excBase_ValueError h6 h1 h3 (raises_own h4 h5) hg hdb)) fun D σ H h => ?_
  obtain ⟨f, h, ps, s, sr, q⟩ := h
  exact q f H σ (.ref C) none (.refl s) sr ⟨⟨C, rfl, h2⟩, .inl ⟨rfl, rfl⟩⟩

/-! ### constants of the module -/
theorem se_globI {c : Str} {i : Int} (h : ∃ t, X.mg c = some (.int i t)) (hg : Gl X c := by rfl) (hdb : (c == ("__debug__" : Str)) = false := by decide) : SE X W0 (.Name c p) (mC (.int i)) := by
  obtain ⟨t, h⟩ := h
  exact pe_imp (pe_glob hg h (show RelV (V.int i) (Value.int i t) from ⟨t, rfl⟩) hdb) fun σ H Q h => by
    obtain ⟨f, h, ps, s, sr, q⟩ := h
    exact post_pure s q (rep_int.mpr rfl)
theorem se_globS {c z : Str} (h : ∃ t, X.mg c = some (.str z t)) (hg : Gl X c := by rfl) (hdb : (c == ("__debug__" : Str)) = false := by decide) : SE X W0 (.Name c p) (mC (.str z)) := by
  obtain ⟨t, h⟩ := h
  exact pe_imp (pe_glob hg h (show RelV (V.str z) (Value.str z t) from ⟨t, rfl⟩) hdb) fun σ H Q h => by
    obtain ⟨f, h, ps, s, sr, q⟩ := h
    exact post_pure s q (rep_str.mpr rfl)

/-! ### isinstance -/
/-- by the class's name: what isinstance asks -/
def ExN (K : PySem.W.Frag) (c : Str) : Prop := ∀ C : Addr, PySem.W.nsIn K mainGlobals c = some (some (.ref C)) → ExcC K C
theorem exn_of {K : PySem.W.Frag} {c : Str} {C : Addr} (h : PySem.W.nsIn K mainGlobals c = some (some (.ref C))) (q : ExcC K C) : ExN K c := fun C2 e => by
  rw [h] at e
  cases e
  exact q
theorem exV_inst {pins : List (Addr × Obj)} {σ : L2.St} {H : Hp} {s : Shared} {x : XV} {a C : Addr} {d : Option Addr} {f : List Addr} (I : Inv X pins σ H s) (e : H a = some (exV C d a)) (xr : XRep X.K f H x (.ref C) d) :
    ∃ (ox : Obj) (od : Option Obj), PySem.W.InstAt s.heap a ox C od := by
  have z : ObjOk X.prog X.w H s.heap a (exV C d a) := I.hok a _ e
  obtain ⟨⟨oe, vs, h1, ⟨h2, h3⟩, h4⟩, _, _⟩ := z
  have nc : PySem.W.notCls oe = true := by unfold PySem.W.notCls; rw [h4] <;> rfl
  rcases xr.2 with ⟨rfl, _⟩ | ⟨dd, rfl, q⟩
  · exact ⟨oe, none, h1, h2, nc, by rw [h3]; exact trivial⟩
  · have y : ObjOk X.prog X.w H s.heap dd (.xd (x.fs.map fun p => (p.1, p.2.v))) := I.hok dd _ q
    obtain ⟨mA, hns, _⟩ := y
    obtain ⟨od, ho, _⟩ := lookIn_ns hns
    exact ⟨oe, some od, h1, h2, nc, by rw [h3]; exact ho⟩
theorem kit_exV {C a : Addr} {ox : Obj} {od : Option Obj} {K : PySem.W.Frag} (T : ExcC K C) : PySem.W.KitX K (.ref a) (.ref C) (fun h => PySem.W.InstAt h a ox C od) := by
  refine PySem.W.kitx_exc ?_ T.hg T.hk T.hs T.ha T.hn T.ht T.hm
  have z := T.hd
  obtain ⟨cd, q, _⟩ := PySem.W.any_some z
  rw [q]
  rfl
/-- isinstance(e, C) of a kept exception -/
def rIsX (X : Cx) : List V → Hp → VK → Prop := fun xs H Q => ∃ (x : XV) (f : List Addr) (a C : Addr) (d : Option Addr) (c : V) (u : Value) (b : Bool), xs = [.ref a, c] ∧ ClsV c u ∧ ExcC X.K C ∧ XRep X.K f H x (.ref C) d ∧ H a = some (exV C d a) ∧ PySem.W.kitOne X.K (.ref C) u = some b ∧ Q (.bl b) H
theorem call_isX : CallR X (.builtin "isinstance") (rIsX X) := by
  intro pins s σ H xs us Q I r h
  obtain ⟨x, f, a, C, d, c, u, b, rfl, k, T, xr, e, ke, q⟩ := h
  obtain ⟨u1, u2, rfl, r1, r2⟩ := vals2 r
  have e2 := k.eq r2
  subst e2
  cases (show u1 = Value.ref a from r1)
  obtain ⟨ox, od, J⟩ := exV_inst I e xr
  exact PySem.W.kia_one (kit_exV T) I.kIn J ke (fun z => nomatch z) fun tk => ⟨.bl b, H, I.tok tk, rfl, q⟩
/-- isinstance(e, (C, ..)) -/
def rIsXT (X : Cx) : List V → Hp → VK → Prop := fun xs H Q => ∃ (x : XV) (f : List Addr) (a C tp : Addr) (d : Option Addr) (cs : List V) (us : List Value) (b : Bool), xs = [.ref a, .ref tp] ∧ H tp = some (.tup cs) ∧ Paired ClsV cs us ∧ ExcC X.K C ∧ XRep X.K f H x (.ref C) d ∧ H a = some (exV C d a) ∧
  PySem.W.kitAny X.K (.ref C) us = some b ∧ Q (.bl b) H
theorem call_isXT : CallR X (.builtin "isinstance") (rIsXT X) := by
  intro pins s σ H xs us Q I r h
  obtain ⟨x, f, a, C, tp, d, cs, ws, b, rfl, hT, k, T, xr, e, ke, q⟩ := h
  obtain ⟨u1, u2, rfl, r1, r2⟩ := vals2 r
  cases (show u1 = Value.ref a from r1)
  cases (show u2 = Value.ref tp from r2)
  obtain ⟨ox, od, J⟩ := exV_inst I e xr
  obtain ⟨_, its, rv, o, h1, h2, n, h3⟩ := (show ObjOk X.prog X.w H s.heap tp (.tup cs) from I.hok tp _ hT)
  have e3 := ClsV.all k rv
  subst e3
  obtain ⟨oc, od2, dt, sl⟩ := o
  simp only at h2 h3
  subst h2 h3
  exact PySem.W.kia_tup (kit_exV T) I.kIn J h1 ke (fun z => nomatch z) fun tk => ⟨.bl b, H, I.tok tk, rfl, q⟩
/-- names of classes as values -/
inductive NmV (X : Cx) : List Expr → List Str → List V → List Value → Prop where
  | nil : NmV X [] [] [] []
  | own {n : Str} {D : Addr} {es : List Expr} {ns : List Str} {vs : List V} {us : List Value} {p : Pos} (hg : Gl X n) (hm : X.mg n = some (.ref D)) (hd : (n == ("__debug__" : Str)) = false) (r : NmV X es ns vs us) : NmV X (.Name n p :: es) (n :: ns) (.ref D :: vs) (.ref D :: us)
  | blt {n : Str} {t : String} {es : List Expr} {ns : List Str} {vs : List V} {us : List Value} {p : Pos} (hg : Gl X n) (hm : X.mg n = none) (hb : bootBuiltins n = some (.type t)) (hn : n ≠ "__name__") (hd : (n == ("__debug__" : Str)) = false) (r : NmV X es ns vs us) :
      NmV X (.Name n p :: es) (n :: ns) (.ty t :: vs) (.type t :: us)
theorem NmV.pa {es : List Expr} {ns : List Str} {vs : List V} {us : List Value} (h : NmV X es ns vs us) : PA X es (fun _ H Q => Q vs H) := by
  induction h with
  | nil => exact pa_nil
  | own hg hm hd r ih => exact pa_imp (pa_cons (pe_glob hg hm (show RelV (V.ref _) (Value.ref _) from rfl) hd) ih) fun σ H Q h => h
  | blt hg hm hb hn hd r ih => exact pa_imp (pa_cons (pe_bltn hg hm hb (show RelV (V.ty _) (Value.type _) from rfl) hn hd) ih) fun σ H Q h => h
theorem NmV.cls {es : List Expr} {ns : List Str} {vs : List V} {us : List Value} (h : NmV X es ns vs us) : Paired ClsV vs us := by
  induction h with
  | nil => exact .nil
  | own hg hm hd r ih => exact .cons (.own _) ih
  | blt hg hm hb hn hd r ih => exact .cons (.ty _) ih
theorem NmV.len {es : List Expr} {ns : List Str} {vs : List V} {us : List Value} (h : NmV X es ns vs us) : vs.length = ns.length := by
  induction h with
  | nil => rfl
  | own hg hm hd r ih => simp only [List.length_cons, ih]
  | blt hg hm hb hn hd r ih => simp only [List.length_cons, ih]
theorem NmV.any {es : List Expr} {ns : List Str} {vs : List V} {us : List Value} (h : NmV X es ns vs us) {c : Str} {C : Addr} (hC : PySem.W.nsIn X.K mainGlobals c = some (some (.ref C))) (hp : ∀ d ∈ ns, EPair X.K X.mg c d) :
    PySem.W.kitAny X.K (.ref C) us = some (ns.any (isSub c)) := by
  induction h with
  | nil => rfl
  | @own n D es ns vs us p hg hm hd r ih =>
    refine kitAny_cons (b := isSub c n) ((hp n List.mem_cons_self) C _ hC (.inl hm)) (fun q => ?_) fun q => ?_
    · rw [ih fun d hd => hp d (List.mem_cons_of_mem _ hd), List.any_cons, q, Bool.false_or]
    · rw [List.any_cons, q, Bool.true_or]
  | @blt n t es ns vs us p hg hm hb hn hd r ih =>
    refine kitAny_cons (b := isSub c n) ((hp n List.mem_cons_self) C _ hC (.inr ⟨hm, hb⟩)) (fun q => ?_) fun q => ?_
    · rw [ih fun d hd => hp d (List.mem_cons_of_mem _ hd), List.any_cons, q, Bool.false_or]
    · rw [List.any_cons, q, Bool.true_or]
/-- isinstance of a kept exception -/
def mIsX (kn ns : List Str) (m : EM) : EM := fun ps h => (m ps h).bind fun x h1 => match x with
  | .exc x => if kn.contains x.c = true then .ok (.bl (ns.any (isSub x.c))) h1 else .stuck
  | _ => .stuck
theorem se_isX {kn : List Str} {n : Str} {vs : List V} {us : List Value} (hm : X.mg "isinstance" = none) (hn : NmV X [.Name n p2] [n] vs us) (hk : ∀ c ∈ kn, ExN X.K c) (hp : ∀ c ∈ kn, EPair X.K X.mg c n) (ha : SE X W0 e m) (hg : Gl X "isinstance" := by rfl)
    (hb : bootBuiltins "isinstance" = some (.builtin "isinstance") := by rfl) (he : starEach [e, .Name n p2] X.env = (false, eval e X.env) :: starEach [.Name n p2] X.env := by rfl) (hpl : (backTo pos (starEach [.Name n p2] X.env)).any (·.1) = false := by rfl) :
    SE X W0 (.Call (.Name "isinstance" p) [e, .Name n p2] [] pos) (mIsX kn [n] m) :=
  pe_imp (pe_callB call_isX hg hm hb (pa_cons ha hn.pa he) (by decide) (by decide) he hpl) fun σ H Q h => by
    obtain ⟨f, h, ps, s, sr, p⟩ := h
    refine ⟨f, h, ps, s, sr, (Post.bind (R1 := RW X.K) s back_W p).mono (fun v H1 hh => ?_) fun _ _ _ e => e⟩
    obtain ⟨f1, h1, x, s1, q1, p1⟩ := hh
    cases x with
    | exc x =>
      dsimp only at p1
      split at p1
      · rename_i hx
        have hx : x.c ∈ kn := by simpa using hx
        obtain ⟨a, rfl, C, d, xr, ea⟩ := rep_exc.mp q1
        obtain ⟨⟨C2, ec, ns⟩, _⟩ := id xr
        cases ec
        have kk := hn.any ns (fun d hd => by rw [List.mem_singleton.mp hd]; exact hp _ hx)
        have kc := hn.cls
        have hl := hn.len
        cases kc with
        | nil => simp at hl
        | @cons v u vt ut k1 k2 =>
          cases k2 with
          | cons _ _ => simp at hl
          | nil =>
          refine ⟨x, [], a, C, d, v, u, _, rfl, k1, hk _ hx C ns, xr, ea, ?_, p1 f1 H1 _ (.refl s1.sim) (rep_bl.mpr rfl)⟩
          unfold PySem.W.kitAny at kk
          split at kk
          · rename_i z
            rw [z]
            exact kk
          · rename_i z
            rw [z]
            exact kk
          · cases kk
      · exact p1.elim
    | _ => exact p1.elim
theorem se_isXT {kn : List Str} {es : List Expr} {ns : List Str} {vs : List V} {us : List Value} {x1 : Nat} (hm : X.mg "isinstance" = none) (hn : NmV X es ns vs us) (hl : ns.length ≤ 1000) (hk : ∀ c ∈ kn, ExN X.K c) (hp : ∀ c ∈ kn, ∀ d ∈ ns, EPair X.K X.mg c d) (ha : SE X W0 e m) (hg : Gl X "isinstance" := by rfl)
    (hb : bootBuiltins "isinstance" = some (.builtin "isinstance") := by rfl) (he : starEach [e, .Tuple es x1 p2] X.env = (false, eval e X.env) :: starEach [.Tuple es x1 p2] X.env := by rfl) (hpl : (backTo pos (starEach [.Tuple es x1 p2] X.env)).any (·.1) = false := by rfl) :
    SE X W0 (.Call (.Name "isinstance" p) [e, .Tuple es x1 p2] [] pos) (mIsX kn ns m) :=
  pe_imp (pe_callB call_isXT hg hm hb (pa_cons ha (pa_cons (pe_tup hn.pa) pa_nil) he) (by decide) (by decide) he hpl) fun σ H Q h => by
    obtain ⟨f, h, ps, s, sr, p⟩ := h
    refine ⟨f, h, ps, s, sr, (Post.bind (R1 := RW X.K) s back_W p).mono (fun v H1 hh => ?_) fun _ _ _ e => e⟩
    obtain ⟨f1, h1, x, s1, q1, p1⟩ := hh
    cases x with
    | exc x =>
      dsimp only at p1
      split at p1
      · rename_i hx
        have hx : x.c ∈ kn := by simpa using hx
        obtain ⟨a, rfl, C, d, xr, ea⟩ := rep_exc.mp q1
        obtain ⟨⟨C2, ec, ns2⟩, _⟩ := id xr
        cases ec
        refine ⟨by rw [hn.len, sizeLine_eq]; omega, fun tp ntp => ?_⟩
        have st := s1.sim.other (o := .tup vs) ntp
        exact ⟨x, [], a, C, tp, d, vs, us, _, rfl, upd_same, hn.cls, hk _ hx C ns2, xr.mono (st.stay s1.sim), by rw [upd_ne (ne_of_none ea ntp)]; exact ea, hn.any ns2 (hp _ hx), p1 f1 _ _ st (rep_bl.mpr rfl)⟩
      · exact p1.elim
    | _ => exact p1.elim
end
end Mir

/-! Mir: methods of texts. -/
namespace Mir
open PySem PySem.Spec PyProof.Rows L2
section
variable {K : PySem.W.Frag} {X : Cx} {W0 : WX} {e o : Expr} {m m1 : EM} {apos cpos : Pos}
/-- x.split(y) -/
def wSplit (x : W) (xs : List W) (h : PH) : Option (W × PH) := match x, xs with
  | .str a, [.str b] => if (b.length == 0) = false ∧ a.length + 2 ≤ 16777216 then some (.fix ((Txt.split a b).map W.str), h) else none
  | _, _ => none
theorem op_split : OpMt K (fun x xs H Q => ∃ a b, x = .str a ∧ xs = [.str b] ∧ (b.length == 0) = false ∧ a.length + 2 ≤ sizeLine ∧ rNewStrs (Txt.split a b) H Q) wSplit := by
  intro f h H x v xs vs Q E s rx rxs p
  unfold wSplit at p
  split at p
  · rename_i a b
    split at p
    · rename_i hc
      obtain ⟨u, rfl, ru⟩ := rxs.one_inv
      exact ⟨a, b, rep_str.mp rx, by rw [rep_str.mp ru], hc.1, by rw [sizeLine_eq]; exact hc.2, fun q hq => post_fix s p (reps_strs _) hq⟩
    · exact p.elim
  · exact p.elim
theorem se_split (ho : SE X W0 o m) (ha : SE X W0 e m1) (hbase : attributeBase o "split" X.env (eval o X.env) = eval o X.env := by rfl)
    (hfew : ((backTo cpos (starEach [e] X.env)).all (fun x => !x.1) && (backToKw cpos (keywordEach [] X.env)).all (fun x => x.1.isSome)
      && decide (([e] : List Expr).length + ([] : List Keyword).length + (if ([] : List Keyword).isEmpty then 0 else 1) < 30)) = true := by rfl)
    (hline : (apos.endLine == cpos.line) = true := by rfl) (hs : starEach [e] X.env = [(false, eval e X.env)] := by rfl) : SE X W0 (.Call (.Attribute o "split" apos) [e] [] cpos) (mMt "str" wSplit m (mCons m1 mNil)) :=
  se_mt PySem.F.plainAttrs_str PySem.F.slot_str_split PySem.F.type_str_split mt_split op_split ho (sa_cons ha sa_nil hs) hbase hfew hline hs
/-! ### a, b = x, y -/
def sPar (m m1 : EM) (i j : Nat) : SM := fun ps h => (m ps h).thenS ps fun v h1 => (m1 ps h1).thenS ps fun w h2 => .nx ((ps.set i (some v)).set j (some w)) h2
theorem ss_par (i j : Nat) {x y : Str} {a b : Expr} {px py pt pos pt2 : Pos} {kt k2 : Nat} (hN : X.N.Nodup) (ha : SE X W0 a m) (hb : SE X W0 b m1) (hij : i ≠ j := by decide) (hc : X.calm = true := by rfl) (hi : X.N[i]? = some x := by rfl) (hj : X.N[j]? = some y := by rfl)
    (hx : X.env.scope.names.lookup x = some .local := by rfl) (hy : X.env.scope.names.lookup y = some .local := by rfl)
    (he : starEach [a, b] X.env = (false, eval a X.env) :: starEach [b] X.env := by rfl) (he2 : starEach [b] X.env = (false, eval b X.env) :: starEach [] X.env := by rfl)
    (hw : swappedStores [.Tuple [.Name x px, .Name y py] kt pt] (.Tuple [a, b] k2 pt2) X.env = pure (some [x, y]) := by rfl)
    (hs : swapsWithSole [.Tuple [.Name x px, .Name y py] kt pt] (.Tuple [a, b] k2 pt2) pos.line X.env = pure false := by rfl) :
    SS X W0 (.Assign [.Tuple [.Name x px, .Name y py] kt pt] (.Tuple [a, b] k2 pt2) pos) (sPar m m1 i j) :=
  ps_imp (ps_par hc hN hi hj hij hx hy (pa_cons ha (pa_cons hb pa_nil he2) he) hw hs) fun D σ H h => by
    obtain ⟨f, h, ps, s, sr, p⟩ := h
    refine ⟨f, h, ps, s, sr, (PostS.bind (R1 := RW X.K) s sr p).mono (fun v H1 hh => ?_) fun _ _ _ e => e⟩
    obtain ⟨f1, h1, x1, s1, sr1, q1, p1⟩ := hh
    refine ⟨f1, h1, ps, s1.sim, sr1, (PostS.bind (R1 := RW X.K) s1.sim sr1 p1).mono (fun w H2 hh => ?_) fun _ _ _ e => e⟩
    obtain ⟨f2, h2, x2, s2, sr2, q2, p2⟩ := hh
    exact ⟨v, w, rfl, p2 f2 H2 _ (.refl s2.sim) ((sr2.set i (s2.rep s1.sim q1)).set j q2)⟩
end
end Mir

/-! Mir: exceptions as values made by hand, their fields. -/
namespace Mir
open PySem PySem.Spec PyProof.Rows L2
section
variable {X : Cx} {pins : List (Addr × Obj)} {σ : L2.St} {H : Hp} {s : Shared}
/-- what is known of an object is told otherwise -/
theorem inv_retag {a : Addr} {φ : Heap → Prop} {o : HO} (I : Inv X pins σ H s) (ha : H a = some (.ext φ)) (new : ObjOk X.prog X.w (upd H a o) s.heap a o) : Inv X pins σ (upd H a o) s := by
  have n0 : ∀ b, H b = none → b ≠ a := fun b e z => by
    rw [z, ha] at e
    cases e
  refine ⟨I.ok, I.os, I.bare, ⟨I.base.keep, I.base.slot, fun b u e n h => ?_, I.base.there, fun b xs e => ?_, fun b u v e => ?_, fun b ps e => ?_⟩, I.loc, I.cell, ?_, fun x c e => ?_, fun p hp => ?_, fun b u e => ?_, I.len⟩
  · have q := I.base.free b u e n h
    rw [upd_ne (n0 b q)]
    exact q
  · have q := I.base.tups b xs e
    rw [upd_ne (fun z => by rw [z, ha] at q; cases q)]
    exact q
  · have q := I.base.frzs b u v e
    rw [upd_ne (fun z => by rw [z, ha] at q; cases q)]
    exact q
  · obtain ⟨m, q⟩ := I.base.tbls b ps e
    exact ⟨m, by rw [upd_ne (fun z => by rw [z, ha] at q; cases q)]; exact q⟩
  · rw [upd_ne (n0 _ I.free)]
    exact I.free
  · rw [upd_ne (n0 _ (I.freeC x c e))]
    exact I.freeC x c e
  · obtain ⟨h1, h2, h3⟩ := I.pin p hp
    exact ⟨h1, by rw [upd_ne (n0 _ h2)]; exact h2, h3⟩
  · by_cases hb : b = a
    · subst hb
      rw [upd_same] at e
      cases e
      exact new
    · rw [upd_ne hb] at e
      exact (I.hok b u e).stay (fun _ _ _ q => q) (fun c q => by rw [upd_ne (fun z => by rw [z, ha] at q; cases q)]; exact q) fun c xs q => by rw [upd_ne (fun z => by rw [z, ha] at q; cases q)]; exact q
end
section
variable {X : Cx} {W0 : WX} {e : Expr} {m : EM} {p pos p2 : Pos}
/-- C(e), a class without own __init__, as a value -/
def mNewX (c : Str) (m : EM) : EM := fun ps h => (m ps h).bind fun _ h1 => .ok (.exc ⟨c, []⟩) h1
theorem se_newX {c : Str} (T : ECls X.K X.mg c) (ha : SE X W0 e m) (hg : Gl X c := by rfl) (hs : starEach [e] X.env = (false, eval e X.env) :: starEach [] X.env := by rfl) (hdb : (c == ("__debug__" : Str)) = false := by decide) :
    SE X W0 (.Call (.Name c p) [e] [] pos) (mNewX c m) := by
  obtain ⟨C, h1, h2, h3, h4, h5, h6⟩ := T.ex
  have key : PE X (.Call (.Name c p) [e] [] pos) (fun σ H Q => tE X.K W0 m σ H fun _ H1 => ∀ a, H1 a = none → Q (.ref a) (upd H1 a (exV C none a))) := by
    refine ⟨fun pins s σ H Q I h => ?_⟩
    refine wpAny_mono ((pe_exc1 PySem.F.excBase_ValueError h6 h1 h3 hg ha hs hdb).run pins s σ H (fun v H1 => ∃ a H2, v = .ref a ∧ H2 a = none ∧ H1 = upd H2 a (ExO (.ref C) a) ∧ Q (.ref a) (upd H2 a (exV C none a))) I ?_) (fun u s1 hu => ?_) fun _ _ z => z
    · obtain ⟨f, h, ps, sm, sr, q⟩ := h
      exact ⟨f, h, ps, sm, sr, q.mono (fun v H1 hh a na => ⟨a, H1, rfl, na, rfl, hh a na⟩) fun _ _ _ z => z⟩
    · obtain ⟨v, H1, I1, r1, a, H2, rfl, na, rfl, q⟩ := hu
      have z : ObjOk X.prog X.w (upd H2 a (ExO (.ref C) a)) s1.heap a (ExO (.ref C) a) := I1.hok a _ upd_same
      obtain ⟨⟨oe, vs, y1, y2, y3, _⟩, _, _⟩ := z
      have J := inv_retag I1 (o := exV C none a) upd_same (exV_ok y1 y2 y3)
      rw [upd_upd] at J
      exact ⟨_, _, J, r1, q⟩
  exact pe_imp key fun σ H Q h => by
    obtain ⟨f, h, ps, s, sr, q⟩ := h
    refine ⟨f, h, ps, s, sr, (Post.bind (R1 := RW X.K) s back_W q).mono (fun v H1 hh a na => ?_) fun _ _ _ z => z⟩
    obtain ⟨f1, g1, x, s1, q1, p1⟩ := hh
    have st := s1.sim.other (o := exV C none a) na
    exact p1 f1 _ _ st (rep_exc.mpr ⟨a, rfl, C, none, ⟨⟨C, rfl, h2⟩, .inl ⟨rfl, rfl⟩⟩, upd_same⟩)

/-! ### e.f -/
def PV.w : PV → W
  | .non => .non
  | .bl b => .bl b
  | .int i => .int i
  | .str x => .str x
theorem rep_pv {K : PySem.W.Frag} {f : List Addr} {H : Hp} (v : PV) : Rep K f H v.w v.v := by
  cases v <;> simp only [PV.w, PV.v, Rep]
def mFld (kn : List Str) (fl : Str) (m : EM) : EM := fun ps h => (m ps h).bind fun x h1 => match x with
  | .exc x => if kn.contains x.c = true then (match x.fs.lookup fl with
    | some v => .ok v.w h1
    | none => .stuck) else .stuck
  | _ => .stuck
/-- by the class's name: what a field's reading asks -/
def EFld (K : PySem.W.Frag) (c fl : Str) : Prop := ∀ C : Addr, PySem.W.nsIn K mainGlobals c = some (some (.ref C)) → XfC K C ∧ PySem.W.findIn K (.ref C) fl = some none
theorem lookup_v {fl : Str} : ∀ {fs : List (Str × PV)} {v : PV}, fs.lookup fl = some v → (fs.map fun p => (p.1, p.2.v)).lookup fl = some v.v
  | [], _, h => by cases h
  | (k, w) :: r, v, h => by
    simp only [List.lookup, List.map_cons] at h ⊢
    split at h
    · rename_i q
      cases h
      rfl
    · rename_i q
      exact lookup_v h
theorem se_fld {fl : Str} {kn : List Str} (hk : ∀ c ∈ kn, EFld X.K c fl) (ha : SE X W0 e m) (hb : attributeBase e fl X.env (eval e X.env) = eval e X.env := by rfl) :
    SE X W0 (.Attribute e fl pos) (mFld kn fl m) := by
  refine ⟨fun pins s σ H Q I h => ?_⟩
  obtain ⟨f, h, ps, sm, sr, q⟩ := h
  refine attr_of hb (thn (ha.run pins s σ H _ I ⟨f, h, ps, sm, sr, Post.bind (R1 := RW X.K) sm back_W q⟩) fun u s1 hh => ?_)
  obtain ⟨v, H1, I1, rv, f1, g1, x, s1', q1, p1⟩ := hh
  cases x with
  | exc x =>
    dsimp only at p1
    split at p1
    · rename_i hx
      have hx : x.c ∈ kn := by simpa using hx
      obtain ⟨a, rfl, C, d, xr, ea⟩ := rep_exc.mp q1
      obtain rfl : u = Value.ref a := rv
      obtain ⟨⟨C2, ec, ns⟩, dd⟩ := id xr
      cases ec
      obtain ⟨T, hno⟩ := hk _ hx C ns
      split at p1
      · rename_i v hv
        rcases dd with ⟨_, z⟩ | ⟨dd, ed, eh⟩
        · rw [z] at hv
          cases hv
        · subst ed
          have y : ObjOk X.prog X.w H1 s1.heap dd (.xd (x.fs.map fun p => (p.1, p.2.v))) := I1.hok dd _ eh
          obtain ⟨mA, hns, hr⟩ := y
          obtain ⟨od, ho, hl⟩ := lookIn_ns hns
          obtain ⟨u, hu, ru⟩ := RelO.some_of (v := v.v) (o := mA fl) (by rw [← lookup_v hv]; exact hr fl)
          have zz : ObjOk X.prog X.w H1 s1.heap a (exV C (some dd) a) := I1.hok a _ ea
          obtain ⟨⟨oe, vs, y1, ⟨y2, y3⟩, y4⟩, _, _⟩ := zz
          have J : PySem.W.InstAt s1.heap a oe C (some od) := ⟨y1, y2, by unfold PySem.W.notCls; rw [y4] <;> rfl, by rw [y3]; exact ho⟩
          exact PySem.HandSPX.exc_get I1.kIn J T.ga T.gg T.exC (PySem.W.findObj_own T.hdC hno rfl (by rw [hl, hu])) (handed_of ru) ⟨v.v, H1, I1.tok _, ru, p1 f1 H1 _ (.refl s1'.sim) (rep_pv v)⟩
      · exact p1.elim
    · exact p1.elim
  | _ => exact p1.elim
end
end Mir

/-! Mir: exception classes with an own __init__. -/
namespace Mir
open PySem PySem.Spec PyProof.Rows L2
section
variable {X : Cx} {e : Expr} {es : List Expr} {ta : TA} {p1 p2 pos : Pos}
/-- D.__init__(self, ..), D an own class whose __init__ is ValueError's -/
theorem pe_dinit {D : Str} {C0 : Addr} {pl : Sem Bool} (hm : X.mg D = some (.ref C0)) (hr : PySem.W.readsIn X.K C0 (.type "type") = true) (hs : PySem.W.specialIn X.K (.ref C0) "__getattribute__" = some (some (.builtin "type.__getattribute__")))
    (hf : PySem.W.findCls X.K (.ref C0) (.type "type") "__init__" = some (.val (.builtin "ValueError.__init__"))) (ha : PA X (e :: es) ta) (hg : Gl X D := by rfl) (hdb : (D == ("__debug__" : Str)) = false := by decide)
    (hc : eval (.Call (.Attribute (.Name D p1) "__init__" p2) (e :: es) [] pos) X.env = (do
      let o ← eval (.Name D p1) X.env
      standAt p2.atName
      let (g, first) ← holding [o] (getMethod o "__init__" pl)
      callWith pos g first (backTo pos (starEach (e :: es) X.env)) (backToKw pos (keywordEach [] X.env))) := by rfl)
    (he : starEach (e :: es) X.env = (false, eval e X.env) :: starEach es X.env := by rfl) (hpl : (backTo pos (starEach es X.env)).any (·.1) = false := by rfl) :
    PE X (.Call (.Attribute (.Name D p1) "__init__" p2) (e :: es) [] pos) (tVeI X.K ta) := by
  refine ⟨fun pins s σ H Q I h => ?_⟩
  refine PySem.W.methodCall_KW (ld_glob I hg hm ?_ hdb) hc
  refine PySem.W.method_cls I.kIn hs (PySem.W.cls_value I.kIn hr hf (by decide +kernel) ?_)
  show wpAny _ _ (callWith pos (Value.builtin "ValueError.__init__") [] (backTo pos (starEach (e :: es) X.env)) []) _ _ _
  refine PyProof.Rows.callWith_method1 (thn (ha.run pos pins _ σ H _ (I.tok _) h) fun us s1 hh => ?_) he hpl
  obtain ⟨vs, H1, I1, r1, a, C, ws, ev, hl, T, ea, q⟩ := hh
  subst ev
  obtain ⟨u0, ur, rfl, ra, rw'⟩ : ∃ u0 ur, us = u0 :: ur ∧ RelV (V.ref a) u0 ∧ Vals ws ur := by
    cases r1 with
    | cons x y => exact ⟨_, _, rfl, x, y⟩
  obtain rfl : u0 = Value.ref a := ra
  exact oinit_ok T I1 ea (by rw [← Paired.length rw', sizeLine_eq]; omega) fun s' J => ⟨.non, H1, J, rfl, q⟩
end
/-- what the __init__ of such a class does: the fields are kept -/
def spI (K : PySem.W.Frag) (fls : List Str) : Sp := fun vs H Q _ => ∃ (a C : Addr) (ys : List V), vs = .ref a :: ys ∧ ys.length = fls.length ∧ OexC K C ∧ (∀ f ∈ fls, PySem.W.findIn K (.ref C) f = some none) ∧ H a = some (exo a C none) ∧
  ∀ (dx : Addr) (H' : Hp), H dx = none → dx ≠ a → H' a = some (exo a C (some dx)) → H' dx = some (exd dx (fls.zip ys).reverse) → (∀ b, b ≠ a → b ≠ dx → H' b = H b) → Q .non H'
/-- the class c with such an __init__ -/
structure EInit (P : Program) (w : World) (K : PySem.W.Frag) (mg : Str → Option Value) (base : Heap) (c : Str) (fls : List Str) : Prop where
  ex : ∃ (C fI : Addr) (fd : FuncData) (ps : List Str), mg c = some (.ref C) ∧ PySem.W.nsIn K mainGlobals c = some (some (.ref C)) ∧ OexC K C ∧ PySem.W.findIn K (.ref C) "__init__" = some (some (.ref fI)) ∧
    PySem.W.typeIn K (.ref fI) = some (.type "function") ∧ Binds K fd ps [] ∧ FnOk P w K mg base (L2.CX P w) 1 fI fd ps (spI K fls) ∧ (∀ f ∈ fls, PySem.W.findIn K (.ref C) f = some none) ∧ fls.length ≤ 900
def toPV : W → Option PV
  | .non => some .non
  | .bl b => some (.bl b)
  | .int i => some (.int i)
  | .str x => some (.str x)
  | _ => none
def pvs : List W → Option (List PV)
  | [] => some []
  | x :: r => match toPV x, pvs r with
    | some y, some z => some (y :: z)
    | _, _ => none
theorem pvs_rep {K : PySem.W.Frag} {f : List Addr} {H : Hp} : ∀ {ws : List W} {vs : List V} {ys : List PV}, pvs ws = some ys → Reps K f H ws vs → vs = ys.map PV.v
  | [], vs, ys, e, r => by
    cases e
    exact r.nil_inv
  | x :: ws, vs, ys, e, r => by
    obtain ⟨v, t, rfl, h1, h2⟩ := r.cons_inv
    simp only [pvs] at e
    split at e
    · rename_i y z e1 e2
      cases e
      rw [pvs_rep e2 h2]
      cases x <;> simp only [toPV, Option.some.injEq, reduceCtorEq] at e1
      · subst e1; rw [rep_non.mp h1]; rfl
      · subst e1; rw [rep_bl.mp h1]; rfl
      · subst e1; rw [rep_int.mp h1]; rfl
      · subst e1; rw [rep_str.mp h1]; rfl
    · cases e
theorem zip_v {fls : List Str} {ys : List PV} : (fls.zip (ys.map PV.v)).reverse = ((fls.zip ys).reverse).map fun p => (p.1, p.2.v) := by
  rw [List.map_reverse, List.zip_map_right]
  rfl
def mkX (c : Str) (fls : List Str) (xs : List W) : Option XV := match pvs xs with
  | some ys => if ys.length = fls.length then some ⟨c, (fls.zip ys).reverse⟩ else none
  | none => none
section
variable {X : Cx} {W0 : WX} {e : Expr} {es : List Expr} {l : LM} {p pos pos2 : Pos} {c : Str} {fls : List Str}
/-- C(e, ..) raised -/
def sRaiseF (c : Str) (fls : List Str) (l : LM) : SM := fun ps h => (l ps h).thenS ps fun xs h1 => match mkX c fls xs with
  | some x => .exc x ps h1
  | none => .stuck
theorem ss_raiseF (T : EInit X.prog X.w X.K X.mg X.base c fls) {k : Nat} (hr : Room k X.A) (hk : 2 ≤ k) (tk : Takes X W0) (ha : SA X W0 (e :: es) l) (hc : X.calm = true := by rfl) (hg : Gl X c := by rfl) (hdb : (c == ("__debug__" : Str)) = false := by decide)
    (he : starEach (e :: es) X.env = (false, eval e X.env) :: starEach es X.env := by rfl) (hpl : (backTo pos (starEach es X.env)).any (·.1) = false := by rfl) :
    SS X W0 (.Raise (some (.Call (.Name c p) (e :: es) [] pos)) none pos2) (sRaiseF c fls l) := by
  obtain ⟨C, fI, fd, ps0, h1, h2, TO, h4, h5, hb, F1, h6, h7⟩ := T.ex
  refine ps_imp (ps_raise hc tk (pmk_oex (CX := L2.CX X.prog X.w) TO h4 h5 F1 (hr.mono hk) hb .nil passL hg h1 ha hdb he hpl)) fun D σ H h => ?_
  obtain ⟨f, h, ps, s, sr, q⟩ := h
  refine ⟨f, h, ps, s, sr, (PostS.bind (R1 := RA X.K) s sr q).mono (fun vs H1 hh => ?_) fun _ _ _ z => z⟩
  obtain ⟨f1, g1, xs, s1, sr1, q1, p1⟩ := hh
  unfold mkX at p1
  split at p1
  · rename_i x hx
    split at hx
    · rename_i ys hy
      split at hx
      · rename_i hl
        cases hx
        have ev := pvs_rep hy q1
        subst ev
        refine ⟨by rw [List.length_map]; omega, fun a na => ⟨a, C, ys.map PV.v, by rw [List.append_nil], by rw [List.length_map]; exact hl, TO, h6, upd_same, fun dx H' nd dn ea ed rest => ?_⟩⟩
        have nd1 : H1 dx = none := by rw [upd_ne dn] at nd; exact nd
        refine ⟨rfl, dx, _, ea, ed, nd1, ?_⟩
        have eH : upd (del H' a) dx (.xd (fls.zip (ys.map PV.v)).reverse) = upd H1 dx (.xd (fls.zip (ys.map PV.v)).reverse) := by
          funext b
          by_cases hb : b = dx
          · rw [hb, upd_same, upd_same]
          · rw [upd_ne hb, upd_ne hb]
            by_cases hba : b = a
            · rw [hba, del_same, na]
            · rw [del_ne hba, rest b hba hb, upd_ne hba]
        rw [eH]
        have st := s1.sim.other (o := .xd (fls.zip (ys.map PV.v)).reverse) nd1
        exact p1 f1 _ σ (.ref C) (some dx) st (st.srep s1.sim sr1) ⟨⟨C, rfl, h2⟩, .inr ⟨dx, rfl, by rw [upd_same, zip_v]⟩⟩
      · cases hx
    · cases hx
  · exact p1.elim
end
end Mir

/-! Mir: an exception with fields, made as a value; how such an __init__ is walked. -/
namespace Mir
open PySem PySem.Spec PyProof.Rows L2
section
variable {X : Cx} {W0 : WX} {e : Expr} {es : List Expr} {l : LM} {p pos : Pos} {c : Str} {fls : List Str}
def mNewF (c : Str) (fls : List Str) (l : LM) : EM := fun ps h => (l ps h).bind fun xs h1 => match mkX c fls xs with
  | some x => .ok (.exc x) h1
  | none => .stuck
theorem se_newF (T : EInit X.prog X.w X.K X.mg X.base c fls) {k : Nat} (hr : Room k X.A) (hk : 2 ≤ k) (ha : SA X W0 (e :: es) l) (hg : Gl X c := by rfl) (hdb : (c == ("__debug__" : Str)) = false := by decide)
    (he : starEach (e :: es) X.env = (false, eval e X.env) :: starEach es X.env := by rfl) (hpl : (backTo pos (starEach es X.env)).any (·.1) = false := by rfl) :
    SE X W0 (.Call (.Name c p) (e :: es) [] pos) (mNewF c fls l) := by
  obtain ⟨C, fI, fd, ps0, h1, h2, TO, h4, h5, hb, F1, h6, h7⟩ := T.ex
  obtain ⟨nm, q, N, bs, bm, sn, sub, ab, col, dd, k0, k1, k2, k3, k5, hC, hbm⟩ := id TO.cls
  have key : PE X (.Call (.Name c p) (e :: es) [] pos) (fun σ H Q => tA X.K W0 l σ H fun vs H1 => vs.length = fls.length ∧ ∀ a dx, H1 a = none → H1 dx = none → dx ≠ a → Q (.ref a) (upd (upd H1 dx (.xd (fls.zip vs).reverse)) a (exV C (some dx) a))) := by
    refine ⟨fun pins s σ H Q I h => ?_⟩
    refine wpAny_Call_Name_kw (ld_glob I hg h1 ?_ hdb)
    refine PySem.W.callWith_K (h₀ := X.base) I.ok.mod.kin TO.kC (thn (ha.run pos pins s σ H _ I h) fun us s1 hh => ?_) he hpl
    obtain ⟨vs, H1, I1, r1, hl, q1⟩ := hh
    refine ⟨I1.kIn, ?_⟩
    show wpAny _ _ (call (.ref C) us) _ _ _
    obtain ⟨hp, g, dr, tk, os⟩ := s1
    have hsz : hp.objs.size ≤ hp.objs.size + 1 := Nat.le_succ _
    generalize hA : hp.objs.size + 1 = a at hsz
    have na : H1 a = none := I1.hok.fresh hsz
    have keep : ∀ b o, hp.get? b = some o → ((hp.push (PySem.W.kdv_tup us)).push (PySem.HandSPX.excO C hp.objs.size)).get? b = some o := fun b o e => Heap.get?_push_of_some _ (Heap.get?_push_of_some _ e)
    have got : ((hp.push (PySem.W.kdv_tup us)).push (PySem.HandSPX.excO C hp.objs.size)).get? a = some (PySem.HandSPX.excO C hp.objs.size) := by
      rw [← hA]
      heap_get
    have I2 : Inv X pins σ (upd H1 a (exo a C none)) ⟨(hp.push (PySem.W.kdv_tup us)).push (PySem.HandSPX.excO C hp.objs.size), g, dr, tk, os⟩ :=
      I1.laid (t' := tk) (a := a) (o := exo a C none) (h' := (hp.push (PySem.W.kdv_tup us)).push (PySem.HandSPX.excO C hp.objs.size)) keep hsz (exo_ok got)
    have r2 : Vals (V.ref a :: vs) (Value.ref a :: us) := .cons rfl r1
    have hsp : spI X.K fls (V.ref a :: vs) (upd H1 a (exo a C none)) (fun v H2 => v = .non ∧ ∃ dx, H1 dx = none ∧ dx ≠ a ∧ H2 a = some (exo a C (some dx)) ∧ H2 dx = some (exd dx (fls.zip vs).reverse) ∧ ∀ b, b ≠ a → b ≠ dx → H2 b = H1 b) (fun _ _ _ => False) :=
      ⟨a, C, vs, rfl, hl, TO, h6, upd_same, fun dx H' nd dn ea ed rest => ⟨rfl, dx, by rw [upd_ne dn] at nd; exact nd, dn, ea, ed, fun b b1 b2 => by rw [rest b b1 b2, upd_ne b1]⟩⟩
    have hlen : (Value.ref a :: us).length = ps0.length := by rw [← Paired.length r2]; exact F1.len _ _ _ _ hsp
    have hus : us.length ≤ sizeLine := by
      rw [← Paired.length r1, sizeLine_eq, hl]
      omega
    have bnd := hb ⟨(hp.push (PySem.W.kdv_tup us)).push (PySem.HandSPX.excO C hp.objs.size), g, dr, tk, os⟩ (Value.ref a :: us) I2.kIn (by rw [List.append_nil]; exact hlen)
    rw [List.append_nil] at bnd
    subst hA
    refine wpAny_call (PySem.HandSPX.call_own PySem.F.excBase_ValueError (fun Y => PySem.HandSPX.refsVE_contains Y bm hbm) (I1.kIn _ _ hC) (PySem.W.looks_findIn I1.kIn h4) (fun self => PySem.W.bind_fn I1.kIn self h5) hus
      (codeAny_mono (F1.run _ X.stack _ _ ⟨Value.ref (hp.objs.size + 1) :: us, []⟩ (Value.ref (hp.objs.size + 1) :: us) _ _ (fun _ _ _ => False) ((hr.mono hk).make C us []) (I2.env0.make C us []) bnd r2 hsp) fun r s' hq' => ?_))
    cases r with
    | error er => exact passL pins σ _ _ er s' I2 hq'
    | ok fl =>
      cases fl with
      | ret u =>
        obtain ⟨v, H2, J, rv, ev, dx, nd, dn, ea, ed, rest⟩ := I2.after hq'
        subst ev
        refine ⟨rv, ?_⟩
        obtain ⟨t1, z1⟩ := exo_at J.hok ea
        have J2 := inv_retag J (o := exV C (some dx) (hp.objs.size + 1)) ea (exV_ok z1 ⟨rfl, rfl⟩ rfl)
        have ed2 : upd H2 (hp.objs.size + 1) (exV C (some dx) (hp.objs.size + 1)) dx = some (exd dx (fls.zip vs).reverse) := by rw [upd_ne dn]; exact ed
        have J3 := inv_retag J2 (o := .xd (fls.zip vs).reverse) ed2 (exd_at J2.hok ed2)
        have eH : upd (upd H2 (hp.objs.size + 1) (exV C (some dx) (hp.objs.size + 1))) dx (.xd (fls.zip vs).reverse) = upd (upd H1 dx (.xd (fls.zip vs).reverse)) (hp.objs.size + 1) (exV C (some dx) (hp.objs.size + 1)) := by
          funext b
          by_cases hb : b = dx
          · rw [hb, upd_same, upd_ne dn, upd_same]
          · rw [upd_ne hb]
            by_cases hba : b = hp.objs.size + 1
            · rw [hba, upd_same, upd_same]
            · rw [upd_ne hba, upd_ne hba, upd_ne hb, rest b hba hb]
        rw [eH] at J3
        exact ⟨.ref (hp.objs.size + 1), _, J3, rfl, q1 _ dx na nd dn⟩
      | next => exact False.elim hq'
      | brk => exact False.elim hq'
      | cont => exact False.elim hq'
  exact pe_imp key fun σ H Q h => by
    obtain ⟨f, h, ps, s, sr, q⟩ := h
    refine ⟨f, h, ps, s, sr, (Post.bind (R1 := RA X.K) s back_W q).mono (fun vs H1 hh => ?_) fun _ _ _ z => z⟩
    obtain ⟨f1, g1, xs, s1, q1, p1⟩ := hh
    unfold mkX at p1
    split at p1
    · rename_i x hx
      split at hx
      · rename_i ys hy
        split at hx
        · rename_i hl
          cases hx
          have ev := pvs_rep hy q1
          subst ev
          refine ⟨by rw [List.length_map]; exact hl, fun a dx na nd dn => ?_⟩
          have st := s1.sim.other (o := .xd (fls.zip (ys.map PV.v)).reverse) nd
          have na2 : upd H1 dx (.xd (fls.zip (ys.map PV.v)).reverse) a = none := by rw [upd_ne (Ne.symm dn)]; exact na
          have st2 := st.sim.other (o := exV C (some dx) a) na2
          exact p1 f1 _ _ (st.trans st2) (rep_exc.mpr ⟨a, rfl, C, some dx, ⟨⟨C, rfl, h2⟩, .inr ⟨dx, rfl, by rw [upd_ne dn, upd_same, zip_v]⟩⟩, upd_same⟩)
        · cases hx
      · cases hx
    · exact p1.elim
end
end Mir

/-! Mir: the walks of such an __init__. -/
namespace Mir
open PySem PySem.Spec PyProof.Rows L2
/-- what stands of the class above, whose __init__ is called -/
structure DInit (K : PySem.W.Frag) (mg : Str → Option Value) (D : Str) (C0 : Addr) : Prop where
  m : mg D = some (.ref C0)
  r : PySem.W.readsIn K C0 (.type "type") = true
  s : PySem.W.specialIn K (.ref C0) "__getattribute__" = some (some (.builtin "type.__getattribute__"))
  f : PySem.W.findCls K (.ref C0) (.type "type") "__init__" = some (.val (.builtin "ValueError.__init__"))
theorem spI_len {K : PySem.W.Frag} {fls : List Str} {n : Nat} (hn : n = fls.length + 1) : ∀ vs H Q E, spI K fls vs H Q E → vs.length = n := by
  intro vs H Q E h
  obtain ⟨a, C, ys, rfl, hl, _⟩ := h
  rw [List.length_cons, hl, hn]
section
variable {K : PySem.W.Frag} {vs : List V} {H : Hp} {Q : VK} {E : XK} {msg : Str}
theorem init1 {f : Str} {N : List Str} {vm : V} (h : spI K [f] vs H Q E) (hN : N.length = 2) :
    tSeq (tDrop (tVeI K (tCons (tVar 0) (tCons (tC vm) tNil)))) (tOst K f (tVar 0) (tVar 1)) { nx := fun _ H' => Q .non H', rt := Q } (L2.start N vs) H := by
  obtain ⟨a, C, ys, rfl, hl, TO, hf, ea, q⟩ := h
  match ys, hl with
  | [y], _ =>
    have e0 : (L2.start N [V.ref a, y])[0]? = some (some (.ref a)) := rfl
    have e1 : (L2.start N [V.ref a, y])[1]? = some (some y) := rfl
    refine ⟨_, e0, ?_⟩
    refine ⟨a, C, [vm], rfl, by simp, TO, ea, ?_⟩
    refine ⟨_, e1, _, e0, a, C, rfl, TO, hf f (by simp), .inl ⟨ea, fun dx nd dn => q dx _ nd dn upd_same ?_ fun b b1 b2 => ?_⟩⟩
    · rw [upd_ne dn, upd_same]
      rfl
    · rw [upd_ne b1, upd_ne b2]
theorem init2 {f g : Str} {N : List Str} {vm : V} (h : spI K [f, g] vs H Q E) (hN : N.length = 3) :
    tSeq (tDrop (tVeI K (tCons (tVar 0) (tCons (tC vm) tNil)))) (tSeq (tOst K f (tVar 0) (tVar 1)) (tOst K g (tVar 0) (tVar 2))) { nx := fun _ H' => Q .non H', rt := Q } (L2.start N vs) H := by
  obtain ⟨a, C, ys, rfl, hl, TO, hf, ea, q⟩ := h
  match ys, hl with
  | [y, z], _ =>
    have e0 : (L2.start N [V.ref a, y, z])[0]? = some (some (.ref a)) := rfl
    have e1 : (L2.start N [V.ref a, y, z])[1]? = some (some y) := rfl
    have e2 : (L2.start N [V.ref a, y, z])[2]? = some (some z) := rfl
    refine ⟨_, e0, ?_⟩
    refine ⟨a, C, [vm], rfl, by simp, TO, ea, ?_⟩
    refine ⟨_, e1, _, e0, a, C, rfl, TO, hf f (by simp), .inl ⟨ea, fun dx nd dn => ?_⟩⟩
    refine ⟨_, e2, _, e0, a, C, rfl, TO, hf g (by simp), .inr ⟨dx, [(f, y)], upd_same, by rw [upd_ne dn, upd_same], by simp, q dx _ nd dn ?_ ?_ fun b b1 b2 => ?_⟩⟩
    · rw [upd_ne (Ne.symm dn), upd_same]
    · rw [upd_same]
      rfl
    · rw [upd_ne b2, upd_ne b1, upd_ne b2]
end
end Mir

/-! Mir: objects of the program's own classes. -/
namespace Mir
open PySem PySem.Spec PyProof.Rows L2
theorem KRep.lookup {K : PySem.W.Frag} {f : List Addr} {H : Hp} {x : Str} {w : W} : ∀ {ws : List (Str × W)} {vs : List (Str × V)}, KRep K f H ws vs → ws.lookup x = some w → ∃ v, vs.lookup x = some v ∧ Rep K f H w v
  | [], vs, h, e => by simp at e
  | (k, y) :: r, vs, h, e => by
    obtain ⟨v, t, rfl, h2, h3⟩ := h
    by_cases q : x == k
    · simp only [List.lookup_cons, q, Option.some.injEq] at e ⊢
      subst e
      exact ⟨v, rfl, h2⟩
    · simp only [List.lookup_cons, Bool.eq_false_iff.mpr q] at e ⊢
      exact KRep.lookup h3 e
theorem KRep.lookup_none {K : PySem.W.Frag} {f : List Addr} {H : Hp} {x : Str} : ∀ {ws : List (Str × W)} {vs : List (Str × V)}, KRep K f H ws vs → ws.lookup x = none → vs.lookup x = none
  | [], vs, h, e => by
    have h : vs = [] := h
    subst h
    rfl
  | (k, y) :: r, vs, h, e => by
    obtain ⟨v, t, rfl, h2, h3⟩ := h
    by_cases q : x == k
    · simp only [List.lookup_cons, q] at e
      cases e
    · simp only [List.lookup_cons, Bool.eq_false_iff.mpr q] at e ⊢
      exact KRep.lookup_none h3 e
def putFW (f : Str) (w : W) : List (Str × W) → List (Str × W)
  | [] => [(f, w)]
  | (g, x) :: r => if g = f then (g, w) :: r else (g, x) :: putFW f w r
theorem KRep.putF {K : PySem.W.Frag} {f : List Addr} {H : Hp} {x : Str} {w : W} {v : V} (r : Rep K f H w v) : ∀ {ws : List (Str × W)} {vs : List (Str × V)}, KRep K f H ws vs → KRep K f H (putFW x w ws) (L2.putF x v vs)
  | [], vs, h => by
    have h : vs = [] := h
    subst h
    exact ⟨v, [], rfl, r, rfl⟩
  | (k, y) :: t, vs, h => by
    obtain ⟨u, s, rfl, h2, h3⟩ := h
    unfold putFW L2.putF
    by_cases q : k = x
    · rw [if_pos q, if_pos q]
      exact ⟨v, s, rfl, r, h3⟩
    · rw [if_neg q, if_neg q]
      exact ⟨u, _, rfl, h2, KRep.putF r h3⟩
theorem Sim.put_ins {K : PySem.W.Frag} {f : List Addr} {h : PH} {H : Hp} (s : Sim K f h H) {n : Nat} {a C dx : Addr} {c : Str} (hC : PySem.W.nsIn K mainGlobals c = some (some (.ref C))) (hf : f[n]? = some a) {us : List (Str × V)} {xs : List (Str × W)} (r : KRep K f H xs us) (hm0 : ∀ o us, H a = some (.frz o (.dK us)) → False) :
    Step K f H f (h.set n (.ins c xs)) (upd H a (.ins C dx us)) := by
  have g : Grow f H (upd H a (.ins C dx us)) := fun b w e hn => by rw [upd_ne (fun z => hn (by rw [z]; exact List.mem_of_getElem? hf))]; exact e
  exact s.put hf ⟨C, dx, us, hC, upd_same, KRep.mono (.refl f) (s.stay g) _ _ r⟩ hm0

/-- what is known of the attribute f of the class c -/
def IFld (K : PySem.W.Frag) (c f : Str) : Prop := ∀ C, PySem.W.nsIn K mainGlobals c = some (some (.ref C)) → Cls K C ∧ NoAttr K C f
section
variable {X : Cx} {W0 : WX} {e o value : Expr} {m mo me : EM} {f : Str} {pos pos' : Pos}
/-! ### o.f -/
def fldW (kc : List Str) (f : Str) : W → PH → Option (W × PH)
  | .ref n, h => match h[n]? with
    | some (.ins c fs) => if c ∈ kc then (fs.lookup f).map fun w => (w, h) else none
    | _ => none
  | _, _ => none
theorem se_fldO {kc : List Str} (hk : ∀ c ∈ kc, IFld X.K c f) (ha : SE X W0 e m) (hb : attributeBase e f X.env (eval e X.env) = eval e X.env := by rfl) : SE X W0 (.Attribute e f pos) (mUn (fldW kc f) m) :=
  pe_imp (pe_fld ha hb) fun σ H Q h => by
    obtain ⟨f0, h0, ps, s, sr, p⟩ := h
    refine ⟨f0, h0, ps, s, sr, (Post.bind (R1 := RW X.K) s back_W p).mono (fun v H1 hh => ?_) fun _ _ _ e => e⟩
    obtain ⟨f1, h1, x, s1, q1, p1⟩ := hh
    unfold fldW at p1
    split at p1
    · rename_i n
      split at p1
      · rename_i c fs hn
        split at p1
        · rename_i hc
          cases el : fs.lookup f with
          | none => rw [el] at p1; exact p1.elim
          | some w =>
            rw [el] at p1
            obtain ⟨a, rfl, _, C, dx, vs, hC, h2, h3⟩ := s1.sim.at hn q1
            obtain ⟨cc, na⟩ := hk c hc C hC
            obtain ⟨u, e1, r⟩ := h3.lookup el
            exact ⟨a, C, dx, vs, u, rfl, h2, cc, na, e1, post_ok s1.sim p1 r⟩
        · exact p1.elim
      · exact p1.elim
    · exact p1.elim
/-! ### o.f = value -/
def setFW (kc : List Str) (f : Str) (x w : W) (h : PH) : Option PH := match x with
  | .ref n => match h[n]? with
    | some (.ins c fs) => if c ∈ kc ∧ fs.length < 1000 then some (h.set n (.ins c (putFW f w fs))) else none
    | _ => none
  | _ => none
def sSetFld (kc : List Str) (f : Str) (me mo : EM) : SM := fun ps h => (me ps h).thenS ps fun w h1 => (mo ps h1).thenS ps fun x h2 => match setFW kc f x w h2 with
  | some h3 => .nx ps h3
  | none => .stuck
theorem ss_setfld {kc : List Str} (hk : ∀ c ∈ kc, IFld X.K c f) (hv : SE X W0 value me) (ho : SE X W0 o mo) (hs : swapsWith value (some (.Attribute o f pos')) pos.line X.env = pure false := by rfl) :
    SS X W0 (.Assign [.Attribute o f pos'] value pos) (sSetFld kc f me mo) :=
  ps_imp (ps_fld ho hv hs) fun D σ H h => by
    obtain ⟨f0, h0, ps, s, sr, p⟩ := h
    refine ⟨f0, h0, ps, s, sr, (PostS.bind (R1 := RW X.K) s sr p).mono (fun v H1 hh => ?_) fun _ _ _ e => e⟩
    obtain ⟨f1, h1, w, s1, sr1, q1, p1⟩ := hh
    refine ⟨f1, h1, ps, s1.sim, sr1, (PostS.bind (R1 := RW X.K) s1.sim sr1 p1).mono (fun ov H2 hh => ?_) fun _ _ _ e => e⟩
    obtain ⟨f2, h2, x, s2, sr2, q2, p2⟩ := hh
    unfold setFW at p2
    split at p2
    · rename_i h3 e3
      split at e3
      · rename_i n
        split at e3
        · rename_i c fs hn
          split at e3
          · rename_i hc
            cases e3
            obtain ⟨a, rfl, hf, C, dx, vs, hC, h2', h3'⟩ := s2.sim.at hn q2
            obtain ⟨cc, na⟩ := hk c hc.1 C hC
            have st := s2.sim.put_ins hC (dx := dx) hf (h3'.putF (x := f) (s2.rep s1.sim q1)) fun _ _ z => by rw [h2'] at z; cases z
            exact ⟨a, C, dx, vs, rfl, h2', cc, na, by rw [← h3'.length]; exact hc.2, p2 f2 _ σ st (st.srep s2.sim sr2)⟩
          · cases e3
        · cases e3
      · cases e3
    · exact p2.elim
end

/-! ### methods -/
section
variable {X : Cx} {W0 : WX} {k : Nat} {g C : Addr} {fd : FuncData} {ps : List Str} {sp : Sp} {mn x : Str} {p pos apos : Pos} {e o : Expr} {es : List Expr} {ta : TE} {t : TA} {F : FM} {mo : EM} {l : LM} {n : Nat} {c : Str}
def tMethG (C : Addr) (mn : Str) (sp : Sp) (E : L2.St → XK) (ta : TE) (t : TA) : TE := fun σ H Q => ta σ H fun x H1 => ∃ a dx fs, x = .ref a ∧ H1 a = some (.ins C dx fs) ∧ fs.lookup mn = none ∧ t σ H1 fun vs H2 => sp (x :: vs) H2 Q (E σ)
theorem pe_gmeth {pl : Sem Bool} (he : PE X o ta) (c : Cls X.K C) (hm : Meth X.K C mn g) (F : FnG X.prog X.w X.K X.mg X.base k g fd ps sp) (hr : Room k X.A) (gd : Gd X.A) (hb : Binds X.K fd ps []) (tk : Takes X W0) (ha : PA X (e :: es) t)
    (hst : starEach (e :: es) X.env = (false, eval e X.env) :: starEach es X.env) (hpl : (backTo pos (starEach es X.env)).any (·.1) = false)
    (ht : eval (.Call (.Attribute o mn apos) (e :: es) [] pos) X.env = (do
      let ov ← eval o X.env
      standAt apos.atName
      let (f, first) ← holding [ov] (getMethod ov mn pl)
      callWith pos f first (backTo pos (starEach (e :: es) X.env)) (backToKw pos (keywordEach [] X.env)))) :
    PE X (.Call (.Attribute o mn apos) (e :: es) [] pos) (tMethG C mn sp (WE W0) ta t) := by
  refine ⟨fun pins s σ H Q I h => ?_⟩
  refine PySem.W.methodCall_KW (pl := pl) (thn (he.run pins s σ H _ I h) fun u s1 ⟨x, H1, I1, rx, a, dx, fs, ex, ea, l, q⟩ => ?_) ht
  subst ex
  obtain rfl : u = Value.ref a := rx
  refine getmeth_ok I1 ea c hm l ?_
  refine PySem.W.callWith_K (first := [.ref a]) (h₀ := X.base) I.ok.mod.kin hm.kp (thn (ha.run pos pins s1 σ H1 _ I1 q) fun us s2 ⟨vs, H2, I2, r, q2⟩ => ⟨I2.kIn, ?_⟩) hst hpl
  exact run_g (us := .ref a :: us) (vs := .ref a :: vs) F hr gd hb (L2.passAt tk σ) I2 (.cons rfl r) q2
theorem pe_gmeth0 {pl : Sem Bool} (he : PE X o ta) (c : Cls X.K C) (hm : Meth X.K C mn g) (F : FnG X.prog X.w X.K X.mg X.base k g fd ps sp) (hr : Room k X.A) (gd : Gd X.A) (hb : Binds X.K fd ps []) (tk : Takes X W0)
    (ht : eval (.Call (.Attribute o mn apos) [] [] pos) X.env = (do
      let ov ← eval o X.env
      standAt apos.atName
      let (f, first) ← holding [ov] (getMethod ov mn pl)
      callWith pos f first (backTo pos (starEach [] X.env)) (backToKw pos (keywordEach [] X.env)))) :
    PE X (.Call (.Attribute o mn apos) [] [] pos) (tMethG C mn sp (WE W0) ta tNil) := by
  refine ⟨fun pins s σ H Q I h => ?_⟩
  refine PySem.W.methodCall_KW (pl := pl) (thn (he.run pins s σ H _ I h) fun u s1 ⟨x, H1, I1, rx, a, dx, fs, ex, ea, l, q⟩ => ?_) ht
  subst ex
  obtain rfl : u = Value.ref a := rx
  refine getmeth_ok I1 ea c hm l ?_
  exact PySem.W.callWith_K0 (first := [.ref a]) I1.kIn hm.kp (run_g (us := [.ref a]) (vs := [.ref a]) F hr gd hb (L2.passAt tk σ) I1 (.cons rfl .nil) q)
def insOf (c mn : Str) : W → PH → Bool
  | .ref k, h => match h[k]? with
    | some (.ins c' fs) => decide (c' = c) && (fs.lookup mn).isNone
    | _ => false
  | _, _ => false
def mMth (c mn : Str) (n : Nat) (F : FM) (mo : EM) (l : LM) : EM := fun ps h => (mo ps h).bind fun x h1 => if insOf c mn x h1 = true then (l ps h1).bind fun xs h2 => if xs.length + 1 = n then F (x :: xs) h2 else .stuck else .stuck
theorem insOf_rep {f : List Addr} {h : PH} {H : Hp} {x : W} {v : V} {C : Addr} (hC : PySem.W.nsIn X.K mainGlobals c = some (some (.ref C))) (s : Sim X.K f h H) (r : Rep X.K f H x v) (e : insOf c mn x h = true) : ∃ a dx fs, v = .ref a ∧ H a = some (.ins C dx fs) ∧ fs.lookup mn = none := by
  unfold insOf at e
  split at e
  · split at e
    · rename_i c' fs hn
      simp only [Bool.and_eq_true, decide_eq_true_eq, Option.isNone_iff_eq_none] at e
      obtain ⟨rfl, e2⟩ := e
      obtain ⟨a, rfl, _, C', dx, vs, hC', h2, h3⟩ := s.at hn r
      rw [hC] at hC'
      cases hC'
      exact ⟨a, dx, vs, rfl, h2, h3.lookup_none e2⟩
    · cases e
  · cases e
theorem se_meth {pl : Sem Bool} (hC : PySem.W.nsIn X.K mainGlobals c = some (some (.ref C))) (cc : Cls X.K C) (hm : Meth X.K C mn g) (FK : FnG X.prog X.w X.K X.mg X.base k g fd ps (SPm X.K n F)) (hb : Binds X.K fd ps []) (hr : Room k X.A) (gd : Gd X.A) (tk : Takes X W0)
    (ho : SE X W0 o mo) (ha : SA X W0 (e :: es) l)
    (hst : starEach (e :: es) X.env = (false, eval e X.env) :: starEach es X.env := by rfl) (hpl : (backTo pos (starEach es X.env)).any (·.1) = false := by rfl)
    (ht : eval (.Call (.Attribute o mn apos) (e :: es) [] pos) X.env = (do
      let ov ← eval o X.env
      standAt apos.atName
      let (f, first) ← holding [ov] (getMethod ov mn pl)
      callWith pos f first (backTo pos (starEach (e :: es) X.env)) (backToKw pos (keywordEach [] X.env))) := by rfl) :
    SE X W0 (.Call (.Attribute o mn apos) (e :: es) [] pos) (mMth c mn n F mo l) :=
  pe_imp (pe_gmeth ho cc hm FK hr gd hb tk ha hst hpl ht) fun σ H Q h => by
    obtain ⟨f0, h0, ps, s, sr, p⟩ := h
    refine ⟨f0, h0, ps, s, sr, (Post.bind (R1 := RW X.K) s back_W p).mono (fun v H1 hh => ?_) fun _ _ _ e => e⟩
    obtain ⟨f1, h1, x, s1, q1, p1⟩ := hh
    split at p1
    · rename_i hx
      obtain ⟨a, dx, fs, rfl, h2, h3⟩ := insOf_rep hC s1.sim q1 hx
      refine ⟨a, dx, fs, rfl, h2, h3, f1, h1, ps, s1.sim, s1.srep s sr, (Post.bind (R1 := RA X.K) s1.sim back_W p1).mono (fun vs H2 hh => ?_) fun _ _ _ e => e⟩
      obtain ⟨f2, h2, xs, s2, q2, p2⟩ := hh
      split at p2
      · rename_i hl
        exact ⟨by rw [List.length_cons, ← q2.length]; exact hl, f2, h2, x :: xs, s2.sim, .cons (s2.rep s1.sim q1) q2, p2⟩
      · exact p2.elim
    · exact p1.elim
def mMth0 (c mn : Str) (F : FM) (mo : EM) : EM := fun ps h => (mo ps h).bind fun x h1 => if insOf c mn x h1 = true then F [x] h1 else .stuck
theorem se_meth0 {pl : Sem Bool} (hC : PySem.W.nsIn X.K mainGlobals c = some (some (.ref C))) (cc : Cls X.K C) (hm : Meth X.K C mn g) (FK : FnG X.prog X.w X.K X.mg X.base k g fd ps (SPm X.K 1 F)) (hb : Binds X.K fd ps []) (hr : Room k X.A) (gd : Gd X.A) (tk : Takes X W0)
    (ho : SE X W0 o mo)
    (ht : eval (.Call (.Attribute o mn apos) [] [] pos) X.env = (do
      let ov ← eval o X.env
      standAt apos.atName
      let (f, first) ← holding [ov] (getMethod ov mn pl)
      callWith pos f first (backTo pos (starEach [] X.env)) (backToKw pos (keywordEach [] X.env))) := by rfl) :
    SE X W0 (.Call (.Attribute o mn apos) [] [] pos) (mMth0 c mn F mo) :=
  pe_imp (pe_gmeth0 ho cc hm FK hr gd hb tk ht) fun σ H Q h => by
    obtain ⟨f0, h0, ps, s, sr, p⟩ := h
    refine ⟨f0, h0, ps, s, sr, (Post.bind (R1 := RW X.K) s back_W p).mono (fun v H1 hh => ?_) fun _ _ _ e => e⟩
    obtain ⟨f1, h1, x, s1, q1, p1⟩ := hh
    split at p1
    · rename_i hx
      obtain ⟨a, dx, fs, rfl, h2, h3⟩ := insOf_rep hC s1.sim q1 hx
      exact ⟨a, dx, fs, rfl, h2, h3, rfl, f1, h1, [x], s1.sim, .cons q1 .nil, p1⟩
    · exact p1.elim

/-! ### an object is made -/
theorem run_gmake {pins : List (Addr × Obj)} {σ : L2.St} {H : Hp} {s : Shared} {Q : VK} {E : XK} {us : List Value} {vs : List V} (M : Mk X.K C g) (F : FnG X.prog X.w X.K X.mg X.base k g fd ps sp) (hr : Room (k + 1) X.A) (gd : Gd X.A) (hb : Binds X.K fd ps [])
    (hx : PassesAt (L2.CX X.prog X.w) X σ E) (I : Inv X pins σ H s) (r : Vals vs us)
    (h : ∀ x dx, H x = none → H dx = none → dx ≠ x → sp (.ref x :: vs) (upd (upd H dx (.own x)) x (.ins C dx [])) (fun v H2 => v = .non ∧ Q (.ref x) H2) E) :
    wpAny (model X.prog X.w) X.A (call (.ref C) us) (EP X pins σ Q) X.xe s := by
  have hq := h (s.heap.objs.size + 1) s.heap.objs.size (I.hok.fresh (Nat.le_succ _)) (I.hok.fresh (Nat.le_refl _)) (Nat.ne_of_lt (Nat.lt_succ_self _))
  have I2 := Inv.made (C := C) I
  have r2 : Vals (V.ref (s.heap.objs.size + 1) :: vs) (Value.ref (s.heap.objs.size + 1) :: us) := .cons rfl r
  have hl : (Value.ref (s.heap.objs.size + 1) :: us ++ []).length = ps.length := by
    have e := r2.length
    rw [F.len _ _ _ _ hq] at e
    rw [List.append_nil]
    exact e.symm
  have bnd := hb _ (Value.ref (s.heap.objs.size + 1) :: us) I2.kIn hl
  rw [List.append_nil] at bnd
  refine wpAny_call (make_map (f := g) I.kIn M.makes M.init (beq_iff_eq.mp M.fn) (codeAny_mono (F.run _ X.stack _ _ ⟨Value.ref (s.heap.objs.size + 1) :: us, []⟩ (Value.ref (s.heap.objs.size + 1) :: us) _ _ E (hr.make C us []) gd
    (I2.env0.make C us []) bnd r2 hq) fun r s' hq' => ?_))
  cases r with
  | error e => exact hx pins _ _ e s' I2 hq'
  | ok fl =>
    cases fl with
    | ret u =>
      obtain ⟨v, H', I3, rv, ev, q3⟩ := I2.after hq'
      subst ev
      exact ⟨rv, ⟨V.ref (s.heap.objs.size + 1), H', I3, rfl, q3⟩⟩
    | next => exact False.elim hq'
    | brk => exact False.elim hq'
    | cont => exact False.elim hq'
def tMakeG (C : Addr) (sp : Sp) (E : L2.St → XK) (t : TA) : TE := fun σ H Q => t σ H fun vs H1 => ∀ x dx, H1 x = none → H1 dx = none → dx ≠ x → sp (.ref x :: vs) (upd (upd H1 dx (.own x)) x (.ins C dx [])) (fun v H2 => v = .non ∧ Q (.ref x) H2) (E σ)
theorem pe_gmake (M : Mk X.K C g) (F : FnG X.prog X.w X.K X.mg X.base k g fd ps sp) (hr : Room (k + 1) X.A) (gd : Gd X.A) (hg : Gl X x) (hm : X.mg x = some (.ref C)) (hb : Binds X.K fd ps []) (tk : Takes X W0)
    (ha : PA X (e :: es) t) (hdb : (x == ("__debug__" : Str)) = false) (he : starEach (e :: es) X.env = (false, eval e X.env) :: starEach es X.env) (hpl : (backTo pos (starEach es X.env)).any (·.1) = false) :
    PE X (.Call (.Name x p) (e :: es) [] pos) (tMakeG C sp (WE W0) t) := by
  refine ⟨fun pins s σ H Q I h => ?_⟩
  refine wpAny_Call_Name_kw (ld_glob I hg hm ?_ hdb)
  refine PySem.W.callWith_K (h₀ := X.base) I.ok.mod.kin M.kp (thn (ha.run pos pins s σ H _ I h) fun us s1 ⟨vs, H1, I1, r, q⟩ => ⟨I1.kIn, ?_⟩) he hpl
  exact run_gmake M F hr gd hb (L2.passAt tk σ) I1 r q
def mMake (c : Str) (n : Nat) (F : FM) (l : LM) : EM := fun ps h => (l ps h).bind fun xs h1 => if xs.length + 1 = n then (F (.ref h1.length :: xs) (h1 ++ [.ins c []])).bind fun w h2 => match w with
  | .non => .ok (.ref h1.length) h2
  | _ => .stuck else .stuck
theorem se_make (hC : PySem.W.nsIn X.K mainGlobals c = some (some (.ref C))) (M : Mk X.K C g) (FK : FnG X.prog X.w X.K X.mg X.base k g fd ps (SPm X.K n F)) (hb : Binds X.K fd ps []) (hr : Room (k + 1) X.A) (gd : Gd X.A) (tk : Takes X W0) (hm : X.mg c = some (.ref C))
    (ha : SA X W0 (e :: es) l) (hg : Gl X c := by rfl) (hdb : (c == ("__debug__" : Str)) = false := by decide) (he : starEach (e :: es) X.env = (false, eval e X.env) :: starEach es X.env := by rfl) (hpl : (backTo pos (starEach es X.env)).any (·.1) = false := by rfl) :
    SE X W0 (.Call (.Name c p) (e :: es) [] pos) (mMake c n F l) :=
  pe_imp (pe_gmake M FK hr gd hg hm hb tk ha hdb he hpl) fun σ H Q h => by
    obtain ⟨f0, h0, ps, s, sr, q⟩ := h
    refine ⟨f0, h0, ps, s, sr, (Post.bind (R1 := RA X.K) s back_W q).mono (fun vs H1 hh => ?_) fun _ _ _ e => e⟩
    obtain ⟨f1, h1, xs, s1, q1, p1⟩ := hh
    intro x dx hx hdx ne
    split at p1
    · rename_i hl
      have sA := s1.sim.other (o := .own x) hdx
      have sB := sA.sim.other (p := x) (o := .ins C dx []) (by rw [upd_ne (Ne.symm ne)]; exact hx)
      have st := (sA.trans sB).take_in (o := .ins c []) hx (s1.sim.fresh hx) ⟨C, dx, [], hC, upd_same, rfl⟩
      have hlen : f1.length = h1.length := s1.sim.len
      have rx : Rep X.K (f1 ++ [x]) (upd (upd H1 dx (.own x)) x (.ins C dx [])) (.ref h1.length) (.ref x) := by
        simp only [Rep]
        exact ⟨x, rfl, by rw [← hlen]; simp⟩
      refine ⟨by rw [List.length_cons, ← q1.length]; exact hl, _, _, _, st.sim, .cons rx (st.reps s1.sim q1), ?_⟩
      cases eF : F (.ref h1.length :: xs) (h1 ++ [.ins c []]) with
      | stuck => rw [eF] at p1; exact p1.elim
      | exc x2 h2 =>
        rw [eF] at p1
        exact fun f2 H2 c2 d2 s2 r2 => p1 f2 H2 c2 d2 (st.trans s2) r2
      | ok w h2 =>
        rw [eF] at p1
        intro f2 H2 b s2 r2
        cases w with
        | non =>
          have p1 : Post X.K (RW X.K) f1 H1 (.ok (.ref h1.length) h2) Q (fun c d H' => W0 c d σ H') := p1
          exact ⟨rep_non.mp r2, p1 f2 H2 (.ref x) (st.trans s2) (s2.rep st.sim rx)⟩
        | _ => exact p1.elim
    · exact p1.elim
end

/-! ### a fresh list, so many times -/
section
variable {X : Cx} {W0 : WX} {a b : Expr} {pos : Pos} {l1 : LM} {m2 : EM}
def mRepL (l : LM) (m : EM) : LM := fun ps h => (l ps h).bind fun xs h1 => (m ps h1).bind fun y h2 => match y with
  | .int k => if -1000000 ≤ k ∧ k ≤ 1000000 ∧ xs.length * k.toNat ≤ 16777216 then .ok (List.replicate k.toNat xs).flatten h2 else .stuck
  | _ => .stuck
theorem sl_rep (ha : SL X W0 a l1) (hb : SE X W0 b m2) : SL X W0 (.BinOp a .Mult b pos) (mRepL l1 m2) := pe_imp (pe_op op_rep ha hb) fun σ H Q h => by
  obtain ⟨f, h, ps, s, sr, p⟩ := h
  refine ⟨f, h, ps, s, sr, (Post.bind (R1 := RL X.K) s back_L p).mono (fun v H1 hh => ?_) fun _ _ _ e => e⟩
  obtain ⟨f1, h1, xs, s1, q1, p1⟩ := hh
  refine ⟨f1, h1, ps, s1.sim, s1.srep s sr, (Post.bind (R1 := RW X.K) s1.sim back_L p1).mono (fun u H2 hh => ?_) fun _ _ _ e => e⟩
  obtain ⟨f2, h2, y, s2, q2, p2⟩ := hh
  obtain ⟨d, vs, rfl, hd, nd, ed, ra⟩ := q1
  split at p2
  · split at p2
    · rename_i k c
      have ed2 := s2.grow d _ ed nd
      have ra2 := s2.reps s1.sim ra
      refine ⟨d, k, vs, rfl, rep_int.mp q2, ed2, by omega, by omega, by rw [← ra.length, sizeLine_eq]; exact c.2.2, fun q hq => ?_⟩
      have st := s2.sim.other (o := .lst (List.replicate k.toNat vs).flatten) hq
      exact p2 f2 _ _ st ⟨q, _, rfl, hq, s2.sim.fresh hq, upd_same, Reps.mono (.refl f2) (s2.sim.stay st.grow) _ _ (ra2.rep_flat _)⟩
    · exact p2.elim
  · exact p2.elim
end
end Mir

/-! Mir: repr of tuples in which empty dicts stand. -/
namespace Mir
open PySem PySem.Spec PyProof.Rows L2
mutual
/-- tuples alone, and empty dicts -/
inductive DpT (K : PySem.W.Frag) (H : Hp) : V → PyData → Prop
  | non : DpT K H .non .none
  | bl (b : Bool) : DpT K H (.bl b) (.bool b)
  | int (i : Int) : DpT K H (.int i) (.int i)
  | str (x : Str) : DpT K H (.str x) (.str x)
  | tup {a : Addr} {xs : List V} {ds : List PyData} : SqT K H a xs → DpTs K H xs ds → DpT K H (.ref a) (.tuple ds)
  | emp {a : Addr} : H a = some (.dK []) → DpT K H (.ref a) (.dict [])
inductive DpTs (K : PySem.W.Frag) (H : Hp) : List V → List PyData → Prop
  | nil : DpTs K H [] []
  | cons {v : V} {vs : List V} {d : PyData} {ds : List PyData} : DpT K H v d → DpTs K H vs ds → DpTs K H (v :: vs) (d :: ds)
end
section
variable {X : Cx} {pins : List (Addr × Obj)} {σ : L2.St} {H : Hp} {s : Shared}
mutual
theorem dpT_reads (I : Inv X pins σ H s) : ∀ (d : PyData) (v : V) (u : Value), DpT X.K H v d → RelV v u → ∃ as, Reads s.heap u d as ∧ sysModules ∉ as
  | .none, v, u, h, r => by cases h; cases r; exact ⟨_, .none, by simp⟩
  | .bool b, v, u, h, r => by cases h; cases r; exact ⟨_, .bool b, by simp⟩
  | .int i, v, u, h, r => by cases h; obtain ⟨t, rfl⟩ := r; exact ⟨_, .int i t, by simp⟩
  | .str x, v, u, h, r => by cases h; obtain ⟨t, rfl⟩ := r; exact ⟨_, .str x t, by simp⟩
  | .tuple ds, v, u, h, r => by
    cases h with
    | tup e1 e2 =>
      cases r
      obtain ⟨its, rv, ⟨ob, ho, hc, m, hd⟩, _⟩ := I.tuple e1
      obtain ⟨as, q1, q2⟩ := dpT_all I ds _ its e2 rv
      exact ⟨as, .tuple ho hc hd q1, q2⟩
  | .list ds, v, u, h, r => by cases h
  | .dict kvs, v, u, h, r => by
    cases h with
    | @emp a e1 =>
      cases r
      obtain ⟨_, ne, vs, kv, ob, es, ep, ho, ⟨hc, _⟩, hd, _, hp, _⟩ := I.hok a _ e1
      have hvs : vs = [] := by cases kv; rfl
      subst hvs
      have hes : es.toList = [] := by
        cases q : es.toList with
        | nil => rfl
        | cons b r => rw [q] at hp; cases hp
      refine ⟨[a] ++ [], ?_, ?_⟩
      · refine Reads.dict (as := []) (bs := []) ho hc hd ?_ ?_
        · rw [hes]; exact .nil
        · rw [hes]; exact .nil
      · intro z
        have z : sysModules = a := by simpa using z
        rw [z] at ne
        simp at ne
theorem dpT_all (I : Inv X pins σ H s) : ∀ (ds : List PyData) (vs : List V) (us : List Value), DpTs X.K H vs ds → Vals vs us → ∃ as, ReadsAll s.heap us ds as ∧ sysModules ∉ as
  | [], vs, us, h, r => by cases h; cases r; exact ⟨_, .nil, by simp⟩
  | d :: ds, vs, us, h, r => by
    cases h with
    | cons e1 e2 =>
      cases r with
      | cons r1 r2 =>
        obtain ⟨as, q1, q2⟩ := dpT_reads I d _ _ e1 r1
        obtain ⟨bs, p1, p2⟩ := dpT_all I ds _ _ e2 r2
        refine ⟨_, .cons q1 p1, fun z => ?_⟩
        rcases List.mem_append.mp z with z | z
        · exact q2 z
        · exact p2 z
end
end
mutual
def datT (h : PH) : W → Option PyData
  | .non => some .none
  | .bl b => some (.bool b)
  | .int i => some (.int i)
  | .str x => some (.str x)
  | .tup xs => (datTs h xs).map .tuple
  | .ref n => match h[n]? with
    | some (.dK []) => some (.dict [])
    | _ => none
  | _ => none
def datTs (h : PH) : List W → Option (List PyData)
  | [] => some []
  | x :: xs => match datT h x, datTs h xs with
    | some d, some ds => some (d :: ds)
    | _, _ => none
end
section
variable {K : PySem.W.Frag} {f : List Addr} {h : PH} {H : Hp}
mutual
theorem dpT_of (s : Sim K f h H) : ∀ (w : W) (v : V) (d : PyData), datT h w = some d → Rep K f H w v → DpT K H v d
  | .non, v, d, e, r => by rw [rep_non.mp r]; simp only [datT, Option.some.injEq] at e; subst e; exact .non
  | .bl b, v, d, e, r => by rw [rep_bl.mp r]; simp only [datT, Option.some.injEq] at e; subst e; exact .bl b
  | .int b, v, d, e, r => by rw [rep_int.mp r]; simp only [datT, Option.some.injEq] at e; subst e; exact .int b
  | .str b, v, d, e, r => by rw [rep_str.mp r]; simp only [datT, Option.some.injEq] at e; subst e; exact .str b
  | .tup xs, v, d, e, r => by
    obtain ⟨a, vs, rfl, h1, h2⟩ := rep_tup.mp r
    simp only [datT] at e
    obtain ⟨ds, e1, rfl⟩ := Option.map_eq_some_iff.mp e
    exact .tup h1 (dpTs_of s xs vs ds e1 h2)
  | .fix xs, v, d, e, r => by simp [datT] at e
  | .exc _, v, d, e, r => by simp [datT] at e
  | .ref n, v, d, e, r => by
    simp only [datT] at e
    split at e
    · rename_i hn
      cases e
      obtain ⟨a, rfl, _, vs, h1, h2⟩ := s.at hn r
      have h2 : vs = [] := h2
      subst h2
      exact .emp h1
    · cases e
theorem dpTs_of (s : Sim K f h H) : ∀ (ws : List W) (vs : List V) (ds : List PyData), datTs h ws = some ds → Reps K f H ws vs → DpTs K H vs ds
  | [], vs, ds, e, r => by
    rw [r.nil_inv]
    simp only [datTs, Option.some.injEq] at e
    subst e
    exact .nil
  | x :: xs, vs, ds, e, r => by
    obtain ⟨v, t, rfl, h1, h2⟩ := r.cons_inv
    simp only [datTs] at e
    split at e
    · rename_i d ds' e1 e2
      cases e
      exact .cons (dpT_of s x v d e1 h1) (dpTs_of s xs t ds' e2 h2)
    · cases e
end
end
/-- repr, of such tuples too -/
def isTR : W → Bool
  | .tup _ => true
  | .ref _ => true
  | _ => false
def wReprE (xs : List W) (h : PH) : Option (W × PH) := match wRepr xs h with
  | some r => some r
  | none => match xs with
    | [.non] => some (.str "None", h)
    | [x] => match datT h x with
      | some d => if isTR x = true ∧ d.showable = true ∧ d.depth ≤ 100 ∧ d.shown.length ≤ 16777216 then some (.str d.shown, h) else none
      | none => none
    | _ => none
abbrev rReprE (K : PySem.W.Frag) : List V → Hp → VK → Prop := fun xs H Q => rRepr K xs H Q ∨ (xs = [.non] ∧ Q (.str "None") H) ∨ ∃ a d, xs = [.ref a] ∧ DpT K H (.ref a) d ∧ d.showable = true ∧ d.depth ≤ 100 ∧ d.shown.length ≤ 16777216 ∧ Q (.str d.shown) H
section
variable {K : PySem.W.Frag} {X : Cx}
theorem c_reprE {k : Nat} (hr : Room k X.A) (gd : Gd X.A) : CallR X (.builtin "repr") (rReprE X.K) := by
  intro pins s σ H xs us Q I rv h
  rcases h with h | ⟨rfl, q⟩ | ⟨a, d, rfl, dp, h1, h3, h4, q⟩
  · exact c_repr hr gd pins s σ H xs us Q I rv h
  · obtain ⟨u, rfl, ru⟩ := vals1 rv
    cases (show u = Value.none from ru)
    exact PySem.P.repr_of_none ⟨.str "None", H, I.tok _, ⟨_, rfl⟩, q⟩
  · obtain ⟨u, rfl, ru⟩ := vals1 rv
    cases (show u = Value.ref a from ru)
    obtain ⟨as, rd, ns⟩ := dpT_reads I d _ _ dp (show RelV (V.ref a) (Value.ref a) from rfl)
    have hu := hr.un
    refine PySem.repr_of_reads' rd h1 (fun _ => ns) gd (by omega) (fun _ _ e => e) (fun h' t tk keep => ?_) (by rw [sizeLine_eq]; exact h4)
    exact ⟨.str d.shown, H, I.kept (t' := tk) keep, ⟨t, rfl⟩, q⟩
theorem o_reprE : OpC K (rReprE K) wReprE := by
  intro f h H xs vs Q E s r p
  unfold wReprE at p
  split at p
  · rename_i w e
    refine .inl (o_repr f h H xs vs Q E s r ?_)
    rw [e]
    exact p
  · split at p
    · obtain ⟨v, rfl, r1⟩ := r.one_inv
      exact .inr (.inl ⟨by rw [rep_non.mp r1], post_ok s p (rep_str.mpr rfl)⟩)
    · rename_i x _
      obtain ⟨v, rfl, r1⟩ := r.one_inv
      split at p
      · rename_i d e
        split at p
        · rename_i c
          have dd := dpT_of s _ v d e r1
          have key : ∃ a, v = .ref a := by
            unfold isTR at c
            split at c
            · obtain ⟨a, us, rfl, _⟩ := rep_tup.mp r1
              exact ⟨a, rfl⟩
            · simp only [Rep] at r1
              obtain ⟨a, rfl, _⟩ := r1
              exact ⟨a, rfl⟩
            · exact absurd c.1 (by simp)
          obtain ⟨a, rfl⟩ := key
          exact .inr <| .inr ⟨a, d, rfl, dd, c.2.1, c.2.2.1, c.2.2.2, post_ok s p (rep_str.mpr rfl)⟩
        · exact p.elim
      · exact p.elim
    · exact p.elim
end
end Mir

/-! Mir: sorted of tuples and dicts, list.index, x[::-1], list(range(..)), dict(pairs). -/
namespace Mir
open PySem PySem.Spec PyProof.Rows L2
section
variable {X : Cx} {pins : List (Addr × Obj)} {σ : L2.St} {H : Hp} {s : Shared}
/-- sorted of a thing that gives ints -/
theorem sorted_via {v : Value} {ns : List Int} {Q : VK} (hz : ns.length ≤ sizeLine) (I : Inv X pins σ H s)
    (hcol : ∀ Q' : List Value → Shared → Prop, (∀ (its : List Value) (h' : Heap) (tk : Nat), IntsAre its ns → (∀ b o, s.heap.get? b = some o → h'.get? b = some o) → Q' its { s with heap := h', toks := tk }) → wpAny (model X.prog X.w) X.A.in1 (collect v) Q' X.xe s)
    (q : ∀ (ns' : List Int) (p : Addr), ns'.Perm ns → ns'.Pairwise (· ≤ ·) → H p = none → Q (.ref p) (upd H p (.lst (ns'.map V.int)))) :
    wpAny (model X.prog X.w) X.A (call (.builtin "sorted") [v]) (EP X pins σ Q) X.xe s := by
  refine Calls.call_function_entry PyProof.Rows.kind_sorted PyProof.Rows.plain_sorted PyProof.Rows.entry_sorted (PyProof.Rows.args_sorted1 _) ?_
  unfold Builtin.«sorted»
  refine wpAny_bind (m := checkCount "sorted" 1 1 _) (wpAny_pure (wpAny_bind (hcol _ fun its h1 tk hI keep => ?_)))
  have hl : its.length = ns.length := by rw [← SrtO.iv_ints hI, List.length_map]
  have I1 : Inv X pins σ H { s with heap := h1, toks := tk } := I.kept keep
  refine wpAny_bind (wpAny_newList ?_ (by rw [hl]; exact hz))
  have at_ : (h1.push (seqObj "list" its.toArray 0)).get? h1.objs.size = some (seqObj "list" its.toArray 0) := Heap.get?_push_size _ rfl
  refine wpAny_bind (wpAny_holding ?_)
  refine wpAny_call_entry PyProof.Rows.slot_list_sort ⟨_, at_, rfl⟩ PyProof.Rows.entry_list_sort ?_ (PyProof.Rows.args_list_sort _)
  refine SrtO.list_sort_ord (s := { s with heap := h1.push (seqObj "list" its.toArray 0), toks := tk }) SrtO.swo_int at_ (by rw [hl]; exact hz) (fun h2 => SrtO.ints_sortable hI h2) fun out g1 g2 => ⟨_, rfl, ?_⟩
  obtain ⟨k1, k2, k3⟩ := SrtO.ints_out hI g1 g2
  obtain ⟨ep, e2⟩ := PyProof.Rows.sortedHeap_at (vs := its) (out := out.toArray) at_
  have hlen : ((out.map SrtO.iv).map V.int).length ≤ sizeLine := by
    rw [List.length_map, k2.length_eq]
    exact hz
  refine wpAny_pure ⟨_, rfl, .ref h1.objs.size, upd H h1.objs.size (.lst ((out.map SrtO.iv).map V.int)), ?_, rfl, q _ _ k2 k3 (I1.hok.fresh (Nat.le_refl _))⟩
  refine I1.laid (t' := tk) (fun b u e => ?_) (Nat.le_refl _) ⟨hlen, out, ep, vals_of_ints k1, e2⟩
  have lt : b < h1.objs.size := Heap.lt_size e
  rw [PyProof.Rows.sortedHeap_old (Nat.ne_of_lt lt) (by rw [size_push']; exact Nat.lt_succ_of_lt lt)]
  exact Heap.get?_push_of_some _ e
end
section
variable {K : PySem.W.Frag} {X : Cx} {W0 : WX}
/-- a list, a tuple, a dict's keys: ints -/
def rSortV (K : PySem.W.Frag) : List V → Hp → VK → Prop := fun vs H Q => ∃ (a : Addr) (ns : List Int), vs = [.ref a] ∧ (SqL K H a (ns.map V.int) ∨ SqT K H a (ns.map V.int) ∨ ∃ kvs : List (Key × V), H a = some (.dK kvs) ∧ kvs.map (·.1) = ns.map Sum.inl) ∧
  ∀ (ns' : List Int) (p : Addr), ns'.Perm ns → ns'.Pairwise (· ≤ ·) → H p = none → Q (.ref p) (upd H p (.lst (ns'.map V.int)))
theorem cr_sortV (hc : X.calm = true) : CallR X (.builtin "sorted") (rSortV X.K) := by
  intro pins s σ H vs us Q I rv h
  obtain ⟨a, ns, rfl, h, q⟩ := h
  rcases h with h | h | ⟨kvs, h, hk⟩
  · exact cr_sortedI pins s σ H _ us Q I rv ⟨a, ns, rfl, h, q⟩
  · obtain ⟨u, rfl, ru⟩ := vals1 rv
    cases (show u = Value.ref a from ru)
    obtain ⟨its, r2, ⟨o, ho, hcl, n, hd⟩, hz⟩ := I.tuple h
    rw [List.length_map] at hz
    refine sorted_via hz I (fun Q' f => ?_) q
    refine wpAny_collect_seq a (.inr rfl) ho hcl hd (fun h' keep => ?_) ?_
    · rw [List.toList_toArray]
      exact f its h' s.toks r2.ints keep
    · rw [List.size_toArray, ← r2.length, List.length_map]
      exact hz
  · obtain ⟨u, rfl, ru⟩ := vals1 rv
    cases (show u = Value.ref a from ru)
    have hd : Rd H a (.dK kvs) := .inl h
    obtain ⟨z, lo, vs, rel, dd⟩ := dk_rd I.hok hd
    obtain ⟨ep, hat⟩ := dd.dictAt
    have keys : vs.map (·.1) = ns.map Sum.inl := rel.keys.symm.trans hk
    have hl : vs.length = ns.length := by simpa using congrArg List.length keys
    have hl2 : kvs.length = ns.length := by simpa using congrArg List.length hk
    have hz : vs.length ≤ sizeLine := by rw [hl, ← hl2]; exact z
    refine sorted_via (by rw [← hl]; exact hz) I (fun Q' f => ?_) q
    refine PySem.W.kdu_collect (A := X.A.in1) (PySem.W.kdl_dict (knd := mixKind X.prog X.w) (kvs := vs) (ep := ep) lo) (I.ok.hd hc) hat hz fun h' tk acc keep ha => f _ h' tk ?_ keep
    refine ints_each (by rw [Array.length_toList, ha.1, hl]) fun j v e => ?_
    obtain ⟨k, x, e1, e2⟩ := ha.2 j v (by rw [← Array.getElem?_toList]; exact e)
    have e3 : (vs.map (·.1))[j]? = some k := by rw [List.getElem?_map, e1]; rfl
    rw [keys, List.getElem?_map] at e3
    obtain ⟨y, e4, rfl⟩ := Option.map_eq_some_iff.mp e3
    rcases keyIs_shape (show keyIs (Sum.inl y) v = true from e2) with ⟨i, t, ek, ev⟩ | ⟨z, t, ek, ev⟩
    · cases ek
      exact ⟨y, t, e4, ev⟩
    · cases ek
/-- the ints of it -/
def keysI : List (Key × W) → Option (List Int)
  | [] => some []
  | (.inl i, _) :: r => (keysI r).map (i :: ·)
  | _ => none
def intsOf (x : W) (h : PH) : Option (List Int) := match x with
  | .tup xs => intsW xs
  | .fix xs => intsW xs
  | .ref n => match h[n]? with
    | some (.lst xs) => intsW xs
    | some (.dK kvs) => keysI kvs
    | _ => none
  | _ => none
def lSortV (x : W) (h : PH) : Option (List W × PH) := (intsOf x h).map fun ns => ((sortI ns).map W.int, h)
theorem keysI_is : ∀ {kvs : List (Key × W)} {ns : List Int}, keysI kvs = some ns → kvs.map (·.1) = ns.map Sum.inl
  | [], ns, e => by cases e; rfl
  | (.inl i, w) :: r, ns, e => by
    simp only [keysI] at e
    obtain ⟨ms, e1, rfl⟩ := Option.map_eq_some_iff.mp e
    simp only [List.map_cons, keysI_is e1]
  | (.inr i, w) :: r, ns, e => by cases e
theorem KRep.keys {f : List Addr} {H : Hp} : ∀ {ws : List (Key × W)} {vs : List (Key × V)}, KRep K f H ws vs → vs.map (·.1) = ws.map (·.1)
  | [], vs, h => by
    have h : vs = [] := h
    subst h
    rfl
  | (k, w) :: r, vs, h => by
    obtain ⟨v, s, rfl, h2, h3⟩ := h
    simp only [List.map_cons, KRep.keys h3]
/-- one value alone -/
def OpV {α : Type} (K : PySem.W.Frag) (R : RR α V) (r : List V → Hp → VK → Prop) (o : W → PH → Option (α × PH)) : Prop :=
  ∀ (f : List Addr) (h : PH) (H : Hp) (x : W) (v : V) (Q : VK) (E : XK), Sim K f h H → Rep K f H x v → Post K R f H (.ofO (o x h)) Q E → r [v] H Q
def mOnV {α : Type} (o : W → PH → Option (α × PH)) (m : EM) : LS → PH → Res α := fun ps h => (m ps h).bind fun x h1 => .ofO (o x h1)
variable {x : Str} {id T : String} {r : List V → Hp → VK → Prop} {e : Expr} {m1 : EM} {p pos : Pos}
theorem tG_onV {α : Type} {R : RR α V} {o : W → PH → Option (α × PH)} (hb : Back K R) (ho : OpV K R r o) {σ : L2.St} {H : Hp} {Q : VK} (h : tG K R W0 (mOnV o m1) σ H Q) : tCB r (tCons (tE K W0 m1) tNil) σ H Q := by
  obtain ⟨f, h, ps, s, sr, p⟩ := h
  refine ⟨f, h, ps, s, sr, (Post.bind (R1 := RW K) s hb p).mono (fun v H1 hh => ?_) fun _ _ _ e => e⟩
  obtain ⟨f1, h1, w, s1, q1, p1⟩ := hh
  exact ho f1 h1 H1 w v Q _ s1.sim q1 p1
theorem pg_callBV {α : Type} {R : RR α V} {o : W → PH → Option (α × PH)} (hb : Back X.K R) (hc : CallR X (.builtin id) r) (ho : OpV X.K R r o) (hm : X.mg x = none) (hv : bootBuiltins x = some (.builtin id)) (ha : SE X W0 e m1) (hg : Gl X x := by rfl) (hn : x ≠ "__name__" := by decide) (hdb : (x == ("__debug__" : Str)) = false := by decide)
    (he : starEach [e] X.env = (false, eval e X.env) :: starEach [] X.env := by rfl) (hpl : (backTo pos (starEach [] X.env)).any (·.1) = false := by rfl) : PE X (.Call (.Name x p) [e] [] pos) (tG X.K R W0 (mOnV o m1)) :=
  pe_imp (pe_callB hc hg hm hv (pa_cons ha pa_nil he) hn hdb he hpl) fun _ _ _ h => tG_onV hb ho h
theorem pg_callTV {α : Type} {R : RR α V} {o : W → PH → Option (α × PH)} (hb : Back X.K R) (hc : CallR X (.type T) r) (ho : OpV X.K R r o) (hm : X.mg x = none) (hv : bootBuiltins x = some (.type T)) (ha : SE X W0 e m1) (hg : Gl X x := by rfl) (hn : x ≠ "__name__" := by decide) (hdb : (x == ("__debug__" : Str)) = false := by decide)
    (he : starEach [e] X.env = (false, eval e X.env) :: starEach [] X.env := by rfl) (hpl : (backTo pos (starEach [] X.env)).any (·.1) = false := by rfl) : PE X (.Call (.Name x p) [e] [] pos) (tG X.K R W0 (mOnV o m1)) :=
  pe_imp (pe_callTy hc hg hm hv (pa_cons ha pa_nil he) hn hdb he hpl) fun _ _ _ h => tG_onV hb ho h
theorem q_sortV : OpV K (RL K) (rSortV K) lSortV := by
  intro f h H x v Q E s r p
  unfold lSortV at p
  cases e : intsOf x h with
  | none => rw [e] at p; exact p.elim
  | some ns =>
    rw [e] at p
    have fin : ∀ (ns' : List Int) (q : Addr), ns'.Perm ns → ns'.Pairwise (· ≤ ·) → H q = none → Q (.ref q) (upd H q (.lst (ns'.map V.int))) := fun ns' q hp hu hq => by
      have e3 : ns' = sortI ns := up_unique (hp.trans (sortI_perm ns).symm) hu (sortI_up ns)
      subst e3
      exact post_fresh s p (reps_ints _) hq
    cases x with
    | tup xs =>
      obtain ⟨a, vs, rfl, h1, h2⟩ := rep_tup.mp r
      have ev := intsW_rep e h2
      subst ev
      exact ⟨a, ns, rfl, .inr (.inl h1), fin⟩
    | fix xs =>
      obtain ⟨a, vs, rfl, h1, h2⟩ := rep_fix.mp r
      have ev := intsW_rep e h2
      subst ev
      exact ⟨a, ns, rfl, .inl h1.seq, fin⟩
    | ref n =>
      simp only [intsOf] at e
      split at e
      · rename_i xs hn
        obtain ⟨a, rfl, _, vs, h1, h2⟩ := s.at hn r
        have ev := intsW_rep e h2
        subst ev
        exact ⟨a, ns, rfl, .inl (SqL.of h1), fin⟩
      · rename_i kvs hn
        obtain ⟨a, rfl, _, vs, h1, h2⟩ := s.at hn r
        exact ⟨a, ns, rfl, .inr (.inr ⟨vs, h1, h2.keys.trans (keysI_is e)⟩), fin⟩
      · cases e
    | _ => cases e
/-! ### xs.index(y) -/
def wIndex (x : W) (xs : List W) (h : PH) : Option (W × PH) := match xs with
  | [y] => match lstOf x h with
    | some ws => if flatW y = true ∧ ws.all flatW = true then (ws.findIdx? fun z => eqF z y).map fun j => (.int (j : Nat), h) else none
    | none => none
  | _ => none
theorem op_index : OpMt K (rIndex K) wIndex := by
  intro f h H x v xs vs Q E s rx rxs p
  unfold wIndex at p
  split at p
  · rename_i y
    obtain ⟨u, rfl, ru⟩ := rxs.one_inv
    split at p
    · rename_i ws e
      split at p
      · rename_i c
        obtain ⟨a, ys, rfl, hs, rr⟩ := lstOf_rep s rx e
        cases ej : ws.findIdx? fun z => eqF z y with
        | none => rw [ej] at p; exact p.elim
        | some j =>
          rw [ej] at p
          obtain ⟨hj, k1, k2⟩ := List.findIdx?_eq_some_iff_getElem.mp ej
          obtain ⟨z, hz, rz⟩ := rr.get (List.getElem?_eq_getElem hj)
          have fl : ∀ i (hi : i < ws.length), flatW ws[i] = true := fun i hi => List.all_eq_true.mp c.2 _ (List.getElem_mem hi)
          refine ⟨a, ys, u, j, z, rfl, rfl, hs, flat_of ru c.1, flats_of rr c.2, hz, ?_, fun m z' hm ez => ?_, .inl (post_ok s p (rep_int.mpr rfl))⟩
          · rw [eqF_of rz ru (fl j hj) c.1]
            exact k1
          · obtain ⟨w, ew, rw'⟩ := rr.getv ez
            have hm2 : m < ws.length := by omega
            rw [List.getElem?_eq_getElem hm2] at ew
            cases ew
            rw [eqF_of rw' ru (fl m hm2) c.1]
            simpa using k2 m hm
      · exact p.elim
    · exact p.elim
  · exact p.elim
end
section
variable {X : Cx} {W0 : WX} {o : Expr} {m : EM} {apos cpos : Pos}
theorem se_index {e1 : Expr} {m1 : EM} (ho : SE X W0 o m) (ha : SE X W0 e1 m1) (hbase : attributeBase o "index" X.env (eval o X.env) = eval o X.env := by rfl)
    (hfew : ((backTo cpos (starEach [e1] X.env)).all (fun x => !x.1) && (backToKw cpos (keywordEach [] X.env)).all (fun x => x.1.isSome)
      && decide (([e1] : List Expr).length + ([] : List Keyword).length + (if ([] : List Keyword).isEmpty then 0 else 1) < 30)) = true := by rfl)
    (hline : (apos.endLine == cpos.line) = true := by rfl) (hs : starEach [e1] X.env = [(false, eval e1 X.env)] := by rfl) : SE X W0 (.Call (.Attribute o "index" apos) [e1] [] cpos) (mMt "list" wIndex m (mCons m1 mNil)) :=
  se_mt PySem.F.plainAttrs_list PySem.F.slot_list_index PySem.F.type_list_index mt_index op_index ho (sa_cons ha sa_nil hs) hbase hfew hline hs
end
section
variable {X : Cx} {W0 : WX} {e o : Expr} {m mo : EM} {p p1 p2 p3 pos apos : Pos} {k : Nat}
/-! ### x[::-1] -/
def mRev (m : EM) : LM := fun ps h => (m ps h).bind fun x h1 => match lstOf x h1 with
  | some ws => .ok ws.reverse h1
  | none => .stuck
theorem sl_rev (ha : SE X W0 e m) : SL X W0 (.Subscript e (.Slice none none (some (.UnaryOp .USub (.Constant (.int 1) k p1) p2)) p3) pos) (mRev m) := pe_imp (pe_revL ha) fun σ H Q h => by
  obtain ⟨f, h, ps, s, sr, p⟩ := h
  refine ⟨f, h, ps, s, sr, (Post.bind (R1 := RW X.K) s back_L p).mono (fun v H1 hh => ?_) fun _ _ _ e => e⟩
  obtain ⟨f1, h1, x, s1, q1, p1⟩ := hh
  split at p1
  · rename_i ws e
    obtain ⟨a, vs, rfl, hs, rr⟩ := lstOf_rep s1.sim q1 e
    refine ⟨a, vs, rfl, hs, fun q hq => ?_⟩
    have st := s1.sim.other (o := .lst vs.reverse) hq
    exact p1 f1 _ _ st ⟨q, _, rfl, hq, s1.sim.fresh hq, upd_same, Reps.mono (.refl f1) (s1.sim.stay st.grow) _ _ rr.reverse⟩
  · exact p1.elim
/-! ### list(range(n)), list(range(a, b)) -/
theorem reps_rg {K : PySem.W.Frag} {f : List Addr} {H : Hp} {a b : Int} : Reps K f H (rangeW a (b - a).toNat) (rgV a b) := by
  unfold rangeW rgV
  generalize List.range (b - a).toNat = l
  induction l with
  | nil => exact .nil
  | cons i r ih => exact .cons (rep_int.mpr rfl) ih
def mListRg1 (m : EM) : LM := fun ps h => (m ps h).bind fun x h1 => match x with
  | .int n => if -1000000 ≤ n ∧ n ≤ 1000000 then .ok (rangeW 0 n.toNat) h1 else .stuck
  | _ => .stuck
theorem sl_listRg1 {pr : Pos} (hc : X.calm = true) (hl : X.mg "list" = none) (hr : X.mg "range" = none) (ha : SE X W0 e m) (hg : Gl X "list" := by rfl) (hg2 : Gl X "range" := by rfl)
    (na : starEach [.Call (.Name "range" p2) [e] [] pr] X.env = (false, eval (.Call (.Name "range" p2) [e] [] pr) X.env) :: starEach [] X.env := by rfl) (nb : starEach [e] X.env = (false, eval e X.env) :: starEach [] X.env := by rfl) :
    SL X W0 (.Call (.Name "list" p) [.Call (.Name "range" p2) [e] [] pr] [] pos) (mListRg1 m) := pe_imp (pe_listRg hc hg hl (prg_1 hg2 hr ha nb) na) fun σ H Q h => by
  obtain ⟨f, h, ps, s, sr, p⟩ := h
  refine ⟨f, h, ps, s, sr, (Post.bind (R1 := RW X.K) s back_L p).mono (fun v H1 hh => ?_) fun _ _ _ e => e⟩
  obtain ⟨f1, h1, x, s1, q1, p1⟩ := hh
  split at p1
  · rename_i n
    split at p1
    · rename_i c
      refine ⟨n, rep_int.mp q1, ⟨by omega, by omega, by omega, by omega, by omega⟩, fun q hq => ?_⟩
      have st := s1.sim.other (o := .lst (rgV 0 n)) hq
      have rr := reps_rg (K := X.K) (f := f1) (H := upd H1 q (.lst (rgV 0 n))) (a := 0) (b := n)
      rw [Int.sub_zero] at rr
      exact p1 f1 _ _ st ⟨q, _, rfl, hq, s1.sim.fresh hq, upd_same, rr⟩
    · exact p1.elim
  · exact p1.elim
end
section
variable {X : Cx} {W0 : WX} {m1 m2 m3 : EM} {pos : Pos}
/-- a, b, c = x, y, z -/
def sPar3 (m1 m2 m3 : EM) (i j l : Nat) : SM := fun ps h => (m1 ps h).thenS ps fun u h1 => (m2 ps h1).thenS ps fun v h2 => (m3 ps h2).thenS ps fun w h3 => .nx (((ps.set i (some u)).set j (some v)).set l (some w)) h3
theorem ss_par3 (i j l : Nat) {x y z : Str} {a b c : Expr} {px py pz pt pt2 : Pos} {kt k2 : Nat} (hN : X.N.Nodup) (ha : SE X W0 a m1) (hb : SE X W0 b m2) (hd : SE X W0 c m3) (hij : i ≠ j := by decide) (hil : i ≠ l := by decide) (hjl : j ≠ l := by decide) (hc : X.calm = true := by rfl)
    (hi : X.N[i]? = some x := by rfl) (hj : X.N[j]? = some y := by rfl) (hl : X.N[l]? = some z := by rfl)
    (hx : X.env.scope.names.lookup x = some .local := by rfl) (hy : X.env.scope.names.lookup y = some .local := by rfl) (hz : X.env.scope.names.lookup z = some .local := by rfl)
    (he : starEach [a, b, c] X.env = (false, eval a X.env) :: starEach [b, c] X.env := by rfl) (he2 : starEach [b, c] X.env = (false, eval b X.env) :: starEach [c] X.env := by rfl) (he3 : starEach [c] X.env = (false, eval c X.env) :: starEach [] X.env := by rfl)
    (hw : swappedStores [.Tuple [.Name x px, .Name y py, .Name z pz] kt pt] (.Tuple [a, b, c] k2 pt2) X.env = pure (some [x, y, z]) := by rfl)
    (hs : swapsWithSole [.Tuple [.Name x px, .Name y py, .Name z pz] kt pt] (.Tuple [a, b, c] k2 pt2) pos.line X.env = pure false := by rfl) :
    SS X W0 (.Assign [.Tuple [.Name x px, .Name y py, .Name z pz] kt pt] (.Tuple [a, b, c] k2 pt2) pos) (sPar3 m1 m2 m3 i j l) :=
  ps_imp (ps_par3 hc hN hi hj hl hij hil hjl hx hy hz (pa_cons ha (pa_cons hb (pa_cons hd pa_nil he3) he2) he) hw hs) fun D σ H h => by
    obtain ⟨f, h, ps, s, sr, p⟩ := h
    refine ⟨f, h, ps, s, sr, (PostS.bind (R1 := RW X.K) s sr p).mono (fun v1 H1 hh => ?_) fun _ _ _ e => e⟩
    obtain ⟨f1, h1, x1, s1, sr1, q1, p1⟩ := hh
    refine ⟨f1, h1, ps, s1.sim, sr1, (PostS.bind (R1 := RW X.K) s1.sim sr1 p1).mono (fun v2 H2 hh => ?_) fun _ _ _ e => e⟩
    obtain ⟨f2, h2, x2, s2, sr2, q2, p2⟩ := hh
    refine ⟨f2, h2, ps, s2.sim, sr2, (PostS.bind (R1 := RW X.K) s2.sim sr2 p2).mono (fun v3 H3 hh => ?_) fun _ _ _ e => e⟩
    obtain ⟨f3, h3, x3, s3, sr3, q3, p3⟩ := hh
    exact ⟨v1, v2, v3, rfl, p3 f3 H3 _ (.refl s3.sim) (((sr3.set i (s3.rep s2.sim (s2.rep s1.sim q1))).set j (s3.rep s2.sim q2)).set l q3)⟩
@[simp] theorem to_par3 {i j l : Nat} {ps : LS} {h : PH} {N B C : LS → PH → Prop} {R : W → PH → Prop} : (sPar3 m1 m2 m3 i j l ps h).To N R B C = (m1 ps h).To fun x h1 => (m2 ps h1).To fun y h2 => (m3 ps h2).To fun z h3 => N (((ps.set i (some x)).set j (some y)).set l (some z)) h3 := by
  simp [sPar3]
end
end Mir

/-! Mir: dict of a list of pairs -/
namespace Mir
open PySem PySem.Spec PyProof.Rows L2
def pairsK : List W → Option (List (Key × W))
  | [] => some []
  | .tup [k, v] :: r => match keyW k, pairsK r with
    | some k, some s => some ((k, v) :: s)
    | _, _ => none
  | _ => none
def wDictP (x : W) (h : PH) : Option (W × PH) := match lstOf x h with
  | some ws => (pairsK ws).map fun kvs => (.ref h.length, h ++ [.dK (mergeW [] kvs)])
  | none => none
section
variable {K : PySem.W.Frag}
def rDictP (K : PySem.W.Frag) : List V → Hp → VK → Prop := fun xs H Q => ∃ (a : Addr) (ps : List Addr) (kvs : List (Key × V)), xs = [.ref a] ∧ SqL K H a (ps.map V.ref) ∧ Paired (fun p kv => SqT K H p [kV kv.1, kv.2]) ps kvs ∧
    ∀ p, H p = none → Q (.ref p) (upd H p (.dK (mergeK [] kvs)))
theorem pairs_repK {f : List Addr} {H : Hp} : ∀ {ws : List W} {ys : List V} {kws : List (Key × W)}, pairsK ws = some kws → Reps K f H ws ys →
    ∃ (ps : List Addr) (us : List (Key × V)), ys = ps.map V.ref ∧ Paired (fun p kv => SqT K H p [kV kv.1, kv.2]) ps us ∧ KRep K f H kws us
  | [], ys, kws, e, r => by
    cases e
    have := r.nil_inv
    subst this
    exact ⟨[], [], rfl, .nil, rfl⟩
  | w :: t, ys, kws, e, r => by
    unfold pairsK at e
    split at e
    · rename_i z
      cases z
    · rename_i k v t' hw
      obtain ⟨rfl, rfl⟩ := List.cons.inj hw
      split at e
      · rename_i k' s ek es
        cases e
        obtain ⟨y, ys', rfl, ry, rt⟩ := r.cons_inv
        obtain ⟨ps, us, rfl, hp, kr⟩ := pairs_repK es rt
        obtain ⟨a, vs, rfl, h1, h2⟩ := rep_tup.mp ry
        obtain ⟨v1, t1, rfl, a1, a2⟩ := h2.cons_inv
        obtain ⟨v2, rfl, b1⟩ := a2.one_inv
        rw [key_rep ek a1] at h1
        exact ⟨a :: ps, (k', v2) :: us, rfl, .cons h1 hp, v2, us, rfl, b1, kr⟩
      · cases e
    · cases e
theorem q_dictP : OpV K (RW K) (rDictP K) wDictP := by
  intro f h H x v Q E s r p
  unfold wDictP at p
  split at p
  · rename_i ws e
    obtain ⟨a, ys, rfl, hs, rr⟩ := lstOf_rep s r e
    cases ek : pairsK ws with
    | none => rw [ek] at p; exact p.elim
    | some kws =>
      rw [ek] at p
      obtain ⟨ps, us, rfl, hp, kr⟩ := pairs_repK ek rr
      refine ⟨a, ps, us, rfl, hs, hp, fun q hq => ?_⟩
      have st := s.other (o := .dK (mergeK [] us)) hq
      refine p (f ++ [q]) _ _ (st.take_in hq (s.fresh hq) ⟨_, upd_same, KRep.mono (.refl f) (s.stay st.grow) _ _ (merge_rep kr rfl)⟩) ?_
      simp only [Rep]
      refine ⟨q, rfl, ?_⟩
      rw [List.getElem?_append_right (by rw [s.len]; omega), s.len]
      simp
  · exact p.elim
end
section
variable {Q : W → PH → Prop} {h : PH}
@[simp] theorem to_dictP {ws : List W} : PTo (wDictP (.fix ws) h) Q = OTo (pairsK ws) fun kvs => Q (.ref h.length) (h ++ [.dK (mergeW [] kvs)]) := by
  simp only [wDictP, lstOf_fix]
  cases pairsK ws <;> simp
end
end Mir

/-! Mir: dicts that are walked: locked on the way -/
namespace Mir
open PySem PySem.Spec PyProof.Rows L2
section
variable {K : PySem.W.Frag} {f f1 : List Addr} {h h1 : PH} {H H1 : Hp} {d : Addr} {od : Obj} {n : Nat}
theorem stay_lockD {us : List (Key × V)} (e : H d = some (.dK us)) : Stay K H (upd H d (.frz od (.dK us))) := by
  have key : ∀ a u, H a = some u → (∀ xs, u ≠ .dK xs) → upd H d (.frz od (.dK us)) a = some u := fun a u e2 n => by
    rw [upd_ne (fun z => by subst z; rw [e] at e2; cases e2; exact n _ rfl)]
    exact e2
  refine ⟨fun a xs r => ?_, fun a xs r => ?_, fun a φ r => key _ _ r (fun _ z => by cases z), fun a gs r => key _ _ r (fun _ z => by cases z)⟩
  · rcases r with (r | ⟨o, r⟩) | r
    · exact .inl (.inl (key _ _ r (fun _ z => by cases z)))
    · exact .inl (.inr ⟨o, key _ _ r (fun _ z => by cases z)⟩)
    · exact .inr r
  · rcases r with ⟨o, r⟩ | r
    · exact .inl ⟨o, key _ _ r (fun _ z => by cases z)⟩
    · exact .inr r
theorem stay_freeD {us us' : List (Key × V)} (e : H d = some (.frz od (.dK us))) : Stay K H (upd H d (.dK us')) := by
  have key : ∀ a u, H a = some u → (∀ o xs, u ≠ .frz o (.dK xs)) → upd H d (.dK us') a = some u := fun a u e2 n => by
    rw [upd_ne (fun z => by subst z; rw [e] at e2; cases e2; exact n _ _ rfl)]
    exact e2
  refine ⟨fun a xs r => ?_, fun a xs r => ?_, fun a φ r => key _ _ r (fun _ _ z => by cases z), fun a gs r => key _ _ r (fun _ _ z => by cases z)⟩
  · rcases r with (r | ⟨o, r⟩) | r
    · exact .inl (.inl (key _ _ r (fun _ _ z => by cases z)))
    · exact .inl (.inr ⟨o, key _ _ r (fun _ _ z => by cases z)⟩)
    · exact .inr r
  · rcases r with ⟨o, r⟩ | r
    · exact .inl ⟨o, key _ _ r (fun _ _ z => by cases z)⟩
    · exact .inr r
theorem Sim.lockD {kvs : List (Key × W)} {us : List (Key × V)} (s : Sim K f h H) (hf : f[n]? = some d) (e : H d = some (.dK us)) (r : KRep K f H kvs us) : Sim K f (h.set n (.lk kvs)) (upd H d (.frz od (.dK us))) := by
  have st : Stay K H (upd H d (.frz od (.dK us))) := stay_lockD e
  refine ⟨by rw [List.length_set]; exact s.len, s.nd, fun m o em => ?_⟩
  by_cases hm : n = m
  · subst hm
    have hl : n < h.length := by rw [← s.len]; exact (List.getElem?_eq_some_iff.mp hf).1
    rw [List.getElem?_set_self hl] at em
    cases em
    exact ⟨d, hf, od, us, upd_same, KRep.mono (.refl f) st _ _ r⟩
  · rw [List.getElem?_set_ne hm] at em
    obtain ⟨b, h1, h2⟩ := s.obj m o em
    exact ⟨b, h1, h2.mono (.refl f) st (upd_ne fun z => hm (nd_inj s.nd hf (z ▸ h1)))⟩
theorem Step.freeD {us : List (Key × V)} {kvs : List (Key × W)} (hf : f[n]? = some d) (e : H d = some (.dK us)) (st : Step K f (upd H d (.frz od (.dK us))) f1 h1 H1) (en : h1[n]? = some (.lk kvs)) : H1 d = some (.frz od (.dK us)) ∧ Step K f H f1 (h1.set n (.dK kvs)) (upd H1 d (.dK us)) := by
  have e1 : H1 d = some (.frz od (.dK us)) := st.lk _ _ _ upd_same
  have hd : d ∈ f := List.mem_of_getElem? hf
  have hf1 : f1[n]? = some d := st.ext.get hf
  have sty : Stay K H1 (upd H1 d (.dK us)) := stay_freeD e1
  refine ⟨e1, st.ext, fun x hx hn => ?_, fun a u ea na => ?_, fun a o vs ea => ?_, by rw [List.length_set]; exact st.sim.len, st.sim.nd, fun m o em => ?_⟩
  · have := st.new x hx hn
    rwa [upd_ne (fun z => hn (by rw [z]; exact hd))] at this
  · have hne : a ≠ d := fun z => na (z ▸ hd)
    rw [upd_ne hne]
    exact st.grow a u (by rw [upd_ne hne]; exact ea) na
  · have hne : a ≠ d := fun z => by rw [z, e] at ea; cases ea
    rw [upd_ne hne]
    exact st.lk a o vs (by rw [upd_ne hne]; exact ea)
  · by_cases hm : n = m
    · subst hm
      have hl : n < h1.length := by rw [← st.sim.len]; exact (List.getElem?_eq_some_iff.mp hf1).1
      rw [List.getElem?_set_self hl] at em
      cases em
      obtain ⟨b, b1, o', us', b2, b3⟩ := st.sim.obj n _ en
      rw [hf1] at b1
      cases b1
      rw [e1] at b2
      cases b2
      exact ⟨d, hf1, us, upd_same, KRep.mono (.refl f1) sty _ _ b3⟩
    · rw [List.getElem?_set_ne hm] at em
      obtain ⟨b, b1, b2⟩ := st.sim.obj m o em
      exact ⟨b, b1, b2.mono (.refl f1) sty (upd_ne fun z => hm (nd_inj st.sim.nd hf1 (z ▸ b1)))⟩
end
/-- a list that is made while the dict that `look` names is walked -/
def lkL (look : LS → PH → Option Nat) (l : LM) : LM := fun ps h => match look ps h with
  | some n => match h[n]? with
    | some (.dK kvs) => match l ps (h.set n (.lk kvs)) with
      | .ok xs h1 => match h1[n]? with
        | some (.lk kvs') => .ok xs (h1.set n (.dK kvs'))
        | _ => .stuck
      | _ => .stuck
    | _ => .stuck
  | none => .stuck
theorem sl_lock {X : Cx} {W0 : WX} {e : Expr} {l : LM} (look : LS → PH → Option Nat) (ha : SL X W0 e l) : SL X W0 e (lkL look l) := pe_imp (pe_lock ha) fun σ H Q h => by
  obtain ⟨f, h, ps, s, sr, p⟩ := h
  unfold lkL at p
  split at p
  · rename_i n _
    split at p
    · rename_i kvs en
      split at p
      · rename_i xs h1 el
        split at p
        · rename_i kvs' en'
          obtain ⟨d, hf, us, e1, r1⟩ := s.obj n _ en
          refine ⟨d, .dK us, e1, trivial, fun od => ⟨f, h.set n (.lk kvs), ps, s.lockD hf e1 r1, sr.mono (.refl f) (stay_lockD e1), ?_⟩⟩
          rw [el]
          intro f1 H1 v s1 q1
          obtain ⟨k1, k2⟩ := s1.freeD hf e1 en'
          refine ⟨k1, p f1 _ v k2 ?_⟩
          obtain ⟨q, vs, rfl, hq, nq, eq, rq⟩ := q1
          have hne : q ≠ d := fun z => by rw [z, upd_same] at hq; cases hq
          refine ⟨q, vs, rfl, by rwa [upd_ne hne] at hq, nq, by rw [upd_ne hne]; exact eq, Reps.mono (.refl f1) (stay_freeD k1) _ _ rq⟩
        · exact p.elim
      · exact p.elim
    · exact p.elim
  · exact p.elim
/-- the dict in a slot -/
def lkV (i : Nat) : LS → PH → Option Nat := fun ps _ => match ps[i]? with
  | some (some (.ref n)) => some n
  | _ => none
/-- the dict in a field of the object in a slot -/
def lkF (i : Nat) (f : Str) : LS → PH → Option Nat := fun ps h => match ps[i]? with
  | some (some (.ref n)) => match h[n]? with
    | some (.ins _ fs) => match fs.lookup f with
      | some (.ref m) => some m
      | _ => none
    | _ => none
  | _ => none
/-- for k, v in d.items() -/
def itemsOf (x : W) (h : PH) : Option PIt := match x with
  | .ref n => match h[n]? with
    | some (.lk kvs) => some (itS (kvs.map fun p => .tup [wKey p.1, p.2]))
    | _ => none
  | _ => none
def mItems (m : EM) : IM := fun ps h => (m ps h).bind fun x h1 => match itemsOf x h1 with
  | some it => .ok it h1
  | none => .stuck
section
variable {X : Cx} {W0 : WX} {e tg : Expr} {m : EM} {apos cpos tpos : Pos} {elts : List Expr} {kk : Nat} {K : PySem.W.Frag}
theorem it_items {f : List Addr} {h : PH} {H H0 : Hp} {d : Addr} {o : Obj} {us : List (Key × V)} {kvs : List (Key × W)} (s : Sim K f h H) (hd : H d = some (.frz o (.dK us))) (r : KRep K f H kvs us) : RIt K H0 f H (itS (kvs.map fun p => .tup [wKey p.1, p.2])) (Iti d o us) := by
  intro f2 h2 H2 i s2
  have q2 := s2.lk _ _ _ hd
  have r2 : KRep K f2 H2 kvs us := KRep.mono s2.ext (s2.stay s) _ _ r
  show match (some (kvs.map fun p => W.tup [wKey p.1, p.2])[i]? : Option (Option W)) with
    | none => True
    | some none => (Iti d o us).stop i H2
    | some (some w) => (Iti d o us).go i H2 ∧ ∀ x H', (Iti d o us).yld i H2 x H' → Step K f2 H2 f2 h2 H' ∧ Rep K f2 H' w x
  rw [List.getElem?_map]
  cases e : kvs[i]? with
  | none => exact ⟨q2, by rw [← r.length]; exact List.getElem?_eq_none_iff.mp e⟩
  | some w =>
    obtain ⟨k, w⟩ := w
    refine ⟨⟨q2, by rw [← r.length]; exact (List.getElem?_eq_some_iff.mp e).1⟩, fun x H' y => ?_⟩
    obtain ⟨T, k', v', e', rfl, hT, rfl⟩ := y
    obtain ⟨v, ev, rv⟩ := r2.getK e
    rw [ev] at e'
    obtain ⟨g1, g2⟩ := Prod.mk.inj (Option.some.inj e')
    subst g1
    subst g2
    have st := s2.sim.other (o := .tup [kV k, v]) hT
    exact ⟨st, rep_tup.mpr ⟨T, _, rfl, SqT.of upd_same, .cons rep_key (.one (st.rep s2.sim rv))⟩⟩
theorem si_items (ha : SE X W0 e m) (hbase : attributeBase e "items" X.env (eval e X.env) = eval e X.env := by rfl) (hline : (apos.endLine == cpos.line) = true := by rfl) :
    SI X W0 (.Tuple elts kk tpos) (.Call (.Attribute e "items" apos) [] [] cpos) (mItems m) := pi_imp (pi_items ha hbase hline) fun σ H R h => by
  obtain ⟨f, h, ps, s, sr, p⟩ := h
  refine ⟨f, h, ps, s, sr, ?_⟩
  have p : Post X.K (RIt X.K) f H ((m ps h).bind _) R _ := p
  cases e1 : m ps h with
  | stuck => rw [e1] at p; exact p.elim
  | exc x h1 => rw [e1] at p; exact p
  | ok x h1 =>
    rw [e1] at p
    intro f1 H1 v s1 q1
    have p : Post X.K (RIt X.K) f H (match itemsOf x h1 with
      | some it => .ok it h1
      | none => .stuck) R _ := p
    cases x with
    | ref n =>
      cases e2 : h1[n]? with
      | none => simp only [itemsOf, e2] at p; exact p.elim
      | some o =>
        cases o with
        | lk kvs =>
          simp only [itemsOf, e2] at p
          obtain ⟨a, rfl, hf, o, vs, h2, h3⟩ := s1.sim.at e2 q1
          exact ⟨a, o, vs, rfl, h2, p f1 H1 _ s1 (it_items s1.sim h2 h3)⟩
        | _ => simp only [itemsOf, e2] at p; exact p.elim
    | _ => exact p.elim
end
section
variable {ps : LS} {h : PH} {Ql : List W → PH → Prop} {Qi : PIt → PH → Prop} {l : LM} {m : EM} {n : Nat} {look : LS → PH → Option Nat}
theorem to_lock {kvs : List (Key × W)} (e : look ps h = some n) (en : h[n]? = some (.dK kvs)) (q : (l ps (h.set n (.lk kvs))).To fun xs g => ∃ kvs', g[n]? = some (.lk kvs') ∧ Ql xs (g.set n (.dK kvs'))) : (lkL look l ps h).To Ql := by
  obtain ⟨xs, g, e1, kvs', e2, e3⟩ := q.is
  unfold lkL
  rw [e]
  simp only [en, e1, e2, to_ok]
  exact e3
@[simp] theorem to_items : (mItems m ps h).To Qi = (m ps h).To fun x g => OTo (itemsOf x g) fun it => Qi it g := by
  simp only [mItems, to_bind]
  congr 1
  funext x g
  cases itemsOf x g <;> simp
theorem items_lk {kvs : List (Key × W)} {g : PH} (e : g[n]? = some (.lk kvs)) : itemsOf (.ref n) g = some (itS (kvs.map fun p => .tup [wKey p.1, p.2])) := by simp only [itemsOf, e]
theorem keys_lk {kvs : List (Key × W)} {g : PH} {fuel : Nat} (e : g[n]? = some (.lk kvs)) : iterOf fuel (.ref n) g = some (itS (kvs.map fun p => wKey p.1)) := by simp only [iterOf, e]
end
end Mir

/-! Mir: zip of two -/
namespace Mir
open PySem PySem.Spec PyProof.Rows L2 RZ
def lstIt (fuel : Nat) (x : W) (h : PH) : Option PIt := match x with
  | .fix xs => some (itS xs)
  | .ref n => match h[n]? with
    | some (.lst _) => some (itL n fuel)
    | _ => none
  | _ => none
def zipOf (fuel : Nat) (x y : W) (h : PH) : Option PIt := match x, y with
  | .tup xs, .tup ys => some (itZ (itS xs) (itS ys))
  | x, y => match lstIt fuel x h, lstIt fuel y h with
    | some a, some b => some (itZ a b)
    | _, _ => none
def mZipA (fuel : Nat) (m n : EM) : IM := fun ps h => (m ps h).bind fun x h1 => (n ps h1).bind fun y h2 => match zipOf fuel x y h2 with
  | some it => .ok it h2
  | none => .stuck
section
variable {K : PySem.W.Frag} {X : Cx} {W0 : WX} {e e2 : Expr} {m m2 : EM} {p pos tpos : Pos} {elts : List Expr} {kk : Nat}
theorem itZ_t {f : List Addr} {H H0 : Hp} {a b : Addr} {ia ib : PIt} (ha : RIt K H0 f H ia (Itt K a)) (hb : RIt K H0 f H ib (Itt K b)) : RIt K H0 f H (itZ ia ib) (ItzT K a b) := by
  intro f2 h2 H2 i s2
  have qa := ha f2 h2 H2 i s2
  have qb := hb f2 h2 H2 i s2
  unfold itZ
  dsimp only
  cases ea : ia.get i h2 with
  | none => trivial
  | some oa =>
    rw [ea] at qa
    cases eb : ib.get i h2 with
    | none => cases oa <;> trivial
    | some ob =>
      rw [eb] at qb
      cases oa with
      | none =>
        obtain ⟨xs, x1, x2⟩ := qa
        cases ob with
        | none =>
          obtain ⟨ys, y1, y2⟩ := qb
          exact ⟨xs, ys, x1, y1, .inl x2⟩
        | some y =>
          obtain ⟨⟨ys, v, y1, y2⟩, _⟩ := qb
          exact ⟨xs, ys, x1, y1, .inl x2⟩
      | some x =>
        obtain ⟨⟨xs, u, x1, x2⟩, x3⟩ := qa
        cases ob with
        | none =>
          obtain ⟨ys, y1, y2⟩ := qb
          exact ⟨xs, ys, x1, y1, .inr y2⟩
        | some y =>
          obtain ⟨⟨ys, v, y1, y2⟩, y3⟩ := qb
          refine ⟨⟨xs, ys, u, v, x1, y1, x2, y2⟩, fun z H' q => ?_⟩
          obtain ⟨T, u', v', rfl, hT, rfl, q1, q2⟩ := q
          have r1 := (x3 u' H2 ⟨rfl, q1⟩).2
          have r2 := (y3 v' H2 ⟨rfl, q2⟩).2
          have st := s2.sim.other (o := .tup [u', v']) hT
          exact ⟨st, rep_tup.mpr ⟨T, _, rfl, SqT.of upd_same, .cons (st.rep s2.sim r1) (.one (st.rep s2.sim r2))⟩⟩
theorem itZ_l {f : List Addr} {H H0 : Hp} {a b : Addr} {ia ib : PIt} (ha : RIt K H0 f H ia (Itl K a)) (hb : RIt K H0 f H ib (Itl K b)) : RIt K H0 f H (itZ ia ib) (Itz K a b) := by
  intro f2 h2 H2 i s2
  have qa := ha f2 h2 H2 i s2
  have qb := hb f2 h2 H2 i s2
  unfold itZ
  dsimp only
  cases ea : ia.get i h2 with
  | none => trivial
  | some oa =>
    rw [ea] at qa
    cases eb : ib.get i h2 with
    | none => cases oa <;> trivial
    | some ob =>
      rw [eb] at qb
      cases oa with
      | none =>
        obtain ⟨xs, x1, x2⟩ := qa
        cases ob with
        | none =>
          obtain ⟨ys, y1, y2⟩ := qb
          exact ⟨xs, ys, x1, y1, .inl x2⟩
        | some y =>
          obtain ⟨⟨ys, v, y1, y2⟩, _⟩ := qb
          exact ⟨xs, ys, x1, y1, .inl x2⟩
      | some x =>
        obtain ⟨⟨xs, u, x1, x2⟩, x3⟩ := qa
        cases ob with
        | none =>
          obtain ⟨ys, y1, y2⟩ := qb
          exact ⟨xs, ys, x1, y1, .inr y2⟩
        | some y =>
          obtain ⟨⟨ys, v, y1, y2⟩, y3⟩ := qb
          refine ⟨⟨xs, ys, u, v, x1, y1, x2, y2⟩, fun z H' q => ?_⟩
          obtain ⟨T, u', v', rfl, hT, rfl, q1, q2⟩ := q
          have r1 := (x3 u' H2 ⟨rfl, q1⟩).2
          have r2 := (y3 v' H2 ⟨rfl, q2⟩).2
          have st := s2.sim.other (o := .tup [u', v']) hT
          exact ⟨st, rep_tup.mpr ⟨T, _, rfl, SqT.of upd_same, .cons (st.rep s2.sim r1) (.one (st.rep s2.sim r2))⟩⟩
theorem lstIt_rep {f : List Addr} {h : PH} {H H0 : Hp} {fuel : Nat} {x : W} {v : V} {it : PIt} (s : Sim K f h H) (r : Rep K f H x v) (e : lstIt fuel x h = some it) : ∃ a xs, v = .ref a ∧ SqL K H a xs ∧ RIt K H0 f H it (Itl K a) := by
  cases x with
  | fix xs =>
    cases e
    obtain ⟨a, vs, rfl, h2, h3⟩ := rep_fix.mp r
    exact ⟨a, vs, rfl, h2.seq, it_lst s (fix_later s h2) h3⟩
  | ref n =>
    simp only [lstIt] at e
    split at e
    · rename_i xs en
      cases e
      obtain ⟨a, rfl, hf, vs, h2, h3⟩ := s.at en r
      exact ⟨a, vs, rfl, SqL.of h2, it_live hf⟩
    · cases e
  | _ => cases e
theorem si_zipA (fuel : Nat) (hm : X.mg "zip" = none) (ha : SE X W0 e m) (hb : SE X W0 e2 m2) (hg : Gl X "zip" := by rfl) (hs : starEach [e, e2] X.env = (false, eval e X.env) :: starEach [e2] X.env := by rfl) (hs2 : starEach [e2] X.env = [(false, eval e2 X.env)] := by rfl) :
    SI X W0 (.Tuple elts kk tpos) (.Call (.Name "zip" p) [e, e2] [] pos) (mZipA fuel m m2) := pi_imp (pi_zipA hg hm (pa_cons ha (pa_cons hb pa_nil hs2) hs) hs (by rw [hs2]; rfl)) fun σ H R h => by
  obtain ⟨f, h, ps, s, sr, p⟩ := h
  refine ⟨f, h, ps, s, sr, (Post.bind (R1 := RW X.K) s back_It p).mono (fun v H1 hh => ?_) fun _ _ _ e => e⟩
  obtain ⟨f1, h1, x, s1, q1, p1⟩ := hh
  refine ⟨f1, h1, ps, s1.sim, s1.srep s sr, (Post.bind (R1 := RW X.K) s1.sim back_It p1).mono (fun u H2 hh => ?_) fun _ _ _ e => e⟩
  obtain ⟨f2, h2, y, s2, q2, p2⟩ := hh
  have q1 := s2.rep s1.sim q1
  cases ez : zipOf fuel x y h2 with
  | none => rw [ez] at p2; exact p2.elim
  | some it =>
    rw [ez] at p2
    by_cases ht : ∃ xs ys, x = .tup xs ∧ y = .tup ys
    · obtain ⟨xs, ys, rfl, rfl⟩ := ht
      cases ez
      obtain ⟨a, vs, rfl, a2, a3⟩ := rep_tup.mp q1
      obtain ⟨b, us, rfl, b2, b3⟩ := rep_tup.mp q2
      exact ⟨a, b, vs, us, rfl, .inr ⟨a2, b2, p2 f2 H2 _ (.refl s2.sim) (itZ_t (it_tup s2.sim a2 a3) (it_tup s2.sim b2 b3))⟩⟩
    · have ez : (match lstIt fuel x h2, lstIt fuel y h2 with
        | some a, some b => some (itZ a b)
        | _, _ => none) = some it := by
        unfold zipOf at ez
        split at ez
        · exact absurd ⟨_, _, rfl, rfl⟩ ht
        · exact ez
      split at ez
      · rename_i ia ib ea eb
        cases ez
        obtain ⟨a, xs, rfl, a2, a3⟩ := lstIt_rep s2.sim q1 ea
        obtain ⟨b, ys, rfl, b2, b3⟩ := lstIt_rep s2.sim q2 eb
        exact ⟨a, b, xs, ys, rfl, .inl ⟨a2, b2, p2 f2 H2 _ (.refl s2.sim) (itZ_l a3 b3)⟩⟩
      · cases ez
end
section
variable {ps : LS} {h : PH} {Qi : PIt → PH → Prop} {m m2 : EM} {n : Nat}
@[simp] theorem to_zipA : (mZipA n m m2 ps h).To Qi = (m ps h).To fun x g => (m2 ps g).To fun y g => OTo (zipOf n x y g) fun it => Qi it g := by
  simp only [mZipA, to_bind]
  congr 1
  funext x g
  congr 1
  funext y g
  cases zipOf n x y g <;> simp
@[simp] theorem zip_tup {xs ys : List W} : zipOf n (.tup xs) (.tup ys) h = some (itZ (itS xs) (itS ys)) := rfl
end
end Mir

/-! Mir: x[::-1] of a tuple or a list, as a value. -/
namespace Mir
open PySem PySem.Spec PyProof.Rows L2
section
variable {prog : Program} {w : World} {A : Around} {E : Value → Shared → Prop} {s : Shared}
theorem places_rev (n : Nat) : Builtin.Slice.slicePlaces ((n : Int) - 1) (-1) (-1) = n := by
  unfold Builtin.Slice.slicePlaces
  have h1 : ¬ ((-1 : Int) > 0) := by decide
  simp only [h1, if_false]
  by_cases h : (n : Int) - 1 > -1
  · simp only [h, if_true]
    rw [show (- -1 : Int) = 1 by decide, Int.ediv_one]
    omega
  · simp only [h, if_false]
    omega
theorem sliceApplied_rev {sl : Addr} {vl vu vs : Value} {n : Nat} {Q : Int × Int × Nat → Shared → Prop} (hs : s.heap.IsSliceOf sl vl vu vs) (pl : IsPart vl none) (pu : IsPart vu none) (ps : IsPart vs (some (-1)))
    (h : Q ((n : Int) - 1, -1, n) s) : wpAny (model prog w) A (Builtin.Slice.sliceApplied (.ref sl) (pure (n : Int))) Q E s := by
  obtain ⟨os, hos, hcs, hds⟩ := id hs
  unfold Builtin.Slice.sliceApplied Builtin.Slice.sliceFields
  refine wpAny_bind (wpAny_bind (wpAny_field hos hds (x := vl) rfl (wpAny_bind (wpAny_field hos hds (x := vu) rfl (wpAny_bind (wpAny_field hos hds (x := vs) rfl (wpAny_pure ?_)))))))
  refine wpAny_bind (HT.slicePart_ ps ?_)
  show wpAny _ _ (if ((-1 : Int) == 0) = true then _ else _) _ _ s
  rw [if_neg (by decide)]
  refine wpAny_bind (HT.slicePart_ pl (wpAny_bind (HT.slicePart_ pu (wpAny_bind (wpAny_pure ?_)))))
  show wpAny _ _ (match Builtin.Slice.sliceAdjust none none (-1) (n : Int) with | (lo, hi) => pure (lo, (-1 : Int), Builtin.Slice.slicePlaces lo hi (-1))) _ _ s
  show wpAny _ _ (pure ((n : Int) - 1, (-1 : Int), Builtin.Slice.slicePlaces ((n : Int) - 1) (-1) (-1))) _ _ s
  rw [places_rev]
  exact wpAny_pure h
theorem pick_rev (xs : Array Value) : ((List.range xs.size).filterMap fun (m : Nat) => xs[(((xs.size : Int) - 1) + (m : Int) * (-1)).toNat]?).toArray = xs.toList.reverse.toArray := by
  have e : (fun (m : Nat) => xs[(((xs.size : Int) - 1) + (m : Int) * (-1)).toNat]?) = fun m => xs[(fun k => xs.size - 1 - k) m]? := by
    funext m
    have : (((xs.size : Int) - 1) + (m : Int) * (-1)).toNat = xs.size - 1 - m := by omega
    rw [this]
  rw [e]
  have e2 : (List.range xs.size).filterMap (fun m => xs[(fun k => xs.size - 1 - k) m]?) = ((List.range xs.size).map fun k => xs.size - 1 - k).filterMap (xs[·]?) := by
    rw [List.filterMap_map]
    rfl
  rw [e2, PySem.W.krv_range, List.filterMap_reverse, PySem.W.krv_all]
theorem getItem_tuple_rev {t sl : Addr} {items : Array Value} {vl vu vs : Value} {Q : Value → Shared → Prop} (ht : IsTup s.heap t items) (hs : s.heap.IsSliceOf sl vl vu vs) (pl : IsPart vl none) (pu : IsPart vu none) (ps : IsPart vs (some (-1)))
    (h : Q (.ref s.heap.objs.size) { s with heap := s.heap.push { cls := .type "tuple", data := .seq items.toList.reverse.toArray } })
    (hsz : items.size ≤ sizeLine) : wpAny (model prog w) A (getItem (.ref t) (.ref sl)) Q E s := by
  have htake : sizeOk (.seq items.toList.reverse.toArray) := by
    show items.toList.reverse.toArray.size ≤ sizeLine
    rw [List.size_toArray, List.length_reverse, Array.length_toList]
    exact hsz
  obtain ⟨os, hos, hcs, hds⟩ := id hs
  have hTs : s.TypeIs (.ref sl) "slice" := ⟨os, hos, hcs⟩
  unfold getItem
  try with_reducible refine wpAny_holding ?_
  first | refine wpAny_bind (wpAny_pure ?_) | skip
  refine wpAny_bind (wpAny_sequenceKey ht.typeIs (by decide) ?_)
  refine wpAny_bind (wpAny_callSpecial?_slot (name := Str.ofString "__getitem__") ht.typeIs PyProof.Rows.slot_tuple_getitem
    (wpAny_call_entry PyProof.Rows.slot_tuple_getitem ht.typeIs entry_tuple_getitem ?_ (args_tuple_getitem _ _)))
  show wpAny _ _ (Builtin.Tuple.tupleItemsOf (.ref t) >>= _) _ _ s
  refine wpAny_bind (tupleItemsOf_ ht ?_)
  refine wpAny_bind (wpAny_typeOf hTs ?_)
  rw [if_pos (by decide)]
  refine wpAny_bind (sliceApplied_rev (n := items.size) hs pl pu ps ?_)
  have hno : ¬ (((((items.size : Int) - 1)) == 0 && (-1 : Int) == 1 && items.size == items.size) = true) := by
    intro q
    rw [Bool.and_eq_true, Bool.and_eq_true] at q
    exact absurd q.1.2 (by decide)
  show wpAny _ _ (if (((items.size : Int) - 1) == 0 && (-1 : Int) == 1 && items.size == items.size) = true then _ else _) _ _ s
  rw [if_neg hno, pick_rev]
  first
    | exact wpAny_bind (m := Builtin.Tuple.tupleExact _) (wpAny_newObj_type (wpAny_pure ⟨_, rfl, wpAny_pure h⟩) htake)
    | exact wpAny_bind (m := Builtin.Tuple.tupleExact _) (wpAny_newObj_type (wpAny_bind (wpAny_pure (wpAny_pure ⟨_, rfl, wpAny_pure h⟩))) htake)
    | exact wpAny_bind (wpAny_bind (m := Builtin.Tuple.tupleExact _) (wpAny_newObj_type (wpAny_pure (wpAny_pure ⟨_, rfl, wpAny_pure h⟩)) htake))
    | exact wpAny_bind (wpAny_bind (m := Builtin.Tuple.tupleExact _) (wpAny_newObj_type (wpAny_pure ⟨_, rfl, wpAny_pure h⟩) htake))
end
section
variable {X : Cx}
def tRevA (K : PySem.W.Frag) (te : TE) : TE := fun σ H Q => te σ H fun x H1 => ∃ a xs, x = .ref a ∧ ((SqL K H1 a xs ∧ ∀ p, H1 p = none → Q (.ref p) (upd H1 p (.lst xs.reverse))) ∨ (SqT K H1 a xs ∧ ∀ p, H1 p = none → Q (.ref p) (upd H1 p (.tup xs.reverse))))
theorem pe_revA {e : Expr} {te : TE} {k : Nat} {p1 p2 p3 pos : Pos} (he : PE X e te) : PE X (.Subscript e (.Slice none none (some (.UnaryOp .USub (.Constant (.int 1) k p1) p2)) p3) pos) (tRevA X.K te) := by
  refine ⟨fun pins s σ H Q I h => ?_⟩
  refine Subscript_ (thn (he.run pins s σ H _ I h) fun v s1 ⟨x, H1, I1, r1, q1⟩ => ?_)
  obtain ⟨a, xs, ex, q⟩ := q1
  subst ex
  cases r1
  have hst : PO X (some (.UnaryOp .USub (.Constant (.int 1) k p1) p2)) (tPart (tUn (rU fun i => .int (-i)) (tC (.int 1)))) := po_some (pe_un un_neg pe_int)
  refine wpAny_Slice (thn (po_none.run pins s1 σ H1 (fun o H2 => o = none ∧ H2 = H1) I1 ⟨rfl, rfl⟩) fun vl s2 ⟨l, H2, I2, pl, el, e2⟩ => ?_)
  subst el e2
  refine thn (po_none.run pins s2 σ H2 (fun o H3 => o = none ∧ H3 = H2) I2 ⟨rfl, rfl⟩) fun vu s3 ⟨u, H3, I3, pu, eu, e3⟩ => ?_
  subst eu e3
  refine thn (hst.run pins s3 σ H3 (fun o H4 => o = some (-1) ∧ H4 = H3) I3 ⟨1, rfl, -1, rfl, rfl, rfl⟩) fun vs s4 ⟨o, H4, I4, ps, eo, e4⟩ => ?_
  subst eo e4
  have I5 : Inv X pins σ H4 { s4 with heap := s4.heap.push { cls := .type "slice", data := .fields #[vl, vu, vs] } } := I4.kept (t' := s4.toks) fun b ob q => Heap.get?_push_of_some _ q
  show wpAny (model X.prog X.w) X.A (subscriptTail e (.Slice none none (some (.UnaryOp .USub (.Constant (.int 1) k p1) p2)) p3) (.ref a) (.ref s4.heap.objs.size)) (EP X pins σ Q) X.xe { s4 with heap := s4.heap.push { cls := .type "slice", data := .fields #[vl, vu, vs] } }
  rcases q with ⟨hx, q⟩ | ⟨hx, q⟩
  · obtain ⟨its, r, ht, hz⟩ := I5.list hx
    have hlen := r.length
    refine tail_any (ops := [.ref a, .ref s4.heap.objs.size]) ht.isList.typeIs (PySem.slot_list_getitem.lookup) ?_ (by with_unfolding_all rfl)
    refine wpAny_getItem_list_slice ht.isList (Heap.IsSliceOf.new _ vl vu vs) pl pu ps (by decide) ?_ (by rw [List.size_toArray]; omega)
    rw [PySem.W.krv_pick]
    refine ⟨.ref _, _, I5.laid (t' := s4.toks) (o := .lst xs.reverse) (fun b ob q => Heap.get?_push_of_some _ q) (Nat.le_refl _) ?_, rfl, q _ (I5.hok.fresh (Nat.le_refl _))⟩
    exact ⟨by rw [List.length_reverse]; exact hz, _, 0, r.reverse, Heap.get?_push_size _ rfl⟩
  · obtain ⟨its, r, ht, hz⟩ := I5.tuple hx
    have hlen := r.length
    refine tail_any (ops := [.ref a, .ref s4.heap.objs.size]) ht.typeIs PyProof.Rows.slot_tuple_getitem.lookup ?_ (by with_unfolding_all rfl)
    refine getItem_tuple_rev ht (Heap.IsSliceOf.new _ vl vu vs) pl pu ps ?_ (by rw [List.size_toArray]; omega)
    refine ⟨.ref _, _, I5.laid (t' := s4.toks) (o := .tup xs.reverse) (fun b ob q => Heap.get?_push_of_some _ q) (Nat.le_refl _) ?_, rfl, q _ (I5.hok.fresh (Nat.le_refl _))⟩
    exact ⟨by rw [List.length_reverse]; exact hz, _, r.reverse, IsTup.new _ _⟩
end
def wRev : W → PH → Option (W × PH)
  | .tup xs, h => some (.tup xs.reverse, h)
  | .fix xs, h => some (.fix xs.reverse, h)
  | .ref n, h => match h[n]? with
    | some (.lst xs) => some (.fix xs.reverse, h)
    | _ => none
  | _, _ => none
section
variable {K : PySem.W.Frag} {X : Cx} {W0 : WX} {e : Expr} {m : EM} {p1 p2 p3 pos : Pos} {k : Nat}
theorem wRev_rule {f : List Addr} {h : PH} {H : Hp} {x : W} {v : V} {Q : VK} {E : XK} (s : Sim K f h H) (rx : Rep K f H x v) (p : Post K (RW K) f H (.ofO (wRev x h)) Q E) :
    ∃ a xs, v = .ref a ∧ ((SqL K H a xs ∧ ∀ p, H p = none → QF Q (.ref p) (upd H p (.lst xs.reverse))) ∨ (SqT K H a xs ∧ ∀ p, H p = none → QF Q (.ref p) (upd H p (.tup xs.reverse)))) := by
  cases x with
  | tup xs =>
    obtain ⟨a, vs, rfl, h1, h2⟩ := rep_tup.mp rx
    exact ⟨a, vs, rfl, .inr ⟨h1, fun q hq => .inl (post_tup s p h2.reverse hq)⟩⟩
  | fix xs =>
    obtain ⟨a, vs, rfl, h1, h2⟩ := rep_fix.mp rx
    exact ⟨a, vs, rfl, .inl ⟨h1.seq, fun q hq => post_fix s p h2.reverse hq⟩⟩
  | ref n =>
    simp only [wRev] at p
    split at p
    · rename_i xs hn
      obtain ⟨a, rfl, _, vs, h1, h2⟩ := s.at hn rx
      exact ⟨a, vs, rfl, .inl ⟨SqL.of h1, fun q hq => post_fix s p h2.reverse hq⟩⟩
    · exact p.elim
  | _ => exact p.elim
theorem se_rev (ha : SE X W0 e m) : SE X W0 (.Subscript e (.Slice none none (some (.UnaryOp .USub (.Constant (.int 1) k p1) p2)) p3) pos) (mUn wRev m) := pe_imp (pe_frz (pe_revA ha)) fun σ H Q h => by
  obtain ⟨f, h, ps, s, sr, p⟩ := h
  refine ⟨f, h, ps, s, sr, (Post.bind (R1 := RW X.K) s back_W p).mono (fun v H1 hh => ?_) fun _ _ _ e => e⟩
  obtain ⟨f1, h1, x, s1, q1, p1⟩ := hh
  exact wRev_rule s1.sim q1 p1
end
@[simp] theorem wRev_tup {xs : List W} {h : PH} : wRev (.tup xs) h = some (.tup xs.reverse, h) := rfl
@[simp] theorem wRev_fix {xs : List W} {h : PH} : wRev (.fix xs) h = some (.fix xs.reverse, h) := rfl
/-! ### in, where items are data of any depth -/
def inWD (x y : W) (h : PH) : Option Bool := match dat h x, dat h y with
  | some d, some (.list ds) => if SeqAt.shaped d = true ∧ SeqAt.shaped (.list ds) = true then some (ds.any fun z => PyData.eqv z d) else none
  | some d, some (.tuple ds) => if SeqAt.shaped d = true ∧ SeqAt.shaped (.tuple ds) = true then some (ds.any fun z => PyData.eqv z d) else none
  | _, _ => none
def wInD (x y : W) (h : PH) : Option (W × PH) := (inWD x y h).map fun b => (.bl b, h)
def wNotInD (x y : W) (h : PH) : Option (W × PH) := (inWD x y h).map fun b => (.bl (!b), h)
section
variable {X : Cx} {K : PySem.W.Frag}
def rInDA (K : PySem.W.Frag) (neg : Bool) : R2 := fun x y H Q => ∃ d ds, Dp K H x d ∧ (Dp K H y (.list ds) ∧ SeqAt.shaped (.list ds) = true ∨ Dp K H y (.tuple ds) ∧ SeqAt.shaped (.tuple ds) = true) ∧ SeqAt.shaped d = true ∧ Q (.bl (if neg then !(ds.any fun z => PyData.eqv z d) else ds.any fun z => PyData.eqv z d)) H
theorem o_inD {k : Nat} (hr : Room k X.A) : OpR X (compareOp .In) (rInDA X.K false) := by
  intro pins s σ H x y v u Q I rx ry h
  obtain ⟨d, ds, hd, he, sd, q⟩ := h
  have hu : X.A.units + 65 < cLine := by have := hr.un; omega
  obtain ⟨as, r1⟩ := Dp.reads I d x v hd rx
  rcases he with ⟨he, se⟩ | ⟨he, se⟩
  · obtain ⟨bs, r2⟩ := Dp.reads I (.list ds) y u he ry
    exact SeqAt.in_list_reads r2 r1 (SeqAt.canLay_of_shaped se) (SeqAt.canLay_of_shaped sd) (room_in_shaped sd hu) ⟨.bl _, H, I, rfl, q⟩
  · obtain ⟨bs, r2⟩ := Dp.reads I (.tuple ds) y u he ry
    exact SeqAt.in_tuple_reads r2 r1 (SeqAt.canLay_of_shaped se) (SeqAt.canLay_of_shaped sd) (room_in_shaped sd hu) ⟨.bl _, H, I, rfl, q⟩
theorem o_notInD {k : Nat} (hr : Room k X.A) : OpR X (compareOp .NotIn) (rInDA X.K true) := by
  intro pins s σ H x y v u Q I rx ry h
  obtain ⟨d, ds, hd, he, sd, q⟩ := h
  have hu : X.A.units + 65 < cLine := by have := hr.un; omega
  obtain ⟨as, r1⟩ := Dp.reads I d x v hd rx
  rcases he with ⟨he, se⟩ | ⟨he, se⟩
  · obtain ⟨bs, r2⟩ := Dp.reads I (.list ds) y u he ry
    exact SeqAt.notIn_list_reads r2 r1 (SeqAt.canLay_of_shaped se) (SeqAt.canLay_of_shaped sd) (room_in_shaped sd hu) ⟨.bl _, H, I, rfl, q⟩
  · obtain ⟨bs, r2⟩ := Dp.reads I (.tuple ds) y u he ry
    exact SeqAt.notIn_tuple_reads r2 r1 (SeqAt.canLay_of_shaped se) (SeqAt.canLay_of_shaped sd) (room_in_shaped sd hu) ⟨.bl _, H, I, rfl, q⟩
theorem p_inD_gen (neg : Bool) : Op2 K (rInDA K neg) (fun x y h => (inWD x y h).map fun b => (.bl (if neg then !b else b), h)) := by
  intro f h H x y v u Q E s rx ry p
  dsimp only at p
  cases e : inWD x y h with
  | none => rw [e] at p; exact p.elim
  | some b =>
    rw [e] at p
    have q : Q (.bl (if neg then !b else b)) H := post_ok s p (rep_bl.mpr rfl)
    clear p
    unfold inWD at e
    split at e
    · rename_i d ds ex ey
      split at e
      · rename_i c
        rw [← Option.some.inj e] at q
        exact ⟨d, ds, dp s ex rx, .inl ⟨dp s ey ry, c.2⟩, c.1, q⟩
      · cases e
    · rename_i d ds ex ey
      split at e
      · rename_i c
        rw [← Option.some.inj e] at q
        exact ⟨d, ds, dp s ex rx, .inr ⟨dp s ey ry, c.2⟩, c.1, q⟩
      · cases e
    · cases e
theorem p_inD : Op2 K (rInDA K false) wInD := p_inD_gen false
theorem p_notInD : Op2 K (rInDA K true) wNotInD := p_inD_gen true
end
theorem eqvs_any {n m : Nat} {x : W} (hx : plW n x = true) : ∀ {xs : List W}, plWs m xs = true → (dTs xs).any (fun z => PyData.eqv z (dT x)) = decide (x ∈ xs)
  | [], _ => by simp [dTs]
  | a :: l, h => by
    simp only [plWs, Bool.and_eq_true] at h
    simp only [dTs, List.any_cons, eqvs_any hx h.2]
    have := eqv_pl m a x n h.1 hx
    by_cases q : a = x
    · rw [this.mpr q]
      simp [q]
    · have e : PyData.eqv (dT a) (dT x) = false := by
        cases e : PyData.eqv (dT a) (dT x) with
        | false => rfl
        | true => exact absurd (this.mp e) q
      rw [e, Bool.false_or]
      exact decide_eq_decide.mpr ⟨fun z => List.mem_cons_of_mem _ z, fun z => (List.mem_cons.mp z).resolve_left fun z => q z.symm⟩
theorem inWD_pl {x y : W} {xs : List W} {h : PH} {n m : Nat} (hy : y = .fix xs ∨ y = .tup xs) (hx : plW n x = true) (hxs : plWs m xs = true) (hn : n ≤ 64) (hm : m < 64) : inWD x y h = some (decide (x ∈ xs)) := by
  obtain ⟨a, b, c⟩ := dat_pl (datL 4 h) n x hx
  have a : dat h x = some (dT x) := a
  rcases hy with rfl | rfl
  · have hy2 : plW (m + 1) (.fix xs) = true := by simpa only [plW] using hxs
    obtain ⟨a2, b2, c2⟩ := dat_pl (datL 4 h) (m + 1) (.fix xs) hy2
    have a2 : dat h (.fix xs) = some (.list (dTs xs)) := a2
    unfold inWD
    rw [a, a2]
    dsimp only
    rw [if_pos ⟨shaped_pl b c hn, shaped_pl (d := .list (dTs xs)) b2 c2 (by omega)⟩, eqvs_any hx hxs]
  · have hy2 : plW (m + 1) (.tup xs) = true := by simpa only [plW] using hxs
    obtain ⟨a2, b2, c2⟩ := dat_pl (datL 4 h) (m + 1) (.tup xs) hy2
    have a2 : dat h (.tup xs) = some (.tuple (dTs xs)) := a2
    unfold inWD
    rw [a, a2]
    dsimp only
    rw [if_pos ⟨shaped_pl b c hn, shaped_pl (d := .tuple (dTs xs)) b2 c2 (by omega)⟩, eqvs_any hx hxs]
end Mir

/-! Mir: a dict locked while a loop walks it; count, extend; d.get, d.pop. -/
namespace Mir
open PySem PySem.Spec PyProof.Rows L2
/-- a statement that runs while the dict that `look` names is locked -/
def lkS (look : LS → PH → Option Nat) (M : SM) : SM := fun ps h => match look ps h with
  | some n => match h[n]? with
    | some (.dK kvs) => match M ps (h.set n (.lk kvs)) with
      | .nx ps1 h1 => match h1[n]? with
        | some (.lk kvs') => .nx ps1 (h1.set n (.dK kvs'))
        | _ => .stuck
      | .rt w h1 => match h1[n]? with
        | some (.lk kvs') => .rt w (h1.set n (.dK kvs'))
        | _ => .stuck
      | _ => .stuck
    | _ => .stuck
  | none => .stuck
theorem ss_lock {X : Cx} {W0 : WX} {st : Stmt} {M : SM} (look : LS → PH → Option Nat) (ha : SS X W0 st M) : SS X W0 st (lkS look M) := ps_imp (ps_lock ha) fun D σ H h => by
  obtain ⟨f, h, ps, s, sr, p⟩ := h
  unfold lkS at p
  split at p
  · rename_i n _
    split at p
    · rename_i kvs en
      obtain ⟨d, hf, us, e1, r1⟩ := s.obj n _ en
      refine ⟨d, .dK us, e1, trivial, fun od => ⟨f, h.set n (.lk kvs), ps, s.lockD hf e1 r1, sr.mono (.refl f) (stay_lockD e1), ?_⟩⟩
      split at p
      · rename_i ps1 h1 el
        split at p
        · rename_i kvs' en'
          rw [el]
          intro f1 H1 σ1 s1 q1
          obtain ⟨k1, k2⟩ := s1.freeD hf e1 en'
          exact ⟨k1, p f1 _ σ1 k2 (q1.mono (.refl f1) (stay_freeD k1))⟩
        · exact p.elim
      · rename_i w h1 el
        split at p
        · rename_i kvs' en'
          rw [el]
          intro f1 H1 v s1 q1
          obtain ⟨k1, k2⟩ := s1.freeD hf e1 en'
          exact ⟨k1, p f1 _ v k2 (Rep.mono (.refl f1) (stay_freeD k1) _ _ q1)⟩
        · exact p.elim
      · exact p.elim
    · exact p.elim
  · exact p.elim
theorem to_lkS {look : LS → PH → Option Nat} {M : SM} {ps : LS} {h : PH} {n : Nat} {kvs : List (Key × W)} {N B C : LS → PH → Prop} {R : W → PH → Prop} (e : look ps h = some n) (en : h[n]? = some (.dK kvs))
    (q : (M ps (h.set n (.lk kvs))).To (fun ps1 g => ∃ kvs', g[n]? = some (.lk kvs') ∧ N ps1 (g.set n (.dK kvs'))) (fun w g => ∃ kvs', g[n]? = some (.lk kvs') ∧ R w (g.set n (.dK kvs'))) (fun _ _ => False) fun _ _ => False) : (lkS look M ps h).To N R B C := by
  unfold lkS
  rw [e]
  dsimp only
  rw [en]
  dsimp only
  cases eM : M ps (h.set n (.lk kvs)) with
  | nx ps1 h1 =>
    rw [eM, to_nx] at q
    obtain ⟨kvs', e2, e3⟩ := q
    simp only [e2, to_nx]
    exact e3
  | rt w h1 =>
    rw [eM, to_rt] at q
    obtain ⟨kvs', e2, e3⟩ := q
    simp only [e2, to_rt]
    exact e3
  | bk _ _ => rw [eM, to_bk] at q; exact q.elim
  | ct _ _ => rw [eM, to_ct] at q; exact q.elim
  | exc _ _ _ => rw [eM, to_sexc] at q; exact q.elim
  | stuck => rw [eM, to_sstuck] at q; exact q.elim
/-! ### a locked dict read -/
theorem in_lk {n : Nat} {h : PH} {kvs : List (Key × W)} {x : W} {k : Key} (e : h[n]? = some (.lk kvs)) (hk : keyW x = some k) : wIn x (.ref n) h = some (.bl (getK kvs k).isSome, h) := by
  simp only [wIn, inW, e, hk, Option.map_some]
theorem notIn_lk {n : Nat} {h : PH} {kvs : List (Key × W)} {x : W} {k : Key} (e : h[n]? = some (.lk kvs)) (hk : keyW x = some k) : wNotIn x (.ref n) h = some (.bl (!(getK kvs k).isSome), h) := by
  simp only [wNotIn, inW, e, hk, Option.map_some]
theorem ix_lk {n : Nat} {h : PH} {kvs : List (Key × W)} {x w : W} {k : Key} (e : h[n]? = some (.lk kvs)) (hk : keyW x = some k) (hw : getK kvs k = some w) : wIx (.ref n) x h = some (w, h) := by
  simp only [wIx, e, hk, Option.bind_some, hw, Option.map_some]
/-! ### xs.count(y), flat items -/
section
variable {X : Cx}
def rCountF (K : PySem.W.Frag) : V → List V → Hp → VK → Prop := fun x xs H Q => ∃ (a : Addr) (ys : List V) (y : V), x = V.ref a ∧ xs = [y] ∧ SqL K H a ys ∧ flatV y = true ∧ ys.all flatV = true ∧ Q (.int (ys.countP (fun z => eqV z y) : Nat)) H
theorem count_flat {y : V} : ∀ {ys : List V} {its : List Value}, Vals ys its → ys.all flatV = true → its.countP (eqU y) = ys.countP fun z => eqV z y
  | [], _, .nil, _ => rfl
  | z :: r, u :: us, .cons ru rr, h => by
    simp only [List.all_cons, Bool.and_eq_true] at h
    rw [List.countP_cons, List.countP_cons, count_flat rr h.2, eqU_of ru h.1]
theorem mt_countF : MtR X "list.count" (rCountF X.K) := by
  intro pins s σ H x xs v us Q I rx rxs h
  obtain ⟨a, ys, y, rfl, rfl, hs, fy, fys, q⟩ := h
  cases rx
  cases rxs with
  | cons ry rt =>
    rename_i uy ut
    cases rt
    obtain ⟨its, rv, ⟨⟨cls, dd, data, sl⟩, n, ho, hc, hdn, hd⟩, hlen⟩ := I.list hs
    simp only at hc hd
    subst hc hd
    refine call_meets PySem.F.slot_list_count ⟨_, ho, rfl⟩ PySem.F.entry_list_count (PySem.F.args_list_count_2 _ _)
      (SeqAt.list_countAt a its.toArray n dd sl uy (eqU y)) ⟨ho, fun u' hu' => mem_eqAt ry fy rv fys u' (by simpa using hu'), ?_⟩
    have ec : its.toArray.toList.countP (eqU y) = ys.countP fun z => eqV z y := count_flat rv fys
    refine ⟨.int (ys.countP (fun z => eqV z y) : Nat), H, I.tok _, ⟨s.toks, ?_⟩, q⟩
    show Value.int ((its.toArray.toList.countP (eqU y) : Nat) : Int) s.toks = Value.int ((ys.countP (fun z => eqV z y) : Nat) : Int) s.toks
    rw [ec]
end
def wCount (x : W) (xs : List W) (h : PH) : Option (W × PH) := match xs with
  | [y] => match lstOf x h with
    | some ws => if flatW y = true ∧ ws.all flatW = true then some (.int (ws.countP (fun z => eqF z y) : Nat), h) else none
    | none => none
  | _ => none
section
variable {K : PySem.W.Frag}
theorem count_of {f : List Addr} {H : Hp} {y : W} {u : V} (ru : Rep K f H y u) (hy : flatW y = true) : ∀ {ws : List W} {vs : List V}, Reps K f H ws vs → ws.all flatW = true → vs.countP (fun z => eqV z u) = ws.countP fun z => eqF z y
  | [], vs, r, _ => by rw [r.nil_inv]; rfl
  | w :: ws, vs, r, h => by
    obtain ⟨v, t, rfl, r1, r2⟩ := r.cons_inv
    simp only [List.all_cons, Bool.and_eq_true] at h
    rw [List.countP_cons, List.countP_cons, count_of ru hy r2 h.2, eqF_of r1 ru h.1 hy]
theorem op_count : OpMt K (rCountF K) wCount := by
  intro f h H x v xs vs Q E s rx rxs p
  unfold wCount at p
  split at p
  · rename_i y
    obtain ⟨u, rfl, ru⟩ := rxs.one_inv
    split at p
    · rename_i ws e
      split at p
      · rename_i c
        obtain ⟨a, ys, rfl, hs, rr⟩ := lstOf_rep s rx e
        refine ⟨a, ys, u, rfl, rfl, hs, flat_of ru c.1, flats_of rr c.2, ?_⟩
        rw [count_of ru c.1 rr c.2]
        exact .inl (post_ok s p (rep_int.mpr rfl))
      · exact p.elim
    · exact p.elim
  · exact p.elim
end
section
variable {X : Cx} {W0 : WX} {o : Expr} {m : EM} {apos cpos : Pos}
theorem se_count {e1 : Expr} {m1 : EM} (ho : SE X W0 o m) (ha : SE X W0 e1 m1) (hbase : attributeBase o "count" X.env (eval o X.env) = eval o X.env := by rfl)
    (hfew : ((backTo cpos (starEach [e1] X.env)).all (fun x => !x.1) && (backToKw cpos (keywordEach [] X.env)).all (fun x => x.1.isSome)
      && decide (([e1] : List Expr).length + ([] : List Keyword).length + (if ([] : List Keyword).isEmpty then 0 else 1) < 30)) = true := by rfl)
    (hline : (apos.endLine == cpos.line) = true := by rfl) (hs : starEach [e1] X.env = [(false, eval e1 X.env)] := by rfl) : SE X W0 (.Call (.Attribute o "count" apos) [e1] [] cpos) (mMt "list" wCount m (mCons m1 mNil)) :=
  se_mt PySem.F.plainAttrs_list PySem.F.slot_list_count PySem.F.type_list_count mt_countF op_count ho (sa_cons ha sa_nil hs) hbase hfew hline hs
end
/-! ### d.get(k), d.get(k, x), d.pop(k) -/
def dGet1 (x y : W) (h : PH) : Option (W × PH) := match x with
  | .ref n => match h[n]? with
    | some (.dK kvs) => (keyW y).map fun k => ((getK kvs k).getD .non, h)
    | some (.lk kvs) => (keyW y).map fun k => ((getK kvs k).getD .non, h)
    | _ => none
  | _ => none
def isDW (x : W) (h : PH) : Bool := match x with
  | .ref n => match h[n]? with
    | some (.dK _) => true
    | some (.lk _) => true
    | _ => false
  | _ => false
def dropKW (kvs : List (Key × W)) (k : Key) : List (Key × W) := kvs.filter fun kv => decide (kv.1 ≠ k)
def dPop1 (x y : W) (h : PH) : Option (W × PH) := match x with
  | .ref n => match h[n]? with
    | some (.dK kvs) => (keyW y).bind fun k => (getK kvs k).map fun w => (w, h.set n (.dK (dropKW kvs k)))
    | _ => none
  | _ => none
def mGet1 (m m1 : EM) : EM := fun ps h => (m ps h).bind fun x h1 => if isDW x h1 = true then (m1 ps h1).bind fun y h2 => .ofO (dGet1 x y h2) else .stuck
def dGet2 (x y z : W) (h : PH) : Option (W × PH) := match x with
  | .ref n => match h[n]? with
    | some (.dK kvs) => (keyW y).map fun k => ((getK kvs k).getD z, h)
    | some (.lk kvs) => (keyW y).map fun k => ((getK kvs k).getD z, h)
    | _ => none
  | _ => none
def mGet2 (m m1 m2 : EM) : EM := fun ps h => (m ps h).bind fun x h1 => if isDW x h1 = true then (m1 ps h1).bind fun y h2 => (m2 ps h2).bind fun z h3 => .ofO (dGet2 x y z h3) else .stuck
def mPop1 (m m1 : EM) : EM := fun ps h => (m ps h).bind fun x h1 => if isDW x h1 = true then (m1 ps h1).bind fun y h2 => .ofO (dPop1 x y h2) else .stuck
section
variable {K : PySem.W.Frag} {f : List Addr} {h : PH} {H : Hp}
theorem isD_of {x : W} {v : V} (s : Sim K f h H) (r : Rep K f H x v) (e : isDW x h = true) : ∃ a, v = .ref a ∧ IsD H a := by
  cases x with
  | ref n =>
    simp only [isDW] at e
    split at e
    · rename_i kvs hn
      obtain ⟨a, rfl, _, vs, h1, h2⟩ := s.at hn r
      exact ⟨a, rfl, .inl ⟨vs, .inl h1⟩⟩
    · rename_i kvs hn
      obtain ⟨a, rfl, _, o, vs, h1, h2⟩ := s.at hn r
      exact ⟨a, rfl, .inl ⟨vs, .inr ⟨o, h1⟩⟩⟩
    · cases e
  | _ => cases e
theorem krep_getO {κ : Type} [DecidableEq κ] {ws : List (κ × W)} {vs : List (κ × V)} (k : κ) (r : KRep K f H ws vs) {z : W} {zv : V} (rz : Rep K f H z zv) : Rep K f H ((getK ws k).getD z) ((valV vs k).getD zv) := by
  have g := KRep.get k r
  cases e : getK ws k with
  | none => rw [e] at g; rw [g]; exact rz
  | some w =>
    rw [e] at g
    obtain ⟨u, g1, g2⟩ := g
    rw [g1]
    exact g2
theorem KRep.drop {ws : List (Key × W)} {vs : List (Key × V)} (k : Key) (r : KRep K f H ws vs) : KRep K f H (dropKW ws k) (dropK vs k) := by
  induction ws generalizing vs with
  | nil =>
    have r : vs = [] := r
    subst r
    rfl
  | cons p ws ih =>
    obtain ⟨q, w⟩ := p
    obtain ⟨v, t, rfl, h2, h3⟩ := r
    unfold dropKW dropK
    rw [List.filter_cons, List.filter_cons]
    by_cases c : q = k
    · simp only [c, ne_eq, not_true_eq_false, decide_false, Bool.false_eq_true, if_false]
      exact ih h3
    · simp only [c, ne_eq, not_false_eq_true, decide_true, if_true]
      exact ⟨v, _, rfl, h2, ih h3⟩
end
section
variable {X : Cx} {W0 : WX} {o e e2 : Expr} {m m1 m2 : EM} {apos cpos : Pos}
theorem se_get1 {k : Nat} (hr : Room k X.A) (ho : SE X W0 o m) (ha : SE X W0 e m1) (M : M1 X o "get" apos e cpos := by exact ⟨rfl, rfl, rfl, rfl⟩) : SE X W0 (.Call (.Attribute o "get" apos) [e] [] cpos) (mGet1 m m1) :=
  pe_imp (pe_dget1 (by have := hr.un; omega) ho ha M) fun σ H Q h => by
    obtain ⟨f, h, ps, s, sr, p⟩ := h
    refine ⟨f, h, ps, s, sr, (Post.bind (R1 := RW X.K) s back_W p).mono (fun v H1 hh => ?_) fun _ _ _ e => e⟩
    obtain ⟨f1, h1, x, s1, q1, p1⟩ := hh
    split at p1
    · rename_i ht
      obtain ⟨a, rfl, hd⟩ := isD_of s1.sim q1 ht
      refine ⟨a, rfl, hd, f1, h1, ps, s1.sim, s1.srep s sr, (Post.bind (R1 := RW X.K) s1.sim back_W p1).mono (fun v2 H2 hh => ?_) fun _ _ _ e => e⟩
      obtain ⟨f2, h2, y, s2, q2, p2⟩ := hh
      have rx := s2.rep s1.sim q1
      unfold dGet1 at p2
      split at p2
      · rename_i n
        split at p2
        · rename_i kvs hn
          obtain ⟨b, eb, _, vs, g1, g2⟩ := s2.sim.at hn rx
          cases eb
          cases e : keyW y with
          | none => rw [e] at p2; exact p2.elim
          | some k =>
            rw [e] at p2
            have hv := key_rep e q2
            subst hv
            exact ⟨_, DGet.k g1, post_ok s2.sim p2 (krep_getO k g2 (rep_non.mpr rfl))⟩
        · rename_i kvs hn
          obtain ⟨b, eb, _, oo, vs, g1, g2⟩ := s2.sim.at hn rx
          cases eb
          cases e : keyW y with
          | none => rw [e] at p2; exact p2.elim
          | some k =>
            rw [e] at p2
            have hv := key_rep e q2
            subst hv
            exact ⟨_, DGet.fz g1, post_ok s2.sim p2 (krep_getO k g2 (rep_non.mpr rfl))⟩
        · exact p2.elim
      · exact p2.elim
    · exact p1.elim
theorem se_get2 {k : Nat} (hr : Room k X.A) (ho : SE X W0 o m) (ha : SE X W0 e m1) (hb : SE X W0 e2 m2) (M : M2 X o "get" apos e e2 cpos := by exact ⟨rfl, rfl, rfl, rfl⟩) : SE X W0 (.Call (.Attribute o "get" apos) [e, e2] [] cpos) (mGet2 m m1 m2) :=
  pe_imp (pe_dget2 (by have := hr.un; omega) ho ha hb M) fun σ H Q h => by
    obtain ⟨f, h, ps, s, sr, p⟩ := h
    refine ⟨f, h, ps, s, sr, (Post.bind (R1 := RW X.K) s back_W p).mono (fun v H1 hh => ?_) fun _ _ _ e => e⟩
    obtain ⟨f1, h1, x, s1, q1, p1⟩ := hh
    split at p1
    · rename_i ht
      obtain ⟨a, rfl, hd⟩ := isD_of s1.sim q1 ht
      refine ⟨a, rfl, hd, f1, h1, ps, s1.sim, s1.srep s sr, (Post.bind (R1 := RW X.K) s1.sim back_W p1).mono (fun v2 H2 hh => ?_) fun _ _ _ e => e⟩
      obtain ⟨f2, h2, y, s2, q2, p2⟩ := hh
      have sr2 := s2.srep s1.sim (s1.srep s sr)
      refine ⟨f2, h2, ps, s2.sim, sr2, (Post.bind (R1 := RW X.K) s2.sim back_W p2).mono (fun v3 H3 hh => ?_) fun _ _ _ e => e⟩
      obtain ⟨f3, h3, z, s3, q3, p3⟩ := hh
      have rx := s3.rep s2.sim (s2.rep s1.sim q1)
      have ry := s3.rep s2.sim q2
      unfold dGet2 at p3
      split at p3
      · rename_i n
        split at p3
        · rename_i kvs hn
          obtain ⟨b, eb, _, vs, g1, g2⟩ := s3.sim.at hn rx
          cases eb
          cases e : keyW y with
          | none => rw [e] at p3; exact p3.elim
          | some k =>
            rw [e] at p3
            have hv := key_rep e ry
            subst hv
            exact ⟨_, DGet.k g1, post_ok s3.sim p3 (krep_getO k g2 q3)⟩
        · rename_i kvs hn
          obtain ⟨b, eb, _, oo, vs, g1, g2⟩ := s3.sim.at hn rx
          cases eb
          cases e : keyW y with
          | none => rw [e] at p3; exact p3.elim
          | some k =>
            rw [e] at p3
            have hv := key_rep e ry
            subst hv
            exact ⟨_, DGet.fz g1, post_ok s3.sim p3 (krep_getO k g2 q3)⟩
        · exact p3.elim
      · exact p3.elim
    · exact p1.elim
theorem se_pop1 (ho : SE X W0 o m) (ha : SE X W0 e m1) (M : M1 X o "pop" apos e cpos := by exact ⟨rfl, rfl, rfl, rfl⟩) : SE X W0 (.Call (.Attribute o "pop" apos) [e] [] cpos) (mPop1 m m1) :=
  pe_imp (pe_dpop1 ho ha M) fun σ H Q h => by
    obtain ⟨f, h, ps, s, sr, p⟩ := h
    refine ⟨f, h, ps, s, sr, (Post.bind (R1 := RW X.K) s back_W p).mono (fun v H1 hh => ?_) fun _ _ _ e => e⟩
    obtain ⟨f1, h1, x, s1, q1, p1⟩ := hh
    split at p1
    · rename_i ht
      obtain ⟨a, rfl, hd⟩ := isD_of s1.sim q1 ht
      refine ⟨a, rfl, hd, f1, h1, ps, s1.sim, s1.srep s sr, (Post.bind (R1 := RW X.K) s1.sim back_W p1).mono (fun v2 H2 hh => ?_) fun _ _ _ e => e⟩
      obtain ⟨f2, h2, y, s2, q2, p2⟩ := hh
      have rx := s2.rep s1.sim q1
      unfold dPop1 at p2
      split at p2
      · rename_i n
        split at p2
        · rename_i kvs hn
          obtain ⟨b, eb, hf, vs, g1, g2⟩ := s2.sim.at hn rx
          cases eb
          cases e : keyW y with
          | none => rw [e] at p2; exact p2.elim
          | some k =>
            rw [e, Option.bind_some] at p2
            have hv := key_rep e q2
            subst hv
            have g := KRep.get k g2
            cases e3 : getK kvs k with
            | none => rw [e3] at p2; exact p2.elim
            | some w =>
              rw [e3] at g p2
              obtain ⟨u, g3, g4⟩ := g
              refine ⟨vs, k, u, g1, rfl, g3, ?_⟩
              have st := s2.sim.put_dK hf (KRep.drop k g2) (fun o us z => by rw [g1] at z; cases z)
              exact p2 f2 _ u st (st.rep s2.sim g4)
        · exact p2.elim
      · exact p2.elim
    · exact p1.elim
end
end Mir

/-! Mir: zip of a list and a tuple; xs.extend of a fresh list. -/
namespace Mir
open PySem PySem.Spec PyProof.Rows L2
open PySem.Sem (wp)
section
variable {prog : Program} {w : World} {A : Around} {E : Value → Shared → Prop} {s : Shared}
theorem zipM_next_item {z TI TO i1 i2 l1 l2 : Addr} {k1 k2 : Nat} {xs ys : Array Value} {x y a b : Value} {Q : Value → Shared → Prop} (D : ZipApart z TI TO i1 i2 l1 l2)
    (hz : IsZip s.heap z TI TO .none) (hTI : IsPair s.heap TI (.ref i1) (.ref i2)) (hTO : IsPair s.heap TO a b)
    (h1 : s.heap.IsListIter i1 l1 k1) (h2 : s.heap.IsTupleIter i2 l2 k2) (hl1 : s.heap.IsList l1 xs) (hl2 : s.heap.IsTuple l2 ys) (hx : xs[k1]? = some x) (hy : ys[k2]? = some y)
    (hQ : ∀ h', IsZip h' z TI TO (rawInt s.heap.objs.size) → IsPair h' TO x y → h'.IsListIter i1 l1 (k1 + 1) → h'.IsTupleIter i2 l2 (k2 + 1) → IsPair h' s.heap.objs.size x y → h'.objs.size = s.heap.objs.size + 1 →
      (∀ c o, c ≠ z → c ≠ TO → c ≠ i1 → c ≠ i2 → s.heap.get? c = some o → h'.get? c = some o) → Q (.ref s.heap.objs.size) { s with heap := h' }) :
    wpAny (model prog w) A (Builtin.«zip.__next__» ⟨[.ref z], []⟩) (fun fin s' => ∃ v, fin = .done (.ret v) ∧ Q v s') E s := by
  show wpAny _ _ (field (.ref z) 2 >>= _) _ _ _
  refine wpAny_bind (wpAny_field hz rfl (x := .bool false) rfl ?_)
  show wpAny _ _ (field (.ref z) 3 >>= _) _ _ _
  refine wpAny_bind (wpAny_field hz rfl (x := .ref TI) rfl ?_)
  refine wpAny_bind (wpAny_seqItems hTI rfl ?_)
  show wpAny _ _ (Builtin.SmallTypes.ownedTupleIsFree (.ref z) >>= _) _ _ _
  refine wpAny_bind ?_
  unfold Builtin.SmallTypes.ownedTupleIsFree
  refine wpAny_bind (wpAny_field hz rfl (x := .none) rfl (wpAny_pure ?_))
  simp only [if_true]
  refine wpAny_bind (wpAny_rule ?_)
  refine wpAny_bind (wpAny_field hz rfl (x := .ref TO) rfl ?_)
  refine wpAny_bind (wpAny_setField_rec hz (by simp) fun h₁ hz₁ hs₁ => ?_)
  replace hz₁ : IsZip h₁ z TI TO .ellipsis := hz₁
  refine wpAny_bind ?_
  simp only [List.zipIdx_cons, List.zipIdx_nil, List.forIn_cons, List.forIn_nil]

  refine wpAny_bind (wpAny_bind (wpAny_onRaise ?_))
  show wpAny _ _ (Builtin.SmallTypes.nextOf (.ref i1) >>= _) _ _ _
  refine wpAny_bind (wpAny_nextOf_list_item (h1.extBut hs₁.extBut D.i1z) (hl1.extBut hs₁.extBut D.l1z) hx fun h₂ h1₂ hs₂ => wpAny_pure ?_)
  have hTO₂ : IsPair h₂ TO a b := hs₂.extBut _ _ D.TOi1 (hs₁.extBut _ _ D.TOz hTO)
  refine wpAny_bind (wpAny_seqItems hTO₂ rfl ?_)
  refine wpAny_bind (wpAny_updateSeq_pair hTO₂ fun h₃ hTO₃ hs₃ => ?_)
  replace hTO₃ : IsPair h₃ TO x b := hTO₃
  refine wpAny_bind (wpAny_letGo (wpAny_pure ?_))

  refine wpAny_bind (wpAny_bind (wpAny_onRaise ?_))
  show wpAny _ _ (Builtin.SmallTypes.nextOf (.ref i2) >>= _) _ _ _
  refine wpAny_bind (RZ.nextOf_tuple_item (((h2.extBut hs₁.extBut D.i2z).extBut hs₂.extBut D.i12.symm).extBut hs₃.extBut D.TOi2.symm)
    (((hl2.extBut hs₁.extBut D.l2z).extBut hs₂.extBut D.l2i1).extBut hs₃.extBut D.l2TO) hy fun h₄ h2₄ hs₄ => wpAny_pure ?_)
  have hTO₄ : IsPair h₄ TO x b := hs₄.extBut _ _ D.TOi2 hTO₃
  refine wpAny_bind (wpAny_seqItems hTO₄ rfl ?_)
  refine wpAny_bind (wpAny_updateSeq_pair hTO₄ fun h₅ hTO₅ hs₅ => ?_)
  replace hTO₅ : IsPair h₅ TO x y := hTO₅
  refine wpAny_bind (wpAny_letGo (wpAny_pure (wpAny_pure ?_)))

  refine wpAny_bind (wpAny_seqItems hTO₅ rfl ?_)
  refine wpAny_bind (wpAny_newTuple ?_)
  have hsz : h₅.objs.size = s.heap.objs.size := by rw [hs₅.1, hs₄.1, hs₃.1, hs₂.1, hs₁.1]
  have hz₅ : IsZip h₅ z TI TO .ellipsis := hs₅.extBut _ _ D.TOz.symm (hs₄.extBut _ _ D.i2z.symm (hs₃.extBut _ _ D.TOz.symm (hs₂.extBut _ _ D.i1z.symm hz₁)))
  have hk₅ : ∀ c o, c ≠ z → c ≠ TO → c ≠ i1 → c ≠ i2 → s.heap.get? c = some o → h₅.get? c = some o := fun c o c1 c2 c3 c4 e =>
    hs₅.extBut _ _ c2 (hs₄.extBut _ _ c4 (hs₃.extBut _ _ c2 (hs₂.extBut _ _ c3 (hs₁.extBut _ _ c1 e))))
  have h1₅ : h₅.IsListIter i1 l1 (k1 + 1) := ((h1₂.extBut hs₃.extBut D.TOi1.symm).extBut hs₄.extBut D.i12).extBut hs₅.extBut D.TOi1.symm
  have h2₅ : h₅.IsTupleIter i2 l2 (k2 + 1) := h2₄.extBut hs₅.extBut D.TOi2.symm
  have hzlt : z < h₅.objs.size := Heap.lt_size hz₅
  have hTOlt : TO < h₅.objs.size := Heap.lt_size hTO₅
  have hi1lt : i1 < h₅.objs.size := by obtain ⟨_, e, _⟩ := h1₅; exact Heap.lt_size e
  have hi2lt : i2 < h₅.objs.size := by obtain ⟨_, e, _⟩ := h2₅; exact Heap.lt_size e
  show wpAny _ _ (Builtin.SmallTypes.ownedTupleHandOut (.ref z) (.ref h₅.objs.size) >>= _) _ _ _
  refine wpAny_bind ?_
  unfold Builtin.SmallTypes.ownedTupleHandOut
  have hz₆ : IsZip (h₅.push { cls := .type "tuple", data := .seq #[x, y] }) z TI TO .ellipsis := Heap.get?_push_of_some _ hz₅
  refine wpAny_bind (wpAny_setField_rec hz₆ (by simp) fun h₇ hz₇ hs₇ => ?_)
  replace hz₇ : IsZip h₇ z TI TO (rawInt h₅.objs.size) := hz₇
  refine wpAny_setField_rec hz₇ (by simp) fun h₈ hz₈ hs₈ => ?_
  replace hz₈ : IsZip h₈ z TI TO (rawInt h₅.objs.size) := hz₈
  have up : ∀ c o, c ≠ z → h₅.get? c = some o → h₈.get? c = some o := fun c o c1 e => hs₈.extBut _ _ c1 (hs₇.extBut _ _ c1 (Heap.get?_push_of_some _ e))
  have hT₈ : IsPair h₈ h₅.objs.size x y := hs₈.extBut _ _ (Nat.ne_of_gt hzlt) (hs₇.extBut _ _ (Nat.ne_of_gt hzlt) (Heap.get?_push_size _ rfl))
  have hz8 : h₈.objs.size = h₅.objs.size + 1 := by rw [hs₈.1, hs₇.1, Heap.size_push]
  rw [hsz] at hz₈ hT₈ hz8
  refine wpAny_pure ⟨_, rfl, ?_⟩
  show Q (.ref h₅.objs.size) _
  rw [hsz]
  exact hQ h₈ hz₈ (up _ _ D.TOz hTO₅) (h1₅.at fun o e => up _ o D.i1z e) (h2₅.at fun o e => up _ o D.i2z e) hT₈ hz8 fun c o c1 c2 c3 c4 e => up c o c1 (hk₅ c o c1 c2 c3 c4 e)

theorem zipM_next_end {z TI TO i1 i2 l1 l2 : Addr} {k1 k2 : Nat} {xs ys : Array Value} {a b : Value} {Q : Fin → Shared → Prop} (hh : A.handled = none) (D : ZipApart z TI TO i1 i2 l1 l2)
    (hz : IsZip s.heap z TI TO .none) (hTI : IsPair s.heap TI (.ref i1) (.ref i2)) (hTO : IsPair s.heap TO a b)
    (h1 : s.heap.IsListIter i1 l1 k1) (h2 : s.heap.IsTupleIter i2 l2 k2) (hl1 : s.heap.IsList l1 xs) (hl2 : s.heap.IsTuple l2 ys) (hend : xs[k1]? = none ∨ ys[k2]? = none)
    (hE : ∀ h' e, (∀ c o, c ≠ z → c ≠ TO → c ≠ i1 → c ≠ i2 → s.heap.get? c = some o → h'.get? c = some o) → (∃ o, h'.get? e = some o ∧ o.cls = .type "StopIteration") → E (.ref e) { s with heap := h' }) :
    wpAny (model prog w) A (Builtin.«zip.__next__» ⟨[.ref z], []⟩) Q E s := by
  show wpAny _ _ (field (.ref z) 2 >>= _) _ _ _
  refine wpAny_bind (wpAny_field hz rfl (x := .bool false) rfl ?_)
  show wpAny _ _ (field (.ref z) 3 >>= _) _ _ _
  refine wpAny_bind (wpAny_field hz rfl (x := .ref TI) rfl ?_)
  refine wpAny_bind (wpAny_seqItems hTI rfl ?_)
  show wpAny _ _ (Builtin.SmallTypes.ownedTupleIsFree (.ref z) >>= _) _ _ _
  refine wpAny_bind ?_
  unfold Builtin.SmallTypes.ownedTupleIsFree
  refine wpAny_bind (wpAny_field hz rfl (x := .none) rfl (wpAny_pure ?_))
  simp only [if_true]
  refine wpAny_bind (wpAny_rule ?_)
  refine wpAny_bind (wpAny_field hz rfl (x := .ref TO) rfl ?_)
  refine wpAny_bind (wpAny_setField_rec hz (by simp) fun h₁ hz₁ hs₁ => ?_)
  replace hz₁ : IsZip h₁ z TI TO .ellipsis := hz₁
  refine wpAny_bind ?_
  simp only [List.zipIdx_cons, List.zipIdx_nil, List.forIn_cons, List.forIn_nil]
  refine wpAny_bind (wpAny_bind (wpAny_onRaise ?_))
  show wpAny _ _ (Builtin.SmallTypes.nextOf (.ref i1) >>= _) _ _ _
  cases hx : xs[k1]? with
  | none =>
    refine wpAny_bind (wpAny_nextOf_list_end hh (h1.extBut hs₁.extBut D.i1z) (hl1.extBut hs₁.extBut D.l1z) hx fun h₂ e hs₂ he => ?_)
    obtain ⟨oe, hoe, hce⟩ := he
    have hz₂ : IsZip h₂ z TI TO .ellipsis := hs₂ _ _ D.i1z.symm hz₁
    have hez : e ≠ z := fun x => by subst x; rw [hz₂] at hoe; cases hoe; simp at hce
    refine wpAny_setField_rec hz₂ (by simp) fun h₃ _ hs₃ => hE h₃ e (fun c o c1 _ c3 _ x => hs₃.extBut _ _ c1 (hs₂ _ _ c3 (hs₁.extBut _ _ c1 x))) ⟨oe, hs₃.extBut _ _ hez hoe, hce⟩
  | some x =>
    have hy : ys[k2]? = none := by rcases hend with h | h; rw [hx] at h; cases h; exact h
    refine wpAny_bind (wpAny_nextOf_list_item (h1.extBut hs₁.extBut D.i1z) (hl1.extBut hs₁.extBut D.l1z) hx fun h₂ h1₂ hs₂ => wpAny_pure ?_)
    have hTO₂ : IsPair h₂ TO a b := hs₂.extBut _ _ D.TOi1 (hs₁.extBut _ _ D.TOz hTO)
    refine wpAny_bind (wpAny_seqItems hTO₂ rfl ?_)
    refine wpAny_bind (wpAny_updateSeq_pair hTO₂ fun h₃ hTO₃ hs₃ => ?_)
    refine wpAny_bind (wpAny_letGo (wpAny_pure ?_))
    refine wpAny_bind (wpAny_bind (wpAny_onRaise ?_))
    show wpAny _ _ (Builtin.SmallTypes.nextOf (.ref i2) >>= _) _ _ _
    refine wpAny_bind (RZ.nextOf_tuple_end hh (((h2.extBut hs₁.extBut D.i2z).extBut hs₂.extBut D.i12.symm).extBut hs₃.extBut D.TOi2.symm)
      (((hl2.extBut hs₁.extBut D.l2z).extBut hs₂.extBut D.l2i1).extBut hs₃.extBut D.l2TO) hy fun h₄ e hs₄ he => ?_)
    obtain ⟨oe, hoe, hce⟩ := he
    have hz₄ : IsZip h₄ z TI TO .ellipsis := hs₄ _ _ D.i2z.symm (hs₃.extBut _ _ D.TOz.symm (hs₂.extBut _ _ D.i1z.symm hz₁))
    have hez : e ≠ z := fun x => by subst x; rw [hz₄] at hoe; cases hoe; simp at hce
    refine wpAny_setField_rec hz₄ (by simp) fun h₅ _ hs₅ => hE h₅ e (fun c o c1 c2 c3 c4 x => hs₅.extBut _ _ c1 (hs₄ _ _ c4 (hs₃.extBut _ _ c2 (hs₂.extBut _ _ c3 (hs₁.extBut _ _ c1 x))))) ⟨oe, hs₅.extBut _ _ hez hoe, hce⟩

theorem pyNext_zipM_item {z TI TO i1 i2 l1 l2 : Addr} {k1 k2 : Nat} {xs ys : Array Value} {x y a b : Value} {Q : Option Value → Shared → Prop} (D : ZipApart z TI TO i1 i2 l1 l2)
    (hz : IsZip s.heap z TI TO .none) (hTI : IsPair s.heap TI (.ref i1) (.ref i2)) (hTO : IsPair s.heap TO a b)
    (h1 : s.heap.IsListIter i1 l1 k1) (h2 : s.heap.IsTupleIter i2 l2 k2) (hl1 : s.heap.IsList l1 xs) (hl2 : s.heap.IsTuple l2 ys) (hx : xs[k1]? = some x) (hy : ys[k2]? = some y)
    (hQ : ∀ h', IsZip h' z TI TO (rawInt s.heap.objs.size) → IsPair h' TO x y → h'.IsListIter i1 l1 (k1 + 1) → h'.IsTupleIter i2 l2 (k2 + 1) → IsPair h' s.heap.objs.size x y → h'.objs.size = s.heap.objs.size + 1 →
      (∀ c o, c ≠ z → c ≠ TO → c ≠ i1 → c ≠ i2 → s.heap.get? c = some o → h'.get? c = some o) → Q (some (.ref s.heap.objs.size)) { s with heap := h' }) :
    wpAny (model prog w) A (pyNext (.ref z)) Q E s := by
  have hT : s.TypeIs (.ref z) "zip" := ⟨_, hz, rfl⟩
  unfold pyNext
  exact wpAny_bind (wpAny_attempt (wpAny_callSpecial?_slot (name := Str.ofString "__next__") hT F.slot_zip_next
    (wpAny_call_entry F.slot_zip_next hT F.entry_zip_next
      (zipM_next_item D hz hTI hTO h1 h2 hl1 hl2 hx hy fun h' a1 a2 a3 a4 a5 a6 a7 => wpAny_pure (hQ h' a1 a2 a3 a4 a5 a6 a7)) (F.args_zip_next_1 _))))

theorem pyNext_zipM_end {z TI TO i1 i2 l1 l2 : Addr} {k1 k2 : Nat} {xs ys : Array Value} {a b : Value} {Q : Option Value → Shared → Prop} (hh : A.handled = none) (D : ZipApart z TI TO i1 i2 l1 l2)
    (hz : IsZip s.heap z TI TO .none) (hTI : IsPair s.heap TI (.ref i1) (.ref i2)) (hTO : IsPair s.heap TO a b)
    (h1 : s.heap.IsListIter i1 l1 k1) (h2 : s.heap.IsTupleIter i2 l2 k2) (hl1 : s.heap.IsList l1 xs) (hl2 : s.heap.IsTuple l2 ys) (hend : xs[k1]? = none ∨ ys[k2]? = none)
    (hQ : ∀ h', (∀ c o, c ≠ z → c ≠ TO → c ≠ i1 → c ≠ i2 → s.heap.get? c = some o → h'.get? c = some o) → Q none { s with heap := h' }) : wpAny (model prog w) A (pyNext (.ref z)) Q E s := by
  have hT : s.TypeIs (.ref z) "zip" := ⟨_, hz, rfl⟩
  unfold pyNext
  refine wpAny_bind (wpAny_attempt (wpAny_callSpecial?_slot (name := Str.ofString "__next__") hT F.slot_zip_next
    (wpAny_call_entry F.slot_zip_next hT F.entry_zip_next (zipM_next_end hh D hz hTI hTO h1 h2 hl1 hl2 hend fun h' e hk he => ?_) (F.args_zip_next_1 _))))
  obtain ⟨o, ho, hc⟩ := he
  refine wpAny_bind (wpAny_isInstance (T := "StopIteration") (b := true) ⟨o, ho, hc⟩ isSubtype_stop ?_)
  exact wpAny_pure (hQ _ hk)
end

abbrev zipMH1 (h : Heap) (l1 : Addr) : Heap := h.push { cls := .type "list_iterator", data := .fields #[.ref l1, .int 0 0] }
abbrev zipMH2 (h : Heap) (l1 l2 : Addr) : Heap := (zipMH1 h l1).push { cls := .type "tuple_iterator", data := .fields #[.ref l2, .int 0 0] }
abbrev zipMH3 (h : Heap) (l1 l2 : Addr) : Heap := (zipMH2 h l1 l2).push { cls := .type "tuple", data := .seq #[.ref h.objs.size, .ref (zipMH1 h l1).objs.size] }
abbrev zipMH4 (h : Heap) (l1 l2 : Addr) : Heap := (zipMH3 h l1 l2).push { cls := .type "tuple", data := .seq #[.none, .none] }
abbrev zipMH5 (h : Heap) (l1 l2 : Addr) : Heap := (zipMH4 h l1 l2).push { cls := .type "zip", data := .fields #[.none, .bool false, .bool false, .ref (zipMH2 h l1 l2).objs.size, .ref (zipMH3 h l1 l2).objs.size] }

theorem meets_zipM_new (l1 l2 : Addr) (xs ys : Array Value) :
    Meets (Builtin.«zip.__new__» ⟨[.type "zip", .ref l1, .ref l2], []⟩) (fun _ R s => s.heap.IsList l1 xs ∧ s.heap.IsTuple l2 ys ∧
      R (.ok (.ret (.ref (zipMH4 s.heap l1 l2).objs.size))) { s with heap := zipMH5 s.heap l1 l2 }) :=
  .of_wp fun prog w A R s h => by
    obtain ⟨hp, g, d, tk, os⟩ := s; obtain ⟨hl1, hl2, h⟩ := h
    have hsub := sub_zip
    have hL1 : Heap.IsList (Shared.heap ⟨hp, g, d, tk, os⟩) l1 xs := hl1
    have hL2 : Heap.IsTuple (Shared.heap ⟨hp.push { cls := .type "list_iterator", data := .fields #[.ref l1, .int 0 0] }, g, d, tk, os⟩) l2 ys := Heap.IsTuple.push hl2 _
    wp_walk using wpAny_pyIter_list hL1, wpAny_pyIter_tuple hL2
    exact ⟨_, rfl, h⟩

section
variable {prog : Program} {w : World} {A : Around} {E : Value → Shared → Prop} {s : Shared}

theorem call_zipM {l1 l2 : Addr} {xs ys : Array Value} {Q : Value → Shared → Prop} (hl1 : s.heap.IsList l1 xs) (hl2 : s.heap.IsTuple l2 ys)
    (h : ∀ h', IsZip h' (s.heap.objs.size + 4) (s.heap.objs.size + 2) (s.heap.objs.size + 3) .none → IsPair h' (s.heap.objs.size + 2) (.ref s.heap.objs.size) (.ref (s.heap.objs.size + 1)) →
      IsPair h' (s.heap.objs.size + 3) .none .none → h'.IsListIter s.heap.objs.size l1 0 → h'.IsTupleIter (s.heap.objs.size + 1) l2 0 → h'.objs.size = s.heap.objs.size + 5 →
      (∀ c o, s.heap.get? c = some o → h'.get? c = some o) → Q (.ref (s.heap.objs.size + 4)) { s with heap := h' }) :
    wpAny (model prog w) A (call (.type "zip") [.ref l1, .ref l2]) Q E s := by
  refine callType_new F.called_zip (by decide) (F.typeCall_zip_2 _ _) (F.newCall_zip_2 _ _) (fun obj => F.args_object_init_3 obj _ _) F.entry_zip_new
    (meets_zipM_new l1 l2 xs ys) ⟨hl1, hl2, ?_⟩
  have z1 : (zipMH1 s.heap l1).objs.size = s.heap.objs.size + 1 := Heap.size_push ..
  have z2 : (zipMH2 s.heap l1 l2).objs.size = s.heap.objs.size + 2 := by rw [Heap.size_push, z1]
  have z3 : (zipMH3 s.heap l1 l2).objs.size = s.heap.objs.size + 3 := by rw [Heap.size_push, z2]
  have z4 : (zipMH4 s.heap l1 l2).objs.size = s.heap.objs.size + 4 := by rw [Heap.size_push, z3]
  have z5 : (zipMH5 s.heap l1 l2).objs.size = s.heap.objs.size + 5 := by rw [Heap.size_push, z4]
  have g5 : (zipMH5 s.heap l1 l2).get? (zipMH4 s.heap l1 l2).objs.size = some _ := Heap.get?_push_size _ rfl
  have g4 : (zipMH5 s.heap l1 l2).get? (zipMH3 s.heap l1 l2).objs.size = some _ := Heap.get?_push_of_some _ (Heap.get?_push_size _ rfl)
  have g3 : (zipMH5 s.heap l1 l2).get? (zipMH2 s.heap l1 l2).objs.size = some _ := Heap.get?_push_of_some _ (Heap.get?_push_of_some _ (Heap.get?_push_size _ rfl))
  have g2 : (zipMH5 s.heap l1 l2).get? (zipMH1 s.heap l1).objs.size = some _ := Heap.get?_push_of_some _ (Heap.get?_push_of_some _ (Heap.get?_push_of_some _ (Heap.get?_push_size _ rfl)))
  have g1 : (zipMH5 s.heap l1 l2).get? s.heap.objs.size = some _ := Heap.get?_push_of_some _ (Heap.get?_push_of_some _ (Heap.get?_push_of_some _ (Heap.get?_push_of_some _ (Heap.get?_push_size _ rfl))))
  show _ ∧ _
  rw [z2, z3, z4] at g5
  rw [z1, z2] at g3
  rw [z3] at g4
  rw [z1] at g2
  rw [z4]
  exact ⟨⟨_, g5, rfl⟩, h _ g5 g3 g4 ⟨_, g1, rfl, rfl⟩ ⟨_, g2, rfl, rfl⟩ z5 fun c o x =>
    Heap.get?_push_of_some _ (Heap.get?_push_of_some _ (Heap.get?_push_of_some _ (Heap.get?_push_of_some _ (Heap.get?_push_of_some _ x))))⟩
end
def ItzM (K : PySem.W.Frag) (a b : Addr) : It :=
  ⟨fun i H => ∃ (xs ys : List V) (x y : V), SqL K H a xs ∧ SqT K H b ys ∧ xs[i]? = some x ∧ ys[i]? = some y,
    fun i H v H' => ∃ T x y, v = .ref T ∧ H T = none ∧ H' = upd H T (.tup [x, y]) ∧ (∀ xs, SqL K H a xs → xs[i]? = some x) ∧ ∀ ys, SqT K H b ys → ys[i]? = some y,
    fun i H => ∃ xs ys : List V, SqL K H a xs ∧ SqT K H b ys ∧ (xs.length ≤ i ∨ ys.length ≤ i)⟩
theorem turn_zipM {P : Program} {w : World} {K : PySem.W.Frag} {elts : List Expr} {kk : Nat} {tpos : Pos} {a b z TI TO i1 i2 : Addr} (D : ZipApart z TI TO i1 i2 a b) :
    Turn P w K (.Tuple elts kk tpos) (ItzM K a b) [z, TI, TO, i1, i2] z (fun i h => IsZip h z TI TO .none ∧ IsPair h TI (.ref i1) (.ref i2) ∧ (∃ x y, IsPair h TO x y) ∧ h.IsListIter i1 a i ∧ h.IsTupleIter i2 b i) where
  mem := by simp
  obj := fun i h st c hc => by
    obtain ⟨hz, hTI, ⟨x, y, hTO⟩, ⟨o1, e1, _, d1⟩, ⟨o2, e2, _, d2⟩⟩ := st
    have e' : c = z ∨ c = TI ∨ c = TO ∨ c = i1 ∨ c = i2 := by simpa using hc
    rcases e' with q | q | q | q | q
    · rw [q]; exact ⟨_, hz, fun v q => nomatch q⟩
    · rw [q]; exact ⟨_, hTI, fun v q => nomatch q⟩
    · rw [q]; exact ⟨_, hTO, fun v q => nomatch q⟩
    · rw [q]; exact ⟨o1, e1, fun v q => by rw [d1] at q; cases q⟩
    · rw [q]; exact ⟨o2, e2, fun v q => by rw [d2] at q; cases q⟩
  keep := fun i h h' st k => by
    obtain ⟨hz, hTI, ⟨x, y, hTO⟩, h1, h2⟩ := st
    exact ⟨k z (by simp) _ hz, k TI (by simp) _ hTI, ⟨x, y, k TO (by simp) _ hTO⟩, h1.at fun o q => k i1 (by simp) o q, h2.at fun o q => k i2 (by simp) o q⟩
  item := by
    intro X hP hw hK hc i pins s σ H E I hf st hg
    subst hP hw hK
    obtain ⟨hz, hTI, ⟨x0, y0, hTO⟩, h1, h2⟩ := st
    obtain ⟨xs, ys, x, y, hqx, hqy, hx, hy⟩ := hg
    obtain ⟨its, rv, p, _⟩ := I.list hqx
    obtain ⟨its2, rv2, p2, _⟩ := I.tuple hqy
    obtain ⟨u, hu, ru⟩ := rv.get hx
    obtain ⟨u2, hu2, ru2⟩ := rv2.get hy
    have hzl : z < s.heap.objs.size := Heap.lt_size hz
    refine pyNext_zipM_item D hz hTI hTO h1 h2 p.isList p2 (x := u) (y := u2) (by simpa using hu) (by simpa using hu2) fun h' z' TO' h1' h2' hT hsz hk => ?_
    refine ⟨_, rfl, wpAny_letOwnedTupleGo_zip (s := { s with heap := h' }) z' fun h'' z'' sb => ?_⟩
    have hT2 : h''.get? s.heap.objs.size = some { cls := .type "tuple", data := .seq #[u, u2] } := (sb.2 _ (Nat.ne_of_gt hzl)).trans hT
    have new : ObjOk X.prog X.w (upd H s.heap.objs.size (.tup [x, y])) h'' s.heap.objs.size (.tup [x, y]) :=
      ⟨by show 2 ≤ sizeLine; decide, [u, u2], .cons ru (.cons ru2 .nil), ⟨_, hT2, rfl, _, rfl⟩⟩
    have I1 : Inv X pins σ (upd H s.heap.objs.size (.tup [x, y])) { s with heap := h'' } :=
      I.turnedNew (t' := s.toks) (ch := [z, TI, TO, i1, i2]) (fun c o hb q => (sb.2 c (fun q' => hb (by simp [q']))).trans (hk c o (fun q' => hb (by simp [q'])) (fun q' => hb (by simp [q'])) (fun q' => hb (by simp [q'])) (fun q' => hb (by simp [q'])) q)) hf (Nat.le_refl _) new
    refine ⟨.ref s.heap.objs.size, _, I1, rfl, ⟨_, x, y, rfl, I.hok.fresh (Nat.le_refl _), rfl, fun l hl => by rw [I.list_inj hl hqx]; exact hx, fun l hl => by rw [I.tuple_inj hl hqy]; exact hy⟩, ⟨z'', ?_, ⟨u, u2, ?_⟩, ?_, ?_⟩, fun c hcm => ?_⟩
    · exact (sb.2 _ D.TIz).trans (hk _ _ D.TIz D.TITO D.TIi1 D.TIi2 hTI)
    · exact (sb.2 _ D.TOz).trans TO'
    · exact h1'.at fun o q => (sb.2 _ D.i1z).trans q
    · exact h2'.at fun o q => (sb.2 _ D.i2z).trans q
    · have hlt : c < s.heap.objs.size := by
        have e' : c = z ∨ c = TI ∨ c = TO ∨ c = i1 ∨ c = i2 := by simpa using hcm
        rcases e' with q | q | q | q | q
        · rw [q]; exact hzl
        · rw [q]; exact Heap.lt_size hTI
        · rw [q]; exact Heap.lt_size hTO
        · rw [q]; obtain ⟨_, e1, _⟩ := h1; exact Heap.lt_size e1
        · rw [q]; obtain ⟨_, e2, _⟩ := h2; exact Heap.lt_size e2
      rw [upd_ne (Nat.ne_of_lt hlt)]
      exact (hf c hcm).1
  done := by
    intro X hP hw hK hc i pins s σ H E I hf st hg
    subst hP hw hK
    obtain ⟨hz, hTI, ⟨x0, y0, hTO⟩, h1, h2⟩ := st
    obtain ⟨xs, ys, hqx, hqy, hend⟩ := hg
    obtain ⟨its, rv, p, _⟩ := I.list hqx
    obtain ⟨its2, rv2, p2, _⟩ := I.tuple hqy
    have l1 := rv.length
    have l2 := rv2.length
    have he : its.toArray[i]? = none ∨ its2.toArray[i]? = none := by
      rcases hend with q | q
      · exact .inl (by simp; omega)
      · exact .inr (by simp; omega)
    exact pyNext_zipM_end (I.ok.hd hc) D hz hTI hTO h1 h2 p.isList p2 he fun h' hk => ⟨rfl, I.turnedL (t' := s.toks) (ch := [z, TI, TO, i1, i2]) (fun c o hb q =>
      hk c o (fun q' => hb (by simp [q'])) (fun q' => hb (by simp [q'])) (fun q' => hb (by simp [q'])) (fun q' => hb (by simp [q'])) q) hf⟩
  self := fun A i s Q E st h => wpAny_pyIter_zip st.1 h

def iZipM (K : PySem.W.Frag) (ta : TA) : TI := fun σ H R => ta σ H fun vs H1 => ∃ a b xs ys, vs = [.ref a, .ref b] ∧ SqL K H1 a xs ∧ SqT K H1 b ys ∧ R (ItzM K a b) H1
theorem pi_zipM {X : Cx} {e e2 : Expr} {ta : TA} {p pos tpos : Pos} {elts : List Expr} {kk : Nat} (hg : Gl X "zip") (hm : X.mg "zip" = none) (ha : PA X [e, e2] ta)
    (hs : starEach [e, e2] X.env = (false, eval e X.env) :: starEach [e2] X.env := by rfl) (hpl : (backTo pos (starEach [e2] X.env)).any (·.1) = false := by rfl) :
    PI X (.Tuple elts kk tpos) (.Call (.Name "zip" p) [e, e2] [] pos) (iZipM X.K ta) := by
  refine ⟨fun pins s σ H R I h => ?_⟩
  refine Call_ (ld_blt I hg hm PyProof.Rows.boot_zip (PyProof.Rows.callWith_type1 (thn (ha.run pos pins s σ H _ I h) fun us s1 ⟨vs, H1, I1, r1, q1⟩ => ?_) hs hpl))
  obtain ⟨a, b, xs, ys, ex, hqx, hqy, q⟩ := q1
  subst ex
  cases r1 with
  | cons r rr =>
    cases rr with
    | cons r' rr =>
      cases rr
      cases r
      cases r'
      have fresh5 : ∀ c, c ∈ [s1.heap.objs.size + 4, s1.heap.objs.size + 2, s1.heap.objs.size + 3, s1.heap.objs.size, s1.heap.objs.size + 1] → FpOk X pins H1 c := fun c hcm => by
        have hle : s1.heap.objs.size ≤ c := by
          simp only [List.mem_cons, List.not_mem_nil, or_false] at hcm
          rcases hcm with z | z | z | z | z <;> (rw [z]; first | exact Nat.le_refl _ | exact Nat.le_add_right _ _)
        exact I1.fpOk hle (I1.hok.fresh hle)
      obtain ⟨its, rv, p1, _⟩ := I1.list hqx
      obtain ⟨its2, rv2, p2, _⟩ := I1.tuple hqy
      obtain ⟨o2, ho2, _⟩ := id p2
      refine call_zipM (show s1.heap.IsList a its.toArray from p1.isList) (show s1.heap.IsTuple b its2.toArray from p2) fun h' hz hTI hTO h1 h2 hsz hk => wpAny_pyIter_zip hz ?_
      have I2 : Inv X pins σ H1 { s1 with heap := h' } := I1.kept (t' := s1.toks) hk
      exact ⟨s1.heap.objs.size + 4, [s1.heap.objs.size + 4, s1.heap.objs.size + 2, s1.heap.objs.size + 3, s1.heap.objs.size, s1.heap.objs.size + 1], _, _, H1, rfl, I2, turn_zipM (PySem.W.ktu_apart s1.heap.objs.size a b p1.lt (Heap.lt_size ho2)), ⟨hz, hTI, ⟨_, _, hTO⟩, h1, h2⟩, fresh5, q⟩
def zipLT (fuel : Nat) (x y : W) (h : PH) : Option PIt := match y with
  | .tup ys => (lstIt fuel x h).map fun a => itZ a (itS ys)
  | _ => none
def mZipM (fuel : Nat) (m n : EM) : IM := fun ps h => (m ps h).bind fun x h1 => (n ps h1).bind fun y h2 => match zipLT fuel x y h2 with
  | some it => .ok it h2
  | none => .stuck
section
variable {K : PySem.W.Frag} {X : Cx} {W0 : WX} {e e2 : Expr} {m m2 : EM} {p pos tpos : Pos} {elts : List Expr} {kk : Nat}
theorem itZ_m {f : List Addr} {H H0 : Hp} {a b : Addr} {ia ib : PIt} (ha : RIt K H0 f H ia (Itl K a)) (hb : RIt K H0 f H ib (Itt K b)) : RIt K H0 f H (itZ ia ib) (ItzM K a b) := by
  intro f2 h2 H2 i s2
  have qa := ha f2 h2 H2 i s2
  have qb := hb f2 h2 H2 i s2
  unfold itZ
  dsimp only
  cases ea : ia.get i h2 with
  | none => trivial
  | some oa =>
    rw [ea] at qa
    cases eb : ib.get i h2 with
    | none => cases oa <;> trivial
    | some ob =>
      rw [eb] at qb
      cases oa with
      | none =>
        obtain ⟨xs, x1, x2⟩ := qa
        cases ob with
        | none =>
          obtain ⟨ys, y1, y2⟩ := qb
          exact ⟨xs, ys, x1, y1, .inl x2⟩
        | some y =>
          obtain ⟨⟨ys, v, y1, y2⟩, _⟩ := qb
          exact ⟨xs, ys, x1, y1, .inl x2⟩
      | some x =>
        obtain ⟨⟨xs, u, x1, x2⟩, x3⟩ := qa
        cases ob with
        | none =>
          obtain ⟨ys, y1, y2⟩ := qb
          exact ⟨xs, ys, x1, y1, .inr y2⟩
        | some y =>
          obtain ⟨⟨ys, v, y1, y2⟩, y3⟩ := qb
          refine ⟨⟨xs, ys, u, v, x1, y1, x2, y2⟩, fun z H' q => ?_⟩
          obtain ⟨T, u', v', rfl, hT, rfl, q1, q2⟩ := q
          have r1 := (x3 u' H2 ⟨rfl, q1⟩).2
          have r2 := (y3 v' H2 ⟨rfl, q2⟩).2
          have st := s2.sim.other (o := .tup [u', v']) hT
          exact ⟨st, rep_tup.mpr ⟨T, _, rfl, SqT.of upd_same, .cons (st.rep s2.sim r1) (.one (st.rep s2.sim r2))⟩⟩
theorem si_zipM (fuel : Nat) (hm : X.mg "zip" = none) (ha : SE X W0 e m) (hb : SE X W0 e2 m2) (hg : Gl X "zip" := by rfl) (hs : starEach [e, e2] X.env = (false, eval e X.env) :: starEach [e2] X.env := by rfl) (hs2 : starEach [e2] X.env = [(false, eval e2 X.env)] := by rfl) :
    SI X W0 (.Tuple elts kk tpos) (.Call (.Name "zip" p) [e, e2] [] pos) (mZipM fuel m m2) := pi_imp (pi_zipM hg hm (pa_cons ha (pa_cons hb pa_nil hs2) hs) hs (by rw [hs2]; rfl)) fun σ H R h => by
  obtain ⟨f, h, ps, s, sr, p⟩ := h
  refine ⟨f, h, ps, s, sr, (Post.bind (R1 := RW X.K) s back_It p).mono (fun v H1 hh => ?_) fun _ _ _ e => e⟩
  obtain ⟨f1, h1, x, s1, q1, p1⟩ := hh
  refine ⟨f1, h1, ps, s1.sim, s1.srep s sr, (Post.bind (R1 := RW X.K) s1.sim back_It p1).mono (fun u H2 hh => ?_) fun _ _ _ e => e⟩
  obtain ⟨f2, h2, y, s2, q2, p2⟩ := hh
  have q1 := s2.rep s1.sim q1
  cases y with
  | tup ys =>
    cases ez : lstIt fuel x h2 with
    | none => simp only [zipLT, ez, Option.map_none] at p2; exact p2.elim
    | some it =>
      simp only [zipLT, ez, Option.map_some] at p2
      obtain ⟨a, xs, rfl, a2, a3⟩ := lstIt_rep s2.sim q1 ez
      obtain ⟨b, us, rfl, b2, b3⟩ := rep_tup.mp q2
      exact ⟨a, b, xs, us, rfl, a2, b2, p2 f2 H2 _ (.refl s2.sim) (itZ_m a3 (it_tup s2.sim b2 b3))⟩
  | _ => exact p2.elim
end
@[simp] theorem to_zipM {n : Nat} {m m2 : EM} {ps : LS} {h : PH} {Qi : PIt → PH → Prop} : (mZipM n m m2 ps h).To Qi = (m ps h).To fun x g => (m2 ps g).To fun y g => OTo (zipLT n x y g) fun it => Qi it g := by
  simp only [mZipM, to_bind]
  congr 1
  funext x g
  congr 1
  funext y g
  cases zipLT n x y g <;> simp
/-! ### xs.extend(fresh) -/
def mExt (m : EM) (l : LM) : EM := fun ps h => (m ps h).bind fun x h1 => if tyW "list" x h1 = true then (l ps h1).bind fun zs h2 => match x with
  | .ref n => match h2[n]? with
    | some (.lst xs) => if xs.length + zs.length ≤ 16777216 then .ok .non (h2.set n (.lst (xs ++ zs))) else .stuck
    | _ => .stuck
  | _ => .stuck else .stuck
section
variable {X : Cx} {W0 : WX} {o e1 : Expr} {m : EM} {l : LM} {apos cpos : Pos}
theorem se_extend (ho : SE X W0 o m) (ha : SL X W0 e1 l) (hbase : attributeBase o "extend" X.env (eval o X.env) = eval o X.env := by rfl)
    (hfew : ((backTo cpos (starEach [e1] X.env)).all (fun x => !x.1) && (backToKw cpos (keywordEach [] X.env)).all (fun x => x.1.isSome)
      && decide (([e1] : List Expr).length + ([] : List Keyword).length + (if ([] : List Keyword).isEmpty then 0 else 1) < 30)) = true := by rfl)
    (hline : (apos.endLine == cpos.line) = true := by rfl) (hs : starEach [e1] X.env = (false, eval e1 X.env) :: starEach [] X.env := by rfl) (hplain : (backTo cpos (starEach [] X.env)).any (·.1) = false := by rfl) :
    SE X W0 (.Call (.Attribute o "extend" apos) [e1] [] cpos) (mExt m l) :=
  pe_imp (pe_bm PySem.F.plainAttrs_list PySem.F.slot_list_extend PySem.F.type_list_extend mt_extend ho (pa_cons ha pa_nil hs) hbase hfew hline hs hplain) fun σ H Q h => by
    obtain ⟨f, h, ps, s, sr, p⟩ := h
    refine ⟨f, h, ps, s, sr, (Post.bind (R1 := RW X.K) s back_W p).mono (fun v H1 hh => ?_) fun _ _ _ e => e⟩
    obtain ⟨f1, h1, x, s1, q1, p1⟩ := hh
    split at p1
    · rename_i ht
      refine ⟨tyW_of s1.sim q1 ht, f1, h1, ps, s1.sim, s1.srep s sr, (Post.bind (R1 := RL X.K) s1.sim back_W p1).mono (fun b H2 hh => ?_) fun _ _ _ e => e⟩
      obtain ⟨f2, h2, zs, s2, q2, p2⟩ := hh
      obtain ⟨q, us, rfl, hq, nq, eq, rq⟩ := q2
      have rx := s2.rep s1.sim q1
      split at p2
      · rename_i n
        split at p2
        · rename_i xs hn
          split at p2
          · rename_i hl
            obtain ⟨a, rfl, hf, vs, g1, g2⟩ := s2.sim.at hn rx
            refine ⟨a, q, vs, us, rfl, rfl, g1, eq, by rw [sizeLine_eq, ← g2.length, ← rq.length]; exact hl, ?_⟩
            have st := s2.sim.put_lst hf (g2.append rq) (fun o us z => by rw [g1] at z; cases z)
            exact p2 f2 _ .non st (rep_non.mpr rfl)
          · exact p2.elim
        · exact p2.elim
      · exact p2.elim
    · exact p1.elim
end
@[simp] theorem to_ext {m : EM} {l : LM} {ps : LS} {h : PH} {Q : W → PH → Prop} : (mExt m l ps h).To Q = (m ps h).To fun x g => tyW "list" x g = true ∧ (l ps g).To fun zs g => ∃ (n : Nat) (xs : List W), x = .ref n ∧ g[n]? = some (.lst xs) ∧ xs.length + zs.length ≤ 16777216 ∧ Q .non (g.set n (.lst (xs ++ zs))) := by
  simp only [mExt, to_bind, to_ite]
  congr 1
  funext x g
  congr 1
  congr 1
  funext zs g
  cases x with
  | ref n =>
    cases e : g[n]? with
    | none => simp [e]
    | some o => cases o <;> simp [e]
  | _ => simp
end Mir

/-! Mir: the index of a text in a text. -/
namespace Mir
open PySem PySem.Spec PyProof.Rows L2
section
variable {K : PySem.W.Frag} {X : Cx} {W0 : WX} {e o : Expr} {m m1 : EM} {apos cpos : Pos}
/-- x.index(y) where it is found -/
def wSIndex (x : W) (xs : List W) (h : PH) : Option (W × PH) := match x, xs with
  | .str a, [.str b] => match Builtin.Str.occurrences a b 0 a.length 1 with
    | i :: _ => some (.int (i : Nat), h)
    | [] => none
  | _, _ => none
theorem op_sindex : OpMt K (fun x xs H Q => ∃ a b i rest, x = .str a ∧ xs = [.str b] ∧ Builtin.Str.occurrences a b 0 a.length 1 = i :: rest ∧ Q (.int (i : Nat)) H) wSIndex := by
  intro f h H x v xs vs Q E s rx rxs p
  unfold wSIndex at p
  split at p
  · rename_i a b
    split at p
    · rename_i i rest eo
      obtain ⟨u, rfl, ru⟩ := rxs.one_inv
      exact ⟨a, b, i, rest, rep_str.mp rx, by rw [rep_str.mp ru], eo, .inl (post_ok s p (rep_int.mpr rfl))⟩
    · exact p.elim
  · exact p.elim
theorem se_sindex (ho : SE X W0 o m) (ha : SE X W0 e m1) (hbase : attributeBase o "index" X.env (eval o X.env) = eval o X.env := by rfl)
    (hfew : ((backTo cpos (starEach [e] X.env)).all (fun x => !x.1) && (backToKw cpos (keywordEach [] X.env)).all (fun x => x.1.isSome)
      && decide (([e] : List Expr).length + ([] : List Keyword).length + (if ([] : List Keyword).isEmpty then 0 else 1) < 30)) = true := by rfl)
    (hline : (apos.endLine == cpos.line) = true := by rfl) (hs : starEach [e] X.env = [(false, eval e X.env)] := by rfl) : SE X W0 (.Call (.Attribute o "index" apos) [e] [] cpos) (mMt "str" wSIndex m (mCons m1 mNil)) :=
  se_mt PySem.F.plainAttrs_str PySem.F.slot_str_index PySem.F.type_str_index mt_sindex op_sindex ho (sa_cons ha sa_nil hs) hbase hfew hline hs
end
end Mir

/-! Mir: replace of written texts, behind a written text. -/
namespace Mir
open PySem PySem.Spec PyProof.Rows L2
/-- a value behind which a token is out -/
def PEn (X : Cx) (e : Expr) (t : TE) : Prop := ∀ (pins : List (Addr × Obj)) (s : Shared) (σ : L2.St) (H : Hp) (Q : VK), Inv X pins σ H s → t σ H Q → wpAny (model X.prog X.w) X.A (eval e X.env) (fun v s1 => 1 ≤ s1.toks ∧ EP X pins σ Q v s1) X.xe s
section
variable {X : Cx} {W0 : WX} {a b e o : Expr} {m m1 m2 : EM} {ta tb : TE} {pos apos cpos p0 p1 p2 : Pos} {x y z : Str} {j k j0 : Nat} {c0 c1 : Pos}
theorem pen_imp {t t' : TE} (h : PEn X e t) (i : ∀ σ H Q, t' σ H Q → t σ H Q) : PEn X e t' := fun pins s σ H Q I q => h pins s σ H Q I (i σ H Q q)
theorem pen_str : PEn X (.Constant (.str x) j p0) (tC (.str x)) := fun pins s σ H Q I h => Calls.Constant_str ⟨by show 1 ≤ s.toks + 1; omega, .str x, H, I.tok _, ⟨_, rfl⟩, h⟩
theorem pen_op {op : Operator} {r : R2} (ho : OpR X (binaryOp op) r) (ha : PEn X a ta) (hb : PE X b tb) : PEn X (.BinOp a op b pos) (tOp r ta tb) := by
  intro pins s σ H Q I h
  refine wpAny_BinOp (wpAny_mono (ha pins s σ H _ I h) (fun v s1 q => ?_) fun _ _ z => z)
  obtain ⟨hk, x, H1, I1, r1, q1⟩ := q
  refine wpAny_mono (PySem.wpAny_toks (hb.run pins s1 σ H1 _ I1 q1)) (fun u s2 q => ?_) fun _ _ z => z.2
  obtain ⟨hk2, y, H2, I2, r2, q2⟩ := q
  exact wpAny_mono (PySem.wpAny_toks (ho pins s2 σ H2 x y v u Q I2 r1 r2 q2)) (fun _ _ q => ⟨Nat.le_trans (Nat.le_trans hk hk2) q.1, q.2⟩) fun _ _ z => z.2
theorem pe_opN {op : Operator} {r : R2} (ho : OpR X (binaryOp op) r) (ha : PEn X a ta) (hb : PET X b tb) : PE X (.BinOp a op b pos) (tOp r ta tb) := ⟨fun pins s σ H Q I h => by
  refine wpAny_BinOp (wpAny_mono (ha pins s σ H _ I h) (fun v s1 q => ?_) fun _ _ z => z)
  obtain ⟨hk, x, H1, I1, r1, q1⟩ := q
  exact thn (hb pins s1 σ H1 _ hk I1 q1) fun u s2 ⟨y, H2, I2, r2, q2⟩ => ho pins s2 σ H2 x y v u Q I2 r1 r2 q2⟩
theorem pet_imp {t t' : TE} (h : PET X e t) (i : ∀ σ H Q, t' σ H Q → t σ H Q) : PET X e t' := fun pins s σ H Q h0 I q => h pins s σ H Q h0 I (i σ H Q q)
def wRepl (y z : Str) (w : W) (h : PH) : Option (W × PH) := match w with
  | .str x => if x.length + (x.length + 1) * z.length ≤ 16777216 then some (.str (Txt.replace x y z), h) else none
  | _ => none
theorem op_repl {K : PySem.W.Frag} : Op1 K (fun v H Q => ∃ x, v = .str x ∧ x.length + (x.length + 1) * z.length ≤ 16777216 ∧ Q (.str (Txt.replace x y z)) H) (wRepl y z) := by
  intro f h H x v Q E s rx p
  unfold wRepl at p
  split at p
  · split at p
    · rename_i hb
      exact ⟨_, rep_str.mp rx, hb, post_ok s p (rep_str.mpr rfl)⟩
    · exact p.elim
  · exact p.elim
/-- 'x' * n + e.replace('y', 'z') -/
theorem se_mulRepl (hb : SE X W0 b m1) (ho : SE X W0 o m) (hyz : (y == z) = false := by decide +kernel)
    (hst : starEach [.Constant (.str y) j c0, .Constant (.str z) k c1] X.env = [(false, eval (.Constant (.str y) j c0) X.env), (false, eval (.Constant (.str z) k c1) X.env)] := by rfl)
    (hbase : attributeBase o "replace" X.env (eval o X.env) = eval o X.env := by rfl) (hline : (apos.endLine == cpos.line) = true := by rfl) :
    SE X W0 (.BinOp (.BinOp (.Constant (.str x) j0 p0) .Mult b p1) .Add (.Call (.Attribute o "replace" apos) [.Constant (.str y) j c0, .Constant (.str z) k c1] [] cpos) p2) (mOp wAdd (mOp wMul (mC (.str x)) m1) (mUn (wRepl y z) m)) := by
  have hl : PEn X (.BinOp (.Constant (.str x) j0 p0) .Mult b p1) (tE X.K W0 (mOp wMul (mC (.str x)) m1)) :=
    pen_imp (pen_op (op_mul.or (op_repT.or op_mulS)) (pen_imp pen_str fun σ H Q h => by
      obtain ⟨f, h, ps, s, _, p⟩ := h
      exact post_pure s p (by simp only [Rep])) hb) fun _ _ _ h => tE_bin op2_mul h
  have hr : PET X (.Call (.Attribute o "replace" apos) [.Constant (.str y) j c0, .Constant (.str z) k c1] [] cpos) (tE X.K W0 (mUn (wRepl y z) m)) :=
    pet_imp (CwR.pet_replC ho hyz hst hbase hline) fun σ H Q h => by
      obtain ⟨f, h, ps, s, sr, p⟩ := h
      refine ⟨f, h, ps, s, sr, (Post.bind s back_W p).mono (fun v H1 hh => ?_) fun _ _ _ e => e⟩
      obtain ⟨f1, h1, x, s1, q1, p1⟩ := hh
      exact op_repl f1 h1 H1 x v Q _ s1.sim q1 p1
  exact pe_imp (pe_frz (pe_opN (op_add.or (op_add_str.or (op_catA.or op_catS))) hl hr)) fun σ H Q h => by
    obtain ⟨f, h, ps, s, sr, p⟩ := h
    refine ⟨f, h, ps, s, sr, (Post.bind (R1 := RW X.K) s back_W p).mono (fun v H1 hh => ?_) fun _ _ _ e => e⟩
    obtain ⟨f1, h1, x, s1, q1, p1⟩ := hh
    refine ⟨f1, h1, ps, s1.sim, s1.srep s sr, (Post.bind (R1 := RW X.K) s1.sim back_W p1).mono (fun u H2 hh => ?_) fun _ _ _ e => e⟩
    obtain ⟨f2, h2, y, s2, q2, p2⟩ := hh
    exact op2_add f2 h2 H2 x y v u Q _ s2.sim (s2.rep s1.sim q1) q2 p2
end
end Mir

/-! Mir: a slice of a list as a list that may change. -/
namespace Mir
open PySem PySem.Spec PyProof.Rows L2
section
variable {X : Cx} {W0 : WX} {a : Expr} {m1 : EM} {pos p2 : Pos}
def mSlL (m : EM) (lo hi : Option EM) : LM := fun ps h => (m ps h).bind fun x h1 => (mPart lo ps h1).bind fun l h2 => (mPart hi ps h2).bind fun u h3 => match lstOf x h3 with
  | some xs => .ok (cutW xs l u) h3
  | none => .stuck
theorem sl_slice {lo hi : Option Expr} {ml mh : Option EM} (ha : SE X W0 a m1) (hl : SPO X W0 lo ml) (hh : SPO X W0 hi mh) : SL X W0 (.Subscript a (.Slice lo hi none p2) pos) (mSlL m1 ml mh) := by
  obtain ⟨tl, pl, il⟩ := hl.po
  obtain ⟨th, ph, ih⟩ := hh.po
  refine pe_imp (pe_slice sl_list ha pl ph) fun σ H Q h => ?_
  obtain ⟨f, h, ps, s, sr, p⟩ := h
  refine ⟨f, h, ps, s, sr, (Post.bind (R1 := RW X.K) s back_L p).mono (fun v H1 hh => ?_) fun _ _ _ e => e⟩
  obtain ⟨f1, h1, x, s1, q1, p1⟩ := hh
  refine il σ H1 _ ⟨f1, h1, ps, s1.sim, s1.srep s sr, (Post.bind (R1 := RI) s1.sim back_L p1).mono (fun l H2 hh => ?_) fun _ _ _ e => e⟩
  obtain ⟨f2, h2, l', s2, q2, p2⟩ := hh
  cases q2
  refine ih σ H2 _ ⟨f2, h2, ps, s2.sim, s2.srep s1.sim (s1.srep s sr), (Post.bind (R1 := RI) s2.sim back_L p2).mono (fun u H3 hh => ?_) fun _ _ _ e => e⟩
  obtain ⟨f3, h3, u', s3, q3, p3⟩ := hh
  cases q3
  split at p3
  · rename_i ws e
    obtain ⟨a, vs, rfl, hs, rr⟩ := lstOf_rep s3.sim (s3.rep s2.sim (s2.rep s1.sim q1)) e
    refine ⟨a, vs, rfl, hs, fun q hq => ?_⟩
    have st := s3.sim.other (o := .lst (cutV vs l u)) hq
    exact p3 f3 _ _ st ⟨q, _, rfl, hq, s3.sim.fresh hq, upd_same, Reps.mono (.refl f3) (s3.sim.stay st.grow) _ _ (rr.cut l u)⟩
  · exact p3.elim
end
end Mir

/-! Mir: sets of numbers, of any size up to some thousands: set(xs) of a list, sorted(set(xs)). -/
namespace Mir
open PySem PySem.Spec PySem.Builtin PyProof.Rows L2
section
variable {P : Program} {w : World} {A : Around} {E : Value → Shared → Prop} {s : Shared}
abbrev freshSet (w : World) : Obj := { cls := .type "set", dict := none, data := .set #[] 0 (.fresh 0 0 (!w.params.followText "set-order")) }
abbrev withSet (w : World) (s : Shared) : Shared := { s with heap := s.heap.push (freshSet w) }
/-- the list's ints, each put into the set that stands last -/
theorem fill_set {l : Addr} {items : Array Value} (ns : List Int) {R : Result → Shared → Prop} (hh : A.in1.handled = none) (hl : s.heap.IsList l items) (hit : IntsAre items.toList ns) (hb : ns.length + 1 < scanBound)
    (h : ∀ (h' : Heap) (tk c : Nat), SetR w h' s.heap.objs.size (fun j => decide (j ∈ ns)) c → c ≤ ns.length → (∀ b o, s.heap.get? b = some o → h'.get? b = some o) → R (.ok (.ret .none)) { s with heap := h', toks := tk }) :
    codeAny (model P w) A (.builtin "set.update.loop" ⟨[.ref s.heap.objs.size, .ref (withSet w s).heap.objs.size], []⟩) R
      { s with heap := (withSet w s).heap.push { cls := .type "list_iterator", data := .fields #[.ref l, .int 0 0] } } := by
  have hsz : items.size = ns.length := by
    have q := IntsAre.length hit
    rwa [Array.length_toList] at q
  have hl0 := hl
  obtain ⟨ol, hol, hcl, nl, hdl⟩ := hl0
  have llt : l < s.heap.objs.size := Heap.lt_size hol
  have z1 : (withSet w s).heap.objs.size = s.heap.objs.size + 1 := Heap.size_push ..
  have atS : (withSet w s).heap.get? s.heap.objs.size = some (freshSet w) := Heap.get?_push_size _ rfl
  have l1 : (withSet w s).heap.IsList l items := ⟨ol, Heap.get?_push_of_some _ hol, hcl, nl, hdl⟩
  have l2 : ((withSet w s).heap.push { cls := .type "list_iterator", data := .fields #[.ref l, .int 0 0] }).IsList l items := ⟨ol, Heap.get?_push_of_some _ (Heap.get?_push_of_some _ hol), hcl, nl, hdl⟩
  have ne1 : l ≠ (withSet w s).heap.objs.size := by rw [z1]; exact Nat.ne_of_lt (Nat.lt_succ_of_lt llt)
  have vals : ∀ (i : Nat) (v : Value), items[i]? = some v → ∃ k t, ns[i]? = some k ∧ v = .int k t := fun i v hv => by
    have hi : i < ns.length := by rw [← hsz]; exact (Array.getElem?_eq_some_iff.mp hv).1
    obtain ⟨t, e⟩ := PyProof.Rows.IntsAre.int_at hit i v (by rw [Array.getElem?_toList]; exact hv)
    refine ⟨ns[i], t, List.getElem?_eq_getElem hi, ?_⟩
    rw [e, List.getD_eq_getElem?_getD, List.getElem?_eq_getElem hi] <;> rfl
  refine set_update_ints ((Walks.list hh _ l ne1 items).toS) s.heap.objs.size ?_ ns hsz hb vals (items.size - 0) 0 _ (by omega) (Nat.zero_le _) ⟨⟨_, Heap.get?_push_size _ rfl, rfl, rfl⟩, l2⟩ ⟨0, Nat.le_refl 0, setR_new_at (Heap.get?_push_of_some _ atS)⟩ ?_
  · rw [z1]
    simp only [List.mem_cons, List.not_mem_nil, or_false, not_or]
    exact ⟨Nat.ne_of_lt (Nat.lt_succ_self _), Nat.ne_of_gt llt⟩
  · intro s' c hm hc hS
    obtain ⟨h', g', d', tk', os'⟩ := s'
    have eg : g' = s.gens := hm.gens
    have ed : d' = s.drawn := hm.drawn
    have eo : os' = s.os := hm.os
    subst eg ed eo
    refine h h' tk' c hS (by omega) fun b o e => ?_
    have hb0 : b < s.heap.objs.size := Heap.lt_size e
    refine hm.heap b o ?_ (Heap.get?_push_of_some _ (Heap.get?_push_of_some _ e))
    rw [z1]
    simp only [List.mem_cons, List.not_mem_nil, or_false, not_or]
    exact ⟨Nat.ne_of_lt hb0, Nat.ne_of_lt (Nat.lt_succ_of_lt hb0)⟩
/-- set(l), l a list of ints -/
theorem call_setL {l : Addr} {items : Array Value} (ns : List Int) {Q : Value → Shared → Prop} (hh : A.handled = none) (hl : s.heap.IsList l items) (hit : IntsAre items.toList ns) (hb : ns.length + 1 < scanBound)
    (h : ∀ (h' : Heap) (tk c : Nat), SetR w h' s.heap.objs.size (fun j => decide (j ∈ ns)) c → c ≤ ns.length → (∀ b o, s.heap.get? b = some o → h'.get? b = some o) → Q (.ref s.heap.objs.size) { s with heap := h', toks := tk }) :
    wpAny (model P w) A (call (.type "set") [.ref l]) Q E s := by
  obtain ⟨c, tl, hmro⟩ := F.called_set.mro
  have made := F.called_set.made
  have sub := F.called_set.sub
  have nt := F.called_set.notType
  have cc := F.called_set.canCreate
  have tc := F.typeCall_set_1 (.ref l)
  have li := F.called_set.init.lookup
  have bi := F.called_set.init.bind (.ref s.heap.objs.size)
  have atS : (withSet w s).heap.get? s.heap.objs.size = some (freshSet w) := Heap.get?_push_size _ rfl
  have isS : Shared.TypeIs (withSet w s) (.ref s.heap.objs.size) "set" := ⟨_, atS, rfl⟩
  refine wpAny_call (codeAny_of_tree ?_)
  show wpAny _ _ (callAny (.type "set") _) _ _ _
  refine wpAny_pure ⟨Code.quiet_builtin _ (by decide +kernel), codeAny_builtin F.entry_type_call ?_⟩
  rw [Around.under_plain (weight_type_call_type "set" [.ref l] []) rfl]
  repeat (any_goals (first | assumption | wp_step))
  refine codeAny_mono (code_set_led1 (.ref l) (E := E) (Q₁ := fun obj s₁ => obj = .ref s.heap.objs.size ∧ s₁ = withSet w s) ⟨rfl, rfl⟩) fun r s₁ hr => ?_
  match r, hr with
  | .error e, hr => exact hr
  | .ok (.ret obj), hr =>
    obtain ⟨rfl, rfl⟩ := hr
    repeat (any_goals (first | assumption | wp_step))
    refine codeAny_mono (codeAny_call_builtin (R := wants (fun r s₂ => r = .none ∧ Q (.ref s.heap.objs.size) s₂) E) F.called_set.init.plain F.entry_set_init (check_set_init_1 isS ?_)) fun r₂ s₂ hr₂ => ?_
    · have hl0 := hl
      obtain ⟨⟨ocls, odict, odata, oslots⟩, hol, hcl, nl, hdl⟩ := hl0
      dsimp only at hcl hdl
      subst hcl hdl
      have hol' : (withSet w s).heap.get? l = some { cls := .type "list", dict := odict, data := .seq items nl, slots := oslots } := Heap.get?_push_of_some _ hol
      have s1 := F.sub_list_set
      have s2 := F.sub_list_frozenset
      have s3 : (Value.type "list" == Value.type "dict") = false := by decide
      have l1 : (withSet w s).heap.IsList l items := ⟨_, hol', rfl, nl, rfl⟩
      unfold Builtin.«set.__init__» noKeywords Builtin.Frozenset.updateFrom
      generalize hPI : pyIter = PI
      wp_walk
      subst hPI
      refine wpAny_pyIter_list l1 (wpAny_bind (wpAny_runValue ?_))
      refine fill_set ns (by simp [hh]) hl hit hb fun h' tk c r1 r2 r3 => ?_
      refine wpAny_pure ?_
      exact wpAny_pure ⟨rfl, h h' tk c r1 r2 r3⟩
    · match r₂, hr₂ with
      | .error e, hr₂ => exact hr₂
      | .ok (.ret r), hr₂ =>
        obtain ⟨rfl, q⟩ := hr₂
        repeat (any_goals (first | assumption | wp_step))
end
end Mir

/-! Mir: sorted(set(xs)). -/
namespace Mir
open PySem PySem.Spec PySem.Builtin PyProof.Rows L2
section
variable {X : Cx}
/-- set(xs), xs a list or a tuple of ints -/
def rSetI (K : PySem.W.Frag) (w : World) : List V → Hp → VK → Prop := fun xs H Q => ∃ (a : Addr) (ns : List Int), xs = [.ref a] ∧ ns.length + 1 < scanBound ∧ (SqL K H a (ns.map V.int) ∨ SqT K H a (ns.map V.int)) ∧
  ∀ (p : Addr) (c : Nat), H p = none → c ≤ ns.length → Q (.ref p) (upd H p (SetO w p (fun j => decide (j ∈ ns)) c))
theorem cr_setI (hc : X.calm = true) : CallR X (.type "set") (rSetI X.K X.w) := by
  intro pins s σ H vs us Q I r h
  obtain ⟨a, ns, rfl, hb, hs, q⟩ := h
  rw [Vals.ref1 r]
  have fin : ∀ (h' : Heap) (tk c : Nat), SetR X.w h' s.heap.objs.size (fun j => decide (j ∈ ns)) c → c ≤ ns.length → (∀ b o, s.heap.get? b = some o → h'.get? b = some o) → EP X pins σ Q (.ref s.heap.objs.size) { s with heap := h', toks := tk } := fun h' tk c r1 r2 k =>
    ⟨.ref s.heap.objs.size, upd H s.heap.objs.size (SetO X.w s.heap.objs.size (fun j => decide (j ∈ ns)) c), I.laid (t' := tk) k (Nat.le_refl _) (setO_new r1), rfl, q _ c (I.hok.fresh (Nat.le_refl _)) r2⟩
  rcases hs with hs | hs
  · obtain ⟨its, rv, pl, hz⟩ := I.list hs
    exact call_setL ns (I.ok.hd hc) pl.isList (by rw [List.toList_toArray]; exact rv.ints) hb fin
  · obtain ⟨its, rv, pl, hz⟩ := I.tuple hs
    exact call_set_tupI ns (I.ok.hd hc) pl (by rw [List.toList_toArray]; exact rv.ints) hb fin
/-- sorted(found), any number of members -/
def rSortedSN (w : World) : List V → Hp → VK → Prop := fun vs H Q => ∃ (a : Addr) (S : Int → Bool) (n : Nat), vs = [V.ref a] ∧ H a = some (SetO w a S n) ∧
  ∀ (ns : List Int) (p : Addr), ns.Pairwise (· < ·) → (∀ k : Int, k ∈ ns ↔ S k = true) → H p = none → Q (.ref p) (upd H p (.lst (ns.map V.int)))
theorem cr_sortedSN (hc : X.calm = true) : CallR X (.builtin "sorted") (rSortedSN X.w) := by
  intro pins s σ H vs us Q I r h
  obtain ⟨a, S, n, rfl, ha, q⟩ := h
  have R := setO_get I ha
  rw [Vals.ref1 r]
  obtain ⟨o, es, ep, t, ho, hex, hd, g, nd, hm, hb, hf, hn, hr, hl⟩ := R
  refine Calls.call_function_entry kind_sorted plain_sorted entry_sorted (args_sorted1 _) ?_
  unfold Builtin.«sorted»
  refine wpAny_bind (m := checkCount "sorted" 1 1 _) (wpAny_pure (wpAny_bind (collect_set (A := X.A.in1) (I.ok.hd hc) ⟨o, ho, hex.1, hd⟩ hf hb hr hl fun s1 its k1 hz g1 o1 pm => ?_)))
  have hI : IntsAre its (its.map Builtin.Re.reRawOf) := ints_of its fun v hv => by
    obtain ⟨e, he, z⟩ := List.mem_map.mp (pm.mem_iff.mp hv)
    obtain ⟨k, tk, h1, _⟩ := g e he
    exact ⟨k, tk, by rw [← z]; exact h1⟩
  have pk : (its.map Builtin.Re.reRawOf).Perm (es.toList.map keyOf) := by
    have z := pm.map Builtin.Re.reRawOf
    rw [List.map_map] at z
    exact z
  have il : its.length ≤ sizeLine := by
    rw [pm.length_eq, List.length_map, Array.length_toList, sizeLine_eq]
    unfold scanBound at hb
    omega
  refine wpAny_bind (wpAny_newList ?_ il)
  have at_ : (s1.heap.push (seqObj "list" its.toArray 0)).get? s1.heap.objs.size = some (seqObj "list" its.toArray 0) := Heap.get?_push_size _ rfl
  refine wpAny_bind (wpAny_holding ?_)
  refine wpAny_call_entry PyProof.Rows.slot_list_sort ⟨_, at_, rfl⟩ PyProof.Rows.entry_list_sort ?_ (PyProof.Rows.args_list_sort _)
  refine SrtO.list_sort_ord (s := { s1 with heap := s1.heap.push (seqObj "list" its.toArray 0) }) SrtO.swo_int at_ il (fun h2 => SrtO.ints_sortable hI h2) fun out e1 e2 => ⟨_, rfl, ?_⟩
  obtain ⟨j1, j2, j3⟩ := SrtO.ints_out hI e1 e2
  obtain ⟨c, hc2⟩ := PyProof.Rows.sortedHeap_at (vs := its) (out := out.toArray) at_
  have pn : (out.map SrtO.iv).Perm (es.toList.map keyOf) := j2.trans pk
  have hlen : ((out.map SrtO.iv).map V.int).length ≤ sizeLine := by
    rw [List.length_map, j2.length_eq, List.length_map]
    exact il
  have keep : ∀ b u, s.heap.get? b = some u → (sortedHeap (s1.heap.push (seqObj "list" its.toArray 0)) s1.heap.objs.size its out.toArray).get? b = some u := fun b u e => by
    have z := k1 b u e
    have lt := Heap.lt_size z
    rw [PyProof.Rows.sortedHeap_old (Nat.ne_of_lt lt) (by rw [size_push']; exact Nat.lt_succ_of_lt lt)]
    exact Heap.get?_push_of_some _ z
  have hn2 : H s1.heap.objs.size = none := I.hok.fresh hz
  have J : Inv X pins σ (upd H s1.heap.objs.size (.lst ((out.map SrtO.iv).map V.int))) { s with heap := sortedHeap (s1.heap.push (seqObj "list" its.toArray 0)) s1.heap.objs.size its out.toArray, gens := s1.gens, drawn := s1.drawn, toks := s1.toks } :=
    I.call (ch := []) (Un.laid keep hz hn2) (I.hok.laid keep hz ⟨hlen, out, c, vals_of_ints j1, hc2⟩) (by rw [g1]; exact I.bare) (fun _ z => nomatch z)
  refine wpAny_pure ⟨_, rfl, ?_⟩
  have e : ({ s1 with heap := sortedHeap (s1.heap.push (seqObj "list" its.toArray 0)) s1.heap.objs.size its out.toArray } : Shared) = { s with heap := sortedHeap (s1.heap.push (seqObj "list" its.toArray 0)) s1.heap.objs.size its out.toArray, gens := s1.gens, drawn := s1.drawn, toks := s1.toks } := by
    cases s1
    cases s
    cases o1
    rfl
  rw [e]
  exact ⟨.ref s1.heap.objs.size, _, J, rfl, q _ _ (lt_of_le_nodup _ j3 (pn.nodup_iff.mpr nd)) (fun k => by rw [pn.mem_iff, ← hm k]) hn2⟩
end
end Mir

/-! Mir: sorted(set(xs)) and tuple(range(a, b, c)) in the layer. -/
namespace Mir
open PySem PySem.Spec PyProof.Rows L2
/-! ### numbers in order, each once -/
def insU (k : Int) : List Int → List Int
  | [] => [k]
  | x :: r => if k < x then k :: x :: r else if k = x then x :: r else x :: insU k r
def setI (ns : List Int) : List Int := ns.foldr insU []
theorem insU_mem {k x : Int} : ∀ {l : List Int}, x ∈ insU k l ↔ x = k ∨ x ∈ l
  | [] => by simp [insU]
  | y :: r => by
    unfold insU
    split
    · simp
    · split
      · rename_i h
        subst h
        simp
      · rw [List.mem_cons, insU_mem, List.mem_cons]
        constructor
        · rintro (h | h | h)
          · exact .inr (.inl h)
          · exact .inl h
          · exact .inr (.inr h)
        · rintro (h | h | h)
          · exact .inr (.inl h)
          · exact .inl h
          · exact .inr (.inr h)
theorem insU_up {k : Int} : ∀ {l : List Int}, l.Pairwise (· < ·) → (insU k l).Pairwise (· < ·)
  | [], _ => by simp [insU]
  | y :: r, h => by
    obtain ⟨h1, h2⟩ := List.pairwise_cons.mp h
    unfold insU
    split
    · rename_i c
      exact List.pairwise_cons.mpr ⟨fun z hz => by
        rcases List.mem_cons.mp hz with rfl | hz
        · exact c
        · have := h1 z hz
          omega, h⟩
    · split
      · exact h
      · refine List.pairwise_cons.mpr ⟨fun z hz => ?_, insU_up h2⟩
        rcases insU_mem.mp hz with rfl | hz
        · omega
        · exact h1 z hz
theorem setI_mem {ns : List Int} {x : Int} : x ∈ setI ns ↔ x ∈ ns := by
  induction ns with
  | nil => simp [setI]
  | cons k r ih =>
    show x ∈ insU k (setI r) ↔ _
    rw [insU_mem, ih, List.mem_cons]
theorem setI_up (ns : List Int) : (setI ns).Pairwise (· < ·) := by
  induction ns with
  | nil => simp [setI]
  | cons k r ih => exact insU_up ih
theorem up_same : ∀ {l m : List Int}, l.Pairwise (· < ·) → m.Pairwise (· < ·) → (∀ k, k ∈ l ↔ k ∈ m) → l = m
  | [], [], _, _, _ => rfl
  | [], y :: m, _, _, h => absurd ((h y).mpr List.mem_cons_self) (by simp)
  | x :: l, [], _, _, h => absurd ((h x).mp List.mem_cons_self) (by simp)
  | x :: l, y :: m, hl, hm, h => by
    obtain ⟨a1, a2⟩ := List.pairwise_cons.mp hl
    obtain ⟨b1, b2⟩ := List.pairwise_cons.mp hm
    have e : x = y := by
      rcases List.mem_cons.mp ((h x).mp List.mem_cons_self) with z | z
      · exact z
      · rcases List.mem_cons.mp ((h y).mpr List.mem_cons_self) with w | w
        · exact w.symm
        · have := b1 x z
          have := a1 y w
          omega
    subst e
    have rest : ∀ k, k ∈ l ↔ k ∈ m := fun k => by
      constructor
      · intro hk
        rcases List.mem_cons.mp ((h k).mp (List.mem_cons_of_mem _ hk)) with z | z
        · have := a1 k hk
          omega
        · exact z
      · intro hk
        rcases List.mem_cons.mp ((h k).mpr (List.mem_cons_of_mem _ hk)) with z | z
        · have := b1 k hk
          omega
        · exact z
    rw [up_same a2 b2 rest]
theorem setI_of {ns : List Int} (h : ns.Pairwise (· < ·)) : setI ns = ns := up_same (setI_up ns) h fun _ => setI_mem
/-- sorted(set(x)) -/
def lSetSort (x : W) (h : PH) : Option (List W × PH) := (seqOf x h).bind fun ws => (intsW ws).bind fun ns => if ns.length ≤ 4000 then some ((setI ns).map W.int, h) else none
section
variable {X : Cx} {W0 : WX} {e : Expr} {m1 : EM} {p p2 pos pos2 : Pos}
theorem sl_sortSet (hc : X.calm = true) (hm : X.mg "sorted" = none) (hm2 : X.mg "set" = none) (ha : SE X W0 e m1) (hg : Gl X "sorted" := by rfl) (hg2 : Gl X "set" := by rfl)
    (he : starEach [.Call (.Name "set" p2) [e] [] pos2] X.env = (false, eval (.Call (.Name "set" p2) [e] [] pos2) X.env) :: starEach [] X.env := by rfl)
    (he2 : starEach [e] X.env = (false, eval e X.env) :: starEach [] X.env := by rfl) (hpl : (backTo pos (starEach [] X.env)).any (·.1) = false := by rfl) (hpl2 : (backTo pos2 (starEach [] X.env)).any (·.1) = false := by rfl) :
    SL X W0 (.Call (.Name "sorted" p) [.Call (.Name "set" p2) [e] [] pos2] [] pos) (mOnV lSetSort m1) :=
  pe_imp (pe_callB (cr_sortedSN hc) hg hm boot_sorted (pa_cons (pe_callTy (cr_setI hc) hg2 hm2 boot_set (pa_cons ha pa_nil he2) (by decide) (by decide) he2 hpl2) pa_nil he) (by decide) (by decide) he hpl) fun σ H Q h => by
  obtain ⟨f, h, ps, s, sr, p⟩ := h
  refine ⟨f, h, ps, s, sr, (Post.bind (R1 := RW X.K) s back_L p).mono (fun v H1 hh => ?_) fun _ _ _ e => e⟩
  obtain ⟨f1, h1, x, s1, q1, p1⟩ := hh
  unfold lSetSort at p1
  cases e1 : seqOf x h1 with
  | none => rw [e1] at p1; exact p1.elim
  | some ws =>
    cases e2 : intsW ws with
    | none => rw [e1, Option.bind_some, e2] at p1; exact p1.elim
    | some ns =>
      rw [e1, Option.bind_some, e2, Option.bind_some] at p1
      split at p1
      · rename_i hn
        obtain ⟨a, vs, rfl, hq, rr⟩ := seqOf_rep s1.sim q1 e1
        have ev := intsW_rep e2 rr
        subst ev
        refine ⟨a, ns, rfl, by unfold scanBound; omega, hq, fun d c hd _ => ?_⟩
        refine ⟨d, _, c, rfl, upd_same, fun ns' q up mem hq2 => ?_⟩
        have en : ns' = setI ns := up_same up (setI_up ns) fun k => by rw [mem, setI_mem, decide_eq_true_eq]
        subst en
        have st1 := s1.sim.other (o := SetO X.w d (fun j => decide (j ∈ ns)) c) hd
        have st2 := st1.sim.other (o := .lst ((setI ns).map V.int)) hq2
        have nq : H1 q = none := by
          have : q ≠ d := fun z => by rw [z, upd_same] at hq2; cases hq2
          rwa [upd_ne this] at hq2
        exact p1 f1 _ _ (st1.trans st2) ⟨q, _, rfl, nq, s1.sim.fresh nq, upd_same, reps_ints _⟩
      · exact p1.elim
end
/-! ### tuple(range(a, b, c)) -/
def rgN (a b c : Int) : Nat := if a < b then ((b - a - 1) / c + 1).toNat else 0
def mTupRg3 (l : LM) : EM := fun ps h => (l ps h).bind fun xs h1 => match xs with
  | [.int a, .int b, .int c] => if 0 < c ∧ c ≤ 1000 ∧ 0 ≤ a ∧ a ≤ 1000000 ∧ 0 ≤ b ∧ b ≤ 1000000 then .ok (.tup ((List.range (rgN a b c)).map fun k => .int (a + (k : Nat) * c))) h1 else .stuck
  | _ => .stuck
def tTupRg3 (ta : TA) : TE := fun σ H Q => ta σ H fun vs H1 => ∃ (a b c : Int), vs = [.int a, .int b, .int c] ∧ 0 < c ∧ c ≤ 1000 ∧ 0 ≤ a ∧ a ≤ 1000000 ∧ 0 ≤ b ∧ b ≤ 1000000 ∧
  ∀ q, H1 q = none → Q (.ref q) (upd H1 q (.tup ((List.range (rgN a b c)).map fun k => .int (a + (k : Nat) * c))))
theorem rg_size {a b c : Int} (h : 0 < c) : Builtin.Range.rangeSize a b c = (rgN a b c : Nat) := by
  unfold Builtin.Range.rangeSize rgN
  rw [if_pos h]
  split
  · have : 0 ≤ (b - a - 1) / c := Int.ediv_nonneg (by omega) (by omega)
    omega
  · rfl
theorem rg_le {a b c : Int} (h : 0 < c) (ha : 0 ≤ a) (hb : b ≤ 1000000) : rgN a b c ≤ 1000000 := by
  unfold rgN
  split
  · have h1 : (b - a - 1) / c ≤ b - a - 1 := Int.ediv_le_self _ (by omega)
    omega
  · omega
theorem rg_small {a b c : Int} (h : 0 < c) (hc : c ≤ 1000) (ha : 0 ≤ a) (ha2 : a ≤ 1000000) (hb : 0 ≤ b) (hb2 : b ≤ 1000000) : Builtin.Range.small a b c = true := by
  have h1 := rg_size (a := a) (b := b) h
  have h2 := rg_le (a := a) (b := b) h ha hb2
  have h3 : (rgN a b c : Int) * c ≤ 1000000 * 1000 := by
    refine Int.le_trans (Int.mul_le_mul_of_nonneg_right (c := c) (by omega : (rgN a b c : Int) ≤ 1000000) (by omega)) (Int.mul_le_mul_of_nonneg_left hc (by decide))
  have h4 : 0 ≤ (rgN a b c : Int) * c := Int.mul_nonneg (by omega) (by omega)
  unfold Builtin.Range.small
  rw [h1]
  simp only [Builtin.Range.rangeFitsLong, Bool.and_eq_true, Bool.or_eq_true, decide_eq_true_eq, beq_iff_eq]
  rw [if_pos h]
  simp only [Builtin.Range.rangeFitsLong, Bool.and_eq_true, decide_eq_true_eq]
  refine ⟨⟨⟨⟨⟨by omega, by omega⟩, ⟨by omega, by omega⟩⟩, ⟨by omega, by omega⟩⟩, ⟨by omega, by omega⟩⟩, .inr ⟨by omega, by omega⟩⟩
theorem pe_tupRg3 {X : Cx} {a b c : Expr} {ta : TA} {p p2 pos pos2 : Pos} (hc : X.calm = true) (hg : Gl X "tuple") (hm : X.mg "tuple" = none) (hg2 : Gl X "range") (hm2 : X.mg "range" = none) (ha : PA X [a, b, c] ta)
    (he : starEach [.Call (.Name "range" p2) [a, b, c] [] pos2] X.env = (false, eval (.Call (.Name "range" p2) [a, b, c] [] pos2) X.env) :: starEach [] X.env := by rfl)
    (hs : starEach [a, b, c] X.env = (false, eval a X.env) :: starEach [b, c] X.env := by rfl) (hpl : (backTo pos2 (starEach [b, c] X.env)).any (·.1) = false := by rfl) :
    PE X (.Call (.Name "tuple" p) [.Call (.Name "range" p2) [a, b, c] [] pos2] [] pos) (tTupRg3 ta) := by
  refine ⟨fun pins s σ H Q I h => ?_⟩
  refine Call_ (ld_blt I hg hm boot_tuple (PyProof.Rows.callWith_type1 (args_cons (Call_ (ld_blt I hg2 hm2 boot_range (PyProof.Rows.callWith_type1 (thn (ha.run pos2 pins s σ H _ I h) fun us s1 ⟨vs, H1, I1, r1, q1⟩ => ?_) hs hpl))) he) he))
  obtain ⟨i, j, k, e, c0, c1, a0, a1, b0, b1, q⟩ := q1
  subst e
  cases r1 with
  | cons r rr =>
    cases rr with
    | cons r' rr =>
      cases rr with
      | cons r'' rr =>
        cases rr
        obtain ⟨t, rfl⟩ := r
        obtain ⟨t', rfl⟩ := r'
        obtain ⟨t'', rfl⟩ := r''
        refine call_range_3 (by omega) ?_ (.inl (PyProof.noPylong_small (by omega)))
        refine args_nil ?_
        have I2 : Inv X pins σ H1 { s1 with heap := s1.heap.push { cls := .type "range", data := .fields #[.int i t, .int j t', .int k t''] } } := I1.kept (t' := s1.toks) fun b o e => Heap.get?_push_of_some _ e
        refine call_tuple_range (n := rgN i j k) (I2.ok.hd hc) (IsRange.new ..) (rg_small c0 c1 a0 a1 b0 b1) (rg_size c0) (Nat.le_trans (rg_le c0 a0 b1) (by decide)) fun h' tk acc hk hi => ?_
        have I3 : Inv X pins σ H1 { s1 with heap := h', toks := tk } := I2.kept hk
        have el : acc.toList.length = rgN i j k := by rw [Array.length_toList]; exact hi.1
        have vals : Vals ((List.range (rgN i j k)).map fun x => V.int (i + (x : Nat) * k)) acc.toList := by
          rw [← el]
          refine vals_of_get acc.toList _ fun x u hx => ?_
          obtain ⟨t, rfl⟩ := hi.2 x u (by rw [← hx, Array.getElem?_toList])
          exact ⟨t, rfl⟩
        refine ⟨.ref h'.objs.size, upd H1 h'.objs.size (.tup ((List.range (rgN i j k)).map fun x => V.int (i + (x : Nat) * k))), I3.laid (t' := tk) (fun b u e => Heap.get?_push_of_some _ e) (Nat.le_refl _) (show ObjOk X.prog X.w _ _ _ (.tup _) from ⟨?_, acc.toList, vals, ?_⟩), rfl, q _ (I3.hok.fresh (Nat.le_refl _))⟩
        · rw [List.length_map, List.length_range, sizeLine_eq]
          exact Nat.le_trans (rg_le c0 a0 b1) (by decide)
        · rw [Array.toArray_toList]
          exact IsTup.new _ _
section
variable {X : Cx} {W0 : WX} {a b c : Expr} {l1 : LM} {p p2 pos pos2 : Pos}
theorem se_tupRg3 (hc : X.calm = true) (hm : X.mg "tuple" = none) (hm2 : X.mg "range" = none) (ha : SA X W0 [a, b, c] l1) (hg : Gl X "tuple" := by rfl) (hg2 : Gl X "range" := by rfl)
    (he : starEach [.Call (.Name "range" p2) [a, b, c] [] pos2] X.env = (false, eval (.Call (.Name "range" p2) [a, b, c] [] pos2) X.env) :: starEach [] X.env := by rfl)
    (hs : starEach [a, b, c] X.env = (false, eval a X.env) :: starEach [b, c] X.env := by rfl) (hpl : (backTo pos2 (starEach [b, c] X.env)).any (·.1) = false := by rfl) :
    SE X W0 (.Call (.Name "tuple" p) [.Call (.Name "range" p2) [a, b, c] [] pos2] [] pos) (mTupRg3 l1) :=
  pe_imp (pe_tupRg3 hc hg hm hg2 hm2 ha he hs hpl) fun σ H Q h => by
  obtain ⟨f, h, ps, s, sr, p⟩ := h
  refine ⟨f, h, ps, s, sr, (Post.bind s back_W p).mono (fun v H1 hh => ?_) fun _ _ _ e => e⟩
  obtain ⟨f1, h1, xs, s1, q1, p1⟩ := hh
  split at p1
  · rename_i a b c
    split at p1
    · rename_i hh
      obtain ⟨c0, c1, a0, a1, b0, b1⟩ := hh
      refine ⟨a, b, c, ?_, c0, c1, a0, a1, b0, b1, fun q hq => ?_⟩
      · have := intsW_rep (bs := [a, b, c]) rfl q1
        exact this
      · have rr : Reps X.K f1 H1 ((List.range (rgN a b c)).map fun k => W.int (a + (k : Nat) * c)) ((List.range (rgN a b c)).map fun k => V.int (a + (k : Nat) * c)) := by
          generalize List.range (rgN a b c) = l
          induction l with
          | nil => exact .nil
          | cons i r ih => exact .cons (rep_int.mpr rfl) ih
        exact post_tup s1.sim p1 rr hq
    · exact p1.elim
  · exact p1.elim
end
end Mir

/-! Mir: a tuple, taken some times over, or once, or not at all. -/
namespace Mir
open PySem PySem.Spec PyProof.Rows L2
theorem tuple_mul1 (l : Addr) (items : Array Value) (n : Nat) (dd : Option Addr) (sl : Array (Option Value)) (u : Tok) :
    Meets (Builtin.«tuple.__mul__» ⟨[.ref l, .int 1 u], []⟩) (fun _ R s => s.heap.get? l = some { cls := .type "tuple", dict := dd, data := .seq items n, slots := sl } ∧ R (.ok (.ret (Value.ref l))) s) :=
  .of_wp fun prog w A R s h => by
    obtain ⟨hp, g, d, tk, os⟩ := s
    obtain ⟨hl, h⟩ := h
    have f1 := AutoSeq1.idx_int
    have c0 : (decide ((1 : Int) < -(2 ^ 63)) || decide ((1 : Int) ≥ 2 ^ 63)) = false := by decide
    have c1 : (items.isEmpty || (1 : Int) == 1) = true := by simp
    wp_walk using wpAny_loadPart' hl
    repeat (first
      | (refine wpAny_ite_false (decide_eq_false (by rw [c0]; exact Bool.false_ne_true)) ?_; wp_walk using wpAny_loadPart' hl)
      | (refine wpAny_ite_true (decide_eq_true c1) ?_; wp_walk using wpAny_loadPart' hl))
    exact ⟨_, rfl, h⟩
theorem tuple_mul0 (l : Addr) (items : Array Value) (n : Nat) (dd : Option Addr) (sl : Array (Option Value)) (u : Tok) (hi : items.isEmpty = false) :
    Meets (Builtin.«tuple.__mul__» ⟨[.ref l, .int 0 u], []⟩) (fun _ R s => s.heap.get? l = some { cls := .type "tuple", dict := dd, data := .seq items n, slots := sl } ∧
      R (.ok (.ret (Value.ref s.heap.objs.size))) { s with heap := s.heap.push { cls := Value.type "tuple", data := Data.seq #[] }, toks := s.toks }) :=
  .of_wp fun prog w A R s h => by
    obtain ⟨hp, g, d, tk, os⟩ := s
    obtain ⟨hl, h⟩ := h
    have f1 := AutoSeq1.idx_int
    have c0 : (decide ((0 : Int) < -(2 ^ 63)) || decide ((0 : Int) ≥ 2 ^ 63)) = false := by decide
    have c1 : (items.isEmpty || (0 : Int) == 1) = false := by rw [hi]; rfl
    have c2 : (decide ((0 : Int) ≤ 0) || items.isEmpty) = true := by simp
    wp_walk using wpAny_loadPart' hl
    repeat (first
      | (refine wpAny_ite_false (decide_eq_false (by rw [c0]; exact Bool.false_ne_true)) ?_; wp_walk using wpAny_loadPart' hl)
      | (refine wpAny_ite_false (decide_eq_false (by rw [c1]; exact Bool.false_ne_true)) ?_; wp_walk using wpAny_loadPart' hl)
      | (refine wpAny_ite_true (decide_eq_true c2) ?_; wp_walk using wpAny_loadPart' hl))
    exact ⟨_, rfl, h⟩
def rRep01 (K : PySem.W.Frag) : R2 := fun x y H Q => ∃ l k xs, x = .ref l ∧ y = .int k ∧ SqT K H l xs ∧ xs ≠ [] ∧ ((k = 1 ∧ Q (.ref l) H) ∨ (k = 0 ∧ ∀ p, H p = none → Q (.ref p) (upd H p (.tup []))))
section
variable {X : Cx}
theorem op_rep01 : OpR X (binaryOp .Mult) (rRep01 X.K) := by
  intro pins s σ H x y v u Q I rx ry h
  obtain ⟨l, k, xs, rfl, rfl, hT, hne, h⟩ := h
  cases rx
  obtain ⟨t, rfl⟩ := ry
  obtain ⟨its, r, ⟨⟨cls, dd, data, sl⟩, ho, hc, n, hd⟩, hs⟩ := I.tuple hT
  simp only at hc hd
  subst hc hd
  have hi : its.toArray.isEmpty = false := by
    cases its with
    | nil =>
      cases r
      exact absurd rfl hne
    | cons a b => rfl
  rcases h with ⟨rfl, q⟩ | ⟨rfl, q⟩
  · refine wpAny_binaryOp_repeat_ref (T := "tuple") (U := "int") (by decide) ⟨_, ho, rfl⟩ (fun s' => typeIs_int s' 1 t) noFill_tuple_mul F.fills_int_mul F.slot_int_rmul repeat_tuple F.slot_int_index.lookup
      (call_meets F.slot_int_rmul (typeIs_int s 1 t) F.entry_int_rmul (F.args_int_rmul_2 _ _) (int_rmul_tuple 1 t l its.toArray n dd sl)
        ⟨ho, rfl, ⟨_, ho, rfl⟩, call_meets F.slot_tuple_mul ⟨_, ho, rfl⟩ F.entry_tuple_mul (F.args_tuple_mul_2 _ _) (tuple_mul1 l its.toArray n dd sl t) ⟨ho, ?_⟩⟩)
    exact ⟨.ref l, H, I, rfl, q⟩
  · refine wpAny_binaryOp_repeat_ref (T := "tuple") (U := "int") (by decide) ⟨_, ho, rfl⟩ (fun s' => typeIs_int s' 0 t) noFill_tuple_mul F.fills_int_mul F.slot_int_rmul repeat_tuple F.slot_int_index.lookup
      (call_meets F.slot_int_rmul (typeIs_int s 0 t) F.entry_int_rmul (F.args_int_rmul_2 _ _) (int_rmul_tuple 0 t l its.toArray n dd sl)
        ⟨ho, rfl, ⟨_, ho, rfl⟩, call_meets F.slot_tuple_mul ⟨_, ho, rfl⟩ F.entry_tuple_mul (F.args_tuple_mul_2 _ _) (tuple_mul0 l its.toArray n dd sl t hi) ⟨ho, ?_⟩⟩)
    refine ⟨.ref s.heap.objs.size, _, I.laid (t' := s.toks) (o := .tup []) (fun b ob q => Heap.get?_push_of_some _ q) (Nat.le_refl _) ?_, rfl, q _ (I.hok.fresh (Nat.le_refl _))⟩
    exact ⟨Nat.zero_le _, [], .nil, IsTup.new _ _⟩
end
def wMulT : W → W → PH → Option (W × PH)
  | .tup xs, .int k, h => if xs ≠ [] ∧ 0 ≤ k ∧ k ≤ 1000 ∧ xs.length ≤ 1000 then some (.tup (List.replicate k.toNat xs).flatten, h) else none
  | _, _, _ => none
section
variable {K : PySem.W.Frag} {X : Cx} {W0 : WX} {a b : Expr} {m1 m2 : EM} {pos : Pos}
theorem op2_mulT : Op2 K (fun x y H Q => rRepT K x y H Q ∨ rRep01 K x y H Q) wMulT := by
  intro f h H x y v u Q E s rx ry p
  unfold wMulT at p
  split at p
  · rename_i _ _ _ xs k
    split at p
    · rename_i c
      obtain ⟨a, vs, rfl, ha, ra⟩ := rep_tup.mp rx
      have ne : vs ≠ [] := fun e => by
        subst e
        have z := ra.length
        exact c.1 (List.length_eq_zero_iff.mp z)
      by_cases c2 : 2 ≤ k
      · exact .inl ⟨a, _, vs, rfl, rep_int.mp ry, ha, ne, c2, c.2.2.1, by rw [← ra.length]; exact c.2.2.2, fun q hq => post_tup s p (ra.rep_flat _) hq⟩
      · refine .inr ⟨a, _, vs, rfl, rep_int.mp ry, ha, ne, ?_⟩
        by_cases c1 : k = 1
        · subst c1
          refine .inl ⟨rfl, post_ok s p (rep_tup.mpr ⟨a, vs, rfl, ha, ?_⟩)⟩
          simpa using ra
        · have c0 : k = 0 := by omega
          subst c0
          exact .inr ⟨rfl, fun q hq => post_tup s p (by simp; exact .nil) hq⟩
    · exact p.elim
  · exact p.elim
theorem se_mulT (ha : SE X W0 a m1) (hb : SE X W0 b m2) : SE X W0 (.BinOp a .Mult b pos) (mOp wMulT m1 m2) := se_bin (op_repT.or op_rep01) op2_mulT ha hb
end
end Mir

/-! objects, sorted, index: how their computations end -/
namespace Mir
open PySem PySem.Spec PyProof.Rows L2
section
variable {Q : W → PH → Prop} {Ql : List W → PH → Prop} {N B C : LS → PH → Prop} {R : W → PH → Prop} {ps : LS} {h : PH} {m m1 m2 : EM} {l : LM} {kc : List Str} {f c mn : Str} {n : Nat} {F : FM}
@[simp] theorem to_setfld : (sSetFld kc f m1 m2 ps h).To N R B C = (m1 ps h).To fun w g => (m2 ps g).To fun x g => OTo (setFW kc f x w g) fun g' => N ps g' := by
  simp only [sSetFld, to_thenS]
  congr 1
  funext w g
  congr 1
  funext x g
  cases setFW kc f x w g <;> simp
@[simp] theorem to_mth : (mMth c mn n F m l ps h).To Q = (m ps h).To fun x g => insOf c mn x g = true ∧ (l ps g).To fun xs g => xs.length + 1 = n ∧ (F (x :: xs) g).To Q := by
  simp [mMth]
@[simp] theorem to_mth0 : (mMth0 c mn F m ps h).To Q = (m ps h).To fun x g => insOf c mn x g = true ∧ (F [x] g).To Q := by
  simp [mMth0]
@[simp] theorem to_make : (mMake c n F l ps h).To Q = (l ps h).To fun xs g => xs.length + 1 = n ∧ (F (.ref g.length :: xs) (g ++ [.ins c []])).To fun w g2 => w = .non ∧ Q (.ref g.length) g2 := by
  simp only [mMake, to_bind]
  congr 1
  funext xs g
  by_cases e : xs.length + 1 = n
  · simp only [e, if_true, to_bind, true_and]
    congr 1
    funext w g2
    cases w <;> simp
  · simp [e]
@[simp] theorem to_onV {α : Type} {Qa : α → PH → Prop} {o : W → PH → Option (α × PH)} : (mOnV o m ps h).To Qa = (m ps h).To fun x g => PTo (o x g) Qa := by simp [mOnV]
@[simp] theorem to_rev : (mRev m ps h).To Ql = (m ps h).To fun x g => OTo (lstOf x g) fun ws => Ql ws.reverse g := by
  simp only [mRev, to_bind]
  congr 1
  funext x g
  cases lstOf x g <;> simp
@[simp] theorem to_listRg1 : (mListRg1 m ps h).To Ql = (m ps h).To fun x g => ∃ k : Int, x = .int k ∧ (-1000000 ≤ k ∧ k ≤ 1000000) ∧ Ql (rangeW 0 k.toNat) g := by
  simp only [mListRg1, to_bind]
  congr 1
  funext x g
  cases x <;> simp
@[simp] theorem to_repL : (mRepL l m ps h).To Ql = (l ps h).To fun xs g => (m ps g).To fun y g => ∃ k : Int, y = .int k ∧ (-1000000 ≤ k ∧ k ≤ 1000000 ∧ xs.length * k.toNat ≤ 16777216) ∧ Ql (List.replicate k.toNat xs).flatten g := by
  simp only [mRepL, to_bind]
  congr 1
  funext xs g
  congr 1
  funext y g
  cases y <;> simp
theorem fldW_ins {fs : List (Str × W)} (e : h[n]? = some (.ins c fs)) (hc : c ∈ kc) : fldW kc f (.ref n) h = (fs.lookup f).map fun w => (w, h) := by
  simp only [fldW, e]
  rw [if_pos hc]
theorem setFW_ins {fs : List (Str × W)} {w : W} (e : h[n]? = some (.ins c fs)) (hc : c ∈ kc) (hl : fs.length < 1000) : setFW kc f (.ref n) w h = some (h.set n (.ins c (putFW f w fs))) := by
  simp only [setFW, e]
  rw [if_pos ⟨hc, hl⟩]
theorem insOf_ins {fs : List (Str × W)} (e : h[n]? = some (.ins c fs)) (hl : fs.lookup mn = none) : insOf c mn (.ref n) h = true := by
  simp only [insOf, e]
  simp [hl]
theorem setW_dK {kvs : List (Key × W)} {y w : W} {k : Key} (e : h[n]? = some (.dK kvs)) (hk : keyW y = some k) (hl : kvs.length < 16777216) : setW (.ref n) y w h = some (h.set n (.dK (putKW kvs k w))) := by
  simp only [setW, e, hk]
  rw [if_pos (by omega)]
theorem at0 {α : Type} {x : α} {xs : List α} : atI (x :: xs) 0 = some x := by simp [atI, ixN]
theorem at1 {α : Type} {x y : α} {xs : List α} : atI (x :: y :: xs) 1 = some y := by
  rw [atI_nat _ _ (by decide)]
  rfl
theorem ints_map (l : List Int) : intsW (l.map W.int) = some l := by
  induction l with
  | nil => rfl
  | cons a r ih => simp [intsW, ih]
theorem keysI_map {α : Type} (g : α → Int) (v : α → W) (l : List α) : keysI (l.map fun a => ((.inl (g a) : Key), v a)) = some (l.map g) := by
  induction l with
  | nil => rfl
  | cons a r ih => simp [keysI, ih]
theorem find_flat {ws : List W} {y : W} {j : Nat} (hj : j < ws.length) (h1 : eqF ws[j] y = true) (h2 : ∀ m (hm : m < j), eqF (ws[m]'(by omega)) y = false) : ws.findIdx? (fun z => eqF z y) = some j := by
  rw [List.findIdx?_eq_some_iff_getElem]
  exact ⟨hj, h1, fun m hm => by simpa using h2 m hm⟩
end
end Mir

/-! arenas as values (shared by all laws) -/
namespace Mir
open PySem PySem.Spec PyProof.Rows L2
@[simp] theorem set0 {o o2 : OB} {r : PH} : (o :: r : List OB).set 0 o2 = o2 :: r := rfl
theorem ite_abs (i : Int) : 0 ≤ (if i < 0 then -i else i) := by split <;> omega
theorem decs (P : Prop) [i : Decidable P] (j : Decidable P) : @decide P i = @decide P j := by congr
@[simp] theorem wNe_nil {ns : List Int} {h : PH} : wNe (.fix (ns.map W.int)) (.fix []) h = some (.bl (!decide (ns = [])), h) := by
  rw [wNe_pl (n := 1) (m := 1) (by simp) (by simp) (by decide) (by decide)]
  congr 3
  by_cases q : ns = [] <;> simp [q]
theorem log_lit (m : Int) (h0 : 0 ≤ m) (h : m < 1152921504606846976) : m.natAbs.log2 < 9000 := by
  have : m.natAbs < 2 ^ 60 := by omega
  by_cases z : m.natAbs = 0
  · rw [z]; decide
  · exact Nat.lt_of_lt_of_le ((Nat.log2_lt z).mpr this) (by decide)
/-! ### arenas -/
abbrev Mv := Int × Int × Int
abbrev Rm := Int × List Mv
def encM (m : Mv) : W := .tup [.int m.1, .int m.2.1, .int m.2.2]
def encMs (l : List Mv) : W := .tup (l.map encM)
def encR (r : Rm) : W := .tup [.int r.1, encMs r.2]
def encI (l : List Int) : W := .tup (l.map W.int)
def encK (k : Str × List Int) : W := .tup [.str k.1, encI k.2]
def encA (rs : List Rm) (ks : List (Str × List Int)) : W := .tup [.tup (rs.map encR), .tup (ks.map encK)]
@[simp] theorem refs_M (m : Mv) : refsW (encM m) = [] := by simp [encM]
@[simp] theorem refs_Ms (m : List Mv) : refsW (encMs m) = [] := by simp [encMs, refs_map encM m fun _ _ => refs_M _]
@[simp] theorem refs_R (m : Rm) : refsW (encR m) = [] := by simp [encR]
@[simp] theorem refs_I (m : List Int) : refsW (encI m) = [] := by simp [encI]
@[simp] theorem refs_K (m : Str × List Int) : refsW (encK m) = [] := by simp [encK]
@[simp] theorem refs_A (rs : List Rm) (ks : List (Str × List Int)) : refsW (encA rs ks) = [] := by simp [encA, refs_map encR rs fun _ _ => refs_R _, refs_map encK ks fun _ _ => refs_K _]
/-- a sound move, room, arena of n rooms -/
def GM' (n : Nat) (m : Mv) : Prop := 0 ≤ m.1 ∧ m.1 < n ∧ -1000 ≤ m.2.1 ∧ m.2.1 ≤ 1000 ∧ 0 ≤ m.2.2 ∧ m.2.2 ≤ 1
def GR (n : Nat) (r : Rm) : Prop := 0 ≤ r.1 ∧ r.1 ≤ 1 ∧ r.2.length ≤ 24 ∧ ∀ m ∈ r.2, GM' n m
def GRs (n : Nat) (rs : List Rm) : Prop := ∀ r ∈ rs, GR n r
def incr (n : Nat) (l : List Int) : Prop := l.Pairwise (· < ·) ∧ ∀ x ∈ l, 0 ≤ x ∧ x < n
theorem incr.snoc {i : Nat} {l : List Int} (h : incr i l) : incr (i + 1) (l ++ [(i : Int)]) := by
  refine ⟨List.pairwise_append.mpr ⟨h.1, by simp, fun a ha b hb => ?_⟩, fun x hx => ?_⟩
  · rw [List.mem_singleton.mp hb]
    exact (h.2 a ha).2
  · rcases List.mem_append.mp hx with z | z
    · have := h.2 x z
      omega
    · rw [List.mem_singleton.mp z]
      omega
theorem incr.up {i j : Nat} {l : List Int} (h : incr i l) (ij : i ≤ j) : incr j l := ⟨h.1, fun x hx => by have := h.2 x hx; omega⟩
def GI (n : Nat) (l : List Int) : Prop := l.length ≤ n ∧ incr n l
theorem get_end (a b : OB) (g : PH) (y : OB) : (a :: b :: (g ++ [y]) : List OB)[g.length + 1 + 1]? = some y := by simp
theorem set_end (a b : OB) (g : PH) (y z : OB) : (a :: b :: (g ++ [y]) : List OB).set (g.length + 1 + 1) z = a :: b :: (g ++ [z]) := by simp
theorem range_get {lo : Int} {n i : Nat} {w : W} (e : (rangeW lo n)[i]? = some w) : i < n ∧ w = .int (lo + (i : Nat)) := by
  unfold rangeW at e
  rw [List.getElem?_map] at e
  by_cases h : i < n
  · rw [List.getElem?_range h] at e
    exact ⟨h, (Option.some.inj e).symm⟩
  · rw [List.getElem?_eq_none (by rw [List.length_range]; omega)] at e
    cases e
@[simp] theorem range_len {lo : Int} {n : Nat} : (rangeW lo n).length = n := by simp [rangeW]
def rm (rs : List Rm) (i : Int) : Rm := rs.getD i.toNat (0, [])
def mv (ms : List Mv) (i : Int) : Mv := ms.getD i.toNat (0, 0, 0)
section
variable {rs : List Rm} {ks : List (Str × List Int)} {ms : List Mv} {i : Int} {Q : W → Prop} {n : Nat} {h : PH}
theorem oto_rm (h0 : 0 ≤ i) (h1 : i < rs.length) : OTo (atI (rs.map encR) i) Q = Q (encR (rm rs i)) := by
  have hi : i.toNat < rs.length := by omega
  rw [atI_map, oto_map, atI_nat _ _ h0, List.getElem?_eq_getElem hi, oto_some]
  simp [rm, List.getD, List.getElem?_eq_getElem hi]
theorem oto_mv (h0 : 0 ≤ i) (h1 : i < ms.length) : OTo (atI (ms.map encM) i) Q = Q (encM (mv ms i)) := by
  have hi : i.toNat < ms.length := by omega
  rw [atI_map, oto_map, atI_nat _ _ h0, List.getElem?_eq_getElem hi, oto_some]
  simp [mv, List.getD, List.getElem?_eq_getElem hi]
theorem rm_mem (h0 : 0 ≤ i) (h1 : i < rs.length) : rm rs i ∈ rs := by
  have hi : i.toNat < rs.length := by omega
  simp [rm, List.getD, List.getElem?_eq_getElem hi]
theorem mv_mem (h0 : 0 ≤ i) (h1 : i < ms.length) : mv ms i ∈ ms := by
  have hi : i.toNat < ms.length := by omega
  simp [mv, List.getD, List.getElem?_eq_getElem hi]
@[simp] theorem ix_A0 : wIx (encA rs ks) (.int 0) h = some (.tup (rs.map encR), h) := rfl
@[simp] theorem ix_A1 : wIx (encA rs ks) (.int 1) h = some (.tup (ks.map encK), h) := rfl
@[simp] theorem ix_R0 {r : Rm} : wIx (encR r) (.int 0) h = some (.int r.1, h) := rfl
@[simp] theorem ix_R1 {r : Rm} : wIx (encR r) (.int 1) h = some (encMs r.2, h) := rfl
@[simp] theorem ix_M0 {m : Mv} : wIx (encM m) (.int 0) h = some (.int m.1, h) := rfl
@[simp] theorem ix_M1 {m : Mv} : wIx (encM m) (.int 1) h = some (.int m.2.1, h) := rfl
@[simp] theorem ix_Ms {j : Int} : wIx (encMs ms) (.int j) h = (atI (ms.map encM) j).map fun w => (w, h) := rfl
@[simp] theorem len_Ms : wLen [encMs ms] h = some (.int ms.length, h) := by simp [encMs]
@[simp] theorem it_Ms {k : Nat} : iterOf k (encMs ms) h = some (itS (ms.map encM)) := rfl
@[simp] theorem itE_Ms {k : Nat} : iterE k (encMs ms) h = some (itE (itS (ms.map encM))) := rfl
end
end Mir

/-! the draws: a list of the script and three numbers (shared) -/
namespace Mir
open PySem PySem.Spec PyProof.Rows L2
/-- the draws: the script, the place, the digits left, the count -/
def Dr (sc : List Int) (B : Int) (o : OB) : Prop := ∃ a b c : Int, o = .lst [.fix (sc.map W.int), .int a, .int b, .int c] ∧ 0 ≤ a ∧ 0 ≤ b ∧ 0 ≤ c ∧ c ≤ B
theorem Dr.refs {sc : List Int} {B : Int} {o : OB} (d : Dr sc B o) : refsO o = [] := by
  obtain ⟨a, b, c, rfl, _⟩ := d
  simp
theorem Dr.mono {sc : List Int} {B B' : Int} {o : OB} (d : Dr sc B o) (h : B ≤ B') : Dr sc B' o := by
  obtain ⟨a, b, c, e, h1, h2, h3, h4⟩ := d
  exact ⟨a, b, c, e, h1, h2, h3, by omega⟩
end Mir

/-! dicts of rooms, comprehensions, lists of rooms (shared) -/
namespace Mir
open PySem PySem.Spec PyProof.Rows L2
section
variable {M : SM} {N B C : LS → PH → Prop} {R : W → PH → Prop} {ps : LS} {h : PH}
theorem zip_get {xs ys : List W} {i : Nat} : (itZ (itS xs) (itS ys)).get i h = some (List.zipWith (fun a b => W.tup [a, b]) xs ys)[i]? := by
  show (match (some xs[i]? : Option (Option W)), (some ys[i]? : Option (Option W)) with
  | some (some x), some (some y) => some (some (W.tup [x, y]))
  | some none, some _ => some none
  | some (some _), some none => some none
  | _, _ => none) = _
  rw [List.getElem?_zipWith]
  cases xs[i]? <;> cases ys[i]? <;> rfl
theorem for_zip {xs ys : List W} {g : GM} (I : Nat → LS → PH → Prop) (h0 : I 0 ps h)
    (step : ∀ i x y ps h, xs[i]? = some x → ys[i]? = some y → I i ps h → ∃ ps1, g (.tup [x, y]) ps = some ps1 ∧ (M ps1 h).To (I (i + 1)) R N (I (i + 1))) (fin : ∀ ps h, I (min xs.length ys.length) ps h → N ps h) :
    (forGo (itZ (itS xs) (itS ys)) g M (itZ (itS xs) (itS ys)).fuel 0 ps h).To N R B C :=
  for_gen (items := List.zipWith (fun a b => W.tup [a, b]) xs ys) I (fun i _ h _ => zip_get) (fun i w ps h e q => by
    rw [List.getElem?_zipWith] at e
    cases ex : xs[i]? with
    | none => rw [ex] at e; cases e
    | some x =>
      cases ey : ys[i]? with
      | none => rw [ex, ey] at e; cases e
      | some y =>
        rw [ex, ey] at e
        cases e
        exact step i x y ps h ex ey q) (fun ps h q => fin ps h (by simpa using q)) _ 0 ps h (Nat.zero_le _) (by simp [itZ, itS]; omega) h0
end
/-! ### dicts -/
def dkL (l : List Nat) (u : Nat → W) : List (Key × W) := l.map fun i => (.inl ((i : Nat) : Int), u i)
theorem pairs_dk {l : List Nat} {u : Nat → W} : pairsK (l.map fun i => .tup [.int (i : Nat), u i]) = some (dkL l u) := by
  induction l with
  | nil => simp [pairsK, dkL]
  | cons a r ih =>
    simp only [List.map_cons, pairsK, keyW, ih]
    simp [dkL]
theorem put_new {kvs : List (Key × W)} {k : Key} {w : W} (h : ∀ p ∈ kvs, p.1 ≠ k) : putKW kvs k w = kvs ++ [(k, w)] := by
  unfold putKW
  rw [if_neg]
  intro z
  obtain ⟨p, hp, e⟩ := List.any_eq_true.mp z
  exact h p hp (of_decide_eq_true e)
theorem merge_new : ∀ {b a : List (Key × W)}, (a ++ b).Pairwise (fun p q => p.1 ≠ q.1) → mergeW a b = a ++ b
  | [], a, _ => by simp [mergeW]
  | (k, w) :: r, a, h => by
    show mergeW (putKW a k w) r = _
    have h1 : ∀ p ∈ a, p.1 ≠ k := fun p hp => (List.pairwise_append.mp h).2.2 p hp (k, w) List.mem_cons_self
    rw [put_new h1, merge_new (by simpa using h)]
    simp
theorem merge_dk {l : List Nat} {u : Nat → W} (nd : l.Nodup) : mergeW [] (dkL l u) = dkL l u := by
  rw [merge_new]
  · rfl
  · rw [List.nil_append]
    unfold dkL
    rw [List.pairwise_map]
    exact nd.imp fun {a b} h z => h (by simp only [Sum.inl.injEq] at z; omega)
theorem get_dk {l : List Nat} {u : Nat → W} {t : Nat} : getK (dkL l u) (.inl (t : Int)) = if t ∈ l then some (u t) else none := by
  unfold getK dkL
  rw [List.find?_map]
  induction l with
  | nil => rfl
  | cons a r ih =>
    rw [List.find?_cons]
    by_cases e : a = t
    · subst e
      simp
    · have : (((fun kv : Key × W => decide (kv.1 = .inl (t : Int))) ∘ fun i : Nat => ((.inl (i : Int) : Key), u i)) a) = false := by
        simp [Function.comp]
        omega
      rw [this]
      dsimp only
      rw [ih]
      have : (t ∈ a :: r) ↔ t ∈ r := by
        rw [List.mem_cons]
        exact ⟨fun z => z.resolve_left fun z => e z.symm, .inr⟩
      by_cases c : t ∈ r
      · rw [if_pos c, if_pos (this.mpr c)]
      · rw [if_neg c, if_neg (fun z => c (this.mp z))]
theorem keys_dk {l : List Nat} {u : Nat → W} : keysI (dkL l u) = some (l.map fun i : Nat => (i : Int)) := by
  induction l with
  | nil => simp [keysI, dkL]
  | cons a r ih =>
    have : dkL (a :: r) u = (.inl (a : Int), u a) :: dkL r u := by simp [dkL]
    rw [this]
    simp only [keysI, ih]
    simp
theorem sort_up {l : List Int} (h : l.Pairwise (· ≤ ·)) : sortI l = l := up_unique (sortI_perm l) (sortI_up l) h
section
variable {h : PH} {Ql : List W → PH → Prop} {psw : LS} {g : GM} {te : EM} {tt : BM}
theorem lc_map {α : Type} {L : List α} {enc u : α → W} (hl : L.length ≤ 1000000) (he : ∀ a ∈ L, ∃ ps1, g (enc a) psw = some ps1 ∧ ∀ Q : W → PH → Prop, Q (u a) h → (te ps1 h).To Q) (q : Ql (L.map u) h) :
    (lcGo (itS (L.map enc)) g mYes te psw (itS (L.map enc)).fuel 0 [] h).To Ql := by
  refine lc_items (fun i acc g' => acc = (L.take i).map u ∧ g' = h) ⟨rfl, rfl⟩ ?_ ?_
  · rintro i w acc g' ei ⟨rfl, rfl⟩
    rw [List.getElem?_map] at ei
    obtain ⟨a, ea, rfl⟩ := Option.map_eq_some_iff.mp ei
    have hi := (List.getElem?_eq_some_iff.mp ea).1
    obtain ⟨ps1, e1, e2⟩ := he a (List.mem_of_getElem? ea)
    refine ⟨ps1, e1, ?_⟩
    rw [to_yes, Ite_true]
    refine e2 _ ⟨by simp; omega, ?_, rfl⟩
    rw [List.take_succ, ea]
    simp
  · rintro acc g' ⟨rfl, rfl⟩
    have : L.take (L.map enc).length = L := List.take_of_length_le (by simp)
    rw [this]
    exact q
theorem lc_none {α : Type} {L : List α} {enc : α → W} (he : ∀ a ∈ L, ∃ ps1, g (enc a) psw = some ps1 ∧ ∀ Q : Bool → PH → Prop, Q false h → (tt ps1 h).To Q) (q : Ql [] h) :
    (lcGo (itS (L.map enc)) g tt te psw (itS (L.map enc)).fuel 0 [] h).To Ql := by
  refine lc_items (fun i acc g' => acc = [] ∧ g' = h) ⟨rfl, rfl⟩ ?_ ?_
  · rintro i w acc g' ei ⟨rfl, rfl⟩
    rw [List.getElem?_map] at ei
    obtain ⟨a, ea, rfl⟩ := Option.map_eq_some_iff.mp ei
    obtain ⟨ps1, e1, e2⟩ := he a (List.mem_of_getElem? ea)
    refine ⟨ps1, e1, e2 _ ?_⟩
    rw [Ite_false]
    exact ⟨rfl, rfl⟩
  · rintro acc g' ⟨rfl, rfl⟩
    exact q
end
def idx (p : Nat → Bool) (n : Nat) : List Nat := (List.range n).filter p
theorem idx_mem {p : Nat → Bool} {n i : Nat} : i ∈ idx p n ↔ i < n ∧ p i = true := by simp [idx]
theorem idx_up {p : Nat → Bool} {n : Nat} : (idx p n).Pairwise (· < ·) := (List.pairwise_lt_range).filter _
theorem idx_nd {p : Nat → Bool} {n : Nat} : (idx p n).Nodup := idx_up.imp fun h => Nat.ne_of_lt h
theorem idx_len {p : Nat → Bool} {n : Nat} : (idx p n).length ≤ n := Nat.le_trans (List.length_filter_le _ _) (by simp)
theorem idx_sort {p : Nat → Bool} {n : Nat} : sortI ((idx p n).map fun i : Nat => (i : Int)) = (idx p n).map fun i : Nat => (i : Int) := sort_up (by
  rw [List.pairwise_map]
  exact idx_up.imp fun h => by omega)
theorem sorted_dk {p : Nat → Bool} {n : Nat} {u : Nat → W} {k : Nat} {h : PH} (e : h[k]? = some (.dK (dkL (idx p n) u))) : lSortV (.ref k) h = some ((idx p n).map (fun i => W.int (i : Nat)), h) := by
  simp only [lSortV, intsOf, e, keys_dk, Option.map_some, idx_sort, List.map_map]
  rfl
theorem notIn_dk {l : List Nat} {u : Nat → W} {k t : Nat} {h : PH} (e : h[k]? = some (.dK (dkL l u))) : wNotIn (.int (t : Nat)) (.ref k) h = some (.bl (!decide (t ∈ l)), h) := by
  simp only [wNotIn, inW, e, keyW, Option.map_some, get_dk]
  by_cases c : t ∈ l <;> simp [c]
theorem ix_dk {l : List Nat} {u : Nat → W} {k t : Nat} {h : PH} (e : h[k]? = some (.dK (dkL l u))) (ht : t ∈ l) : wIx (.ref k) (.int (t : Nat)) h = some (u t, h) := by
  simp only [wIx, e, keyW, Option.bind_some, get_dk]
  rw [if_pos ht]
  rfl
theorem ne_idx {l : List Nat} {h : PH} : wNe (.fix (l.map fun i => W.int (i : Nat))) (.fix (l.map fun i => W.int (i : Nat))) h = some (.bl false, h) := by
  have : plW 1 (.fix (l.map fun i => W.int (i : Nat))) = true := by
    rw [pl_fix]
    exact pls_map _ _ fun _ _ => pl_int
  rw [wNe_pl this this (by decide) (by decide)]
  simp
section
variable {h : PH} {Ql : List W → PH → Prop} {psw : LS} {g : GM} {te : EM} {tt : BM}
theorem take_filter {α : Type} {L : List α} {p : α → Bool} {i : Nat} {a : α} (e : L[i]? = some a) : (L.take (i + 1)).filter p = (L.take i).filter p ++ (if p a then [a] else []) := by
  rw [List.take_succ, e, List.filter_append]
  cases q : p a <;> simp [q]
/-- a comprehension that lets some by -/
theorem lc_filt {α : Type} {L : List α} {enc u : α → W} (p : α → Bool) (hl : L.length ≤ 1000000) (he : ∀ a ∈ L, ∃ ps1, g (enc a) psw = some ps1 ∧ (∀ Q : Bool → PH → Prop, Q (p a) h → (tt ps1 h).To Q) ∧ (p a = true → ∀ Q : W → PH → Prop, Q (u a) h → (te ps1 h).To Q)) (q : Ql ((L.filter p).map u) h) :
    (lcGo (itS (L.map enc)) g tt te psw (itS (L.map enc)).fuel 0 [] h).To Ql := by
  refine lc_items (fun i acc g' => acc = ((L.take i).filter p).map u ∧ g' = h) ⟨rfl, rfl⟩ ?_ ?_
  · rintro i w acc g' ei ⟨rfl, rfl⟩
    rw [List.getElem?_map] at ei
    obtain ⟨a, ea, rfl⟩ := Option.map_eq_some_iff.mp ei
    have hi := (List.getElem?_eq_some_iff.mp ea).1
    obtain ⟨ps1, e1, e2, e3⟩ := he a (List.mem_of_getElem? ea)
    refine ⟨ps1, e1, e2 _ ?_⟩
    rw [take_filter ea]
    cases qa : p a with
    | false =>
      rw [Ite_false]
      simp
    | true =>
      rw [Ite_true]
      refine e3 qa _ ⟨?_, by simp, rfl⟩
      rw [List.length_map]
      have := List.length_filter_le p (L.take i)
      have : (L.take i).length ≤ L.length := by simp; omega
      omega
  · rintro acc g' ⟨rfl, rfl⟩
    have : L.take (L.map enc).length = L := List.take_of_length_le (by simp)
    rw [this]
    exact q
end
/-! numbers of rooms -/
def nW (l : List Nat) : List W := l.map fun i => W.int (i : Nat)
theorem nW_ints (l : List Nat) : nW l = (l.map fun i : Nat => (i : Int)).map W.int := by unfold nW; rw [List.map_map]; rfl
theorem nW_app (l m : List Nat) : nW l ++ nW m = nW (l ++ m) := by simp [nW]
@[simp] theorem nW_len (l : List Nat) : (nW l).length = l.length := by simp [nW]
theorem nW_pl (l : List Nat) {k : Nat} : plWs k (nW l) = true := by rw [nW_ints]; exact pls_ints _
theorem nW_inj {l m : List Nat} : nW l = nW m ↔ l = m := by
  unfold nW
  constructor
  · intro h
    refine List.map_inj_right (f := fun i : Nat => W.int (i : Int)) (fun a b e => ?_) |>.mp h
    have : (a : Int) = b := W.int.inj e
    omega
  · rintro rfl
    rfl
theorem nat_mem {t : Nat} {l : List Nat} : ((t : Int) ∈ l.map fun i : Nat => (i : Int)) ↔ t ∈ l := by
  rw [List.mem_map]
  constructor
  · rintro ⟨a, ha, e⟩
    have : a = t := by omega
    rw [← this]
    exact ha
  · intro h
    exact ⟨t, h, rfl⟩
theorem wIn_nW {t : Nat} {l : List Nat} {h : PH} : wIn (.int (t : Nat)) (.fix (nW l)) h = some (.bl (decide (t ∈ l)), h) := by
  rw [nW_ints, wIn_ints, decide_eq_decide.mpr nat_mem]
theorem wNotIn_nW {t : Nat} {l : List Nat} {h : PH} : wNotIn (.int (t : Nat)) (.fix (nW l)) h = some (.bl (!decide (t ∈ l)), h) := by
  rw [nW_ints, wNotIn_ints, decide_eq_decide.mpr nat_mem]
theorem wIn_nWt {t : Nat} {l : List Nat} {h : PH} : wIn (.int (t : Nat)) (.tup (nW l)) h = some (.bl (decide (t ∈ l)), h) := by
  have : inW (.int (t : Nat)) (.tup (nW l)) h = inW (.int (t : Nat)) (.fix (nW l)) h := rfl
  unfold wIn
  rw [this]
  exact wIn_nW
theorem wNotIn_nWt {t : Nat} {l : List Nat} {h : PH} : wNotIn (.int (t : Nat)) (.tup (nW l)) h = some (.bl (!decide (t ∈ l)), h) := by
  have : inW (.int (t : Nat)) (.tup (nW l)) h = inW (.int (t : Nat)) (.fix (nW l)) h := rfl
  unfold wNotIn
  rw [this]
  exact wNotIn_nW
theorem wEq_nW {l m : List Nat} {h : PH} : wEq (.fix (nW l)) (.fix (nW m)) h = some (.bl (decide (l = m)), h) := by
  rw [wEq_pl (n := 1) (m := 1) (by rw [pl_fix]; exact nW_pl l) (by rw [pl_fix]; exact nW_pl m) (by decide) (by decide)]
  congr 3
  exact decide_eq_decide.mpr ⟨fun z => nW_inj.mp (W.fix.inj z), fun z => by rw [z]⟩
theorem wNe_nW {l m : List Nat} {h : PH} : wNe (.fix (nW l)) (.fix (nW m)) h = some (.bl (!decide (l = m)), h) := by
  rw [wNe_pl (n := 1) (m := 1) (by rw [pl_fix]; exact nW_pl l) (by rw [pl_fix]; exact nW_pl m) (by decide) (by decide)]
  congr 4
  exact decide_eq_decide.mpr ⟨fun z => nW_inj.mp (W.fix.inj z), fun z => by rw [z]⟩
theorem nW_nil : nW [] = [] := rfl
theorem wEq_nW0 {l : List Nat} {h : PH} : wEq (.fix (nW l)) (.fix []) h = some (.bl (decide (l = [])), h) := wEq_nW (m := [])
theorem wNe_nW0 {l : List Nat} {h : PH} : wNe (.fix (nW l)) (.fix []) h = some (.bl (!decide (l = [])), h) := wNe_nW (m := [])
theorem wEq_ref0 {l : List Nat} {n : Nat} {h : PH} (e : h[n]? = some (.lst (nW l))) : wEq (.ref n) (.fix []) h = some (.bl (decide (l = [])), h) := by
  unfold wEq
  rw [eqB_lst (k := 1) (m := 1) e (nW_pl l) (by simp) (by decide) (by decide)]
  show some (W.bl _, h) = _
  congr 3
  refine decide_eq_decide.mpr ⟨fun z => ?_, fun z => by rw [z]; rfl⟩
  have := W.fix.inj z
  exact nW_inj.mp (this.trans nW_nil.symm)
/-! lists with few alike -/
theorem countP_two {α : Type} {p q r : α → Bool} : ∀ {l : List α}, (∀ x ∈ l, (p x = true ↔ q x = true ∨ r x = true) ∧ ¬ (q x = true ∧ r x = true)) → l.countP p = l.countP q + l.countP r
  | [], _ => rfl
  | a :: l, h => by
    have ih := countP_two fun x hx => h x (List.mem_cons_of_mem _ hx)
    have ha := h a List.mem_cons_self
    rw [List.countP_cons, List.countP_cons, List.countP_cons, ih]
    cases hp : p a <;> cases hq : q a <;> cases hr : r a <;> simp [hp, hq, hr] at ha ⊢ <;> omega
theorem len_count {c : Nat} : ∀ (n : Nat) (l : List Nat), (∀ x ∈ l, x < n) → (∀ x, l.count x ≤ c) → l.length ≤ n * c
  | 0, l, h, _ => by
    cases l with
    | nil => simp
    | cons a r => exact absurd (h a List.mem_cons_self) (by omega)
  | n + 1, l, h, k => by
    have e : l.countP (fun _ => true) = l.countP (fun x => decide (x < n)) + l.countP (fun x => x == n) := countP_two fun x hx => by
      have := h x hx
      by_cases q : x < n
      · have : ¬ x = n := by omega
        simp [q, this]
      · have : x = n := by omega
        simp [this]
    rw [List.countP_true, List.countP_eq_length_filter] at e
    have e2 : l.count n = l.countP (fun x => x == n) := rfl
    rw [← e2, ← List.countP_eq_length_filter, List.countP_eq_length_filter] at e
    have := len_count n (l.filter fun x => decide (x < n)) (fun x hx => by simpa using (List.mem_filter.mp hx).2) fun x => Nat.le_trans (List.Sublist.count_le x List.filter_sublist) (k x)
    have := k n
    rw [Nat.succ_mul]
    omega
end Mir

/-! ranks by rounds -/
namespace Mir
open PySem PySem.Spec PyProof.Rows L2
def Tg (rs : List Rm) (i : Nat) : List Nat := (rs.getD i (0, [])).2.map fun m => m.1.toNat
def Ow (rs : List Rm) (i : Nat) : Int := (rs.getD i (0, [])).1
def newR (rs : List Rm) (side : Int) (v : Nat → Option Nat) (i : Nat) : Bool :=
  decide (Tg rs i ≠ []) && ((decide (Ow rs i = side) && (Tg rs i).any fun t => (v t).isSome) || (Tg rs i).all fun t => (v t).isSome)
def Rk (rs : List Rm) (S : List Int) (side : Int) : Nat → Nat → Option Nat
  | 0, i => if (i : Int) ∈ S then some 0 else none
  | k + 1, i => match Rk rs S side k i with
    | some r => some r
    | none => if newR rs side (Rk rs S side k) i = true then some (k + 1) else none
/-- ranks below k -/
def Vk (rs : List Rm) (S : List Int) (side : Int) : Nat → Nat → Option Nat
  | 0, _ => none
  | k + 1, i => Rk rs S side k i
section
variable {rs : List Rm} {S : List Int} {side : Int}
theorem Rk_succ (k i : Nat) : Rk rs S side (k + 1) i = match Rk rs S side k i with
    | some r => some r
    | none => if newR rs side (Rk rs S side k) i = true then some (k + 1) else none := rfl
theorem Rk_keep {k i r : Nat} (h : Rk rs S side k i = some r) : Rk rs S side (k + 1) i = some r := by rw [Rk_succ, h]
theorem Rk_up {k m i r : Nat} (h : Rk rs S side k i = some r) (hm : k ≤ m) : Rk rs S side m i = some r := by
  induction m with
  | zero => have : k = 0 := by omega
            subst this; exact h
  | succ m ih =>
    by_cases q : k = m + 1
    · subst q; exact h
    · exact Rk_keep (ih (by omega))
theorem Rk_new {k i r : Nat} (h0 : Rk rs S side k i = none) (h : Rk rs S side (k + 1) i = some r) : r = k + 1 ∧ newR rs side (Rk rs S side k) i = true := by
  rw [Rk_succ, h0] at h
  dsimp only at h
  split at h
  · rename_i c
    exact ⟨(Option.some.inj h).symm, c⟩
  · cases h
theorem Rk_le {k i r : Nat} (h : Rk rs S side k i = some r) : r ≤ k := by
  induction k with
  | zero =>
    simp only [Rk] at h
    split at h
    · cases h; exact Nat.le_refl _
    · cases h
  | succ k ih =>
    cases q : Rk rs S side k i with
    | some r2 =>
      rw [Rk_keep q] at h
      cases h
      have := ih q
      omega
    | none => exact Nat.le_of_eq (Rk_new q h).1
/-- what is new at k has rank k -/
theorem Vk_new {k i r : Nat} (h0 : Vk rs S side k i = none) (h : Rk rs S side k i = some r) : r = k := by
  cases k with
  | zero => exact Nat.le_zero.mp (Rk_le h)
  | succ k => exact (Rk_new h0 h).1
theorem Vk_keep {k i r : Nat} (h : Vk rs S side k i = some r) : Rk rs S side k i = some r := by
  cases k with
  | zero => cases h
  | succ k => exact Rk_keep h
theorem newR_iff {v : Nat → Option Nat} {i : Nat} : newR rs side v i = true ↔ Tg rs i ≠ [] ∧ ((Ow rs i = side ∧ ∃ t ∈ Tg rs i, (v t).isSome = true) ∨ ∀ t ∈ Tg rs i, (v t).isSome = true) := by
  simp [newR, List.any_eq_true, List.all_eq_true]
/-- a new one has a move to the last ones -/
theorem new_step {k i : Nat} (h0 : Rk rs S side k i = none) (h : newR rs side (Rk rs S side k) i = true) : ∃ t ∈ Tg rs i, Vk rs S side k t = none ∧ (Rk rs S side k t).isSome = true := by
  obtain ⟨hne, hh⟩ := newR_iff.mp h
  have some1 : ∃ t ∈ Tg rs i, (Rk rs S side k t).isSome = true := by
    rcases hh with ⟨_, h⟩ | h
    · exact h
    · obtain ⟨t, ht⟩ := List.exists_mem_of_ne_nil _ hne
      exact ⟨t, ht, h t ht⟩
  cases k with
  | zero =>
    obtain ⟨t, ht, h⟩ := some1
    exact ⟨t, ht, rfl, h⟩
  | succ k =>
    apply Classical.byContradiction
    intro no
    have old : ∀ t ∈ Tg rs i, (Rk rs S side (k + 1) t).isSome = true → (Rk rs S side k t).isSome = true := fun t ht hs => by
      cases q : Rk rs S side k t with
      | some r => rfl
      | none => exact absurd ⟨t, ht, q, hs⟩ no
    have h1 : Rk rs S side k i = none := by
      cases q : Rk rs S side k i with
      | none => rfl
      | some r => rw [Rk_keep q] at h0; cases h0
    have : newR rs side (Rk rs S side k) i = true := newR_iff.mpr ⟨hne, by
      rcases hh with ⟨a, t, ht, b⟩ | h
      · exact .inl ⟨a, t, ht, old t ht b⟩
      · exact .inr fun t ht => old t ht (h t ht)⟩
    rw [Rk_succ, h1] at h0
    dsimp only at h0
    rw [if_pos this] at h0
    cases h0
theorem Rk_out {k i : Nat} (hS : ∀ x ∈ S, 0 ≤ x ∧ x < rs.length) (hi : rs.length ≤ i) : Rk rs S side k i = none := by
  induction k with
  | zero =>
    simp only [Rk]
    rw [if_neg]
    intro h
    have := (hS _ h).2
    omega
  | succ k ih =>
    rw [Rk_succ, ih]
    dsimp only
    rw [if_neg]
    intro h
    have := (newR_iff.mp h).1
    apply this
    unfold Tg
    rw [List.getD, List.getElem?_eq_none hi]
    rfl
/-- no more comes -/
theorem Rk_stab {k m : Nat} (h : ∀ i, Rk rs S side (k + 1) i = Rk rs S side k i) (hm : k ≤ m) : Rk rs S side m = Rk rs S side k := by
  induction m with
  | zero => have : k = 0 := by omega
            subst this; rfl
  | succ m ih =>
    by_cases q : k = m + 1
    · subst q; rfl
    · have e := ih (by omega)
      funext i
      have z := h i
      rw [Rk_succ] at z
      rw [Rk_succ, e]
      cases y : Rk rs S side k i with
      | some r => rfl
      | none =>
        rw [y] at z
        dsimp only at z ⊢
        by_cases c : newR rs side (Rk rs S side k) i = true
        · rw [if_pos c] at z; cases z
        · rw [if_neg c]
theorem Rk_none {m : Nat} (h : ∀ i, Rk rs S side 0 i = none) : ∀ i, Rk rs S side m i = none := by
  have : ∀ i, Rk rs S side 1 i = Rk rs S side 0 i := by
    intro i
    rw [h i]
    cases q : Rk rs S side 1 i with
    | none => rfl
    | some r =>
      obtain ⟨t, ht, _, hs⟩ := new_step (h i) (Rk_new (h i) q).2
      rw [h t] at hs
      cases hs
  intro i
  rw [Rk_stab this (Nat.zero_le m)]
  exact h i
/-- the rooms of rank k -/
def Lk (rs : List Rm) (S : List Int) (side : Int) (k : Nat) : List Nat := (List.range rs.length).filter fun i => (Vk rs S side k i).isNone && (Rk rs S side k i).isSome
theorem Lk_mem {k i : Nat} (hS : ∀ x ∈ S, 0 ≤ x ∧ x < rs.length) : i ∈ Lk rs S side k ↔ Vk rs S side k i = none ∧ (Rk rs S side k i).isSome = true := by
  unfold Lk
  simp only [List.mem_filter, List.mem_range, Bool.and_eq_true, Option.isNone_iff_eq_none]
  refine ⟨fun h => h.2, fun h => ⟨?_, h⟩⟩
  apply Classical.byContradiction
  intro hi
  rw [Rk_out hS (by omega)] at h
  cases h.2
theorem Lk_lt {k i : Nat} (h : i ∈ Lk rs S side k) : i < rs.length := List.mem_range.mp (List.mem_filter.mp h).1
theorem Lk_up {k : Nat} : (Lk rs S side k).Pairwise (· < ·) := (List.pairwise_lt_range).filter _
theorem Lk_nd {k : Nat} : (Lk rs S side k).Nodup := Lk_up.imp fun h => Nat.ne_of_lt h
/-- how many moves still lead to rooms without rank -/
def cnt (rs : List Rm) (S : List Int) (side : Int) (k i : Nat) : Nat := (Tg rs i).countP fun t => (Vk rs S side k t).isNone
theorem countP_split {α : Type} {p q r : α → Bool} : ∀ {l : List α}, (∀ x ∈ l, (p x = true ↔ q x = true ∨ r x = true) ∧ ¬ (q x = true ∧ r x = true)) → l.countP p = l.countP q + l.countP r
  | [], _ => rfl
  | a :: l, h => by
    have ih := countP_split (l := l) fun x hx => h x (List.mem_cons_of_mem _ hx)
    obtain ⟨h1, h2⟩ := h a List.mem_cons_self
    rw [List.countP_cons, List.countP_cons, List.countP_cons, ih]
    cases hp : p a <;> cases hq : q a <;> cases hr : r a <;> simp [hp, hq, hr] at h1 h2 ⊢ <;> omega
theorem cnt_next {k i : Nat} (hS : ∀ x ∈ S, 0 ≤ x ∧ x < rs.length) : cnt rs S side k i = cnt rs S side (k + 1) i + (Tg rs i).countP fun t => decide (t ∈ Lk rs S side k) := by
  unfold cnt
  refine countP_split fun t _ => ⟨?_, ?_⟩
  · simp only [Option.isNone_iff_eq_none, decide_eq_true_eq, Lk_mem hS]
    constructor
    · intro h
      cases q : Rk rs S side k t with
      | none => exact .inl q
      | some r => exact .inr ⟨h, rfl⟩
    · rintro (h | h)
      · cases q : Vk rs S side k t with
        | none => rfl
        | some r =>
          have := Vk_keep q
          rw [show Vk rs S side (k + 1) t = Rk rs S side k t from rfl, this] at h
          cases h
      · exact h.1
  · simp only [Option.isNone_iff_eq_none, decide_eq_true_eq, Lk_mem hS]
    rintro ⟨h1, _, h2⟩
    rw [show Rk rs S side k t = Vk rs S side (k + 1) t from rfl, h1] at h2
    cases h2
/-- the next ones, by what the program asks -/
theorem next_iff {k i : Nat} (hS : ∀ x ∈ S, 0 ≤ x ∧ x < rs.length) : i ∈ Lk rs S side (k + 1) ↔ Rk rs S side k i = none ∧ (∃ t ∈ Tg rs i, t ∈ Lk rs S side k) ∧ (Ow rs i = side ∨ cnt rs S side (k + 1) i = 0) := by
  rw [Lk_mem hS]
  have c0 : cnt rs S side (k + 1) i = 0 ↔ ∀ t ∈ Tg rs i, (Rk rs S side k t).isSome = true := by
    unfold cnt
    rw [List.countP_eq_zero]
    refine ⟨fun h t ht => ?_, fun h t ht => ?_⟩
    · have := h t ht
      rw [show Vk rs S side (k + 1) t = Rk rs S side k t from rfl] at this
      cases q : Rk rs S side k t with
      | none => rw [q] at this; exact absurd rfl this
      | some r => rfl
    · rw [show Vk rs S side (k + 1) t = Rk rs S side k t from rfl]
      have := h t ht
      cases q : Rk rs S side k t with
      | none => rw [q] at this; cases this
      | some r => simp
  rw [c0]
  constructor
  · rintro ⟨h1, h2⟩
    have h1 : Rk rs S side k i = none := h1
    cases q : Rk rs S side (k + 1) i with
    | none => rw [q] at h2; cases h2
    | some r =>
      have hn := (Rk_new h1 q).2
      obtain ⟨t, ht, a, b⟩ := new_step h1 hn
      exact ⟨h1, ⟨t, ht, (Lk_mem hS).mpr ⟨a, b⟩⟩, (newR_iff.mp hn).2.imp (fun z => z.1) id⟩
  · rintro ⟨h1, ⟨t, ht, hl⟩, h3⟩
    refine ⟨h1, ?_⟩
    have hs := ((Lk_mem hS).mp hl).2
    have : newR rs side (Rk rs S side k) i = true := newR_iff.mpr ⟨List.ne_nil_of_mem ht, h3.imp (fun z => ⟨z, t, ht, hs⟩) id⟩
    rw [Rk_succ, h1]
    dsimp only
    rw [if_pos this]
    rfl
/-- rooms without rank so far -/
def cN (rs : List Rm) (S : List Int) (side : Int) (k : Nat) : Nat := (List.range rs.length).countP fun i => (Vk rs S side k i).isNone
theorem cN_next {k : Nat} (h : Lk rs S side k ≠ []) : cN rs S side (k + 1) < cN rs S side k := by
  unfold cN
  have e : (List.range rs.length).countP (fun i => (Vk rs S side k i).isNone) = (List.range rs.length).countP (fun i => (Vk rs S side (k + 1) i).isNone) + (List.range rs.length).countP (fun i => (Vk rs S side k i).isNone && (Rk rs S side k i).isSome) := by
    refine countP_split fun i _ => ⟨?_, ?_⟩
    · rw [show Vk rs S side (k + 1) i = Rk rs S side k i from rfl]
      cases q : Rk rs S side k i with
      | none =>
        have : Vk rs S side k i = none := by
          cases z : Vk rs S side k i with
          | none => rfl
          | some r => rw [Vk_keep z] at q; cases q
        simp [this]
      | some r => simp
    · rw [show Vk rs S side (k + 1) i = Rk rs S side k i from rfl]
      cases q : Rk rs S side k i <;> simp
  rw [e]
  have : 0 < (List.range rs.length).countP (fun i => (Vk rs S side k i).isNone && (Rk rs S side k i).isSome) := by
    rw [List.countP_eq_length_filter]
    exact List.length_pos_iff.mpr h
  omega
theorem cN_zero : cN rs S side 0 = rs.length := by
  unfold cN
  have : (fun i => (Vk rs S side 0 i).isNone) = fun _ => true := rfl
  rw [this, List.countP_true, List.length_range]
/-- the rounds end: what they leave is R n -/
theorem Rk_end {k : Nat} (hS : ∀ x ∈ S, 0 ≤ x ∧ x < rs.length) (hk : k ≤ rs.length) (h : Lk rs S side k = []) : Vk rs S side k = Rk rs S side rs.length := by
  have same : ∀ i, Rk rs S side k i = Vk rs S side k i := by
    intro i
    cases q : Vk rs S side k i with
    | some r => exact Vk_keep q
    | none =>
      cases z : Rk rs S side k i with
      | none => rfl
      | some r =>
        have : i ∈ Lk rs S side k := (Lk_mem hS).mpr ⟨q, by rw [z]; rfl⟩
        rw [h] at this
        cases this
  cases k with
  | zero =>
    have : ∀ i, Rk rs S side 0 i = none := fun i => same i
    funext i
    rw [Rk_none this i]
    rfl
  | succ k => exact (Rk_stab (fun i => same i) (by omega)).symm
/-- of a room of that side: the least of the ranks that moves lead to is one less -/
theorem rank_step {k i r : Nat} (hi : Rk rs S side k i = some (r + 1)) (ho : Ow rs i = side) : (∃ t ∈ Tg rs i, Rk rs S side k t = some r) ∧ ∀ t ∈ Tg rs i, ∀ q, Rk rs S side k t = some q → r ≤ q := by
  have hk := Rk_le hi
  have hr : Rk rs S side (r + 1) i = some (r + 1) ∧ Rk rs S side r i = none := by
    have n1 : Rk rs S side r i = none := by
      cases q : Rk rs S side r i with
      | none => rfl
      | some x =>
        have := Rk_up q (show r ≤ k by omega)
        rw [hi] at this
        cases this
        have := Rk_le q
        omega
    refine ⟨?_, n1⟩
    cases q : Rk rs S side (r + 1) i with
    | some x => have := Rk_up q hk; rw [hi] at this; exact this.symm
    | none =>
      exfalso
      -- then it comes later, with a greater rank
      have later : ∀ m, r + 1 ≤ m → ∀ x, Rk rs S side m i = some x → r + 1 < x := by
        intro m hm
        induction m with
        | zero => omega
        | succ m ih =>
          intro x hx
          by_cases e : r + 1 = m + 1
          · rw [← e, q] at hx; cases hx
          · cases z : Rk rs S side m i with
            | some y => rw [Rk_keep z] at hx; cases hx; exact ih (by omega) _ z
            | none => have := (Rk_new z hx).1; omega
      have := later k hk _ hi
      omega
  have hn := (Rk_new hr.2 hr.1).2
  obtain ⟨t, ht, a, b⟩ := new_step hr.2 hn
  refine ⟨⟨t, ht, ?_⟩, fun t ht q hq => ?_⟩
  · cases z : Rk rs S side r t with
    | none => rw [z] at b; cases b
    | some x =>
      have := Vk_new a z
      subst this
      exact Rk_up z (by omega)
  · apply Classical.byContradiction
    intro lt
    have hq2 : Rk rs S side q t = some q := by
      cases z : Rk rs S side q t with
      | some x => have := Rk_up z (show q ≤ k by omega); rw [hq] at this; exact this.symm ▸ rfl
      | none =>
        exfalso
        have later : ∀ m, q ≤ m → ∀ x, Rk rs S side m t = some x → q < x := by
          intro m hm
          induction m with
          | zero => intro x hx; have : q = 0 := by omega
                    subst this; rw [z] at hx; cases hx
          | succ m ih =>
            intro x hx
            by_cases e : q = m + 1
            · subst e; rw [z] at hx; cases hx
            · cases z2 : Rk rs S side m t with
              | some y => rw [Rk_keep z2] at hx; cases hx; exact ih (by omega) _ z2
              | none => have := (Rk_new z2 hx).1; omega
        have := later k (by omega) _ hq
        omega
    have n0 : Rk rs S side q i = none := by
      cases z : Rk rs S side q i with
      | none => rfl
      | some x => have := Rk_up z (show q ≤ r by omega); rw [hr.2] at this; cases this
    have new : newR rs side (Rk rs S side q) i = true := newR_iff.mpr ⟨List.ne_nil_of_mem ht, .inl ⟨ho, t, ht, by rw [hq2]; rfl⟩⟩
    have : Rk rs S side (q + 1) i = some (q + 1) := by
      rw [Rk_succ, n0]
      dsimp only
      rw [if_pos new]
    have := Rk_up this (show q + 1 ≤ r by omega)
    rw [hr.2] at this
    cases this
end
end Mir

/-! the defs of law_k40_whole_again_shown: their computations and derivations; printed by gen.py -/
namespace Mir
open PySem PySem.Spec PyProof.Rows L2
def topAt (i : Nat) : Stmt := PySem.Challenge.pw_waitduel_k40_whole_again_shown.main.body.getD i (.Pass ⟨0, 0, 0, 0⟩)
abbrev st_is_among : Stmt := topAt 5
abbrev st_marked : Stmt := topAt 7
abbrev st_moves_into : Stmt := topAt 8
abbrev st_told_rows : Stmt := topAt 12
abbrev st_Lcell : Stmt := topAt 16
abbrev st_Lmixed : Stmt := topAt 17
abbrev st_Lbegin : Stmt := topAt 18
abbrev st_Lis_row : Stmt := topAt 22
abbrev st_Lled : Stmt := topAt 23
abbrev st_Forcing_first_within : Stmt := match topAt 10 with
  | .ClassDef _ _ _ b _ _ _ _ _ _ _ => b.getD 1 (.Pass ⟨0, 0, 0, 0⟩)
  | _ => .Pass ⟨0, 0, 0, 0⟩
abbrev st_Forcing_stays : Stmt := match topAt 10 with
  | .ClassDef _ _ _ b _ _ _ _ _ _ _ => b.getD 2 (.Pass ⟨0, 0, 0, 0⟩)
  | _ => .Pass ⟨0, 0, 0, 0⟩
abbrev st_Forcing_forced : Stmt := match topAt 10 with
  | .ClassDef _ _ _ b _ _ _ _ _ _ _ => b.getD 3 (.Pass ⟨0, 0, 0, 0⟩)
  | _ => .Pass ⟨0, 0, 0, 0⟩
abbrev st_Split_way_out : Stmt := match topAt 11 with
  | .ClassDef _ _ _ b _ _ _ _ _ _ _ => b.getD 2 (.Pass ⟨0, 0, 0, 0⟩)
  | _ => .Pass ⟨0, 0, 0, 0⟩
abbrev st_need_room : Stmt := topAt 6
abbrev st_Lnext : Stmt := topAt 19
abbrev st_Lpaper_right : Stmt := topAt 24
abbrev st_Forcing_ini : Stmt := match topAt 10 with
  | .ClassDef _ _ _ b _ _ _ _ _ _ _ => b.getD 0 (.Pass ⟨0, 0, 0, 0⟩)
  | _ => .Pass ⟨0, 0, 0, 0⟩
abbrev st_Split_put_out : Stmt := match topAt 11 with
  | .ClassDef _ _ _ b _ _ _ _ _ _ _ => b.getD 1 (.Pass ⟨0, 0, 0, 0⟩)
  | _ => .Pass ⟨0, 0, 0, 0⟩
abbrev st_Lmove : Stmt := topAt 20
abbrev st_Lwide : Stmt := topAt 26
abbrev st_Larena : Stmt := topAt 21
abbrev st_Split_ini : Stmt := match topAt 11 with
  | .ClassDef _ _ _ b _ _ _ _ _ _ _ => b.getD 0 (.Pass ⟨0, 0, 0, 0⟩)
  | _ => .Pass ⟨0, 0, 0, 0⟩
abbrev st_again : Stmt := topAt 13
abbrev st_again_rooms : Stmt := topAt 14
abbrev st_Lright : Stmt := topAt 25
abbrev st_Lfar_right : Stmt := topAt 27
abbrev st_LAW : Stmt := topAt 28
def knL : List Str := ["BadRoom", "BadMark"]
structure Dat where
  a_is_among : Addr
  d_is_among : FuncData
  a_marked : Addr
  d_marked : FuncData
  a_moves_into : Addr
  d_moves_into : FuncData
  a_told_rows : Addr
  d_told_rows : FuncData
  a_Lcell : Addr
  d_Lcell : FuncData
  a_Lmixed : Addr
  d_Lmixed : FuncData
  a_Lbegin : Addr
  d_Lbegin : FuncData
  a_Lis_row : Addr
  d_Lis_row : FuncData
  a_Lled : Addr
  d_Lled : FuncData
  a_Forcing_first_within : Addr
  d_Forcing_first_within : FuncData
  a_Forcing_stays : Addr
  d_Forcing_stays : FuncData
  a_Forcing_forced : Addr
  d_Forcing_forced : FuncData
  a_Split_way_out : Addr
  d_Split_way_out : FuncData
  a_need_room : Addr
  d_need_room : FuncData
  a_Lnext : Addr
  d_Lnext : FuncData
  a_Lpaper_right : Addr
  d_Lpaper_right : FuncData
  a_Forcing_ini : Addr
  d_Forcing_ini : FuncData
  a_Split_put_out : Addr
  d_Split_put_out : FuncData
  a_Lmove : Addr
  d_Lmove : FuncData
  a_Lwide : Addr
  d_Lwide : FuncData
  a_Larena : Addr
  d_Larena : FuncData
  a_Split_ini : Addr
  d_Split_ini : FuncData
  a_again : Addr
  d_again : FuncData
  a_again_rooms : Addr
  d_again_rooms : FuncData
  a_Lright : Addr
  d_Lright : FuncData
  a_Lfar_right : Addr
  d_Lfar_right : FuncData
  a_LAW : Addr
  d_LAW : FuncData
  a_Forcing : Addr
  a_Split : Addr
structure Txt (D : Dat) (K : PySem.W.Frag) (mg : Str → Option Value) : Prop where
  g_is_among : mg "is_among" = some (.ref D.a_is_among)
  f_is_among : Fun K "is_among" "is_among" st_is_among D.a_is_among D.d_is_among
  b_is_among : Binds K D.d_is_among ["thing", "least", "most"] []
  g_marked : mg "marked" = some (.ref D.a_marked)
  f_marked : Fun K "marked" "marked" st_marked D.a_marked D.d_marked
  b_marked : Binds K D.d_marked ["arena", "name"] []
  g_moves_into : mg "moves_into" = some (.ref D.a_moves_into)
  f_moves_into : Fun K "moves_into" "moves_into" st_moves_into D.a_moves_into D.d_moves_into
  b_moves_into : Binds K D.d_moves_into ["arena"] []
  g_told_rows : mg "told_rows" = some (.ref D.a_told_rows)
  f_told_rows : Fun K "told_rows" "told_rows" st_told_rows D.a_told_rows D.d_told_rows
  b_told_rows : Binds K D.d_told_rows ["some"] []
  g_Lcell : mg "_law_cell" = some (.ref D.a_Lcell)
  f_Lcell : Fun K "_law_cell" "_law_cell" st_Lcell D.a_Lcell D.d_Lcell
  b_Lcell : Binds K D.d_Lcell ["_law_script", "_law_k"] []
  g_Lmixed : mg "_law_mixed" = some (.ref D.a_Lmixed)
  f_Lmixed : Fun K "_law_mixed" "_law_mixed" st_Lmixed D.a_Lmixed D.d_Lmixed
  b_Lmixed : Binds K D.d_Lmixed ["_law_number", "_law_k"] []
  g_Lbegin : mg "_law_begin" = some (.ref D.a_Lbegin)
  f_Lbegin : Fun K "_law_begin" "_law_begin" st_Lbegin D.a_Lbegin D.d_Lbegin
  b_Lbegin : Binds K D.d_Lbegin ["_law_script"] []
  g_Lis_row : mg "_law_is_row" = some (.ref D.a_Lis_row)
  f_Lis_row : Fun K "_law_is_row" "_law_is_row" st_Lis_row D.a_Lis_row D.d_Lis_row
  b_Lis_row : Binds K D.d_Lis_row ["_law_row", "_law_arena_here"] []
  g_Lled : mg "_law_led" = some (.ref D.a_Lled)
  f_Lled : Fun K "_law_led" "_law_led" st_Lled D.a_Lled D.d_Lled
  b_Lled : Binds K D.d_Lled ["_law_arena_here", "_law_rows", "_law_owner"] []
  f_Forcing_first_within : Fun K "first_within" "Forcing.first_within" st_Forcing_first_within D.a_Forcing_first_within D.d_Forcing_first_within
  b_Forcing_first_within : Binds K D.d_Forcing_first_within ["self", "room", "inside"] []
  mt_Forcing_first_within : Meth K D.a_Forcing "first_within" D.a_Forcing_first_within
  f_Forcing_stays : Fun K "stays" "Forcing.stays" st_Forcing_stays D.a_Forcing_stays D.d_Forcing_stays
  b_Forcing_stays : Binds K D.d_Forcing_stays ["self", "room", "inside"] []
  mt_Forcing_stays : Meth K D.a_Forcing "stays" D.a_Forcing_stays
  f_Forcing_forced : Fun K "forced" "Forcing.forced" st_Forcing_forced D.a_Forcing_forced D.d_Forcing_forced
  b_Forcing_forced : Binds K D.d_Forcing_forced ["self", "goals", "inside"] []
  mt_Forcing_forced : Meth K D.a_Forcing "forced" D.a_Forcing_forced
  f_Split_way_out : Fun K "way_out" "Split.way_out" st_Split_way_out D.a_Split_way_out D.d_Split_way_out
  b_Split_way_out : Binds K D.d_Split_way_out ["self", "room", "inside", "found"] []
  mt_Split_way_out : Meth K D.a_Split "way_out" D.a_Split_way_out
  g_need_room : mg "need_room" = some (.ref D.a_need_room)
  f_need_room : Fun K "need_room" "need_room" st_need_room D.a_need_room D.d_need_room
  b_need_room : Binds K D.d_need_room ["arena", "thing"] []
  g_Lnext : mg "_law_next" = some (.ref D.a_Lnext)
  f_Lnext : Fun K "_law_next" "_law_next" st_Lnext D.a_Lnext D.d_Lnext
  b_Lnext : Binds K D.d_Lnext ["_law_draw", "_law_many"] []
  g_Lpaper_right : mg "_law_paper_right" = some (.ref D.a_Lpaper_right)
  f_Lpaper_right : Fun K "_law_paper_right" "_law_paper_right" st_Lpaper_right D.a_Lpaper_right D.d_Lpaper_right
  b_Lpaper_right : Binds K D.d_Lpaper_right ["_law_arena_here", "_law_goal", "_law_room", "_law_told", "_law_answer"] []
  f_Forcing_ini : Fun K "__init__" "Forcing.__init__" st_Forcing_ini D.a_Forcing_ini D.d_Forcing_ini
  b_Forcing_ini : Binds K D.d_Forcing_ini ["self", "arena"] []
  f_Split_put_out : Fun K "put_out" "Split.put_out" st_Split_put_out D.a_Split_put_out D.d_Split_put_out
  b_Split_put_out : Binds K D.d_Split_put_out ["self", "inside", "found", "layer"] []
  mt_Split_put_out : Meth K D.a_Split "put_out" D.a_Split_put_out
  g_Lmove : mg "_law_move" = some (.ref D.a_Lmove)
  f_Lmove : Fun K "_law_move" "_law_move" st_Lmove D.a_Lmove D.d_Lmove
  b_Lmove : Binds K D.d_Lmove ["_law_draw", "_law_many"] []
  g_Lwide : mg "_law_wide" = some (.ref D.a_Lwide)
  f_Lwide : Fun K "_law_wide" "_law_wide" st_Lwide D.a_Lwide D.d_Lwide
  b_Lwide : Binds K D.d_Lwide ["_law_draw"] []
  g_Larena : mg "_law_arena" = some (.ref D.a_Larena)
  f_Larena : Fun K "_law_arena" "_law_arena" st_Larena D.a_Larena D.d_Larena
  b_Larena : Binds K D.d_Larena ["_law_draw", "_law_most"] []
  f_Split_ini : Fun K "__init__" "Split.__init__" st_Split_ini D.a_Split_ini D.d_Split_ini
  b_Split_ini : Binds K D.d_Split_ini ["self", "arena", "rooms"] []
  g_again : mg "again" = some (.ref D.a_again)
  f_again : Fun K "again" "again" st_again D.a_again D.d_again
  b_again : Binds K D.d_again ["arena", "mark", "room"] []
  g_again_rooms : mg "again_rooms" = some (.ref D.a_again_rooms)
  f_again_rooms : Fun K "again_rooms" "again_rooms" st_again_rooms D.a_again_rooms D.d_again_rooms
  b_again_rooms : Binds K D.d_again_rooms ["arena", "mark"] []
  g_Lright : mg "_law_right" = some (.ref D.a_Lright)
  f_Lright : Fun K "_law_right" "_law_right" st_Lright D.a_Lright D.d_Lright
  b_Lright : Binds K D.d_Lright ["_law_arena_here"] []
  g_Lfar_right : mg "_law_far_right" = some (.ref D.a_Lfar_right)
  f_Lfar_right : Fun K "_law_far_right" "_law_far_right" st_Lfar_right D.a_Lfar_right D.d_Lfar_right
  b_Lfar_right : Binds K D.d_Lfar_right ["_law_draw"] []
  g_LAW : mg "law" = some (.ref D.a_LAW)
  f_LAW : Fun K "law" "law" st_LAW D.a_LAW D.d_LAW
  b_LAW : Binds K D.d_LAW ["_law_script"] []
  n_abs : mg "abs" = none
  n_bool : mg "bool" = none
  n_dict : mg "dict" = none
  n_enumerate : mg "enumerate" = none
  n_int : mg "int" = none
  n_isinstance : mg "isinstance" = none
  n_len : mg "len" = none
  n_list : mg "list" = none
  n_max : mg "max" = none
  n_min : mg "min" = none
  n_range : mg "range" = none
  n_repr : mg "repr" = none
  n_set : mg "set" = none
  n_sorted : mg "sorted" = none
  n_str : mg "str" = none
  n_tuple : mg "tuple" = none
  n_zip : mg "zip" = none
  e_BadMark : ECls K mg "BadMark"
  e_BadRoom : ECls K mg "BadRoom"
  mg_Forcing : mg "Forcing" = some (.ref D.a_Forcing)
  ns_Forcing : PySem.W.nsIn K mainGlobals "Forcing" = some (some (.ref D.a_Forcing))
  cl_Forcing : Cls K D.a_Forcing
  mk_Forcing : Mk K D.a_Forcing D.a_Forcing_ini
  nf_Forcing_into : NoAttr K D.a_Forcing "into"
  nf_Forcing_rooms : NoAttr K D.a_Forcing "rooms"
  mg_Split : mg "Split" = some (.ref D.a_Split)
  ns_Split : PySem.W.nsIn K mainGlobals "Split" = some (some (.ref D.a_Split))
  cl_Split : Cls K D.a_Split
  mk_Split : Mk K D.a_Split D.a_Split_ini
  nf_Split_forcing : NoAttr K D.a_Split "forcing"
  nf_Split_mine : NoAttr K D.a_Split "mine"
  nf_Split_noted : NoAttr K D.a_Split "noted"
  nf_Split_others : NoAttr K D.a_Split "others"
def kc_forcing : List Str := ["Split"]
theorem cf_forcing {K : PySem.W.Frag} {mg : Str → Option Value} {D : Dat} (T : Txt D K mg) : ∀ c ∈ kc_forcing, IFld K c "forcing" := fun c hc C e => by
  simp only [kc_forcing, List.mem_cons, List.not_mem_nil, or_false] at hc
  rcases hc with rfl
  · rw [T.ns_Split] at e; cases e; exact ⟨T.cl_Split, T.nf_Split_forcing⟩
def kc_into : List Str := ["Forcing"]
theorem cf_into {K : PySem.W.Frag} {mg : Str → Option Value} {D : Dat} (T : Txt D K mg) : ∀ c ∈ kc_into, IFld K c "into" := fun c hc C e => by
  simp only [kc_into, List.mem_cons, List.not_mem_nil, or_false] at hc
  rcases hc with rfl
  · rw [T.ns_Forcing] at e; cases e; exact ⟨T.cl_Forcing, T.nf_Forcing_into⟩
def kc_mine : List Str := ["Split"]
theorem cf_mine {K : PySem.W.Frag} {mg : Str → Option Value} {D : Dat} (T : Txt D K mg) : ∀ c ∈ kc_mine, IFld K c "mine" := fun c hc C e => by
  simp only [kc_mine, List.mem_cons, List.not_mem_nil, or_false] at hc
  rcases hc with rfl
  · rw [T.ns_Split] at e; cases e; exact ⟨T.cl_Split, T.nf_Split_mine⟩
def kc_noted : List Str := ["Split"]
theorem cf_noted {K : PySem.W.Frag} {mg : Str → Option Value} {D : Dat} (T : Txt D K mg) : ∀ c ∈ kc_noted, IFld K c "noted" := fun c hc C e => by
  simp only [kc_noted, List.mem_cons, List.not_mem_nil, or_false] at hc
  rcases hc with rfl
  · rw [T.ns_Split] at e; cases e; exact ⟨T.cl_Split, T.nf_Split_noted⟩
def kc_others : List Str := ["Split"]
theorem cf_others {K : PySem.W.Frag} {mg : Str → Option Value} {D : Dat} (T : Txt D K mg) : ∀ c ∈ kc_others, IFld K c "others" := fun c hc C e => by
  simp only [kc_others, List.mem_cons, List.not_mem_nil, or_false] at hc
  rcases hc with rfl
  · rw [T.ns_Split] at e; cases e; exact ⟨T.cl_Split, T.nf_Split_others⟩
def kc_rooms : List Str := ["Forcing"]
theorem cf_rooms {K : PySem.W.Frag} {mg : Str → Option Value} {D : Dat} (T : Txt D K mg) : ∀ c ∈ kc_rooms, IFld K c "rooms" := fun c hc C e => by
  simp only [kc_rooms, List.mem_cons, List.not_mem_nil, or_false] at hc
  rcases hc with rfl
  · rw [T.ns_Forcing] at e; cases e; exact ⟨T.cl_Forcing, T.nf_Forcing_rooms⟩
/-! ### is_among -/
theorem sc_is_among : FnScope ["thing", "least", "most"] ["thing", "least", "most"] (defScope st_is_among) := ⟨rfl, rfl, rfl, by decide +kernel, rfl, by decide +kernel, by decide +kernel⟩
def b_is_among : SM :=
  (sRet (mAndV (mIsi "int" (mVar 0)) (mAndV (mNotV (mIsi "bool" (mVar 0))) (mChain wLe wLe (mVar 1) (mVar 0) (mVar 2)))))
def f_is_among : FM := runB 3 (b_is_among )
theorem o_is_among {P : Program} {w : World} {K : PySem.W.Frag} {mg : Str → Option Value} {base : Heap} {D : Dat} (T : Txt D K mg) :
    FnG P w K mg base 1 D.a_is_among D.d_is_among ["thing", "least", "most"] (SPm K 3 (f_is_among )) :=
  have S := sc_is_among
  ok_body (k := 0) T.f_is_among S fun cdv A outer s H E hr gd =>
    (sss_one (ss_ret (se_and (se_isi "int" (by decide) T.n_isinstance T.n_int (se_var 0) (by rfl)) (se_and (se_not (se_isi "bool" (by decide) T.n_isinstance T.n_bool (se_var 0) (by rfl))) (se_one (se_chain o_le p_le o_le p_le (se_var 1) (se_var 0) (se_var 2)))))))
/-! ### marked -/
theorem sc_marked : FnScope ["arena", "name", "told", "rooms"] ["arena", "name"] (defScope st_marked) := ⟨rfl, rfl, rfl, by decide +kernel, rfl, by decide +kernel, by decide +kernel⟩
def b_marked : SM :=
  (sSeq (sIf (mNot (mTru (mIsi "str" (mVar 1))))
  (sRaise "BadMark")
  sNext)
  (sSeq (sFor (mIter big (mOp wIx (mVar 0) (mC (.int 1)))) (gT (gCons' (gN 2) (gCons' (gN 3) gNil')))
  (sIf (mB (mOp wEq (mVar 2) (mVar 1)))
  (sRet (mVar 3))
  sNext))
  (sRaise "BadMark")))
def f_marked : FM := runB 4 (b_marked )
theorem o_marked {P : Program} {w : World} {K : PySem.W.Frag} {mg : Str → Option Value} {base : Heap} {D : Dat} (T : Txt D K mg) :
    FnG P w K mg base 1 D.a_marked D.d_marked ["arena", "name"] (SPm K 2 (f_marked )) :=
  have S := sc_marked
  ok_body (k := 0) T.f_marked S fun cdv A outer s H E hr gd =>
    (sss_cons (ss_if (st_not (st_tru (se_isi "str" (by decide) T.n_isinstance T.n_str (se_var 1) (by rfl))))
    (sss_one (ss_raise T.e_BadMark rfl (takes_of rfl rfl rfl rfl)))
    sss_nil)
    (sss_cons (ss_for (passes_of rfl) rfl (si_iter big (se_sub' hr (se_var 0) se_int)) (sg_tup rfl (sgs_cons (sg_name 2 S.nd) (sgs_cons (sg_name 3 S.nd) sgs_nil)) (fun _ _ _ e => gl_cons (fun _ _ _ e => gl_cons (fun _ _ _ e => gl_nil e) e) e))
    (sss_one (ss_if (st_cmp (o_eq hr) p_eq (se_var 2) (se_var 1))
    (sss_one (ss_ret (se_var 3)))
    sss_nil)))
    (sss_one (ss_raise T.e_BadMark rfl (takes_of rfl rfl rfl rfl)))))
/-! ### moves_into -/
theorem sc_moves_into : FnScope ["arena", "found", "room", "place", "number", "move"] ["arena"] (defScope st_moves_into) := ⟨rfl, rfl, rfl, by decide +kernel, rfl, by decide +kernel, by decide +kernel⟩
def b_moves_into : SM :=
  (sSeq (sAsg (mNew (mLc (mIter big (mOp wIx (mVar 0) (mC (.int 0)))) (gN 3) mYes (mNew (mLst mNil)) [3])) (gN 1))
  (sSeq (sFor (mEnum big (mOp wIx (mVar 0) (mC (.int 0)))) (gT (gCons' (gN 2) (gCons' (gN 3) gNil')))
  (sFor (mEnum big (mOp wIx (mVar 3) (mC (.int 1)))) (gT (gCons' (gN 4) (gCons' (gN 5) gNil')))
  (sDrop (mMt "list" wAppend (mOp wIx (mVar 1) (mOp wIx (mVar 5) (mC (.int 0)))) (mCons (mTup (mCons (mVar 2) (mCons (mVar 4) mNil))) mNil)))))
  (sRet (mVar 1))))
def f_moves_into : FM := runB 6 (b_moves_into )
theorem o_moves_into {P : Program} {w : World} {K : PySem.W.Frag} {mg : Str → Option Value} {base : Heap} {D : Dat} (T : Txt D K mg) :
    FnG P w K mg base 1 D.a_moves_into D.d_moves_into ["arena"] (SPm K 1 (f_moves_into )) :=
  have S := sc_moves_into
  ok_body (k := 0) T.f_moves_into S fun cdv A outer s H E hr gd =>
    (sss_cons (ss_setLc 1 [("place", 3)] rfl S.nd (si_iter big (se_sub' hr (se_var 0) se_int)) (by kernel_rfl) (fun _ _ _ _ _ => (sg_name 3 S.nd)) (fun _ _ _ _ _ => sts_nil) (fun _ _ _ _ _ => (se_new (sl_lst sa_nil))))
    (sss_cons (ss_for (passes_of rfl) rfl (si_enum big T.n_enumerate (se_sub' hr (se_var 0) se_int)) (sg_tup rfl (sgs_cons (sg_name 2 S.nd) (sgs_cons (sg_name 3 S.nd) sgs_nil)) (fun _ _ _ e => gl_cons (fun _ _ _ e => gl_cons (fun _ _ _ e => gl_nil e) e) e))
    (sss_one (ss_for (passes_of rfl) rfl (si_enum big T.n_enumerate (se_sub' hr (se_var 3) se_int)) (sg_tup rfl (sgs_cons (sg_name 4 S.nd) (sgs_cons (sg_name 5 S.nd) sgs_nil)) (fun _ _ _ e => gl_cons (fun _ _ _ e => gl_cons (fun _ _ _ e => gl_nil e) e) e))
    (sss_one (ss_expr (se_append mt_append (se_sub' hr (se_var 1) (se_sub' hr (se_var 5) se_int)) (se_tup (sa_cons (se_var 2) (sa_cons (se_var 4) sa_nil)))))))))
    (sss_one (ss_ret (se_var 1)))))
/-! ### told_rows -/
theorem sc_told_rows : FnScope ["some", "room"] ["some"] (defScope st_told_rows) := ⟨rfl, rfl, rfl, by decide +kernel, rfl, by decide +kernel, by decide +kernel⟩
def b_told_rows : SM :=
  (sRet (mOn wTupQ (mLc (mIterS (mOnV lSortV (mVar 0))) (gN 1) mYes (mTup (mCons (mVar 1) (mCons (mOp wIx (mOp wIx (mVar 0) (mVar 1)) (mC (.int 0))) (mCons (mIf (mB (mOp wIs (mOp wIx (mOp wIx (mVar 0) (mVar 1)) (mC (.int 1))) (mC .non))) (mUn wNeg (mC (.int 1))) (mOp wIx (mOp wIx (mVar 0) (mVar 1)) (mC (.int 1)))) mNil)))) [1])))
def f_told_rows : FM := runB 2 (b_told_rows )
theorem o_told_rows {P : Program} {w : World} {K : PySem.W.Frag} {mg : Str → Option Value} {base : Heap} {D : Dat} (T : Txt D K mg) :
    FnG P w K mg base 1 D.a_told_rows D.d_told_rows ["some"] (SPm K 1 (f_told_rows )) :=
  have S := sc_told_rows
  ok_body (k := 0) T.f_told_rows S fun cdv A outer s H E hr gd =>
    (sss_one (ss_ret (pg_callTS back_W call_tuple_of q_tup T.n_tuple (by rfl) (sq_list (sl_lc [("room", 1)] rfl S.nd (si_fresh (pg_callBV back_L (cr_sortV rfl) q_sortV T.n_sorted (by rfl) (se_var 0))) (by kernel_rfl) (fun _ _ _ _ _ => (sg_name 1 S.nd)) (fun _ _ _ _ _ => sts_nil) (fun _ _ _ _ _ => (se_tup (sa_cons (se_var 1) (sa_cons (se_sub' hr (se_sub' hr (se_var 0) (se_var 1)) se_int) (sa_cons (se_if (st_cmp o_is p_is (se_sub' hr (se_sub' hr (se_var 0) (se_var 1)) se_int) se_non) (se_neg se_int) (se_sub' hr (se_sub' hr (se_var 0) (se_var 1)) se_int)) sa_nil))))))))))
/-! ### _law_cell -/
theorem sc_Lcell : FnScope ["_law_script", "_law_k", "_law_cell_here"] ["_law_script", "_law_k"] (defScope st_Lcell) := ⟨rfl, rfl, rfl, by decide +kernel, rfl, by decide +kernel, by decide +kernel⟩
def b_Lcell : SM :=
  (sSeq (sAsg (mC (.int 17)) (gN 2))
  (sSeq (sIf (mB (mOp wGt (mCall wLen (mCons (mVar 0) mNil)) (mC (.int 0))))
  (sAsg (mOp wMod (mOp wIx (mVar 0) (mOp wMod (mVar 1) (mCall wLen (mCons (mVar 0) mNil)))) (mC (.int 2147483647))) (gN 2))
  sNext)
  (sRet (mOp wFdiv (mOp wMod (mOp wMul (mOp wMod (mOp wMul (mOp wAdd (mOp wAdd (mVar 2) (mOp wMul (mOp wMul (mC (.int 7919)) (mVar 1)) (mVar 1))) (mOp wMul (mC (.int 31)) (mVar 1))) (mC (.int 48271))) (mC (.int 2147483647))) (mC (.int 69621))) (mC (.int 2147483629))) (mC (.int 64))))))
def f_Lcell : FM := runB 3 (b_Lcell )
theorem o_Lcell {P : Program} {w : World} {K : PySem.W.Frag} {mg : Str → Option Value} {base : Heap} {D : Dat} (T : Txt D K mg) :
    FnG P w K mg base 1 D.a_Lcell D.d_Lcell ["_law_script", "_law_k"] (SPm K 2 (f_Lcell )) :=
  have S := sc_Lcell
  ok_body (k := 0) T.f_Lcell S fun cdv A outer s H E hr gd =>
    (sss_cons (ss_set 2 S.nd se_int)
    (sss_cons (ss_if (st_cmp o_gt p_gt (se_callB c_len o_len T.n_len (by rfl) (sa_cons (se_var 0) sa_nil)) se_int)
    (sss_one (ss_set 2 S.nd (se_mod (se_sub' hr (se_var 0) (se_mod (se_var 1) (se_callB c_len o_len T.n_len (by rfl) (sa_cons (se_var 0) sa_nil)))) se_int)))
    sss_nil)
    (sss_one (ss_ret (se_fdiv (se_mod (se_mul (se_mod (se_mul (se_add (se_add (se_var 2) (se_mul (se_mul se_int (se_var 1)) (se_var 1))) (se_mul se_int (se_var 1))) se_int) se_int) se_int) se_int) se_int)))))
/-! ### _law_mixed -/
theorem sc_Lmixed : FnScope ["_law_number", "_law_k"] ["_law_number", "_law_k"] (defScope st_Lmixed) := ⟨rfl, rfl, rfl, by decide +kernel, rfl, by decide +kernel, by decide +kernel⟩
def b_Lmixed : SM :=
  (sRet (mOp wFdiv (mOp wMod (mOp wMul (mOp wMod (mOp wMul (mOp wAdd (mOp wAdd (mOp wAdd (mVar 0) (mOp wMul (mOp wMul (mC (.int 7919)) (mVar 1)) (mVar 1))) (mOp wMul (mC (.int 31)) (mVar 1))) (mC (.int 1))) (mC (.int 48271))) (mC (.int 2147483647))) (mC (.int 69621))) (mC (.int 2147483629))) (mC (.int 64))))
def f_Lmixed : FM := runB 2 (b_Lmixed )
theorem o_Lmixed {P : Program} {w : World} {K : PySem.W.Frag} {mg : Str → Option Value} {base : Heap} {D : Dat} (T : Txt D K mg) :
    FnG P w K mg base 1 D.a_Lmixed D.d_Lmixed ["_law_number", "_law_k"] (SPm K 2 (f_Lmixed )) :=
  have S := sc_Lmixed
  ok_body (k := 0) T.f_Lmixed S fun cdv A outer s H E hr gd =>
    (sss_one (ss_ret (se_fdiv (se_mod (se_mul (se_mod (se_mul (se_add (se_add (se_add (se_var 0) (se_mul (se_mul se_int (se_var 1)) (se_var 1))) (se_mul se_int (se_var 1))) se_int) se_int) se_int) se_int) se_int) se_int)))
/-! ### _law_begin -/
theorem sc_Lbegin : FnScope ["_law_script"] ["_law_script"] (defScope st_Lbegin) := ⟨rfl, rfl, rfl, by decide +kernel, rfl, by decide +kernel, by decide +kernel⟩
def b_Lbegin : SM :=
  (sRet (mNew (mLst (mCons (mVar 0) (mCons (mC (.int 0)) (mCons (mC (.int 0)) (mCons (mC (.int 0)) mNil)))))))
def f_Lbegin : FM := runB 1 (b_Lbegin )
theorem o_Lbegin {P : Program} {w : World} {K : PySem.W.Frag} {mg : Str → Option Value} {base : Heap} {D : Dat} (T : Txt D K mg) :
    FnG P w K mg base 1 D.a_Lbegin D.d_Lbegin ["_law_script"] (SPm K 1 (f_Lbegin )) :=
  have S := sc_Lbegin
  ok_body (k := 0) T.f_Lbegin S fun cdv A outer s H E hr gd =>
    (sss_one (ss_ret (se_new (sl_lst (sa_cons (se_var 0) (sa_cons se_int (sa_cons se_int (sa_cons se_int sa_nil))))))))
/-! ### _law_is_row -/
theorem sc_Lis_row : FnScope ["_law_row", "_law_arena_here", "_law_one"] ["_law_row", "_law_arena_here"] (defScope st_Lis_row) := ⟨rfl, rfl, rfl, by decide +kernel, rfl, by decide +kernel, by decide +kernel⟩
def b_Lis_row : SM :=
  (sSeq (sIf (mOr (mNot (mTru (mIsi "tuple" (mVar 0)))) (mB (mOp wNe (mCall wLen (mCons (mVar 0) mNil)) (mC (.int 3)))))
  (sRet (mC (.bl false)))
  sNext)
  (sSeq (sIf (mB (mOp wNe (mFix (mLc (mIter big (mVar 0)) (gN 2) (mOr (mNot (mTru (mIsi "int" (mVar 2)))) (mTru (mIsi "bool" (mVar 2)))) (mVar 2) [2])) (mFix (mLst mNil))))
  (sRet (mC (.bl false)))
  sNext)
  (sSeq (sIf (mNot (mB (mChain wLe wLt (mC (.int 0)) (mOp wIx (mVar 0) (mC (.int 0))) (mCall wLen (mCons (mOp wIx (mVar 1) (mC (.int 0))) mNil)))))
  (sRet (mC (.bl false)))
  sNext)
  (sRet (mAndV (mOp wGe (mOp wIx (mVar 0) (mC (.int 1))) (mC (.int 0))) (mChain wLe wLt (mUn wNeg (mC (.int 1))) (mOp wIx (mVar 0) (mC (.int 2))) (mCall wLen (mCons (mOp wIx (mOp wIx (mOp wIx (mVar 1) (mC (.int 0))) (mOp wIx (mVar 0) (mC (.int 0)))) (mC (.int 1))) mNil))))))))
def f_Lis_row : FM := runB 3 (b_Lis_row )
theorem o_Lis_row {P : Program} {w : World} {K : PySem.W.Frag} {mg : Str → Option Value} {base : Heap} {D : Dat} (T : Txt D K mg) :
    FnG P w K mg base 1 D.a_Lis_row D.d_Lis_row ["_law_row", "_law_arena_here"] (SPm K 2 (f_Lis_row )) :=
  have S := sc_Lis_row
  ok_body (k := 0) T.f_Lis_row S fun cdv A outer s H E hr gd =>
    (sss_cons (ss_if (PW.pt (sw_or (st_not (st_tru (se_isi "tuple" (by decide) T.n_isinstance T.n_tuple (se_var 0) (by rfl)))) (sw_or1 (st_cmp (o_ne hr) p_ne (se_callB c_len o_len T.n_len (by rfl) (sa_cons (se_var 0) sa_nil)) se_int))))
    (sss_one (ss_ret se_bl))
    sss_nil)
    (sss_cons (ss_if (st_cmp (o_ne hr) p_ne (se_fix (sl_lc [("_law_one", 2)] rfl S.nd (si_iter big (se_var 0)) (by kernel_rfl) (fun _ _ _ _ _ => (sg_name 2 S.nd)) (fun _ _ _ _ _ => (sts_one (PW.pt (sw_or (st_not (st_tru (se_isi "int" (by decide) T.n_isinstance T.n_int (se_var 2) (by rfl)))) (sw_or1 (st_tru (se_isi "bool" (by decide) T.n_isinstance T.n_bool (se_var 2) (by rfl)))))))) (fun _ _ _ _ _ => (se_var 2)))) (se_fix (sl_lst sa_nil)))
    (sss_one (ss_ret se_bl))
    sss_nil)
    (sss_cons (ss_if (st_not (st_chain o_le p_le o_lt p_lt se_int (se_sub' hr (se_var 0) se_int) (se_callB c_len o_len T.n_len (by rfl) (sa_cons (se_sub' hr (se_var 1) se_int) sa_nil))))
    (sss_one (ss_ret se_bl))
    sss_nil)
    (sss_one (ss_ret (se_and (se_cmp o_ge p_ge (se_sub' hr (se_var 0) se_int) se_int) (se_one (se_chain o_le p_le o_lt p_lt (se_neg se_int) (se_sub' hr (se_var 0) se_int) (se_callB c_len o_len T.n_len (by rfl) (sa_cons (se_sub' hr (se_sub' hr (se_sub' hr (se_var 1) se_int) (se_sub' hr (se_var 0) se_int)) se_int) sa_nil))))))))))
/-! ### _law_led -/
theorem sc_Lled : FnScope ["_law_arena_here", "_law_rows", "_law_owner", "_law_told", "_law_found", "_law_room", "_law_number", "_law_move_here", "_law_some", "_law_row", "_law_one"] ["_law_arena_here", "_law_rows", "_law_owner"] (defScope st_Lled) := ⟨rfl, rfl, rfl, by decide +kernel, rfl, by decide +kernel, by decide +kernel⟩
def b_Lled : SM :=
  (sSeq (sAsg (mOnV wDictP (mFix (mLc (mIter big (mVar 1)) (gN 9) mYes (mTup (mCons (mOp wIx (mVar 9) (mC (.int 0))) (mCons (mOp wIx (mVar 9) (mC (.int 1))) mNil))) [9]))) (gN 3))
  (sSeq (sAsg mDict0 (gN 4))
  (sSeq (sFor (mIter big (mVar 1)) (gT (gCons' (gN 5) (gCons' (gN 6) (gCons' (gN 7) gNil'))))
  (sSeq (sAsg (mFix (mOn lId (mSeq (mOp wIx (mOp wIx (mOp wIx (mVar 0) (mC (.int 0))) (mVar 5)) (mC (.int 1)))))) (gN 8))
  (sSeq (sIf (mAnd (mB (mOp wEq (mOp wIx (mOp wIx (mOp wIx (mVar 0) (mC (.int 0))) (mVar 5)) (mC (.int 0))) (mVar 2))) (mB (mOp wNe (mVar 8) (mFix (mLst mNil)))))
  (sSeq (sIf (mB (mOp wEq (mVar 7) (mUn wNeg (mC (.int 1)))))
  (sRet (mC .non))
  sNext)
  (sAsg (mFix (mLst (mCons (mOp wIx (mVar 8) (mVar 7)) mNil))) (gN 8)))
  (sIf (mB (mOp wNe (mVar 7) (mUn wNeg (mC (.int 1)))))
  (sRet (mC .non))
  sNext))
  (sSetIx (mTup (mCons (mVar 6) (mCons (mFix (mLc (mIter big (mVar 8)) (gN 10) mYes (mGet2 (mVar 3) (mOp wIx (mVar 10) (mC (.int 0))) (mC .non)) [10])) mNil))) (mVar 4) (mVar 5)))))
  (sRet (mVar 4)))))
def f_Lled : FM := runB 11 (b_Lled )
theorem o_Lled {P : Program} {w : World} {K : PySem.W.Frag} {mg : Str → Option Value} {base : Heap} {D : Dat} (T : Txt D K mg) :
    FnG P w K mg base 1 D.a_Lled D.d_Lled ["_law_arena_here", "_law_rows", "_law_owner"] (SPm K 3 (f_Lled )) :=
  have S := sc_Lled
  ok_body (k := 0) T.f_Lled S fun cdv A outer s H E hr gd =>
    (sss_cons (ss_set 3 S.nd (pg_callTV back_W (call_dictP rfl) q_dictP T.n_dict (by rfl) (se_fix (sl_lc [("_law_row", 9)] rfl S.nd (si_iter big (se_var 1)) (by kernel_rfl) (fun _ _ _ _ _ => (sg_name 9 S.nd)) (fun _ _ _ _ _ => sts_nil) (fun _ _ _ _ _ => (se_tup (sa_cons (se_sub' hr (se_var 9) se_int) (sa_cons (se_sub' hr (se_var 9) se_int) sa_nil))))))))
    (sss_cons (ss_set 4 S.nd se_dict0)
    (sss_cons (ss_for (passes_of rfl) rfl (si_iter big (se_var 1)) (sg_tup rfl (sgs_cons (sg_name 5 S.nd) (sgs_cons (sg_name 6 S.nd) (sgs_cons (sg_name 7 S.nd) sgs_nil))) (fun _ _ _ e => gl_cons (fun _ _ _ e => gl_cons (fun _ _ _ e => gl_cons (fun _ _ _ e => gl_nil e) e) e) e))
    (sss_cons (ss_set 8 S.nd (se_fix (pg_callTS back_L call_list_of q_list T.n_list (by rfl) (sq_val (se_sub' hr (se_sub' hr (se_sub' hr (se_var 0) se_int) (se_var 5)) se_int)))))
    (sss_cons (ss_if (PW.pt (sw_and (st_cmp (o_eq hr) p_eq (se_sub' hr (se_sub' hr (se_sub' hr (se_var 0) se_int) (se_var 5)) se_int) (se_var 2)) (sw_and1 (st_cmp (o_ne hr) p_ne (se_var 8) (se_fix (sl_lst sa_nil))))))
    (sss_cons (ss_if (st_cmp (o_eq hr) p_eq (se_var 7) (se_neg se_int))
    (sss_one (ss_ret se_non))
    sss_nil)
    (sss_one (ss_set 8 S.nd (se_fix (sl_lst (sa_cons (se_sub' hr (se_var 8) (se_var 7)) sa_nil))))))
    (sss_one (ss_if (st_cmp (o_ne hr) p_ne (se_var 7) (se_neg se_int))
    (sss_one (ss_ret se_non))
    sss_nil)))
    (sss_one (ss_setix hr (se_tup (sa_cons (se_var 6) (sa_cons (se_fix (sl_lc [("_law_one", 10)] rfl S.nd (si_iter big (se_var 8)) (by kernel_rfl) (fun _ _ _ _ _ => (sg_name 10 S.nd)) (fun _ _ _ _ _ => sts_nil) (fun _ _ _ _ _ => (se_get2 hr (se_var 3) (se_sub' hr (se_var 10) se_int) se_non)))) sa_nil))) (se_var 4) (se_var 5))))))
    (sss_one (ss_ret (se_var 4))))))
/-! ### Forcing.first_within -/
theorem sc_Forcing_first_within : FnScope ["self", "room", "inside", "number", "move"] ["self", "room", "inside"] (defScope st_Forcing_first_within) := ⟨rfl, rfl, rfl, by decide +kernel, rfl, by decide +kernel, by decide +kernel⟩
def b_Forcing_first_within : SM :=
  (sSeq (sFor (mEnum big (mOp wIx (mOp wIx (mUn (fldW kc_rooms "rooms") (mVar 0)) (mVar 1)) (mC (.int 1)))) (gT (gCons' (gN 3) (gCons' (gN 4) gNil')))
  (sIf (mB (mOp wIn (mOp wIx (mVar 4) (mC (.int 0))) (mVar 2)))
  (sRet (mVar 3))
  sNext))
  (sRet (mC .non)))
def f_Forcing_first_within : FM := runB 5 (b_Forcing_first_within )
theorem o_Forcing_first_within {P : Program} {w : World} {K : PySem.W.Frag} {mg : Str → Option Value} {base : Heap} {D : Dat} (T : Txt D K mg) :
    FnG P w K mg base 1 D.a_Forcing_first_within D.d_Forcing_first_within ["self", "room", "inside"] (SPm K 3 (f_Forcing_first_within )) :=
  have S := sc_Forcing_first_within
  ok_body (k := 0) T.f_Forcing_first_within S fun cdv A outer s H E hr gd =>
    (sss_cons (ss_for (passes_of rfl) rfl (si_enum big T.n_enumerate (se_sub' hr (se_sub' hr (se_fldO (cf_rooms T) (se_var 0)) (se_var 1)) se_int)) (sg_tup rfl (sgs_cons (sg_name 3 S.nd) (sgs_cons (sg_name 4 S.nd) sgs_nil)) (fun _ _ _ e => gl_cons (fun _ _ _ e => gl_cons (fun _ _ _ e => gl_nil e) e) e))
    (sss_one (ss_if (st_cmp (o_in hr) p_in (se_sub' hr (se_var 4) se_int) (se_var 2))
    (sss_one (ss_ret (se_var 3)))
    sss_nil)))
    (sss_one (ss_ret se_non)))
/-! ### Forcing.stays -/
theorem sc_Forcing_stays : FnScope ["self", "room", "inside", "owner", "moves", "some", "move"] ["self", "room", "inside"] (defScope st_Forcing_stays) := ⟨rfl, rfl, rfl, by decide +kernel, rfl, by decide +kernel, by decide +kernel⟩
def b_Forcing_stays : SM :=
  (sSeq (sAsg (mOp wIx (mUn (fldW kc_rooms "rooms") (mVar 0)) (mVar 1)) (gT (gCons' (gN 3) (gCons' (gN 4) gNil'))))
  (sSeq (sAsg (mNew (mLc (mIter big (mVar 4)) (gN 6) (mB (mOp wIn (mOp wIx (mVar 6) (mC (.int 0))) (mVar 2))) (mVar 6) [6])) (gN 5))
  (sRet (mIf (mB (mOp wEq (mVar 3) (mC (.int 0)))) (mOp wNe (mVar 5) (mFix (mLst mNil))) (mAndV (mOp wNe (mVar 4) (mTup mNil)) (mOp wEq (mCall wLen (mCons (mVar 5) mNil)) (mCall wLen (mCons (mVar 4) mNil))))))))
def f_Forcing_stays : FM := runB 7 (b_Forcing_stays )
theorem o_Forcing_stays {P : Program} {w : World} {K : PySem.W.Frag} {mg : Str → Option Value} {base : Heap} {D : Dat} (T : Txt D K mg) :
    FnG P w K mg base 1 D.a_Forcing_stays D.d_Forcing_stays ["self", "room", "inside"] (SPm K 3 (f_Forcing_stays )) :=
  have S := sc_Forcing_stays
  ok_body (k := 0) T.f_Forcing_stays S fun cdv A outer s H E hr gd =>
    (sss_cons (ss_asg (se_sub' hr (se_fldO (cf_rooms T) (se_var 0)) (se_var 1)) (sg_tup rfl (sgs_cons (sg_name 3 S.nd) (sgs_cons (sg_name 4 S.nd) sgs_nil)) (fun _ _ _ e => gl_cons (fun _ _ _ e => gl_cons (fun _ _ _ e => gl_nil e) e) e)))
    (sss_cons (ss_setLc 5 [("move", 6)] rfl S.nd (si_iter big (se_var 4)) (by kernel_rfl) (fun _ _ _ _ _ => (sg_name 6 S.nd)) (fun _ _ _ _ _ => (sts_one (st_cmp (o_in hr) p_in (se_sub' hr (se_var 6) se_int) (se_var 2)))) (fun _ _ _ _ _ => (se_var 6)))
    (sss_one (ss_ret (se_if (st_cmp (o_eq hr) p_eq (se_var 3) se_int) (se_cmp (o_ne hr) p_ne (se_var 5) (se_fix (sl_lst sa_nil))) (se_and (se_cmp (o_ne hr) p_ne (se_var 4) (se_tup sa_nil)) (se_one (se_cmp (o_eq hr) p_eq (se_callB c_len o_len T.n_len (by rfl) (sa_cons (se_var 5) sa_nil)) (se_callB c_len o_len T.n_len (by rfl) (sa_cons (se_var 4) sa_nil))))))))))
/-! ### Forcing.forced -/
theorem sc_Forcing_forced : FnScope ["self", "goals", "inside", "found", "left", "waiting", "at", "rank", "room", "number", "goal"] ["self", "goals", "inside"] (defScope st_Forcing_forced) := ⟨rfl, rfl, rfl, by decide +kernel, rfl, by decide +kernel, by decide +kernel⟩
def b_Forcing_forced : SM :=
  (sSeq (sAsg (mOnV wDictP (mFix (mLc (mIter big (mVar 1)) (gN 10) mYes (mTup (mCons (mVar 10) (mCons (mTup (mCons (mC (.int 0)) (mCons (mC .non) mNil))) mNil))) [10]))) (gN 3))
  (sSeq (sAsg (mOnV wDictP (mFix (lkL (lkV 2) (mLc (mIter big (mVar 2)) (gN 8) mYes (mTup (mCons (mVar 8) (mCons (mCall wLen (mCons (mOp wIx (mOp wIx (mUn (fldW kc_rooms "rooms") (mVar 0)) (mVar 8)) (mC (.int 1))) mNil)) mNil))) [8])))) (gN 4))
  (sSeq (sAsg (mNew (mOn lId (mSeq (mVar 1)))) (gN 5))
  (sSeq (sAsg (mC (.int 0)) (gN 6))
  (sSeq (sWhile big (mB (mOp wLt (mVar 6) (mCall wLen (mCons (mVar 5) mNil))))
  (sSeq (sAsg (mOp wAdd (mOp wIx (mOp wIx (mVar 3) (mOp wIx (mVar 5) (mVar 6))) (mC (.int 0))) (mC (.int 1))) (gN 7))
  (sSeq (sFor (mIter big (mOp wIx (mUn (fldW kc_into "into") (mVar 0)) (mOp wIx (mVar 5) (mVar 6)))) (gT (gCons' (gN 8) (gCons' (gN 9) gNil')))
  (sIf (mAnd (mB (mOp wIn (mVar 8) (mVar 2))) (mB (mOp wNotIn (mVar 8) (mVar 3))))
  (sSeq (sSetIx (mOp wSub (mOp wIx (mVar 4) (mVar 8)) (mC (.int 1))) (mVar 4) (mVar 8))
  (sIf (mOr (mB (mOp wEq (mOp wIx (mOp wIx (mUn (fldW kc_rooms "rooms") (mVar 0)) (mVar 8)) (mC (.int 0))) (mC (.int 0)))) (mB (mOp wEq (mOp wIx (mVar 4) (mVar 8)) (mC (.int 0)))))
  (sSeq (sSetIx (mTup (mCons (mVar 7) (mCons (mIf (mB (mOp wEq (mOp wIx (mOp wIx (mUn (fldW kc_rooms "rooms") (mVar 0)) (mVar 8)) (mC (.int 0))) (mC (.int 0)))) (mVar 9) (mC .non)) mNil))) (mVar 3) (mVar 8))
  (sDrop (mMt "list" wAppend (mVar 5) (mCons (mVar 8) mNil))))
  sNext))
  sNext))
  (sAsg (mOp wAdd (mVar 6) (mC (.int 1))) (gN 6)))))
  (sRet (mVar 3)))))))
def f_Forcing_forced : FM := runB 11 (b_Forcing_forced )
theorem o_Forcing_forced {P : Program} {w : World} {K : PySem.W.Frag} {mg : Str → Option Value} {base : Heap} {D : Dat} (T : Txt D K mg) :
    FnG P w K mg base 1 D.a_Forcing_forced D.d_Forcing_forced ["self", "goals", "inside"] (SPm K 3 (f_Forcing_forced )) :=
  have S := sc_Forcing_forced
  ok_body (k := 0) T.f_Forcing_forced S fun cdv A outer s H E hr gd =>
    (sss_cons (ss_set 3 S.nd (pg_callTV back_W (call_dictP rfl) q_dictP T.n_dict (by rfl) (se_fix (sl_lc [("goal", 10)] rfl S.nd (si_iter big (se_var 1)) (by kernel_rfl) (fun _ _ _ _ _ => (sg_name 10 S.nd)) (fun _ _ _ _ _ => sts_nil) (fun _ _ _ _ _ => (se_tup (sa_cons (se_var 10) (sa_cons (se_tup (sa_cons se_int (sa_cons se_non sa_nil))) sa_nil))))))))
    (sss_cons (ss_set 4 S.nd (pg_callTV back_W (call_dictP rfl) q_dictP T.n_dict (by rfl) (se_fix (sl_lock (lkV 2) (sl_lc [("room", 8)] rfl S.nd (si_iter big (se_var 2)) (by kernel_rfl) (fun _ _ _ _ _ => (sg_name 8 S.nd)) (fun _ _ _ _ _ => sts_nil) (fun _ _ _ _ _ => (se_tup (sa_cons (se_var 8) (sa_cons (se_callB c_len o_len T.n_len (by rfl) (sa_cons (se_sub' hr (se_sub' hr (se_fldO (cf_rooms T) (se_var 0)) (se_var 8)) se_int) sa_nil)) sa_nil)))))))))
    (sss_cons (ss_set 5 S.nd (se_new (pg_callTS back_L call_list_of q_list T.n_list (by rfl) (sq_val (se_var 1)))))
    (sss_cons (ss_set 6 S.nd se_int)
    (sss_cons (ss_while big (passes_of rfl) (st_cmp o_lt p_lt (se_var 6) (se_callB c_len o_len T.n_len (by rfl) (sa_cons (se_var 5) sa_nil)))
    (sss_cons (ss_set 7 S.nd (se_add (se_sub' hr (se_sub' hr (se_var 3) (se_sub' hr (se_var 5) (se_var 6))) se_int) se_int))
    (sss_cons (ss_for (passes_of rfl) rfl (si_iter big (se_sub' hr (se_fldO (cf_into T) (se_var 0)) (se_sub' hr (se_var 5) (se_var 6)))) (sg_tup rfl (sgs_cons (sg_name 8 S.nd) (sgs_cons (sg_name 9 S.nd) sgs_nil)) (fun _ _ _ e => gl_cons (fun _ _ _ e => gl_cons (fun _ _ _ e => gl_nil e) e) e))
    (sss_one (ss_if (PW.pt (sw_and (st_cmp (o_in hr) p_in (se_var 8) (se_var 2)) (sw_and1 (st_cmp (o_notIn hr) p_notIn (se_var 8) (se_var 3)))))
    (sss_cons (ss_setix hr (se_sub (se_sub' hr (se_var 4) (se_var 8)) se_int) (se_var 4) (se_var 8))
    (sss_one (ss_if (PW.pt (sw_or (st_cmp (o_eq hr) p_eq (se_sub' hr (se_sub' hr (se_fldO (cf_rooms T) (se_var 0)) (se_var 8)) se_int) se_int) (sw_or1 (st_cmp (o_eq hr) p_eq (se_sub' hr (se_var 4) (se_var 8)) se_int))))
    (sss_cons (ss_setix hr (se_tup (sa_cons (se_var 7) (sa_cons (se_if (st_cmp (o_eq hr) p_eq (se_sub' hr (se_sub' hr (se_fldO (cf_rooms T) (se_var 0)) (se_var 8)) se_int) se_int) (se_var 9) se_non) sa_nil))) (se_var 3) (se_var 8))
    (sss_one (ss_expr (se_append mt_append (se_var 5) (se_var 8)))))
    sss_nil)))
    sss_nil)))
    (sss_one (ss_set 6 S.nd (se_add (se_var 6) se_int))))))
    (sss_one (ss_ret (se_var 3))))))))
/-! ### Split.way_out -/
theorem sc_Split_way_out : FnScope ["self", "room", "inside", "found", "owner", "moves", "number", "move"] ["self", "room", "inside", "found"] (defScope st_Split_way_out) := ⟨rfl, rfl, rfl, by decide +kernel, rfl, by decide +kernel, by decide +kernel⟩
def b_Split_way_out : SM :=
  (sSeq (sAsg (mOp wIx (mUn (fldW kc_rooms "rooms") (mUn (fldW kc_forcing "forcing") (mVar 0))) (mVar 1)) (gT (gCons' (gN 4) (gCons' (gN 5) gNil'))))
  (sSeq (sIf (mB (mOp wEq (mVar 4) (mC (.int 0))))
  (sRet (mC .non))
  sNext)
  (sSeq (sFor (mEnum big (mVar 5)) (gT (gCons' (gN 6) (gCons' (gN 7) gNil')))
  (sIf (mB (mOp wNotIn (mOp wIx (mVar 7) (mC (.int 0))) (mIf (mB (mOp wIn (mVar 1) (mUn (fldW kc_noted "noted") (mVar 0)))) (mVar 2) (mVar 3))))
  (sRet (mVar 6))
  sNext))
  (sRet (mC .non)))))
def f_Split_way_out : FM := runB 8 (b_Split_way_out )
theorem o_Split_way_out {P : Program} {w : World} {K : PySem.W.Frag} {mg : Str → Option Value} {base : Heap} {D : Dat} (T : Txt D K mg) :
    FnG P w K mg base 1 D.a_Split_way_out D.d_Split_way_out ["self", "room", "inside", "found"] (SPm K 4 (f_Split_way_out )) :=
  have S := sc_Split_way_out
  ok_body (k := 0) T.f_Split_way_out S fun cdv A outer s H E hr gd =>
    (sss_cons (ss_asg (se_sub' hr (se_fldO (cf_rooms T) (se_fldO (cf_forcing T) (se_var 0))) (se_var 1)) (sg_tup rfl (sgs_cons (sg_name 4 S.nd) (sgs_cons (sg_name 5 S.nd) sgs_nil)) (fun _ _ _ e => gl_cons (fun _ _ _ e => gl_cons (fun _ _ _ e => gl_nil e) e) e)))
    (sss_cons (ss_if (st_cmp (o_eq hr) p_eq (se_var 4) se_int)
    (sss_one (ss_ret se_non))
    sss_nil)
    (sss_cons (ss_for (passes_of rfl) rfl (si_enum big T.n_enumerate (se_var 5)) (sg_tup rfl (sgs_cons (sg_name 6 S.nd) (sgs_cons (sg_name 7 S.nd) sgs_nil)) (fun _ _ _ e => gl_cons (fun _ _ _ e => gl_cons (fun _ _ _ e => gl_nil e) e) e))
    (sss_one (ss_if (st_cmp (o_notIn hr) p_notIn (se_sub' hr (se_var 7) se_int) (se_if (st_cmp (o_in hr) p_in (se_var 1) (se_fldO (cf_noted T) (se_var 0))) (se_var 2) (se_var 3)))
    (sss_one (ss_ret (se_var 6)))
    sss_nil)))
    (sss_one (ss_ret se_non)))))
/-! ### need_room -/
theorem sc_need_room : FnScope ["arena", "thing"] ["arena", "thing"] (defScope st_need_room) := ⟨rfl, rfl, rfl, by decide +kernel, rfl, by decide +kernel, by decide +kernel⟩
def b_need_room (c_is_among : FM) : SM :=
  (sIf (mNot (mTru (mFn 3 c_is_among (mCons (mVar 1) (mCons (mC (.int 0)) (mCons (mOp wSub (mCall wLen (mCons (mOp wIx (mVar 0) (mC (.int 0))) mNil)) (mC (.int 1))) mNil))))))
  (sRaise "BadRoom")
  sNext)
def f_need_room (c_is_among : FM) : FM := runB 2 (b_need_room c_is_among)
theorem o_need_room {P : Program} {w : World} {K : PySem.W.Frag} {mg : Str → Option Value} {base : Heap} {D : Dat} (T : Txt D K mg)
  {c_is_among : FM} (F_is_among : FnG P w K mg base 1 D.a_is_among D.d_is_among ["thing", "least", "most"] (SPm K 3 c_is_among)) :
    FnG P w K mg base 2 D.a_need_room D.d_need_room ["arena", "thing"] (SPm K 2 (f_need_room c_is_among)) :=
  have S := sc_need_room
  ok_body (k := 1) T.f_need_room S fun cdv A outer s H E hr gd =>
    (sss_one (ss_if (st_not (st_tru (se_call F_is_among T.b_is_among T.f_is_among.kp (hr.mono (by decide)) gd (takes_of rfl rfl rfl rfl) T.g_is_among (sa_cons (se_var 1) (sa_cons se_int (sa_cons (se_sub (se_callB c_len o_len T.n_len (by rfl) (sa_cons (se_sub' hr (se_var 0) se_int) sa_nil)) se_int) sa_nil))))))
    (sss_one (ss_raise T.e_BadRoom rfl (takes_of rfl rfl rfl rfl)))
    sss_nil))
/-! ### _law_next -/
theorem sc_Lnext : FnScope ["_law_draw", "_law_many", "_law_script", "_law_found", "_law_number"] ["_law_draw", "_law_many"] (defScope st_Lnext) := ⟨rfl, rfl, rfl, by decide +kernel, rfl, by decide +kernel, by decide +kernel⟩
def b_Lnext (c_Lcell c_Lmixed : FM) : SM :=
  (sSeq (sAsg (mOp wIx (mVar 0) (mC (.int 0))) (gN 2))
  (sSeq (sIf (mAnd (mB (mOp wNe (mVar 2) (mFix (mLst mNil)))) (mB (mOp wEq (mOp wMod (mOp wIx (mVar 2) (mC (.int 0))) (mC (.int 2))) (mC (.int 1)))))
  (sSeq (sWhile big (mAnd (mB (mOp wEq (mOp wIx (mVar 0) (mC (.int 2))) (mC (.int 0)))) (mB (mOp wLt (mOp wAdd (mOp wIx (mVar 0) (mC (.int 1))) (mC (.int 1))) (mCall wLen (mCons (mVar 2) mNil)))))
  (sSeq (sSetIx (mOp wAdd (mOp wIx (mVar 0) (mC (.int 1))) (mC (.int 1))) (mVar 0) (mC (.int 1)))
  (sSetIx (mCall wAbs (mCons (mOp wIx (mVar 2) (mOp wIx (mVar 0) (mC (.int 1)))) mNil)) (mVar 0) (mC (.int 2)))))
  (sIf (mB (mOp wGt (mOp wIx (mVar 0) (mC (.int 2))) (mC (.int 0))))
  (sSeq (sAsg (mOp wMod (mOp wIx (mVar 0) (mC (.int 2))) (mVar 1)) (gN 3))
  (sSeq (sSetIx (mOp wFdiv (mOp wIx (mVar 0) (mC (.int 2))) (mVar 1)) (mVar 0) (mC (.int 2)))
  (sRet (mVar 3))))
  sNext))
  sNext)
  (sSeq (sSetIx (mOp wAdd (mOp wIx (mVar 0) (mC (.int 3))) (mC (.int 1))) (mVar 0) (mC (.int 3)))
  (sSeq (sAsg (mFn 2 c_Lcell (mCons (mVar 2) (mCons (mOp wIx (mVar 0) (mC (.int 3))) mNil))) (gN 4))
  (sRet (mOp wMod (mOp wFdiv (mFn 2 c_Lmixed (mCons (mVar 4) (mCons (mOp wFdiv (mOp wIx (mVar 0) (mC (.int 3))) (mC (.int 7))) mNil))) (mC (.int 32))) (mVar 1)))))))
def f_Lnext (c_Lcell c_Lmixed : FM) : FM := runB 5 (b_Lnext c_Lcell c_Lmixed)
theorem o_Lnext {P : Program} {w : World} {K : PySem.W.Frag} {mg : Str → Option Value} {base : Heap} {D : Dat} (T : Txt D K mg)
  {c_Lcell : FM} (F_Lcell : FnG P w K mg base 1 D.a_Lcell D.d_Lcell ["_law_script", "_law_k"] (SPm K 2 c_Lcell))
  {c_Lmixed : FM} (F_Lmixed : FnG P w K mg base 1 D.a_Lmixed D.d_Lmixed ["_law_number", "_law_k"] (SPm K 2 c_Lmixed)) :
    FnG P w K mg base 2 D.a_Lnext D.d_Lnext ["_law_draw", "_law_many"] (SPm K 2 (f_Lnext c_Lcell c_Lmixed)) :=
  have S := sc_Lnext
  ok_body (k := 1) T.f_Lnext S fun cdv A outer s H E hr gd =>
    (sss_cons (ss_set 2 S.nd (se_sub' hr (se_var 0) se_int))
    (sss_cons (ss_if (PW.pt (sw_and (st_cmp (o_ne hr) p_ne (se_var 2) (se_fix (sl_lst sa_nil))) (sw_and1 (st_cmp (o_eq hr) p_eq (se_mod (se_sub' hr (se_var 2) se_int) se_int) se_int))))
    (sss_cons (ss_while big (passes_of rfl) (PW.pt (sw_and (st_cmp (o_eq hr) p_eq (se_sub' hr (se_var 0) se_int) se_int) (sw_and1 (st_cmp o_lt p_lt (se_add (se_sub' hr (se_var 0) se_int) se_int) (se_callB c_len o_len T.n_len (by rfl) (sa_cons (se_var 2) sa_nil))))))
    (sss_cons (ss_setix hr (se_add (se_sub' hr (se_var 0) se_int) se_int) (se_var 0) se_int)
    (sss_one (ss_setix hr (se_callB call_abs o_abs T.n_abs (by rfl) (sa_cons (se_sub' hr (se_var 2) (se_sub' hr (se_var 0) se_int)) sa_nil)) (se_var 0) se_int))))
    (sss_one (ss_if (st_cmp o_gt p_gt (se_sub' hr (se_var 0) se_int) se_int)
    (sss_cons (ss_set 3 S.nd (se_mod (se_sub' hr (se_var 0) se_int) (se_var 1)))
    (sss_cons (ss_setix hr (se_fdiv (se_sub' hr (se_var 0) se_int) (se_var 1)) (se_var 0) se_int)
    (sss_one (ss_ret (se_var 3)))))
    sss_nil)))
    sss_nil)
    (sss_cons (ss_setix hr (se_add (se_sub' hr (se_var 0) se_int) se_int) (se_var 0) se_int)
    (sss_cons (ss_set 4 S.nd (se_call F_Lcell T.b_Lcell T.f_Lcell.kp (hr.mono (by decide)) gd (takes_of rfl rfl rfl rfl) T.g_Lcell (sa_cons (se_var 2) (sa_cons (se_sub' hr (se_var 0) se_int) sa_nil))))
    (sss_one (ss_ret (se_mod (se_fdiv (se_call F_Lmixed T.b_Lmixed T.f_Lmixed.kp (hr.mono (by decide)) gd (takes_of rfl rfl rfl rfl) T.g_Lmixed (sa_cons (se_var 4) (sa_cons (se_fdiv (se_sub' hr (se_var 0) se_int) se_int) sa_nil))) se_int) (se_var 1))))))))
/-! ### _law_paper_right -/
theorem sc_Lpaper_right : FnScope ["_law_arena_here", "_law_goal", "_law_room", "_law_told", "_law_answer", "_law_word", "_law_rows", "_law_rooms", "_law_led_here", "_law_one", "_law_number", "_law_nexts", "_law_row"] ["_law_arena_here", "_law_goal", "_law_room", "_law_told", "_law_answer"] (defScope st_Lpaper_right) := ⟨rfl, rfl, rfl, by decide +kernel, rfl, by decide +kernel, by decide +kernel⟩
def b_Lpaper_right (c_Lis_row c_Lled : FM) : SM :=
  (sSeq (sAsg (mOp wIx (mDisp (((mC (.str "mine")), (mC (.str "ranks"))) :: (((mC (.str "other")), (mC (.str "layers"))) :: []))) (mVar 4)) (gN 5))
  (sSeq (sIf (mOr (mNot (mTru (mIsi "tuple" (mVar 3)))) (mOr (mB (mOp wNe (mCall wLen (mCons (mVar 3) mNil)) (mC (.int 1)))) (mOr (mNot (mTru (mIsi "tuple" (mOp wIx (mVar 3) (mC (.int 0)))))) (mB (mOp wNe (mCall wLen (mCons (mOp wIx (mVar 3) (mC (.int 0))) mNil)) (mC (.int 2)))))))
  (sRet (mC (.bl false)))
  sNext)
  (sSeq (sAsg (mOp wIx (mOp wIx (mVar 3) (mC (.int 0))) (mC (.int 1))) (gN 6))
  (sSeq (sIf (mOr (mB (mOp wNe (mOp wIx (mOp wIx (mVar 3) (mC (.int 0))) (mC (.int 0))) (mVar 5))) (mNot (mTru (mIsi "tuple" (mVar 6)))))
  (sRet (mC (.bl false)))
  sNext)
  (sSeq (sIf (mB (mOp wNe (mFix (mLc (mIter big (mVar 6)) (gN 12) (mNot (mTru (mFn 2 c_Lis_row (mCons (mVar 12) (mCons (mVar 0) mNil))))) (mVar 12) [12])) (mFix (mLst mNil))))
  (sRet (mC (.bl false)))
  sNext)
  (sSeq (sAsg (mNew (mLc (mIter big (mVar 6)) (gN 12) mYes (mOp wIx (mVar 12) (mC (.int 0))) [12])) (gN 7))
  (sSeq (sIf (mOr (mB (mOp wNe (mVar 7) (mFix (mOnV lSetSort (mVar 7))))) (mB (mOp wNotIn (mVar 2) (mVar 7))))
  (sRet (mC (.bl false)))
  sNext)
  (sSeq (sAsg (mFn 3 c_Lled (mCons (mVar 0) (mCons (mVar 6) (mCons (mMt "list" wIndex (mFix (mLst (mCons (mC (.str "mine")) (mCons (mC (.str "other")) mNil)))) (mCons (mVar 4) mNil)) mNil)))) (gN 8))
  (sSeq (sIf (mB (mOp wIs (mVar 8) (mC .non)))
  (sRet (mC (.bl false)))
  sNext)
  (sSeq (lkS (lkV 8) (sFor (mIter big (mVar 8)) (gN 9)
  (sSeq (sAsg (mOp wIx (mVar 8) (mVar 9)) (gT (gCons' (gN 10) (gCons' (gN 11) gNil'))))
  (sSeq (sIf (mOr (mB (mOp wIn (mC .non) (mVar 11))) (mAnd (mB (mOp wEq (mVar 4) (mC (.str "mine")))) (mB (mOp wEq (mVar 11) (mFix (mLst mNil))))))
  (sRet (mC (.bl false)))
  sNext)
  (sSeq (sIf (mAnd (mB (mOp wEq (mVar 4) (mC (.str "mine")))) (mAnd (mB (mOp wNotIn (mVar 9) (mVar 1))) (mB (mOp wGe (mOn wMax (mLstOf (mVar 11))) (mVar 10)))))
  (sRet (mC (.bl false)))
  sNext)
  (sIf (mAnd (mB (mOp wEq (mVar 4) (mC (.str "other")))) (mB (mOp wGt (mOn wMax (mLstOf (mOp wAdd (mVar 11) (mFix (mLst (mCons (mUn wNeg (mC (.int 1))) mNil)))))) (mOp wSub (mVar 10) (mCall wInt (mCons (mOp wIn (mVar 9) (mVar 1)) mNil))))))
  (sRet (mC (.bl false)))
  sNext))))))
  (sRet (mC (.bl true)))))))))))))
def f_Lpaper_right (c_Lis_row c_Lled : FM) : FM := runB 13 (b_Lpaper_right c_Lis_row c_Lled)
theorem o_Lpaper_right {P : Program} {w : World} {K : PySem.W.Frag} {mg : Str → Option Value} {base : Heap} {D : Dat} (T : Txt D K mg)
  {c_Lis_row : FM} (F_Lis_row : FnG P w K mg base 1 D.a_Lis_row D.d_Lis_row ["_law_row", "_law_arena_here"] (SPm K 2 c_Lis_row))
  {c_Lled : FM} (F_Lled : FnG P w K mg base 1 D.a_Lled D.d_Lled ["_law_arena_here", "_law_rows", "_law_owner"] (SPm K 3 c_Lled)) :
    FnG P w K mg base 2 D.a_Lpaper_right D.d_Lpaper_right ["_law_arena_here", "_law_goal", "_law_room", "_law_told", "_law_answer"] (SPm K 5 (f_Lpaper_right c_Lis_row c_Lled)) :=
  have S := sc_Lpaper_right
  ok_body (k := 1) T.f_Lpaper_right S fun cdv A outer s H E hr gd =>
    (sss_cons (ss_set 5 S.nd (se_sub' hr (se_dict (sps_cons se_str se_str (sps_cons se_str se_str sps_nil))) (se_var 4)))
    (sss_cons (ss_if (PW.pt (sw_or (st_not (st_tru (se_isi "tuple" (by decide) T.n_isinstance T.n_tuple (se_var 3) (by rfl)))) (sw_or (st_cmp (o_ne hr) p_ne (se_callB c_len o_len T.n_len (by rfl) (sa_cons (se_var 3) sa_nil)) se_int) (sw_or (st_not (st_tru (se_isi "tuple" (by decide) T.n_isinstance T.n_tuple (se_sub' hr (se_var 3) se_int) (by rfl)))) (sw_or1 (st_cmp (o_ne hr) p_ne (se_callB c_len o_len T.n_len (by rfl) (sa_cons (se_sub' hr (se_var 3) se_int) sa_nil)) se_int))))))
    (sss_one (ss_ret se_bl))
    sss_nil)
    (sss_cons (ss_set 6 S.nd (se_sub' hr (se_sub' hr (se_var 3) se_int) se_int))
    (sss_cons (ss_if (PW.pt (sw_or (st_cmp (o_ne hr) p_ne (se_sub' hr (se_sub' hr (se_var 3) se_int) se_int) (se_var 5)) (sw_or1 (st_not (st_tru (se_isi "tuple" (by decide) T.n_isinstance T.n_tuple (se_var 6) (by rfl)))))))
    (sss_one (ss_ret se_bl))
    sss_nil)
    (sss_cons (ss_if (st_cmp (o_ne hr) p_ne (se_fix (sl_lc [("_law_row", 12)] rfl S.nd (si_iter big (se_var 6)) (by kernel_rfl) (fun _ _ _ _ _ => (sg_name 12 S.nd)) (fun _ _ _ _ _ => (sts_one (st_not (st_tru (se_call F_Lis_row T.b_Lis_row T.f_Lis_row.kp (hr.mono (by decide)) gd takes0 T.g_Lis_row (sa_cons (se_var 12) (sa_cons (se_var 0) sa_nil))))))) (fun _ _ _ _ _ => (se_var 12)))) (se_fix (sl_lst sa_nil)))
    (sss_one (ss_ret se_bl))
    sss_nil)
    (sss_cons (ss_setLc 7 [("_law_row", 12)] rfl S.nd (si_iter big (se_var 6)) (by kernel_rfl) (fun _ _ _ _ _ => (sg_name 12 S.nd)) (fun _ _ _ _ _ => sts_nil) (fun _ _ _ _ _ => (se_sub' hr (se_var 12) se_int)))
    (sss_cons (ss_if (PW.pt (sw_or (st_cmp (o_ne hr) p_ne (se_var 7) (se_fix (sl_sortSet rfl T.n_sorted T.n_set (se_var 7)))) (sw_or1 (st_cmp (o_notIn hr) p_notIn (se_var 2) (se_var 7)))))
    (sss_one (ss_ret se_bl))
    sss_nil)
    (sss_cons (ss_set 8 S.nd (se_call F_Lled T.b_Lled T.f_Lled.kp (hr.mono (by decide)) gd (takes_of rfl rfl rfl rfl) T.g_Lled (sa_cons (se_var 0) (sa_cons (se_var 6) (sa_cons (se_index (se_fix (sl_lst (sa_cons se_str (sa_cons se_str sa_nil)))) (se_var 4)) sa_nil)))))
    (sss_cons (ss_if (st_cmp o_is p_is (se_var 8) se_non)
    (sss_one (ss_ret se_bl))
    sss_nil)
    (sss_cons (ss_lock (lkV 8) (ss_for (passes_of rfl) rfl (si_iter big (se_var 8)) (sg_name 9 S.nd)
    (sss_cons (ss_asg (se_sub' hr (se_var 8) (se_var 9)) (sg_tup rfl (sgs_cons (sg_name 10 S.nd) (sgs_cons (sg_name 11 S.nd) sgs_nil)) (fun _ _ _ e => gl_cons (fun _ _ _ e => gl_cons (fun _ _ _ e => gl_nil e) e) e)))
    (sss_cons (ss_if (PW.pt (sw_or (st_cmp (o_in hr) p_in se_non (se_var 11)) (sw_or1 (PW.pt (sw_and (st_cmp (o_eq hr) p_eq (se_var 4) se_str) (sw_and1 (st_cmp (o_eq hr) p_eq (se_var 11) (se_fix (sl_lst sa_nil)))))))))
    (sss_one (ss_ret se_bl))
    sss_nil)
    (sss_cons (ss_if (PW.pt (sw_and (st_cmp (o_eq hr) p_eq (se_var 4) se_str) (sw_and (st_cmp (o_notIn hr) p_notIn (se_var 9) (se_var 1)) (sw_and1 (st_cmp o_ge p_ge (pg_callBM back_W (cr_max rfl) q_max T.n_max (by rfl) (sm_val (se_var 11))) (se_var 10))))))
    (sss_one (ss_ret se_bl))
    sss_nil)
    (sss_one (ss_if (PW.pt (sw_and (st_cmp (o_eq hr) p_eq (se_var 4) se_str) (sw_and1 (st_cmp o_gt p_gt (pg_callBM back_W (cr_max rfl) q_max T.n_max (by rfl) (sm_val (se_add (se_var 11) (se_fix (sl_lst (sa_cons (se_neg se_int) sa_nil)))))) (se_sub (se_var 10) (se_callT c_int o_int T.n_int (by rfl) (sa_cons (se_cmp (o_in hr) p_in (se_var 9) (se_var 1)) sa_nil)))))))
    (sss_one (ss_ret se_bl))
    sss_nil)))))))
    (sss_one (ss_ret se_bl))))))))))))
/-! ### Forcing.__init__ -/
theorem sc_Forcing_ini : FnScope ["self", "arena"] ["self", "arena"] (defScope st_Forcing_ini) := ⟨rfl, rfl, rfl, by decide +kernel, rfl, by decide +kernel, by decide +kernel⟩
def b_Forcing_ini (c_moves_into : FM) : SM :=
  (sSeq (sSetFld kc_rooms "rooms" (mOp wIx (mVar 1) (mC (.int 0))) (mVar 0))
  (sSetFld kc_into "into" (mFn 1 c_moves_into (mCons (mVar 1) mNil)) (mVar 0)))
def f_Forcing_ini (c_moves_into : FM) : FM := runB 2 (b_Forcing_ini c_moves_into)
theorem o_Forcing_ini {P : Program} {w : World} {K : PySem.W.Frag} {mg : Str → Option Value} {base : Heap} {D : Dat} (T : Txt D K mg)
  {c_moves_into : FM} (F_moves_into : FnG P w K mg base 1 D.a_moves_into D.d_moves_into ["arena"] (SPm K 1 c_moves_into)) :
    FnG P w K mg base 2 D.a_Forcing_ini D.d_Forcing_ini ["self", "arena"] (SPm K 2 (f_Forcing_ini c_moves_into)) :=
  have S := sc_Forcing_ini
  ok_body (k := 1) T.f_Forcing_ini S fun cdv A outer s H E hr gd =>
    (sss_cons (ss_setfld (cf_rooms T) (se_sub' hr (se_var 1) se_int) (se_var 0))
    (sss_one (ss_setfld (cf_into T) (se_call F_moves_into T.b_moves_into T.f_moves_into.kp (hr.mono (by decide)) gd (takes_of rfl rfl rfl rfl) T.g_moves_into (sa_cons (se_var 1) sa_nil)) (se_var 0))))
/-! ### Split.put_out -/
theorem sc_Split_put_out : FnScope ["self", "inside", "found", "layer", "room"] ["self", "inside", "found", "layer"] (defScope st_Split_put_out) := ⟨rfl, rfl, rfl, by decide +kernel, rfl, by decide +kernel, by decide +kernel⟩
def b_Split_put_out (c_Split_way_out : FM) : SM :=
  (lkS (lkV 1) (sFor (mIter big (mVar 1)) (gN 4)
  (sIf (mB (mOp wNotIn (mVar 4) (mVar 2)))
  (sSetIx (mTup (mCons (mVar 3) (mCons (mMth "Split" "way_out" 4 c_Split_way_out (mVar 0) (mCons (mVar 4) (mCons (mVar 1) (mCons (mVar 2) mNil)))) mNil))) (mUn (fldW kc_others "others") (mVar 0)) (mVar 4))
  sNext)))
def f_Split_put_out (c_Split_way_out : FM) : FM := runB 5 (b_Split_put_out c_Split_way_out)
theorem o_Split_put_out {P : Program} {w : World} {K : PySem.W.Frag} {mg : Str → Option Value} {base : Heap} {D : Dat} (T : Txt D K mg)
  {c_Split_way_out : FM} (F_Split_way_out : FnG P w K mg base 1 D.a_Split_way_out D.d_Split_way_out ["self", "room", "inside", "found"] (SPm K 4 c_Split_way_out)) :
    FnG P w K mg base 2 D.a_Split_put_out D.d_Split_put_out ["self", "inside", "found", "layer"] (SPm K 4 (f_Split_put_out c_Split_way_out)) :=
  have S := sc_Split_put_out
  ok_body (k := 1) T.f_Split_put_out S fun cdv A outer s H E hr gd =>
    (sss_one (ss_lock (lkV 1) (ss_for (passes_of rfl) rfl (si_iter big (se_var 1)) (sg_name 4 S.nd)
    (sss_one (ss_if (st_cmp (o_notIn hr) p_notIn (se_var 4) (se_var 2))
    (sss_one (ss_setix hr (se_tup (sa_cons (se_var 3) (sa_cons (se_meth T.ns_Split T.cl_Split T.mt_Split_way_out F_Split_way_out T.b_Split_way_out (hr.mono (by decide)) gd (takes_of rfl rfl rfl rfl) (se_var 0) (sa_cons (se_var 4) (sa_cons (se_var 1) (sa_cons (se_var 2) sa_nil)))) sa_nil))) (se_fldO (cf_others T) (se_var 0)) (se_var 4)))
    sss_nil)))))
/-! ### _law_move -/
theorem sc_Lmove : FnScope ["_law_draw", "_law_many", "_law_price"] ["_law_draw", "_law_many"] (defScope st_Lmove) := ⟨rfl, rfl, rfl, by decide +kernel, rfl, by decide +kernel, by decide +kernel⟩
def b_Lmove (c_Lnext : FM) : SM :=
  (sSeq (sAsg (mOp wIx (mFix (mLst (mCons (mC (.int 0)) (mCons (mC (.int 1)) (mCons (mUn wNeg (mC (.int 1))) (mCons (mC (.int 2)) (mCons (mUn wNeg (mC (.int 2))) (mCons (mC (.int 5)) (mCons (mUn wNeg (mC (.int 7))) (mCons (mC (.int 3)) (mCons (mC (.int 1000)) (mCons (mUn wNeg (mC (.int 1000))) mNil)))))))))))) (mFn 2 c_Lnext (mCons (mVar 0) (mCons (mC (.int 10)) mNil)))) (gN 2))
  (sRet (mTup (mCons (mFn 2 c_Lnext (mCons (mVar 0) (mCons (mVar 1) mNil))) (mCons (mVar 2) (mCons (mFn 2 c_Lnext (mCons (mVar 0) (mCons (mC (.int 2)) mNil))) mNil))))))
def f_Lmove (c_Lnext : FM) : FM := runB 3 (b_Lmove c_Lnext)
theorem o_Lmove {P : Program} {w : World} {K : PySem.W.Frag} {mg : Str → Option Value} {base : Heap} {D : Dat} (T : Txt D K mg)
  {c_Lnext : FM} (F_Lnext : FnG P w K mg base 2 D.a_Lnext D.d_Lnext ["_law_draw", "_law_many"] (SPm K 2 c_Lnext)) :
    FnG P w K mg base 3 D.a_Lmove D.d_Lmove ["_law_draw", "_law_many"] (SPm K 2 (f_Lmove c_Lnext)) :=
  have S := sc_Lmove
  ok_body (k := 2) T.f_Lmove S fun cdv A outer s H E hr gd =>
    (sss_cons (ss_set 2 S.nd (se_sub' hr (se_fix (sl_lst (sa_cons se_int (sa_cons se_int (sa_cons (se_neg se_int) (sa_cons se_int (sa_cons (se_neg se_int) (sa_cons se_int (sa_cons (se_neg se_int) (sa_cons se_int (sa_cons se_int (sa_cons (se_neg se_int) sa_nil)))))))))))) (se_call F_Lnext T.b_Lnext T.f_Lnext.kp (hr.mono (by decide)) gd (takes_of rfl rfl rfl rfl) T.g_Lnext (sa_cons (se_var 0) (sa_cons se_int sa_nil)))))
    (sss_one (ss_ret (se_tup (sa_cons (se_call F_Lnext T.b_Lnext T.f_Lnext.kp (hr.mono (by decide)) gd (takes_of rfl rfl rfl rfl) T.g_Lnext (sa_cons (se_var 0) (sa_cons (se_var 1) sa_nil))) (sa_cons (se_var 2) (sa_cons (se_call F_Lnext T.b_Lnext T.f_Lnext.kp (hr.mono (by decide)) gd (takes_of rfl rfl rfl rfl) T.g_Lnext (sa_cons (se_var 0) (sa_cons se_int sa_nil))) sa_nil)))))))
/-! ### _law_wide -/
theorem sc_Lwide : FnScope ["_law_draw", "_law_most", "_law_one", "_law_moves", "_law_rooms", "_law_k"] ["_law_draw"] (defScope st_Lwide) := ⟨rfl, rfl, rfl, by decide +kernel, rfl, by decide +kernel, by decide +kernel⟩
def b_Lwide (c_Lnext : FM) : SM :=
  (sSeq (sAsg (mTup (mCons (mOp wAdd (mC (.int 1)) (mFn 2 c_Lnext (mCons (mVar 0) (mCons (mC (.int 2)) mNil)))) (mCons (mOp wIx (mFix (mLst (mCons (mC (.int 23)) (mCons (mFn 2 c_Lnext (mCons (mVar 0) (mCons (mC (.int 24)) mNil))) mNil)))) (mFn 2 c_Lnext (mCons (mVar 0) (mCons (mC (.int 2)) mNil)))) mNil))) (gT (gCons' (gN 1) (gCons' (gN 2) gNil'))))
  (sSeq (sAsg (mNew (mLc (mRange1 (mC (.int 24))) (gN 5) mYes (mTup (mCons (mIf (mB (mOp wEq (mVar 5) (mVar 2))) (mOp wSub (mC (.int 3)) (mVar 1)) (mVar 1)) (mCons (mOp wSub (mFn 2 c_Lnext (mCons (mVar 0) (mCons (mC (.int 9)) mNil))) (mC (.int 4))) (mCons (mFn 2 c_Lnext (mCons (mVar 0) (mCons (mC (.int 2)) mNil))) mNil)))) [5])) (gN 3))
  (sSeq (sAsg (mNew (mLst (mCons (mTup (mCons (mFn 2 c_Lnext (mCons (mVar 0) (mCons (mC (.int 2)) mNil))) (mCons (mOn wTupQ (mSeq (mVar 3))) mNil))) mNil))) (gN 4))
  (sSeq (sFor (mIter big (mTup (mCons (mC (.int 1)) (mCons (mC (.int 2)) mNil)))) (gN 5)
  (sDrop (mMt "list" wAppend (mVar 4) (mCons (mTup (mCons (mFn 2 c_Lnext (mCons (mVar 0) (mCons (mC (.int 2)) mNil))) (mCons (mOp wAdd (mTup (mCons (mTup (mCons (mVar 5) (mCons (mC (.int 1)) (mCons (mC (.int 1)) mNil)))) mNil)) (mOp wMulT (mTup (mCons (mTup (mCons (mC (.int 0)) (mCons (mC (.int 0)) (mCons (mC (.int 1)) mNil)))) mNil)) (mFn 2 c_Lnext (mCons (mVar 0) (mCons (mC (.int 2)) mNil))))) mNil))) mNil))))
  (sRet (mTup (mCons (mOn wTupQ (mSeq (mVar 4))) (mCons (mTup (mCons (mTup (mCons (mC (.str "goal")) (mCons (mTup (mCons (mC (.int 2)) mNil)) mNil))) (mCons (mTup (mCons (mC (.str "other")) (mCons (mTup (mCons (mC (.int 0)) mNil)) mNil))) mNil))) mNil))))))))
def f_Lwide (c_Lnext : FM) : FM := runB 6 (b_Lwide c_Lnext)
theorem o_Lwide {P : Program} {w : World} {K : PySem.W.Frag} {mg : Str → Option Value} {base : Heap} {D : Dat} (T : Txt D K mg)
  {c_Lnext : FM} (F_Lnext : FnG P w K mg base 2 D.a_Lnext D.d_Lnext ["_law_draw", "_law_many"] (SPm K 2 c_Lnext)) :
    FnG P w K mg base 3 D.a_Lwide D.d_Lwide ["_law_draw"] (SPm K 1 (f_Lwide c_Lnext)) :=
  have S := sc_Lwide
  ok_body (k := 2) T.f_Lwide S fun cdv A outer s H E hr gd =>
    (sss_cons (ss_asg (se_tup (sa_cons (se_add se_int (se_call F_Lnext T.b_Lnext T.f_Lnext.kp (hr.mono (by decide)) gd (takes_of rfl rfl rfl rfl) T.g_Lnext (sa_cons (se_var 0) (sa_cons se_int sa_nil)))) (sa_cons (se_sub' hr (se_fix (sl_lst (sa_cons se_int (sa_cons (se_call F_Lnext T.b_Lnext T.f_Lnext.kp (hr.mono (by decide)) gd (takes_of rfl rfl rfl rfl) T.g_Lnext (sa_cons (se_var 0) (sa_cons se_int sa_nil))) sa_nil)))) (se_call F_Lnext T.b_Lnext T.f_Lnext.kp (hr.mono (by decide)) gd (takes_of rfl rfl rfl rfl) T.g_Lnext (sa_cons (se_var 0) (sa_cons se_int sa_nil)))) sa_nil))) (sg_tup rfl (sgs_cons (sg_name 1 S.nd) (sgs_cons (sg_name 2 S.nd) sgs_nil)) (fun _ _ _ e => gl_cons (fun _ _ _ e => gl_cons (fun _ _ _ e => gl_nil e) e) e)))
    (sss_cons (ss_setLc 3 [("_law_k", 5)] rfl S.nd (si_range1 T.n_range se_int) (by kernel_rfl) (fun _ _ _ _ _ => (sg_name 5 S.nd)) (fun _ _ _ _ _ => sts_nil) (fun _ _ _ _ _ => (se_tup (sa_cons (se_if (st_cmp (o_eq hr) p_eq (se_var 5) (se_var 2)) (se_sub se_int (se_var 1)) (se_var 1)) (sa_cons (se_sub (se_call F_Lnext T.b_Lnext T.f_Lnext.kp (hr.mono (by decide)) gd takes0 T.g_Lnext (sa_cons (se_var 0) (sa_cons se_int sa_nil))) se_int) (sa_cons (se_call F_Lnext T.b_Lnext T.f_Lnext.kp (hr.mono (by decide)) gd takes0 T.g_Lnext (sa_cons (se_var 0) (sa_cons se_int sa_nil))) sa_nil))))))
    (sss_cons (ss_set 4 S.nd (se_new (sl_lst (sa_cons (se_tup (sa_cons (se_call F_Lnext T.b_Lnext T.f_Lnext.kp (hr.mono (by decide)) gd (takes_of rfl rfl rfl rfl) T.g_Lnext (sa_cons (se_var 0) (sa_cons se_int sa_nil))) (sa_cons (pg_callTS back_W call_tuple_of q_tup T.n_tuple (by rfl) (sq_val (se_var 3))) sa_nil))) sa_nil))))
    (sss_cons (ss_for (passes_of rfl) rfl (si_iter big (se_tup (sa_cons se_int (sa_cons se_int sa_nil)))) (sg_name 5 S.nd)
    (sss_one (ss_expr (se_append mt_append (se_var 4) (se_tup (sa_cons (se_call F_Lnext T.b_Lnext T.f_Lnext.kp (hr.mono (by decide)) gd (takes_of rfl rfl rfl rfl) T.g_Lnext (sa_cons (se_var 0) (sa_cons se_int sa_nil))) (sa_cons (se_add (se_tup (sa_cons (se_tup (sa_cons (se_var 5) (sa_cons se_int (sa_cons se_int sa_nil)))) sa_nil)) (se_mulT (se_tup (sa_cons (se_tup (sa_cons se_int (sa_cons se_int (sa_cons se_int sa_nil)))) sa_nil)) (se_call F_Lnext T.b_Lnext T.f_Lnext.kp (hr.mono (by decide)) gd (takes_of rfl rfl rfl rfl) T.g_Lnext (sa_cons (se_var 0) (sa_cons se_int sa_nil))))) sa_nil)))))))
    (sss_one (ss_ret (se_tup (sa_cons (pg_callTS back_W call_tuple_of q_tup T.n_tuple (by rfl) (sq_val (se_var 4))) (sa_cons (se_tup (sa_cons (se_tup (sa_cons se_str (sa_cons (se_tup (sa_cons se_int sa_nil)) sa_nil))) (sa_cons (se_tup (sa_cons se_str (sa_cons (se_tup (sa_cons se_int sa_nil)) sa_nil))) sa_nil))) sa_nil)))))))))
/-! ### _law_arena -/
theorem sc_Larena : FnScope ["_law_draw", "_law_most", "_law_many", "_law_places", "_law_room", "_law_owner", "_law_moves", "_law_k", "_law_cell_here", "_law_number", "_law_move_here", "_law_marks", "_law_some", "_law_share", "_law_rooms"] ["_law_draw", "_law_most"] (defScope st_Larena) := ⟨rfl, rfl, rfl, by decide +kernel, rfl, by decide +kernel, by decide +kernel⟩
def b_Larena (c_Lnext c_Lmove : FM) : SM :=
  (sSeq (sAsg (mOp wAdd (mC (.int 1)) (mFn 2 c_Lnext (mCons (mVar 0) (mCons (mVar 1) mNil)))) (gN 2))
  (sSeq (sAsg (mNew (mLst mNil)) (gN 3))
  (sSeq (sFor (mRange1 (mVar 2)) (gN 4)
  (sSeq (sAsg (mFn 2 c_Lnext (mCons (mVar 0) (mCons (mC (.int 2)) mNil))) (gN 5))
  (sSeq (sAsg (mNew (mLst mNil)) (gN 6))
  (sSeq (sFor (mRange1 (mOp wIx (mFix (mLst (mCons (mC (.int 1)) (mCons (mC (.int 2)) (mCons (mC (.int 2)) (mCons (mC (.int 3)) (mCons (mC (.int 0)) (mCons (mC (.int 1)) mNil)))))))) (mFn 2 c_Lnext (mCons (mVar 0) (mCons (mC (.int 6)) mNil))))) (gN 7)
  (sDrop (mMt "list" wAppend (mVar 6) (mCons (mFn 2 c_Lmove (mCons (mVar 0) (mCons (mVar 2) mNil))) mNil))))
  (sDrop (mMt "list" wAppend (mVar 3) (mCons (mTup (mCons (mVar 5) (mCons (mVar 6) mNil))) mNil)))))))
  (sSeq (sFor (mIter big (mSl (mOp wIx (mVar 0) (mC (.int 0))) (some (mOp wAdd (mOp wIx (mVar 0) (mC (.int 1))) (mC (.int 1)))) (some (mC (.int 63))))) (gN 8)
  (sSeq (sAsg (mOp wMod (mVar 8) (mC (.int 2147483647))) (gN 9))
  (sSeq (sAsg (mOp wIx (mVar 3) (mOp wMod (mVar 9) (mVar 2))) (gT (gCons' (gN 5) (gCons' (gN 6) gNil'))))
  (sSeq (sAsg (mTup (mCons (mOp wMod (mOp wFdiv (mVar 9) (mC (.int 64))) (mVar 2)) (mCons (mOp wSub (mOp wMod (mOp wFdiv (mVar 9) (mC (.int 4096))) (mC (.int 9))) (mC (.int 4))) (mCons (mOp wMod (mOp wFdiv (mVar 9) (mC (.int 40960))) (mC (.int 2))) mNil)))) (gN 10))
  (sIf (mAnd (mB (mOp wNe (mVar 6) (mFix (mLst mNil)))) (mOr (mB (mOp wEq (mCall wLen (mCons (mVar 6) mNil)) (mC (.int 4)))) (mB (mOp wEq (mOp wMod (mOp wFdiv (mVar 9) (mC (.int 81920))) (mC (.int 2))) (mC (.int 1))))))
  (sSetIx (mVar 10) (mVar 6) (mOp wMod (mOp wFdiv (mVar 9) (mC (.int 163840))) (mCall wLen (mCons (mVar 6) mNil))))
  (sDrop (mMt "list" wAppend (mVar 6) (mCons (mVar 10) mNil))))))))
  (sSeq (sAsg (mFix (mLst (mCons (mNew (mLst mNil)) (mCons (mNew (mLst mNil)) mNil)))) (gN 11))
  (sSeq (sFor (mRange1 (mVar 2)) (gN 4)
  (sFor (mZipM big (mVar 11) (mTup (mCons (mC (.int 3)) (mCons (mC (.int 2)) mNil)))) (gT (gCons' (gN 12) (gCons' (gN 13) gNil')))
  (sIf (mB (mOp wEq (mFn 2 c_Lnext (mCons (mVar 0) (mCons (mVar 13) mNil))) (mC (.int 0))))
  (sDrop (mMt "list" wAppend (mVar 12) (mCons (mVar 4) mNil)))
  sNext)))
  (sSeq (sAsg (mOn wTupQ (mLc (mIter big (mVar 3)) (gT (gCons' (gN 5) (gCons' (gN 6) gNil'))) mYes (mTup (mCons (mVar 5) (mCons (mOn wTupQ (mSeq (mVar 6))) mNil))) [5, 6])) (gN 14))
  (sRet (mTup (mCons (mVar 14) (mCons (mTup (mCons (mTup (mCons (mC (.str "goal")) (mCons (mOn wTupQ (mSeq (mOp wIx (mVar 11) (mC (.int 0))))) mNil))) (mCons (mTup (mCons (mC (.str "other")) (mCons (mOn wTupQ (mSeq (mOp wIx (mVar 11) (mC (.int 1))))) mNil))) mNil))) mNil)))))))))))
def f_Larena (c_Lnext c_Lmove : FM) : FM := runB 15 (b_Larena c_Lnext c_Lmove)
theorem o_Larena {P : Program} {w : World} {K : PySem.W.Frag} {mg : Str → Option Value} {base : Heap} {D : Dat} (T : Txt D K mg)
  {c_Lnext : FM} (F_Lnext : FnG P w K mg base 2 D.a_Lnext D.d_Lnext ["_law_draw", "_law_many"] (SPm K 2 c_Lnext))
  {c_Lmove : FM} (F_Lmove : FnG P w K mg base 3 D.a_Lmove D.d_Lmove ["_law_draw", "_law_many"] (SPm K 2 c_Lmove)) :
    FnG P w K mg base 4 D.a_Larena D.d_Larena ["_law_draw", "_law_most"] (SPm K 2 (f_Larena c_Lnext c_Lmove)) :=
  have S := sc_Larena
  ok_body (k := 3) T.f_Larena S fun cdv A outer s H E hr gd =>
    (sss_cons (ss_set 2 S.nd (se_add se_int (se_call F_Lnext T.b_Lnext T.f_Lnext.kp (hr.mono (by decide)) gd (takes_of rfl rfl rfl rfl) T.g_Lnext (sa_cons (se_var 0) (sa_cons (se_var 1) sa_nil)))))
    (sss_cons (ss_set 3 S.nd (se_new (sl_lst sa_nil)))
    (sss_cons (ss_for (passes_of rfl) rfl (si_range1 T.n_range (se_var 2)) (sg_name 4 S.nd)
    (sss_cons (ss_set 5 S.nd (se_call F_Lnext T.b_Lnext T.f_Lnext.kp (hr.mono (by decide)) gd (takes_of rfl rfl rfl rfl) T.g_Lnext (sa_cons (se_var 0) (sa_cons se_int sa_nil))))
    (sss_cons (ss_set 6 S.nd (se_new (sl_lst sa_nil)))
    (sss_cons (ss_for (passes_of rfl) rfl (si_range1 T.n_range (se_sub' hr (se_fix (sl_lst (sa_cons se_int (sa_cons se_int (sa_cons se_int (sa_cons se_int (sa_cons se_int (sa_cons se_int sa_nil)))))))) (se_call F_Lnext T.b_Lnext T.f_Lnext.kp (hr.mono (by decide)) gd (takes_of rfl rfl rfl rfl) T.g_Lnext (sa_cons (se_var 0) (sa_cons se_int sa_nil))))) (sg_name 7 S.nd)
    (sss_one (ss_expr (se_append mt_append (se_var 6) (se_call F_Lmove T.b_Lmove T.f_Lmove.kp (hr.mono (by decide)) gd (takes_of rfl rfl rfl rfl) T.g_Lmove (sa_cons (se_var 0) (sa_cons (se_var 2) sa_nil)))))))
    (sss_one (ss_expr (se_append mt_append (se_var 3) (se_tup (sa_cons (se_var 5) (sa_cons (se_var 6) sa_nil))))))))))
    (sss_cons (ss_for (passes_of rfl) rfl (si_iter big (se_slice (se_sub' hr (se_var 0) se_int) (.some (se_add (se_sub' hr (se_var 0) se_int) se_int)) (.some se_int))) (sg_name 8 S.nd)
    (sss_cons (ss_set 9 S.nd (se_mod (se_var 8) se_int))
    (sss_cons (ss_asg (se_sub' hr (se_var 3) (se_mod (se_var 9) (se_var 2))) (sg_tup rfl (sgs_cons (sg_name 5 S.nd) (sgs_cons (sg_name 6 S.nd) sgs_nil)) (fun _ _ _ e => gl_cons (fun _ _ _ e => gl_cons (fun _ _ _ e => gl_nil e) e) e)))
    (sss_cons (ss_set 10 S.nd (se_tup (sa_cons (se_mod (se_fdiv (se_var 9) se_int) (se_var 2)) (sa_cons (se_sub (se_mod (se_fdiv (se_var 9) se_int) se_int) se_int) (sa_cons (se_mod (se_fdiv (se_var 9) se_int) se_int) sa_nil)))))
    (sss_one (ss_if (PW.pt (sw_and (st_cmp (o_ne hr) p_ne (se_var 6) (se_fix (sl_lst sa_nil))) (sw_and1 (PW.pt (sw_or (st_cmp (o_eq hr) p_eq (se_callB c_len o_len T.n_len (by rfl) (sa_cons (se_var 6) sa_nil)) se_int) (sw_or1 (st_cmp (o_eq hr) p_eq (se_mod (se_fdiv (se_var 9) se_int) se_int) se_int)))))))
    (sss_one (ss_setix hr (se_var 10) (se_var 6) (se_mod (se_fdiv (se_var 9) se_int) (se_callB c_len o_len T.n_len (by rfl) (sa_cons (se_var 6) sa_nil)))))
    (sss_one (ss_expr (se_append mt_append (se_var 6) (se_var 10))))))))))
    (sss_cons (ss_set 11 S.nd (se_fix (sl_lst (sa_cons (se_new (sl_lst sa_nil)) (sa_cons (se_new (sl_lst sa_nil)) sa_nil)))))
    (sss_cons (ss_for (passes_of rfl) rfl (si_range1 T.n_range (se_var 2)) (sg_name 4 S.nd)
    (sss_one (ss_for (passes_of rfl) rfl (si_zipM big T.n_zip (se_var 11) (se_tup (sa_cons se_int (sa_cons se_int sa_nil)))) (sg_tup rfl (sgs_cons (sg_name 12 S.nd) (sgs_cons (sg_name 13 S.nd) sgs_nil)) (fun _ _ _ e => gl_cons (fun _ _ _ e => gl_cons (fun _ _ _ e => gl_nil e) e) e))
    (sss_one (ss_if (st_cmp (o_eq hr) p_eq (se_call F_Lnext T.b_Lnext T.f_Lnext.kp (hr.mono (by decide)) gd (takes_of rfl rfl rfl rfl) T.g_Lnext (sa_cons (se_var 0) (sa_cons (se_var 13) sa_nil))) se_int)
    (sss_one (ss_expr (se_append mt_append (se_var 12) (se_var 4))))
    sss_nil)))))
    (sss_cons (ss_set 14 S.nd (pg_callTS back_W call_tuple_of q_tup T.n_tuple (by rfl) (sq_list (sl_lc [("_law_owner", 5), ("_law_moves", 6)] rfl S.nd (si_iter big (se_var 3)) (by kernel_rfl) (fun _ _ _ _ _ => (sg_tup rfl (sgs_cons (sg_name 5 S.nd) (sgs_cons (sg_name 6 S.nd) sgs_nil)) (fun _ _ _ e => gl_cons (fun _ _ _ e => gl_cons (fun _ _ _ e => gl_nil e) e) e))) (fun _ _ _ _ _ => sts_nil) (fun _ _ _ _ _ => (se_tup (sa_cons (se_var 5) (sa_cons (pg_callTS back_W call_tuple_of q_tup T.n_tuple (by rfl) (sq_val (se_var 6))) sa_nil))))))))
    (sss_one (ss_ret (se_tup (sa_cons (se_var 14) (sa_cons (se_tup (sa_cons (se_tup (sa_cons se_str (sa_cons (pg_callTS back_W call_tuple_of q_tup T.n_tuple (by rfl) (sq_val (se_sub' hr (se_var 11) se_int))) sa_nil))) (sa_cons (se_tup (sa_cons se_str (sa_cons (pg_callTS back_W call_tuple_of q_tup T.n_tuple (by rfl) (sq_val (se_sub' hr (se_var 11) se_int))) sa_nil))) sa_nil))) sa_nil))))))))))))
/-! ### Split.__init__ -/
theorem sc_Split_ini : FnScope ["self", "arena", "rooms", "inside", "layer", "goals", "found", "room", "rank", "move"] ["self", "arena", "rooms"] (defScope st_Split_ini) := ⟨rfl, rfl, rfl, by decide +kernel, rfl, by decide +kernel, by decide +kernel⟩
def b_Split_ini (c_Forcing_ini c_Forcing_stays c_Forcing_forced c_Split_put_out c_Forcing_first_within : FM) : SM :=
  (sSeq (sSetFld kc_forcing "forcing" (mMake "Forcing" 2 c_Forcing_ini (mCons (mVar 1) mNil)) (mVar 0))
  (sSeq (sSetFld kc_noted "noted" (mOnV wDictP (mFix (mLc (mIter big (mVar 2)) (gN 7) mYes (mTup (mCons (mVar 7) (mCons (mC (.bl true)) mNil))) [7]))) (mVar 0))
  (sSeq (sSetFld kc_mine "mine" mDict0 (mVar 0))
  (sSeq (sSetFld kc_others "others" mDict0 (mVar 0))
  (sSeq (sAsg (mOnV wDictP (mFix (mLc (mRange1 (mCall wLen (mCons (mOp wIx (mVar 1) (mC (.int 0))) mNil))) (gN 7) mYes (mTup (mCons (mVar 7) (mCons (mC (.bl true)) mNil))) [7]))) (gN 3))
  (sSeq (sAsg (mC (.int 0)) (gN 4))
  (sSeq (sWhile big (mTru (mC (.bl true)))
  (sSeq (sAsg (mNew (mLc (mIter big (mVar 2)) (gN 7) (mAnd (mB (mOp wIn (mVar 7) (mVar 3))) (mTru (mMth "Forcing" "stays" 3 c_Forcing_stays (mUn (fldW kc_forcing "forcing") (mVar 0)) (mCons (mVar 7) (mCons (mVar 3) mNil))))) (mVar 7) [7])) (gN 5))
  (sSeq (sAsg (mMth "Forcing" "forced" 3 c_Forcing_forced (mUn (fldW kc_forcing "forcing") (mVar 0)) (mCons (mVar 5) (mCons (mVar 3) mNil))) (gN 6))
  (sSeq (sIf (mB (mOp wEq (mCall wLen (mCons (mVar 6) mNil)) (mCall wLen (mCons (mVar 3) mNil))))
  sBreak
  sNext)
  (sSeq (sDrop (mMth "Split" "put_out" 4 c_Split_put_out (mVar 0) (mCons (mVar 3) (mCons (mVar 6) (mCons (mVar 4) mNil)))))
  (sSeq (sAsg (mOnV wDictP (mFix (lkL (lkV 6) (mLc (mIter big (mVar 6)) (gN 7) mYes (mTup (mCons (mVar 7) (mCons (mC (.bl true)) mNil))) [7])))) (gN 3))
  (sAsg (mOp wAdd (mVar 4) (mC (.int 1))) (gN 4))))))))
  (sFor (mIterS (mOnV lSortV (mVar 6))) (gN 7)
  (sSeq (sAsg (mOp wIx (mVar 6) (mVar 7)) (gT (gCons' (gN 8) (gCons' (gN 9) gNil'))))
  (sSeq (sIf (mAnd (mB (mOp wEq (mVar 8) (mC (.int 0)))) (mB (mOp wEq (mOp wIx (mOp wIx (mOp wIx (mVar 1) (mC (.int 0))) (mVar 7)) (mC (.int 0))) (mC (.int 0)))))
  (sAsg (mMth "Forcing" "first_within" 3 c_Forcing_first_within (mUn (fldW kc_forcing "forcing") (mVar 0)) (mCons (mVar 7) (mCons (mVar 3) mNil))) (gN 9))
  sNext)
  (sSetIx (mTup (mCons (mVar 8) (mCons (mVar 9) mNil))) (mUn (fldW kc_mine "mine") (mVar 0)) (mVar 7))))))))))))
def f_Split_ini (c_Forcing_ini c_Forcing_stays c_Forcing_forced c_Split_put_out c_Forcing_first_within : FM) : FM := runB 10 (b_Split_ini c_Forcing_ini c_Forcing_stays c_Forcing_forced c_Split_put_out c_Forcing_first_within)
theorem o_Split_ini {P : Program} {w : World} {K : PySem.W.Frag} {mg : Str → Option Value} {base : Heap} {D : Dat} (T : Txt D K mg)
  {c_Forcing_ini : FM} (F_Forcing_ini : FnG P w K mg base 2 D.a_Forcing_ini D.d_Forcing_ini ["self", "arena"] (SPm K 2 c_Forcing_ini))
  {c_Forcing_stays : FM} (F_Forcing_stays : FnG P w K mg base 1 D.a_Forcing_stays D.d_Forcing_stays ["self", "room", "inside"] (SPm K 3 c_Forcing_stays))
  {c_Forcing_forced : FM} (F_Forcing_forced : FnG P w K mg base 1 D.a_Forcing_forced D.d_Forcing_forced ["self", "goals", "inside"] (SPm K 3 c_Forcing_forced))
  {c_Split_put_out : FM} (F_Split_put_out : FnG P w K mg base 2 D.a_Split_put_out D.d_Split_put_out ["self", "inside", "found", "layer"] (SPm K 4 c_Split_put_out))
  {c_Forcing_first_within : FM} (F_Forcing_first_within : FnG P w K mg base 1 D.a_Forcing_first_within D.d_Forcing_first_within ["self", "room", "inside"] (SPm K 3 c_Forcing_first_within)) :
    FnG P w K mg base 4 D.a_Split_ini D.d_Split_ini ["self", "arena", "rooms"] (SPm K 3 (f_Split_ini c_Forcing_ini c_Forcing_stays c_Forcing_forced c_Split_put_out c_Forcing_first_within)) :=
  have S := sc_Split_ini
  ok_body (k := 3) T.f_Split_ini S fun cdv A outer s H E hr gd =>
    (sss_cons (ss_setfld (cf_forcing T) (se_make T.ns_Forcing T.mk_Forcing F_Forcing_ini T.b_Forcing_ini (hr.mono (by decide)) gd (takes_of rfl rfl rfl rfl) T.mg_Forcing (sa_cons (se_var 1) sa_nil)) (se_var 0))
    (sss_cons (ss_setfld (cf_noted T) (pg_callTV back_W (call_dictP rfl) q_dictP T.n_dict (by rfl) (se_fix (sl_lc [("room", 7)] rfl S.nd (si_iter big (se_var 2)) (by kernel_rfl) (fun _ _ _ _ _ => (sg_name 7 S.nd)) (fun _ _ _ _ _ => sts_nil) (fun _ _ _ _ _ => (se_tup (sa_cons (se_var 7) (sa_cons se_bl sa_nil))))))) (se_var 0))
    (sss_cons (ss_setfld (cf_mine T) se_dict0 (se_var 0))
    (sss_cons (ss_setfld (cf_others T) se_dict0 (se_var 0))
    (sss_cons (ss_set 3 S.nd (pg_callTV back_W (call_dictP rfl) q_dictP T.n_dict (by rfl) (se_fix (sl_lc [("room", 7)] rfl S.nd (si_range1 T.n_range (se_callB c_len o_len T.n_len (by rfl) (sa_cons (se_sub' hr (se_var 1) se_int) sa_nil))) (by kernel_rfl) (fun _ _ _ _ _ => (sg_name 7 S.nd)) (fun _ _ _ _ _ => sts_nil) (fun _ _ _ _ _ => (se_tup (sa_cons (se_var 7) (sa_cons se_bl sa_nil))))))))
    (sss_cons (ss_set 4 S.nd se_int)
    (sss_cons (ss_while big (passes_of rfl) (st_tru se_bl)
    (sss_cons (ss_setLc 5 [("room", 7)] rfl S.nd (si_iter big (se_var 2)) (by kernel_rfl) (fun _ _ _ _ _ => (sg_name 7 S.nd)) (fun _ _ _ _ _ => (sts_one (PW.pt (sw_and (st_cmp (o_in hr) p_in (se_var 7) (se_var 3)) (sw_and1 (st_tru (se_meth T.ns_Forcing T.cl_Forcing T.mt_Forcing_stays F_Forcing_stays T.b_Forcing_stays (hr.mono (by decide)) gd takes0 (se_fldO (cf_forcing T) (se_var 0)) (sa_cons (se_var 7) (sa_cons (se_var 3) sa_nil))))))))) (fun _ _ _ _ _ => (se_var 7)))
    (sss_cons (ss_set 6 S.nd (se_meth T.ns_Forcing T.cl_Forcing T.mt_Forcing_forced F_Forcing_forced T.b_Forcing_forced (hr.mono (by decide)) gd (takes_of rfl rfl rfl rfl) (se_fldO (cf_forcing T) (se_var 0)) (sa_cons (se_var 5) (sa_cons (se_var 3) sa_nil))))
    (sss_cons (ss_if (st_cmp (o_eq hr) p_eq (se_callB c_len o_len T.n_len (by rfl) (sa_cons (se_var 6) sa_nil)) (se_callB c_len o_len T.n_len (by rfl) (sa_cons (se_var 3) sa_nil)))
    (sss_one ss_break)
    sss_nil)
    (sss_cons (ss_expr (se_meth T.ns_Split T.cl_Split T.mt_Split_put_out F_Split_put_out T.b_Split_put_out (hr.mono (by decide)) gd (takes_of rfl rfl rfl rfl) (se_var 0) (sa_cons (se_var 3) (sa_cons (se_var 6) (sa_cons (se_var 4) sa_nil)))))
    (sss_cons (ss_set 3 S.nd (pg_callTV back_W (call_dictP rfl) q_dictP T.n_dict (by rfl) (se_fix (sl_lock (lkV 6) (sl_lc [("room", 7)] rfl S.nd (si_iter big (se_var 6)) (by kernel_rfl) (fun _ _ _ _ _ => (sg_name 7 S.nd)) (fun _ _ _ _ _ => sts_nil) (fun _ _ _ _ _ => (se_tup (sa_cons (se_var 7) (sa_cons se_bl sa_nil)))))))))
    (sss_one (ss_set 4 S.nd (se_add (se_var 4) se_int)))))))))
    (sss_one (ss_for (passes_of rfl) rfl (si_fresh (pg_callBV back_L (cr_sortV rfl) q_sortV T.n_sorted (by rfl) (se_var 6))) (sg_name 7 S.nd)
    (sss_cons (ss_asg (se_sub' hr (se_var 6) (se_var 7)) (sg_tup rfl (sgs_cons (sg_name 8 S.nd) (sgs_cons (sg_name 9 S.nd) sgs_nil)) (fun _ _ _ e => gl_cons (fun _ _ _ e => gl_cons (fun _ _ _ e => gl_nil e) e) e)))
    (sss_cons (ss_if (PW.pt (sw_and (st_cmp (o_eq hr) p_eq (se_var 8) se_int) (sw_and1 (st_cmp (o_eq hr) p_eq (se_sub' hr (se_sub' hr (se_sub' hr (se_var 1) se_int) (se_var 7)) se_int) se_int))))
    (sss_one (ss_set 9 S.nd (se_meth T.ns_Forcing T.cl_Forcing T.mt_Forcing_first_within F_Forcing_first_within T.b_Forcing_first_within (hr.mono (by decide)) gd (takes_of rfl rfl rfl rfl) (se_fldO (cf_forcing T) (se_var 0)) (sa_cons (se_var 7) (sa_cons (se_var 3) sa_nil)))))
    sss_nil)
    (sss_one (ss_setix hr (se_tup (sa_cons (se_var 8) (sa_cons (se_var 9) sa_nil))) (se_fldO (cf_mine T) (se_var 0)) (se_var 7))))))))))))))
/-! ### again -/
theorem sc_again : FnScope ["arena", "mark", "room", "rooms", "split"] ["arena", "mark", "room"] (defScope st_again) := ⟨rfl, rfl, rfl, by decide +kernel, rfl, by decide +kernel, by decide +kernel⟩
def b_again (c_marked c_need_room c_Split_ini c_told_rows : FM) : SM :=
  (sSeq (sAsg (mFn 2 c_marked (mCons (mVar 0) (mCons (mVar 1) mNil))) (gN 3))
  (sSeq (sDrop (mFn 2 c_need_room (mCons (mVar 0) (mCons (mVar 2) mNil))))
  (sSeq (sAsg (mMake "Split" 3 c_Split_ini (mCons (mVar 0) (mCons (mVar 3) mNil))) (gN 4))
  (sSeq (sIf (mB (mOp wIn (mVar 2) (mUn (fldW kc_mine "mine") (mVar 4))))
  (sRet (mTup (mCons (mTup (mCons (mC (.str "mine")) mNil)) (mCons (mTup (mCons (mTup (mCons (mC (.str "ranks")) (mCons (mFn 1 c_told_rows (mCons (mUn (fldW kc_mine "mine") (mVar 4)) mNil)) mNil))) mNil)) mNil))))
  sNext)
  (sRet (mTup (mCons (mTup (mCons (mC (.str "other")) mNil)) (mCons (mTup (mCons (mTup (mCons (mC (.str "layers")) (mCons (mFn 1 c_told_rows (mCons (mUn (fldW kc_others "others") (mVar 4)) mNil)) mNil))) mNil)) mNil))))))))
def f_again (c_marked c_need_room c_Split_ini c_told_rows : FM) : FM := runB 5 (b_again c_marked c_need_room c_Split_ini c_told_rows)
theorem o_again {P : Program} {w : World} {K : PySem.W.Frag} {mg : Str → Option Value} {base : Heap} {D : Dat} (T : Txt D K mg)
  {c_marked : FM} (F_marked : FnG P w K mg base 1 D.a_marked D.d_marked ["arena", "name"] (SPm K 2 c_marked))
  {c_need_room : FM} (F_need_room : FnG P w K mg base 2 D.a_need_room D.d_need_room ["arena", "thing"] (SPm K 2 c_need_room))
  {c_Split_ini : FM} (F_Split_ini : FnG P w K mg base 4 D.a_Split_ini D.d_Split_ini ["self", "arena", "rooms"] (SPm K 3 c_Split_ini))
  {c_told_rows : FM} (F_told_rows : FnG P w K mg base 1 D.a_told_rows D.d_told_rows ["some"] (SPm K 1 c_told_rows)) :
    FnG P w K mg base 6 D.a_again D.d_again ["arena", "mark", "room"] (SPm K 3 (f_again c_marked c_need_room c_Split_ini c_told_rows)) :=
  have S := sc_again
  ok_body (k := 5) T.f_again S fun cdv A outer s H E hr gd =>
    (sss_cons (ss_set 3 S.nd (se_call F_marked T.b_marked T.f_marked.kp (hr.mono (by decide)) gd (takes_of rfl rfl rfl rfl) T.g_marked (sa_cons (se_var 0) (sa_cons (se_var 1) sa_nil))))
    (sss_cons (ss_expr (se_call F_need_room T.b_need_room T.f_need_room.kp (hr.mono (by decide)) gd (takes_of rfl rfl rfl rfl) T.g_need_room (sa_cons (se_var 0) (sa_cons (se_var 2) sa_nil))))
    (sss_cons (ss_set 4 S.nd (se_make T.ns_Split T.mk_Split F_Split_ini T.b_Split_ini (hr.mono (by decide)) gd (takes_of rfl rfl rfl rfl) T.mg_Split (sa_cons (se_var 0) (sa_cons (se_var 3) sa_nil))))
    (sss_cons (ss_if (st_cmp (o_in hr) p_in (se_var 2) (se_fldO (cf_mine T) (se_var 4)))
    (sss_one (ss_ret (se_tup (sa_cons (se_tup (sa_cons se_str sa_nil)) (sa_cons (se_tup (sa_cons (se_tup (sa_cons se_str (sa_cons (se_call F_told_rows T.b_told_rows T.f_told_rows.kp (hr.mono (by decide)) gd (takes_of rfl rfl rfl rfl) T.g_told_rows (sa_cons (se_fldO (cf_mine T) (se_var 4)) sa_nil)) sa_nil))) sa_nil)) sa_nil)))))
    sss_nil)
    (sss_one (ss_ret (se_tup (sa_cons (se_tup (sa_cons se_str sa_nil)) (sa_cons (se_tup (sa_cons (se_tup (sa_cons se_str (sa_cons (se_call F_told_rows T.b_told_rows T.f_told_rows.kp (hr.mono (by decide)) gd (takes_of rfl rfl rfl rfl) T.g_told_rows (sa_cons (se_fldO (cf_others T) (se_var 4)) sa_nil)) sa_nil))) sa_nil)) sa_nil)))))))))
/-! ### again_rooms -/
theorem sc_again_rooms : FnScope ["arena", "mark"] ["arena", "mark"] (defScope st_again_rooms) := ⟨rfl, rfl, rfl, by decide +kernel, rfl, by decide +kernel, by decide +kernel⟩
def b_again_rooms (c_Split_ini c_marked : FM) : SM :=
  (sRet (mOn wTupQ (mOnV lSortV (mUn (fldW kc_mine "mine") (mMake "Split" 3 c_Split_ini (mCons (mVar 0) (mCons (mFn 2 c_marked (mCons (mVar 0) (mCons (mVar 1) mNil))) mNil)))))))
def f_again_rooms (c_Split_ini c_marked : FM) : FM := runB 2 (b_again_rooms c_Split_ini c_marked)
theorem o_again_rooms {P : Program} {w : World} {K : PySem.W.Frag} {mg : Str → Option Value} {base : Heap} {D : Dat} (T : Txt D K mg)
  {c_Split_ini : FM} (F_Split_ini : FnG P w K mg base 4 D.a_Split_ini D.d_Split_ini ["self", "arena", "rooms"] (SPm K 3 c_Split_ini))
  {c_marked : FM} (F_marked : FnG P w K mg base 1 D.a_marked D.d_marked ["arena", "name"] (SPm K 2 c_marked)) :
    FnG P w K mg base 6 D.a_again_rooms D.d_again_rooms ["arena", "mark"] (SPm K 2 (f_again_rooms c_Split_ini c_marked)) :=
  have S := sc_again_rooms
  ok_body (k := 5) T.f_again_rooms S fun cdv A outer s H E hr gd =>
    (sss_one (ss_ret (pg_callTS back_W call_tuple_of q_tup T.n_tuple (by rfl) (sq_list (pg_callBV back_L (cr_sortV rfl) q_sortV T.n_sorted (by rfl) (se_fldO (cf_mine T) (se_make T.ns_Split T.mk_Split F_Split_ini T.b_Split_ini (hr.mono (by decide)) gd (takes_of rfl rfl rfl rfl) T.mg_Split (sa_cons (se_var 0) (sa_cons (se_call F_marked T.b_marked T.f_marked.kp (hr.mono (by decide)) gd (takes_of rfl rfl rfl rfl) T.g_marked (sa_cons (se_var 0) (sa_cons (se_var 1) sa_nil))) sa_nil)))))))))
/-! ### _law_right -/
theorem sc_Lright : FnScope ["_law_arena_here", "_law_name", "_law_goal", "_law_told", "_law_k", "_law_room", "_law_found"] ["_law_arena_here"] (defScope st_Lright) := ⟨rfl, rfl, rfl, by decide +kernel, rfl, by decide +kernel, by decide +kernel⟩
def b_Lright (c_again_rooms c_again c_Lpaper_right : FM) : SM :=
  (sSeq (sFor (mIter big (mOp wIx (mVar 0) (mC (.int 1)))) (gT (gCons' (gN 1) (gCons' (gN 2) gNil')))
  (sSeq (sAsg (mFn 2 c_again_rooms (mCons (mVar 0) (mCons (mVar 1) mNil))) (gN 3))
  (sSeq (sIf (mOr (mNot (mTru (mIsi "tuple" (mVar 3)))) (mB (mOp wNe (mFix (mOn lId (mSeq (mVar 3)))) (mFix (mOnV lSetSort (mVar 3))))))
  (sRet (mC (.bl false)))
  sNext)
  (sFor (mRange1 (mCall wMin2 (mCons (mC (.int 8)) (mCons (mCall wLen (mCons (mOp wIx (mVar 0) (mC (.int 0))) mNil)) mNil)))) (gN 4)
  (sSeq (sAsg (mOp wMod (mOp wAdd (mOp wMul (mVar 4) (mC (.int 7))) (mOp wFdiv (mCall wLen (mCons (mOp wIx (mVar 0) (mC (.int 0))) mNil)) (mC (.int 2)))) (mCall wLen (mCons (mOp wIx (mVar 0) (mC (.int 0))) mNil))) (gN 5))
  (sSeq (sAsg (mFn 3 c_again (mCons (mVar 0) (mCons (mVar 1) (mCons (mVar 5) mNil)))) (gN 6))
  (sSeq (sIf (mOr (mNot (mTru (mIsi "tuple" (mVar 6)))) (mOr (mB (mOp wNe (mCall wLen (mCons (mVar 6) mNil)) (mC (.int 2)))) (mB (mOp wNotInD (mOp wIx (mVar 6) (mC (.int 0))) (mTup (mCons (mTup (mCons (mC (.str "mine")) mNil)) (mCons (mTup (mCons (mC (.str "other")) mNil)) mNil)))))))
  (sRet (mC (.bl false)))
  sNext)
  (sSeq (sIf (mOr (mB (mOp wNe (mOp wEq (mOp wIx (mVar 6) (mC (.int 0))) (mTup (mCons (mC (.str "mine")) mNil))) (mOp wIn (mVar 5) (mVar 3)))) (mB (mOp wNe (mCall wRepr (mCons (mFn 3 c_again (mCons (mVar 0) (mCons (mVar 1) (mCons (mVar 5) mNil)))) mNil)) (mCall wRepr (mCons (mVar 6) mNil)))))
  (sRet (mC (.bl false)))
  sNext)
  (sIf (mNot (mTru (mFn 5 c_Lpaper_right (mCons (mVar 0) (mCons (mVar 2) (mCons (mVar 5) (mCons (mOp wIx (mVar 6) (mC (.int 1))) (mCons (mOp wIx (mOp wIx (mVar 6) (mC (.int 0))) (mC (.int 0))) mNil))))))))
  (sRet (mC (.bl false)))
  sNext)))))))))
  (sRet (mC (.bl true))))
def f_Lright (c_again_rooms c_again c_Lpaper_right : FM) : FM := runB 7 (b_Lright c_again_rooms c_again c_Lpaper_right)
theorem o_Lright {P : Program} {w : World} {K : PySem.W.Frag} {mg : Str → Option Value} {base : Heap} {D : Dat} (T : Txt D K mg)
  {c_again_rooms : FM} (F_again_rooms : FnG P w K mg base 6 D.a_again_rooms D.d_again_rooms ["arena", "mark"] (SPm K 2 c_again_rooms))
  {c_again : FM} (F_again : FnG P w K mg base 6 D.a_again D.d_again ["arena", "mark", "room"] (SPm K 3 c_again))
  {c_Lpaper_right : FM} (F_Lpaper_right : FnG P w K mg base 2 D.a_Lpaper_right D.d_Lpaper_right ["_law_arena_here", "_law_goal", "_law_room", "_law_told", "_law_answer"] (SPm K 5 c_Lpaper_right)) :
    FnG P w K mg base 7 D.a_Lright D.d_Lright ["_law_arena_here"] (SPm K 1 (f_Lright c_again_rooms c_again c_Lpaper_right)) :=
  have S := sc_Lright
  ok_body (k := 6) T.f_Lright S fun cdv A outer s H E hr gd =>
    (sss_cons (ss_for (passes_of rfl) rfl (si_iter big (se_sub' hr (se_var 0) se_int)) (sg_tup rfl (sgs_cons (sg_name 1 S.nd) (sgs_cons (sg_name 2 S.nd) sgs_nil)) (fun _ _ _ e => gl_cons (fun _ _ _ e => gl_cons (fun _ _ _ e => gl_nil e) e) e))
    (sss_cons (ss_set 3 S.nd (se_call F_again_rooms T.b_again_rooms T.f_again_rooms.kp (hr.mono (by decide)) gd (takes_of rfl rfl rfl rfl) T.g_again_rooms (sa_cons (se_var 0) (sa_cons (se_var 1) sa_nil))))
    (sss_cons (ss_if (PW.pt (sw_or (st_not (st_tru (se_isi "tuple" (by decide) T.n_isinstance T.n_tuple (se_var 3) (by rfl)))) (sw_or1 (st_cmp (o_ne hr) p_ne (se_fix (pg_callTS back_L call_list_of q_list T.n_list (by rfl) (sq_val (se_var 3)))) (se_fix (sl_sortSet rfl T.n_sorted T.n_set (se_var 3)))))))
    (sss_one (ss_ret se_bl))
    sss_nil)
    (sss_one (ss_for (passes_of rfl) rfl (si_range1 T.n_range (se_callB (call_min2 rfl) o_min2 T.n_min (by rfl) (sa_cons se_int (sa_cons (se_callB c_len o_len T.n_len (by rfl) (sa_cons (se_sub' hr (se_var 0) se_int) sa_nil)) sa_nil)))) (sg_name 4 S.nd)
    (sss_cons (ss_set 5 S.nd (se_mod (se_add (se_mul (se_var 4) se_int) (se_fdiv (se_callB c_len o_len T.n_len (by rfl) (sa_cons (se_sub' hr (se_var 0) se_int) sa_nil)) se_int)) (se_callB c_len o_len T.n_len (by rfl) (sa_cons (se_sub' hr (se_var 0) se_int) sa_nil))))
    (sss_cons (ss_set 6 S.nd (se_call F_again T.b_again T.f_again.kp (hr.mono (by decide)) gd (takes_of rfl rfl rfl rfl) T.g_again (sa_cons (se_var 0) (sa_cons (se_var 1) (sa_cons (se_var 5) sa_nil)))))
    (sss_cons (ss_if (PW.pt (sw_or (st_not (st_tru (se_isi "tuple" (by decide) T.n_isinstance T.n_tuple (se_var 6) (by rfl)))) (sw_or (st_cmp (o_ne hr) p_ne (se_callB c_len o_len T.n_len (by rfl) (sa_cons (se_var 6) sa_nil)) se_int) (sw_or1 (st_cmp (o_notInD hr) p_notInD (se_sub' hr (se_var 6) se_int) (se_tup (sa_cons (se_tup (sa_cons se_str sa_nil)) (sa_cons (se_tup (sa_cons se_str sa_nil)) sa_nil))))))))
    (sss_one (ss_ret se_bl))
    sss_nil)
    (sss_cons (ss_if (PW.pt (sw_or (st_cmp (o_ne hr) p_ne (se_cmp (o_eq hr) p_eq (se_sub' hr (se_var 6) se_int) (se_tup (sa_cons se_str sa_nil))) (se_cmp (o_in hr) p_in (se_var 5) (se_var 3))) (sw_or1 (st_cmp (o_ne hr) p_ne (se_callB (c_repr hr gd) o_repr T.n_repr (by rfl) (sa_cons (se_call F_again T.b_again T.f_again.kp (hr.mono (by decide)) gd (takes_of rfl rfl rfl rfl) T.g_again (sa_cons (se_var 0) (sa_cons (se_var 1) (sa_cons (se_var 5) sa_nil)))) sa_nil)) (se_callB (c_repr hr gd) o_repr T.n_repr (by rfl) (sa_cons (se_var 6) sa_nil))))))
    (sss_one (ss_ret se_bl))
    sss_nil)
    (sss_one (ss_if (st_not (st_tru (se_call F_Lpaper_right T.b_Lpaper_right T.f_Lpaper_right.kp (hr.mono (by decide)) gd (takes_of rfl rfl rfl rfl) T.g_Lpaper_right (sa_cons (se_var 0) (sa_cons (se_var 2) (sa_cons (se_var 5) (sa_cons (se_sub' hr (se_var 6) se_int) (sa_cons (se_sub' hr (se_sub' hr (se_var 6) se_int) se_int) sa_nil))))))))
    (sss_one (ss_ret se_bl))
    sss_nil)))))))))))
    (sss_one (ss_ret se_bl)))
/-! ### _law_far_right -/
theorem sc_Lfar_right : FnScope ["_law_draw", "_law_many", "_law_rooms", "_law_k", "_law_owner", "_law_goal", "_law_arena_here", "_law_answer", "_law_papers"] ["_law_draw"] (defScope st_Lfar_right) := ⟨rfl, rfl, rfl, by decide +kernel, rfl, by decide +kernel, by decide +kernel⟩
def b_Lfar_right (c_Lnext c_again c_again_rooms c_Lpaper_right : FM) : SM :=
  (sSeq (sAsg (mOp wAdd (mC (.int 70)) (mFn 2 c_Lnext (mCons (mVar 0) (mCons (mC (.int 30)) mNil)))) (gN 1))
  (sSeq (sAsg (mNew (mLst mNil)) (gN 2))
  (sSeq (sFor (mRange1 (mVar 1)) (gN 3)
  (sSeq (sDrop (mMt "list" wAppend (mVar 2) (mCons (mTup (mCons (mFn 2 c_Lnext (mCons (mVar 0) (mCons (mC (.int 2)) mNil))) (mCons (mTup (mCons (mTup (mCons (mOp wAdd (mOp wMul (mC (.int 2)) (mVar 3)) (mC (.int 1))) (mCons (mC (.int 1)) (mCons (mC (.int 0)) mNil)))) mNil)) mNil))) mNil)))
  (sSeq (sAsg (mFn 2 c_Lnext (mCons (mVar 0) (mCons (mC (.int 2)) mNil))) (gN 4))
  (sDrop (mMt "list" wAppend (mVar 2) (mCons (mTup (mCons (mVar 4) (mCons (mSl (mTup (mCons (mTup (mCons (mOp wAdd (mOp wMul (mC (.int 2)) (mVar 3)) (mC (.int 2))) (mCons (mC (.int 0)) (mCons (mC (.int 1)) mNil)))) (mCons (mTup (mCons (mOp wAdd (mOp wMul (mC (.int 2)) (mVar 3)) (mC (.int 1))) (mCons (mC (.int 1)) (mCons (mC (.int 1)) mNil)))) mNil))) none (some (mOp wSub (mC (.int 2)) (mVar 4)))) mNil))) mNil))))))
  (sSeq (sDrop (mMt "list" wAppend (mVar 2) (mCons (mTup (mCons (mFn 2 c_Lnext (mCons (mVar 0) (mCons (mC (.int 2)) mNil))) (mCons (mOp wMulT (mTup (mCons (mTup (mCons (mOp wMul (mC (.int 2)) (mVar 1)) (mCons (mC (.int 1)) (mCons (mC (.int 1)) mNil)))) mNil)) (mFn 2 c_Lnext (mCons (mVar 0) (mCons (mC (.int 2)) mNil)))) mNil))) mNil)))
  (sSeq (sAsg (mTupRg3 (mCons (mC (.int 0)) (mCons (mOp wMul (mC (.int 2)) (mVar 1)) (mCons (mC (.int 2)) mNil)))) (gN 5))
  (sSeq (sAsg (mTup (mCons (mOn wTupQ (mSeq (mVar 2))) (mCons (mTup (mCons (mTup (mCons (mC (.str "goal")) (mCons (mVar 5) mNil))) mNil)) mNil))) (gN 6))
  (sSeq (sAsg (mFn 3 c_again (mCons (mVar 6) (mCons (mC (.str "goal")) (mCons (mC (.int 0)) mNil)))) (gT (gCons' (gN 7) (gCons' (gN 8) gNil'))))
  (sSeq (sIf (mOr (mB (mOp wNe (mVar 7) (mTup (mCons (mC (.str "other")) mNil)))) (mB (mOp wNe (mFn 2 c_again_rooms (mCons (mVar 6) (mCons (mC (.str "goal")) mNil))) (mTup mNil))))
  (sRet (mC (.bl false)))
  sNext)
  (sRet (mFn 5 c_Lpaper_right (mCons (mVar 6) (mCons (mVar 5) (mCons (mC (.int 0)) (mCons (mVar 8) (mCons (mC (.str "other")) mNil)))))))))))))))
def f_Lfar_right (c_Lnext c_again c_again_rooms c_Lpaper_right : FM) : FM := runB 9 (b_Lfar_right c_Lnext c_again c_again_rooms c_Lpaper_right)
theorem o_Lfar_right {P : Program} {w : World} {K : PySem.W.Frag} {mg : Str → Option Value} {base : Heap} {D : Dat} (T : Txt D K mg)
  {c_Lnext : FM} (F_Lnext : FnG P w K mg base 2 D.a_Lnext D.d_Lnext ["_law_draw", "_law_many"] (SPm K 2 c_Lnext))
  {c_again : FM} (F_again : FnG P w K mg base 6 D.a_again D.d_again ["arena", "mark", "room"] (SPm K 3 c_again))
  {c_again_rooms : FM} (F_again_rooms : FnG P w K mg base 6 D.a_again_rooms D.d_again_rooms ["arena", "mark"] (SPm K 2 c_again_rooms))
  {c_Lpaper_right : FM} (F_Lpaper_right : FnG P w K mg base 2 D.a_Lpaper_right D.d_Lpaper_right ["_law_arena_here", "_law_goal", "_law_room", "_law_told", "_law_answer"] (SPm K 5 c_Lpaper_right)) :
    FnG P w K mg base 7 D.a_Lfar_right D.d_Lfar_right ["_law_draw"] (SPm K 1 (f_Lfar_right c_Lnext c_again c_again_rooms c_Lpaper_right)) :=
  have S := sc_Lfar_right
  ok_body (k := 6) T.f_Lfar_right S fun cdv A outer s H E hr gd =>
    (sss_cons (ss_set 1 S.nd (se_add se_int (se_call F_Lnext T.b_Lnext T.f_Lnext.kp (hr.mono (by decide)) gd (takes_of rfl rfl rfl rfl) T.g_Lnext (sa_cons (se_var 0) (sa_cons se_int sa_nil)))))
    (sss_cons (ss_set 2 S.nd (se_new (sl_lst sa_nil)))
    (sss_cons (ss_for (passes_of rfl) rfl (si_range1 T.n_range (se_var 1)) (sg_name 3 S.nd)
    (sss_cons (ss_expr (se_append mt_append (se_var 2) (se_tup (sa_cons (se_call F_Lnext T.b_Lnext T.f_Lnext.kp (hr.mono (by decide)) gd (takes_of rfl rfl rfl rfl) T.g_Lnext (sa_cons (se_var 0) (sa_cons se_int sa_nil))) (sa_cons (se_tup (sa_cons (se_tup (sa_cons (se_add (se_mul se_int (se_var 3)) se_int) (sa_cons se_int (sa_cons se_int sa_nil)))) sa_nil)) sa_nil)))))
    (sss_cons (ss_set 4 S.nd (se_call F_Lnext T.b_Lnext T.f_Lnext.kp (hr.mono (by decide)) gd (takes_of rfl rfl rfl rfl) T.g_Lnext (sa_cons (se_var 0) (sa_cons se_int sa_nil))))
    (sss_one (ss_expr (se_append mt_append (se_var 2) (se_tup (sa_cons (se_var 4) (sa_cons (se_slice (se_tup (sa_cons (se_tup (sa_cons (se_add (se_mul se_int (se_var 3)) se_int) (sa_cons se_int (sa_cons se_int sa_nil)))) (sa_cons (se_tup (sa_cons (se_add (se_mul se_int (se_var 3)) se_int) (sa_cons se_int (sa_cons se_int sa_nil)))) sa_nil))) .none (.some (se_sub se_int (se_var 4)))) sa_nil)))))))))
    (sss_cons (ss_expr (se_append mt_append (se_var 2) (se_tup (sa_cons (se_call F_Lnext T.b_Lnext T.f_Lnext.kp (hr.mono (by decide)) gd (takes_of rfl rfl rfl rfl) T.g_Lnext (sa_cons (se_var 0) (sa_cons se_int sa_nil))) (sa_cons (se_mulT (se_tup (sa_cons (se_tup (sa_cons (se_mul se_int (se_var 1)) (sa_cons se_int (sa_cons se_int sa_nil)))) sa_nil)) (se_call F_Lnext T.b_Lnext T.f_Lnext.kp (hr.mono (by decide)) gd (takes_of rfl rfl rfl rfl) T.g_Lnext (sa_cons (se_var 0) (sa_cons se_int sa_nil)))) sa_nil)))))
    (sss_cons (ss_set 5 S.nd (se_tupRg3 rfl T.n_tuple T.n_range (sa_cons se_int (sa_cons (se_mul se_int (se_var 1)) (sa_cons se_int sa_nil)))))
    (sss_cons (ss_set 6 S.nd (se_tup (sa_cons (pg_callTS back_W call_tuple_of q_tup T.n_tuple (by rfl) (sq_val (se_var 2))) (sa_cons (se_tup (sa_cons (se_tup (sa_cons se_str (sa_cons (se_var 5) sa_nil))) sa_nil)) sa_nil))))
    (sss_cons (ss_asg (se_call F_again T.b_again T.f_again.kp (hr.mono (by decide)) gd (takes_of rfl rfl rfl rfl) T.g_again (sa_cons (se_var 6) (sa_cons se_str (sa_cons se_int sa_nil)))) (sg_tup rfl (sgs_cons (sg_name 7 S.nd) (sgs_cons (sg_name 8 S.nd) sgs_nil)) (fun _ _ _ e => gl_cons (fun _ _ _ e => gl_cons (fun _ _ _ e => gl_nil e) e) e)))
    (sss_cons (ss_if (PW.pt (sw_or (st_cmp (o_ne hr) p_ne (se_var 7) (se_tup (sa_cons se_str sa_nil))) (sw_or1 (st_cmp (o_ne hr) p_ne (se_call F_again_rooms T.b_again_rooms T.f_again_rooms.kp (hr.mono (by decide)) gd (takes_of rfl rfl rfl rfl) T.g_again_rooms (sa_cons (se_var 6) (sa_cons se_str sa_nil))) (se_tup sa_nil)))))
    (sss_one (ss_ret se_bl))
    sss_nil)
    (sss_one (ss_ret (se_call F_Lpaper_right T.b_Lpaper_right T.f_Lpaper_right.kp (hr.mono (by decide)) gd (takes_of rfl rfl rfl rfl) T.g_Lpaper_right (sa_cons (se_var 6) (sa_cons (se_var 5) (sa_cons se_int (sa_cons (se_var 8) (sa_cons se_str sa_nil))))))))))))))))
/-! ### law -/
theorem sc_LAW : FnScope ["_law_script", "_law_draw", "_law_arena_here", "_law_one", "_law_goal", "_law_other", "_law_rooms", "_law_marks"] ["_law_script"] (defScope st_LAW) := ⟨rfl, rfl, rfl, by decide +kernel, rfl, by decide +kernel, by decide +kernel⟩
def b_LAW (c_Lbegin c_Larena c_Lnext c_Lright c_Lwide c_Lfar_right : FM) : SM :=
  (sSeq (sAsg (mFn 1 c_Lbegin (mCons (mVar 0) mNil)) (gN 1))
  (sSeq (sAsg (mFn 2 c_Larena (mCons (mVar 1) (mCons (mOp wIx (mFix (mLst (mCons (mC (.int 12)) (mCons (mC (.int 40)) mNil)))) (mFn 2 c_Lnext (mCons (mVar 1) (mCons (mC (.int 2)) mNil)))) mNil))) (gN 2))
  (sSeq (sAsg (mOp wIx (mVar 2) (mC (.int 1))) (gT (gCons' (gT (gCons' (gN 3) (gCons' (gN 4) gNil'))) (gCons' (gT (gCons' (gN 5) (gCons' (gN 6) gNil'))) gNil'))))
  (sSeq (sFor (mIter big (mTup (mCons (mOp wIx (mVar 2) (mC (.int 1))) (mCons (mTup (mCons (mTup (mCons (mVar 3) (mCons (mVar 6) mNil))) (mCons (mTup (mCons (mVar 5) (mCons (mVar 4) mNil))) mNil))) (mCons (mOp wIx (mVar 2) (mC (.int 1))) mNil))))) (gN 7)
  (sIf (mNot (mTru (mFn 1 c_Lright (mCons (mTup (mCons (mOp wIx (mVar 2) (mC (.int 0))) (mCons (mVar 7) mNil))) mNil))))
  (sRet (mC (.bl false)))
  sNext))
  (sRet (mAndV (mFn 1 c_Lright (mCons (mFn 1 c_Lwide (mCons (mVar 1) mNil)) mNil)) (mFn 1 c_Lfar_right (mCons (mVar 1) mNil))))))))
def f_LAW (c_Lbegin c_Larena c_Lnext c_Lright c_Lwide c_Lfar_right : FM) : FM := runB 8 (b_LAW c_Lbegin c_Larena c_Lnext c_Lright c_Lwide c_Lfar_right)
theorem o_LAW {P : Program} {w : World} {K : PySem.W.Frag} {mg : Str → Option Value} {base : Heap} {D : Dat} (T : Txt D K mg)
  {c_Lbegin : FM} (F_Lbegin : FnG P w K mg base 1 D.a_Lbegin D.d_Lbegin ["_law_script"] (SPm K 1 c_Lbegin))
  {c_Larena : FM} (F_Larena : FnG P w K mg base 4 D.a_Larena D.d_Larena ["_law_draw", "_law_most"] (SPm K 2 c_Larena))
  {c_Lnext : FM} (F_Lnext : FnG P w K mg base 2 D.a_Lnext D.d_Lnext ["_law_draw", "_law_many"] (SPm K 2 c_Lnext))
  {c_Lright : FM} (F_Lright : FnG P w K mg base 7 D.a_Lright D.d_Lright ["_law_arena_here"] (SPm K 1 c_Lright))
  {c_Lwide : FM} (F_Lwide : FnG P w K mg base 3 D.a_Lwide D.d_Lwide ["_law_draw"] (SPm K 1 c_Lwide))
  {c_Lfar_right : FM} (F_Lfar_right : FnG P w K mg base 7 D.a_Lfar_right D.d_Lfar_right ["_law_draw"] (SPm K 1 c_Lfar_right)) :
    FnG P w K mg base 8 D.a_LAW D.d_LAW ["_law_script"] (SPm K 1 (f_LAW c_Lbegin c_Larena c_Lnext c_Lright c_Lwide c_Lfar_right)) :=
  have S := sc_LAW
  ok_body (k := 7) T.f_LAW S fun cdv A outer s H E hr gd =>
    (sss_cons (ss_set 1 S.nd (se_call F_Lbegin T.b_Lbegin T.f_Lbegin.kp (hr.mono (by decide)) gd (takes_of rfl rfl rfl rfl) T.g_Lbegin (sa_cons (se_var 0) sa_nil)))
    (sss_cons (ss_set 2 S.nd (se_call F_Larena T.b_Larena T.f_Larena.kp (hr.mono (by decide)) gd (takes_of rfl rfl rfl rfl) T.g_Larena (sa_cons (se_var 1) (sa_cons (se_sub' hr (se_fix (sl_lst (sa_cons se_int (sa_cons se_int sa_nil)))) (se_call F_Lnext T.b_Lnext T.f_Lnext.kp (hr.mono (by decide)) gd (takes_of rfl rfl rfl rfl) T.g_Lnext (sa_cons (se_var 1) (sa_cons se_int sa_nil)))) sa_nil))))
    (sss_cons (ss_asg (se_sub' hr (se_var 2) se_int) (sg_tup rfl (sgs_cons (sg_tup rfl (sgs_cons (sg_name 3 S.nd) (sgs_cons (sg_name 4 S.nd) sgs_nil)) (fun _ _ _ e => gl_cons (fun _ _ _ e => gl_cons (fun _ _ _ e => gl_nil e) e) e)) (sgs_cons (sg_tup rfl (sgs_cons (sg_name 5 S.nd) (sgs_cons (sg_name 6 S.nd) sgs_nil)) (fun _ _ _ e => gl_cons (fun _ _ _ e => gl_cons (fun _ _ _ e => gl_nil e) e) e)) sgs_nil)) (fun _ _ _ e => gl_cons (fun _ _ _ e => gl_cons (fun _ _ _ e => gl_nil e) e) e)))
    (sss_cons (ss_for (passes_of rfl) rfl (si_iter big (se_tup (sa_cons (se_sub' hr (se_var 2) se_int) (sa_cons (se_tup (sa_cons (se_tup (sa_cons (se_var 3) (sa_cons (se_var 6) sa_nil))) (sa_cons (se_tup (sa_cons (se_var 5) (sa_cons (se_var 4) sa_nil))) sa_nil))) (sa_cons (se_sub' hr (se_var 2) se_int) sa_nil))))) (sg_name 7 S.nd)
    (sss_one (ss_if (st_not (st_tru (se_call F_Lright T.b_Lright T.f_Lright.kp (hr.mono (by decide)) gd (takes_of rfl rfl rfl rfl) T.g_Lright (sa_cons (se_tup (sa_cons (se_sub' hr (se_var 2) se_int) (sa_cons (se_var 7) sa_nil))) sa_nil))))
    (sss_one (ss_ret se_bl))
    sss_nil)))
    (sss_one (ss_ret (se_and (se_call F_Lright T.b_Lright T.f_Lright.kp (hr.mono (by decide)) gd (takes_of rfl rfl rfl rfl) T.g_Lright (sa_cons (se_call F_Lwide T.b_Lwide T.f_Lwide.kp (hr.mono (by decide)) gd (takes_of rfl rfl rfl rfl) T.g_Lwide (sa_cons (se_var 1) sa_nil)) sa_nil)) (se_one (se_call F_Lfar_right T.b_Lfar_right T.f_Lfar_right.kp (hr.mono (by decide)) gd (takes_of rfl rfl rfl rfl) T.g_Lfar_right (sa_cons (se_var 1) sa_nil))))))))))

end Mir

namespace Mir
open PySem PySem.Spec PyProof.Rows L2
theorem take_more {α : Type} {l : List α} {i : Nat} {x : α} (e : l[i]? = some x) : l.take (i + 1) = l.take i ++ [x] := by
  rw [List.take_succ, e]
  rfl
def encP (p : Int × Int) : W := .tup [.int p.1, .int p.2]
@[simp] theorem refs_P (p : Int × Int) : refsW (encP p) = [] := by simp [encP]
@[simp] theorem pl_P {k : Nat} (m : Int × Int) : plW (k + 1) (encP m) = true := by simp [encP]
/-- of one room's moves, those that lead to r -/
def some1 (one : Nat) (ms : List Mv) (r : Int) : List (Int × Int) := (ms.zipIdx.filter fun q => decide (q.1.1 = r)).map fun q => ((one : Int), (q.2 : Int))
/-- of the first k rooms' moves, those that lead to r -/
def pre (rs : List Rm) (k : Nat) (r : Int) : List (Int × Int) := (rs.zipIdx.take k).flatMap fun p => some1 p.2 p.1.2 r
theorem zip_more {α : Type} {l : List α} {k : Nat} {x : α} (e : l[k]? = some x) : l.zipIdx.take (k + 1) = l.zipIdx.take k ++ [(x, k)] := by
  refine take_more ?_
  rw [List.getElem?_zipIdx, e]
  simp
theorem pre_more {rs : List Rm} {k : Nat} {x : Rm} (e : rs[k]? = some x) (r : Int) : pre rs (k + 1) r = pre rs k r ++ some1 k x.2 r := by
  unfold pre
  rw [zip_more e, List.flatMap_append]
  simp
/-- .. the first j moves of room k besides -/
def some1J (one : Nat) (ms : List Mv) (j : Nat) (r : Int) : List (Int × Int) := ((ms.zipIdx.take j).filter fun q => decide (q.1.1 = r)).map fun q => ((one : Int), (q.2 : Int))
theorem some1J_more {one : Nat} {ms : List Mv} {j : Nat} {m : Mv} (e : ms[j]? = some m) (r : Int) : some1J one ms (j + 1) r = some1J one ms j r ++ if m.1 = r then [((one : Int), (j : Int))] else [] := by
  unfold some1J
  rw [zip_more e, List.filter_append, List.map_append]
  by_cases h : m.1 = r
  · simp [h]
  · simp [h]
theorem some1J_all (one : Nat) (ms : List Mv) (r : Int) : some1J one ms ms.length r = some1 one ms r := by
  unfold some1J some1
  rw [List.take_of_length_le (by simp)]
theorem some1J_len (one : Nat) (ms : List Mv) (j : Nat) (r : Int) : (some1J one ms j r).length ≤ j := by
  unfold some1J
  rw [List.length_map]
  exact Nat.le_trans (List.length_filter_le _ _) (by rw [List.length_take]; omega)
theorem some1_len (one : Nat) (ms : List Mv) (r : Int) : (some1 one ms r).length ≤ ms.length := by
  rw [← some1J_all]
  exact some1J_len _ _ _ _
theorem pre_len {rs : List Rm} {n : Nat} (hg : GRs n rs) (r : Int) : ∀ k : Nat, k ≤ rs.length → (pre rs k r).length ≤ 24 * k
  | 0, _ => by simp [pre]
  | k + 1, hk => by
    have e : rs[k]? = some rs[k] := List.getElem?_eq_getElem (by omega)
    rw [pre_more e, List.length_append]
    have a := pre_len hg r k (by omega)
    have b := some1_len k rs[k].2 r
    have c := (hg _ (List.getElem_mem (by omega : k < rs.length))).2.2.1
    omega
/-! ### the law's own -/
def inI (n : Nat) (rs : List Rm) (ks : List (Str × List Int)) (i : Nat) (ps : LS) (g : PH) : Prop := ∃ (s2 s3 s4 s5 s6 s7 : Option W), ps = [some (encA rs ks), some (.ref 0), s2, s3, s4, s5, s6, s7] ∧ g = [.lst ((List.range i).map fun r : Nat => W.fix ((pre rs rs.length r).map encP))]
def inK (rs : List Rm) (ks : List (Str × List Int)) (r : Nat) (g0 : PH) (k : Nat) (ps : LS) (g : PH) : Prop := ∃ (s4 s5 s6 s7 : Option W), ps = [some (encA rs ks), some (.ref 0), some (.int r), some (.fix ((pre rs k r).map encP)), s4, s5, s6, s7] ∧ g = g0
def inJ (one : Nat) (ms : List Mv) (r : Int) (g0 : PH) (j : Nat) (acc : List W) (g : PH) : Prop := acc = (some1J one ms j r).map encP ∧ g = g0
/-! ### the program's -/
def hp (n : Nat) (L : Nat → List (Int × Int)) : PH := ((List.range n).map fun r => OB.lst ((L r).map encP)) ++ [.lst ((List.range n).map W.ref)]
theorem hp_get {n r : Nat} {L : Nat → List (Int × Int)} (h : r < n) : (hp n L)[r]? = some (.lst ((L r).map encP)) := by
  unfold hp
  rw [List.getElem?_append_left (by simpa using h), List.getElem?_map, List.getElem?_range h]
  rfl
theorem hp_out {n : Nat} {L : Nat → List (Int × Int)} : (hp n L)[n]? = some (.lst ((List.range n).map W.ref)) := by
  unfold hp
  rw [List.getElem?_append_right (by simp)]
  simp
theorem hp_set {n r : Nat} {L : Nat → List (Int × Int)} (h : r < n) (p : Int × Int) : (hp n L).set r (.lst ((L r).map encP ++ [encP p])) = hp n fun q => if q = r then L q ++ [p] else L q := by
  unfold hp
  rw [List.set_append_left _ _ (by simpa using h)]
  congr 1
  refine List.ext_getElem? fun i => ?_
  rw [List.getElem?_map]
  by_cases hi : i = r
  · subst hi
    rw [List.getElem?_set_self (by simpa using h), List.getElem?_range h]
    simp
  · rw [List.getElem?_set_ne (Ne.symm hi), List.getElem?_map]
    by_cases hin : i < n
    · rw [List.getElem?_range hin]
      simp [hi]
    · rw [List.getElem?_eq_none (by simp; omega)]
      simp
def miI (n : Nat) (rs : List Rm) (ks : List (Str × List Int)) (k : Nat) (ps : LS) (g : PH) : Prop := ∃ (s2 s3 s4 s5 : Option W), ps = [some (encA rs ks), some (.ref n), s2, s3, s4, s5] ∧ g = hp n fun r => pre rs k r
def miJ (n : Nat) (rs : List Rm) (ks : List (Str × List Int)) (k : Nat) (x : Rm) (j : Nat) (ps : LS) (g : PH) : Prop := ∃ (s4 s5 : Option W), ps = [some (encA rs ks), some (.ref n), some (.int k), some (encR x), s4, s5] ∧ g = hp n fun r => pre rs k r ++ some1J k x.2 j r
def miC (i : Nat) (acc : List W) (g : PH) : Prop := acc = (List.range i).map W.ref ∧ g = (List.range i).map fun _ => OB.lst []
theorem minto_run {n : Nat} {rs : List Rm} (hl : rs.length = n) (hn : n ≤ 600) (hg : GRs n rs) (ks : List (Str × List Int)) :
    (f_moves_into [encA rs ks] []).To fun w g => w = .ref n ∧ g = hp n fun r => pre rs rs.length r := by
  unfold f_moves_into
  rw [run_to, show startW 6 [encA rs ks] = [some (encA rs ks), none, none, none, none, none] from rfl]
  unfold b_moves_into
  refine seq_cut (miI n rs ks 0) ?_ ?_
  · simp
    refine lc_items miC ⟨rfl, rfl⟩ ?_ ?_
    · rintro i w acc g e ⟨rfl, rfl⟩
      have hi := (List.getElem?_eq_some_iff.mp e).1
      rw [List.length_map] at hi
      refine ⟨_, rfl, ?_⟩
      simp
      exact ⟨by omega, by rw [List.range_succ]; simp, by rw [List.range_succ]; simp⟩
    · rintro acc g ⟨rfl, rfl⟩
      have eN : (rs.map encR).length = n := by rw [List.length_map, hl]
      rw [eN]
      refine ⟨none, none, none, none, by simp, ?_⟩
      unfold hp
      simp [pre]
  · rintro ps g ⟨s2, s3, s4, s5, rfl, rfl⟩
    refine seq_cut (miI n rs ks rs.length) ?_ ?_
    · rw [to_for]
      simp
      refine for_enum (miI n rs ks) ⟨s2, s3, s4, s5, rfl, rfl⟩ ?_ fun ps g z => by rw [List.length_map] at z; exact z
      rintro k w ps g e2 ⟨t2, t3, t4, t5, rfl, rfl⟩
      rw [List.getElem?_map] at e2
      obtain ⟨x, ex, rfl⟩ := Option.map_eq_some_iff.mp e2
      have hk : k < rs.length := (List.getElem?_eq_some_iff.mp ex).1
      have hR := hg x (List.mem_of_getElem? ex)
      refine ⟨_, rfl, ?_⟩
      rw [to_for]
      simp
      refine for_enum (miJ n rs ks k x) ⟨t4, t5, rfl, by simp [some1J]⟩ ?_ ?_
      · rintro j w ps g e3 ⟨u4, u5, rfl, rfl⟩
        rw [List.getElem?_map] at e3
        obtain ⟨m, em, rfl⟩ := Option.map_eq_some_iff.mp e3
        have hm := hR.2.2.2 m (List.mem_of_getElem? em)
        have hj := (List.getElem?_eq_some_iff.mp em).1
        obtain ⟨to, hto⟩ : ∃ to : Nat, m.1 = to := ⟨m.1.toNat, by have := hm.1; omega⟩
        have htn : to < n := by have := hm.2.1; omega
        refine ⟨_, rfl, ?_⟩
        simp
        rw [wIx_lst hp_out, hto]
        have e5 : atI ((List.range n).map W.ref) (to : Int) = some (.ref to) := by
          rw [atI_nat _ _ (by omega)]
          simp [List.getElem?_range htn]
        simp [e5]
        rw [tyW_lst (hp_get htn), wAppend_lst (hp_get htn)]
        simp
        have a := pre_len hg (to : Int) k (by omega)
        have b := some1J_len k x.2 j to
        have c := hR.2.2.1
        refine ⟨by omega, some (.int j), some (encM m), rfl, ?_⟩
        have := hp_set (L := fun r => pre rs k r ++ some1J k x.2 j r) htn ((k : Int), (j : Int))
        rw [List.map_append] at this
        simp only [encP, List.map_append, List.append_assoc] at this ⊢
        rw [this]
        congr 1
        funext r
        rw [some1J_more em, hto]
        by_cases q : r = to
        · subst q
          simp
        · have : ¬ (to : Int) = (r : Int) := by omega
          simp [q, this]
      · rintro ps g ⟨u4, u5, rfl, rfl⟩
        rw [List.length_map]
        refine ⟨some (.int k), some (encR x), u4, u5, rfl, ?_⟩
        congr 1
        funext r
        rw [pre_more ex, some1J_all]
    · rintro ps g ⟨t2, t3, t4, t5, rfl, rfl⟩
      simp
def S_minto : FM := lift0 f_moves_into
theorem fits_moves_into : Fits f_moves_into S_minto := fits_lift0 _
section
variable {n : Nat} {rs : List Rm} {ks : List (Str × List Int)} {room : Int} {mvs : List W} {h : PH} {Q : W → PH → Prop}
/-- the lists that moves_into tells, as they lie behind h -/
def mheap (rs : List Rm) (n : Nat) (h : PH) : PH := .lst ((List.range n).map fun r => W.ref (h.length + 1 + r)) :: (List.range n).map fun r : Nat => OB.lst ((pre rs rs.length r).map encP)
theorem refs_refs (l : List Nat) : refsWs (l.map W.ref) = l := by
  induction l with
  | nil => simp
  | cons a r ih => simp [ih]
theorem ren_refs (f : Nat → Nat) (l : List Nat) : renWs f (l.map W.ref) = (l.map f).map W.ref := by
  induction l with
  | nil => rfl
  | cons a r ih => simp [renWs, renW, ih]
theorem idx_range (n r : Nat) (h : r < n) : (n :: List.range n).idxOf r = r + 1 := by
  rw [List.idxOf_cons]
  have : (n == r) = false := by simp; omega
  rw [this]
  simp only [cond_false, Bool.cond_eq_ite]
  have e : (List.range n).idxOf r = r := by
    have hm : r ∈ List.range n := List.mem_range.mpr h
    have := List.getElem_idxOf (List.idxOf_lt_length_of_mem hm)
    rw [List.getElem_range] at this
    exact this
  simp [e]
theorem fmap_some {α β : Type} (f : α → Option β) (g : α → β) : ∀ l : List α, (∀ r ∈ l, f r = some (g r)) → l.filterMap f = l.map g
  | [], _ => rfl
  | a :: r, h => by
    rw [List.filterMap_cons, h a List.mem_cons_self, List.map_cons, fmap_some f g r fun x hx => h x (List.mem_cons_of_mem _ hx)]
theorem minto_to (hl : rs.length = n) (hn : n ≤ 600) (hg : GRs n rs) (q : Q (.ref h.length) (h ++ mheap rs n h)) : (S_minto [encA rs ks] h).To Q := by
  obtain ⟨w, g, e, rfl, rfl⟩ := (minto_run hl hn hg ks).is
  have r0 : objs (hp n fun r => pre rs rs.length r) [n] = List.range n := by
    simp only [objs, List.flatMap_cons, List.flatMap_nil, hp_out, List.append_nil, refs_lst]
    exact refs_refs _
  have r1 : objs (hp n fun r => pre rs rs.length r) (List.range n) = [] := by
    unfold objs
    refine List.flatMap_eq_nil_iff.mpr fun r hr => ?_
    rw [hp_get (List.mem_range.mp hr)]
    exact refs_map _ _ fun _ _ => refs_P _
  have rr : reach (hp n fun r => pre rs rs.length r) [n] = n :: List.range n := by
    unfold reach
    rw [r0, r1]
    simp
  have r2 : objs (hp n fun r => pre rs rs.length r) (n :: List.range n) = List.range n := by
    have : objs (hp n fun r => pre rs rs.length r) (n :: List.range n) = objs (hp n fun r => pre rs rs.length r) [n] ++ objs (hp n fun r => pre rs rs.length r) (List.range n) := by simp [objs]
    rw [this, r0, r1, List.append_nil]
  have hlen : (hp n fun r => pre rs rs.length r).length = n + 1 := by simp [hp]
  have ap : apt (hp n fun r => pre rs rs.length r) [n] (n :: List.range n) 0 = true := by
    unfold apt
    rw [r2, hlen]
    simp [List.nodup_range]
    exact ⟨fun x hx => by omega, fun x hx => .inr hx⟩
  unfold S_minto lift0
  rw [if_pos (by simp), e]
  unfold outR
  dsimp only
  have ap2 : apt (hp n fun r => pre rs rs.length r) [n] (n :: List.range n) ([] : List Nat).length = true := ap
  rw [refs_ref, rr, if_pos ap2, to_ok]
  have e1 : renW (pos (n :: List.range n) h.length) (.ref n) = .ref h.length := by simp [renW, pos]
  have e2 : news (hp n fun r => pre rs rs.length r) (n :: List.range n) h.length = mheap rs n h := by
    unfold news mheap
    rw [List.filterMap_cons]
    simp only [hp_out, Option.map_some, renO, ren_refs]
    have a : ((List.range n).map (pos (n :: List.range n) h.length)).map W.ref = (List.range n).map fun r => W.ref (h.length + 1 + r) := by
      rw [List.map_map]
      refine List.map_congr_left fun r hr => ?_
      simp only [Function.comp_apply, pos, idx_range n r (List.mem_range.mp hr)]
      congr 1
      omega
    rw [a]
    congr 1
    refine fmap_some _ _ _ fun r hr => ?_
    rw [hp_get (List.mem_range.mp hr)]
    simp only [Option.map_some, renO]
    rw [rens_id _ (refs_map _ _ fun _ _ => refs_P _)]
  rw [e1, e2]
  exact q
end
end Mir

/-! rooms and their moves: small facts (shared) -/
namespace Mir
open PySem PySem.Spec PyProof.Rows L2
theorem iter_lst {n fuel : Nat} {h : PH} {xs : List W} (e : h[n]? = some (.lst xs)) : iterOf fuel (.ref n) h = some (itL n fuel) := by simp only [iterOf, e]
section
variable {rs : List Rm} {ks : List (Str × List Int)} {S : List Int}
theorem in_goals {x : Int} {h : PH} : wIn (.int x) (encI S) h = some (.bl (decide (x ∈ S)), h) := by
  unfold encI
  simp only [wIn, inW]
  rw [if_pos ⟨rfl, flat_ints S⟩, any_ints]
  rfl
theorem notIn_goals {x : Int} {h : PH} : wNotIn (.int x) (encI S) h = some (.bl (!decide (x ∈ S)), h) := by
  unfold encI
  simp only [wNotIn, inW]
  rw [if_pos ⟨rfl, flat_ints S⟩, any_ints]
  rfl
theorem ow_01 (hg : GRs rs.length rs) {i : Nat} (hi : i < rs.length) : Ow rs i = 0 ∨ Ow rs i = 1 := by
  have : rs.getD i (0, []) = rs[i] := by simp [List.getD, List.getElem?_eq_getElem hi]
  have h := hg _ (List.getElem_mem hi)
  unfold Ow
  rw [this]
  have := h.1
  have := h.2.1
  omega
theorem mvs_ok (hg : GRs rs.length rs) {i : Nat} (hi : i < rs.length) {m : Mv} (hm : m ∈ (rs.getD i (0, [])).2) : GM' rs.length m ∧ m.1.toNat ∈ Tg rs i := by
  have e : rs.getD i (0, []) = rs[i] := by simp [List.getD, List.getElem?_eq_getElem hi]
  have h := hg _ (List.getElem_mem hi)
  exact ⟨h.2.2.2 m (by rw [← e]; exact hm), List.mem_map.mpr ⟨m, hm, rfl⟩⟩
theorem tg_len2 (hg : GRs rs.length rs) (i : Nat) : (Tg rs i).length ≤ 24 := by
  unfold Tg
  rw [List.length_map]
  by_cases hi : i < rs.length
  · have : rs.getD i (0, []) = rs[i] := by simp [List.getD, List.getElem?_eq_getElem hi]
    rw [this]
    exact (hg _ (List.getElem_mem hi)).2.2.1
  · rw [List.getD, List.getElem?_eq_none (by omega)]
    simp
theorem tg_in (hg : GRs rs.length rs) {i t : Nat} (ht : t ∈ Tg rs i) : t < rs.length := by
  obtain ⟨m, hm, rfl⟩ := List.mem_map.mp ht
  by_cases hi : i < rs.length
  · have h := (mvs_ok hg hi hm).1
    have h1 := h.1
    have h2 := h.2.1
    omega
  · rw [List.getD, List.getElem?_eq_none (by omega)] at hm
    cases hm
end
end Mir

/-! marked, need_room at good names and rooms -/
namespace Mir
open PySem PySem.Spec PyProof.Rows L2
section
variable {rs : List Rm} {ks : List (Str × List Int)} {S : List Int} {h : PH} {Q : W → PH → Prop}
theorem marked_to {pre post : List (Str × List Int)} {x : Str} {g : List Int} (e : ks = pre ++ (x, g) :: post) (hn : ∀ k ∈ pre, k.1 ≠ x) (q : Q (encI g) h) : (f_marked [encA rs ks, .str x] h).To Q := by
  unfold f_marked
  rw [run_to, show startW 4 [encA rs ks, W.str x] = [some (encA rs ks), some (.str x), none, none] from rfl]
  unfold b_marked
  refine seq_go (ps1 := [some (encA rs ks), some (.str x), none, none]) (h1 := h) (fun K hK => ?_) ?_
  · simp
    exact hK
  rw [to_seq, to_for]
  simp
  refine for_items (fun i ps h' => (∃ s2 s3, ps = [some (encA rs ks), some (.str x), s2, s3]) ∧ h' = h ∧ i ≤ pre.length) ⟨⟨_, _, rfl⟩, rfl, Nat.zero_le _⟩ ?_ ?_
  · rintro i w ps h' ei ⟨⟨s2, s3, rfl⟩, rfl, hi⟩
    rw [List.getElem?_map] at ei
    obtain ⟨k, ek, rfl⟩ := Option.map_eq_some_iff.mp ei
    refine ⟨_, rfl, ?_⟩
    rw [to_sif]
    simp
    by_cases hl : i < pre.length
    · rw [e, List.getElem?_append_left hl] at ek
      have := hn k (List.mem_of_getElem? ek)
      refine .no this ?_
      show i + 1 ≤ pre.length
      omega
    · have : i = pre.length := by omega
      subst this
      rw [e, List.getElem?_append_right (Nat.le_refl _), Nat.sub_self] at ek
      cases ek
      refine .yes rfl ?_
      exact q
  · rintro ps h' ⟨_, rfl, hl⟩
    rw [e] at hl
    simp at hl
    omega
theorem need_to {i : Nat} (hi : i < rs.length) (hl : rs.length ≤ 600) (q : Q .non h) : (f_need_room f_is_among [encA rs ks, .int (i : Nat)] h).To Q := by
  unfold f_need_room
  rw [run_to, show startW 2 [encA rs ks, W.int (i : Nat)] = [some (encA rs ks), some (.int (i : Nat))] from rfl]
  unfold b_need_room
  rw [to_sif]
  simp [f_is_among]
  rw [run_to, show startW 3 [W.int (i : Nat), W.int 0, W.int ((rs.length : Int) - 1)] = [some (W.int (i : Nat)), some (W.int 0), some (W.int ((rs.length : Int) - 1))] from rfl]
  unfold b_is_among
  simp
  exact .yes (by omega) q
end
end Mir

/-! again: how rooms are forced, plain -/
namespace Mir
open PySem
/-! the moves into a room -/
theorem pre_mem {rs : List Rm} {r : Int} {p : Int × Int} (h : p ∈ pre rs rs.length r) : ∃ (i k : Nat) (m : Mv), p = ((i : Int), (k : Int)) ∧ i < rs.length ∧ (rs.getD i (0, [])).2[k]? = some m ∧ m.1 = r := by
  unfold pre at h
  obtain ⟨q, hq, hp⟩ := List.mem_flatMap.mp h
  have hq := List.mem_of_mem_take hq
  obtain ⟨i, hi⟩ := List.getElem?_of_mem hq
  rw [List.getElem?_zipIdx] at hi
  cases e : rs[i]? with
  | none => rw [e] at hi; cases hi
  | some x =>
    rw [e] at hi
    have hi : (x, i) = q := by simpa using hi
    subst hi
    unfold some1 at hp
    obtain ⟨z, hz, rfl⟩ := List.mem_map.mp hp
    obtain ⟨hz1, hz2⟩ := List.mem_filter.mp hz
    obtain ⟨k, hk⟩ := List.getElem?_of_mem hz1
    rw [List.getElem?_zipIdx] at hk
    cases e2 : x.2[k]? with
    | none => rw [e2] at hk; cases hk
    | some m =>
      rw [e2] at hk
      have hk : (m, k) = z := by simpa using hk
      subst hk
      refine ⟨i, k, m, rfl, (List.getElem?_eq_some_iff.mp e).1, ?_, of_decide_eq_true hz2⟩
      simp [List.getD, e, e2]
/-- a room among those from which moves lead to r, and the move -/
def onI (rs : List Rm) (r : Nat) : List (Nat × Nat) := (pre rs rs.length (r : Int)).map fun p => (p.1.toNat, p.2.toNat)
theorem onI_mem {rs : List Rm} {r : Nat} {p : Nat × Nat} (h : p ∈ onI rs r) : p.1 < rs.length ∧ (Tg rs p.1)[p.2]? = some r := by
  obtain ⟨q, hq, rfl⟩ := List.mem_map.mp h
  obtain ⟨i, k, m, rfl, hi, hm, e⟩ := pre_mem hq
  refine ⟨by simpa using hi, ?_⟩
  unfold Tg
  rw [List.getElem?_map]
  simp only [Int.toNat_natCast]
  rw [hm, Option.map_some, e]
  rfl
theorem pre_onI {rs : List Rm} {r : Nat} : (pre rs rs.length (r : Int)).map encP = (onI rs r).map fun p => W.tup [.int (p.1 : Nat), .int (p.2 : Nat)] := by
  unfold onI
  rw [List.map_map]
  refine List.map_congr_left fun p hp => ?_
  obtain ⟨i, k, m, rfl, _⟩ := pre_mem hp
  rfl
theorem some1_cnt (one : Nat) (ms : List Mv) (r : Int) : (some1 one ms r).map (fun p => p.1.toNat) = List.replicate (ms.countP fun m => decide (m.1 = r)) one := by
  unfold some1
  rw [List.map_map]
  have : (ms.zipIdx.filter fun q => decide (q.1.1 = r)).length = ms.countP fun m => decide (m.1 = r) := by
    rw [← List.countP_eq_length_filter]
    have : ms.zipIdx.countP (fun q => decide (q.1.1 = r)) = (ms.zipIdx.map Prod.fst).countP fun m => decide (m.1 = r) := by rw [List.countP_map]; rfl
    rw [this, List.zipIdx_map_fst]
  rw [← this, List.eq_replicate_iff]
  refine ⟨by simp, fun b hb => ?_⟩
  obtain ⟨q, _, rfl⟩ := List.mem_map.mp hb
  simp
theorem pre_cnt {rs : List Rm} (r : Int) (i : Nat) : ∀ k : Nat, k ≤ rs.length → ((pre rs k r).map fun p => p.1.toNat).count i = if i < k then (rs.getD i (0, [])).2.countP (fun m => decide (m.1 = r)) else 0
  | 0, _ => by simp [pre]
  | k + 1, hk => by
    have e : rs[k]? = some rs[k] := List.getElem?_eq_getElem (by omega)
    rw [pre_more e, List.map_append, List.count_append, pre_cnt r i k (by omega), some1_cnt, List.count_replicate]
    by_cases h1 : i < k
    · have : ¬ k = i := by omega
      simp [h1, this, show i < k + 1 by omega]
    · by_cases h2 : k = i
      · subst h2
        simp [List.getD, e]
      · simp [h1, h2, show ¬ i < k + 1 by omega]
theorem onI_count {rs : List Rm} (hg : GRs rs.length rs) {r i : Nat} (hi : i < rs.length) : ((onI rs r).map Prod.fst).count i = (Tg rs i).countP fun t => decide (t = r) := by
  have : (onI rs r).map Prod.fst = (pre rs rs.length (r : Int)).map fun p => p.1.toNat := by unfold onI; rw [List.map_map]; rfl
  rw [this, pre_cnt _ _ _ (Nat.le_refl _), if_pos hi]
  unfold Tg
  rw [List.countP_map]
  refine List.countP_congr fun m hm => ?_
  have := (mvs_ok hg hi hm).1.1
  simp only [Function.comp_apply, decide_eq_true_eq]
  omega
def updF {α : Type} (u : Nat → α) (i : Nat) (x : α) : Nat → α := fun j => if j = i then x else u j
theorem updF_same {α : Type} {u : Nat → α} {i : Nat} {x : α} : updF u i x i = x := by simp [updF]
theorem updF_ne {α : Type} {u : Nat → α} {i j : Nat} {x : α} (h : j ≠ i) : updF u i x j = u j := by simp [updF, h]
/-- what is known while rooms are forced -/
structure FI (rs : List Rm) (G L W : List Nat) (a : Nat) (rk : Nat → Nat) (mv : Nat → Option Nat) : Prop where
  nd : W.Nodup
  sub : ∀ x ∈ W, x ∈ L
  g : ∀ x ∈ G, x ∈ W
  z : ∀ x ∈ G, rk x = 0 ∧ mv x = none
  s : ∀ x ∈ W, x ∉ G → (Ow rs x = 0 → ∃ k t, mv x = some k ∧ (Tg rs x)[k]? = some t ∧ t ∈ W ∧ rk t < rk x) ∧ (Ow rs x ≠ 0 → mv x = none ∧ Tg rs x ≠ [] ∧ ∀ t ∈ Tg rs x, t ∈ W ∧ rk t < rk x)
  up : W.Pairwise fun a b => rk a ≤ rk b
  b : ∀ x ∈ W, ∀ i w, a ≤ i → W[i]? = some w → rk x ≤ rk w + 1
  bd : ∀ i x, W[i]? = some x → rk x ≤ i
/-- how many moves lead to rooms that aren't done; L's rooms that wait -/
def LfI (rs : List Rm) (L W : List Nat) (a : Nat) (D : List Nat) (lf : Nat → Int) : Prop := ∀ x ∈ L, x ∉ W →
  lf x = ((Tg rs x).length : Int) - ((Tg rs x).countP fun t => decide (t ∈ W.take a)) - (D.count x) ∧ (Ow rs x = 0 → (∀ t ∈ Tg rs x, t ∉ W.take a) ∧ x ∉ D) ∧ (lf x ≠ 0 ∨ Tg rs x = [])
section
variable {rs : List Rm} {G L W : List Nat} {a : Nat} {rk : Nat → Nat} {mv : Nat → Option Nat} {lf : Nat → Int} {w : Nat}
theorem FI.next (h : FI rs G L W a rk mv) : FI rs G L W (a + 1) rk mv := ⟨h.nd, h.sub, h.g, h.z, h.s, h.up, fun x hx i w hi e => h.b x hx i w (by omega) e, h.bd⟩
theorem up_get (h : FI rs G L W a rk mv) {i j : Nat} {x y : Nat} (hi : W[i]? = some x) (hj : W[j]? = some y) (ij : i ≤ j) : rk x ≤ rk y := by
  by_cases e : i = j
  · subst e
    rw [hi] at hj
    cases hj
    exact Nat.le_refl _
  · have := List.pairwise_iff_getElem.mp h.up i j (List.getElem?_eq_some_iff.mp hi).1 (List.getElem?_eq_some_iff.mp hj).1 (by omega)
    rw [(List.getElem?_eq_some_iff.mp hi).2, (List.getElem?_eq_some_iff.mp hj).2] at this
    exact this
theorem take_next (e : W[a]? = some w) (t : Nat) : t ∈ W.take (a + 1) ↔ t ∈ W.take a ∨ t = w := by
  rw [List.take_succ, e, List.mem_append]
  simp
/-- one more room -/
theorem FI.add (h : FI rs G L W a rk mv) (e : W[a]? = some w) {x : Nat} (hx : x ∉ W) (hL : x ∈ L) (m : Option Nat)
    (h0 : Ow rs x = 0 → ∃ k, m = some k ∧ (Tg rs x)[k]? = some w) (h1 : Ow rs x ≠ 0 → m = none ∧ Tg rs x ≠ [] ∧ ∀ t ∈ Tg rs x, t ∈ W.take (a + 1)) : FI rs G L (W ++ [x]) a (updF rk x (rk w + 1)) (updF mv x m) := by
  have hw : w ∈ W := List.mem_of_getElem? e
  have ne : ∀ y ∈ W, y ≠ x := fun y hy z => hx (z ▸ hy)
  have rkW : ∀ y ∈ W, updF rk x (rk w + 1) y = rk y := fun y hy => updF_ne (ne y hy)
  have mvW : ∀ y ∈ W, updF mv x m y = mv y := fun y hy => updF_ne (ne y hy)
  refine ⟨?_, fun y hy => ?_, fun y hy => List.mem_append_left _ (h.g y hy), fun y hy => ?_, fun y hy hG => ?_, ?_, fun y hy i u hi eu => ?_, fun i u eu => ?_⟩
  · rw [List.nodup_append]
    refine ⟨h.nd, by simp, fun y hy z hz => ?_⟩
    rw [List.mem_singleton.mp hz]
    exact ne y hy
  · rcases List.mem_append.mp hy with z | z
    · exact h.sub y z
    · rw [List.mem_singleton.mp z]; exact hL
  · rw [rkW y (h.g y hy), mvW y (h.g y hy)]
    exact h.z y hy
  · rcases List.mem_append.mp hy with z | z
    · rw [rkW y z, mvW y z]
      obtain ⟨s0, s1⟩ := h.s y z hG
      refine ⟨fun o => ?_, fun o => ?_⟩
      · obtain ⟨k, t, a1, a2, a3, a4⟩ := s0 o
        exact ⟨k, t, a1, a2, List.mem_append_left _ a3, by rw [rkW t a3]; exact a4⟩
      · obtain ⟨a1, a2, a3⟩ := s1 o
        exact ⟨a1, a2, fun t ht => ⟨List.mem_append_left _ (a3 t ht).1, by rw [rkW t (a3 t ht).1]; exact (a3 t ht).2⟩⟩
    · have := List.mem_singleton.mp z
      subst this
      rw [updF_same, updF_same]
      refine ⟨fun o => ?_, fun o => ?_⟩
      · obtain ⟨k, a1, a2⟩ := h0 o
        exact ⟨k, w, a1, a2, List.mem_append_left _ hw, by rw [rkW w hw]; omega⟩
      · obtain ⟨a1, a2, a3⟩ := h1 o
        refine ⟨a1, a2, fun t ht => ?_⟩
        have ht2 := a3 t ht
        have htW : t ∈ W := List.mem_of_mem_take ht2
        refine ⟨List.mem_append_left _ htW, ?_⟩
        rw [rkW t htW]
        obtain ⟨i, hi⟩ := List.getElem?_of_mem ht2
        have hia : i < a + 1 := by
          have := (List.getElem?_eq_some_iff.mp hi).1
          rw [List.length_take] at this
          omega
        rw [List.getElem?_take_of_lt hia] at hi
        have := up_get h hi e (by omega)
        omega
  · rw [List.pairwise_append]
    refine ⟨?_, by simp, fun y hy z hz => ?_⟩
    · have := h.up
      refine List.Pairwise.imp_of_mem (fun {p q} hp hq r => ?_) this
      rw [rkW p hp, rkW q hq]
      exact r
    · rw [List.mem_singleton.mp hz, updF_same, rkW y hy]
      exact h.b y hy a w (Nat.le_refl _) e
  · have hlen := (List.getElem?_eq_some_iff.mp e).1
    rcases List.mem_append.mp hy with z | z
    · rw [rkW y z]
      by_cases c : i < W.length
      · rw [List.getElem?_append_left c] at eu
        rw [rkW u (List.mem_of_getElem? eu)]
        exact h.b y z i u hi eu
      · rw [List.getElem?_append_right (by omega)] at eu
        have : u = x := by
          cases q : i - W.length with
          | zero => rw [q] at eu; simpa using eu.symm
          | succ j => rw [q] at eu; simp at eu
        subst this
        rw [updF_same]
        have := h.b y z a w (Nat.le_refl _) e
        omega
    · rw [List.mem_singleton.mp z, updF_same]
      by_cases c : i < W.length
      · rw [List.getElem?_append_left c] at eu
        rw [rkW u (List.mem_of_getElem? eu)]
        have := up_get h e eu hi
        omega
      · rw [List.getElem?_append_right (by omega)] at eu
        have : u = x := by
          cases q : i - W.length with
          | zero => rw [q] at eu; simpa using eu.symm
          | succ j => rw [q] at eu; simp at eu
        subst this
        rw [updF_same]
        omega
  · have hlen := (List.getElem?_eq_some_iff.mp e).1
    by_cases c : i < W.length
    · rw [List.getElem?_append_left c] at eu
      rw [rkW u (List.mem_of_getElem? eu)]
      exact h.bd i u eu
    · rw [List.getElem?_append_right (by omega)] at eu
      have : u = x := by
        cases q : i - W.length with
        | zero => rw [q] at eu; simpa using eu.symm
        | succ j => rw [q] at eu; simp at eu
      subst this
      rw [updF_same]
      have := h.bd a w e
      omega
theorem lf_add {D : List Nat} (h : LfI rs L W a D lf) (ha : a ≤ W.length) (x : Nat) : LfI rs L (W ++ [x]) a D lf := fun y hy hW => by
  rw [List.take_append_of_le_length ha]
  exact h y hy fun z => hW (List.mem_append_left _ z)
/-- all the moves into w are gone through -/
theorem lf_next (hg : GRs rs.length rs) (nd : W.Nodup) (e : W[a]? = some w) (hL : ∀ x ∈ L, x < rs.length) (h : LfI rs L W a ((onI rs w).map Prod.fst) lf) : LfI rs L W (a + 1) [] lf := fun x hx hW => by
  obtain ⟨h1, h2, h3⟩ := h x hx hW
  have hnot : w ∉ W.take a := fun z => by
    obtain ⟨i, hi⟩ := List.getElem?_of_mem z
    have hia : i < a := by
      have := (List.getElem?_eq_some_iff.mp hi).1
      rw [List.length_take] at this
      omega
    rw [List.getElem?_take_of_lt hia] at hi
    obtain ⟨h1, h1'⟩ := List.getElem?_eq_some_iff.mp hi
    obtain ⟨h2, h2'⟩ := List.getElem?_eq_some_iff.mp e
    exact List.pairwise_iff_getElem.mp nd i a h1 h2 hia (by rw [h1', h2'])
  have hc : (Tg rs x).countP (fun t => decide (t ∈ W.take (a + 1))) = (Tg rs x).countP (fun t => decide (t ∈ W.take a)) + (Tg rs x).countP fun t => decide (t = w) := countP_two fun t _ => by
    simp only [decide_eq_true_eq, take_next e]
    refine ⟨trivial, ?_⟩
    rintro ⟨z1, rfl⟩
    exact hnot z1
  rw [onI_count hg (hL x hx)] at h1
  refine ⟨by rw [h1, hc, List.count_nil]; omega, fun o => ?_, h3⟩
  obtain ⟨a1, a2⟩ := h2 o
  refine ⟨fun t ht z => ?_, by simp⟩
  rcases (take_next e t).mp z with z | rfl
  · exact a1 t ht z
  · have : 0 < ((onI rs t).map Prod.fst).count x := by
      rw [onI_count hg (hL x hx)]
      exact List.countP_pos_iff.mpr ⟨t, ht, by simp⟩
    exact a2 (List.count_pos_iff.mp this)
/-- a room of the other's all of whose moves are gone through -/
theorem lf_zero (hg : GRs rs.length rs) (nd : W.Nodup) (e : W[a]? = some w) (hL : ∀ x ∈ L, x < rs.length) {D : List Nat} {j : Nat} (hD : D = ((onI rs w).map Prod.fst).take j) (h : LfI rs L W a D lf) {x k : Nat} (hx : x ∈ L) (hW : x ∉ W) (ej : (onI rs w)[j]? = some (x, k)) (hz : lf x - 1 = 0) : Tg rs x ≠ [] ∧ ∀ t ∈ Tg rs x, t ∈ W.take (a + 1) := by
  obtain ⟨h1, _, _⟩ := h x hx hW
  have hk := onI_mem (List.mem_of_getElem? ej)
  have hne : Tg rs x ≠ [] := List.ne_nil_of_mem (List.mem_of_getElem? hk.2)
  refine ⟨hne, ?_⟩
  have hnot : w ∉ W.take a := fun z => by
    obtain ⟨i, hi⟩ := List.getElem?_of_mem z
    have hia : i < a := by
      have := (List.getElem?_eq_some_iff.mp hi).1
      rw [List.length_take] at this
      omega
    rw [List.getElem?_take_of_lt hia] at hi
    obtain ⟨h1, h1'⟩ := List.getElem?_eq_some_iff.mp hi
    obtain ⟨h2, h2'⟩ := List.getElem?_eq_some_iff.mp e
    exact List.pairwise_iff_getElem.mp nd i a h1 h2 hia (by rw [h1', h2'])
  have hc : (Tg rs x).countP (fun t => decide (t ∈ W.take (a + 1))) = (Tg rs x).countP (fun t => decide (t ∈ W.take a)) + (Tg rs x).countP fun t => decide (t = w) := countP_two fun t _ => by
    simp only [decide_eq_true_eq, take_next e]
    refine ⟨trivial, ?_⟩
    rintro ⟨z1, rfl⟩
    exact hnot z1
  have hle : D.count x + 1 ≤ ((onI rs w).map Prod.fst).count x := by
    have e2 : ((onI rs w).map Prod.fst)[j]? = some x := by rw [List.getElem?_map, ej]; rfl
    have e3 : ((onI rs w).map Prod.fst).take (j + 1) = D ++ [x] := by rw [List.take_succ, e2, hD]; rfl
    have := List.Sublist.count_le x (List.take_sublist (j + 1) ((onI rs w).map Prod.fst))
    rw [e3, List.count_append] at this
    simp at this
    exact this
  rw [onI_count hg (hL x hx)] at hle
  have hall : (Tg rs x).countP (fun t => decide (t ∈ W.take (a + 1))) = (Tg rs x).length := by
    have := List.countP_le_length (p := fun t => decide (t ∈ W.take (a + 1))) (l := Tg rs x)
    omega
  intro t ht
  exact of_decide_eq_true (List.countP_eq_length.mp hall t ht)
/-- what forced answers -/
structure FS (rs : List Rm) (G L O : List Nat) (rk : Nat → Nat) (mv : Nat → Option Nat) : Prop where
  nd : O.Nodup
  sub : ∀ x ∈ O, x ∈ L
  g : ∀ x ∈ G, x ∈ O
  z : ∀ x ∈ G, rk x = 0 ∧ mv x = none
  s : ∀ x ∈ O, x ∉ G → (Ow rs x = 0 → ∃ k t, mv x = some k ∧ (Tg rs x)[k]? = some t ∧ t ∈ O ∧ rk t < rk x) ∧ (Ow rs x ≠ 0 → mv x = none ∧ Tg rs x ≠ [] ∧ ∀ t ∈ Tg rs x, t ∈ O ∧ rk t < rk x)
  o : ∀ x ∈ L, x ∉ O → (Ow rs x = 0 → ∀ t ∈ Tg rs x, t ∉ O) ∧ (Tg rs x = [] ∨ ∃ t ∈ Tg rs x, t ∉ O)
  bd : ∀ x ∈ O, rk x ≤ O.length
theorem FI.done (h : FI rs G L W W.length rk mv) (l : LfI rs L W W.length [] lf) : FS rs G L W rk mv := by
  refine ⟨h.nd, h.sub, h.g, h.z, h.s, fun x hx hW => ?_, fun x hx => by
    obtain ⟨i, hi⟩ := List.getElem?_of_mem hx
    have h1 := h.bd i x hi
    have h2 := (List.getElem?_eq_some_iff.mp hi).1
    omega⟩
  obtain ⟨l1, l2, l3⟩ := l x hx hW
  rw [List.take_length] at l1 l2
  refine ⟨fun o => (l2 o).1, ?_⟩
  rcases l3 with l3 | l3
  · refine .inr (Classical.byContradiction fun z => l3 ?_)
    have : (Tg rs x).countP (fun t => decide (t ∈ W)) = (Tg rs x).length := List.countP_eq_length.mpr fun t ht => decide_eq_true (Classical.byContradiction fun q => z ⟨t, ht, q⟩)
    rw [l1, this, List.count_nil]
    omega
  · exact .inl l3
end
end Mir

/-! again: forced, walked -/
namespace Mir
open PySem PySem.Spec PyProof.Rows L2
def oW : Option Nat → W
  | none => .non
  | some k => .int (k : Nat)
def pairW (rk : Nat → Nat) (mv : Nat → Option Nat) (i : Nat) : W := .tup [.int (rk i : Nat), oW (mv i)]
/-! heaps with three things behind -/
section
variable {h : PH} {a b c o : OB}
theorem g3_0 : (h ++ [a, b, c])[h.length]? = some a := by simp
theorem g3_1 : (h ++ [a, b, c])[h.length + 1]? = some b := by simp
theorem g3_2 : (h ++ [a, b, c])[h.length + 2]? = some c := by simp
theorem s3_0 : (h ++ [a, b, c]).set h.length o = h ++ [o, b, c] := by simp
theorem s3_1 : (h ++ [a, b, c]).set (h.length + 1) o = h ++ [a, o, c] := by simp
theorem s3_2 : (h ++ [a, b, c]).set (h.length + 2) o = h ++ [a, b, o] := by simp
theorem set_back {k : Nat} {o' : OB} (e : h[k]? = some o) : (h.set k o').set k o = h := by
  rw [List.set_set]
  refine List.ext_getElem? fun i => ?_
  rw [List.getElem?_set]
  by_cases q : k = i
  · subst q
    rw [if_pos rfl, e, if_pos (List.getElem?_eq_some_iff.mp e).1]
  · rw [if_neg q]
theorem get_app {e : PH} {k : Nat} (q : h[k]? = some o) : (h ++ e)[k]? = some o := by
  rw [List.getElem?_append_left (List.getElem?_eq_some_iff.mp q).1]
  exact q
end
/-! dicts of rooms -/
theorem in_dk {l : List Nat} {u : Nat → W} {k t : Nat} {h : PH} (e : h[k]? = some (.dK (dkL l u))) : wIn (.int (t : Nat)) (.ref k) h = some (.bl (decide (t ∈ l)), h) := by
  simp only [wIn, inW, e, keyW, Option.map_some, get_dk]
  by_cases c : t ∈ l <;> simp [c]
theorem in_lkd {l : List Nat} {u : Nat → W} {k t : Nat} {h : PH} (e : h[k]? = some (.lk (dkL l u))) : wIn (.int (t : Nat)) (.ref k) h = some (.bl (decide (t ∈ l)), h) := by
  simp only [wIn, inW, e, keyW, Option.map_some, get_dk]
  by_cases c : t ∈ l <;> simp [c]
theorem notIn_lkd {l : List Nat} {u : Nat → W} {k t : Nat} {h : PH} (e : h[k]? = some (.lk (dkL l u))) : wNotIn (.int (t : Nat)) (.ref k) h = some (.bl (!decide (t ∈ l)), h) := by
  simp only [wNotIn, inW, e, keyW, Option.map_some, get_dk]
  by_cases c : t ∈ l <;> simp [c]
theorem ix_lkd {l : List Nat} {u : Nat → W} {k t : Nat} {h : PH} (e : h[k]? = some (.lk (dkL l u))) (ht : t ∈ l) : wIx (.ref k) (.int (t : Nat)) h = some (u t, h) := by
  simp only [wIx, e, keyW, Option.bind_some, get_dk]
  rw [if_pos ht]
  rfl
theorem dk_keys {l : List Nat} {u : Nat → W} : (dkL l u).map (fun p => wKey p.1) = nW l := by
  unfold dkL nW
  rw [List.map_map]
  rfl
theorem dk_congr {l : List Nat} {u v : Nat → W} (h : ∀ i ∈ l, u i = v i) : dkL l u = dkL l v := List.map_congr_left fun i hi => by rw [h i hi]
theorem put_dk_new {l : List Nat} {u : Nat → W} {x : Nat} {w : W} (hx : x ∉ l) : putKW (dkL l u) (.inl (x : Int)) w = dkL (l ++ [x]) (updF u x w) := by
  rw [put_new]
  · unfold dkL
    rw [List.map_append]
    congr 1
    · refine List.map_congr_left fun i hi => ?_
      rw [updF_ne (fun z => hx (by rw [← z]; exact hi))]
    · simp [updF_same]
  · intro p hp z
    obtain ⟨i, hi, rfl⟩ := List.mem_map.mp hp
    have : (i : Int) = x := Sum.inl.inj z
    have : i = x := by omega
    exact hx (this ▸ hi)
theorem put_dk_old {l : List Nat} {u : Nat → W} {x : Nat} {w : W} (hx : x ∈ l) : putKW (dkL l u) (.inl (x : Int)) w = dkL l (updF u x w) := by
  unfold putKW
  have h1 : (dkL l u).any (fun kv => decide (kv.1 = .inl (x : Int))) = true := by
    refine List.any_eq_true.mpr ⟨(.inl (x : Int), u x), List.mem_map.mpr ⟨x, hx, rfl⟩, by simp⟩
  rw [if_pos h1]
  unfold dkL
  rw [List.map_map]
  refine List.map_congr_left fun i _ => ?_
  simp only [Function.comp_apply]
  by_cases e : i = x
  · subst e
    simp [updF_same]
  · rw [if_neg (fun z => e (by have := Sum.inl.inj z; omega)), updF_ne e]
/-- a comprehension over a list of the heap -/
theorem lc_mapL {α : Type} {n fuel : Nat} {h : PH} {Ql : List W → PH → Prop} {psw : LS} {g : GM} {te : EM} {L : List α} {enc u : α → W} (hl : L.length ≤ 1000000) (hf : L.length < fuel) (e : h[n]? = some (.lst (L.map enc))) (he : ∀ a ∈ L, ∃ ps1, g (enc a) psw = some ps1 ∧ ∀ Q : W → PH → Prop, Q (u a) h → (te ps1 h).To Q) (q : Ql (L.map u) h) :
    (lcGo (itL n fuel) g mYes te psw (itL n fuel).fuel 0 [] h).To Ql := by
  refine lc_live (items := L.map enc) (by simpa using hf) (fun i acc g' => acc = (L.take i).map u ∧ g' = h) (fun i acc g' z => by rw [z.2]; exact e) ⟨rfl, rfl⟩ ?_ ?_
  · rintro i w acc g' ei ⟨rfl, rfl⟩
    rw [List.getElem?_map] at ei
    obtain ⟨a, ea, rfl⟩ := Option.map_eq_some_iff.mp ei
    have hi := (List.getElem?_eq_some_iff.mp ea).1
    obtain ⟨ps1, e1, e2⟩ := he a (List.mem_of_getElem? ea)
    refine ⟨ps1, e1, ?_⟩
    rw [to_yes, Ite_true]
    refine e2 _ ⟨by simp; omega, ?_, rfl⟩
    rw [List.take_succ, ea]
    simp
  · rintro acc g' ⟨rfl, rfl⟩
    have : L.take (L.map enc).length = L := List.take_of_length_le (by simp)
    rw [this]
    exact q
/-- a Forcing lies at fo -/
structure FH (rs : List Rm) (fo q : Nat) (h : PH) : Prop where
  at' : h[fo]? = some (.ins "Forcing" [("rooms", .tup (rs.map encR)), ("into", .ref q)])
  into : h[q]? = some (.lst ((List.range rs.length).map fun r => W.ref (q + 1 + r)))
  pre : ∀ r, r < rs.length → h[q + 1 + r]? = some (.lst ((pre rs rs.length r).map encP))
section
variable {rs : List Rm} {fo q : Nat} {h : PH}
theorem FH.app (f : FH rs fo q h) (e : PH) : FH rs fo q (h ++ e) := ⟨get_app f.at', get_app f.into, fun r hr => get_app (f.pre r hr)⟩
theorem FH.set (f : FH rs fo q h) {k : Nat} {o : OB} (h1 : k ≠ fo) (h2 : k < q ∨ q + rs.length < k) : FH rs fo q (h.set k o) :=
  ⟨by rw [List.getElem?_set_ne h1]; exact f.at', by rw [List.getElem?_set_ne (by omega)]; exact f.into, fun r hr => by rw [List.getElem?_set_ne (by omega)]; exact f.pre r hr⟩
theorem kcF : (PySem.Str.ofString "Forcing") ∈ kc_rooms ∧ (PySem.Str.ofString "Forcing") ∈ kc_into := by decide
theorem FH.rooms (f : FH rs fo q h) : fldW kc_rooms "rooms" (.ref fo) h = some (.tup (rs.map encR), h) := by rw [fldW_ins f.at' kcF.1]; rfl
theorem FH.fin (f : FH rs fo q h) : fldW kc_into "into" (.ref fo) h = some (.ref q, h) := by rw [fldW_ins f.at' kcF.2]; rfl
theorem FH.row (f : FH rs fo q h) {r : Nat} (hr : r < rs.length) : wIx (.ref q) (.int (r : Nat)) h = some (.ref (q + 1 + r), h) := by
  rw [wIx_lst f.into, atI_nat _ _ (by omega), Int.toNat_natCast, List.getElem?_map, List.getElem?_range hr]
  rfl
end
theorem room_of {rs : List Rm} {i : Nat} (hi : i < rs.length) : atI (rs.map encR) (i : Int) = some (encR (rs.getD i (0, []))) := by
  rw [atI_nat _ _ (by omega), Int.toNat_natCast, List.getElem?_map]
  simp [List.getD, List.getElem?_eq_getElem hi]
section
variable {rs : List Rm} {G L W : List Nat} {a : Nat} {rk : Nat → Nat} {mv : Nat → Option Nat} {lf : Nat → Int}
theorem lf_skip {D : List Nat} {x : Nat} (h : LfI rs L W a D lf) (hx : x ∉ L ∨ x ∈ W) : LfI rs L W a (D ++ [x]) lf := fun y hy hW => by
  obtain ⟨h1, h2, h3⟩ := h y hy hW
  have ne : y ≠ x := fun z => by
    subst z
    rcases hx with hx | hx
    · exact hx hy
    · exact hW hx
  refine ⟨?_, fun o => ⟨(h2 o).1, fun z => ?_⟩, h3⟩
  · rw [h1, List.count_append]
    simp [List.count_cons, Ne.symm ne]
  · rcases List.mem_append.mp z with z | z
    · exact (h2 o).2 z
    · exact ne (List.mem_singleton.mp z)
theorem lf_less {D : List Nat} {x : Nat} (h : LfI rs L W a D lf) (hx : x ∈ L) (ho : Ow rs x ≠ 0) (hz : lf x - 1 ≠ 0) : LfI rs L W a (D ++ [x]) (updF lf x (lf x - 1)) := fun y hy hW => by
  obtain ⟨h1, h2, h3⟩ := h y hy hW
  by_cases e : y = x
  · subst e
    rw [updF_same]
    refine ⟨?_, fun o => absurd o ho, .inl hz⟩
    rw [h1, List.count_append]
    simp
    omega
  · rw [updF_ne e]
    refine ⟨?_, fun o => ⟨(h2 o).1, fun z => ?_⟩, h3⟩
    · rw [h1, List.count_append]
      simp [List.count_cons, Ne.symm e]
    · rcases List.mem_append.mp z with z | z
      · exact (h2 o).2 z
      · exact e (List.mem_singleton.mp z)
theorem lf_took {D : List Nat} {x : Nat} {z : Int} (h : LfI rs L W a D lf) (ha : a ≤ W.length) : LfI rs L (W ++ [x]) a (D ++ [x]) (updF lf x z) := fun y hy hW => by
  have hW1 : y ∉ W := fun q => hW (List.mem_append_left _ q)
  have e : y ≠ x := fun q => hW (by rw [q]; simp)
  obtain ⟨h1, h2, h3⟩ := h y hy hW1
  rw [updF_ne e, List.take_append_of_le_length ha]
  refine ⟨?_, fun o => ⟨(h2 o).1, fun z => ?_⟩, h3⟩
  · rw [h1, List.count_append]
    simp [List.count_cons, Ne.symm e]
  · rcases List.mem_append.mp z with z | z
    · exact (h2 o).2 z
    · exact e (List.mem_singleton.mp z)
end
def foH (h : PH) (L W : List Nat) (rk : Nat → Nat) (mv : Nat → Option Nat) (lf : Nat → Int) : PH := h ++ [.dK (dkL W (pairW rk mv)), .dK (dkL L fun i => .int (lf i)), .lst (nW W)]
def foI (rs : List Rm) (G L : List Nat) (h : PH) (S0 S1 S2 : W) (v : Nat) (ps : LS) (g : PH) : Prop := ∃ (U : List Nat) (a : Nat) (rk : Nat → Nat) (mv : Nat → Option Nat) (lf : Nat → Int) (s7 s8 s9 : Option W),
  ps = [some S0, some S1, some S2, some (.ref h.length), some (.ref (h.length + 1)), some (.ref (h.length + 2)), some (.int (a : Nat)), s7, s8, s9, none] ∧ g = foH h L U rk mv lf ∧ FI rs G L U a rk mv ∧ LfI rs L U a [] lf ∧ a ≤ U.length ∧ v = L.length - a
def foJ (rs : List Rm) (G L : List Nat) (h : PH) (S0 S1 S2 : W) (a w r : Nat) (j : Nat) (ps : LS) (g : PH) : Prop := ∃ (U : List Nat) (rk : Nat → Nat) (mv : Nat → Option Nat) (lf : Nat → Int) (s8 s9 : Option W),
  ps = [some S0, some S1, some S2, some (.ref h.length), some (.ref (h.length + 1)), some (.ref (h.length + 2)), some (.int (a : Nat)), some (.int ((r : Int) + 1)), s8, s9, none] ∧ g = foH h L U rk mv lf ∧ FI rs G L U a rk mv ∧ U[a]? = some w ∧ rk w = r ∧ LfI rs L U a (((onI rs w).map Prod.fst).take j) lf
def foE (rs : List Rm) (G L : List Nat) (h : PH) (ps : LS) (g : PH) : Prop := ∃ (U : List Nat) (rk : Nat → Nat) (mv : Nat → Option Nat) (lf : Nat → Int), (∃ w, ps[3]? = some (some w) ∧ w = .ref h.length) ∧ g = foH h L U rk mv lf ∧ FS rs G L U rk mv
theorem nodup_le : ∀ {U L : List Nat}, U.Nodup → (∀ x ∈ U, x ∈ L) → U.length ≤ L.length
  | [], _, _, _ => Nat.zero_le _
  | a :: r, L, nd, h => by
    have ha := h a List.mem_cons_self
    obtain ⟨n1, n2⟩ := List.nodup_cons.mp nd
    have := nodup_le n2 (L := L.erase a) fun x hx => (List.mem_erase_of_ne (fun z => n1 (by rw [← z]; exact hx))).mpr (h x (List.mem_cons_of_mem _ hx))
    rw [List.length_erase_of_mem ha] at this
    have := List.length_pos_of_mem ha
    rw [List.length_cons]
    omega
section
variable {rs : List Rm} {G L : List Nat} {fo q kg ki : Nat} {h : PH} {Q : W → PH → Prop}
theorem forced_to (hn : rs.length ≤ 600) (hg : GRs rs.length rs) (f : FH rs fo q h) (eg : h[kg]? = some (.lst (nW G))) (ei : h[ki]? = some (.dK (dkL L fun _ => .bl true))) (k1 : ki ≠ fo) (k2 : ki < q ∨ q + rs.length < ki) (ndG : G.Nodup) (ndL : L.Nodup) (sub : ∀ x ∈ G, x ∈ L) (hL : ∀ x ∈ L, x < rs.length)
    (qq : ∀ O rk mv e k, FS rs G L O rk mv → (h ++ e)[k]? = some (.dK (dkL O (pairW rk mv))) → h.length ≤ k → Q (.ref k) (h ++ e)) : (f_Forcing_forced [.ref fo, .ref kg, .ref ki] h).To Q := by
  have hLl : L.length ≤ 600 := by
    have := nodup_le (L := List.range rs.length) ndL fun x hx => List.mem_range.mpr (hL x hx)
    rw [List.length_range] at this
    omega
  have hGl : G.length ≤ 600 := Nat.le_trans (nodup_le ndG sub) hLl
  unfold f_Forcing_forced
  obtain ⟨S0, hS0⟩ : ∃ S0 : W, S0 = .ref fo := ⟨_, rfl⟩
  obtain ⟨S1, hS1⟩ : ∃ S1 : W, S1 = .ref kg := ⟨_, rfl⟩
  obtain ⟨S2, hS2⟩ : ∃ S2 : W, S2 = .ref ki := ⟨_, rfl⟩
  rw [← hS0, ← hS1, ← hS2]
  rw [run_to, show startW 11 [S0, S1, S2] = [some S0, some S1, some S2, none, none, none, none, none, none, none, none] from rfl]
  unfold b_Forcing_forced
  have rms : ∀ g, FH rs fo q g → fldW kc_rooms "rooms" S0 g = some (.tup (rs.map encR), g) := fun g fg => by rw [hS0]; exact fg.rooms
  have ins : ∀ g, FH rs fo q g → fldW kc_into "into" S0 g = some (.ref q, g) := fun g fg => by rw [hS0]; exact fg.fin
  have z1 : pairW (fun _ => 0) (fun _ => none) = fun i => W.tup [.int 0, .non] := rfl
  -- found
  refine seq_go (ps1 := [some S0, some S1, some S2, some (.ref h.length), none, none, none, none, none, none, none]) (h1 := h ++ [.dK (dkL G (pairW (fun _ => 0) fun _ => none))]) (fun K hK => ?_) ?_
  · simp [wipeW]
    rw [hS1, iter_lst eg, oto_some]
    refine lc_mapL (L := G) (enc := fun i => .int (i : Nat)) (u := fun i => .tup [.int (i : Nat), .tup [.int 0, .non]]) (by omega) (by unfold big; omega) eg (fun i hi => ⟨_, rfl, fun Q q => ?_⟩) ?_
    · simp
      exact q
    · have eP : pairsK (G.map fun i => .tup [.int (i : Nat), .tup [.int 0, .non]]) = some (dkL G fun _ => .tup [.int 0, .non]) := pairs_dk
      have eD : mergeW [] (dkL G fun _ => .tup [.int 0, .non]) = dkL G fun _ => .tup [.int 0, .non] := merge_dk ndG
      simp [eP, eD]
      rw [z1, hS1] at hK
      exact hK
  -- left
  refine seq_go (ps1 := [some S0, some S1, some S2, some (.ref h.length), some (.ref (h.length + 1)), none, none, none, none, none, none]) (h1 := h ++ [.dK (dkL G (pairW (fun _ => 0) fun _ => none)), .dK (dkL L fun i => .int ((Tg rs i).length : Nat))]) (fun K hK => ?_) ?_
  · obtain ⟨D0, hD0⟩ : ∃ D0 : OB, D0 = .dK (dkL G (pairW (fun _ => 0) fun _ => none)) := ⟨_, rfl⟩
    rw [← hD0] at hK ⊢
    have ei2 : (h ++ [D0])[ki]? = some (.dK (dkL L fun _ => .bl true)) := get_app ei
    simp
    refine to_lock (n := ki) (by rw [hS2]; rfl) ei2 ?_
    have hk : ki < (h ++ [D0]).length := (List.getElem?_eq_some_iff.mp ei2).1
    have el : ((h ++ [D0]).set ki (.lk (dkL L fun _ => .bl true)))[ki]? = some (.lk (dkL L fun _ => .bl true)) := List.getElem?_set_self hk
    have f2 := (f.app [D0]).set (k := ki) (o := .lk (dkL L fun _ => .bl true)) k1 k2
    obtain ⟨g2, hg2⟩ : ∃ g2, g2 = (h ++ [D0]).set ki (.lk (dkL L fun _ => .bl true)) := ⟨_, rfl⟩
    rw [← hg2] at el f2 ⊢
    simp [wipeW]
    rw [hS2, keys_lk el, oto_some, dk_keys]
    refine lc_map (L := L) (enc := fun i => .int (i : Nat)) (u := fun i => .tup [.int (i : Nat), .int ((Tg rs i).length : Nat)]) (by omega) (fun i hi => ⟨_, rfl, fun Q q => ?_⟩) ?_
    · have eT : ((rs.getD i (0, [])).2.length : Int) = ((Tg rs i).length : Nat) := by unfold Tg; rw [List.length_map]
      simp [rms g2 f2, room_of (hL i hi), encR, at1]
      have eT2 : (rs[i]?.getD (0, [])).2.length = (Tg rs i).length := by unfold Tg; rw [List.length_map]; rfl
      rw [eT2]
      exact q
    · refine ⟨_, el, ?_⟩
      rw [hg2, set_back ei2]
      have eP : pairsK (L.map fun i => .tup [.int (i : Nat), .int ((Tg rs i).length : Nat)]) = some (dkL L fun i => .int ((Tg rs i).length : Nat)) := pairs_dk
      have eD : mergeW [] (dkL L fun i => .int ((Tg rs i).length : Nat)) = dkL L fun i => .int ((Tg rs i).length : Nat) := merge_dk ndL
      simp [eP, eD]
      rw [hS2] at hK
      exact hK
  -- waiting
  refine seq_go (ps1 := [some S0, some S1, some S2, some (.ref h.length), some (.ref (h.length + 1)), some (.ref (h.length + 2)), none, none, none, none, none]) (h1 := foH h L G (fun _ => 0) (fun _ => none) fun i => ((Tg rs i).length : Nat)) (fun K hK => ?_) ?_
  · have e2 : ∀ e, seqOf S1 (h ++ e) = some (nW G) := fun e => by rw [hS1]; exact seqOf_lst (get_app eg)
    simp [e2]
    unfold foH at hK
    simpa using hK
  refine seq_go (fun K hK => by simp; exact hK) ?_
  refine seq_cut (foE rs G L h) ?_ ?_
  · rw [to_while]
    refine while_inv (foI rs G L h S0 S1 S2) ?_ big L.length _ _ (by unfold big; omega) ⟨G, 0, fun _ => 0, fun _ => none, fun i => ((Tg rs i).length : Nat), _, _, _, rfl, rfl, ⟨ndG, sub, fun x hx => hx, fun x hx => ⟨rfl, rfl⟩, fun x hx hG => absurd hx hG, List.Pairwise.imp_of_mem (R := fun _ _ => True) (fun _ _ _ => Nat.le_refl _) (List.pairwise_of_forall fun _ _ => trivial), fun _ _ _ _ _ _ => by omega, fun _ _ _ => Nat.zero_le _⟩, fun x hx hW => ⟨by simp, fun _ => ⟨by simp, by simp⟩, ?_⟩, Nat.zero_le _, by omega⟩
    · rintro v ps g ⟨U, a, rk, mv, lf, s7, s8, s9, rfl, rfl, fi, lfi, ha, rfl⟩
      have eW : ∀ U rk mv lf, (foH h L U rk mv lf)[h.length + 2]? = some (.lst (nW U)) := fun _ _ _ _ => g3_2
      have eF : ∀ U rk mv lf, (foH h L U rk mv lf)[h.length]? = some (.dK (dkL U (pairW rk mv))) := fun _ _ _ _ => g3_0
      have eL : ∀ U rk mv lf, (foH h L U rk mv lf)[h.length + 1]? = some (.dK (dkL L fun i => .int (lf i))) := fun _ _ _ _ => g3_1
      have fA : ∀ U rk mv lf, FH rs fo q (foH h L U rk mv lf) := fun _ _ _ _ => f.app _
      have eI : ∀ U rk mv lf, (foH h L U rk mv lf)[ki]? = some (.dK (dkL L fun _ => .bl true)) := fun _ _ _ _ => get_app ei
      simp [wLen_lst (eW U rk mv lf)]
      refine .of (fun c => ?_) fun c => ?_
      · obtain ⟨w, ew⟩ : ∃ w, U[a]? = some w := ⟨_, List.getElem?_eq_getElem (by omega)⟩
        have hw : w ∈ U := List.mem_of_getElem? ew
        have hwn : w < rs.length := hL w (fi.sub w hw)
        have wi : ∀ U rk mv lf, U[a]? = some w → wIx (.ref (h.length + 2)) (.int (a : Nat)) (foH h L U rk mv lf) = some (.int (w : Nat), foH h L U rk mv lf) := fun U rk mv lf e => by
          rw [wIx_lst (eW U rk mv lf), atI_nat _ _ (by omega), Int.toNat_natCast]
          unfold nW
          rw [List.getElem?_map, e]
          rfl
        refine seq_go (ps1 := [some S0, some S1, some S2, some (.ref h.length), some (.ref (h.length + 1)), some (.ref (h.length + 2)), some (.int (a : Nat)), some (.int ((rk w : Nat) + 1 : Int)), s8, s9, none]) (h1 := foH h L U rk mv lf) (fun K hK => ?_) ?_
        · simp [wi U rk mv lf ew, ix_dk (eF U rk mv lf) hw, pairW, at0]
          exact hK
        refine seq_cut (foJ rs G L h S0 S1 S2 a w (rk w) (onI rs w).length) ?_ ?_
        · rw [to_for]
          simp [ins _ (fA U rk mv lf), wi U rk mv lf ew, (fA U rk mv lf).row hwn]
          have rowE : ∀ U rk mv lf, (foH h L U rk mv lf)[q + 1 + w]? = some (.lst ((onI rs w).map fun p => W.tup [.int (p.1 : Nat), .int (p.2 : Nat)])) := fun U rk mv lf => by
            rw [(fA U rk mv lf).pre w hwn, pre_onI]
          rw [iter_lst (rowE U rk mv lf), oto_some]
          have hol : (onI rs w).length ≤ 24 * rs.length := by
            unfold onI
            rw [List.length_map]
            exact pre_len hg (w : Int) rs.length (Nat.le_refl _)
          refine for_live (items := (onI rs w).map fun p => W.tup [.int (p.1 : Nat), .int (p.2 : Nat)]) (by rw [List.length_map]; unfold big; omega) (foJ rs G L h S0 S1 S2 a w (rk w)) (fun j ps g z => by obtain ⟨_, _, _, _, _, _, _, rfl, _⟩ := z; exact rowE _ _ _ _) ⟨U, rk, mv, lf, _, _, rfl, rfl, fi, ew, rfl, by simpa using lfi⟩ ?_ fun ps g z => by rw [List.length_map] at z; exact z
          rintro j wj ps g ej ⟨U, rk', mv, lf, s8, s9, rfl, rfl, fi, ew, er, lfi⟩
          rw [List.getElem?_map] at ej
          obtain ⟨⟨x, k⟩, ej2, rfl⟩ := Option.map_eq_some_iff.mp ej
          have eD : ((onI rs w).map Prod.fst).take (j + 1) = ((onI rs w).map Prod.fst).take j ++ [x] := by
            rw [List.take_succ, List.getElem?_map, ej2]
            rfl
          obtain ⟨hxn, hxk⟩ := onI_mem (List.mem_of_getElem? ej2)
          have hxn : x < rs.length := hxn
          have hxk : (Tg rs x)[k]? = some w := hxk
          have haU : a ≤ U.length := by have := (List.getElem?_eq_some_iff.mp ew).1; omega
          have hUl : U.length ≤ 600 := Nat.le_trans (nodup_le fi.nd fi.sub) hLl
          refine ⟨_, rfl, ?_⟩
          have inS2 : wIn (.int (x : Nat)) S2 (foH h L U rk' mv lf) = some (.bl (decide (x ∈ L)), foH h L U rk' mv lf) := by rw [hS2]; exact in_dk (eI U rk' mv lf)
          rw [to_sif]
          simp [inS2]
          refine .of (fun hx => ?_) fun hx => ?_
          · simp [notIn_dk (eF U rk' mv lf)]
            refine .of (fun hxU => ?_) fun hxU => ?_
            · exact ⟨U, rk', mv, lf, _, _, rfl, rfl, fi, ew, er, by rw [eD]; exact lf_skip lfi (.inr hxU)⟩
            · obtain ⟨g, eg'⟩ : ∃ g, g = foH h L U rk' mv lf := ⟨_, rfl⟩
              refine seq_go (ps1 := [some S0, some S1, some S2, some (.ref h.length), some (.ref (h.length + 1)), some (.ref (h.length + 2)), some (.int (a : Nat)), some (.int ((rk w : Nat) + 1 : Int)), some (.int (x : Nat)), some (.int (k : Nat)), none]) (h1 := foH h L U rk' mv (updF lf x (lf x - 1))) (fun K hK => ?_) ?_
              · have e1 : setW (.ref (h.length + 1)) (.int (x : Nat)) (.int (lf x - 1)) (foH h L U rk' mv lf) = some (foH h L U rk' mv (updF lf x (lf x - 1))) := by
                  rw [setW_dK (eL U rk' mv lf) (k := .inl (x : Int)) rfl (by unfold dkL; rw [List.length_map]; omega), put_dk_old hx]
                  unfold foH
                  rw [s3_1]
                  congr 5
                  refine dk_congr fun i _ => ?_
                  by_cases e : i = x
                  · subst e; rw [updF_same, updF_same]
                  · rw [updF_ne e, updF_ne e]
                simp [ix_dk (eL U rk' mv lf) hx, e1]
                exact hK
              rw [to_sif]
              have rmO : ∀ g, FH rs fo q g → fldW kc_rooms "rooms" S0 g = some (.tup (rs.map encR), g) := rms
              simp [rms _ (fA U rk' mv (updF lf x (lf x - 1))), room_of hxn, encR, at0]
              have eO : (rs[x]?.getD (0, [])).1 = Ow rs x := rfl
              rw [eO]
              -- the room is found
              have took : ∀ m : Option Nat, (Ow rs x = 0 → ∃ k, m = some k ∧ (Tg rs x)[k]? = some w) → (Ow rs x ≠ 0 → m = none ∧ Tg rs x ≠ [] ∧ ∀ t ∈ Tg rs x, t ∈ U.take (a + 1)) →
                  foJ rs G L h S0 S1 S2 a w (rk w) (j + 1) [some S0, some S1, some S2, some (.ref h.length), some (.ref (h.length + 1)), some (.ref (h.length + 2)), some (.int (a : Nat)), some (.int ((rk w : Nat) + 1 : Int)), some (.int (x : Nat)), some (.int (k : Nat)), none] (foH h L (U ++ [x]) (updF rk' x (rk w + 1)) (updF mv x m) (updF lf x (lf x - 1))) := fun m m0 m1 => by
                refine ⟨U ++ [x], _, _, _, _, _, rfl, rfl, ?_, ?_, ?_, ?_⟩
                · have := fi.add ew hxU hx m m0 m1
                  rw [er] at this
                  exact this
                · rw [List.getElem?_append_left (List.getElem?_eq_some_iff.mp ew).1]
                  exact ew
                · rw [updF_ne (fun z => hxU (by rw [← z]; exact List.mem_of_getElem? ew))]
                  exact er
                · rw [eD]
                  exact lf_took lfi haU
              have put : ∀ m : Option Nat, setW (.ref h.length) (.int (x : Nat)) (.tup [.int ((rk w : Nat) + 1 : Int), oW m]) (foH h L U rk' mv (updF lf x (lf x - 1))) = some (h ++ [.dK (dkL (U ++ [x]) (pairW (updF rk' x (rk w + 1)) (updF mv x m))), .dK (dkL L fun i => .int ((updF lf x (lf x - 1)) i)), .lst (nW U)]) := fun m => by
                rw [setW_dK (eF U rk' mv _) (k := .inl (x : Int)) rfl (by unfold dkL; rw [List.length_map]; omega), put_dk_new hxU]
                have e4 : dkL (U ++ [x]) (updF (pairW rk' mv) x (.tup [.int ((rk w : Nat) + 1 : Int), oW m])) = dkL (U ++ [x]) (pairW (updF rk' x (rk w + 1)) (updF mv x m)) := dk_congr fun i _ => by
                  by_cases e : i = x
                  · subst e; simp [updF_same, pairW]
                  · simp [updF_ne e, pairW]
                rw [e4]
                unfold foH
                rw [s3_0]
              have app : ∀ m : Option Nat, wAppend (.ref (h.length + 2)) [.int (x : Nat)] (h ++ [.dK (dkL (U ++ [x]) (pairW (updF rk' x (rk w + 1)) (updF mv x m))), .dK (dkL L fun i => .int ((updF lf x (lf x - 1)) i)), .lst (nW U)]) = some (.non, foH h L (U ++ [x]) (updF rk' x (rk w + 1)) (updF mv x m) (updF lf x (lf x - 1))) := fun m => by
                rw [wAppend_lst g3_2, if_pos (by rw [nW_len]; omega), s3_2]
                unfold foH
                rw [← nW_app]
                rfl
              have f4 := fA U rk' mv (updF lf x (lf x - 1))
              have lx := ix_dk (t := x) (eL U rk' mv (updF lf x (lf x - 1))) hx
              rw [updF_same] at lx
              have take : ∀ m : Option Nat, (Ow rs x = 0 → ∃ k, m = some k ∧ (Tg rs x)[k]? = some w) → (Ow rs x ≠ 0 → m = none ∧ Tg rs x ≠ [] ∧ ∀ t ∈ Tg rs x, t ∈ U.take (a + 1)) → (Ow rs x = 0 → oW m = .int (k : Nat)) → (Ow rs x ≠ 0 → oW m = .non) →
                  ((sSeq (sSetIx (mTup (mCons (mVar 7) (mCons (mIf (mB (mOp wEq (mOp wIx (mOp wIx (mUn (fldW kc_rooms "rooms") (mVar 0)) (mVar 8)) (mC (.int 0))) (mC (.int 0)))) (mVar 9) (mC .non)) mNil))) (mVar 3) (mVar 8))
                    (sDrop (mMt "list" wAppend (mVar 5) (mCons (mVar 8) mNil)))) [some S0, some S1, some S2, some (.ref h.length), some (.ref (h.length + 1)), some (.ref (h.length + 2)), some (.int (a : Nat)), some (.int ((rk w : Nat) + 1 : Int)), some (.int (x : Nat)), some (.int (k : Nat)), none] (foH h L U rk' mv (updF lf x (lf x - 1)))).To (foJ rs G L h S0 S1 S2 a w (rk w) (j + 1)) Q (foJ rs G L h S0 S1 S2 a w (rk w) (onI rs w).length) (foJ rs G L h S0 S1 S2 a w (rk w) (j + 1)) := fun m m0 m1 o0 o1 => by
                refine seq_go (ps1 := [some S0, some S1, some S2, some (.ref h.length), some (.ref (h.length + 1)), some (.ref (h.length + 2)), some (.int (a : Nat)), some (.int ((rk w : Nat) + 1 : Int)), some (.int (x : Nat)), some (.int (k : Nat)), none]) (h1 := h ++ [.dK (dkL (U ++ [x]) (pairW (updF rk' x (rk w + 1)) (updF mv x m))), .dK (dkL L fun i => .int ((updF lf x (lf x - 1)) i)), .lst (nW U)]) (fun K hK => ?_) ?_
                · simp [rms _ f4, room_of hxn, encR, at0]
                  rw [eO]
                  refine .of (fun c => ?_) fun c => ?_
                  · rw [← o0 c, put m, oto_some]
                    rw [← o0 c] at hK
                    exact hK
                  · rw [← o1 c, put m, oto_some]
                    exact hK
                · have ty := tyW_lst (h := h ++ [.dK (dkL (U ++ [x]) (pairW (updF rk' x (rk w + 1)) (updF mv x m))), .dK (dkL L fun i => .int ((updF lf x (lf x - 1)) i)), .lst (nW U)]) (n := h.length + 2) (xs := nW U) g3_2
                  rw [to_drop, to_mt, to_var]
                  refine ⟨_, rfl, ty, ?_⟩
                  rw [to_cons, to_var]
                  refine ⟨_, rfl, ?_⟩
                  rw [to_nil, app m, pto_some]
                  exact took m m0 m1
              refine .of (fun c => ?_) fun c => ?_
              · have := take (some k) (fun _ => ⟨k, rfl, hxk⟩) (fun z => absurd c z) (fun _ => rfl) (fun z => absurd c z)
                exact this
              · simp [lx]
                refine .of (fun c2 => ?_) fun c2 => ?_
                · obtain ⟨n1, n2⟩ := lf_zero hg fi.nd ew hL rfl lfi hx hxU ej2 c2
                  have := take none (fun z => absurd z c) (fun _ => ⟨rfl, n1, n2⟩) (fun z => absurd z c) (fun _ => rfl)
                  exact this
                · refine ⟨U, rk', mv, _, _, _, rfl, rfl, fi, ew, er, ?_⟩
                  rw [eD]
                  exact lf_less lfi hx c c2
          · exact ⟨U, rk', mv, lf, _, _, rfl, rfl, fi, ew, er, by rw [eD]; exact lf_skip lfi (.inl hx)⟩
        · rintro ps g ⟨U, rk', mv, lf, s8, s9, rfl, rfl, fi, ew, er, lfi⟩
          simp
          have hl : ((onI rs w).map Prod.fst).take (onI rs w).length = (onI rs w).map Prod.fst := List.take_of_length_le (by simp)
          rw [hl] at lfi
          have hUl : U.length ≤ L.length := nodup_le fi.nd fi.sub
          have haU := (List.getElem?_eq_some_iff.mp ew).1
          refine ⟨L.length - (a + 1), by omega, U, a + 1, rk', mv, lf, some (.int ((rk w : Nat) + 1 : Int)), s8, s9, by simp, rfl, fi.next, lf_next hg fi.nd ew hL lfi, by omega, rfl⟩
      · have : a = U.length := by omega
        subst this
        exact ⟨U, rk, mv, lf, ⟨_, rfl, rfl⟩, rfl, fi.done lfi⟩
    · by_cases c : Tg rs x = []
      · exact .inr c
      · refine .inl fun z => c (List.length_eq_zero_iff.mp ?_)
        simp at z
        simpa using z
  · rintro ps g ⟨U, rk, mv, lf, ⟨_, e1, rfl⟩, rfl, fs⟩
    rw [to_ret, to_var]
    exact ⟨_, e1, qq U rk mv _ _ fs g3_0 (Nat.le_refl _)⟩
end
end Mir

/-! again: stays, first_within, way_out, put_out, walked -/
namespace Mir
open PySem PySem.Spec PyProof.Rows L2
/-- whether I can choose that a play goes on into L -/
def stB (rs : List Rm) (L : List Nat) (x : Nat) : Bool := if Ow rs x = 0 then (Tg rs x).any fun t => decide (t ∈ L) else decide (Tg rs x ≠ []) && (Tg rs x).all fun t => decide (t ∈ L)
def fwI (A B C : W) (h : PH) (ms : List Mv) (L : List Nat) (i : Nat) (ps : LS) (g : PH) : Prop := (∃ s3 s4, ps = [some A, some B, some C, s3, s4]) ∧ h = g ∧ ∀ m ∈ ms.take i, m.1.toNat ∉ L
section
variable {rs : List Rm} {L O : List Nat} {fo q ki kf : Nat} {h : PH} {Q : W → PH → Prop} {x : Nat}
theorem mv_row (hx : x < rs.length) : ∃ ms : List Mv, rs.getD x (0, []) = (Ow rs x, ms) ∧ Tg rs x = ms.map fun m => m.1.toNat := ⟨(rs.getD x (0, [])).2, rfl, rfl⟩
theorem stays_to (hg : GRs rs.length rs) (f : FH rs fo q h) (ei : h[ki]? = some (.dK (dkL L fun _ => .bl true))) (hx : x < rs.length) (qq : ∀ e, Q (.bl (stB rs L x)) (h ++ e)) : (f_Forcing_stays [.ref fo, .int (x : Nat), .ref ki] h).To Q := by
  unfold f_Forcing_stays
  obtain ⟨ms, hms, hT⟩ := mv_row hx
  have hok : ∀ m ∈ ms, GM' rs.length m := fun m hm => (mvs_ok hg hx (by rw [hms]; exact hm)).1
  have hl24 : ms.length ≤ 24 := by have := tg_len2 hg x; rw [hT, List.length_map] at this; exact this
  obtain ⟨ow, how⟩ : ∃ ow, ow = Ow rs x := ⟨_, rfl⟩
  rw [run_to, show startW 7 [W.ref fo, W.int (x : Nat), W.ref ki] = [some (.ref fo), some (.int (x : Nat)), some (.ref ki), none, none, none, none] from rfl]
  unfold b_Forcing_stays
  have eR : rs[x]?.getD (0, []) = (ow, ms) := by rw [how]; exact hms
  refine seq_go (ps1 := [some (.ref fo), some (.int (x : Nat)), some (.ref ki), some (.int ow), some (encMs ms), none, none]) (h1 := h) (fun K hK => ?_) ?_
  · simp [f.rooms, room_of hx, encR, eR, gT]
    exact hK
  obtain ⟨F, hF⟩ : ∃ F : List Mv, F = ms.filter fun m => decide (m.1.toNat ∈ L) := ⟨_, rfl⟩
  refine seq_go (ps1 := [some (.ref fo), some (.int (x : Nat)), some (.ref ki), some (.int ow), some (encMs ms), some (.ref h.length), none]) (h1 := h ++ [.lst (F.map encM)]) (fun K hK => ?_) ?_
  · simp [wipeW]
    refine lc_filt (L := ms) (enc := encM) (u := encM) (fun m => decide (m.1.toNat ∈ L)) (by omega) (fun m hm => ⟨_, rfl, fun Q hQ => ?_, fun _ Q hQ => ?_⟩) ?_
    · have e1 : m.1 = ((m.1.toNat : Nat) : Int) := by have := (hok m hm).1; omega
      simp
      rw [e1, in_dk ei]
      simp
      simpa using hQ
    · simp
      exact hQ
    · rw [← hF]
      exact hK
  have hg' : (h ++ [OB.lst (F.map encM)])[h.length]? = some (.lst (F.map encM)) := by simp
  have hFl : plWs 2 (F.map encM) = true := pls_map _ _ fun m _ => by simp [encM]
  have eN : wNe (.ref h.length) (.fix []) (h ++ [OB.lst (F.map encM)]) = some (.bl (!decide (F = [])), h ++ [OB.lst (F.map encM)]) := by
    unfold wNe
    rw [eqB_lst (k := 2) (m := 1) hg' hFl (by simp) (by decide) (by decide)]
    show some (W.bl _, _) = _
    congr 4
    refine decide_eq_decide.mpr ⟨fun z => ?_, fun z => by rw [z]; rfl⟩
    have := W.fix.inj z
    cases F with
    | nil => rfl
    | cons a r => cases this
  have eM : wNe (encMs ms) (.tup []) (h ++ [OB.lst (F.map encM)]) = some (.bl (!decide (ms = [])), h ++ [OB.lst (F.map encM)]) := by
    rw [wNe_pl (n := 3) (m := 1) (by unfold encMs; rw [pl_tup]; exact pls_map _ _ fun m _ => by simp [encM]) (by simp) (by decide) (by decide)]
    congr 4
    cases ms <;> simp [encMs]
  have fin : ∀ b, b = stB rs L x → Q (.bl b) (h ++ [OB.lst (F.map encM)]) := fun b hb => by rw [hb]; exact qq _
  have mem : ∀ t, t ∈ Tg rs x ↔ ∃ m ∈ ms, m.1.toNat = t := fun t => by rw [hT, List.mem_map]
  simp
  refine .of (fun ho => ?_) fun ho => ?_
  · simp [eN]
    refine fin _ ?_
    unfold stB
    rw [if_pos (how.symm.trans ho), hF, hT, List.any_map]
    cases e : ms.any ((fun t => decide (t ∈ L)) ∘ fun m : Mv => m.1.toNat) with
    | false =>
      have : (ms.filter fun m => decide (m.1.toNat ∈ L)) = [] := List.filter_eq_nil_iff.mpr fun m hm => by
        have := List.any_eq_false.mp e m hm
        simpa using this
      simp [this]
    | true =>
      obtain ⟨m, hm, h2⟩ := List.any_eq_true.mp e
      have : (ms.filter fun m => decide (m.1.toNat ∈ L)) ≠ [] := List.ne_nil_of_mem (List.mem_filter.mpr ⟨hm, h2⟩)
      simp [this]
  · simp [eM]
    by_cases hm0 : ms = []
    · subst hm0
      simp
      refine fin _ ?_
      unfold stB
      rw [if_neg (fun z => ho (how.trans z)), hT]
      simp
    · simp [hm0, wLen_lst hg']
      refine fin _ ?_
      unfold stB
      rw [if_neg (fun z => ho (how.trans z)), hT, List.all_map]
      have : (decide (ms.map (fun m : Mv => m.1.toNat) ≠ []) : Bool) = true := decide_eq_true (by simpa using hm0)
      rw [this, Bool.true_and]
      cases e : ms.all ((fun t => decide (t ∈ L)) ∘ fun m : Mv => m.1.toNat) with
      | true =>
        have : F = ms := by rw [hF]; exact List.filter_eq_self.mpr fun m hm => List.all_eq_true.mp e m hm
        simp [this]
      | false =>
        refine decide_eq_false fun z => ?_
        have z2 : F.length = ms.length := by omega
        rw [hF, List.length_filter_eq_length_iff] at z2
        rw [List.all_eq_false] at e
        obtain ⟨m, hm, h2⟩ := e
        exact h2 (z2 m hm)
theorem first_to (hg : GRs rs.length rs) (f : FH rs fo q h) (ei : h[ki]? = some (.dK (dkL L fun _ => .bl true))) (hx : x < rs.length) (qq : Q (oW ((Tg rs x).findIdx? fun t => decide (t ∈ L))) h) : (f_Forcing_first_within [.ref fo, .int (x : Nat), .ref ki] h).To Q := by
  unfold f_Forcing_first_within
  obtain ⟨ms, hms, hT⟩ := mv_row hx
  have hok : ∀ m ∈ ms, GM' rs.length m := fun m hm => (mvs_ok hg hx (by rw [hms]; exact hm)).1
  rw [run_to, show startW 5 [W.ref fo, W.int (x : Nat), W.ref ki] = [some (.ref fo), some (.int (x : Nat)), some (.ref ki), none, none] from rfl]
  unfold b_Forcing_first_within
  have eR : (rs[x]?.getD (0, [])).2 = ms := by
    have : rs[x]?.getD (0, []) = (Ow rs x, ms) := hms
    rw [this]
  rw [to_seq, to_for]
  simp [f.rooms, room_of hx, encR, at1, eR]
  refine for_enum (items := ms.map encM) (fwI (.ref fo) (.int (x : Nat)) (.ref ki) h ms L) ⟨⟨_, _, rfl⟩, rfl, by simp⟩ ?_ ?_
  · rintro i w ps g ew ⟨⟨s3, s4, rfl⟩, rfl, hno⟩
    rw [List.getElem?_map] at ew
    obtain ⟨m, em, rfl⟩ := Option.map_eq_some_iff.mp ew
    refine ⟨_, rfl, ?_⟩
    have e1 : m.1 = ((m.1.toNat : Nat) : Int) := by have := (hok m (List.mem_of_getElem? em)).1; omega
    rw [to_sif]
    simp
    rw [e1, in_dk ei]
    simp
    refine .of (fun hin => ?_) fun hin => ?_
    · have : (Tg rs x).findIdx? (fun t => decide (t ∈ L)) = some i := by
        have hil := (List.getElem?_eq_some_iff.mp em).1
        rw [List.findIdx?_eq_some_iff_getElem]
        refine ⟨by rw [hT, List.length_map]; exact hil, ?_, fun j hj => ?_⟩
        · simp only [hT, List.getElem_map]
          have : ms[i] = m := (List.getElem?_eq_some_iff.mp em).2
          rw [this]
          exact decide_eq_true hin
        · simp only [hT, List.getElem_map]
          have hj2 : ms[j] ∈ ms.take i := List.mem_iff_getElem.mpr ⟨j, by rw [List.length_take]; omega, by simp⟩
          simpa using hno _ hj2
      rw [this] at qq
      exact qq
    · refine ⟨⟨_, _, rfl⟩, rfl, fun m' hm' => ?_⟩
      rw [List.take_succ, em] at hm'
      rcases List.mem_append.mp hm' with z | z
      · exact hno m' z
      · have : m' = m := by simpa using z
        rw [this]
        exact hin
  · rintro ps g ⟨⟨s3, s4, rfl⟩, rfl, hno⟩
    rw [List.length_map, List.take_length] at hno
    have : (Tg rs x).findIdx? (fun t => decide (t ∈ L)) = none := by
      rw [List.findIdx?_eq_none_iff]
      intro t ht
      rw [hT] at ht
      obtain ⟨m, hm, rfl⟩ := List.mem_map.mp ht
      simpa using hno m hm
    rw [this] at qq
    try simp
    exact qq
end
/-- a Split lies at 0 -/
structure SHp (rs : List Rm) (Sn : List Nat) (h : PH) (mi ot : List (Key × W)) : Prop where
  sp : h[0]? = some (.ins "Split" [("forcing", .ref 1), ("noted", .ref (rs.length + 3)), ("mine", .ref (rs.length + 4)), ("others", .ref (rs.length + 5))])
  fh : FH rs 1 2 h
  nt : h[rs.length + 3]? = some (.dK (dkL Sn fun _ => .bl true))
  mi : h[rs.length + 4]? = some (.dK mi)
  ot : h[rs.length + 5]? = some (.dK ot)
theorem kcS : (PySem.Str.ofString "Split") ∈ kc_forcing ∧ (PySem.Str.ofString "Split") ∈ kc_noted ∧ (PySem.Str.ofString "Split") ∈ kc_mine ∧ (PySem.Str.ofString "Split") ∈ kc_others := by decide
section
variable {rs : List Rm} {Sn L O : List Nat} {h : PH} {mi ot : List (Key × W)} {Q : W → PH → Prop} {x ki kf : Nat}
theorem SHp.app (s : SHp rs Sn h mi ot) (e : PH) : SHp rs Sn (h ++ e) mi ot := ⟨get_app s.sp, s.fh.app e, get_app s.nt, get_app s.mi, get_app s.ot⟩
theorem SHp.far (s : SHp rs Sn h mi ot) {k : Nat} {o : OB} (hk : rs.length + 6 ≤ k) : SHp rs Sn (h.set k o) mi ot :=
  ⟨by rw [List.getElem?_set_ne (by omega)]; exact s.sp, s.fh.set (by omega) (by omega), by rw [List.getElem?_set_ne (by omega)]; exact s.nt, by rw [List.getElem?_set_ne (by omega)]; exact s.mi, by rw [List.getElem?_set_ne (by omega)]; exact s.ot⟩
theorem SHp.setO (s : SHp rs Sn h mi ot) {ot' : List (Key × W)} : SHp rs Sn (h.set (rs.length + 5) (.dK ot')) mi ot' :=
  ⟨by rw [List.getElem?_set_ne (by omega)]; exact s.sp, s.fh.set (by omega) (by omega), by rw [List.getElem?_set_ne (by omega)]; exact s.nt, by rw [List.getElem?_set_ne (by omega)]; exact s.mi, List.getElem?_set_self (List.getElem?_eq_some_iff.mp s.ot).1⟩
theorem SHp.setM (s : SHp rs Sn h mi ot) {mi' : List (Key × W)} : SHp rs Sn (h.set (rs.length + 4) (.dK mi')) mi' ot :=
  ⟨by rw [List.getElem?_set_ne (by omega)]; exact s.sp, s.fh.set (by omega) (by omega), by rw [List.getElem?_set_ne (by omega)]; exact s.nt, List.getElem?_set_self (List.getElem?_eq_some_iff.mp s.mi).1, by rw [List.getElem?_set_ne (by omega)]; exact s.ot⟩
theorem SHp.forcing (s : SHp rs Sn h mi ot) : fldW kc_forcing "forcing" (.ref 0) h = some (.ref 1, h) := by rw [fldW_ins s.sp kcS.1]; rfl
theorem SHp.noted (s : SHp rs Sn h mi ot) : fldW kc_noted "noted" (.ref 0) h = some (.ref (rs.length + 3), h) := by rw [fldW_ins s.sp kcS.2.1]; rfl
theorem SHp.mine (s : SHp rs Sn h mi ot) : fldW kc_mine "mine" (.ref 0) h = some (.ref (rs.length + 4), h) := by rw [fldW_ins s.sp kcS.2.2.1]; rfl
theorem SHp.others (s : SHp rs Sn h mi ot) : fldW kc_others "others" (.ref 0) h = some (.ref (rs.length + 5), h) := by rw [fldW_ins s.sp kcS.2.2.2]; rfl
def wyI (A B C D E : W) (h : PH) (ms : List Mv) (p : Nat → Bool) (i : Nat) (ps : LS) (g : PH) : Prop := (∃ s6 s7, ps = [some A, some B, some C, some D, some E, some (encMs ms), s6, s7]) ∧ h = g ∧ ∀ m ∈ ms.take i, p m.1.toNat = false
/-- the move by which the other one leaves -/
def wayM (rs : List Rm) (Sn L O : List Nat) (x : Nat) : Option Nat := if Ow rs x = 0 then none else (Tg rs x).findIdx? fun t => if x ∈ Sn then !decide (t ∈ L) else !decide (t ∈ O)
theorem way_to (hg : GRs rs.length rs) (s : SHp rs Sn h mi ot) (ei : h[ki]? = some (.lk (dkL L fun _ => .bl true))) {uf : Nat → W} (ef : h[kf]? = some (.dK (dkL O uf))) (hx : x < rs.length) (qq : Q (oW (wayM rs Sn L O x)) h) : (f_Split_way_out [.ref 0, .int (x : Nat), .ref ki, .ref kf] h).To Q := by
  unfold f_Split_way_out
  obtain ⟨ms, hms, hT⟩ := mv_row hx
  have hok : ∀ m ∈ ms, GM' rs.length m := fun m hm => (mvs_ok hg hx (by rw [hms]; exact hm)).1
  obtain ⟨ow, how⟩ : ∃ ow, ow = Ow rs x := ⟨_, rfl⟩
  rw [run_to, show startW 8 [W.ref 0, W.int (x : Nat), W.ref ki, W.ref kf] = [some (.ref 0), some (.int (x : Nat)), some (.ref ki), some (.ref kf), none, none, none, none] from rfl]
  unfold b_Split_way_out
  have eR : rs[x]?.getD (0, []) = (ow, ms) := by rw [how]; exact hms
  refine seq_go (ps1 := [some (.ref 0), some (.int (x : Nat)), some (.ref ki), some (.ref kf), some (.int ow), some (encMs ms), none, none]) (h1 := h) (fun K hK => ?_) ?_
  · simp [s.forcing, s.fh.rooms, room_of hx, encR, eR, gT]
    exact hK
  rw [to_seq, to_sif]
  simp
  unfold wayM at qq
  refine .of (fun ho => ?_) fun ho => ?_
  · rw [if_pos (how.symm.trans ho)] at qq
    exact qq
  rw [if_neg (fun z => ho (how.trans z))] at qq
  rw [to_seq, to_for]
  simp
  obtain ⟨p, hp⟩ : ∃ p : Nat → Bool, p = fun t => if x ∈ Sn then !decide (t ∈ L) else !decide (t ∈ O) := ⟨_, rfl⟩
  rw [← hp] at qq
  refine for_enum (items := ms.map encM) (wyI (.ref 0) (.int (x : Nat)) (.ref ki) (.ref kf) (.int ow) h ms p) ⟨⟨_, _, rfl⟩, rfl, by simp⟩ ?_ ?_
  · rintro i w ps g ew ⟨⟨s6, s7, rfl⟩, rfl, hno⟩
    rw [List.getElem?_map] at ew
    obtain ⟨m, em, rfl⟩ := Option.map_eq_some_iff.mp ew
    refine ⟨_, rfl, ?_⟩
    have e1 : m.1 = ((m.1.toNat : Nat) : Int) := by have := (hok m (List.mem_of_getElem? em)).1; omega
    have body : ∀ b : Bool, b = p m.1.toNat → Ite b (Q (.int (i : Nat)) h) (wyI (.ref 0) (.int (x : Nat)) (.ref ki) (.ref kf) (.int ow) h ms p (i + 1) [some (.ref 0), some (.int (x : Nat)), some (.ref ki), some (.ref kf), some (.int ow), some (encMs ms), some (.int (i : Nat)), some (encM m)] h) := fun b hb => by
      refine .ofB (fun hin => ?_) fun hin => ?_
      · have : (Tg rs x).findIdx? p = some i := by
          have hil := (List.getElem?_eq_some_iff.mp em).1
          rw [List.findIdx?_eq_some_iff_getElem]
          refine ⟨by rw [hT, List.length_map]; exact hil, ?_, fun j hj => ?_⟩
          · simp only [hT, List.getElem_map]
            have : ms[i] = m := (List.getElem?_eq_some_iff.mp em).2
            rw [this, ← hb]
            exact hin
          · simp only [hT, List.getElem_map]
            have hj2 : ms[j] ∈ ms.take i := List.mem_iff_getElem.mpr ⟨j, by rw [List.length_take]; omega, by simp⟩
            simpa using hno _ hj2
        rw [this] at qq
        exact qq
      · refine ⟨⟨_, _, rfl⟩, rfl, fun m' hm' => ?_⟩
        rw [List.take_succ, em] at hm'
        rcases List.mem_append.mp hm' with z | z
        · exact hno m' z
        · have : m' = m := by simpa using z
          rw [this, ← hb]
          exact hin
    rw [to_sif]
    simp [s.noted, in_dk s.nt]
    refine .of (fun hin => ?_) fun hin => ?_
    · rw [e1, notIn_lkd ei]
      simp only [pto_some, bto_bl]
      exact body _ (by rw [hp]; show (!decide (m.1.toNat ∈ L)) = if x ∈ Sn then _ else _; rw [if_pos hin])
    · rw [e1, notIn_dk ef]
      simp only [pto_some, bto_bl]
      exact body _ (by rw [hp]; show (!decide (m.1.toNat ∈ O)) = if x ∈ Sn then _ else _; rw [if_neg hin])
  · rintro ps g ⟨⟨s6, s7, rfl⟩, rfl, hno⟩
    rw [List.length_map, List.take_length] at hno
    have : (Tg rs x).findIdx? p = none := by
      rw [List.findIdx?_eq_none_iff]
      intro t ht
      rw [hT] at ht
      obtain ⟨m, hm, rfl⟩ := List.mem_map.mp ht
      simpa using hno m hm
    rw [this] at qq
    try simp
    exact qq
end
end Mir

/-! again: rooms and layers by rounds, plain; put_out walked -/
namespace Mir
open PySem PySem.Spec PyProof.Rows L2
def upL {α : Type} (L O : List Nat) (f g : Nat → α) : Nat → α := fun i => if i ∈ L ∧ i ∉ O then g i else f i
theorem upL_in {α : Type} {L O : List Nat} {f g : Nat → α} {i : Nat} (h : i ∈ L) (h2 : i ∉ O) : upL L O f g i = g i := by unfold upL; rw [if_pos ⟨h, h2⟩]
theorem upL_out {α : Type} {L O : List Nat} {f g : Nat → α} {i : Nat} (h : i ∉ L) : upL L O f g i = f i := by unfold upL; rw [if_neg fun z => h z.1]
/-- what is known between two rounds -/
structure AgI (rs : List Rm) (Sn L Lo : List Nat) (ly : Nat → Nat) (mo : Nat → Option Nat) (layer : Nat) : Prop where
  ndL : L.Nodup
  ndO : Lo.Nodup
  lt : ∀ x ∈ L, x < rs.length
  sep : ∀ x ∈ Lo, x < rs.length ∧ x ∉ L ∧ ly x < layer
  cov : ∀ x, x < rs.length → x ∈ L ∨ x ∈ Lo
  o0 : ∀ x ∈ Lo, Ow rs x = 0 → mo x = none ∧ ∀ t ∈ Tg rs x, t ∈ Lo ∧ ly t ≤ ly x ∧ (x ∈ Sn → ly t < ly x)
  o1 : ∀ x ∈ Lo, Ow rs x ≠ 0 → (Tg rs x = [] ∧ mo x = none) ∨ ∃ k t, mo x = some k ∧ (Tg rs x)[k]? = some t ∧ t ∈ Lo ∧ ly t ≤ ly x ∧ (x ∈ Sn → ly t < ly x)
  cnt : layer ≤ Lo.length
section
variable {rs : List Rm} {Sn L O Lo : List Nat} {ly rk : Nat → Nat} {mo mv : Nat → Option Nat} {layer : Nat}
theorem stB_false0 {x : Nat} (ho : Ow rs x = 0) (h : stB rs L x = false) : ∀ t ∈ Tg rs x, t ∉ L := fun t ht z => by
  unfold stB at h
  rw [if_pos ho] at h
  have := List.any_eq_false.mp h t ht
  simp [z] at this
theorem stB_false1 {x : Nat} (ho : Ow rs x ≠ 0) (h : stB rs L x = false) : Tg rs x = [] ∨ ∃ t ∈ Tg rs x, t ∉ L := by
  unfold stB at h
  rw [if_neg ho] at h
  by_cases c : Tg rs x = []
  · exact .inl c
  · rw [decide_eq_true c, Bool.true_and, List.all_eq_false] at h
    obtain ⟨t, ht, h2⟩ := h
    exact .inr ⟨t, ht, by simpa using h2⟩
theorem stB_true0 {x : Nat} (ho : Ow rs x = 0) (h : stB rs L x = true) : ∃ t ∈ Tg rs x, t ∈ L := by
  unfold stB at h
  rw [if_pos ho] at h
  obtain ⟨t, ht, h2⟩ := List.any_eq_true.mp h
  exact ⟨t, ht, of_decide_eq_true h2⟩
theorem stB_true1 {x : Nat} (ho : Ow rs x ≠ 0) (h : stB rs L x = true) : Tg rs x ≠ [] ∧ ∀ t ∈ Tg rs x, t ∈ L := by
  unfold stB at h
  rw [if_neg ho, Bool.and_eq_true] at h
  exact ⟨of_decide_eq_true h.1, fun t ht => of_decide_eq_true (List.all_eq_true.mp h.2 t ht)⟩
theorem findIdx_some {l : List Nat} {p : Nat → Bool} (h : ∃ t ∈ l, p t = true) : ∃ k t, l.findIdx? p = some k ∧ l[k]? = some t ∧ p t = true := by
  cases e : l.findIdx? p with
  | none =>
    rw [List.findIdx?_eq_none_iff] at e
    obtain ⟨t, ht, h2⟩ := h
    rw [e t ht] at h2
    cases h2
  | some k =>
    obtain ⟨h1, h2, _⟩ := List.findIdx?_eq_some_iff_getElem.mp e
    exact ⟨k, l[k], rfl, List.getElem?_eq_getElem h1, h2⟩
theorem findIdx_no {p : Nat → Bool} : ([] : List Nat).findIdx? p = none := rfl
/-- the rooms that are marked and where I can stay -/
def goalsG (rs : List Rm) (Sn L : List Nat) : List Nat := Sn.filter fun x => decide (x ∈ L) && stB rs L x
theorem AgI.step (hg : GRs rs.length rs) (s : AgI rs Sn L Lo ly mo layer) (f : FS rs (goalsG rs Sn L) L O rk mv) (hne : O.length < L.length) :
    AgI rs Sn O (Lo ++ L.filter fun x => !decide (x ∈ O)) (upL L O ly fun _ => layer) (upL L O mo (wayM rs Sn L O)) (layer + 1) := by
  have memN : ∀ x, x ∈ (Lo ++ L.filter fun x => !decide (x ∈ O)) ↔ x ∈ Lo ∨ (x ∈ L ∧ x ∉ O) := fun x => by
    rw [List.mem_append, List.mem_filter]
    simp
  have old : ∀ {α : Type} (f g : Nat → α) x, x ∈ Lo → upL L O f g x = f x := fun f g x hx => upL_out (s.sep x hx).2.1
  -- where the moves of a room that is put out lead
  have lead : ∀ x ∈ L, x ∉ O → ∀ t ∈ Tg rs x, t ∉ O → (t ∈ (Lo ++ L.filter fun x => !decide (x ∈ O))) ∧ upL L O ly (fun _ => layer) t ≤ layer ∧ (t ∉ L → upL L O ly (fun _ => layer) t < layer) := fun x hx hxO t ht htO => by
    rcases s.cov t (tg_in hg ht) with z | z
    · exact ⟨(memN t).mpr (.inr ⟨z, htO⟩), by rw [upL_in z htO]; exact Nat.le_refl _, fun q => absurd z q⟩
    · have := (s.sep t z).2.2
      rw [old _ _ t z]
      exact ⟨(memN t).mpr (.inl z), by omega, fun _ => this⟩
  have stay : ∀ x ∈ L, x ∉ O → x ∈ Sn → stB rs L x = false := fun x hx hxO hS => by
    cases e : stB rs L x with
    | false => rfl
    | true => exact absurd (f.g x (List.mem_filter.mpr ⟨hS, by simp [hx, e]⟩)) hxO
  refine ⟨f.nd, ?_, fun x hx => s.lt x (f.sub x hx), fun x hx => ?_, fun x hx => ?_, fun x hx ho => ?_, fun x hx ho => ?_, ?_⟩
  rotate_left 5
  · have hc := s.cnt
    obtain ⟨x, hx, hxO⟩ : ∃ x ∈ L, x ∉ O := Classical.byContradiction fun z => by
      have : L.length ≤ O.length := nodup_le (L := O) s.ndL fun x hx => Classical.byContradiction fun q => z ⟨x, hx, q⟩
      omega
    have : 0 < (L.filter fun x => !decide (x ∈ O)).length := List.length_pos_iff.mpr (List.ne_nil_of_mem (List.mem_filter.mpr ⟨hx, by simp [hxO]⟩))
    rw [List.length_append]
    omega
  · rw [List.nodup_append]
    refine ⟨s.ndO, s.ndL.filter _, fun x hx y hy => ?_⟩
    rintro rfl
    exact (s.sep x hx).2.1 (List.mem_filter.mp hy).1
  · rcases (memN x).mp hx with z | ⟨z1, z2⟩
    · rw [old _ _ x z]
      obtain ⟨a, b, c⟩ := s.sep x z
      exact ⟨a, fun q => b (f.sub x q), by omega⟩
    · rw [upL_in z1 z2]
      exact ⟨s.lt x z1, z2, by omega⟩
  · rcases s.cov x hx with z | z
    · by_cases c : x ∈ O
      · exact .inl c
      · exact .inr ((memN x).mpr (.inr ⟨z, c⟩))
    · exact .inr ((memN x).mpr (.inl z))
  · rcases (memN x).mp hx with z | ⟨z1, z2⟩
    · obtain ⟨a, b⟩ := s.o0 x z ho
      rw [old _ _ x z, old _ _ x z]
      refine ⟨a, fun t ht => ?_⟩
      obtain ⟨b1, b2, b3⟩ := b t ht
      rw [old _ _ t b1]
      exact ⟨(memN t).mpr (.inl b1), b2, b3⟩
    · rw [upL_in z1 z2, upL_in z1 z2]
      refine ⟨by unfold wayM; rw [if_pos ho], fun t ht => ?_⟩
      obtain ⟨l1, l2, l3⟩ := lead x z1 z2 t ht ((f.o x z1 z2).1 ho t ht)
      exact ⟨l1, l2, fun hS => l3 (stB_false0 ho (stay x z1 z2 hS) t ht)⟩
  · rcases (memN x).mp hx with z | ⟨z1, z2⟩
    · rw [old _ _ x z, old _ _ x z]
      rcases s.o1 x z ho with a | ⟨k, t, a1, a2, a3, a4, a5⟩
      · exact .inl a
      · refine .inr ⟨k, t, a1, a2, (memN t).mpr (.inl a3), ?_, ?_⟩
        · rw [old _ _ t a3]; exact a4
        · rw [old _ _ t a3]; exact a5
    · rw [upL_in z1 z2, upL_in z1 z2]
      unfold wayM
      rw [if_neg ho]
      by_cases hS : x ∈ Sn
      · rcases stB_false1 ho (stay x z1 z2 hS) with e | ⟨t, ht, htL⟩
        · exact .inl ⟨e, by rw [e]; rfl⟩
        · obtain ⟨k, t, a1, a2, a3⟩ := findIdx_some (l := Tg rs x) (p := fun t => if x ∈ Sn then !decide (t ∈ L) else !decide (t ∈ O)) ⟨t, ht, by simp [hS, htL]⟩
          have htL : t ∉ L := by simpa [hS] using a3
          obtain ⟨l1, l2, l3⟩ := lead x z1 z2 t (List.mem_of_getElem? a2) fun z => htL (f.sub t z)
          exact .inr ⟨k, t, a1, a2, l1, l2, fun _ => l3 htL⟩
      · rcases (f.o x z1 z2).2 with e | ⟨t, ht, htO⟩
        · exact .inl ⟨e, by rw [e]; rfl⟩
        · obtain ⟨k, t, a1, a2, a3⟩ := findIdx_some (l := Tg rs x) (p := fun t => if x ∈ Sn then !decide (t ∈ L) else !decide (t ∈ O)) ⟨t, ht, by simp [hS, htO]⟩
          have htO : t ∉ O := by simpa [hS] using a3
          obtain ⟨l1, l2, l3⟩ := lead x z1 z2 t (List.mem_of_getElem? a2) htO
          exact .inr ⟨k, t, a1, a2, l1, l2, fun q => absurd q hS⟩
/-- who can choose that the mark is come to again and again, with ranks and layers -/
structure AgR (rs : List Rm) (Sn : List Nat) (P : Nat → Bool) (rk : Nat → Nat) (mv : Nat → Option Nat) (ly : Nat → Nat) (mo : Nat → Option Nat) : Prop where
  m0 : ∀ x, x < rs.length → P x = true → Ow rs x = 0 → ∃ k t, mv x = some k ∧ (Tg rs x)[k]? = some t ∧ P t = true ∧ (x ∉ Sn → rk t < rk x)
  m1 : ∀ x, x < rs.length → P x = true → Ow rs x ≠ 0 → mv x = none ∧ Tg rs x ≠ [] ∧ ∀ t ∈ Tg rs x, P t = true ∧ (x ∉ Sn → rk t < rk x)
  o0 : ∀ x, x < rs.length → P x = false → Ow rs x = 0 → mo x = none ∧ ∀ t ∈ Tg rs x, P t = false ∧ ly t ≤ ly x ∧ (x ∈ Sn → ly t < ly x)
  o1 : ∀ x, x < rs.length → P x = false → Ow rs x ≠ 0 → (Tg rs x = [] ∧ mo x = none) ∨ ∃ k t, mo x = some k ∧ (Tg rs x)[k]? = some t ∧ P t = false ∧ ly t ≤ ly x ∧ (x ∈ Sn → ly t < ly x)
  rb : ∀ x, x < rs.length → P x = true → rk x ≤ rs.length
  lb : ∀ x, x < rs.length → P x = false → ly x ≤ rs.length
def mvF (rs : List Rm) (L : List Nat) (rk : Nat → Nat) (mv : Nat → Option Nat) (x : Nat) : Option Nat := if rk x = 0 ∧ Ow rs x = 0 then (Tg rs x).findIdx? fun t => decide (t ∈ L) else mv x
theorem AgI.last (s : AgI rs Sn L Lo ly mo layer) (f : FS rs (goalsG rs Sn L) L O rk mv) (hl : O.length = L.length) : AgR rs Sn (fun x => decide (x ∈ O)) rk (mvF rs L rk mv) ly mo ∧ (∀ x, x ∈ Lo ↔ x < rs.length ∧ x ∉ O) ∧ ∀ x, x ∈ O → x < rs.length := by
  have LO : ∀ x ∈ L, x ∈ O := fun x hx => Classical.byContradiction fun z => by
    have := nodup_le (U := O ++ [x]) (L := L) (by
      rw [List.nodup_append]
      refine ⟨f.nd, by simp, fun a ha b hb => ?_⟩
      rw [List.mem_singleton.mp hb]
      exact fun q => z (by rw [← q]; exact ha)) fun y hy => by
        rcases List.mem_append.mp hy with q | q
        · exact f.sub y q
        · rw [List.mem_singleton.mp q]; exact hx
    rw [List.length_append] at this
    simp at this
    omega
  have memLo : ∀ x, x ∈ Lo ↔ x < rs.length ∧ x ∉ O := fun x => by
    refine ⟨fun h => ⟨(s.sep x h).1, fun z => (s.sep x h).2.1 (f.sub x z)⟩, fun ⟨h1, h2⟩ => ?_⟩
    rcases s.cov x h1 with z | z
    · exact absurd (LO x z) h2
    · exact z
  have notO : ∀ t, t ∈ Lo → decide (t ∈ O) = false := fun t ht => decide_eq_false ((memLo t).mp ht).2
  have oL : O.length ≤ rs.length := by
    have := nodup_le (L := List.range rs.length) f.nd fun x hx => List.mem_range.mpr (s.lt x (f.sub x hx))
    rwa [List.length_range] at this
  have loL : Lo.length ≤ rs.length := by
    have := nodup_le (L := List.range rs.length) s.ndO fun x hx => List.mem_range.mpr (s.sep x hx).1
    rwa [List.length_range] at this
  refine ⟨⟨fun x hx hP ho => ?_, fun x hx hP ho => ?_, fun x hx hP ho => ?_, fun x hx hP ho => ?_, fun x hx hP => ?_, fun x hx hP => ?_⟩, memLo, fun x hx => s.lt x (f.sub x hx)⟩
  · have hP : x ∈ O := of_decide_eq_true hP
    unfold mvF
    by_cases hG : x ∈ goalsG rs Sn L
    · obtain ⟨h1, h2⟩ := List.mem_filter.mp hG
      simp only [Bool.and_eq_true, decide_eq_true_eq] at h2
      rw [if_pos ⟨(f.z x hG).1, ho⟩]
      obtain ⟨t, ht, htL⟩ := stB_true0 ho h2.2
      obtain ⟨k, t, a1, a2, a3⟩ := findIdx_some (l := Tg rs x) (p := fun t => decide (t ∈ L)) ⟨t, ht, by simpa using htL⟩
      exact ⟨k, t, a1, a2, decide_eq_true (LO t (of_decide_eq_true a3)), fun z => absurd h1 z⟩
    · obtain ⟨k, t, a1, a2, a3, a4⟩ := (f.s x hP hG).1 ho
      rw [if_neg (fun z => by have := z.1; omega)]
      exact ⟨k, t, a1, a2, decide_eq_true a3, fun _ => a4⟩
  · have hP : x ∈ O := of_decide_eq_true hP
    unfold mvF
    rw [if_neg (fun z => ho z.2)]
    by_cases hG : x ∈ goalsG rs Sn L
    · obtain ⟨h1, h2⟩ := List.mem_filter.mp hG
      simp only [Bool.and_eq_true, decide_eq_true_eq] at h2
      obtain ⟨b1, b2⟩ := stB_true1 ho h2.2
      exact ⟨(f.z x hG).2, b1, fun t ht => ⟨decide_eq_true (LO t (b2 t ht)), fun z => absurd h1 z⟩⟩
    · obtain ⟨a1, a2, a3⟩ := (f.s x hP hG).2 ho
      exact ⟨a1, a2, fun t ht => ⟨decide_eq_true (a3 t ht).1, fun _ => (a3 t ht).2⟩⟩
  · have hLo := (memLo x).mpr ⟨hx, of_decide_eq_false hP⟩
    obtain ⟨a, b⟩ := s.o0 x hLo ho
    exact ⟨a, fun t ht => ⟨notO t (b t ht).1, (b t ht).2⟩⟩
  · have hLo := (memLo x).mpr ⟨hx, of_decide_eq_false hP⟩
    rcases s.o1 x hLo ho with a | ⟨k, t, a1, a2, a3, a4⟩
    · exact .inl a
    · exact .inr ⟨k, t, a1, a2, notO t a3, a4⟩
  · have := f.bd x (of_decide_eq_true hP)
    omega
  · have h1 := (s.sep x ((memLo x).mpr ⟨hx, of_decide_eq_false hP⟩)).2.2
    have h2 := s.cnt
    omega
end
/-! put_out -/
def puI (rs : List Rm) (Sn L O Lo : List Nat) (u uf : Nat → W) (mi : List (Key × W)) (layer ki kf : Nat) (j : Nat) (ps : LS) (g : PH) : Prop := ∃ (s4 : Option W), ps = [some (.ref 0), some (.ref ki), some (.ref kf), some (.int (layer : Nat)), s4] ∧
  SHp rs Sn g mi (dkL (Lo ++ (L.take j).filter fun x => !decide (x ∈ O)) (upL (L.take j) O u fun x => .tup [.int (layer : Nat), oW (wayM rs Sn L O x)])) ∧ g[ki]? = some (.lk (dkL L fun _ => .bl true)) ∧ g[kf]? = some (.dK (dkL O uf))
section
variable {rs : List Rm} {Sn L O Lo : List Nat} {u uf : Nat → W} {mi : List (Key × W)} {layer ki kf : Nat} {h : PH} {Q : W → PH → Prop}
theorem put_to (hn : rs.length ≤ 600) (hg : GRs rs.length rs) (s : SHp rs Sn h mi (dkL Lo u)) (ei : h[ki]? = some (.dK (dkL L fun _ => .bl true))) (ef : h[kf]? = some (.dK (dkL O uf))) (hki : rs.length + 6 ≤ ki) (hkf : rs.length + 6 ≤ kf) (hne : ki ≠ kf) (ndL : L.Nodup) (hL : ∀ x ∈ L, x < rs.length) (sep : ∀ x ∈ Lo, x ∉ L) (ndLo : Lo.length ≤ rs.length)
    (qq : ∀ g, SHp rs Sn g mi (dkL (Lo ++ L.filter fun x => !decide (x ∈ O)) (upL L O u fun x => .tup [.int (layer : Nat), oW (wayM rs Sn L O x)])) → g[ki]? = some (.dK (dkL L fun _ => .bl true)) → g[kf]? = some (.dK (dkL O uf)) → Q .non g) : (f_Split_put_out f_Split_way_out [.ref 0, .ref ki, .ref kf, .int (layer : Nat)] h).To Q := by
  have hLl : L.length ≤ rs.length := by
    have := nodup_le (L := List.range rs.length) ndL fun x hx => List.mem_range.mpr (hL x hx)
    rw [List.length_range] at this
    exact this
  unfold f_Split_put_out
  rw [run_to, show startW 5 [W.ref 0, W.ref ki, W.ref kf, W.int (layer : Nat)] = [some (.ref 0), some (.ref ki), some (.ref kf), some (.int (layer : Nat)), none] from rfl]
  unfold b_Split_put_out
  refine to_lkS (n := ki) rfl ei ?_
  have hk : ki < h.length := (List.getElem?_eq_some_iff.mp ei).1
  obtain ⟨g, hg0⟩ : ∃ g, g = h.set ki (.lk (dkL L fun _ => .bl true)) := ⟨_, rfl⟩
  have el : g[ki]? = some (.lk (dkL L fun _ => .bl true)) := by rw [hg0]; exact List.getElem?_set_self hk
  have ef2 : g[kf]? = some (.dK (dkL O uf)) := by rw [hg0, List.getElem?_set_ne hne]; exact ef
  have s2 : SHp rs Sn g mi (dkL Lo u) := by rw [hg0]; exact s.far hki
  rw [← hg0, to_for]
  simp [keys_lk el, dk_keys]
  refine for_items (puI rs Sn L O Lo u uf mi layer ki kf) ⟨_, rfl, ?_, el, ef2⟩ ?_ ?_
  · have : dkL (Lo ++ (L.take 0).filter fun x => !decide (x ∈ O)) (upL (L.take 0) O u fun x => .tup [.int (layer : Nat), oW (wayM rs Sn L O x)]) = dkL Lo u := by
      rw [List.take_zero, List.filter_nil, List.append_nil]
      exact dk_congr fun i _ => upL_out (by simp)
    rw [this]
    exact s2
  · rintro j w ps g ej ⟨s4, rfl, sg, ek, ek2⟩
    unfold nW at ej
    rw [List.getElem?_map] at ej
    obtain ⟨x, ex, rfl⟩ := Option.map_eq_some_iff.mp ej
    have hxL := List.mem_of_getElem? ex
    have hx := hL x hxL
    have hjl := (List.getElem?_eq_some_iff.mp ex).1
    have hxT : x ∉ L.take j := fun z => by
      obtain ⟨i, hi⟩ := List.getElem?_of_mem z
      have hij : i < j := by have := (List.getElem?_eq_some_iff.mp hi).1; rw [List.length_take] at this; omega
      rw [List.getElem?_take_of_lt hij] at hi
      obtain ⟨h1, h1'⟩ := List.getElem?_eq_some_iff.mp hi
      obtain ⟨h2, h2'⟩ := List.getElem?_eq_some_iff.mp ex
      exact List.pairwise_iff_getElem.mp ndL i j h1 h2 hij (by rw [h1', h2'])
    refine ⟨_, rfl, ?_⟩
    rw [to_sif]
    simp [notIn_dk ek2]
    refine .of (fun hO => ?_) fun hO => ?_
    · refine ⟨_, rfl, ?_, ek, ek2⟩
      have : dkL (Lo ++ (L.take (j + 1)).filter fun x => !decide (x ∈ O)) (upL (L.take (j + 1)) O u fun x => .tup [.int (layer : Nat), oW (wayM rs Sn L O x)]) = dkL (Lo ++ (L.take j).filter fun x => !decide (x ∈ O)) (upL (L.take j) O u fun x => .tup [.int (layer : Nat), oW (wayM rs Sn L O x)]) := by
        rw [take_filter ex]
        simp only [hO, decide_true, Bool.not_true, Bool.false_eq_true, if_false, List.append_nil]
        refine dk_congr fun i _ => ?_
        unfold upL
        rw [List.take_succ, ex]
        by_cases c : i = x
        · subst c; simp [hO]
        · simp [c]
      rw [this]
      exact sg
    · have hins : insOf "Split" "way_out" (.ref 0) g = true := insOf_ins sg.sp rfl
      simp [hins]
      refine way_to hg sg ek ek2 hx ?_
      have hll : (dkL (Lo ++ (L.take j).filter fun x => !decide (x ∈ O)) (upL (L.take j) O u fun x => .tup [.int (layer : Nat), oW (wayM rs Sn L O x)])).length < 16777216 := by
        unfold dkL
        rw [List.length_map, List.length_append]
        have := List.length_filter_le (fun x => !decide (x ∈ O)) (L.take j)
        have := List.length_take_le j L
        omega
      simp [sg.others]
      rw [setW_dK sg.ot (k := .inl (x : Int)) rfl hll, put_dk_new (fun z => by
        rcases List.mem_append.mp z with z | z
        · exact sep x z hxL
        · exact hxT (List.mem_filter.mp z).1), oto_some]
      refine ⟨_, rfl, ?_, by rw [List.getElem?_set_ne (by omega)]; exact ek, by rw [List.getElem?_set_ne (by omega)]; exact ek2⟩
      have : dkL (Lo ++ (L.take (j + 1)).filter fun x => !decide (x ∈ O)) (upL (L.take (j + 1)) O u fun x => .tup [.int (layer : Nat), oW (wayM rs Sn L O x)]) = dkL ((Lo ++ (L.take j).filter fun x => !decide (x ∈ O)) ++ [x]) (updF (upL (L.take j) O u fun x => .tup [.int (layer : Nat), oW (wayM rs Sn L O x)]) x (.tup [.int (layer : Nat), oW (wayM rs Sn L O x)])) := by
        rw [take_filter ex]
        simp only [hO, decide_false, Bool.not_false, if_true, List.append_assoc]
        refine dk_congr fun i _ => ?_
        by_cases c : i = x
        · subst c
          rw [updF_same, upL_in (by rw [List.take_succ, ex]; simp) hO]
        · rw [updF_ne c]
          unfold upL
          rw [List.take_succ, ex]
          simp [c]
      rw [this]
      exact sg.setO
  · rintro ps g ⟨s4, rfl, sg, ek, ek2⟩
    rw [nW_len, List.take_length] at sg
    refine ⟨_, ek, qq _ (sg.far hki) (List.getElem?_set_self (List.getElem?_eq_some_iff.mp ek).1) (by rw [List.getElem?_set_ne hne]; exact ek2)⟩
end
end Mir

/-! again: Split made -/
namespace Mir
open PySem PySem.Spec PyProof.Rows L2
def MH (rs : List Rm) : PH := .lst ((List.range rs.length).map fun r => W.ref (2 + 1 + r)) :: (List.range rs.length).map fun r : Nat => OB.lst ((pre rs rs.length r).map encP)
def BH (rs : List Rm) (sf : List (Str × W)) (e : PH) : PH := .ins "Split" sf :: .ins "Forcing" [("rooms", .tup (rs.map encR)), ("into", .ref 2)] :: (MH rs ++ e)
section
variable {rs : List Rm} {ks : List (Str × List Int)} {sf : List (Str × W)} {e e2 : PH}
theorem MH_len : (MH rs).length = rs.length + 1 := by simp [MH]
theorem BH_len : (BH rs sf e).length = rs.length + 3 + e.length := by
  unfold BH
  simp [MH_len]
  omega
theorem BH_app : BH rs sf e ++ e2 = BH rs sf (e ++ e2) := by simp [BH]
theorem BH_fh : FH rs 1 2 (BH rs sf e) := by
  refine ⟨rfl, ?_, fun r hr => ?_⟩
  · show (MH rs ++ e)[0]? = _
    rfl
  · have : 2 + 1 + r = (r + 1) + 1 + 1 := by omega
    rw [this]
    show (MH rs ++ e)[r + 1]? = _
    rw [List.getElem?_append_left (by rw [MH_len]; omega)]
    unfold MH
    rw [List.getElem?_cons_succ, List.getElem?_map, List.getElem?_range hr]
    rfl
theorem BH_get {k : Nat} {o : OB} (h : e[k]? = some o) : (BH rs sf e)[rs.length + 3 + k]? = some o := by
  have : rs.length + 3 + k = (rs.length + 1 + k) + 1 + 1 := by omega
  rw [this]
  show (MH rs ++ e)[rs.length + 1 + k]? = _
  rw [List.getElem?_append_right (by rw [MH_len]; omega), MH_len]
  have : rs.length + 1 + k - (rs.length + 1) = k := by omega
  rw [this]
  exact h
theorem pfS1 {a : W} : putFW "forcing" a [] = ([("forcing", a)] : List (Str × W)) := rfl
theorem pfS2 {a b : W} : putFW "noted" b [("forcing", a)] = ([("forcing", a), ("noted", b)] : List (Str × W)) := by
  simp only [putFW]
  rw [if_neg (by decide)]
theorem pfS3 {a b c : W} : putFW "mine" c [("forcing", a), ("noted", b)] = ([("forcing", a), ("noted", b), ("mine", c)] : List (Str × W)) := by
  simp only [putFW]
  rw [if_neg (by decide), if_neg (by decide)]
theorem pfS4 {a b c d : W} : putFW "others" d [("forcing", a), ("noted", b), ("mine", c)] = ([("forcing", a), ("noted", b), ("mine", c), ("others", d)] : List (Str × W)) := by
  simp only [putFW]
  rw [if_neg (by decide), if_neg (by decide), if_neg (by decide)]
theorem pfF1 {a : W} : putFW "rooms" a [] = ([("rooms", a)] : List (Str × W)) := rfl
theorem pfF2 {a b : W} : putFW "into" b [("rooms", a)] = ([("rooms", a), ("into", b)] : List (Str × W)) := by
  simp only [putFW]
  rw [if_neg (by decide)]
theorem fini_to (hn : rs.length ≤ 600) (hg : GRs rs.length rs) {Q : W → PH → Prop} (qq : Q .non (BH rs [] [])) : (f_Forcing_ini S_minto [.ref 1, encA rs ks] [.ins "Split" [], .ins "Forcing" []]).To Q := by
  unfold f_Forcing_ini
  rw [run_to, show startW 2 [W.ref 1, encA rs ks] = [some (.ref 1), some (encA rs ks)] from rfl]
  unfold b_Forcing_ini
  refine seq_go (ps1 := [some (.ref 1), some (encA rs ks)]) (h1 := [.ins "Split" [], .ins "Forcing" [("rooms", .tup (rs.map encR))]]) (fun K hK => ?_) ?_
  · have : setFW kc_rooms "rooms" (.ref 1) (.tup (rs.map encR)) [.ins "Split" [], .ins "Forcing" []] = some [.ins "Split" [], .ins "Forcing" [("rooms", .tup (rs.map encR))]] := by
      rw [setFW_ins (n := 1) (c := "Forcing") (fs := []) rfl kcF.1 (by decide), pfF1]
      rfl
    simp [this]
    exact hK
  · simp
    refine minto_to rfl hn hg ?_
    have e1 : mheap rs rs.length [.ins "Split" [], .ins "Forcing" [("rooms", .tup (rs.map encR))]] = MH rs := rfl
    rw [e1]
    have : setFW kc_into "into" (.ref 1) (.ref 2) ([.ins "Split" [], .ins "Forcing" [("rooms", .tup (rs.map encR))]] ++ MH rs) = some (BH rs [] []) := by
      rw [setFW_ins (n := 1) (c := "Forcing") (fs := [("rooms", .tup (rs.map encR))]) rfl kcF.2 (by simp), pfF2]
      simp [BH]
    simp at this
    simp [this]
    exact qq
end
theorem wLen_dK {n : Nat} {h : PH} {kvs : List (Key × W)} (e : h[n]? = some (.dK kvs)) : wLen [.ref n] h = some (.int (kvs.length : Nat), h) := by simp only [wLen, e]
theorem sort_nodup {O : List Nat} {n : Nat} (nd : O.Nodup) (lt : ∀ x ∈ O, x < n) : sortI (O.map fun i : Nat => (i : Int)) = (idx (fun i => decide (i ∈ O)) n).map fun i : Nat => (i : Int) := by
  refine up_unique ((sortI_perm _).trans ?_) (sortI_up _) ?_
  · refine List.Perm.map _ ((List.perm_ext_iff_of_nodup nd idx_nd).mpr fun x => ?_)
    rw [idx_mem]
    exact ⟨fun h => ⟨lt x h, by simpa using h⟩, fun h => by simpa using h.2⟩
  · rw [List.pairwise_map]
    exact idx_up.imp fun h => by omega
theorem sorted_dkO {O : List Nat} {n k : Nat} {u : Nat → W} {h : PH} (nd : O.Nodup) (lt : ∀ x ∈ O, x < n) (e : h[k]? = some (.dK (dkL O u))) : lSortV (.ref k) h = some (nW (idx (fun i => decide (i ∈ O)) n), h) := by
  simp only [lSortV, intsOf, e, keys_dk, Option.map_some, sort_nodup nd lt, List.map_map]
  rfl
/-- a dict of some rooms, all with True -/
theorem lc_true {L : List Nat} {h : PH} {psw : LS} {g : GM} {te : EM} {Ql : List W → PH → Prop} (hl : L.length ≤ 1000000) (he : ∀ x ∈ L, ∃ ps1, g (.int (x : Nat)) psw = some ps1 ∧ ∀ Q : W → PH → Prop, Q (.tup [.int (x : Nat), .bl true]) h → (te ps1 h).To Q) (q : Ql (L.map fun x => .tup [.int (x : Nat), .bl true]) h) :
    (lcGo (itS (nW L)) g mYes te psw (itS (nW L)).fuel 0 [] h).To Ql := lc_map (L := L) (enc := fun i => .int (i : Nat)) (u := fun x => .tup [.int (x : Nat), .bl true]) hl he q
theorem pairs_true {L : List Nat} : pairsK (L.map fun x => .tup [.int (x : Nat), .bl true]) = some (dkL L fun _ => .bl true) := pairs_dk
def agW (rs : List Rm) (Sn : List Nat) (A R : W) (v : Nat) (ps : LS) (g : PH) : Prop := ∃ (L Lo : List Nat) (ly : Nat → Nat) (mo : Nat → Option Nat) (layer ki : Nat) (s5 s6 s7 s8 s9 : Option W), ps = [some (.ref 0), some A, some R, some (.ref ki), some (.int (layer : Nat)), s5, s6, s7, s8, s9] ∧
  SHp rs Sn g [] (dkL Lo (pairW ly mo)) ∧ g[ki]? = some (.dK (dkL L fun _ => .bl true)) ∧ rs.length + 6 ≤ ki ∧ AgI rs Sn L Lo ly mo layer ∧ v = L.length
def agE (rs : List Rm) (Sn : List Nat) (A R : W) (ps : LS) (g : PH) : Prop := ∃ (L Lo O : List Nat) (ly rk : Nat → Nat) (mo mv : Nat → Option Nat) (layer ki kf : Nat) (s5 s7 s8 s9 : Option W), ps = [some (.ref 0), some A, some R, some (.ref ki), some (.int (layer : Nat)), s5, some (.ref kf), s7, s8, s9] ∧
  SHp rs Sn g [] (dkL Lo (pairW ly mo)) ∧ g[ki]? = some (.dK (dkL L fun _ => .bl true)) ∧ g[kf]? = some (.dK (dkL O (pairW rk mv))) ∧ rs.length + 6 ≤ ki ∧ rs.length + 6 ≤ kf ∧ AgI rs Sn L Lo ly mo layer ∧ FS rs (goalsG rs Sn L) L O rk mv ∧ O.length = L.length
def gcJ (rs : List Rm) (Sn L : List Nat) (g : PH) (i : Nat) (acc : List W) (g' : PH) : Prop := acc = nW ((Sn.take i).filter fun x => decide (x ∈ L) && stB rs L x) ∧ ∃ e, g' = g ++ e
def miJ' (rs : List Rm) (Sn L O l : List Nat) (rk : Nat → Nat) (mv : Nat → Option Nat) (A R : W) (layer ki kf : Nat) (s5 : Option W) (ot : List (Key × W)) (j : Nat) (ps : LS) (g : PH) : Prop := ∃ (s7 s8 s9 : Option W), ps = [some (.ref 0), some A, some R, some (.ref ki), some (.int (layer : Nat)), s5, some (.ref kf), s7, s8, s9] ∧
  SHp rs Sn g (dkL (l.take j) (pairW rk (mvF rs L rk mv))) ot ∧ g[ki]? = some (.dK (dkL L fun _ => .bl true)) ∧ g[kf]? = some (.dK (dkL O (pairW rk mv)))
def agG (A R : W) (layer ki : Nat) (s6 s7 s8 s9 : Option W) (g : PH) (G : List Nat) (ps : LS) (g' : PH) : Prop := ∃ (e : PH) (kg : Nat), ps = [some (.ref 0), some A, some R, some (.ref ki), some (.int (layer : Nat)), some (.ref kg), s6, s7, s8, s9] ∧ g' = g ++ e ∧ g'[kg]? = some (.lst (nW G))
def agH (rs : List Rm) (Sn G L Lo : List Nat) (ly : Nat → Nat) (mo : Nat → Option Nat) (A R : W) (layer ki kg : Nat) (s7 s8 s9 : Option W) (ps : LS) (g' : PH) : Prop := ∃ (O : List Nat) (rk : Nat → Nat) (mv : Nat → Option Nat) (kf : Nat), ps = [some (.ref 0), some A, some R, some (.ref ki), some (.int (layer : Nat)), some (.ref kg), some (.ref kf), s7, s8, s9] ∧ SHp rs Sn g' [] (dkL Lo (pairW ly mo)) ∧ g'[ki]? = some (.dK (dkL L fun _ => .bl true)) ∧ g'[kf]? = some (.dK (dkL O (pairW rk mv))) ∧ ki < kf ∧ FS rs G L O rk mv
def agP (rs : List Rm) (Sn L O Lo : List Nat) (u : Nat → W) (uf : Nat → W) (A R : W) (layer ki kg kf : Nat) (s7 s8 s9 : Option W) (ps : LS) (g' : PH) : Prop := ps = [some (.ref 0), some A, some R, some (.ref ki), some (.int (layer : Nat)), some (.ref kg), some (.ref kf), s7, s8, s9] ∧ SHp rs Sn g' [] (dkL Lo u) ∧ g'[ki]? = some (.dK (dkL L fun _ => .bl true)) ∧ g'[kf]? = some (.dK (dkL O uf))
def agN (rs : List Rm) (Sn O Lo : List Nat) (u : Nat → W) (A R : W) (layer kg kf : Nat) (s7 s8 s9 : Option W) (ps : LS) (g' : PH) : Prop := ∃ k, ps = [some (.ref 0), some A, some R, some (.ref k), some (.int (layer : Nat)), some (.ref kg), some (.ref kf), s7, s8, s9] ∧ SHp rs Sn g' [] (dkL Lo u) ∧ g'[k]? = some (.dK (dkL O fun _ => .bl true)) ∧ rs.length + 6 ≤ k
abbrev F_split : FM := f_Split_ini (f_Forcing_ini S_minto) f_Forcing_stays f_Forcing_forced (f_Split_put_out f_Split_way_out) f_Forcing_first_within
theorem split_run {rs : List Rm} {ks : List (Str × List Int)} {Sn : List Nat} (hn : rs.length ≤ 600) (hg : GRs rs.length rs) (ndS : Sn.Nodup) (ltS : ∀ x ∈ Sn, x < rs.length) :
    (F_split [.ref 0, encA rs ks, .tup (nW Sn)] [.ins "Split" []]).To fun w g => w = .non ∧ ∃ (P : Nat → Bool) (rk : Nat → Nat) (mv : Nat → Option Nat) (Lo : List Nat) (ly : Nat → Nat) (mo : Nat → Option Nat), SHp rs Sn g (dkL (idx P rs.length) (pairW rk mv)) (dkL Lo (pairW ly mo)) ∧ Lo.Nodup ∧ (∀ x, x ∈ Lo ↔ x < rs.length ∧ P x = false) ∧ AgR rs Sn P rk mv ly mo := by
  have hSl : Sn.length ≤ 600 := by
    have := nodup_le (L := List.range rs.length) ndS fun x hx => List.mem_range.mpr (ltS x hx)
    rw [List.length_range] at this
    omega
  unfold F_split f_Split_ini
  obtain ⟨A, hA⟩ : ∃ A, A = encA rs ks := ⟨_, rfl⟩
  obtain ⟨R, hR⟩ : ∃ R, R = W.tup (nW Sn) := ⟨_, rfl⟩
  rw [← hA, ← hR]
  have ixA : ∀ h, wIx A (.int 0) h = some (.tup (rs.map encR), h) := fun h => by rw [hA]; rfl
  have itR : ∀ n h, iterOf n R h = some (itS (nW Sn)) := fun n h => by rw [hR]; rfl
  rw [run_to, show startW 10 [W.ref 0, A, R] = [some (.ref 0), some A, some R, none, none, none, none, none, none, none] from rfl]
  unfold b_Split_ini
  obtain ⟨k1, k2, k3, k4⟩ := kcS
  refine seq_go (ps1 := [some (.ref 0), some A, some R, none, none, none, none, none, none, none]) (h1 := BH rs [("forcing", .ref 1)] []) (fun K hK => ?_) ?_
  · simp
    rw [hA]
    refine fini_to hn hg ?_
    rw [← hA]
    have : setFW kc_forcing "forcing" (.ref 0) (.ref 1) (BH rs [] []) = some (BH rs [("forcing", .ref 1)] []) := by
      rw [setFW_ins (n := 0) (c := "Split") (fs := []) rfl k1 (by decide), pfS1]
      rfl
    simp [this]
    exact hK
  have hnt : mergeW [] (dkL Sn fun _ => W.bl true) = dkL Sn fun _ => .bl true := merge_dk ndS
  refine seq_go (ps1 := [some (.ref 0), some A, some R, none, none, none, none, none, none, none]) (h1 := BH rs [("forcing", .ref 1), ("noted", .ref (rs.length + 3))] [.dK (dkL Sn fun _ => .bl true)]) (fun K hK => ?_) ?_
  · simp [wipeW, itR]
    refine lc_true (by omega) (fun x hx => ⟨_, rfl, fun Q q => ?_⟩) ?_
    · simp
      exact q
    have : setFW kc_noted "noted" (.ref 0) (.ref (rs.length + 3)) (BH rs [("forcing", .ref 1)] [.dK (dkL Sn fun _ => .bl true)]) = some (BH rs [("forcing", .ref 1), ("noted", .ref (rs.length + 3))] [.dK (dkL Sn fun _ => .bl true)]) := by
      rw [setFW_ins (n := 0) (c := "Split") (fs := [("forcing", .ref 1)]) rfl k2 (by simp), pfS2]
      rfl
    simp [pairs_true, hnt, BH_len, BH_app, this]
    exact hK
  refine seq_go (ps1 := [some (.ref 0), some A, some R, none, none, none, none, none, none, none]) (h1 := BH rs [("forcing", .ref 1), ("noted", .ref (rs.length + 3)), ("mine", .ref (rs.length + 4))] [.dK (dkL Sn fun _ => .bl true), .dK []]) (fun K hK => ?_) ?_
  · have : setFW kc_mine "mine" (.ref 0) (.ref (rs.length + 4)) (BH rs [("forcing", .ref 1), ("noted", .ref (rs.length + 3))] [.dK (dkL Sn fun _ => .bl true), .dK []]) = some (BH rs [("forcing", .ref 1), ("noted", .ref (rs.length + 3)), ("mine", .ref (rs.length + 4))] [.dK (dkL Sn fun _ => .bl true), .dK []]) := by
      rw [setFW_ins (n := 0) (c := "Split") (fs := [("forcing", .ref 1), ("noted", .ref (rs.length + 3))]) rfl k3 (by simp), pfS3]
      rfl
    simp [BH_len, BH_app, this]
    exact hK
  refine seq_go (ps1 := [some (.ref 0), some A, some R, none, none, none, none, none, none, none]) (h1 := BH rs [("forcing", .ref 1), ("noted", .ref (rs.length + 3)), ("mine", .ref (rs.length + 4)), ("others", .ref (rs.length + 5))] [.dK (dkL Sn fun _ => .bl true), .dK [], .dK []]) (fun K hK => ?_) ?_
  · have : setFW kc_others "others" (.ref 0) (.ref (rs.length + 5)) (BH rs [("forcing", .ref 1), ("noted", .ref (rs.length + 3)), ("mine", .ref (rs.length + 4))] [.dK (dkL Sn fun _ => .bl true), .dK [], .dK []]) = some (BH rs [("forcing", .ref 1), ("noted", .ref (rs.length + 3)), ("mine", .ref (rs.length + 4)), ("others", .ref (rs.length + 5))] [.dK (dkL Sn fun _ => .bl true), .dK [], .dK []]) := by
      rw [setFW_ins (n := 0) (c := "Split") (fs := [("forcing", .ref 1), ("noted", .ref (rs.length + 3)), ("mine", .ref (rs.length + 4))]) rfl k4 (by simp), pfS4]
      rfl
    simp [BH_len, BH_app, this]
    exact hK
  have hrn : mergeW [] (dkL (List.range rs.length) fun _ => W.bl true) = dkL (List.range rs.length) fun _ => .bl true := merge_dk List.nodup_range
  have rgN : rangeW 0 rs.length = nW (List.range rs.length) := by unfold rangeW nW; refine List.map_congr_left fun i _ => by simp
  refine seq_go (ps1 := [some (.ref 0), some A, some R, some (.ref (rs.length + 6)), none, none, none, none, none, none]) (h1 := BH rs [("forcing", .ref 1), ("noted", .ref (rs.length + 3)), ("mine", .ref (rs.length + 4)), ("others", .ref (rs.length + 5))] [.dK (dkL Sn fun _ => .bl true), .dK [], .dK [], .dK (dkL (List.range rs.length) fun _ => .bl true)]) (fun K hK => ?_) ?_
  · simp [wipeW, ixA]
    refine ⟨by omega, ?_⟩
    rw [rgN]
    refine lc_true (by rw [List.length_range]; omega) (fun x hx => ⟨_, rfl, fun Q q => ?_⟩) ?_
    · simp
      exact q
    simp [pairs_true, hrn, BH_len, BH_app]
    exact hK
  refine seq_go (fun K hK => by simp; exact hK) ?_
  refine seq_cut (agE rs Sn A R) ?_ ?_
  · rw [to_while]
    refine while_inv (agW rs Sn A R) ?_ big rs.length _ _ (by unfold big; omega) ⟨List.range rs.length, [], fun _ => 0, fun _ => none, 0, rs.length + 6, _, _, _, _, _, rfl, ⟨rfl, BH_fh, BH_get (k := 0) rfl, BH_get (k := 1) rfl, BH_get (k := 2) rfl⟩, BH_get (k := 3) rfl, Nat.le_refl _, ⟨List.nodup_range, .nil, fun x hx => List.mem_range.mp hx, fun x hx => (by cases hx), fun x hx => .inl (List.mem_range.mpr hx), fun x hx => (by cases hx), fun x hx => (by cases hx), Nat.le_refl _⟩, by simp⟩
    rintro v ps g ⟨L, Lo, ly, mo, layer, ki, s5, s6, s7, s8, s9, rfl, sg, ei, hki, ag, rfl⟩
    have hLl : L.length ≤ rs.length := by
      have := nodup_le (L := List.range rs.length) ag.ndL fun x hx => List.mem_range.mpr (ag.lt x hx)
      rw [List.length_range] at this
      exact this
    have hLol : Lo.length ≤ rs.length := by
      have := nodup_le (L := List.range rs.length) ag.ndO fun x hx => List.mem_range.mpr (ag.sep x hx).1
      rw [List.length_range] at this
      exact this
    simp
    -- goals
    obtain ⟨G, hG⟩ : ∃ G, G = goalsG rs Sn L := ⟨_, rfl⟩
    have ndG : G.Nodup := by rw [hG]; exact ndS.filter _
    have subG : ∀ x ∈ G, x ∈ L := fun x hx => by
      rw [hG] at hx
      have := (List.mem_filter.mp hx).2
      simp only [Bool.and_eq_true, decide_eq_true_eq] at this
      exact this.1
    refine seq_cut (agG A R layer ki s6 s7 s8 s9 g G) ?_ ?_
    · simp [wipeW, itR]
      refine lc_items (gcJ rs Sn L g) ⟨rfl, [], by simp⟩ ?_ ?_
      · rintro i w acc g' ew ⟨rfl, e, rfl⟩
        unfold nW at ew
        rw [List.getElem?_map] at ew
        obtain ⟨x, ex, rfl⟩ := Option.map_eq_some_iff.mp ew
        have hx := ltS x (List.mem_of_getElem? ex)
        have hil := (List.getElem?_eq_some_iff.mp ex).1
        refine ⟨_, rfl, ?_⟩
        have sge := sg.app e
        have eie : (g ++ e)[ki]? = some (.dK (dkL L fun _ => .bl true)) := get_app ei
        have hins : insOf "Forcing" "stays" (.ref 1) (g ++ e) = true := insOf_ins sge.fh.at' rfl
        simp [in_dk eie]
        refine .of (fun hL => ?_) fun hL => ?_
        · simp [sge.forcing, hins]
          refine stays_to hg sge.fh eie hx fun e2 => ?_
          simp
          refine .ofB (fun hb => ?_) fun hb => ?_
          · refine ⟨by have := List.length_filter_le (fun x => decide (x ∈ L) && stB rs L x) (Sn.take i); simp at this ⊢; omega, ?_, e ++ e2, by simp⟩
            rw [take_filter ex]
            simp [hL, hb, nW]
          · refine ⟨?_, e ++ e2, by simp⟩
            rw [take_filter ex]
            simp [hL, hb]
        · refine ⟨?_, e, rfl⟩
          rw [take_filter ex]
          simp [hL]
      · rintro acc g' ⟨rfl, e, rfl⟩
        rw [nW_len, List.take_length]
        refine ⟨e ++ [.lst (nW G)], (g ++ e).length, by simp, by rw [hG]; simp [goalsG], ?_⟩
        rw [hG]
        show ((g ++ e) ++ [OB.lst (nW (goalsG rs Sn L))])[(g ++ e).length]? = _
        simp
    rintro ps g' ⟨e, kg, rfl, rfl, eg⟩
    have sge := sg.app e
    have eie : (g ++ e)[ki]? = some (.dK (dkL L fun _ => .bl true)) := get_app ei
    obtain ⟨g1, hg1⟩ : ∃ g1, g1 = g ++ e := ⟨_, rfl⟩
    rw [← hg1] at sge eie eg ⊢
    -- forced
    refine seq_cut (agH rs Sn G L Lo ly mo A R layer ki kg s7 s8 s9) ?_ ?_
    · have hins : insOf "Forcing" "forced" (.ref 1) g1 = true := insOf_ins sge.fh.at' rfl
      simp [sge.forcing, hins]
      refine forced_to hn hg sge.fh eg eie (by omega) (by omega) ndG ag.ndL subG ag.lt fun O rk mv e2 k fs ek hk => ?_
      have hkl := (List.getElem?_eq_some_iff.mp eie).1
      exact ⟨O, rk, mv, k, rfl, sge.app e2, get_app eie, ek, by omega, fs⟩
    rintro ps g2 ⟨O, rk, mv, kf, rfl, sg2, ei2, ef2, hlt, fs⟩
    rw [hG] at fs
    have hOl : O.length ≤ L.length := nodup_le fs.nd fs.sub
    rw [to_seq, to_sif]
    simp [wLen_dK ei2, wLen_dK ef2, dkL]
    refine .of (fun hl => ?_) fun hl => ?_
    · exact ⟨L, Lo, O, ly, rk, mo, mv, layer, ki, kf, _, _, _, _, rfl, sg2, ei2, ef2, hki, by omega, ag, fs, by omega⟩
    refine seq_cut (agP rs Sn L O (Lo ++ L.filter fun x => !decide (x ∈ O)) (upL L O (pairW ly mo) fun x => .tup [.int (layer : Nat), oW (wayM rs Sn L O x)]) (pairW rk mv) A R layer ki kg kf s7 s8 s9) ?_ ?_
    · have hins : insOf "Split" "put_out" (.ref 0) g2 = true := insOf_ins sg2.sp rfl
      simp [hins]
      exact put_to hn hg sg2 ei2 ef2 hki (by omega) (by omega) ag.ndL ag.lt (fun x hx => (ag.sep x hx).2.1) hLol fun g3 a b c => ⟨rfl, a, b, c⟩
    rintro ps g3 ⟨rfl, sg3, ei3, ef3⟩
    have epw : dkL (Lo ++ L.filter fun x => !decide (x ∈ O)) (upL L O (pairW ly mo) fun x => .tup [.int (layer : Nat), oW (wayM rs Sn L O x)]) = dkL (Lo ++ L.filter fun x => !decide (x ∈ O)) (pairW (upL L O ly fun _ => layer) (upL L O mo (wayM rs Sn L O))) := dk_congr fun i _ => by
      unfold pairW upL
      by_cases c : i ∈ L ∧ i ∉ O <;> simp [c]
    rw [epw] at sg3
    have hOm : mergeW [] (dkL O fun _ => W.bl true) = dkL O fun _ => .bl true := merge_dk fs.nd
    refine seq_cut (agN rs Sn O (Lo ++ L.filter fun x => !decide (x ∈ O)) (pairW (upL L O ly fun _ => layer) (upL L O mo (wayM rs Sn L O))) A R layer kg kf s7 s8 s9) ?_ ?_
    · simp
      refine to_lock (n := kf) rfl ef3 ?_
      have hkf := (List.getElem?_eq_some_iff.mp ef3).1
      have el : (g3.set kf (.lk (dkL O (pairW rk mv))))[kf]? = some (.lk (dkL O (pairW rk mv))) := List.getElem?_set_self hkf
      obtain ⟨g4, hg4⟩ : ∃ g4, g4 = g3.set kf (.lk (dkL O (pairW rk mv))) := ⟨_, rfl⟩
      rw [← hg4] at el ⊢
      simp [wipeW, keys_lk el, dk_keys]
      refine lc_true (by omega) (fun x hx => ⟨_, rfl, fun Q q => ?_⟩) ?_
      · simp
        exact q
      refine ⟨_, el, ?_⟩
      rw [hg4, set_back ef3]
      simp [pairs_true, hOm]
      exact ⟨g3.length, rfl, sg3.app _, by simp, by have := (List.getElem?_eq_some_iff.mp sg3.ot).1; omega⟩
    rintro ps g4 ⟨k, rfl, sg4, ek, hk⟩
    simp
    exact ⟨O.length, by omega, O, _, _, _, layer + 1, k, some (.ref kg), some (.ref kf), s7, s8, s9, by simp, sg4, ek, hk, ag.step hg fs (by omega), rfl⟩
  · rintro ps g ⟨L, Lo, O, ly, rk, mo, mv, layer, ki, kf, s5, s7, s8, s9, rfl, sg, ei, ef, hki, hkf, ag, fs, hl⟩
    obtain ⟨agr, memLo, ltO⟩ := ag.last fs hl
    obtain ⟨l, el⟩ : ∃ l, l = idx (fun i => decide (i ∈ O)) rs.length := ⟨_, rfl⟩
    have hml : ∀ x, x ∈ l → x ∈ O := fun x hx => by
      rw [el] at hx
      simpa using (idx_mem.mp hx).2
    have hll : l.length ≤ rs.length := by rw [el]; exact idx_len
    have ndl : l.Nodup := by rw [el]; exact idx_nd
    have hso := sorted_dkO (n := rs.length) fs.nd ltO ef
    rw [← el] at hso
    rw [to_for]
    simp [hso]
    refine for_items (miJ' rs Sn L O l rk mv A R layer ki kf s5 (dkL Lo (pairW ly mo))) ⟨_, _, _, rfl, by simpa [dkL] using sg, ei, ef⟩ ?_ ?_
    · rintro j w ps g ew ⟨s7, s8, s9, rfl, sg, ei, ef⟩
      unfold nW at ew
      rw [List.getElem?_map] at ew
      obtain ⟨x, ex, rfl⟩ := Option.map_eq_some_iff.mp ew
      have hxO := hml x (List.mem_of_getElem? ex)
      have hx := ltO x hxO
      refine ⟨_, rfl, ?_⟩
      refine seq_go (ps1 := [some (.ref 0), some A, some R, some (.ref ki), some (.int (layer : Nat)), s5, some (.ref kf), some (.int (x : Nat)), some (.int (rk x : Nat)), some (oW (mv x))]) (h1 := g) (fun K hK => ?_) ?_
      · simp [ix_dk ef hxO, pairW, gT]
        exact hK
      refine seq_go (ps1 := [some (.ref 0), some A, some R, some (.ref ki), some (.int (layer : Nat)), s5, some (.ref kf), some (.int (x : Nat)), some (.int (rk x : Nat)), some (oW (mvF rs L rk mv x))]) (h1 := g) (fun K hK => ?_) ?_
      · have hins : insOf "Forcing" "first_within" (.ref 1) g = true := insOf_ins sg.fh.at' rfl
        have eO : (rs[x]?.getD (0, [])).1 = Ow rs x := rfl
        unfold mvF at hK
        rw [to_sif]
        simp
        refine .of (fun h0 => ?_) fun h0 => ?_
        · simp [ixA, room_of hx, encR, at0, eO]
          refine .of (fun ho => ?_) fun ho => ?_
          · rw [if_pos ⟨by omega, ho⟩] at hK
            simp [sg.forcing, hins]
            exact first_to hg sg.fh ei hx hK
          · rw [if_neg (fun z => ho z.2)] at hK
            exact hK
        · rw [if_neg (fun z => h0 (by have := z.1; omega))] at hK
          exact hK
      have hxT : x ∉ l.take j := fun z => by
        obtain ⟨i, hi⟩ := List.getElem?_of_mem z
        have hij : i < j := by have := (List.getElem?_eq_some_iff.mp hi).1; rw [List.length_take] at this; omega
        rw [List.getElem?_take_of_lt hij] at hi
        obtain ⟨h1, h1'⟩ := List.getElem?_eq_some_iff.mp hi
        obtain ⟨h2, h2'⟩ := List.getElem?_eq_some_iff.mp ex
        exact List.pairwise_iff_getElem.mp ndl i j h1 h2 hij (by rw [h1', h2'])
      simp [sg.mine]
      have hlen : (dkL (l.take j) (pairW rk (mvF rs L rk mv))).length < 16777216 := by
        unfold dkL
        rw [List.length_map, List.length_take]
        omega
      rw [setW_dK sg.mi (k := .inl (x : Int)) rfl hlen, put_dk_new hxT, oto_some]
      refine ⟨_, _, _, rfl, ?_, by rw [List.getElem?_set_ne (by omega)]; exact ei, by rw [List.getElem?_set_ne (by omega)]; exact ef⟩
      have : dkL (l.take (j + 1)) (pairW rk (mvF rs L rk mv)) = dkL (l.take j ++ [x]) (updF (pairW rk (mvF rs L rk mv)) x (.tup [.int (rk x : Nat), oW (mvF rs L rk mv x)])) := by
        rw [List.take_succ, ex]
        refine dk_congr fun i _ => ?_
        by_cases c : i = x
        · subst c; rw [updF_same]; rfl
        · rw [updF_ne c]
      rw [this]
      exact sg.setM
    · rintro ps g ⟨s7, s8, s9, rfl, sg, ei, ef⟩
      rw [nW_len, List.take_length, el] at sg
      refine ⟨_, rk, _, Lo, ly, mo, sg, ag.ndO, fun x => ?_, agr⟩
      rw [memLo x]
      simp
end Mir

/-! again, again_rooms: what they answer -/
namespace Mir
open PySem PySem.Spec PyProof.Rows L2
def mvI (mv : Nat → Option Nat) (i : Nat) : Int := match mv i with
  | none => -1
  | some k => (k : Nat)
def rowA (rk : Nat → Nat) (mv : Nat → Option Nat) (i : Nat) : W := .tup [.int (i : Nat), .int (rk i : Nat), .int (mvI mv i)]
theorem told_to {O : List Nat} {n d : Nat} {rk : Nat → Nat} {mv : Nat → Option Nat} {h : PH} {Q : W → PH → Prop} (hn : n ≤ 600) (nd : O.Nodup) (lt : ∀ x ∈ O, x < n) (e : h[d]? = some (.dK (dkL O (pairW rk mv)))) (q : Q (.tup ((idx (fun i => decide (i ∈ O)) n).map (rowA rk mv))) h) : (f_told_rows [.ref d] h).To Q := by
  unfold f_told_rows
  rw [run_to, show startW 2 [W.ref d] = [some (.ref d), none] from rfl]
  unfold b_told_rows
  obtain ⟨l, el⟩ : ∃ l, l = idx (fun i => decide (i ∈ O)) n := ⟨_, rfl⟩
  have hs := sorted_dkO nd lt e
  rw [← el] at hs q
  have hl : l.length ≤ 600 := by rw [el]; exact Nat.le_trans idx_len hn
  simp [hs, wipeW]
  refine lc_map (L := l) (enc := fun i => .int (i : Nat)) (u := rowA rk mv) (by omega) (fun i hi => ⟨_, rfl, fun Q q => ?_⟩) ?_
  · have hO : i ∈ O := by
      rw [el] at hi
      simpa using (idx_mem.mp hi).2
    simp [ix_dk e hO, pairW, at0, at1]
    unfold rowA mvI at q
    cases em : mv i with
    | none =>
      rw [em] at q
      simp [oW]
      exact q
    | some k =>
      rw [em] at q
      simp [oW]
      exact q
  · try simp
    exact q
theorem refs_nW {l : List Nat} : refsWs (nW l) = [] := refs_map _ _ fun i _ => by simp
def ansG (a b : Str) (rows : List W) : W := .tup [.tup [.str a], .tup [.tup [.str b, .tup rows]]]
def ansA (n : Nat) (P : Nat → Bool) (rk : Nat → Nat) (mv : Nat → Option Nat) (ly : Nat → Nat) (mo : Nat → Option Nat) (room : Nat) : W :=
  if P room then ansG "mine" "ranks" ((idx P n).map (rowA rk mv)) else ansG "other" "layers" ((idx (fun i => !P i) n).map (rowA ly mo))
theorem refs_rowA {l : List Nat} {rk : Nat → Nat} {mv : Nat → Option Nat} : refsWs (l.map (rowA rk mv)) = [] := refs_map _ _ fun i _ => by simp [rowA]
theorem refs_ansA {n : Nat} {P : Nat → Bool} {rk : Nat → Nat} {mv : Nat → Option Nat} {ly : Nat → Nat} {mo : Nat → Option Nat} {room : Nat} : refsW (ansA n P rk mv ly mo room) = [] := by
  unfold ansA ansG
  split <;> simp [refs_rowA]
theorem idx_congr {p q : Nat → Bool} {n : Nat} (h : ∀ i, i < n → p i = q i) : idx p n = idx q n := by
  unfold idx
  refine List.filter_congr fun i hi => h i (List.mem_range.mp hi)
abbrev F_again : FM := f_again f_marked (f_need_room f_is_among) F_split f_told_rows
def S_again : FM := lift0 F_again
theorem fits_again : Fits F_again S_again := fits_lift0 _
abbrev F_arooms : FM := f_again_rooms F_split f_marked
def S_arooms : FM := lift0 F_arooms
theorem fits_again_rooms : Fits F_arooms S_arooms := fits_lift0 _
theorem again_all {rs : List Rm} {ks : List (Str × List Int)} {Sn : List Nat} (hn : rs.length ≤ 600) (hg : GRs rs.length rs) (ndS : Sn.Nodup) (ltS : ∀ x ∈ Sn, x < rs.length) {pre post : List (Str × List Int)} {x : Str} (e : ks = pre ++ (x, Sn.map fun i : Nat => (i : Int)) :: post) (hp : ∀ k ∈ pre, k.1 ≠ x) :
    ∃ (P : Nat → Bool) (rk : Nat → Nat) (mv : Nat → Option Nat) (ly : Nat → Nat) (mo : Nat → Option Nat), AgR rs Sn P rk mv ly mo ∧
      (∀ room, room < rs.length → ∀ (h : PH) (Q : W → PH → Prop), Q (ansA rs.length P rk mv ly mo room) h → (S_again [encA rs ks, .str x, .int (room : Nat)] h).To Q) ∧
      ∀ (h : PH) (Q : W → PH → Prop), Q (.tup (nW (idx P rs.length))) h → (S_arooms [encA rs ks, .str x] h).To Q := by
  obtain ⟨w, g, er, rfl, P, rk, mv, Lo, ly, mo, sg, ndLo, hLo, agr⟩ := (split_run (ks := ks) hn hg ndS ltS).is
  have eS : encI (Sn.map fun i : Nat => (i : Int)) = .tup (nW Sn) := by unfold encI; rw [nW_ints]
  have eP : idx (fun i => decide (i ∈ idx P rs.length)) rs.length = idx P rs.length := idx_congr fun i hi => by
    by_cases c : P i = true
    · rw [c]; exact decide_eq_true (idx_mem.mpr ⟨hi, c⟩)
    · rw [Bool.eq_false_iff.mpr c]; exact decide_eq_false fun z => c (idx_mem.mp z).2
  have eL : idx (fun i => decide (i ∈ Lo)) rs.length = idx (fun i => !P i) rs.length := idx_congr fun i hi => by
    cases c : P i with
    | true => exact decide_eq_false fun z => by rw [((hLo i).mp z).2] at c; cases c
    | false => exact decide_eq_true ((hLo i).mpr ⟨hi, c⟩)
  have ltP : ∀ x ∈ idx P rs.length, x < rs.length := fun x hx => (idx_mem.mp hx).1
  refine ⟨P, rk, mv, ly, mo, agr, fun room hr h Q q => ?_, fun h Q q => ?_⟩
  · refine lift0_to (P := fun w => w = ansA rs.length P rk mv ly mo room) (by simp) ?_ fun w z => by rw [z]; exact q
    have run : (F_again [encA rs ks, .str x, .int (room : Nat)] []).To fun w g => w = ansA rs.length P rk mv ly mo room := by
      unfold F_again f_again
      rw [run_to, show startW 5 [encA rs ks, W.str x, W.int (room : Nat)] = [some (encA rs ks), some (.str x), some (.int (room : Nat)), none, none] from rfl]
      unfold b_again
      refine seq_op fun K hK => ?_
      simp
      refine marked_to e hp ?_
      rw [eS]
      refine hK _ _ ?_
      clear hK K
      refine seq_op fun K hK => ?_
      simp
      refine need_to hr hn ?_
      refine hK _ _ ?_
      clear hK K
      refine seq_op fun K hK => ?_
      simp
      rw [er, to_ok]
      refine ⟨rfl, ?_⟩
      refine hK _ _ ?_
      clear hK K
      rw [to_seq, to_sif]
      simp [sg.mine, in_dk sg.mi, idx_mem, hr]
      unfold ansA
      cases c : P room with
      | true =>
        simp
        refine told_to hn idx_nd ltP sg.mi ?_
        rw [eP]
        rfl
      | false =>
        simp [sg.others]
        refine told_to hn ndLo (fun x hx => ((hLo x).mp hx).1) sg.ot ?_
        rw [eL]
        rfl
    exact run.mono fun w g z => ⟨by rw [z]; exact refs_ansA, z⟩
  · refine lift0_to (P := fun w => w = .tup (nW (idx P rs.length))) (by simp) ?_ fun w z => by rw [z]; exact q
    have run : (F_arooms [encA rs ks, .str x] []).To fun w g => w = .tup (nW (idx P rs.length)) := by
      unfold F_arooms f_again_rooms
      rw [run_to, show startW 2 [encA rs ks, W.str x] = [some (encA rs ks), some (.str x)] from rfl]
      unfold b_again_rooms
      simp
      refine marked_to e hp ?_
      rw [eS]
      simp
      rw [er, to_ok]
      have hs := sorted_dkO idx_nd ltP sg.mi
      rw [eP] at hs
      simp [sg.mine, hs]
    exact run.mono fun w g z => ⟨by rw [z, refs_tup, refs_nW], z⟩
end Mir

/-! draws of the laws 39 to 44 -/
namespace Mir
open PySem PySem.Spec PyProof.Rows L2
theorem cell_to (sc : List Int) {k : Int} (h0 : 0 ≤ k) (h1 : k < 1152921504606846976) {h : PH} {Q : W → PH → Prop} (q : ∀ r, 0 ≤ r → Q (.int r) h) : (f_Lcell [.fix (sc.map W.int), .int k] h).To Q := by
  unfold f_Lcell
  rw [run_to, show startW 3 [W.fix (sc.map W.int), W.int k] = [some (.fix (sc.map W.int)), some (.int k), none] from rfl]
  unfold b_Lcell
  refine seq_go (fun K hK => by simp; exact hK) ?_
  refine seq_cut (fun ps g => ∃ z : Int, ps = [some (.fix (sc.map W.int)), some (.int k), some (.int z)] ∧ g = h) ?_ ?_
  · rw [to_sif]
    simp
    by_cases e0 : sc = []
    · subst e0
      simp
    · have hl : 0 < sc.length := List.length_pos_iff.mpr e0
      refine .yes (by omega) ?_
      simp [atI_map]
      refine ⟨hl, oto_at (Int.emod_nonneg _ (by omega)) (Int.emod_lt_of_pos _ (by omega)) fun s _ _ => by first | trivial | exact ⟨_, rfl⟩⟩
  · rintro ps g ⟨z, rfl, rfl⟩
    simp
    refine ⟨by omega, by decide, ?_⟩
    exact q _ (Int.ediv_nonneg (Int.emod_nonneg _ (by decide)) (by decide))
theorem mixed_to {a k : Int} (h0 : 0 ≤ k) (h1 : k < 1152921504606846976) {h : PH} {Q : W → PH → Prop} (q : ∀ r, 0 ≤ r → Q (.int r) h) : (f_Lmixed [.int a, .int k] h).To Q := by
  unfold f_Lmixed
  rw [run_to, show startW 2 [W.int a, W.int k] = [some (.int a), some (.int k)] from rfl]
  unfold b_Lmixed
  simp
  refine ⟨by omega, by decide, ?_⟩
  exact q _ (Int.ediv_nonneg (Int.emod_nonneg _ (by decide)) (by decide))
def nxI (sc : List Int) (m c : Int) (ps : LS) (g : PH) : Prop := ∃ x y : Int, ps = [some (.ref 0), some (.int m), some (.fix (sc.map W.int)), none, none] ∧ g = [.lst [.fix (sc.map W.int), .int x, .int y, .int c]] ∧ 0 ≤ x ∧ 0 ≤ y
def nxV (sc : List Int) (m c : Int) (v : Nat) (ps : LS) (g : PH) : Prop := ∃ x y : Int, ps = [some (.ref 0), some (.int m), some (.fix (sc.map W.int)), none, none] ∧ g = [.lst [.fix (sc.map W.int), .int x, .int y, .int c]] ∧ 0 ≤ x ∧ 0 ≤ y ∧ v = sc.length - x.toNat
def nxR (sc : List Int) (m B : Int) (w : W) (g : PH) : Prop := ∃ r o2, w = .int r ∧ g = [o2] ∧ 0 ≤ r ∧ r < m ∧ Dr sc (B + 1) o2
abbrev F_next : FM := f_Lnext f_Lcell f_Lmixed
theorem next_run (sc : List Int) (hsc : sc.length ≤ 63) {B : Int} {o : OB} (d : Dr sc B o) (hB : B < 576460752303423488) (m : Int) (h1 : 1 ≤ m) (h2 : m < 1152921504606846976) :
    (F_next [.ref 0, .int m] [o]).To (nxR sc m B) := by
  obtain ⟨a, b, c, rfl, ha, hb, hc, hcB⟩ := d
  have hlog := log_lit m (by omega) h2
  unfold F_next f_Lnext
  rw [run_to, show startW 5 [W.ref 0, W.int m] = [some (.ref 0), some (.int m), none, none, none] from rfl]
  unfold b_Lnext
  refine seq_go (fun K hK => by simp [wIx, atI, ixN]; exact hK) ?_
  refine seq_cut (nxI sc m c) ?_ ?_
  · rw [to_sif]
    simp
    by_cases e0 : sc = []
    · subst e0
      simp
      exact ⟨a, b, rfl, rfl, ha, hb⟩
    · have hl : 0 < sc.length := List.length_pos_iff.mpr e0
      simp [e0, atI_map]
      refine oto_at (by decide) (by omega) fun s0 _ _ => ?_
      by_cases e1 : s0 % 2 = 1
      · refine .yes e1 ?_
        refine seq_cut (nxI sc m c) ?_ ?_
        · rw [to_while]
          refine while_inv (nxV sc m c) ?_ big (sc.length - a.toNat) _ _ (by unfold big; omega) ⟨a, b, rfl, rfl, ha, hb, rfl⟩
          rintro v ps g ⟨x, y, rfl, rfl, hx, hy, rfl⟩
          simp [wIx, atI, ixN]
          by_cases c1 : y = 0
          · subst c1
            by_cases c2 : x + 1 < sc.length
            · refine .yes rfl (.yes c2 ?_)
              refine seq_go (fun K hK => by simp [wIx, atI, ixN, setW]; exact hK) ?_
              rw [to_setix]
              simp [wIx, atI_map]
              simp [atI, ixN, setW]
              rw [if_pos (by omega), if_pos c2]
              simp
              have hlt : (x + 1).toNat < sc.length := by omega
              simp [List.getElem?_eq_getElem hlt]
              exact ⟨sc.length - (x + 1).toNat, by omega, x + 1, _, rfl, rfl, by omega, ite_abs _, rfl⟩
            · refine .yes rfl (.no c2 ?_)
              exact ⟨x, 0, rfl, rfl, hx, hy⟩
          · refine .no c1 ?_
            exact ⟨x, y, rfl, rfl, hx, hy⟩
        · rintro ps g ⟨x, y, rfl, rfl, hx, hy⟩
          rw [to_sif]
          simp [wIx, atI, ixN]
          by_cases c1 : 0 < y
          · refine .yes c1 ?_
            refine seq_go (fun K hK => by simp [wIx, atI, ixN]; exact ⟨by omega, hK⟩) ?_
            refine seq_go (fun K hK => by simp [wIx, atI, ixN, setW]; exact ⟨⟨by omega, hlog⟩, hK⟩) ?_
            simp
            exact ⟨_, _, rfl, rfl, Int.emod_nonneg _ (by omega), Int.emod_lt_of_pos _ (by omega), x, y / m, c, rfl, hx, Int.ediv_nonneg hy (by omega), hc, by omega⟩
          · refine .no c1 ?_
            exact ⟨x, y, rfl, rfl, hx, hy⟩
      · refine .no e1 ?_
        exact ⟨a, b, rfl, rfl, ha, hb⟩
  · rintro ps g ⟨x, y, rfl, rfl, hx, hy⟩
    refine seq_go (fun K hK => by simp [wIx, atI, ixN, setW]; exact hK) ?_
    refine seq_op fun K hK => ?_
    simp [wIx, atI, ixN]
    refine cell_to sc (by omega) (by omega) fun z hz => ?_
    refine hK _ _ ?_
    clear hK K
    simp [wIx, atI, ixN]
    refine ⟨by decide, ?_⟩
    refine mixed_to (Int.ediv_nonneg (by omega) (by decide)) (by omega) fun z2 hz2 => ?_
    simp
    refine ⟨by decide, by omega, _, _, rfl, rfl, Int.emod_nonneg _ (by omega), Int.emod_lt_of_pos _ (by omega), x, y, c + 1, rfl, hx, hy, by omega, by omega⟩
def S_next : FM := lift1 F_next
theorem fits_Lnext : Fits F_next S_next := fits_lift1 _
theorem next0 (sc : List Int) (hsc : sc.length ≤ 63) {B : Int} {o : OB} (d : Dr sc B o) (hB : B < 576460752303423488) {m : Int} (h1 : 1 ≤ m) (h2 : m < 1152921504606846976) {g : PH} {Q : W → PH → Prop}
    (q : ∀ r o2, 0 ≤ r → r < m → Dr sc (B + 1) o2 → Q (.int r) (o2 :: g)) : (S_next [.ref 0, .int m] (o :: g)).To Q :=
  lift1_to (n := 0) (P := fun w o2 => ∃ r, w = .int r ∧ 0 ≤ r ∧ r < m ∧ Dr sc (B + 1) o2) rfl d.refs (by simp) ((next_run sc hsc d hB m h1 h2).mono fun w g z => by
    obtain ⟨r, o2, rfl, rfl, z1, z2, z3⟩ := z
    exact ⟨o2, [], rfl, z3.refs, rfl, r, rfl, z1, z2, z3⟩) fun w o2 z => by
      obtain ⟨r, rfl, z1, z2, z3⟩ := z
      exact q r o2 z1 z2 z3
/-! a move -/
theorem price10 {r : Int} (h0 : 0 ≤ r) (h1 : r < 10) : ∃ p : Int, atI [W.int 0, .int 1, .int (-1), .int 2, .int (-2), .int 5, .int (-7), .int 3, .int 1000, .int (-1000)] r = some (.int p) ∧ -1000 ≤ p ∧ p ≤ 1000 := by
  have : r = 0 ∨ r = 1 ∨ r = 2 ∨ r = 3 ∨ r = 4 ∨ r = 5 ∨ r = 6 ∨ r = 7 ∨ r = 8 ∨ r = 9 := by omega
  rcases this with rfl | rfl | rfl | rfl | rfl | rfl | rfl | rfl | rfl | rfl
  all_goals rw [atI_nat _ _ (by decide)]
  · exact ⟨0, rfl, by decide, by decide⟩
  · exact ⟨1, rfl, by decide, by decide⟩
  · exact ⟨-1, rfl, by decide, by decide⟩
  · exact ⟨2, rfl, by decide, by decide⟩
  · exact ⟨-2, rfl, by decide, by decide⟩
  · exact ⟨5, rfl, by decide, by decide⟩
  · exact ⟨-7, rfl, by decide, by decide⟩
  · exact ⟨3, rfl, by decide, by decide⟩
  · exact ⟨1000, rfl, by decide, by decide⟩
  · exact ⟨-1000, rfl, by decide, by decide⟩
theorem move0 (sc : List Int) (hsc : sc.length ≤ 63) {B : Int} {o : OB} (d : Dr sc B o) (hB : B < 288230376151711744) {n : Nat} (h1 : 1 ≤ n) (h2 : n ≤ 600) {g : PH} {Q : W → PH → Prop}
    (q : ∀ m o2, GM' n m → Dr sc (B + 3) o2 → Q (encM m) (o2 :: g)) : (f_Lmove S_next [.ref 0, .int (n : Nat)] (o :: g)).To Q := by
  unfold f_Lmove
  rw [run_to, show startW 3 [W.ref 0, W.int (n : Nat)] = [some (.ref 0), some (.int (n : Nat)), none] from rfl]
  unfold b_Lmove
  refine seq_op fun K hK => ?_
  simp
  refine next0 sc hsc d (by omega) (m := 10) (by decide) (by decide) fun r o2 a1 a2 d2 => ?_
  obtain ⟨p, ep, p1, p2⟩ := price10 a1 a2
  simp [ep]
  refine hK _ _ ?_
  clear hK K
  simp
  refine next0 sc hsc d2 (by omega) (m := n) (by omega) (by omega) fun t o3 b1 b2 d3 => ?_

  refine next0 sc hsc d3 (by omega) (m := 2) (by decide) (by decide) fun u o4 c1 c2 d4 => ?_
  try simp
  exact q (t, p, u) o4 ⟨b1, b2, p1, p2, c1, (by omega : u ≤ 1)⟩ (d4.mono (by omega))
end Mir

/-! the arena of the laws 39 to 44 -/
namespace Mir
open PySem PySem.Spec PyProof.Rows L2
/-- the rooms, their moves at numbers from 2 on -/
def plR (RL : List Rm) : List W := (List.range RL.length).map fun j => .tup [.int (RL.getD j (0, [])).1, .ref (2 + j)]
def mvH (RL : List Rm) : PH := RL.map fun r => .lst (r.2.map encM)
theorem plR_len {RL : List Rm} : (plR RL).length = RL.length := by simp [plR]
theorem plR_snoc {RL : List Rm} {r : Rm} : plR (RL ++ [r]) = plR RL ++ [.tup [.int r.1, .ref (2 + RL.length)]] := by
  unfold plR
  rw [List.length_append, List.length_singleton, List.range_succ, List.map_append]
  congr 1
  · refine List.map_congr_left fun j hj => ?_
    have := List.mem_range.mp hj
    simp [List.getD, List.getElem?_append_left this]
  · simp [List.getD]
theorem plR_get {RL : List Rm} {j : Nat} (hj : j < RL.length) : (plR RL)[j]? = some (.tup [.int (RL.getD j (0, [])).1, .ref (2 + j)]) := by
  unfold plR
  rw [List.getElem?_map, List.getElem?_range hj]
  rfl
def GR4 (n : Nat) (r : Rm) : Prop := 0 ≤ r.1 ∧ r.1 ≤ 1 ∧ r.2.length ≤ 4 ∧ ∀ m ∈ r.2, GM' n m
theorem GR4.gr {n : Nat} {r : Rm} (h : GR4 n r) : GR n r := ⟨h.1, h.2.1, by have := h.2.2.1; omega, h.2.2.2⟩
theorem mvH_get {RL : List Rm} {j : Nat} {o p : OB} {e : PH} (hj : j < RL.length) : (o :: p :: (mvH RL ++ e) : PH)[2 + j]? = some (.lst ((RL.getD j (0, [])).2.map encM)) := by
  have : 2 + j = j + 1 + 1 := by omega
  rw [this, List.getElem?_cons_succ, List.getElem?_cons_succ, List.getElem?_append_left (by simp [mvH]; exact hj)]
  unfold mvH
  rw [List.getElem?_map]
  simp [List.getD, List.getElem?_eq_getElem hj]
theorem mvH_set {RL : List Rm} {j : Nat} {o p : OB} {e : PH} {ms : List Mv} (hj : j < RL.length) : (o :: p :: (mvH RL ++ e) : PH).set (2 + j) (.lst (ms.map encM)) = o :: p :: (mvH (RL.set j ((RL.getD j (0, [])).1, ms)) ++ e) := by
  have : 2 + j = j + 1 + 1 := by omega
  rw [this, List.set_cons_succ, List.set_cons_succ, List.set_append_left _ _ (by simp [mvH]; exact hj)]
  unfold mvH
  rw [List.map_set]
theorem plR_set {RL : List Rm} {j : Nat} {ms : List Mv} (hj : j < RL.length) : plR (RL.set j ((RL.getD j (0, [])).1, ms)) = plR RL := by
  unfold plR
  rw [List.length_set]
  refine List.map_congr_left fun i hi => ?_
  by_cases e : j = i
  · subst e
    simp [List.getD, List.getElem?_set_self hj]
  · simp [List.getD, List.getElem?_set_ne e]
def a1I (sc : List Int) (B : Int) (n : Nat) (S1 : W) (i : Nat) (ps : LS) (g : PH) : Prop := ∃ (o : OB) (RL : List Rm) (s4 s5 s6 s7 : Option W), ps = [some (.ref 0), some S1, some (.int (n : Nat)), some (.ref 1), s4, s5, s6, s7, none, none, none, none, none, none, none] ∧ g = o :: .lst (plR RL) :: mvH RL ∧ RL.length = i ∧ (∀ r ∈ RL, 0 ≤ r.1 ∧ r.1 ≤ 1 ∧ r.2.length ≤ 3 ∧ ∀ m ∈ r.2, GM' n m) ∧ Dr sc (B + 11 * i) o
def a1J (sc : List Int) (B : Int) (n : Nat) (S1 : W) (RL : List Rm) (i ow : Int) (j : Nat) (ps : LS) (g : PH) : Prop := ∃ (o : OB) (ms : List Mv) (s7 : Option W), ps = [some (.ref 0), some S1, some (.int (n : Nat)), some (.ref 1), some (.int i), some (.int ow), some (.ref (RL.length + 2)), s7, none, none, none, none, none, none, none] ∧ g = o :: .lst (plR RL) :: (mvH RL ++ [.lst (ms.map encM)]) ∧ ms.length = j ∧ (∀ m ∈ ms, GM' n m) ∧ Dr sc (B + 3 * j) o
def a1K (sc : List Int) (B : Int) (n : Nat) (S1 : W) (RL : List Rm) (i ow : Int) (ps : LS) (g : PH) : Prop := ∃ k, k ≤ 3 ∧ a1J sc B n S1 RL i ow k ps g
def a2I (n : Nat) (S1 : W) (o : OB) (ps : LS) (g : PH) : Prop := ∃ (RL : List Rm) (s4 s5 s6 s7 s8 s9 s10 : Option W), ps = [some (.ref 0), some S1, some (.int (n : Nat)), some (.ref 1), s4, s5, s6, s7, s8, s9, s10, none, none, none, none] ∧ g = o :: .lst (plR RL) :: mvH RL ∧ RL.length = n ∧ ∀ r ∈ RL, GR4 n r
def a3I (sc : List Int) (B : Int) (n : Nat) (S1 : W) (RL : List Rm) (s5 s6 s7 s8 s9 s10 : Option W) (i : Nat) (ps : LS) (g : PH) : Prop := ∃ (o : OB) (g1 g2 : List Int) (s4 s12 s13 : Option W), ps = [some (.ref 0), some S1, some (.int (n : Nat)), some (.ref 1), s4, s5, s6, s7, s8, s9, s10, some (.fix [.ref (n + 2), .ref (n + 3)]), s12, s13, none] ∧ g = o :: .lst (plR RL) :: (mvH RL ++ [.lst (g1.map W.int), .lst (g2.map W.int)]) ∧ incr i g1 ∧ incr i g2 ∧ g1.length ≤ i ∧ g2.length ≤ i ∧ Dr sc (B + 2 * i) o
def mkG (i t : Nat) (c : Nat) (l : List Int) : Prop := incr (i + 1) l ∧ l.length ≤ i + 1 ∧ (t ≤ c → incr i l ∧ l.length ≤ i)
def a3J (sc : List Int) (B : Int) (n : Nat) (S1 : W) (RL : List Rm) (s5 s6 s7 s8 s9 s10 : Option W) (i t : Nat) (ps : LS) (g : PH) : Prop := ∃ (o : OB) (g1 g2 : List Int) (s12 s13 : Option W), ps = [some (.ref 0), some S1, some (.int (n : Nat)), some (.ref 1), some (.int (i : Nat)), s5, s6, s7, s8, s9, s10, some (.fix [.ref (n + 2), .ref (n + 3)]), s12, s13, none] ∧ g = o :: .lst (plR RL) :: (mvH RL ++ [.lst (g1.map W.int), .lst (g2.map W.int)]) ∧ mkG i t 0 g1 ∧ mkG i t 1 g2 ∧ Dr sc (B + t) o
/-- a comprehension over a list of the heap -/
theorem lc_mapL' {α : Type} {n fuel : Nat} {h : PH} {Ql : List W → PH → Prop} {psw : LS} {g : GM} {te : EM} {L : List α} {enc u : α → W} (hl : L.length ≤ 1000000) (hf : L.length < fuel) (e : h[n]? = some (.lst (L.map enc))) (he : ∀ a ∈ L, ∃ ps1, g (enc a) psw = some ps1 ∧ ∀ Q : W → PH → Prop, Q (u a) h → (te ps1 h).To Q) (q : Ql (L.map u) h) :
    (lcGo (itL n fuel) g mYes te psw (itL n fuel).fuel 0 [] h).To Ql := by
  refine lc_live (items := L.map enc) (by simpa using hf) (fun i acc g' => acc = (L.take i).map u ∧ g' = h) (fun i acc g' z => by rw [z.2]; exact e) ⟨rfl, rfl⟩ ?_ ?_
  · rintro i w acc g' ei ⟨rfl, rfl⟩
    rw [List.getElem?_map] at ei
    obtain ⟨a, ea, rfl⟩ := Option.map_eq_some_iff.mp ei
    have hi := (List.getElem?_eq_some_iff.mp ea).1
    obtain ⟨ps1, e1, e2⟩ := he a (List.mem_of_getElem? ea)
    refine ⟨ps1, e1, ?_⟩
    rw [to_yes, Ite_true]
    refine e2 _ ⟨by simp; omega, ?_, rfl⟩
    rw [List.take_succ, ea]
    simp
  · rintro acc g' ⟨rfl, rfl⟩
    have : L.take (L.map enc).length = L := List.take_of_length_le (by simp)
    rw [this]
    exact q
def GA2 (most : Int) (rs : List Rm) (ks : List (Str × List Int)) : Prop := ∃ (n : Nat) (g1 g2 : List Int), 1 ≤ n ∧ (n : Int) ≤ most ∧ rs.length = n ∧ (∀ r ∈ rs, GR4 n r) ∧ ks = [(PySem.Str.ofString "goal", g1), (PySem.Str.ofString "other", g2)] ∧ GI n g1 ∧ GI n g2
def a2R (sc : List Int) (B most : Int) (w : W) (g : PH) : Prop := ∃ (o2 : OB) (g2 : PH) (rs : List Rm) (ks : List (Str × List Int)), g = o2 :: g2 ∧ w = encA rs ks ∧ GA2 most rs ks ∧ Dr sc (B + 100000) o2
theorem set0' {o o2 : OB} {r : PH} : (o :: r : PH).set 0 o2 = o2 :: r := rfl
theorem six {r : Int} (h0 : 0 ≤ r) (h1 : r < 6) : ∃ k : Nat, atI [W.int 1, .int 2, .int 2, .int 3, .int 0, .int 1] r = some (.int (k : Nat)) ∧ k ≤ 3 := by
  have : r = 0 ∨ r = 1 ∨ r = 2 ∨ r = 3 ∨ r = 4 ∨ r = 5 := by omega
  rcases this with rfl | rfl | rfl | rfl | rfl | rfl
  all_goals rw [atI_nat _ _ (by decide)]
  · exact ⟨1, rfl, by decide⟩
  · exact ⟨2, rfl, by decide⟩
  · exact ⟨2, rfl, by decide⟩
  · exact ⟨3, rfl, by decide⟩
  · exact ⟨0, rfl, by decide⟩
  · exact ⟨1, rfl, by decide⟩
abbrev F_arena2 : FM := f_Larena S_next (f_Lmove S_next)
theorem arena2_run (sc : List Int) (hsc : sc.length ≤ 63) {B : Int} {o : OB} (d : Dr sc B o) (hB : B < 144115188075855872) (most : Int) (h1 : 1 ≤ most) (h2 : most ≤ 600) :
    (F_arena2 [.ref 0, .int most] [o]).To (a2R sc B most) := by
  unfold F_arena2 f_Larena
  rw [run_to, show startW 15 [W.ref 0, W.int most] = [some (.ref 0), some (.int most), none, none, none, none, none, none, none, none, none, none, none, none, none] from rfl]
  unfold b_Larena
  refine seq_op fun K hK => ?_
  simp
  refine next0 sc hsc d (by omega) h1 (by omega) fun r o1 a1 a2 d1 => ?_
  obtain ⟨n, rfl⟩ : ∃ n : Nat, r = (n : Int) - 1 := ⟨(r + 1).toNat, by omega⟩
  have hn1 : 1 ≤ n := by omega
  have hn2 : n ≤ 600 := by omega
  simp
  rw [show (1 : Int) + ((n : Int) - 1) = (n : Int) by omega]
  refine hK _ _ ?_
  clear hK K
  refine seq_go (ps1 := [some (.ref 0), some (.int most), some (.int (n : Nat)), some (.ref 1), none, none, none, none, none, none, none, none, none, none, none]) (h1 := [o1, .lst []]) (fun K hK => ?_) ?_
  · simp
    exact hK
  refine seq_cut (a1I sc (B + 1) n (.int most) n) ?_ ?_
  · rw [to_for]
    simp
    refine ⟨by omega, ?_⟩
    refine for_items (a1I sc (B + 1) n (.int most)) ⟨o1, [], _, _, _, _, rfl, rfl, rfl, fun _ z => (by cases z), by simpa using d1⟩ ?_ fun ps g z => by rw [range_len] at z; exact z
    rintro i w ps g ei ⟨o2, RL, s4, s5, s6, s7, rfl, rfl, hl, hR, d2⟩
    obtain ⟨hi, rfl⟩ := range_get ei
    refine ⟨_, rfl, ?_⟩
    rw [show (0 : Int) + (i : Int) = ((i : Nat) : Int) by omega]
    refine seq_op fun K hK => ?_
    simp
    refine next0 sc hsc d2 (by omega) (m := 2) (by decide) (by decide) fun ow o3 b1 b2 d3 => ?_
    refine hK _ _ ?_
    clear hK K
    have hlen : (mvH RL).length = RL.length := by simp [mvH]
    refine seq_go (ps1 := [some (.ref 0), some (.int most), some (.int (n : Nat)), some (.ref 1), some (.int (i : Int)), some (.int ow), some (.ref (RL.length + 2)), s7, none, none, none, none, none, none, none]) (h1 := o3 :: .lst (plR RL) :: (mvH RL ++ [.lst []])) (fun K hK => ?_) ?_
    · simp [hlen]
      simpa using hK
    refine seq_cut (a1K sc (B + 1 + 11 * i + 2) n (.int most) RL (i : Int) ow) ?_ ?_
    · rw [to_for]
      simp
      refine next0 sc hsc d3 (by omega) (m := 6) (by decide) (by decide) fun r6 o4 c1 c2 d4 => ?_
      obtain ⟨k, ek, hk⟩ := six c1 c2
      simp [ek]
      refine ⟨by omega, ?_⟩
      refine for_items (a1J sc (B + 1 + 11 * i + 2) n (.int most) RL (i : Int) ow) ⟨o4, [], s7, by simp, rfl, rfl, fun _ z => (by cases z), by simpa using d4.mono (by omega)⟩ ?_ fun ps g z => by rw [range_len] at z; exact ⟨k, hk, z⟩
      rintro j w ps g ej ⟨o5, ms, s7, rfl, rfl, hm, hM, d5⟩
      obtain ⟨hj, rfl⟩ := range_get ej
      refine ⟨_, rfl, ?_⟩
      have e0 : ∀ o, (o :: OB.lst (plR RL) :: (mvH RL ++ [.lst (ms.map encM)]) : PH)[RL.length + 2]? = some (.lst (ms.map encM)) := fun o => by
        rw [List.getElem?_cons_succ, List.getElem?_cons_succ, List.getElem?_append_right (by rw [hlen]; omega), hlen, Nat.sub_self]
        rfl
      rw [to_drop, to_mt, to_var]
      refine ⟨_, rfl, tyW_lst (e0 o5), ?_⟩
      simp
      refine move0 sc hsc d5 (by omega) hn1 hn2 fun m o6 hm6 d6 => ?_
      rw [wAppend_lst (e0 o6), if_pos (by rw [List.length_map]; omega), pto_some]
      refine ⟨o6, ms ++ [m], _, rfl, ?_, by simp [hm], fun m' hm' => ?_, d6.mono (by omega)⟩
      · rw [List.set_cons_succ, List.set_cons_succ, List.set_append_right _ _ (by rw [hlen]; omega), hlen, Nat.sub_self]
        simp
      · rcases List.mem_append.mp hm' with z | z
        · exact hM m' z
        · rw [List.mem_singleton.mp z]; exact hm6
    rintro ps g ⟨k, hk, o5, ms, s7, rfl, rfl, hm, hM, d5⟩
    have e0 : ∀ o e, (o :: OB.lst (plR RL) :: e : PH)[1]? = some (.lst (plR RL)) := fun _ _ => rfl
    rw [to_drop, to_mt, to_var]
    refine ⟨_, rfl, tyW_lst (e0 _ _), ?_⟩
    simp
    rw [wAppend_lst (e0 _ _), if_pos (by rw [plR_len]; omega), pto_some]
    refine ⟨o5, RL ++ [(ow, ms)], _, _, _, _, rfl, ?_, by simp [hl], fun r hr => ?_, d5.mono (by omega)⟩
    · rw [plR_snoc]
      simp [mvH, Nat.add_comm]
    · rcases List.mem_append.mp hr with z | z
      · exact hR r z
      · rw [List.mem_singleton.mp z]
        exact ⟨b1, by simp only; omega, by simp only; omega, hM⟩
  rintro ps g ⟨o2, RL, s4, s5, s6, s7, rfl, rfl, hl, hR, d2⟩
  have hR4 : ∀ r ∈ RL, GR4 n r := fun r hr => ⟨(hR r hr).1, (hR r hr).2.1, by have := (hR r hr).2.2.1; omega, (hR r hr).2.2.2⟩
  refine seq_cut (a2I n (.int most) o2) ?_ ?_
  · obtain ⟨x, y, c, rfl, hx, hy, hc, hcB⟩ := d2
    rw [to_for]
    have i0 : ∀ (z : OB) (e : PH) (j : Int) (l : List W), wIx (.ref 0) (.int j) (.lst l :: e) = (atI l j).map fun w => (w, .lst l :: e) := fun z e j l => wIx_lst rfl
    simp [i0 (.lst []), at0, at1]
    have hsl : ∀ h, wSl (.fix (sc.map W.int)) (some (x + 1)) (some 63) h = some (.fix (cutW (sc.map W.int) (some (x + 1)) (some 63)), h) := fun h => rfl
    simp [hsl]
    refine for_items (fun _ => a2I n (.int most) (.lst [.fix (sc.map W.int), .int x, .int y, .int c])) ⟨RL, _, _, _, _, _, _, _, rfl, rfl, hl, hR4⟩ ?_ fun ps g z => z
    rintro i w ps g ei ⟨RL, s4, s5, s6, s7, s8, s9, s10, rfl, rfl, hl, hR4⟩
    have hw : w ∈ sc.map W.int := by
      have := List.mem_of_getElem? ei
      unfold cutW at this
      exact List.mem_of_mem_drop (List.mem_of_mem_take this)
    obtain ⟨cell, _, rfl⟩ := List.mem_map.mp hw
    refine ⟨_, rfl, ?_⟩
    obtain ⟨z, hz⟩ : ∃ z : Int, z = cell % 2147483647 := ⟨_, rfl⟩
    have hz0 : 0 ≤ z := by rw [hz]; exact Int.emod_nonneg _ (by decide)
    obtain ⟨D, hD⟩ : ∃ D : OB, D = .lst [.fix (sc.map W.int), .int x, .int y, .int c] := ⟨_, rfl⟩
    rw [← hD]
    refine seq_go (fun K hK => by simp; rw [← hz]; exact hK) ?_
    obtain ⟨j, hj⟩ : ∃ j : Nat, z % n = j := ⟨(z % n).toNat, by have := Int.emod_nonneg z (show (n : Int) ≠ 0 by omega); omega⟩
    have hjn : j < RL.length := by have := Int.emod_lt_of_pos z (show (0 : Int) < n by omega); omega
    obtain ⟨ow, ms, hr⟩ : ∃ ow ms, RL.getD j (0, []) = (ow, ms) := ⟨_, _, rfl⟩
    have hrm : (ow, ms) ∈ RL := by
      rw [← hr]
      simp [List.getD, List.getElem?_eq_getElem hjn]
    obtain ⟨r0, r1, r2, r3⟩ := hR4 _ hrm
    have r2 : ms.length ≤ 4 := r2
    have pl1 : (D :: OB.lst (plR RL) :: mvH RL : PH)[1]? = some (.lst (plR RL)) := rfl
    have ixp : wIx (.ref 1) (.int (j : Nat)) (D :: OB.lst (plR RL) :: mvH RL) = some (.tup [.int ow, .ref (2 + j)], D :: .lst (plR RL) :: mvH RL) := by
      rw [wIx_lst pl1, atI_nat _ _ (by omega), Int.toNat_natCast, plR_get hjn, hr]
      rfl
    refine seq_go (ps1 := [some (.ref 0), some (.int most), some (.int (n : Nat)), some (.ref 1), s4, some (.int ow), some (.ref (2 + j)), s7, some (.int cell), some (.int z), s10, none, none, none, none]) (h1 := D :: .lst (plR RL) :: mvH RL) (fun K hK => ?_) ?_
    · simp
      refine ⟨by omega, ?_⟩
      rw [hj, ixp]
      simp [gT]
      exact hK
    obtain ⟨mh, hmh⟩ : ∃ mh : Mv, mh = (z / 64 % n, z / 4096 % 9 - 4, z / 40960 % 2) := ⟨_, rfl⟩
    have gm : GM' n mh := by
      rw [hmh]
      have a1 := Int.emod_nonneg (z / 64) (show (n : Int) ≠ 0 by omega)
      have a2 := Int.emod_lt_of_pos (z / 64) (show (0 : Int) < n by omega)
      have a3 := Int.emod_nonneg (z / 4096) (show (9 : Int) ≠ 0 by omega)
      have a4 := Int.emod_lt_of_pos (z / 4096) (show (0 : Int) < 9 by omega)
      have a5 := Int.emod_nonneg (z / 40960) (show (2 : Int) ≠ 0 by omega)
      have a6 := Int.emod_lt_of_pos (z / 40960) (show (0 : Int) < 2 by omega)
      exact ⟨a1, a2, by simp only; omega, by simp only; omega, by simp only; omega, by simp only; omega⟩
    refine seq_go (ps1 := [some (.ref 0), some (.int most), some (.int (n : Nat)), some (.ref 1), s4, some (.int ow), some (.ref (2 + j)), s7, some (.int cell), some (.int z), some (encM mh), none, none, none, none]) (h1 := D :: .lst (plR RL) :: mvH RL) (fun K hK => ?_) ?_
    · simp
      refine ⟨by decide, by omega, by decide, by decide, ?_⟩
      rw [hmh] at hK
      exact hK
    have ml : (D :: OB.lst (plR RL) :: mvH RL : PH)[2 + j]? = some (.lst (ms.map encM)) := by
      have := mvH_get (o := D) (p := .lst (plR RL)) (e := []) hjn
      rw [List.append_nil, hr] at this
      exact this
    have mset : ∀ ms' : List Mv, (D :: OB.lst (plR RL) :: mvH RL : PH).set (2 + j) (.lst (ms'.map encM)) = D :: .lst (plR (RL.set j (ow, ms'))) :: mvH (RL.set j (ow, ms')) := fun ms' => by
      have := mvH_set (o := D) (p := .lst (plR RL)) (e := []) (ms := ms') hjn
      have p2 := plR_set (ms := ms') hjn
      rw [List.append_nil, hr, List.append_nil] at this
      rw [hr] at p2
      rw [this, p2]
    have fin : ∀ ms' : List Mv, ms'.length ≤ 4 → (∀ m ∈ ms', GM' n m) → a2I n (.int most) D [some (.ref 0), some (.int most), some (.int (n : Nat)), some (.ref 1), s4, some (.int ow), some (.ref (2 + j)), s7, some (.int cell), some (.int z), some (encM mh), none, none, none, none] ((D :: OB.lst (plR RL) :: mvH RL : PH).set (2 + j) (.lst (ms'.map encM))) := fun ms' hl' hM' => by
      refine ⟨RL.set j (ow, ms'), _, _, _, _, _, _, _, rfl, mset ms', by rw [List.length_set]; exact hl, fun r hr2 => ?_⟩
      rcases List.mem_or_eq_of_mem_set hr2 with q | q
      · exact hR4 r q
      · rw [q]; exact ⟨r0, r1, hl', hM'⟩
    have hpl : plWs 2 (ms.map encM) = true := pls_map _ _ fun m _ => by simp [encM]
    have hne : wNe (.ref (2 + j)) (.fix []) (D :: OB.lst (plR RL) :: mvH RL) = some (.bl (!decide (ms = [])), D :: .lst (plR RL) :: mvH RL) := by
      unfold wNe
      rw [eqB_lst (k := 2) (m := 1) ml hpl (by simp) (by decide) (by decide)]
      show some (W.bl _, _) = _
      congr 4
      refine decide_eq_decide.mpr ⟨fun z => ?_, fun z => by rw [z]; rfl⟩
      have := W.fix.inj z
      cases ms with
      | nil => rfl
      | cons a r => cases this
    have app : ms.length < 4 → ((sDrop (mMt "list" wAppend (mVar 6) (mCons (mVar 10) mNil))) [some (.ref 0), some (.int most), some (.int (n : Nat)), some (.ref 1), s4, some (.int ow), some (.ref (2 + j)), s7, some (.int cell), some (.int z), some (encM mh), none, none, none, none] (D :: OB.lst (plR RL) :: mvH RL)).To (a2I n (.int most) D) (a2R sc B most) (a2I n (.int most) D) (a2I n (.int most) D) := fun h4 => by
      rw [to_drop, to_mt, to_var]
      refine ⟨_, rfl, tyW_lst ml, ?_⟩
      rw [to_cons, to_var]
      refine ⟨_, rfl, ?_⟩
      rw [to_nil, wAppend_lst ml, if_pos (by rw [List.length_map]; omega), pto_some]
      have : ms.map encM ++ [encM mh] = (ms ++ [mh]).map encM := by simp
      rw [this]
      exact fin _ (by simp; omega) fun m hm => by
        rcases List.mem_append.mp hm with q | q
        · exact r3 m q
        · rw [List.mem_singleton.mp q]; exact gm
    have put : ms ≠ [] → ((sSetIx (mVar 10) (mVar 6) (mOp wMod (mOp wFdiv (mVar 9) (mC (.int 163840))) (mCall wLen (mCons (mVar 6) mNil)))) [some (.ref 0), some (.int most), some (.int (n : Nat)), some (.ref 1), s4, some (.int ow), some (.ref (2 + j)), s7, some (.int cell), some (.int z), some (encM mh), none, none, none, none] (D :: OB.lst (plR RL) :: mvH RL)).To (a2I n (.int most) D) (a2R sc B most) (a2I n (.int most) D) (a2I n (.int most) D) := fun hne2 => by
      have hl0 : 0 < ms.length := List.length_pos_iff.mpr hne2
      have a1 := Int.emod_nonneg (z / 163840) (show (ms.length : Int) ≠ 0 by omega)
      have a2 := Int.emod_lt_of_pos (z / 163840) (show (0 : Int) < ms.length by omega)
      simp [wLen_lst ml]
      refine ⟨by decide, hl0, ?_⟩
      rw [setW_lst ml a1 (by rw [List.length_map]; omega), oto_some]
      rw [← List.map_set]
      exact fin _ (by rw [List.length_set]; exact r2) fun m hm => by
        rcases List.mem_or_eq_of_mem_set hm with q | q
        · exact r3 m q
        · rw [q]; exact gm
    rw [to_sif]
    generalize (sDrop (mMt "list" wAppend (mVar 6) (mCons (mVar 10) mNil))) = MA at app ⊢
    generalize (sSetIx (mVar 10) (mVar 6) (mOp wMod (mOp wFdiv (mVar 9) (mC (.int 163840))) (mCall wLen (mCons (mVar 6) mNil)))) = MB at put ⊢
    simp [hne, wLen_lst ml]
    by_cases hm0 : ms = []
    · rw [decide_eq_true hm0, Ite_true]
      exact app (by rw [hm0]; decide)
    · rw [decide_eq_false hm0, Ite_false]
      refine .of (fun h4 => put hm0) fun h4 => ?_
      refine ⟨by decide, ?_⟩
      refine .of (fun _ => put hm0) fun _ => app (by omega)
  rintro ps g ⟨RL, s4, s5, s6, s7, s8, s9, s10, rfl, rfl, hl, hR4⟩
  have hlen : (mvH RL).length = n := by simp [mvH, hl]
  refine seq_go (ps1 := [some (.ref 0), some (.int most), some (.int (n : Nat)), some (.ref 1), s4, s5, s6, s7, s8, s9, s10, some (.fix [.ref (n + 2), .ref (n + 3)]), none, none, none]) (h1 := o2 :: .lst (plR RL) :: (mvH RL ++ [.lst [], .lst []])) (fun K hK => ?_) ?_
  · simp [hlen]
    simpa using hK
  refine seq_cut (a3I sc (B + 1 + 11 * n) n (.int most) RL s5 s6 s7 s8 s9 s10 n) ?_ ?_
  · rw [to_for]
    simp
    refine ⟨by omega, ?_⟩
    refine for_items (a3I sc (B + 1 + 11 * n) n (.int most) RL s5 s6 s7 s8 s9 s10) ⟨o2, [], [], _, _, _, rfl, rfl, ⟨.nil, fun _ z => (by cases z)⟩, ⟨.nil, fun _ z => (by cases z)⟩, Nat.zero_le _, Nat.zero_le _, by simpa using d2⟩ ?_ fun ps g z => by rw [range_len] at z; exact z
    rintro i w ps g ei ⟨o3, g1, g2, s4, s12, s13, rfl, rfl, i1, i2, l1, l2, d3⟩
    obtain ⟨hi, rfl⟩ := range_get ei
    refine ⟨_, rfl, ?_⟩
    rw [show (0 : Int) + (i : Int) = ((i : Nat) : Int) by omega]
    rw [to_for]
    simp [zipLT, lstIt]
    refine for_zip (fun t => a3J sc (B + 1 + 11 * n + 2 * i) n (.int most) RL s5 s6 s7 s8 s9 s10 i t) ⟨o3, g1, g2, _, _, rfl, rfl, ⟨i1.up (by omega), by omega, fun _ => ⟨i1, l1⟩⟩, ⟨i2.up (by omega), by omega, fun _ => ⟨i2, l2⟩⟩, by simpa using d3⟩ ?_ ?_
    · rintro t x y ps g ex ey ⟨o4, g1, g2, s12, s13, rfl, rfl, ⟨i1, l1, p1⟩, ⟨i2, l2, p2⟩, d4⟩
      have hg : ∀ (o : OB) (k : Nat) (ob : OB), ([OB.lst (g1.map W.int), .lst (g2.map W.int)] : PH)[k]? = some ob → (o :: OB.lst (plR RL) :: (mvH RL ++ [.lst (g1.map W.int), .lst (g2.map W.int)]) : PH)[n + 2 + k]? = some ob := fun o k ob e => by
        rw [show n + 2 + k = (n + k) + 1 + 1 by omega, List.getElem?_cons_succ, List.getElem?_cons_succ, List.getElem?_append_right (by rw [hlen]; omega), hlen, show n + k - n = k by omega]
        exact e
      have hs : ∀ (o : OB) (k : Nat) (ob : OB), (o :: OB.lst (plR RL) :: (mvH RL ++ [.lst (g1.map W.int), .lst (g2.map W.int)]) : PH).set (n + 2 + k) ob = o :: OB.lst (plR RL) :: (mvH RL ++ ([OB.lst (g1.map W.int), .lst (g2.map W.int)] : PH).set k ob) := fun o k ob => by
        rw [show n + 2 + k = (n + k) + 1 + 1 by omega, List.set_cons_succ, List.set_cons_succ, List.set_append_right _ _ (by rw [hlen]; omega), hlen, show n + k - n = k by omega]
      match t, ex, ey with
      | 0, ex, ey =>
        cases ex
        cases ey
        refine ⟨_, rfl, ?_⟩
        rw [to_sif]
        simp
        refine next0 sc hsc d4 (by omega) (m := 3) (by decide) (by decide) fun r o5 a1 a2 d5 => ?_
        simp
        refine .of (fun _ => ?_) fun _ => ?_
        · have e0 := hg o5 0 _ rfl
          rw [tyW_lst e0, wAppend_lst e0, if_pos (by rw [List.length_map]; omega), pto_some, hs o5 0]
          refine ⟨rfl, o5, g1 ++ [(i : Int)], g2, _, _, rfl, by simp, ⟨(p1 (Nat.le_refl _)).1.snoc, ?_, fun z => absurd z (by decide)⟩, ⟨i2, l2, fun _ => p2 (by decide)⟩, d5.mono (by omega)⟩
          have := (p1 (Nat.le_refl _)).2
          simp
          omega
        · exact ⟨o5, g1, g2, _, _, rfl, rfl, ⟨i1, l1, fun z => absurd z (by decide)⟩, ⟨i2, l2, fun _ => p2 (by decide)⟩, d5.mono (by omega)⟩
      | 1, ex, ey =>
        cases ex
        cases ey
        refine ⟨_, rfl, ?_⟩
        rw [to_sif]
        simp
        refine next0 sc hsc d4 (by omega) (m := 2) (by decide) (by decide) fun r o5 a1 a2 d5 => ?_
        simp
        refine .of (fun _ => ?_) fun _ => ?_
        · have e0 := hg o5 1 _ rfl
          rw [tyW_lst e0, wAppend_lst e0, if_pos (by rw [List.length_map]; omega), pto_some, hs o5 1]
          refine ⟨rfl, o5, g1, g2 ++ [(i : Int)], _, _, rfl, by simp, ⟨i1, l1, fun z => absurd z (by decide)⟩, ⟨(p2 (by decide)).1.snoc, ?_, fun z => absurd z (by decide)⟩, d5.mono (by omega)⟩
          have := (p2 (by decide)).2
          simp
          omega
        · exact ⟨o5, g1, g2, _, _, rfl, rfl, ⟨i1, l1, fun z => absurd z (by decide)⟩, ⟨i2, l2, fun z => absurd z (by decide)⟩, d5.mono (by omega)⟩
      | t + 2, ex, ey => simp at ex
    · rintro ps g ⟨o4, g1, g2, s12, s13, rfl, rfl, ⟨i1, l1, p1⟩, ⟨i2, l2, p2⟩, d4⟩
      exact ⟨o4, g1, g2, _, _, _, rfl, rfl, i1, i2, l1, l2, d4.mono (by simp; omega)⟩
  rintro ps g ⟨o3, g1, g2, s4', s12, s13, rfl, rfl, i1, i2, l1, l2, d3⟩
  obtain ⟨g, hg⟩ : ∃ g, g = o3 :: OB.lst (plR RL) :: (mvH RL ++ [.lst (g1.map W.int), .lst (g2.map W.int)]) := ⟨_, rfl⟩
  have e1 : g[1]? = some (.lst (plR RL)) := by rw [hg]; rfl
  have eg : ∀ (k : Nat) (ob : OB), ([OB.lst (g1.map W.int), .lst (g2.map W.int)] : PH)[k]? = some ob → g[n + 2 + k]? = some ob := fun k ob e => by
    rw [hg, show n + 2 + k = (n + k) + 1 + 1 by omega, List.getElem?_cons_succ, List.getElem?_cons_succ, List.getElem?_append_right (by rw [hlen]; omega), hlen, show n + k - n = k by omega]
    exact e
  have em : ∀ j, j < RL.length → g[2 + j]? = some (.lst ((RL.getD j (0, [])).2.map encM)) := fun j hj => by rw [hg]; exact mvH_get hj
  rw [← hg]
  have ePl : plR RL = (List.range RL.length).map fun j => .tup [.int (RL.getD j (0, [])).1, .ref (2 + j)] := rfl
  refine seq_go (ps1 := [some (.ref 0), some (.int most), some (.int (n : Nat)), some (.ref 1), s4', s5, s6, s7, s8, s9, s10, some (.fix [.ref (n + 2), .ref (n + 3)]), s12, s13, some (.tup (RL.map encR))]) (h1 := g) (fun K hK => ?_) ?_
  · simp [wipeW]
    rw [show iterOf big (.ref 1) g = some (itL 1 big) by simp only [iterOf, e1], oto_some]
    refine lc_mapL' (L := List.range RL.length) (enc := fun j => .tup [.int (RL.getD j (0, [])).1, .ref (2 + j)]) (u := fun j => encR (RL.getD j (0, []))) (by rw [List.length_range]; omega) (by rw [List.length_range]; unfold big; omega) e1 (fun j hj => ⟨_, rfl, fun Q q => ?_⟩) ?_
    · have hj := List.mem_range.mp hj
      simp [seqOf_lst (em j hj)]
      unfold encR encMs at q
      simpa using q
    · have : (List.range RL.length).map (fun j => encR (RL.getD j (0, []))) = RL.map encR := by
        refine List.ext_getElem? fun i => ?_
        rw [List.getElem?_map, List.getElem?_map]
        by_cases hi : i < RL.length
        · rw [List.getElem?_range hi]
          simp [List.getD, List.getElem?_eq_getElem hi]
        · rw [List.getElem?_eq_none (by rw [List.length_range]; omega), List.getElem?_eq_none (by omega)]
          rfl
      rw [this]
      try simp
      exact hK
  simp [at0, at1, seqOf_lst (eg 0 _ rfl), seqOf_lst (eg 1 _ rfl)]
  exact ⟨o3, _, RL, [(PySem.Str.ofString "goal", g1), (PySem.Str.ofString "other", g2)], hg, rfl, ⟨n, g1, g2, hn1, by omega, hl, hR4, rfl, ⟨l1, i1⟩, ⟨l2, i2⟩⟩, d3.mono (by omega)⟩
def S_arena2 : FM := lift1 F_arena2
theorem fits_Larena : Fits F_arena2 S_arena2 := fits_lift1 _
theorem arena2_to (sc : List Int) (hsc : sc.length ≤ 63) {B : Int} {o : OB} (d : Dr sc B o) (hB : B < 144115188075855872) {most : Int} (h1 : 1 ≤ most) (h2 : most ≤ 600) {g : PH} {Q : W → PH → Prop}
    (q : ∀ rs ks o2, GA2 most rs ks → Dr sc (B + 100000) o2 → Q (encA rs ks) (o2 :: g)) : (S_arena2 [.ref 0, .int most] (o :: g)).To Q :=
  lift1_to (P := fun w o2 => ∃ rs ks, w = encA rs ks ∧ GA2 most rs ks ∧ Dr sc (B + 100000) o2) (n := 0) rfl d.refs (by simp) ((arena2_run sc hsc d hB most h1 h2).mono fun w g z => by
    obtain ⟨o2, g2, rs, ks, rfl, rfl, z1, z2⟩ := z
    exact ⟨o2, g2, rfl, z2.refs, refs_A _ _, rs, ks, rfl, z1, z2⟩) fun w o2 z => by
      obtain ⟨rs, ks, rfl, z1, z2⟩ := z
      exact q rs ks o2 z1 z2
end Mir

/-! repr of arenas and rows (shared) -/
namespace Mir
open PySem PySem.Spec PyProof.Rows L2
def keyOk (x : Str) : Bool := PyData.strOk x && ((x.cps.toList.all fun c => decide (c < 16 ^ 8)) && decide (x.cps.size ≤ 10))
theorem key_of {x : Str} (h : keyOk x = true) : PyData.strOk x = true ∧ (x.cps.toList.all fun c => decide (c < 16 ^ 8)) = true ∧ x.cps.size ≤ 10 := by
  unfold keyOk at h
  rw [Bool.and_eq_true, Bool.and_eq_true] at h
  exact ⟨h.1, h.2.1, of_decide_eq_true h.2.2⟩
theorem encA_repr {rs : List Rm} {ks : List (Str × List Int)} (hn : rs.length ≤ 600) (hg : GRs rs.length rs) (hk : ∀ k ∈ ks, keyOk k.1 = true ∧ GI rs.length k.2) (hl : ks.length ≤ 12) : ∃ s : Str, ∀ g, wRepr [encA rs ks] g = some (.str s, g) := by
  refine ⟨(dT (encA rs ks)).shown, fun g => repr_tup (n := 6) ?_ (by decide) ?_ ?_⟩
  · have p0 : ∀ ms : List Mv, plW 3 (encMs ms) = true := fun ms => by unfold encMs; rw [pl_tup]; exact pls_map _ _ fun m _ => by simp [encM]
    have p1 : plWs 4 (rs.map encR) = true := pls_map _ _ fun r _ => by simp [encR, p0]
    have p2 : plWs 4 (ks.map encK) = true := pls_map _ _ fun k h => by simp [encK, encI, (key_of (hk k h).1).1]
    simp [p1, p2]
  · have s1 : smWs (rs.map encR) = true := sms_map _ _ fun r hr => by
      have hR := hg r hr
      have s2 : smWs (r.2.map encM) = true := sms_map _ _ fun m hm => by
        have hM := hR.2.2.2 m hm
        have a1 := hM.1
        have a2 := hM.2.1
        have a3 := hM.2.2.1
        have a4 := hM.2.2.2.1
        have a5 := hM.2.2.2.2.1
        have a6 := hM.2.2.2.2.2
        simp [encM]
        omega
      have b1 := hR.1
      have b2 := hR.2.1
      simp [encR, encMs, s2]
      omega
    have s3 : smWs (ks.map encK) = true := sms_map _ _ fun k hk2 => by
      have s4 : smWs (k.2.map W.int) = true := sms_map _ _ fun v hv => by
        have := (hk k hk2).2.2.2 v hv
        simp
        omega
      have k1 := (key_of (hk k hk2).1).2.1
      simp only [encK, encI, sm_tup, sms_cons, sms_nil, sm_str, k1, s4, Bool.and_self]
    simp only [encA, sm_tup, sms_cons, sms_nil, s1, s3, Bool.and_self]
  · have w1 : wBs (rs.map encR) ≤ 1851 * rs.length := wBs_map _ _ 1850 fun r hr => by
      have hR := hg r hr
      have := wBs_map encM r.2 75 fun m _ => by simp [encM]
      have := hR.2.2.1
      simp [encR, encMs]
      omega
    have w2 : wBs (ks.map encK) ≤ 15101 * ks.length := wBs_map _ _ 15100 fun k h => by
      have := wBs_map W.int k.2 24 fun m _ => by simp
      have l1 := (hk k h).2.1
      have z1 := (key_of (hk k h).1).2.2
      simp [encK, encI]
      omega
    simp
    omega
theorem nW_repr {l : List Nat} (hl : l.length ≤ 600) (hb : ∀ x ∈ l, x < 600) : ∃ s : Str, ∀ g, wRepr [.tup (nW l)] g = some (.str s, g) := by
  refine ⟨(dT (.tup (nW l))).shown, fun g => repr_tup (n := 1) (by rw [pl_tup]; exact nW_pl l) (by decide) ?_ ?_⟩
  · rw [sm_tup]
    refine sms_map _ _ fun x hx => ?_
    have := hb x hx
    simp
    omega
  · have := wBs_map (fun i : Nat => W.int (i : Nat)) l 24 fun m _ => by simp
    show wB (.tup (l.map fun i : Nat => W.int (i : Nat))) ≤ _
    simp
    omega
end Mir

/-! law_k40: the rows of a paper -/
namespace Mir
open PySem PySem.Spec PyProof.Rows L2
theorem to_get2 {m m1 m2 : EM} {ps : LS} {h : PH} {Q : W → PH → Prop} : (mGet2 m m1 m2 ps h).To Q = (m ps h).To fun x h1 => isDW x h1 = true ∧ (m1 ps h1).To fun y h2 => (m2 ps h2).To fun z h3 => PTo (dGet2 x y z h3) Q := by
  unfold mGet2
  rw [to_bind]
  congr 1
  funext x h1
  by_cases c : isDW x h1 = true
  · rw [if_pos c]
    simp [c]
  · rw [if_neg c]
    simp [c]
theorem ne00 {h : PH} : wNe (.fix []) (.fix []) h = some (.bl false, h) := by
  have := wNe_nW0 (l := []) (h := h)
  simpa [nW_nil] using this
theorem room_ix {rs : List Rm} {i : Nat} {h : PH} (hi : i < rs.length) : wIx (.tup (rs.map encR)) (.int (i : Nat)) h = some (encR (rs.getD i (0, [])), h) := by
  show (atI (rs.map encR) (i : Int)).map _ = _
  rw [room_of hi]
  rfl
section
variable {rs : List Rm} {ks : List (Str × List Int)} {rk : Nat → Nat} {mv : Nat → Option Nat} {x : Nat} {h : PH} {Q : W → PH → Prop}
theorem rowA0 {h : PH} : wIx (rowA rk mv x) (.int 0) h = some (.int (x : Nat), h) := rfl
theorem rowA1 {h : PH} : wIx (rowA rk mv x) (.int 1) h = some (.int (rk x : Nat), h) := rfl
theorem rowA2 {h : PH} : wIx (rowA rk mv x) (.int 2) h = some (.int (mvI mv x), h) := rfl
theorem mvI_ge : -1 ≤ mvI mv x := by
  unfold mvI
  cases mv x <;> simp
theorem mvI_eq : mvI mv x = -1 ↔ mv x = none := by
  unfold mvI
  cases mv x with
  | none => simp
  | some k => simp
theorem isrow_to (hx : x < rs.length) (hm : ∀ k, mv x = some k → k < (Tg rs x).length) (q : Q (.bl true) h) : (f_Lis_row [rowA rk mv x, encA rs ks] h).To Q := by
  unfold f_Lis_row
  rw [run_to, show startW 3 [rowA rk mv x, encA rs ks] = [some (rowA rk mv x), some (encA rs ks), none] from rfl]
  unfold b_Lis_row
  have ty : tyName (rowA rk mv x) h = some "tuple" := rfl
  have len : wLen [rowA rk mv x] h = some (.int 3, h) := rfl
  have it : iterOf big (rowA rk mv x) h = some (itS ([(x : Int), (rk x : Int), mvI mv x].map W.int)) := rfl
  have tb : ∀ b g, tru (.bl b) g = some b := fun _ _ => rfl
  have b1 : isB "tuple" "tuple" = true := by decide
  have b2 : isB "int" "int" = true := by decide
  have b3 : isB "int" "bool" = false := by decide
  obtain ⟨A, hA⟩ : ∃ A, A = encA rs ks := ⟨_, rfl⟩
  have ixA : ∀ h, wIx A (.int 0) h = some (.tup (rs.map encR), h) := fun h => by rw [hA]; rfl
  obtain ⟨row, hrow⟩ : ∃ row, row = rowA rk mv x := ⟨_, rfl⟩
  have r0 : ∀ h, wIx row (.int 0) h = some (.int (x : Nat), h) := fun h => by rw [hrow]; rfl
  have r1 : ∀ h, wIx row (.int 1) h = some (.int (rk x : Nat), h) := fun h => by rw [hrow]; rfl
  have r2 : ∀ h, wIx row (.int 2) h = some (.int (mvI mv x), h) := fun h => by rw [hrow]; rfl
  rw [← hrow] at ty len it ⊢
  rw [← hA]
  have e0 : ([] : List Int).map W.int = [] := rfl
  refine seq_go (ps1 := [some row, some A, none]) (h1 := h) (fun K hK => ?_) ?_
  · simp [ty, len, tb, b1]
    exact hK
  refine seq_go (ps1 := [some row, some A, none]) (h1 := h) (fun K hK => ?_) ?_
  · simp only [to_sif, to_mB, to_op, to_fix, to_lc, to_iter, to_var]
    refine ⟨_, rfl, ?_⟩
    rw [it, oto_some]
    refine lc_none (L := [(x : Int), (rk x : Int), mvI mv x]) (enc := W.int) (fun a _ => ⟨_, rfl, fun Q q => ?_⟩) ?_
    · simp [wipeW, tyName, tb, b2, b3]
      exact q
    · simp [ne00]
      exact hK
  refine seq_go (ps1 := [some row, some A, none]) (h1 := h) (fun K hK => ?_) ?_
  · simp [r0, ixA, hx]
    exact hK
  have hge := mvI_ge (mv := mv) (x := x)
  have hlt : mvI mv x < ((rs.getD x (0, [])).2.length : Int) := by
    unfold mvI
    cases e : mv x with
    | none => simp; omega
    | some k =>
      have := hm k e
      unfold Tg at this
      rw [List.length_map] at this
      simp only
      omega
  simp [r0, r1, r2, ixA, room_ix hx, encR, at1]
  have hlt2 : mvI mv x < ((rs[x]?.getD (0, [])).2.length : Int) := by simpa using hlt
  simp [hge, hlt2]
  exact q
end
end Mir

/-! law_k40: where the rows lead -/
namespace Mir
open PySem PySem.Spec PyProof.Rows L2
/-- rows that lead within a paper: the side that chooses has its move told, all moves of the other one -/
structure PapOk (rs : List Rm) (L : List Nat) (mv : Nat → Option Nat) (nx : Nat → List Nat) (side : Int) : Prop where
  lt : ∀ x ∈ L, x < rs.length
  own : ∀ x ∈ L, Ow rs x = side → Tg rs x ≠ [] → ∃ k t, mv x = some k ∧ (Tg rs x)[k]? = some t ∧ nx x = [t]
  els : ∀ x ∈ L, ¬ (Ow rs x = side ∧ Tg rs x ≠ []) → mv x = none ∧ nx x = Tg rs x
  inL : ∀ x ∈ L, ∀ t ∈ nx x, t ∈ L
def nxW (rk : Nat → Nat) (nx : Nat → List Nat) (x : Nat) : W := .tup [.int (rk x : Nat), .fix ((nx x).map fun t => .int (rk t : Nat))]
def rkW (rk : Nat → Nat) (x : Nat) : W := .int (rk x : Nat)
def ledI (A R O : W) (L : List Nat) (rk : Nat → Nat) (nx : Nat → List Nat) (h : PH) (i : Nat) (ps : LS) (g : PH) : Prop := ∃ (s5 s6 s7 s8 : Option W), ps = [some A, some R, some O, some (.ref h.length), some (.ref (h.length + 1)), s5, s6, s7, s8, none, none] ∧ g = h ++ [.dK (dkL L (rkW rk)), .dK (dkL (L.take i) (nxW rk nx))]
def ledS (hd : LS) (nxs : List Nat) (n : Nat) (g : PH) (ps : LS) (g' : PH) : Prop := ∃ sm : List Mv, ps = hd ++ [some (.fix (sm.map encM)), none, none] ∧ g' = g ∧ sm.map (fun m => m.1.toNat) = nxs ∧ (∀ m ∈ sm, GM' n m) ∧ sm.length ≤ 24
theorem ms_ne {ms : List Mv} {h : PH} : wNe (.fix (ms.map encM)) (.fix []) h = some (.bl (!decide (ms = [])), h) := by
  rw [wNe_pl (n := 3) (m := 3) (by rw [pl_fix]; exact pls_map _ _ fun m _ => by simp [encM]) (by simp) (by decide) (by decide)]
  congr 4
  cases ms <;> simp
section
variable {rs : List Rm} {ks : List (Str × List Int)} {L : List Nat} {rk : Nat → Nat} {mv : Nat → Option Nat} {nx : Nat → List Nat} {side : Int} {h : PH} {Q : W → PH → Prop}
theorem led_to (hg : GRs rs.length rs) (hn : rs.length ≤ 600) (p : PapOk rs L mv nx side) (nd : L.Nodup) (q : Q (.ref (h.length + 1)) (h ++ [.dK (dkL L (rkW rk)), .dK (dkL L (nxW rk nx))])) : (f_Lled [encA rs ks, .tup (L.map (rowA rk mv)), .int side] h).To Q := by
  have hLl : L.length ≤ 600 := by
    have := nodup_le (L := List.range rs.length) nd fun x hx => List.mem_range.mpr (p.lt x hx)
    rw [List.length_range] at this
    omega
  unfold f_Lled
  obtain ⟨A, hA⟩ : ∃ A, A = encA rs ks := ⟨_, rfl⟩
  have ixA : ∀ h, wIx A (.int 0) h = some (.tup (rs.map encR), h) := fun h => by rw [hA]; rfl
  rw [← hA, run_to, show startW 11 [A, W.tup (L.map (rowA rk mv)), .int side] = [some A, some (.tup (L.map (rowA rk mv))), some (.int side), none, none, none, none, none, none, none, none] from rfl]
  unfold b_Lled
  obtain ⟨R, hR⟩ : ∃ R, R = W.tup (L.map (rowA rk mv)) := ⟨_, rfl⟩
  have itR : ∀ h, iterOf big R h = some (itS (L.map (rowA rk mv))) := fun h => by rw [hR]; rfl
  rw [← hR]
  have l1 : (h ++ [OB.dK (dkL L (rkW rk))]).length = h.length + 1 := by simp
  refine seq_go (ps1 := [some A, some R, some (.int side), some (.ref h.length), none, none, none, none, none, none, none]) (h1 := h ++ [.dK (dkL L (rkW rk))]) (fun K hK => ?_) ?_
  · simp [wipeW, itR]
    refine lc_map (L := L) (enc := rowA rk mv) (u := fun i => .tup [.int (i : Nat), rkW rk i]) (by omega) (fun i hi => ⟨_, rfl, fun Q q => ?_⟩) ?_
    · simp [rowA0, rowA1]
      exact q
    · have eP : pairsK (L.map fun i => .tup [.int (i : Nat), rkW rk i]) = some (dkL L (rkW rk)) := pairs_dk
      have eD : mergeW [] (dkL L (rkW rk)) = dkL L (rkW rk) := merge_dk nd
      simp [wDictP, lstOf, eP, eD]
      exact hK
  refine seq_go (ps1 := [some A, some R, some (.int side), some (.ref h.length), some (.ref (h.length + 1)), none, none, none, none, none, none]) (h1 := h ++ [.dK (dkL L (rkW rk)), .dK []]) (fun K hK => ?_) ?_
  · simp
    simpa using hK
  refine seq_cut (ledI A R (.int side) L rk nx h L.length) ?_ ?_
  · rw [to_for]
    simp [itR]
    refine for_items (ledI A R (.int side) L rk nx h) ⟨_, _, _, _, rfl, rfl⟩ ?_ fun ps g z => by rw [List.length_map] at z; exact z
    rintro i w ps g ei ⟨s5, s6, s7, s8, rfl, rfl⟩
    rw [List.getElem?_map] at ei
    obtain ⟨x, ex, rfl⟩ := Option.map_eq_some_iff.mp ei
    have hxL := List.mem_of_getElem? ex
    have hx := p.lt x hxL
    have hiL := (List.getElem?_eq_some_iff.mp ex).1
    have hxT : x ∉ L.take i := fun z => by
      obtain ⟨j, hj⟩ := List.getElem?_of_mem z
      have hij : j < i := by have := (List.getElem?_eq_some_iff.mp hj).1; rw [List.length_take] at this; omega
      rw [List.getElem?_take_of_lt hij] at hj
      obtain ⟨h1, h1'⟩ := List.getElem?_eq_some_iff.mp hj
      obtain ⟨h2, h2'⟩ := List.getElem?_eq_some_iff.mp ex
      exact List.pairwise_iff_getElem.mp nd j i h1 h2 hij (by rw [h1', h2'])
    obtain ⟨ms, hms, hT⟩ := mv_row hx
    have hok : ∀ m ∈ ms, GM' rs.length m := fun m hm => (mvs_ok hg hx (by rw [hms]; exact hm)).1
    have hl24 : ms.length ≤ 24 := by have := tg_len2 hg x; rw [hT, List.length_map] at this; exact this
    obtain ⟨g, hg0⟩ : ∃ g, g = h ++ [OB.dK (dkL L (rkW rk)), .dK (dkL (L.take i) (nxW rk nx))] := ⟨_, rfl⟩
    have gl : g[h.length]? = some (.dK (dkL L (rkW rk))) := by rw [hg0]; simp
    have gl2 : g[h.length + 1]? = some (.dK (dkL (L.take i) (nxW rk nx))) := by rw [hg0, List.getElem?_append_right (by omega)]; simp
    rw [← hg0]
    refine ⟨[some A, some R, some (.int side), some (.ref h.length), some (.ref (h.length + 1)), some (.int (x : Nat)), some (.int (rk x : Nat)), some (.int (mvI mv x)), s8, none, none], by simp [gT, rowA], ?_⟩
    refine seq_go (ps1 := [some A, some R, some (.int side), some (.ref h.length), some (.ref (h.length + 1)), some (.int (x : Nat)), some (.int (rk x : Nat)), some (.int (mvI mv x)), some (.fix (ms.map encM)), none, none]) (h1 := g) (fun K hK => ?_) ?_
    · simp [ixA, room_ix hx, encR, at1]
      have eR : (rs[x]?.getD (0, [])).2 = ms := by rw [show rs[x]?.getD (0, []) = rs.getD x (0, []) from (List.getD_eq_getElem?_getD ..).symm, hms]
      rw [eR]
      rw [show seqOf (encMs ms) g = some (ms.map encM) from rfl, oto_some]
      exact hK
    have eO : (rs[x]?.getD (0, [])).1 = Ow rs x := by rw [show rs[x]?.getD (0, []) = rs.getD x (0, []) from (List.getD_eq_getElem?_getD ..).symm]; rfl
    refine seq_cut (ledS [some A, some R, some (.int side), some (.ref h.length), some (.ref (h.length + 1)), some (.int (x : Nat)), some (.int (rk x : Nat)), some (.int (mvI mv x))] (nx x) rs.length g) ?_ ?_
    · have els : ¬ (Ow rs x = side ∧ ms ≠ []) → mv x = none ∧ nx x = Tg rs x := fun z => p.els x hxL fun w => z ⟨w.1, fun e => w.2 (by rw [hT, e]; rfl)⟩
      have fin : ¬ (Ow rs x = side ∧ ms ≠ []) → ledS [some A, some R, some (.int side), some (.ref h.length), some (.ref (h.length + 1)), some (.int (x : Nat)), some (.int (rk x : Nat)), some (.int (mvI mv x))] (nx x) rs.length g [some A, some R, some (.int side), some (.ref h.length), some (.ref (h.length + 1)), some (.int (x : Nat)), some (.int (rk x : Nat)), some (.int (mvI mv x)), some (.fix (ms.map encM)), none, none] g := fun z => ⟨ms, rfl, rfl, by rw [(els z).2, hT], hok, hl24⟩
      rw [to_sif]
      simp [ixA, room_ix hx, encR, at0, eO, ms_ne]
      have no : ¬ (Ow rs x = side ∧ ms ≠ []) → mvI mv x = -1 := fun z => mvI_eq.mpr (els z).1
      refine .of (fun c1 => ?_) fun c1 => ?_
      · refine .of (fun c2 => ?_) fun c2 => ?_
        · have z : ¬ (Ow rs x = side ∧ ms ≠ []) := fun z => z.2 c2
          have f := fin z
          rw [no z] at f
          simp [no z]
          exact f
        · obtain ⟨k, t, e1, e2, e3⟩ := p.own x hxL c1 (by rw [hT]; exact fun z => c2 (List.map_eq_nil_iff.mp z))
          have ek : mvI mv x = (k : Nat) := by unfold mvI; rw [e1]
          rw [hT, List.getElem?_map] at e2
          obtain ⟨m, em, rfl⟩ := Option.map_eq_some_iff.mp e2
          have ix : wIx (.fix (ms.map encM)) (.int (k : Nat)) g = some (encM m, g) := by
            show (atI (ms.map encM) (k : Int)).map _ = _
            rw [atI_nat _ _ (by omega), Int.toNat_natCast, List.getElem?_map, em]
            rfl
          refine seq_op fun K hK => ?_
          rw [ek]
          simp
          refine hK _ _ ?_
          clear hK K
          simp [ix]
          exact ⟨[m], by rw [ek]; rfl, rfl, by rw [e3]; rfl, fun m' hm' => by rw [List.mem_singleton.mp hm']; exact hok m (List.mem_of_getElem? em), by simp⟩
      · have z : ¬ (Ow rs x = side ∧ ms ≠ []) := fun z => c1 z.1
        have f := fin z
        rw [no z] at f
        simp [no z]
        exact f
    rintro ps g1 ⟨sm, rfl, rfl, esm, hsm, sl⟩
    have isd : isDW (.ref h.length) g1 = true := by simp only [isDW, gl]
    have hll : (dkL (L.take i) (nxW rk nx)).length < 16777216 := by unfold dkL; rw [List.length_map, List.length_take]; omega
    simp only [to_setix, to_tup, to_cons, to_nil, to_var, to_fix, to_lc, to_iter]
    refine ⟨_, rfl, _, rfl, ?_⟩
    rw [show iterOf big (.fix (sm.map encM)) g1 = some (itS (sm.map encM)) from rfl, oto_some]
    refine lc_map (L := sm) (enc := encM) (u := fun m => .int (rk m.1.toNat : Nat)) (by omega) (fun m hm => ⟨_, rfl, fun Q q => ?_⟩) ?_
    · rw [to_get2]
      have m0 := (hsm m hm).1
      have hmL : m.1.toNat ∈ L := p.inL x hxL _ (by rw [← esm]; exact List.mem_map.mpr ⟨m, hm, rfl⟩)
      simp only [to_var, to_op, to_C]
      refine ⟨_, rfl, isd, _, rfl, ?_⟩
      rw [ix_M0, pto_some]
      have e : dGet2 (.ref h.length) (.int m.1) .non g1 = some (.int (rk m.1.toNat : Nat), g1) := by
        simp only [dGet2, gl, keyW, Option.map_some]
        rw [show m.1 = ((m.1.toNat : Nat) : Int) by omega, get_dk, if_pos hmL]
        rfl
      rw [e, pto_some]
      exact q
    · refine ⟨by simp, _, rfl, _, rfl, ?_⟩
      rw [setW_dK gl2 (k := .inl (x : Int)) rfl hll, put_dk_new hxT, oto_some]
      refine ⟨_, _, _, _, rfl, ?_⟩
      rw [hg0]
      have e1 : dkL (L.take i ++ [x]) (updF (nxW rk nx) x (.tup [.int (rk x : Nat), .fix (sm.map fun m => .int (rk m.1.toNat : Nat))])) = dkL (L.take (i + 1)) (nxW rk nx) := by
        rw [List.take_succ, ex]
        refine dk_congr fun y hy => ?_
        by_cases c : y = x
        · subst c
          rw [updF_same]
          unfold nxW
          rw [← esm, List.map_map]
          rfl
        · rw [updF_ne c]
      rw [e1]
      rw [List.set_append_right _ _ (by omega)]
      simp
  · rintro ps g ⟨s5, s6, s7, s8, rfl, rfl⟩
    rw [List.take_length]
    simp
    exact q
end
end Mir

/-! law_k40: a paper is right -/
namespace Mir
open PySem PySem.Spec PyProof.Rows L2
structure PapR (rs : List Rm) (Sn L : List Nat) (rk : Nat → Nat) (mv : Nat → Option Nat) (nx : Nat → List Nat) (side : Int) : Prop extends PapOk rs L mv nx side where
  up : L.Pairwise (· < ·)
  mine : side = 0 → ∀ x ∈ L, nx x ≠ [] ∧ (x ∉ Sn → ∀ t ∈ nx x, rk t < rk x)
  oth : side = 1 → ∀ x ∈ L, ∀ t ∈ nx x, rk t + (if x ∈ Sn then 1 else 0) ≤ rk x
theorem ne_refL {l : List Nat} {n : Nat} {h : PH} (e : h[n]? = some (.lst (nW l))) : wNe (.ref n) (.fix (nW l)) h = some (.bl false, h) := by
  unfold wNe
  rw [eqB_lst (k := 1) (m := 1) e (nW_pl l) (by rw [pl_fix]; exact nW_pl l) (by decide) (by decide)]
  simp
theorem notIn_ref {t : Nat} {l : List Nat} {n : Nat} {h : PH} (e : h[n]? = some (.lst (nW l))) : wNotIn (.int (t : Nat)) (.ref n) h = some (.bl (!decide (t ∈ l)), h) := by
  have := wNotIn_nW (t := t) (l := l) (h := h)
  simp only [wNotIn, inW, e] at this ⊢
  exact this
theorem set_nW {l : List Nat} (h : l.Pairwise (· < ·)) : (setI (l.map fun i : Nat => (i : Int))).map W.int = nW l := by
  rw [setI_of, nW_ints]
  rw [List.pairwise_map]
  exact h.imp fun z => by omega
theorem max_in {l : List Int} {h : PH} (hl : l ≠ []) : ∃ m : Int, wMax (l.map W.int) h = some (.int m, h) ∧ m ∈ l := by
  unfold wMax
  rw [ints_map]
  cases e : maxI l with
  | none =>
    cases l with
    | nil => exact absurd rfl hl
    | cons a r => cases e
  | some m => exact ⟨m, by simp [e], (maxI_is e).1⟩
theorem no_non {l : List Nat} {rk : Nat → Nat} {h : PH} : wIn .non (.fix (l.map fun t => W.int (rk t : Nat))) h = some (.bl false, h) := by
  simp only [wIn, inW]
  rw [if_pos ⟨rfl, List.all_eq_true.mpr fun w hw => by obtain ⟨o, _, rfl⟩ := List.mem_map.mp hw; rfl⟩, Option.map_some]
  congr 3
  induction l with
  | nil => rfl
  | cons o l ih => rw [List.map_cons, List.any_cons, ih]; rfl
theorem eq_nil {l : List Nat} {rk : Nat → Nat} {h : PH} : wEq (.fix (l.map fun t => W.int (rk t : Nat))) (.fix []) h = some (.bl (decide (l = [])), h) := by
  rw [wEq_pl (n := 2) (m := 2) (by rw [pl_fix]; exact pls_map _ _ fun m _ => by simp) (by simp) (by decide) (by decide)]
  congr 3
  cases l <;> simp
def sideS (side : Int) (a b : Str) : Prop := (side = 0 ∧ a = "mine" ∧ b = "ranks") ∨ (side = 1 ∧ a = "other" ∧ b = "layers")
def paperW (b : Str) (rows : List W) : W := .tup [.tup [.str b, .tup rows]]
def ppI (A G R T X D W6 : W) (L : List Nat) (rk : Nat → Nat) (nx : Nat → List Nat) (d r t : OB) (ps : LS) (g : PH) : Prop := ∃ (s9 s10 s11 : Option W), ps = [some A, some G, some R, some T, some X, some D, some W6, some (.ref 1), some (.ref 3), s9, s10, s11, none] ∧ g = [d, r, t, .lk (dkL L (nxW rk nx))]
section
variable {rs : List Rm} {ks : List (Str × List Int)} {Sn L : List Nat} {rk : Nat → Nat} {mv : Nat → Option Nat} {nx : Nat → List Nat} {side : Int} {h : PH} {Q : W → PH → Prop} {room : Nat} {a b : Str}
theorem paper_run (hg : GRs rs.length rs) (hn : rs.length ≤ 600) (p : PapR rs Sn L rk mv nx side) (hr : room ∈ L) (hab : sideS side a b) : (f_Lpaper_right f_Lis_row f_Lled [encA rs ks, encI (Sn.map fun i : Nat => (i : Int)), .int (room : Nat), paperW b (L.map (rowA rk mv)), .str a] []).To fun w g => w = .bl true := by
  have nd : L.Nodup := p.up.imp fun h => Nat.ne_of_lt h
  have hLl : L.length ≤ 600 := by
    have := nodup_le (L := List.range rs.length) nd fun x hx => List.mem_range.mpr (p.lt x hx)
    rw [List.length_range] at this
    omega
  unfold f_Lpaper_right
  obtain ⟨A, hA⟩ : ∃ A, A = encA rs ks := ⟨_, rfl⟩
  obtain ⟨G, hG⟩ : ∃ G, G = encI (Sn.map fun i : Nat => (i : Int)) := ⟨_, rfl⟩
  obtain ⟨R, hR⟩ : ∃ R, R = W.tup (L.map (rowA rk mv)) := ⟨_, rfl⟩
  obtain ⟨T, hT⟩ : ∃ T, T = paperW b (L.map (rowA rk mv)) := ⟨_, rfl⟩
  have inG : ∀ (x : Nat) h, wIn (.int (x : Nat)) G h = some (.bl (decide (x ∈ Sn)), h) := fun x h => by
    rw [hG, in_goals]
    congr 3
    exact decide_eq_decide.mpr nat_mem
  have notG : ∀ (x : Nat) h, wNotIn (.int (x : Nat)) G h = some (.bl (!decide (x ∈ Sn)), h) := fun x h => by
    rw [hG, notIn_goals]
    congr 4
    exact decide_eq_decide.mpr nat_mem
  have tyT : ∀ h, tyName T h = some "tuple" := fun h => by rw [hT]; rfl
  have lenT : ∀ h, wLen [T] h = some (.int 1, h) := fun h => by rw [hT]; rfl
  have t0 : ∀ h, wIx T (.int 0) h = some (.tup [.str b, R], h) := fun h => by rw [hT, hR]; rfl
  have tyR : ∀ h, tyName R h = some "tuple" := fun h => by rw [hR]; rfl
  have itR : ∀ h, iterOf big R h = some (itS (L.map (rowA rk mv))) := fun h => by rw [hR]; rfl
  have tb : ∀ b g, tru (.bl b) g = some b := fun _ _ => rfl
  have b1 : isB "tuple" "tuple" = true := by decide
  have hs : side = 0 ∨ side = 1 := by
    rcases hab with h | h
    · exact .inl h.1
    · exact .inr h.1
  have mvlt : ∀ x ∈ L, ∀ k, mv x = some k → k < (Tg rs x).length := fun x hx k e => by
    by_cases c : Ow rs x = side ∧ Tg rs x ≠ []
    · obtain ⟨k', t, e1, e2, _⟩ := p.own x hx c.1 c.2
      rw [e] at e1
      cases e1
      exact (List.getElem?_eq_some_iff.mp e2).1
    · rw [(p.els x hx c).1] at e
      cases e
  rw [← hA, ← hG, ← hT, run_to, show startW 13 [A, G, W.int (room : Nat), T, W.str a] = [some A, some G, some (.int (room : Nat)), some T, some (.str a), none, none, none, none, none, none, none, none] from rfl]
  unfold b_Lpaper_right
  obtain ⟨d, hd⟩ : ∃ d : OB, d = .dK [(.inr (PySem.Str.ofString "mine"), .str (PySem.Str.ofString "ranks")), (.inr (PySem.Str.ofString "other"), .str (PySem.Str.ofString "layers"))] := ⟨_, rfl⟩
  refine seq_go (ps1 := [some A, some G, some (.int (room : Nat)), some T, some (.str a), some (.str b), none, none, none, none, none, none, none]) (h1 := [d]) (fun K hK => ?_) ?_
  · have ix : wIx (.ref 0) (.str a) [d] = some (.str b, [d]) := by
      rw [hd]
      rcases hab with ⟨_, rfl, rfl⟩ | ⟨_, rfl, rfl⟩ <;> rfl
    have mg : mergeW [] [(Sum.inr (PySem.Str.ofString "mine"), W.str (PySem.Str.ofString "ranks")), (.inr (PySem.Str.ofString "other"), .str (PySem.Str.ofString "layers"))] = [((.inr (PySem.Str.ofString "mine") : Key), W.str (PySem.Str.ofString "ranks")), (.inr (PySem.Str.ofString "other"), .str (PySem.Str.ofString "layers"))] := by rfl
    simp [keysOf, keyW]
    rw [mg, ← hd, ix, pto_some]
    exact hK
  refine seq_go (ps1 := [some A, some G, some (.int (room : Nat)), some T, some (.str a), some (.str b), none, none, none, none, none, none, none]) (h1 := [d]) (fun K hK => ?_) ?_
  · have ty2 : ∀ h, tyName (.tup [.str b, R]) h = some "tuple" := fun _ => rfl
    have len2 : ∀ h, wLen [.tup [.str b, R]] h = some (.int 2, h) := fun _ => rfl
    simp [tyT, lenT, t0, tb, b1, ty2, len2]
    exact hK
  refine seq_go (ps1 := [some A, some G, some (.int (room : Nat)), some T, some (.str a), some (.str b), some R, none, none, none, none, none, none]) (h1 := [d]) (fun K hK => ?_) ?_
  · have i1 : ∀ h, wIx (.tup [.str b, R]) (.int 1) h = some (R, h) := fun _ => rfl
    simp [t0, i1]
    exact hK
  refine seq_go (ps1 := [some A, some G, some (.int (room : Nat)), some T, some (.str a), some (.str b), some R, none, none, none, none, none, none]) (h1 := [d]) (fun K hK => ?_) ?_
  · have i0 : ∀ h, wIx (.tup [.str b, R]) (.int 0) h = some (.str b, h) := fun _ => rfl
    have ne : ∀ h, wNe (.str b) (.str b) h = some (.bl false, h) := fun h => by
      have : eqB (.str b) (.str b) h = some true := by
        show some (b == b) = _
        simp
      simp [wNe, this]
    simp [t0, i0, ne, tyR, tb, b1]
    exact hK
  refine seq_go (ps1 := [some A, some G, some (.int (room : Nat)), some T, some (.str a), some (.str b), some R, none, none, none, none, none, none]) (h1 := [d]) (fun K hK => ?_) ?_
  · simp only [to_sif, to_mB, to_op, to_fix, to_lc, to_iter, to_var]
    refine ⟨_, rfl, ?_⟩
    rw [itR, oto_some]
    refine lc_none (L := L) (enc := rowA rk mv) (fun x hx => ⟨_, rfl, fun Q q => ?_⟩) ?_
    · simp only [to_not, to_tru, to_fn, to_cons, to_nil, to_var]
      refine ⟨_, rfl, _, rfl, rfl, ?_⟩
      rw [hA]
      refine isrow_to (p.lt x hx) (mvlt x hx) ?_
      rw [tb, oto_some]
      exact q
    · simp [ne00]
      exact hK
  refine seq_go (ps1 := [some A, some G, some (.int (room : Nat)), some T, some (.str a), some (.str b), some R, some (.ref 1), none, none, none, none, none]) (h1 := [d, .lst (nW L)]) (fun K hK => ?_) ?_
  · simp [wipeW, itR]
    refine lc_map (L := L) (enc := rowA rk mv) (u := fun i => .int (i : Nat)) (by omega) (fun i hi => ⟨_, rfl, fun Q q => ?_⟩) ?_
    · simp [rowA0]
      exact q
    · exact hK
  have e1 : ([d, OB.lst (nW L)] : PH)[1]? = some (.lst (nW L)) := rfl
  refine seq_go (ps1 := [some A, some G, some (.int (room : Nat)), some T, some (.str a), some (.str b), some R, some (.ref 1), none, none, none, none, none]) (h1 := [d, .lst (nW L)]) (fun K hK => ?_) ?_
  · have ss : lSetSort (.ref 1) [d, .lst (nW L)] = some (nW L, [d, .lst (nW L)]) := by
      unfold lSetSort
      rw [show seqOf (.ref 1) [d, .lst (nW L)] = some (nW L) from rfl, Option.bind_some, nW_ints, ints_map, Option.bind_some, if_pos (by rw [List.length_map]; omega), set_nW p.up, nW_ints]
    simp [ss, ne_refL e1, notIn_ref e1, hr]
    exact hK
  refine seq_go (ps1 := [some A, some G, some (.int (room : Nat)), some T, some (.str a), some (.str b), some R, some (.ref 1), some (.ref 3), none, none, none, none]) (h1 := [d, .lst (nW L), .dK (dkL L (rkW rk)), .dK (dkL L (nxW rk nx))]) (fun K hK => ?_) ?_
  · have hi : ∀ h, wIndex (.fix [.str "mine", .str "other"]) [.str a] h = some (.int side, h) := fun h => by
      rcases hab with ⟨rfl, rfl, _⟩ | ⟨rfl, rfl, _⟩ <;> rfl
    simp [tyW, hi]
    rw [hA, hR]
    refine led_to hg hn p.toPapOk nd ?_
    rw [← hA, ← hR]
    exact hK
  refine seq_go (ps1 := [some A, some G, some (.int (room : Nat)), some T, some (.str a), some (.str b), some R, some (.ref 1), some (.ref 3), none, none, none, none]) (h1 := [d, .lst (nW L), .dK (dkL L (rkW rk)), .dK (dkL L (nxW rk nx))]) (fun K hK => ?_) ?_
  · simp [wIs, isNonW]
    exact hK
  refine seq_cut (fun ps g => True) ?_ ?_
  · refine to_lkS (n := 3) rfl rfl ?_
    obtain ⟨t, ht⟩ : ∃ t : OB, t = .dK (dkL L (rkW rk)) := ⟨_, rfl⟩
    obtain ⟨r, hrr⟩ : ∃ r : OB, r = .lst (nW L) := ⟨_, rfl⟩
    rw [← ht, ← hrr]
    show (sFor _ _ _ _ [d, r, t, .lk (dkL L (nxW rk nx))]).To _ _ _ _
    have el : ([d, r, t, OB.lk (dkL L (nxW rk nx))] : PH)[3]? = some (.lk (dkL L (nxW rk nx))) := rfl
    rw [to_for]
    simp [keys_lk el, dk_keys]
    refine for_items (fun _ => ppI A G (.int (room : Nat)) T (.str a) (.str b) R L rk nx d r t) ⟨_, _, _, rfl, rfl⟩ ?_ fun ps g z => ?_
    · rintro i w ps g ei ⟨s9, s10, s11, rfl, rfl⟩
      unfold nW at ei
      rw [List.getElem?_map] at ei
      obtain ⟨x, ex, rfl⟩ := Option.map_eq_some_iff.mp ei
      have hxL := List.mem_of_getElem? ex
      obtain ⟨g, hg0⟩ : ∃ g, g = [d, r, t, OB.lk (dkL L (nxW rk nx))] := ⟨_, rfl⟩
      rw [← hg0] at el ⊢
      refine ⟨[some A, some G, some (.int (room : Nat)), some T, some (.str a), some (.str b), some R, some (.ref 1), some (.ref 3), some (.int (x : Nat)), s10, s11, none], rfl, ?_⟩
      obtain ⟨N, hN⟩ : ∃ N, N = W.fix ((nx x).map fun t => W.int (rk t : Nat)) := ⟨_, rfl⟩
      refine seq_go (ps1 := [some A, some G, some (.int (room : Nat)), some T, some (.str a), some (.str b), some R, some (.ref 1), some (.ref 3), some (.int (x : Nat)), some (.int (rk x : Nat)), some N, none]) (h1 := g) (fun K hK => ?_) ?_
      · simp [ix_lkd el hxL, nxW, gT]
        rw [← hN]
        exact hK
      have nn : ∀ h, wIn .non N h = some (.bl false, h) := fun h => by rw [hN]; exact no_non
      have en : ∀ h, wEq N (.fix []) h = some (.bl (decide (nx x = [])), h) := fun h => by rw [hN]; exact eq_nil
      have fin : ppI A G (.int (room : Nat)) T (.str a) (.str b) R L rk nx d r t [some A, some G, some (.int (room : Nat)), some T, some (.str a), some (.str b), some R, some (.ref 1), some (.ref 3), some (.int (x : Nat)), some (.int (rk x : Nat)), some N, none] g := ⟨_, _, _, rfl, hg0⟩
      have eints : ((nx x).map fun t => W.int (rk t : Nat)) = ((nx x).map fun t => ((rk t : Nat) : Int)).map W.int := by rw [List.map_map]; rfl
      rcases hab with ⟨s0, ea, eb⟩ | ⟨s0, ea, eb⟩
      · have m1 : ∀ h, wEq (.str a) (.str (PySem.Str.ofString "mine")) h = some (.bl true, h) := fun h => by rw [ea]; rfl
        have m2 : ∀ h, wEq (.str a) (.str (PySem.Str.ofString "other")) h = some (.bl false, h) := fun h => by rw [ea]; rfl
        obtain ⟨n1, n2⟩ := p.mine s0 x hxL
        refine seq_go (ps1 := [some A, some G, some (.int (room : Nat)), some T, some (.str a), some (.str b), some R, some (.ref 1), some (.ref 3), some (.int (x : Nat)), some (.int (rk x : Nat)), some N, none]) (h1 := g) (fun K hK => ?_) ?_
        · simp [nn, m1, en, n1]
          exact hK
        refine seq_go (ps1 := [some A, some G, some (.int (room : Nat)), some T, some (.str a), some (.str b), some R, some (.ref 1), some (.ref 3), some (.int (x : Nat)), some (.int (rk x : Nat)), some N, none]) (h1 := g) (fun K hK => ?_) ?_
        · simp [m1, notG]
          refine .of (fun hx => ?_) fun hx => ?_
          · exact hK
          · obtain ⟨m, hm1, hm2⟩ := max_in (l := (nx x).map fun t => ((rk t : Nat) : Int)) (h := g) (by simpa using n1)
            obtain ⟨t', ht', rfl⟩ := List.mem_map.mp hm2
            have := n2 hx t' ht'
            rw [← eints] at hm1
            have lN : lstOf N g = some ((nx x).map fun t => W.int (rk t : Nat)) := by rw [hN]; rfl
            simp [lN, hm1]
            refine .no (by omega) hK
        · simp [m2]
          exact fin
      · have m1 : ∀ h, wEq (.str a) (.str (PySem.Str.ofString "mine")) h = some (.bl false, h) := fun h => by rw [ea]; rfl
        have m2 : ∀ h, wEq (.str a) (.str (PySem.Str.ofString "other")) h = some (.bl true, h) := fun h => by rw [ea]; rfl
        have o1 := p.oth s0 x hxL
        refine seq_go (ps1 := [some A, some G, some (.int (room : Nat)), some T, some (.str a), some (.str b), some R, some (.ref 1), some (.ref 3), some (.int (x : Nat)), some (.int (rk x : Nat)), some N, none]) (h1 := g) (fun K hK => ?_) ?_
        · simp [nn, m1]
          exact hK
        refine seq_go (ps1 := [some A, some G, some (.int (room : Nat)), some T, some (.str a), some (.str b), some R, some (.ref 1), some (.ref 3), some (.int (x : Nat)), some (.int (rk x : Nat)), some N, none]) (h1 := g) (fun K hK => ?_) ?_
        · simp [m1]
          exact hK
        · have nl : (nx x).length ≤ 24 := by
            by_cases c : Ow rs x = side ∧ Tg rs x ≠ []
            · obtain ⟨k', t, e1, e2, e3⟩ := p.own x hxL c.1 c.2
              rw [e3]; simp
            · rw [(p.els x hxL c).2]; exact tg_len2 hg x
          obtain ⟨m, hm1, hm2⟩ := max_in (l := ((nx x).map fun t => ((rk t : Nat) : Int)) ++ [-1]) (h := g) (by simp)
          have ad : wAdd N (.fix [.int (-1)]) g = some (.fix ((((nx x).map fun t => ((rk t : Nat) : Int)) ++ [-1]).map W.int), g) := by
            rw [hN, eints]
            simp only [wAdd, lstOf]
            rw [if_pos (by simp; omega), List.map_append]
            rfl
          have ii : ∀ (b : Bool) h, wInt [.bl b] h = some (.int (if b then 1 else 0), h) := fun b h => by cases b <;> rfl
          have le : m ≤ (rk x : Int) - (if decide (x ∈ Sn) = true then 1 else 0) := by
            rcases List.mem_append.mp hm2 with z | z
            · obtain ⟨t', ht', rfl⟩ := List.mem_map.mp z
              have := o1 t' ht'
              by_cases c : x ∈ Sn
              · rw [if_pos c] at this
                simp [c]; omega
              · rw [if_neg c] at this
                simp [c]; omega
            · rw [List.mem_singleton.mp z]
              split <;> omega
          simp only [to_sif, to_and, to_mB, to_op, to_var, to_C]
          refine ⟨_, rfl, ?_⟩
          rw [m2, pto_some, bto_bl, Ite_true]
          simp only [to_on, to_lstm, to_op, to_var, to_fix, to_lst, to_cons, to_nil, to_un, to_C, to_call]
          refine ⟨_, rfl, ?_⟩
          rw [show wNeg (.int 1) g = some (.int (-1), g) from rfl, pto_some]
          refine ⟨by simp, ?_⟩
          rw [ad, pto_some, show ∀ l, lstOf (.fix l) g = some l from fun _ => rfl, oto_some, hm1, pto_some]
          refine ⟨_, rfl, _, rfl, _, rfl, ?_⟩
          rw [inG, pto_some, ii, pto_some, wSub_int, pto_some, wGt_int, pto_some, bto_bl]
          refine .no (by omega) ?_
          rw [to_next]
          exact fin
    · obtain ⟨_, _, _, _, rfl⟩ := z
      exact ⟨_, rfl⟩
  · rintro ps g _
    simp
theorem refs_paper {l : List Nat} : refsW (paperW b (l.map (rowA rk mv))) = [] := by
  simp [paperW, refs_rowA]
def S_paper : FM := lift0 (f_Lpaper_right f_Lis_row f_Lled)
theorem fits_Lpaper_right : Fits (f_Lpaper_right f_Lis_row f_Lled) S_paper := fits_lift0 _
theorem paper_to (hg : GRs rs.length rs) (hn : rs.length ≤ 600) (p : PapR rs Sn L rk mv nx side) (hr : room ∈ L) (hab : sideS side a b) (q : Q (.bl true) h) : (S_paper [encA rs ks, encI (Sn.map fun i : Nat => (i : Int)), .int (room : Nat), paperW b (L.map (rowA rk mv)), .str a] h).To Q :=
  lift0_to (P := fun w => w = .bl true) (by simp [refs_paper]) ((paper_run hg hn p hr hab).mono fun w g z => by rw [z]; exact ⟨rfl, rfl⟩) fun w z => by rw [z]; exact q
end
end Mir

/-! law_k40: what again answers, as papers -/
namespace Mir
open PySem PySem.Spec PyProof.Rows L2
def nxOf (rs : List Rm) (mv : Nat → Option Nat) (x : Nat) : List Nat := match mv x with
  | some k => ((Tg rs x)[k]?).toList
  | none => Tg rs x
section
variable {rs : List Rm} {Sn : List Nat} {P : Nat → Bool} {rk ly : Nat → Nat} {mv mo : Nat → Option Nat}
theorem nx_some {x k t : Nat} (h : mv x = some k) (e : (Tg rs x)[k]? = some t) : nxOf rs mv x = [t] := by
  unfold nxOf
  rw [h]
  show ((Tg rs x)[k]?).toList = _
  rw [e]
  rfl
theorem nx_none {x : Nat} (h : mv x = none) : nxOf rs mv x = Tg rs x := by
  unfold nxOf
  rw [h]
theorem pap_mine (hg : GRs rs.length rs) (a : AgR rs Sn P rk mv ly mo) : PapR rs Sn (idx P rs.length) rk mv (nxOf rs mv) 0 where
  lt := fun x hx => (idx_mem.mp hx).1
  up := idx_up
  own := fun x hx ho _ => by
    obtain ⟨h1, h2⟩ := idx_mem.mp hx
    obtain ⟨k, t, e1, e2, _⟩ := a.m0 x h1 h2 ho
    exact ⟨k, t, e1, e2, nx_some e1 e2⟩
  els := fun x hx c => by
    obtain ⟨h1, h2⟩ := idx_mem.mp hx
    by_cases ho : Ow rs x = 0
    · obtain ⟨k, t, e1, e2, _⟩ := a.m0 x h1 h2 ho
      exact absurd ⟨ho, fun z => by rw [z] at e2; cases e2⟩ c
    · have := (a.m1 x h1 h2 ho).1
      exact ⟨this, nx_none this⟩
  inL := fun x hx t ht => by
    obtain ⟨h1, h2⟩ := idx_mem.mp hx
    by_cases ho : Ow rs x = 0
    · obtain ⟨k, u, e1, e2, e3, _⟩ := a.m0 x h1 h2 ho
      rw [nx_some e1 e2] at ht
      rw [List.mem_singleton.mp ht]
      exact idx_mem.mpr ⟨tg_in hg (List.mem_of_getElem? e2), e3⟩
    · obtain ⟨e1, _, e3⟩ := a.m1 x h1 h2 ho
      rw [nx_none e1] at ht
      exact idx_mem.mpr ⟨tg_in hg ht, (e3 t ht).1⟩
  mine := fun _ x hx => by
    obtain ⟨h1, h2⟩ := idx_mem.mp hx
    by_cases ho : Ow rs x = 0
    · obtain ⟨k, u, e1, e2, e3, e4⟩ := a.m0 x h1 h2 ho
      rw [nx_some e1 e2]
      exact ⟨by simp, fun hS t ht => by rw [List.mem_singleton.mp ht]; exact e4 hS⟩
    · obtain ⟨e1, e2, e3⟩ := a.m1 x h1 h2 ho
      rw [nx_none e1]
      exact ⟨e2, fun hS t ht => (e3 t ht).2 hS⟩
  oth := fun z => by cases z
theorem pap_oth (hg : GRs rs.length rs) (a : AgR rs Sn P rk mv ly mo) : PapR rs Sn (idx (fun i => !P i) rs.length) ly mo (nxOf rs mo) 1 where
  lt := fun x hx => (idx_mem.mp hx).1
  up := idx_up
  own := fun x hx ho ht => by
    obtain ⟨h1, h2⟩ := idx_mem.mp hx
    have h2 : P x = false := by simpa using h2
    rcases a.o1 x h1 h2 (by omega) with z | ⟨k, t, e1, e2, _⟩
    · exact absurd z.1 ht
    · exact ⟨k, t, e1, e2, nx_some e1 e2⟩
  els := fun x hx c => by
    obtain ⟨h1, h2⟩ := idx_mem.mp hx
    have h2 : P x = false := by simpa using h2
    rcases ow_01 hg h1 with ho | ho
    · have := (a.o0 x h1 h2 ho).1
      exact ⟨this, nx_none this⟩
    · rcases a.o1 x h1 h2 (by omega) with z | ⟨k, t, e1, e2, _⟩
      · exact ⟨z.2, nx_none z.2⟩
      · exact absurd ⟨ho, fun z => by rw [z] at e2; cases e2⟩ c
  inL := fun x hx t ht => by
    obtain ⟨h1, h2⟩ := idx_mem.mp hx
    have h2 : P x = false := by simpa using h2
    rcases ow_01 hg h1 with ho | ho
    · obtain ⟨e1, e2⟩ := a.o0 x h1 h2 ho
      rw [nx_none e1] at ht
      exact idx_mem.mpr ⟨tg_in hg ht, by rw [(e2 t ht).1]; rfl⟩
    · rcases a.o1 x h1 h2 (by omega) with z | ⟨k, u, e1, e2, e3, _⟩
      · rw [nx_none z.2, z.1] at ht
        cases ht
      · rw [nx_some e1 e2] at ht
        rw [List.mem_singleton.mp ht]
        exact idx_mem.mpr ⟨tg_in hg (List.mem_of_getElem? e2), by rw [e3]; rfl⟩
  mine := fun z => by cases z
  oth := fun _ x hx t ht => by
    obtain ⟨h1, h2⟩ := idx_mem.mp hx
    have h2 : P x = false := by simpa using h2
    have fin : ly t ≤ ly x ∧ (x ∈ Sn → ly t < ly x) → ly t + (if x ∈ Sn then 1 else 0) ≤ ly x := fun z => by
      split
      · rename_i hS
        have := z.2 hS
        omega
      · exact z.1
    rcases ow_01 hg h1 with ho | ho
    · obtain ⟨e1, e2⟩ := a.o0 x h1 h2 ho
      rw [nx_none e1] at ht
      exact fin (e2 t ht).2
    · rcases a.o1 x h1 h2 (by omega) with z | ⟨k, u, e1, e2, e3, e4⟩
      · rw [nx_none z.2, z.1] at ht
        cases ht
      · rw [nx_some e1 e2] at ht
        have et := List.mem_singleton.mp ht
        exact fin (by rw [et]; exact e4)
theorem ans_repr {n : Nat} {L : List Nat} {a b : Str} (hn : n ≤ 600) (hL : ∀ x ∈ L, x < n ∧ rk x ≤ n ∧ (∀ k, mv x = some k → k ≤ 100)) (hl : L.length ≤ 600) (ha : keyOk a = true) (hb : keyOk b = true) : ∃ s : Str, ∀ g, wRepr [ansG a b (L.map (rowA rk mv))] g = some (.str s, g) := by
  refine ⟨(dT (ansG a b (L.map (rowA rk mv)))).shown, fun g => repr_tup (n := 6) ?_ (by decide) ?_ ?_⟩
  · have h1 : plWs 2 (L.map (rowA rk mv)) = true := pls_map _ _ fun x _ => by simp [rowA]
    simp [h1, (key_of ha).1, (key_of hb).1]
  · have h1 : smWs (L.map (rowA rk mv)) = true := sms_map _ _ fun x hx => by
      obtain ⟨h1, h2, h3⟩ := hL x hx
      have h4 : (mvI mv x).natAbs < 10000000 := by
        unfold mvI
        cases e : mv x with
        | none => simp
        | some k => have := h3 k e; simp only; omega
      simp [rowA]
      omega
    simp only [sm_tup, sms_cons, sms_nil, sm_str, (key_of ha).2.1, (key_of hb).2.1, h1, Bool.and_self]
  · have w1 := wBs_map (rowA rk mv) L 75 fun x _ => by simp [rowA]
    have k1 := (key_of ha).2.2
    have k2 := (key_of hb).2.2
    simp
    omega
end
end Mir

/-! law_k40: all rooms asked, rightly answered -/
namespace Mir
open PySem PySem.Spec PyProof.Rows L2
theorem nats_of {n : Nat} {l : List Int} (h : incr n l) : ∃ Sn : List Nat, l = (Sn.map fun i : Nat => (i : Int)) ∧ Sn.Nodup ∧ ∀ x ∈ Sn, x < n := by
  refine ⟨l.map Int.toNat, ?_, ?_, fun x hx => ?_⟩
  · rw [List.map_map]
    have : l.map ((fun i : Nat => (i : Int)) ∘ Int.toNat) = l.map id := List.map_congr_left fun x hx => by
      have := (h.2 x hx).1
      simp only [Function.comp_apply, id]
      omega
    rw [this, List.map_id]
  · have := h.1
    unfold List.Nodup
    rw [List.pairwise_map]
    refine List.Pairwise.imp_of_mem (fun {a b} ha hb hab => ?_) this
    have := (h.2 a ha).1
    omega
  · obtain ⟨y, hy, rfl⟩ := List.mem_map.mp hx
    have := h.2 y hy
    omega
abbrev F_right40 : FM := f_Lright S_arooms S_again S_paper
def rgI (A : W) (ps : LS) (g : PH) : Prop := ∃ (s1 s2 s3 s4 s5 s6 : Option W), ps = [some A, s1, s2, s3, s4, s5, s6]
def rgJ (A N G T : W) (ps : LS) (g : PH) : Prop := ∃ (s4 s5 s6 : Option W), ps = [some A, some N, some G, some T, s4, s5, s6]
theorem mineOk : keyOk (PySem.Str.ofString "mine") = true ∧ keyOk (PySem.Str.ofString "ranks") = true ∧ keyOk (PySem.Str.ofString "other") = true ∧ keyOk (PySem.Str.ofString "layers") = true := by decide +kernel
theorem notInTwo {a : Str} {h : PH} (ha : a = "mine" ∨ a = "other") : wNotInD (.tup [.str a]) (.tup [.tup [.str "mine"], .tup [.str "other"]]) h = some (.bl false, h) := by
  have s1 := (key_of mineOk.1).1
  have s2 := (key_of mineOk.2.2.1).1
  have s3 : PyData.strOk a = true := ha.elim (fun z => by rw [z]; exact s1) fun z => by rw [z]; exact s2
  unfold wNotInD
  rw [inWD_pl (n := 2) (m := 3) (.inr rfl) (by simp [s3]) (by simp [s1, s2]) (by decide) (by decide)]
  rcases ha with rfl | rfl <;> simp
theorem eqMine {a : Str} {h : PH} (ha : a = "mine" ∨ a = "other") : wEq (.tup [.str a]) (.tup [.str "mine"]) h = some (.bl (decide (a = "mine")), h) := by
  have s1 := (key_of mineOk.1).1
  have s2 := (key_of mineOk.2.2.1).1
  have s3 : PyData.strOk a = true := ha.elim (fun z => by rw [z]; exact s1) fun z => by rw [z]; exact s2
  rw [wEq_pl (n := 3) (m := 3) (by simp [s3]) (by simp [s1]) (by decide) (by decide)]
  congr 3
  exact decide_eq_decide.mpr ⟨fun z => by simpa using z, fun z => by rw [z]⟩
section
variable {rs : List Rm} {ks : List (Str × List Int)} {h : PH} {Q : W → PH → Prop}
theorem right40_run (h1 : 1 ≤ rs.length) (hn : rs.length ≤ 600) (hg : GRs rs.length rs) (hk : ks.Pairwise fun a b => a.1 ≠ b.1) (hG : ∀ k ∈ ks, GI rs.length k.2) : (F_right40 [encA rs ks] []).To fun w g => w = .bl true := by
  unfold F_right40 f_Lright
  obtain ⟨A, hA⟩ : ∃ A, A = encA rs ks := ⟨_, rfl⟩
  have ixA0 : ∀ h, wIx A (.int 0) h = some (.tup (rs.map encR), h) := fun h => by rw [hA]; rfl
  have ixA1 : ∀ h, wIx A (.int 1) h = some (.tup (ks.map encK), h) := fun h => by rw [hA]; rfl
  have lenR : ∀ h, wLen [.tup (rs.map encR)] h = some (.int (rs.length : Nat), h) := fun h => by rw [wLen_tup, List.length_map]
  have tb : ∀ b g, tru (.bl b) g = some b := fun _ _ => rfl
  have b1 : isB "tuple" "tuple" = true := by decide
  rw [← hA, run_to, show startW 7 [A] = [some A, none, none, none, none, none, none] from rfl]
  unfold b_Lright
  refine seq_cut (rgI A) ?_ ?_
  · rw [to_for]
    simp [ixA1]
    refine for_items (fun _ => rgI A) ⟨_, _, _, _, _, _, rfl⟩ ?_ fun ps g z => z
    rintro i w ps g ei ⟨s1, s2, s3, s4, s5, s6, rfl⟩
    rw [List.getElem?_map] at ei
    obtain ⟨kk, ek, rfl⟩ := Option.map_eq_some_iff.mp ei
    obtain ⟨nm, S0⟩ := kk
    have hi := (List.getElem?_eq_some_iff.mp ek).1
    have ekk : ks = ks.take i ++ (nm, S0) :: ks.drop (i + 1) := by
      conv => lhs; rw [← List.take_append_drop i ks]
      rw [List.drop_eq_getElem_cons hi, (List.getElem?_eq_some_iff.mp ek).2]
    have hp : ∀ k ∈ ks.take i, k.1 ≠ nm := fun k hk2 => by
      obtain ⟨j, hj⟩ := List.getElem?_of_mem hk2
      have hij : j < i := by have := (List.getElem?_eq_some_iff.mp hj).1; rw [List.length_take] at this; omega
      rw [List.getElem?_take_of_lt hij] at hj
      obtain ⟨q1, q1'⟩ := List.getElem?_eq_some_iff.mp hj
      have := List.pairwise_iff_getElem.mp hk j i q1 hi hij
      rw [q1', (List.getElem?_eq_some_iff.mp ek).2] at this
      exact this
    obtain ⟨Sn, rfl, ndS, ltS⟩ := nats_of (hG _ (List.mem_of_getElem? ek)).2
    obtain ⟨P, rk, mv, ly, mo, ag, ans, roms⟩ := again_all (ks := ks) hn hg ndS ltS ekk hp
    obtain ⟨G, hGG⟩ : ∃ G, G = encI (Sn.map fun i : Nat => (i : Int)) := ⟨_, rfl⟩
    refine ⟨[some A, some (.str nm), some G, s3, s4, s5, s6], by rw [hGG]; simp [gT, encK], ?_⟩
    refine seq_go (ps1 := [some A, some (.str nm), some G, some (.tup (nW (idx P rs.length))), s4, s5, s6]) (h1 := g) (fun K hK => ?_) ?_
    · simp
      rw [hA]
      refine roms _ _ ?_
      rw [← hA]
      exact hK
    have il : (idx P rs.length).length ≤ 600 := Nat.le_trans idx_len hn
    refine seq_go (ps1 := [some A, some (.str nm), some G, some (.tup (nW (idx P rs.length))), s4, s5, s6]) (h1 := g) (fun K hK => ?_) ?_
    · have ss : lSetSort (.tup (nW (idx P rs.length))) g = some (nW (idx P rs.length), g) := by
        unfold lSetSort
        rw [show seqOf (.tup (nW (idx P rs.length))) g = some (nW (idx P rs.length)) from rfl, Option.bind_some]
        rw [nW_ints, ints_map, Option.bind_some, if_pos (by rw [List.length_map]; omega), set_nW idx_up, nW_ints]
      have ty : tyName (.tup (nW (idx P rs.length))) g = some "tuple" := rfl
      have sq : seqOf (.tup (nW (idx P rs.length))) g = some (nW (idx P rs.length)) := rfl
      have ne : wNe (.fix (nW (idx P rs.length))) (.fix (nW (idx P rs.length))) g = some (.bl false, g) := by rw [wNe_nW]; simp
      simp only [to_sif, to_or, to_not, to_tru, to_isi, to_var, to_mB, to_op, to_fix, to_on, to_seqm, to_onV]
      refine ⟨_, rfl, ?_⟩
      rw [ty, oto_some, b1, tb, oto_some]
      simp only [Bool.not_true, Ite_false]
      refine ⟨_, rfl, ?_⟩
      rw [sq, oto_some, show lId (nW (idx P rs.length)) g = some (nW (idx P rs.length), g) from rfl, pto_some]
      refine ⟨_, rfl, ?_⟩
      rw [ss, pto_some, ne, pto_some, bto_bl, Ite_false, to_next]
      exact hK
    obtain ⟨T, hT⟩ : ∃ T, T = W.tup (nW (idx P rs.length)) := ⟨_, rfl⟩
    rw [← hT]
    rw [to_for]
    obtain ⟨M, hM1, hM2⟩ : ∃ M : Nat, (if (rs.length : Int) < 8 then (rs.length : Int) else 8) = (M : Nat) ∧ M ≤ 8 := by
      by_cases c : (rs.length : Int) < 8
      · exact ⟨rs.length, by rw [if_pos c], by omega⟩
      · exact ⟨8, by rw [if_neg c]; rfl, by omega⟩
    simp [ixA0, lenR, wMin2]
    rw [hM1]
    refine ⟨by omega, ?_⟩
    refine for_items (fun _ => rgJ A (.str nm) G T) ⟨_, _, _, rfl⟩ ?_ fun ps g z => ?_
    · rintro j w ps g ej ⟨s4, s5, s6, rfl⟩
      obtain ⟨hj, rfl⟩ := range_get ej
      have hj : j < M := by simpa using hj
      obtain ⟨room, hrm, hr⟩ : ∃ room : Nat, ((0 + (j : Int)) * 7 + (rs.length : Int) / 2) % (rs.length : Int) = (room : Nat) ∧ room < rs.length := by
        have q1 := Int.emod_nonneg ((0 + (j : Int)) * 7 + (rs.length : Int) / 2) (show (rs.length : Int) ≠ 0 by omega)
        have q2 := Int.emod_lt_of_pos ((0 + (j : Int)) * 7 + (rs.length : Int) / 2) (show (0 : Int) < rs.length by omega)
        exact ⟨_, (Int.toNat_of_nonneg q1).symm, by omega⟩
      refine ⟨[some A, some (.str nm), some G, some T, some (.int (0 + (j : Nat))), s5, s6], rfl, ?_⟩
      refine seq_go (ps1 := [some A, some (.str nm), some G, some T, some (.int (0 + (j : Nat))), some (.int (room : Nat)), s6]) (h1 := g) (fun K hK => ?_) ?_
      · rw [Int.zero_add] at hrm
        simp [ixA0, lenR]
        rw [hrm]
        refine ⟨by decide, by omega, ?_⟩
        simpa using hK
      obtain ⟨L, rk', mv', nx, side, a, b, pr, hrL, sd, eans, hsd, hbd⟩ : ∃ (L : List Nat) (rk' : Nat → Nat) (mv' : Nat → Option Nat) (nx : Nat → List Nat) (side : Int) (a b : Str), PapR rs Sn L rk' mv' nx side ∧ room ∈ L ∧ sideS side a b ∧ ansA rs.length P rk mv ly mo room = ansG a b (L.map (rowA rk' mv')) ∧ (a = "mine" ↔ room ∈ idx P rs.length) ∧ ∀ x ∈ L, x < rs.length ∧ rk' x ≤ rs.length := by
        unfold ansA
        cases c : P room with
        | true =>
          exact ⟨_, _, _, _, 0, "mine", "ranks", pap_mine hg ag, idx_mem.mpr ⟨hr, c⟩, .inl ⟨rfl, rfl, rfl⟩, rfl, ⟨fun _ => idx_mem.mpr ⟨hr, c⟩, fun _ => rfl⟩, fun x hx => ⟨(idx_mem.mp hx).1, ag.rb x (idx_mem.mp hx).1 (idx_mem.mp hx).2⟩⟩
        | false =>
          refine ⟨_, _, _, _, 1, "other", "layers", pap_oth hg ag, idx_mem.mpr ⟨hr, by rw [c]; rfl⟩, .inr ⟨rfl, rfl, rfl⟩, rfl, ⟨fun z => absurd z (by decide +kernel), fun z => ?_⟩, fun x hx => ⟨(idx_mem.mp hx).1, ag.lb x (idx_mem.mp hx).1 (by simpa using (idx_mem.mp hx).2)⟩⟩
          have := (idx_mem.mp z).2
          rw [c] at this
          cases this
      have ak : a = "mine" ∨ a = "other" := sd.elim (fun z => .inl z.2.1) fun z => .inr z.2.1
      obtain ⟨F, hF⟩ : ∃ F, F = ansG a b (L.map (rowA rk' mv')) := ⟨_, rfl⟩
      have agn : ∀ (h : PH) (Q : W → PH → Prop), Q F h → (S_again [A, .str nm, .int (room : Nat)] h).To Q := fun h Q q => by
        rw [hA]
        refine ans room hr h Q ?_
        rw [eans, ← hF]
        exact q
      have f0 : ∀ h, wIx F (.int 0) h = some (.tup [.str a], h) := fun h => by rw [hF]; rfl
      have f1 : ∀ h, wIx F (.int 1) h = some (paperW b (L.map (rowA rk' mv')), h) := fun h => by rw [hF]; rfl
      have tyF : ∀ h, tyName F h = some "tuple" := fun h => by rw [hF]; rfl
      have lenF : ∀ h, wLen [F] h = some (.int 2, h) := fun h => by rw [hF]; rfl
      have a0 : ∀ h, wIx (.tup [.str a]) (.int 0) h = some (.str a, h) := fun _ => rfl
      refine seq_go (ps1 := [some A, some (.str nm), some G, some T, some (.int (0 + (j : Nat))), some (.int (room : Nat)), some F]) (h1 := g) (fun K hK => ?_) ?_
      · simp
        refine agn _ _ ?_
        simpa using hK
      refine seq_go (ps1 := [some A, some (.str nm), some G, some T, some (.int (0 + (j : Nat))), some (.int (room : Nat)), some F]) (h1 := g) (fun K hK => ?_) ?_
      · simp [tyF, lenF, tb, b1, f0, notInTwo ak]
        simpa using hK
      obtain ⟨s, hs⟩ := ans_repr (n := rs.length) (L := L) (rk := rk') (mv := mv') (a := a) (b := b) hn (fun x hx => ⟨(hbd x hx).1, (hbd x hx).2, fun k ek => by
        by_cases c : Ow rs x = side ∧ Tg rs x ≠ []
        · obtain ⟨k', t, e1, e2, _⟩ := pr.own x hx c.1 c.2
          rw [ek] at e1
          cases e1
          have := (List.getElem?_eq_some_iff.mp e2).1
          have := tg_len2 hg x
          omega
        · rw [(pr.els x hx c).1] at ek
          cases ek⟩) (by
        have := nodup_le (L := List.range rs.length) (pr.up.imp fun h => Nat.ne_of_lt h) fun x hx => List.mem_range.mpr (pr.lt x hx)
        rw [List.length_range] at this
        omega) (sd.elim (fun z => by rw [z.2.1]; exact mineOk.1) fun z => by rw [z.2.1]; exact mineOk.2.2.1) (sd.elim (fun z => by rw [z.2.2]; exact mineOk.2.1) fun z => by rw [z.2.2]; exact mineOk.2.2.2)
      rw [← hF] at hs
      refine seq_go (ps1 := [some A, some (.str nm), some G, some T, some (.int (0 + (j : Nat))), some (.int (room : Nat)), some F]) (h1 := g) (fun K hK => ?_) ?_
      · have inT : ∀ h, wIn (.int (room : Nat)) T h = some (.bl (decide (room ∈ idx P rs.length)), h) := fun h => by rw [hT]; exact wIn_nWt
        have neS : ∀ h, wNe (.str s) (.str s) h = some (.bl false, h) := fun h => by
          have : eqB (.str s) (.str s) h = some true := by
            show some (s == s) = _
            simp
          simp [wNe, this]
        have nb : ∀ (b : Bool) h, wNe (.bl b) (.bl b) h = some (.bl false, h) := fun b h => by cases b <;> rfl
        have db : decide (a = "mine") = decide (room ∈ idx P rs.length) := decide_eq_decide.mpr hsd
        simp only [to_sif, to_or, to_mB, to_op, to_var, to_C, to_tup, to_cons, to_nil]
        refine ⟨_, rfl, ?_⟩
        rw [f0, pto_some]
        refine ⟨by simp, ?_⟩
        rw [eqMine ak, pto_some]
        refine ⟨_, rfl, _, rfl, ?_⟩
        rw [inT, pto_some, db, nb, pto_some, bto_bl, Ite_false]
        simp only [to_call, to_cons, to_nil, to_fn, to_var]
        refine ⟨_, rfl, _, rfl, _, rfl, rfl, agn _ _ ?_⟩
        rw [hs, pto_some]
        refine ⟨_, rfl, ?_⟩
        rw [hs, pto_some, neS, pto_some, bto_bl, Ite_false, to_next]
        exact hK
      · simp only [to_sif, to_not, to_tru, to_fn, to_cons, to_nil, to_var, to_op, to_C]
        refine ⟨_, rfl, _, rfl, _, rfl, _, rfl, ?_⟩
        rw [f1, pto_some]
        refine ⟨_, rfl, ?_⟩
        rw [f0, pto_some, a0, pto_some]
        refine ⟨rfl, ?_⟩
        rw [hA, hGG]
        refine paper_to hg hn pr hrL sd ?_
        rw [tb, oto_some]
        simp only [Bool.not_true, Ite_false, to_next]
        rw [← hA, ← hGG]
        exact ⟨_, _, _, rfl⟩
    · obtain ⟨s4, s5, s6, rfl⟩ := z
      exact ⟨_, _, _, _, _, _, rfl⟩
  · rintro ps g ⟨s1, s2, s3, s4, s5, s6, rfl⟩
    simp
def S_right40 : FM := lift0 F_right40
theorem fits_Lright : Fits F_right40 S_right40 := fits_lift0 _
theorem right40_to (h1 : 1 ≤ rs.length) (hn : rs.length ≤ 600) (hg : GRs rs.length rs) (hk : ks.Pairwise fun a b => a.1 ≠ b.1) (hG : ∀ k ∈ ks, GI rs.length k.2) (q : Q (.bl true) h) : (S_right40 [encA rs ks] h).To Q :=
  lift0_to (P := fun w => w = .bl true) (by simp) ((right40_run h1 hn hg hk hG).mono fun w g z => by rw [z]; exact ⟨rfl, rfl⟩) fun w z => by rw [z]; exact q
end
end Mir

/-! law_k40: a wide arena -/
namespace Mir
open PySem PySem.Spec PyProof.Rows L2
theorem Dr.up {sc : List Int} {B B' : Int} {o : OB} (d : Dr sc B o) (h : B ≤ B') : Dr sc B' o := d.mono h
def wdM (sc : List Int) (B : Int) (t : PH) (ps : LS) (g : PH) : Prop := ∃ (o : OB) (mo one : Int), ps = [some (.ref 0), some (.int mo), some (.int one), none, none, none] ∧ g = o :: t ∧ (mo = 1 ∨ mo = 2) ∧ Dr sc B o
def wdL (sc : List Int) (B : Int) (t : PH) (i : Nat) (acc : List W) (g : PH) : Prop := ∃ (o : OB) (ms : List Mv), g = o :: t ∧ acc = ms.map encM ∧ ms.length = i ∧ (∀ m ∈ ms, GM' 3 m) ∧ Dr sc (B + 2 * i) o
def wdN (sc : List Int) (B : Int) (n : Nat) (M O : W) (ps : LS) (g : PH) : Prop := ∃ (o : OB) (t : PH) (ms : List Mv), g = o :: t ∧ ps = [some (.ref 0), some M, some O, some (.ref (n + 1)), none, none] ∧ t.length = n + 1 ∧ t[n]? = some (.lst (ms.map encM)) ∧ ms.length = 24 ∧ (∀ m ∈ ms, GM' 3 m) ∧ Dr sc B o
def wdI (sc : List Int) (B : Int) (n : Nat) (M O V : W) (i : Nat) (ps : LS) (g : PH) : Prop := ∃ (o : OB) (t : PH) (rs : List Rm) (s5 : Option W), g = o :: t ∧ ps = [some (.ref 0), some M, some O, some V, some (.ref (n + 1)), s5] ∧ t[n]? = some (.lst (rs.map encR)) ∧ rs.length = 1 + i ∧ GRs 3 rs ∧ Dr sc (B + 2 * i) o
theorem rep1 {x : W} {r : Int} {h : PH} (h0 : 0 ≤ r) (h1 : r ≤ 1000) : wMulT (.tup [x]) (.int r) h = some (.tup (List.replicate r.toNat x), h) := by
  simp only [wMulT]
  rw [if_pos ⟨by simp, h0, h1, by simp⟩]
  congr 3
  generalize r.toNat = n
  induction n with
  | zero => rfl
  | succ n ih => rw [List.replicate_succ, List.replicate_succ, List.flatten_cons, ih]; rfl
theorem wide_to (sc : List Int) (hsc : sc.length ≤ 63) {B : Int} {o : OB} (d : Dr sc B o) (hB : B < 1000000000) {g : PH} {Q : W → PH → Prop} (q : ∀ rs o2 g2, rs.length = 3 → GRs 3 rs → Dr sc (B + 1000) o2 → Q (encA rs [(PySem.Str.ofString "goal", [2]), (PySem.Str.ofString "other", [0])]) (o2 :: g2)) : (f_Lwide S_next [.ref 0] (o :: g)).To Q := by
  unfold f_Lwide
  rw [run_to, show startW 6 [W.ref 0] = [some (.ref 0), none, none, none, none, none] from rfl]
  unfold b_Lwide
  refine seq_cut (wdM sc (B + 3) g) ?_ ?_
  · simp
    refine next0 sc hsc d (by omega) (by decide) (by decide) fun r1 o1 a1 b1 d1 => ?_
    try simp
    refine next0 sc hsc d1 (by omega) (by decide) (by decide) fun r2 o2 a2 b2 d2 => ?_
    try simp
    refine next0 sc hsc d2 (by omega) (by decide) (by decide) fun r3 o3 a3 b3 d3 => ?_
    have : ∃ one : Int, atI [W.int 23, W.int r2] r3 = some (.int one) := by
      have : r3 = 0 ∨ r3 = 1 := by omega
      rcases this with rfl | rfl
      · exact ⟨23, at0⟩
      · exact ⟨r2, at1⟩
    obtain ⟨one, e1⟩ := this
    simp [e1, gT]
    exact ⟨o3, 1 + r1, one, rfl, rfl, by omega, d3.up (by omega)⟩
  rintro ps g1 ⟨o1, mo, one, rfl, rfl, hmo, d1⟩
  refine seq_cut (wdN sc (B + 51) g.length (.int mo) (.int one)) ?_ ?_
  · simp [wipeW]
    refine lc_items (wdL sc (B + 3) g) ⟨o1, [], rfl, rfl, rfl, fun _ z => (by cases z), d1.up (by omega)⟩ ?_ ?_
    · rintro i w acc h e ⟨o2, ms, rfl, rfl, hl, hm, d2⟩
      obtain ⟨hi, rfl⟩ := range_get e
      refine ⟨_, rfl, ?_⟩
      rw [to_yes, Ite_true]
      have fin : ∀ (to r1 r2 : Int) (o4 : OB), 0 ≤ to → to < 3 → 0 ≤ r1 → r1 < 9 → 0 ≤ r2 → r2 < 2 → Dr sc (B + 3 + 2 * i + 2) o4 → (ms.map encM).length < 16777216 ∧ wdL sc (B + 3) g (i + 1) (ms.map encM ++ [.tup [.int to, .int (r1 - 4), .int r2]]) (o4 :: g) := fun to r1 r2 o4 t0 t1 a1 b1 a2 b2 d4 =>
        ⟨by rw [List.length_map]; omega, o4, ms ++ [(to, r1 - 4, r2)], rfl, by rw [List.map_append]; rfl, by simp [hl], fun m hm2 => by
          rcases List.mem_append.mp hm2 with z | z
          · exact hm m z
          · rw [List.mem_singleton.mp z]
            exact ⟨t0, t1, by show -1000 ≤ r1 - 4; omega, by show r1 - 4 ≤ 1000; omega, a2, by show r2 ≤ 1; omega⟩, d4.up (by omega)⟩
      simp only [to_tup, to_cons, to_nil, to_if, to_mB, to_op, to_var, to_C, to_fn]
      refine ⟨_, rfl, _, rfl, ?_⟩
      rw [wEq_int, pto_some, bto_bl]
      refine .of (fun _ => ?_) fun _ => ?_
      · refine ⟨_, rfl, ?_⟩
        rw [wSub_int, pto_some]
        refine ⟨_, rfl, rfl, ?_⟩
        refine next0 sc hsc d2 (by omega) (by decide) (by decide) fun r1 o3 a1 b1 d3 => ?_
        rw [wSub_int, pto_some]
        refine ⟨_, rfl, rfl, ?_⟩
        refine next0 sc hsc d3 (by omega) (by decide) (by decide) fun r2 o4 a2 b2 d4 => ?_
        refine ⟨by simp, ?_⟩
        exact fin _ _ _ _ (by omega) (by omega) a1 b1 a2 b2 (d4.up (by omega))
      · refine ⟨_, rfl, _, rfl, rfl, ?_⟩
        refine next0 sc hsc d2 (by omega) (by decide) (by decide) fun r1 o3 a1 b1 d3 => ?_
        rw [wSub_int, pto_some]
        refine ⟨_, rfl, rfl, ?_⟩
        refine next0 sc hsc d3 (by omega) (by decide) (by decide) fun r2 o4 a2 b2 d4 => ?_
        refine ⟨by simp, ?_⟩
        exact fin _ _ _ _ (by omega) (by omega) a1 b1 a2 b2 (d4.up (by omega))
    · rintro acc h ⟨o2, ms, rfl, rfl, hl, hm, d2⟩
      rw [range_len] at hl d2
      refine ⟨o2, g ++ [.lst (ms.map encM)], ms, by simp, by simp, by simp, by simp, hl, hm, d2.up (by omega)⟩
  rintro ps g2 ⟨o2, t, ms, rfl, rfl, tl, tn, ml, hm, d2⟩
  obtain ⟨n, hn⟩ : ∃ n, n = t.length := ⟨_, rfl⟩
  refine seq_cut (wdI sc (B + 52) n (.int mo) (.int one) (.ref (g.length + 1)) 0) ?_ ?_
  · have sq : ∀ o, seqOf (.ref (g.length + 1)) (o :: t) = some (ms.map encM) := fun o => by simp only [seqOf, show (o :: t)[g.length + 1]? = _ from tn]
    simp only [to_asg, to_new, to_lst, to_cons, to_nil, to_tup, to_fn, to_var, to_C, to_on, to_seqm]
    refine ⟨_, rfl, rfl, ?_⟩
    refine next0 sc hsc d2 (by omega) (by decide) (by decide) fun r1 o3 a1 b1 d3 => ?_
    refine ⟨_, rfl, ?_⟩
    rw [sq, oto_some, show wTupQ (ms.map encM) (o3 :: t) = some (.tup (ms.map encM), o3 :: t) from rfl, pto_some]
    refine ⟨by simp, by simp, ?_⟩
    rw [gN_is, oto_some]
    refine ⟨o3, t ++ [.lst [encR (r1, ms)]], [(r1, ms)], none, by simp; rfl, by simp [hn], by rw [hn]; simp, rfl, fun r hr => ?_, d3.up (by omega)⟩
    rw [List.mem_singleton.mp hr]
    exact ⟨a1, by show r1 ≤ 1; omega, by show ms.length ≤ 24; omega, hm⟩
  rintro ps g2 ⟨o3, t3, rs, s5, rfl, rfl, tn3, rl, hr, d3⟩
  refine seq_cut (wdI sc (B + 52) n (.int mo) (.int one) (.ref (g.length + 1)) 2) ?_ ?_
  · rw [to_for]
    simp
    refine for_items (wdI sc (B + 52) n (.int mo) (.int one) (.ref (g.length + 1))) ⟨o3, t3, rs, _, rfl, rfl, tn3, rl, hr, d3⟩ ?_ fun ps g z => z
    rintro i w ps g4 ei ⟨o4, t4, rs, s5, rfl, rfl, tn4, rl, hr, d4⟩
    have hw : ∃ k : Int, w = .int k ∧ 0 ≤ k ∧ k < 3 ∧ i < 2 := by
      match i, ei with
      | 0, ei => cases ei; exact ⟨1, rfl, by decide, by decide, by decide⟩
      | 1, ei => cases ei; exact ⟨2, rfl, by decide, by decide, by decide⟩
    obtain ⟨k, rfl, k0, k3, i2⟩ := hw
    refine ⟨_, rfl, ?_⟩
    have nl := (List.getElem?_eq_some_iff.mp tn4).1
    have ty : ∀ o, tyW "list" (.ref (n + 1)) (o :: t4) = true := fun o => tyW_lst (show (o :: t4)[n + 1]? = _ from tn4)
    simp only [to_drop, to_mt, to_cons, to_nil, to_tup, to_fn, to_var, to_C, to_op]
    refine ⟨_, rfl, ty _, _, rfl, rfl, ?_⟩
    refine next0 sc hsc d4 (by omega) (by decide) (by decide) fun r1 o5 a1 b1 d5 => ?_
    refine ⟨_, rfl, by simp, by simp, by simp, by simp, _, rfl, rfl, ?_⟩
    refine next0 sc hsc d5 (by omega) (by decide) (by decide) fun r2 o6 a2 b2 d6 => ?_
    have ad : wAdd (.tup [.tup [.int k, .int 1, .int 1]]) (.tup (List.replicate r2.toNat (.tup [.int 0, .int 0, .int 1]))) (o6 :: t4) = some (encMs ((k, 1, 1) :: List.replicate r2.toNat (0, 0, 1)), o6 :: t4) := by
      simp only [wAdd]
      rw [if_pos (by simp; omega)]
      unfold encMs
      rw [List.map_cons, List.map_replicate]
      rfl
    rw [rep1 a2 (by omega), pto_some, ad, pto_some]
    refine ⟨by simp, ?_⟩
    rw [wAppend_lst (show (o6 :: t4)[n + 1]? = _ from tn4), if_pos (by rw [List.length_map]; omega), pto_some]
    refine ⟨o6, t4.set n (.lst (rs.map encR ++ [encR (r1, (k, 1, 1) :: List.replicate r2.toNat (0, 0, 1))])), rs ++ [(r1, (k, 1, 1) :: List.replicate r2.toNat (0, 0, 1))], _, rfl, rfl, ?_, by simp [rl]; omega, fun r hr2 => ?_, d6.up (by omega)⟩
    · rw [List.getElem?_set_self nl, List.map_append]
      rfl
    · rcases List.mem_append.mp hr2 with z | z
      · exact hr r z
      · rw [List.mem_singleton.mp z]
        refine ⟨a1, by show r1 ≤ 1; omega, by show List.length (_ :: _) ≤ 24; rw [List.length_cons, List.length_replicate]; omega, fun m hm2 => ?_⟩
        rcases List.mem_cons.mp hm2 with rfl | hm2
        · exact ⟨k0, k3, (by decide : (-1000 : Int) ≤ 1), (by decide : (1 : Int) ≤ 1000), (by decide : (0 : Int) ≤ 1), (by decide : (1 : Int) ≤ 1)⟩
        · rw [List.eq_of_mem_replicate hm2]
          exact ⟨by decide, by decide, by decide, by decide, by decide, by decide⟩
  rintro ps g2 ⟨o3, t3, rs, s5, rfl, rfl, tn3, rl, hr, d3⟩
  have sq : seqOf (.ref (n + 1)) (o3 :: t3) = some (rs.map encR) := by simp only [seqOf, show (o3 :: t3)[n + 1]? = _ from tn3]
  simp only [to_ret, to_tup, to_cons, to_nil, to_on, to_seqm, to_var, to_C]
  refine ⟨_, rfl, ?_⟩
  rw [sq, oto_some, show wTupQ (rs.map encR) (o3 :: t3) = some (.tup (rs.map encR), o3 :: t3) from rfl, pto_some]
  refine ⟨by simp, by simp, by simp, by simp, by simp, by simp, ?_⟩
  exact q rs o3 t3 rl hr (d3.up (by omega))
end Mir

/-! law_k40: a far arena, plain -/
namespace Mir
open PySem PySem.Spec PyProof.Rows L2
def oddM (b : Int) (j : Nat) : List Mv := if b = 0 then [(2 * (j : Int) + 2, 0, 1), (2 * (j : Int) + 1, 1, 1)] else [(2 * (j : Int) + 2, 0, 1)]
def FarP (RL : List Rm) (k : Nat) : Prop := RL.length = 2 * k ∧ ∀ j, j < k → ∃ a b : Int, (a = 0 ∨ a = 1) ∧ (b = 0 ∨ b = 1) ∧ RL[2 * j]? = some (a, [(2 * (j : Int) + 1, 1, 0)]) ∧ RL[2 * j + 1]? = some (b, oddM b j)
theorem FarP.snoc {RL : List Rm} {k : Nat} (h : FarP RL k) {a b : Int} (ha : a = 0 ∨ a = 1) (hb : b = 0 ∨ b = 1) : FarP (RL ++ [(a, [(2 * (k : Int) + 1, 1, 0)]), (b, oddM b k)]) (k + 1) := by
  obtain ⟨h1, h2⟩ := h
  refine ⟨by simp [h1]; omega, fun j hj => ?_⟩
  by_cases c : j < k
  · obtain ⟨a', b', q1, q2, q3, q4⟩ := h2 j c
    refine ⟨a', b', q1, q2, ?_, ?_⟩
    · rw [List.getElem?_append_left (by omega)]; exact q3
    · rw [List.getElem?_append_left (by omega)]; exact q4
  · have : j = k := by omega
    subst this
    refine ⟨a, b, ha, hb, ?_, ?_⟩
    · rw [List.getElem?_append_right (by omega), show 2 * j - RL.length = 0 by omega]; rfl
    · rw [List.getElem?_append_right (by omega), show 2 * j + 1 - RL.length = 1 by omega]; rfl
section
variable {RL : List Rm} {M d : Nat} {c : Int}
def farR (RL : List Rm) (M d : Nat) (c : Int) : List Rm := RL ++ [(c, List.replicate d (2 * (M : Int), 1, 1))]
theorem far_len (h : FarP RL M) : (farR RL M d c).length = 2 * M + 1 := by
  unfold farR
  rw [List.length_append, h.1]
  rfl
theorem far_get {i : Nat} {r : Rm} (h : (farR RL M d c)[i]? = some r) : (farR RL M d c).getD i (0, []) = r := by
  rw [List.getD_eq_getElem?_getD, h]
  rfl
theorem far_even (h : FarP RL M) {j : Nat} (hj : j < M) : Tg (farR RL M d c) (2 * j) = [2 * j + 1] := by
  obtain ⟨a, b, _, _, q3, _⟩ := h.2 j hj
  have h1 := h.1
  have : (farR RL M d c)[2 * j]? = some (a, [(2 * (j : Int) + 1, 1, 0)]) := by unfold farR; rw [List.getElem?_append_left (by omega)]; exact q3
  unfold Tg
  rw [far_get this]
  simp
  omega
theorem far_odd (h : FarP RL M) {j : Nat} (hj : j < M) : (Ow (farR RL M d c) (2 * j + 1) = 0 ∧ Tg (farR RL M d c) (2 * j + 1) = [2 * j + 2, 2 * j + 1]) ∨ (Ow (farR RL M d c) (2 * j + 1) ≠ 0 ∧ Tg (farR RL M d c) (2 * j + 1) = [2 * j + 2]) := by
  obtain ⟨a, b, _, hb, _, q4⟩ := h.2 j hj
  have h1 := h.1
  have : (farR RL M d c)[2 * j + 1]? = some (b, oddM b j) := by unfold farR; rw [List.getElem?_append_left (by omega)]; exact q4
  unfold Tg Ow
  rw [far_get this]
  unfold oddM
  rcases hb with rfl | rfl
  · left
    simp
    omega
  · right
    simp
    omega
theorem far_last (h : FarP RL M) : Tg (farR RL M d c) (2 * M) = List.replicate d (2 * M) := by
  have h1 := h.1
  have : (farR RL M d c)[2 * M]? = some (c, List.replicate d (2 * (M : Int), 1, 1)) := by
    unfold farR
    rw [List.getElem?_append_right (by omega), show 2 * M - RL.length = 0 by omega]
    rfl
  unfold Tg
  rw [far_get this]
  show (List.replicate d (2 * (M : Int), (1 : Int), (1 : Int))).map (fun m => m.1.toNat) = _
  rw [List.map_replicate]
  congr 1
theorem far_gr (h : FarP RL M) (hd : d ≤ 1) (hc : c = 0 ∨ c = 1) : GRs (farR RL M d c).length (farR RL M d c) := by
  rw [far_len h]
  intro r hr
  unfold farR at hr
  rcases List.mem_append.mp hr with hr | hr
  · obtain ⟨i, hi⟩ := List.getElem?_of_mem hr
    have hlt := (List.getElem?_eq_some_iff.mp hi).1
    have h1 := h.1
    obtain ⟨a, b, qa, qb, q3, q4⟩ := h.2 (i / 2) (by omega)
    by_cases e : i % 2 = 0
    · have : 2 * (i / 2) = i := by omega
      rw [this, hi] at q3
      cases q3
      refine ⟨by show 0 ≤ a; omega, by show a ≤ 1; omega, by simp, fun m hm => ?_⟩
      rw [List.mem_singleton.mp hm]
      refine ⟨by show 0 ≤ 2 * ((i / 2 : Nat) : Int) + 1; omega, by show 2 * ((i / 2 : Nat) : Int) + 1 < ((2 * M + 1 : Nat) : Int); omega, (by decide : (-1000 : Int) ≤ 1), (by decide : (1 : Int) ≤ 1000), (by decide : (0 : Int) ≤ 0), (by decide : (0 : Int) ≤ 1)⟩
    · have : 2 * (i / 2) + 1 = i := by omega
      rw [this, hi] at q4
      cases q4
      refine ⟨by show 0 ≤ b; omega, by show b ≤ 1; omega, by show (oddM b _).length ≤ 24; unfold oddM; split <;> simp, fun m hm => ?_⟩
      have hm : m ∈ oddM b (i / 2) := hm
      have : m = (2 * ((i / 2 : Nat) : Int) + 2, 0, 1) ∨ m = (2 * ((i / 2 : Nat) : Int) + 1, 1, 1) := by
        unfold oddM at hm
        split at hm
        · simpa using hm
        · exact .inl (by simpa using hm)
      rcases this with rfl | rfl
      · exact ⟨by show 0 ≤ 2 * ((i / 2 : Nat) : Int) + 2; omega, by show 2 * ((i / 2 : Nat) : Int) + 2 < ((2 * M + 1 : Nat) : Int); omega, (by decide : (-1000 : Int) ≤ 0), (by decide : (0 : Int) ≤ 1000), (by decide : (0 : Int) ≤ 1), (by decide : (1 : Int) ≤ 1)⟩
      · exact ⟨by show 0 ≤ 2 * ((i / 2 : Nat) : Int) + 1; omega, by show 2 * ((i / 2 : Nat) : Int) + 1 < ((2 * M + 1 : Nat) : Int); omega, (by decide : (-1000 : Int) ≤ 1), (by decide : (1 : Int) ≤ 1000), (by decide : (0 : Int) ≤ 1), (by decide : (1 : Int) ≤ 1)⟩
  · rw [List.mem_singleton.mp hr]
    refine ⟨by show 0 ≤ c; omega, by show c ≤ 1; omega, by show (List.replicate d _).length ≤ 24; rw [List.length_replicate]; omega, fun m hm => ?_⟩
    rw [List.eq_of_mem_replicate hm]
    exact ⟨by show 0 ≤ 2 * (M : Int); omega, by show 2 * (M : Int) < ((2 * M + 1 : Nat) : Int); omega, (by decide : (-1000 : Int) ≤ 1), (by decide : (1 : Int) ≤ 1000), (by decide : (0 : Int) ≤ 1), (by decide : (1 : Int) ≤ 1)⟩
def farS (M : Nat) : List Nat := (List.range M).map fun k => 2 * k
theorem farS_mem {x : Nat} : x ∈ farS M ↔ ∃ k, k < M ∧ x = 2 * k := by
  unfold farS
  simp [eq_comm]
/-- nobody can choose it: what leads on comes to the end -/
theorem far_none (h : FarP RL M) {P : Nat → Bool} {rk ly : Nat → Nat} {mv mo : Nat → Option Nat} (a : AgR (farR RL M d c) (farS M) P rk mv ly mo) : ∀ n x, x + n = 2 * M → P x = false
  | 0, x, e => by
    have hx : x = 2 * M := by omega
    subst hx
    cases hp : P (2 * M) with
    | false => rfl
    | true =>
      have hl : 2 * M < (farR RL M d c).length := by rw [far_len h]; omega
      have hS : 2 * M ∉ farS M := fun z => by
        obtain ⟨k, hk, e⟩ := farS_mem.mp z
        omega
      have tg := far_last (d := d) (c := c) h
      by_cases ho : Ow (farR RL M d c) (2 * M) = 0
      · obtain ⟨k, t, _, e2, _, e4⟩ := a.m0 _ hl hp ho
        have := List.mem_of_getElem? e2
        rw [tg] at this
        rw [List.eq_of_mem_replicate this] at e4
        have := e4 hS
        omega
      · obtain ⟨_, e2, e3⟩ := a.m1 _ hl hp ho
        obtain ⟨t, r, et⟩ := List.exists_cons_of_ne_nil e2
        have ht : t ∈ Tg (farR RL M d c) (2 * M) := by rw [et]; simp
        have := (e3 t ht).2 hS
        rw [tg] at ht
        rw [List.eq_of_mem_replicate ht] at this
        omega
  | n + 1, x, e => by
    have ih := far_none h a n (x + 1) (by omega)
    have hl : x < (farR RL M d c).length := by rw [far_len h]; omega
    cases hp : P x with
    | false => rfl
    | true =>
      by_cases ev : x % 2 = 0
      · have ex : 2 * (x / 2) = x := by omega
        have tg := far_even (d := d) (c := c) h (j := x / 2) (by omega)
        rw [ex] at tg
        by_cases ho : Ow (farR RL M d c) x = 0
        · obtain ⟨k, t, _, e2, e3, _⟩ := a.m0 _ hl hp ho
          have := List.mem_of_getElem? e2
          rw [tg, List.mem_singleton] at this
          rw [this, ih] at e3
          cases e3
        · obtain ⟨_, _, e3⟩ := a.m1 _ hl hp ho
          have := (e3 (x + 1) (by rw [tg]; simp)).1
          rw [ih] at this
          cases this
      · have ex : 2 * (x / 2) + 1 = x := by omega
        have ex2 : 2 * (x / 2) + 2 = x + 1 := by omega
        have hS : x ∉ farS M := fun z => by
          obtain ⟨k, hk, e⟩ := farS_mem.mp z
          omega
        have od := far_odd (d := d) (c := c) h (j := x / 2) (by omega)
        rw [ex, ex2] at od
        rcases od with ⟨ho, tg⟩ | ⟨ho, tg⟩
        · obtain ⟨k, t, _, e2, e3, e4⟩ := a.m0 _ hl hp ho
          have := List.mem_of_getElem? e2
          rw [tg] at this
          rcases List.mem_cons.mp this with rfl | this
          · rw [ih] at e3
            cases e3
          · rw [List.mem_singleton.mp this] at e4
            have := e4 hS
            omega
        · obtain ⟨_, _, e3⟩ := a.m1 _ hl hp ho
          have := (e3 (x + 1) (by rw [tg]; simp)).1
          rw [ih] at this
          cases this
end
end Mir

/-! law_k40: the far arena is answered rightly -/
namespace Mir
open PySem PySem.Spec PyProof.Rows L2
theorem cutTo' {xs : List W} {i : Int} (h0 : 0 ≤ i) : cutW xs none (some i) = xs.take i.toNat := by
  obtain ⟨k, rfl⟩ : ∃ k : Nat, i = k := ⟨i.toNat, by omega⟩
  unfold cutW
  rw [HT.sIx_none, HT.sIx_nat]
  simp [List.take_eq_take_iff]
def frM (sc : List Int) (B : Int) (t : PH) (ps : LS) (g : PH) : Prop := ∃ (o : OB) (M : Nat), ps = [some (.ref 0), some (.int (M : Nat)), none, none, none, none, none, none, none] ∧ g = o :: t ∧ 70 ≤ M ∧ M < 100 ∧ Dr sc B o
def frI (sc : List Int) (B : Int) (M n : Nat) (i : Nat) (ps : LS) (g : PH) : Prop := ∃ (o : OB) (t : PH) (RL : List Rm) (s3 s4 : Option W), g = o :: t ∧ ps = [some (.ref 0), some (.int (M : Nat)), some (.ref (n + 1)), s3, s4, none, none, none, none] ∧ t[n]? = some (.lst (RL.map encR)) ∧ FarP RL i ∧ Dr sc (B + 2 * i) o
def frJ (sc : List Int) (B : Int) (M n : Nat) (RL : List Rm) (s3 s4 : Option W) (ps : LS) (g : PH) : Prop := ∃ (o : OB) (t : PH) (c : Int) (d : Nat), g = o :: t ∧ ps = [some (.ref 0), some (.int (M : Nat)), some (.ref (n + 1)), s3, s4, none, none, none, none] ∧ t[n]? = some (.lst ((farR RL M d c).map encR)) ∧ d ≤ 1 ∧ (c = 0 ∨ c = 1) ∧ Dr sc B o
theorem far_to (sc : List Int) (hsc : sc.length ≤ 63) {B : Int} {o : OB} (d : Dr sc B o) (hB : B < 1000000000) {g : PH} {Q : W → PH → Prop} (q : ∀ g2, Q (.bl true) g2) : (f_Lfar_right S_next S_again S_arooms S_paper [.ref 0] (o :: g)).To Q := by
  unfold f_Lfar_right
  rw [run_to, show startW 9 [W.ref 0] = [some (.ref 0), none, none, none, none, none, none, none, none] from rfl]
  unfold b_Lfar_right
  refine seq_cut (frM sc (B + 1) g) ?_ ?_
  · simp
    refine next0 sc hsc d (by omega) (by decide) (by decide) fun r o1 a1 b1 d1 => ?_
    simp
    refine ⟨o1, (70 + r).toNat, ?_, rfl, by omega, by omega, d1.up (by omega)⟩
    rw [Int.toNat_of_nonneg (by omega)]
  rintro ps g1 ⟨o1, M, rfl, rfl, m1, m2, d1⟩
  obtain ⟨n, hn⟩ : ∃ n, n = g.length := ⟨_, rfl⟩
  refine seq_cut (frI sc (B + 1) M n 0) ?_ ?_
  · simp
    exact ⟨o1, g ++ [.lst []], [], none, none, rfl, by rw [hn], by rw [hn]; simp, ⟨rfl, fun j hj => by omega⟩, d1.up (by omega)⟩
  rintro ps g2 ⟨o2, t2, RL, s3, s4, rfl, rfl, tn2, fp, d2⟩
  refine seq_cut (frI sc (B + 1) M n M) ?_ ?_
  · rw [to_for]
    simp
    refine ⟨by omega, ?_⟩
    refine for_items (frI sc (B + 1) M n) ⟨o2, t2, RL, s3, s4, rfl, rfl, tn2, fp, d2⟩ ?_ fun ps g z => by rw [range_len] at z; exact z
    clear fp tn2 d2
    rintro i w ps g ei ⟨o3, t3, RL, s3, s4, rfl, rfl, tn3, fp, d3⟩
    obtain ⟨hi, rfl⟩ := range_get ei
    refine ⟨_, rfl, ?_⟩
    have nl := (List.getElem?_eq_some_iff.mp tn3).1
    have ty : ∀ o (t : PH) l, t[n]? = some (OB.lst l) → tyW "list" (.ref (n + 1)) (o :: t) = true := fun o t l h => tyW_lst (show (o :: t)[n + 1]? = _ from h)
    have rl := fp.1
    refine seq_op fun K hK => ?_
    simp only [to_drop, to_mt, to_cons, to_nil, to_tup, to_fn, to_var, to_C, to_op]
    refine ⟨_, rfl, ty _ _ _ tn3, _, rfl, rfl, ?_⟩
    refine next0 sc hsc d3 (by omega) (by decide) (by decide) fun r1 o4 a1 b1 d4 => ?_
    refine ⟨_, rfl, ?_⟩
    rw [wMul_int, if_pos (by omega), pto_some, wAdd_int, pto_some]
    refine ⟨by simp, by simp, by simp, ?_⟩
    rw [wAppend_lst (show (o4 :: t3)[n + 1]? = _ from tn3), if_pos (by rw [List.length_map]; omega), pto_some]
    refine hK _ _ ?_
    clear hK K
    have t4n : (t3.set n (.lst (RL.map encR ++ [.tup [.int r1, .tup [.tup [.int (2 * (0 + (i : Int)) + 1), .int 1, .int 0]]]])))[n]? = some (.lst ((RL ++ [(r1, [(2 * (i : Int) + 1, 1, 0)])]).map encR)) := by
      rw [List.getElem?_set_self nl, List.map_append, Int.zero_add]
      rfl
    obtain ⟨t4, ht4⟩ : ∃ t4, t4 = t3.set n (.lst (RL.map encR ++ [.tup [.int r1, .tup [.tup [.int (2 * (0 + (i : Int)) + 1), .int 1, .int 0]]]])) := ⟨_, rfl⟩
    rw [← ht4] at t4n
    show (sSeq _ _ _ (o4 :: t3.set n (.lst (RL.map encR ++ [.tup [.int r1, .tup [.tup [.int (2 * (0 + (i : Int)) + 1), .int 1, .int 0]]]])))).To _ _ _ _
    rw [← ht4]
    refine seq_op fun K hK => ?_
    simp
    refine next0 sc hsc d4 (by omega) (by decide) (by decide) fun r2 o5 a2 b2 d5 => hK _ _ ?_
    clear hK K
    have nl4 := (List.getElem?_eq_some_iff.mp t4n).1
    simp only [to_drop, to_mt, to_cons, to_nil, to_tup, to_var, to_C, to_op, to_sl, to_part0, to_part1]
    refine ⟨_, rfl, ty _ _ _ t4n, _, rfl, _, rfl, ?_⟩
    rw [wMul_int, if_pos (by omega), pto_some, wAdd_int, pto_some]
    refine ⟨by simp, _, rfl, ?_⟩
    rw [wMul_int, if_pos (by omega), pto_some, wAdd_int, pto_some]
    refine ⟨by simp, by simp, _, rfl, ?_⟩
    rw [wSub_int, pto_some]
    refine ⟨_, rfl, ?_⟩
    have cut : cutW [W.tup [.int (2 * (i : Int) + 2), .int 0, .int 1], .tup [.int (2 * (i : Int) + 1), .int 1, .int 1]] none (some (2 - r2)) = (oddM r2 i).map encM := by
      rw [cutTo' (by omega)]
      unfold oddM
      have : r2 = 0 ∨ r2 = 1 := by omega
      rcases this with rfl | rfl <;> rfl
    rw [show ∀ xs lo hi g, wSl (.tup xs) lo hi g = some (.tup (cutW xs lo hi), g) from fun _ _ _ _ => rfl, pto_some, cut]
    refine ⟨by simp, ?_⟩
    rw [wAppend_lst (show (o5 :: t4)[n + 1]? = _ from t4n), if_pos (by rw [List.length_map, List.length_append, List.length_cons, List.length_nil]; omega), pto_some]
    refine ⟨o5, t4.set n (.lst ((RL ++ [(r1, [(2 * (i : Int) + 1, 1, 0)])]).map encR ++ [encR (r2, oddM r2 i)])), _, _, _, rfl, rfl, ?_, FarP.snoc fp (a := r1) (b := r2) (by omega) (by omega), d5.up (by omega)⟩
    rw [List.getElem?_set_self nl4]
    simp
  clear fp tn2 d2
  rintro ps g3 ⟨o3, t3, RL, s3, s4, rfl, rfl, tn3, fp, d3⟩
  have rl := fp.1
  have nl := (List.getElem?_eq_some_iff.mp tn3).1
  refine seq_cut (frJ sc (B + 1000) M n RL s3 s4) ?_ ?_
  · simp only [to_drop, to_mt, to_cons, to_nil, to_tup, to_fn, to_var, to_C, to_op]
    refine ⟨_, rfl, tyW_lst (show (o3 :: t3)[n + 1]? = _ from tn3), _, rfl, rfl, ?_⟩
    refine next0 sc hsc d3 (by omega) (by decide) (by decide) fun r1 o4 a1 b1 d4 => ?_
    refine ⟨_, rfl, ?_⟩
    rw [wMul_int, if_pos (by omega), pto_some]
    refine ⟨by simp, by simp, _, rfl, rfl, ?_⟩
    refine next0 sc hsc d4 (by omega) (by decide) (by decide) fun r2 o5 a2 b2 d5 => ?_
    rw [rep1 a2 (by omega), pto_some]
    refine ⟨by simp, ?_⟩
    rw [wAppend_lst (show (o5 :: t3)[n + 1]? = _ from tn3), if_pos (by rw [List.length_map]; omega), pto_some]
    refine ⟨o5, t3.set n _, r1, r2.toNat, rfl, rfl, List.getElem?_set_self nl |>.trans ?_, by omega, by omega, d5.up (by omega)⟩
    unfold farR
    rw [List.map_append]
    simp [encR, encMs, encM, List.map_replicate]
  rintro ps g4 ⟨o4, t4, c, dd, rfl, rfl, tn4, hd, hc, d4⟩
  have len := far_len (d := dd) (c := c) fp
  have gr := far_gr (d := dd) (c := c) fp hd hc
  obtain ⟨rs, hrs⟩ : ∃ rs, rs = farR RL M dd c := ⟨_, rfl⟩
  obtain ⟨G, hG⟩ : ∃ G, G = encI ((farS M).map fun i : Nat => (i : Int)) := ⟨_, rfl⟩
  refine seq_go (ps1 := [some (.ref 0), some (.int (M : Nat)), some (.ref (n + 1)), s3, s4, some G, none, none, none]) (h1 := o4 :: t4) (fun K hK => ?_) ?_
  · have eG : W.tup ((List.range (rgN 0 (2 * (M : Int)) 2)).map fun k => W.int (0 + (k : Nat) * 2)) = G := by
      have : rgN 0 (2 * (M : Int)) 2 = M := by
        unfold rgN
        rw [if_pos (by omega)]
        omega
      rw [this, hG]
      unfold encI farS
      rw [List.map_map, List.map_map]
      congr 1
      refine List.map_congr_left fun k _ => ?_
      show W.int (0 + (k : Int) * 2) = W.int ((2 * k : Nat) : Int)
      congr 1
      omega
    rw [to_asg]
    unfold mTupRg3
    rw [to_bind]
    simp only [to_cons, to_nil, to_C, to_op, to_var]
    refine ⟨_, rfl, ?_⟩
    rw [wMul_int, if_pos (by omega), pto_some]
    simp only
    rw [if_pos ⟨by decide, by decide, by decide, by decide, by omega, by omega⟩, to_ok, eG, gN_is, oto_some]
    exact hK
  obtain ⟨ks, hks⟩ : ∃ ks : List (Str × List Int), ks = [(PySem.Str.ofString "goal", (farS M).map fun i : Nat => (i : Int))] := ⟨_, rfl⟩
  refine seq_go (ps1 := [some (.ref 0), some (.int (M : Nat)), some (.ref (n + 1)), s3, s4, some G, some (encA rs ks), none, none]) (h1 := o4 :: t4) (fun K hK => ?_) ?_
  · have sq : seqOf (.ref (n + 1)) (o4 :: t4) = some (rs.map encR) := by rw [hrs]; simp only [seqOf, show (o4 :: t4)[n + 1]? = _ from tn4]
    simp only [to_asg, to_tup, to_cons, to_nil, to_on, to_seqm, to_var, to_C]
    refine ⟨_, rfl, ?_⟩
    rw [sq, oto_some, show wTupQ (rs.map encR) (o4 :: t4) = some (.tup (rs.map encR), o4 :: t4) from rfl, pto_some]
    refine ⟨_, rfl, by simp, by simp, by simp, ?_⟩
    rw [gN_is, oto_some]
    have : W.tup [.tup (rs.map encR), .tup [.tup [.str (PySem.Str.ofString "goal"), G]]] = encA rs ks := by rw [hks, hG]; rfl
    rw [this]
    exact hK
  rw [← hrs] at len gr
  have ndS : (farS M).Nodup := by
    unfold farS List.Nodup
    rw [List.pairwise_map]
    exact List.pairwise_lt_range.imp fun h => by omega
  have ltS : ∀ x ∈ farS M, x < rs.length := fun x hx => by
    obtain ⟨k, hk, rfl⟩ := farS_mem.mp hx
    omega
  obtain ⟨P, rk, mv, ly, mo, ag, ans, roms⟩ := again_all (ks := ks) (pre := []) (post := []) (x := PySem.Str.ofString "goal") (by omega) gr ndS ltS (by rw [hks]; rfl) (fun _ z => by cases z)
  have none : ∀ x, x < rs.length → P x = false := fun x hx => by
    rw [hrs] at ag
    exact far_none fp ag (2 * M - x) x (by omega)
  have e0 : ansA rs.length P rk mv ly mo 0 = ansG "other" "layers" ((idx (fun i => !P i) rs.length).map (rowA ly mo)) := by
    unfold ansA
    rw [none 0 (by omega)]
    rfl
  have eP : idx P rs.length = [] := by
    refine List.eq_nil_iff_forall_not_mem.mpr fun x hx => ?_
    obtain ⟨h1, h2⟩ := idx_mem.mp hx
    rw [none x h1] at h2
    cases h2
  obtain ⟨A, hA⟩ : ∃ A, A = encA rs ks := ⟨_, rfl⟩
  obtain ⟨Pp, hPp⟩ : ∃ Pp, Pp = paperW "layers" ((idx (fun i => !P i) rs.length).map (rowA ly mo)) := ⟨_, rfl⟩
  rw [← hA]
  refine seq_go (ps1 := [some (.ref 0), some (.int (M : Nat)), some (.ref (n + 1)), s3, s4, some G, some A, some (.tup [.str "other"]), some Pp]) (h1 := o4 :: t4) (fun K hK => ?_) ?_
  · simp only [to_asg, to_fn, to_cons, to_nil, to_var, to_C]
    refine ⟨_, rfl, rfl, ?_⟩
    rw [hA]
    refine ans 0 (by omega) _ _ ?_
    rw [e0]
    have : (gT (gCons' (gN 7) (gCons' (gN 8) gNil'))) (ansG "other" "layers" ((idx (fun i => !P i) rs.length).map (rowA ly mo))) [some (.ref 0), some (.int (M : Nat)), some (.ref (n + 1)), s3, s4, some G, some (encA rs ks), Option.none, Option.none] = some [some (.ref 0), some (.int (M : Nat)), some (.ref (n + 1)), s3, s4, some G, some (encA rs ks), some (.tup [.str "other"]), some Pp] := by
      rw [hPp]
      rfl
    rw [this, oto_some, ← hA]
    exact hK
  refine seq_go (ps1 := [some (.ref 0), some (.int (M : Nat)), some (.ref (n + 1)), s3, s4, some G, some A, some (.tup [.str "other"]), some Pp]) (h1 := o4 :: t4) (fun K hK => ?_) ?_
  · have s2 := (key_of mineOk.2.2.1).1
    have ne1 : ∀ h, wNe (.tup [.str (PySem.Str.ofString "other")]) (.tup [.str (PySem.Str.ofString "other")]) h = some (.bl false, h) := fun h => by
      rw [wNe_pl (n := 3) (m := 3) (by simp [s2]) (by simp [s2]) (by decide) (by decide)]
      simp
    have ne2 : ∀ h, wNe (.tup (nW [])) (.tup []) h = some (.bl false, h) := fun h => by
      rw [wNe_pl (n := 3) (m := 3) (by simp [nW]) (by simp) (by decide) (by decide)]
      simp [nW]
    simp only [to_sif, to_or, to_mB, to_op, to_var, to_C, to_tup, to_cons, to_nil]
    refine ⟨_, rfl, by simp, ?_⟩
    rw [ne1, pto_some, bto_bl, Ite_false]
    simp only [to_fn, to_cons, to_nil, to_var, to_C]
    refine ⟨_, rfl, rfl, ?_⟩
    rw [hA]
    refine roms _ _ ?_
    rw [eP, ← hA]
    refine ⟨by simp, ?_⟩
    rw [ne2, pto_some, bto_bl, Ite_false, to_next]
    exact hK
  · simp only [to_ret, to_fn, to_cons, to_nil, to_var, to_C]
    refine ⟨_, rfl, _, rfl, _, rfl, rfl, ?_⟩
    rw [hA, hG, hPp]
    exact paper_to gr (by omega) (pap_oth gr ag) (room := 0) (idx_mem.mpr ⟨by omega, by rw [none 0 (by omega)]; rfl⟩) (.inr ⟨rfl, rfl, rfl⟩) (q _)
end Mir

/-! law_k40: the law's run -/
namespace Mir
open PySem PySem.Spec PyProof.Rows L2
abbrev F_LAW40 : FM := f_LAW f_Lbegin S_arena2 S_next S_right40 (f_Lwide S_next) (f_Lfar_right S_next S_again S_arooms S_paper)
def w40I (X A : W) (s3 s4 s5 s6 : Option W) (o : OB) (ps : LS) (g : PH) : Prop := ∃ (s7 : Option W), ps = [some X, some (.ref 0), some A, s3, s4, s5, s6, s7] ∧ g = [o]
theorem law_run (ns : List Int) (hn : ns.length ≤ 63) : (F_LAW40 [.fix (ns.map W.int)] []).To fun w _ => w = .bl true := by
  unfold F_LAW40 f_LAW
  rw [run_to, show startW 8 [W.fix (ns.map W.int)] = [some (.fix (ns.map W.int)), none, none, none, none, none, none, none] from rfl]
  unfold b_LAW
  obtain ⟨X, hX⟩ : ∃ X, X = W.fix (ns.map W.int) := ⟨_, rfl⟩
  have d0 : Dr ns 0 (.lst [X, .int 0, .int 0, .int 0]) := ⟨0, 0, 0, by rw [hX], by decide, by decide, by decide, by decide⟩
  rw [← hX]
  refine seq_go (ps1 := [some X, some (.ref 0), none, none, none, none, none, none]) (h1 := [.lst [X, .int 0, .int 0, .int 0]]) (fun K hK => ?_) ?_
  · simp [f_Lbegin, run_to, startW, b_Lbegin]
    exact hK
  refine seq_op fun K hK => ?_
  simp
  refine next0 ns hn d0 (by omega) (m := 2) (by decide) (by decide) fun r o2 a1 a2 d2 => ?_
  have hm : ∃ most : Int, (most = 12 ∨ most = 40) ∧ atI [W.int 12, W.int 40] r = some (.int most) := by
    have : r = 0 ∨ r = 1 := by omega
    rcases this with rfl | rfl
    · exact ⟨12, .inl rfl, at0⟩
    · exact ⟨40, .inr rfl, at1⟩
  obtain ⟨most, hmost, em⟩ := hm
  simp [em]
  refine arena2_to ns hn d2 (by omega) (by omega) (by omega) fun rs ks o3 ga d3 => ?_
  try simp
  refine hK _ _ ?_
  clear hK K
  obtain ⟨n, g1, g2, n1, nm, rfl, hg4, rfl, i1, i2⟩ := ga
  have hg : GRs rs.length rs := fun r hr => (hg4 r hr).gr
  have hl : rs.length ≤ 600 := by omega
  have ne : ("goal" : Str) ≠ "other" := by decide +kernel
  obtain ⟨ks, hks⟩ : ∃ ks : List (Str × List Int), ks = [(PySem.Str.ofString "goal", g1), (PySem.Str.ofString "other", g2)] := ⟨_, rfl⟩
  obtain ⟨ks2, hks2⟩ : ∃ ks2 : List (Str × List Int), ks2 = [(PySem.Str.ofString "goal", g2), (PySem.Str.ofString "other", g1)] := ⟨_, rfl⟩
  have two : ∀ a b, GI rs.length a → GI rs.length b → ∀ (h : PH) (Q : W → PH → Prop), Q (.bl true) h → (S_right40 [encA rs [(PySem.Str.ofString "goal", a), (PySem.Str.ofString "other", b)]] h).To Q := fun a b ha hb h Q q => by
    refine right40_to n1 hl hg (List.pairwise_cons.mpr ⟨fun k hk => by rw [List.mem_singleton.mp hk]; exact ne, List.pairwise_singleton _ _⟩) (fun k hk => ?_) q
    rcases List.mem_cons.mp hk with rfl | hk
    · exact ha
    · rw [List.mem_singleton.mp hk]; exact hb
  have tb : ∀ b g, tru (.bl b) g = some b := fun _ _ => rfl
  rw [← hks]
  obtain ⟨A, hA⟩ : ∃ A, A = encA rs ks := ⟨_, rfl⟩
  have ixA0 : ∀ h, wIx A (.int 0) h = some (.tup (rs.map encR), h) := fun h => by rw [hA]; rfl
  have ixA1 : ∀ h, wIx A (.int 1) h = some (.tup (ks.map encK), h) := fun h => by rw [hA]; rfl
  rw [← hA]
  refine seq_go (ps1 := [some X, some (.ref 0), some A, some (.str (PySem.Str.ofString "goal")), some (encI g1), some (.str (PySem.Str.ofString "other")), some (encI g2), none]) (h1 := [o3]) (fun K hK => ?_) ?_
  · simp only [to_asg, to_op, to_var, to_C]
    refine ⟨_, rfl, ?_⟩
    rw [ixA1, pto_some, hks]
    have : (gT (gCons' (gT (gCons' (gN 3) (gCons' (gN 4) gNil'))) (gCons' (gT (gCons' (gN 5) (gCons' (gN 6) gNil'))) gNil'))) (W.tup (List.map encK [(PySem.Str.ofString "goal", g1), (PySem.Str.ofString "other", g2)])) [some X, some (.ref 0), some A, none, none, none, none, none] = some [some X, some (.ref 0), some A, some (.str (PySem.Str.ofString "goal")), some (encI g1), some (.str (PySem.Str.ofString "other")), some (encI g2), none] := rfl
    rw [this, oto_some]
    exact hK
  refine seq_cut (w40I X A (some (.str (PySem.Str.ofString "goal"))) (some (encI g1)) (some (.str (PySem.Str.ofString "other"))) (some (encI g2)) o3) ?_ ?_
  · rw [to_for]
    simp only [to_iter, to_tup, to_cons, to_nil, to_op, to_var, to_C]
    refine ⟨_, rfl, ?_⟩
    rw [ixA1, pto_some]
    refine ⟨_, rfl, _, rfl, by simp, _, rfl, _, rfl, by simp, by simp, _, rfl, ?_⟩
    rw [ixA1, pto_some]
    refine ⟨by simp, ?_⟩
    have e2 : W.tup [.tup [.str (PySem.Str.ofString "goal"), encI g2], .tup [.str (PySem.Str.ofString "other"), encI g1]] = .tup (ks2.map encK) := by rw [hks2]; rfl
    rw [e2, show ∀ xs h, iterOf big (.tup xs) h = some (itS xs) from fun _ _ => rfl, oto_some]
    refine for_items (fun _ => w40I X A (some (.str (PySem.Str.ofString "goal"))) (some (encI g1)) (some (.str (PySem.Str.ofString "other"))) (some (encI g2)) o3) ⟨_, rfl, rfl⟩ ?_ fun ps g z => z
    rintro i w ps g ei ⟨s7, rfl, rfl⟩
    have hw : ∃ a b, GI rs.length a ∧ GI rs.length b ∧ w = .tup (([(PySem.Str.ofString "goal", a), (PySem.Str.ofString "other", b)] : List (Str × List Int)).map encK) := by
      have := List.mem_of_getElem? ei
      simp only [List.mem_cons, List.not_mem_nil, or_false] at this
      rcases this with rfl | rfl | rfl
      · exact ⟨g1, g2, i1, i2, by rw [hks]⟩
      · exact ⟨g2, g1, i2, i1, by rw [hks2]⟩
      · exact ⟨g1, g2, i1, i2, by rw [hks]⟩
    obtain ⟨a, b, ha, hb, rfl⟩ := hw
    refine ⟨_, rfl, ?_⟩
    simp only [to_sif, to_not, to_tru, to_fn, to_cons, to_nil, to_tup, to_op, to_var, to_C]
    refine ⟨_, rfl, ?_⟩
    rw [ixA0, pto_some]
    refine ⟨_, rfl, by simp, rfl, ?_⟩
    refine two a b ha hb _ _ ?_
    rw [tb, oto_some]
    simp only [Bool.not_true, Ite_false, to_next]
    exact ⟨_, rfl, rfl⟩
  rintro ps g ⟨s7, rfl, rfl⟩
  simp only [to_ret, to_andV, to_fn, to_cons, to_nil, to_var]
  refine ⟨_, rfl, rfl, ?_⟩
  refine wide_to ns hn d3 (by omega) fun rs3 o4 g4 l3 hg3 d4 => ?_
  refine ⟨rfl, ?_⟩
  have inc : ∀ v : Int, 0 ≤ v → v < 3 → GI rs3.length [v] := fun v v0 v3 => ⟨by rw [l3]; simp, by simp, fun x hx => by rw [List.mem_singleton.mp hx, l3]; exact ⟨v0, by omega⟩⟩
  refine right40_to (by omega) (by omega) (by rw [l3]; exact hg3) (List.pairwise_cons.mpr ⟨fun k hk => by rw [List.mem_singleton.mp hk]; exact ne, List.pairwise_singleton _ _⟩) (fun k hk => ?_) ?_
  · rcases List.mem_cons.mp hk with rfl | hk
    · exact inc 2 (by decide) (by decide)
    · rw [List.mem_singleton.mp hk]; exact inc 0 (by decide) (by decide)
  · rw [bto_bl, Ite_true]
    refine ⟨_, rfl, rfl, ?_⟩
    exact far_to ns hn d4 (by omega) fun g => rfl
theorem law_ok : LawOk F_LAW40 := by
  intro ns hn hb
  obtain ⟨w, g, e, rfl⟩ := (law_run ns hn).is
  exact ⟨g, e⟩
end Mir

/-! the head of law_k40_whole_again_shown; printed by gen.py -/
namespace Mir
open PySem PySem.Spec PyProof.Rows L2
def r_need_room : FM := f_need_room f_is_among
def r_Forcing_ini : FM := f_Forcing_ini S_minto
def r_Split_put_out : FM := f_Split_put_out f_Split_way_out
def r_Lmove : FM := f_Lmove S_next
def r_Lwide : FM := f_Lwide S_next
def r_Split_ini : FM := f_Split_ini r_Forcing_ini f_Forcing_stays f_Forcing_forced r_Split_put_out f_Forcing_first_within
def r_Lfar_right : FM := f_Lfar_right S_next S_again S_arooms S_paper
def r_LAW : FM := f_LAW f_Lbegin S_arena2 S_next S_right40 r_Lwide r_Lfar_right
theorem g_is_among {P : Program} {w : World} {K : PySem.W.Frag} {mg : Str → Option Value} {base : Heap} {D : Dat} (T : Txt D K mg) : FnG P w K mg base 1 D.a_is_among D.d_is_among ["thing", "least", "most"] (SPm K 3 f_is_among) := o_is_among T 
theorem g_marked {P : Program} {w : World} {K : PySem.W.Frag} {mg : Str → Option Value} {base : Heap} {D : Dat} (T : Txt D K mg) : FnG P w K mg base 1 D.a_marked D.d_marked ["arena", "name"] (SPm K 2 f_marked) := o_marked T 
theorem g_moves_into {P : Program} {w : World} {K : PySem.W.Frag} {mg : Str → Option Value} {base : Heap} {D : Dat} (T : Txt D K mg) : FnG P w K mg base 1 D.a_moves_into D.d_moves_into ["arena"] (SPm K 1 S_minto) := fits_ok (o_moves_into T ) fits_moves_into
theorem g_told_rows {P : Program} {w : World} {K : PySem.W.Frag} {mg : Str → Option Value} {base : Heap} {D : Dat} (T : Txt D K mg) : FnG P w K mg base 1 D.a_told_rows D.d_told_rows ["some"] (SPm K 1 f_told_rows) := o_told_rows T 
theorem g_Lcell {P : Program} {w : World} {K : PySem.W.Frag} {mg : Str → Option Value} {base : Heap} {D : Dat} (T : Txt D K mg) : FnG P w K mg base 1 D.a_Lcell D.d_Lcell ["_law_script", "_law_k"] (SPm K 2 f_Lcell) := o_Lcell T 
theorem g_Lmixed {P : Program} {w : World} {K : PySem.W.Frag} {mg : Str → Option Value} {base : Heap} {D : Dat} (T : Txt D K mg) : FnG P w K mg base 1 D.a_Lmixed D.d_Lmixed ["_law_number", "_law_k"] (SPm K 2 f_Lmixed) := o_Lmixed T 
theorem g_Lbegin {P : Program} {w : World} {K : PySem.W.Frag} {mg : Str → Option Value} {base : Heap} {D : Dat} (T : Txt D K mg) : FnG P w K mg base 1 D.a_Lbegin D.d_Lbegin ["_law_script"] (SPm K 1 f_Lbegin) := o_Lbegin T 
theorem g_Lis_row {P : Program} {w : World} {K : PySem.W.Frag} {mg : Str → Option Value} {base : Heap} {D : Dat} (T : Txt D K mg) : FnG P w K mg base 1 D.a_Lis_row D.d_Lis_row ["_law_row", "_law_arena_here"] (SPm K 2 f_Lis_row) := o_Lis_row T 
theorem g_Lled {P : Program} {w : World} {K : PySem.W.Frag} {mg : Str → Option Value} {base : Heap} {D : Dat} (T : Txt D K mg) : FnG P w K mg base 1 D.a_Lled D.d_Lled ["_law_arena_here", "_law_rows", "_law_owner"] (SPm K 3 f_Lled) := o_Lled T 
theorem g_Forcing_first_within {P : Program} {w : World} {K : PySem.W.Frag} {mg : Str → Option Value} {base : Heap} {D : Dat} (T : Txt D K mg) : FnG P w K mg base 1 D.a_Forcing_first_within D.d_Forcing_first_within ["self", "room", "inside"] (SPm K 3 f_Forcing_first_within) := o_Forcing_first_within T 
theorem g_Forcing_stays {P : Program} {w : World} {K : PySem.W.Frag} {mg : Str → Option Value} {base : Heap} {D : Dat} (T : Txt D K mg) : FnG P w K mg base 1 D.a_Forcing_stays D.d_Forcing_stays ["self", "room", "inside"] (SPm K 3 f_Forcing_stays) := o_Forcing_stays T 
theorem g_Forcing_forced {P : Program} {w : World} {K : PySem.W.Frag} {mg : Str → Option Value} {base : Heap} {D : Dat} (T : Txt D K mg) : FnG P w K mg base 1 D.a_Forcing_forced D.d_Forcing_forced ["self", "goals", "inside"] (SPm K 3 f_Forcing_forced) := o_Forcing_forced T 
theorem g_Split_way_out {P : Program} {w : World} {K : PySem.W.Frag} {mg : Str → Option Value} {base : Heap} {D : Dat} (T : Txt D K mg) : FnG P w K mg base 1 D.a_Split_way_out D.d_Split_way_out ["self", "room", "inside", "found"] (SPm K 4 f_Split_way_out) := o_Split_way_out T 
theorem g_need_room {P : Program} {w : World} {K : PySem.W.Frag} {mg : Str → Option Value} {base : Heap} {D : Dat} (T : Txt D K mg) : FnG P w K mg base 2 D.a_need_room D.d_need_room ["arena", "thing"] (SPm K 2 r_need_room) := o_need_room T (g_is_among T)
theorem g_Lnext {P : Program} {w : World} {K : PySem.W.Frag} {mg : Str → Option Value} {base : Heap} {D : Dat} (T : Txt D K mg) : FnG P w K mg base 2 D.a_Lnext D.d_Lnext ["_law_draw", "_law_many"] (SPm K 2 S_next) := fits_ok (o_Lnext T (g_Lcell T) (g_Lmixed T)) fits_Lnext
theorem g_Lpaper_right {P : Program} {w : World} {K : PySem.W.Frag} {mg : Str → Option Value} {base : Heap} {D : Dat} (T : Txt D K mg) : FnG P w K mg base 2 D.a_Lpaper_right D.d_Lpaper_right ["_law_arena_here", "_law_goal", "_law_room", "_law_told", "_law_answer"] (SPm K 5 S_paper) := fits_ok (o_Lpaper_right T (g_Lis_row T) (g_Lled T)) fits_Lpaper_right
theorem g_Forcing_ini {P : Program} {w : World} {K : PySem.W.Frag} {mg : Str → Option Value} {base : Heap} {D : Dat} (T : Txt D K mg) : FnG P w K mg base 2 D.a_Forcing_ini D.d_Forcing_ini ["self", "arena"] (SPm K 2 r_Forcing_ini) := o_Forcing_ini T (g_moves_into T)
theorem g_Split_put_out {P : Program} {w : World} {K : PySem.W.Frag} {mg : Str → Option Value} {base : Heap} {D : Dat} (T : Txt D K mg) : FnG P w K mg base 2 D.a_Split_put_out D.d_Split_put_out ["self", "inside", "found", "layer"] (SPm K 4 r_Split_put_out) := o_Split_put_out T (g_Split_way_out T)
theorem g_Lmove {P : Program} {w : World} {K : PySem.W.Frag} {mg : Str → Option Value} {base : Heap} {D : Dat} (T : Txt D K mg) : FnG P w K mg base 3 D.a_Lmove D.d_Lmove ["_law_draw", "_law_many"] (SPm K 2 r_Lmove) := o_Lmove T (g_Lnext T)
theorem g_Lwide {P : Program} {w : World} {K : PySem.W.Frag} {mg : Str → Option Value} {base : Heap} {D : Dat} (T : Txt D K mg) : FnG P w K mg base 3 D.a_Lwide D.d_Lwide ["_law_draw"] (SPm K 1 r_Lwide) := o_Lwide T (g_Lnext T)
theorem g_Larena {P : Program} {w : World} {K : PySem.W.Frag} {mg : Str → Option Value} {base : Heap} {D : Dat} (T : Txt D K mg) : FnG P w K mg base 4 D.a_Larena D.d_Larena ["_law_draw", "_law_most"] (SPm K 2 S_arena2) := fits_ok (o_Larena T (g_Lnext T) (g_Lmove T)) fits_Larena
theorem g_Split_ini {P : Program} {w : World} {K : PySem.W.Frag} {mg : Str → Option Value} {base : Heap} {D : Dat} (T : Txt D K mg) : FnG P w K mg base 4 D.a_Split_ini D.d_Split_ini ["self", "arena", "rooms"] (SPm K 3 r_Split_ini) := o_Split_ini T (g_Forcing_ini T) (g_Forcing_stays T) (g_Forcing_forced T) (g_Split_put_out T) (g_Forcing_first_within T)
theorem g_again {P : Program} {w : World} {K : PySem.W.Frag} {mg : Str → Option Value} {base : Heap} {D : Dat} (T : Txt D K mg) : FnG P w K mg base 6 D.a_again D.d_again ["arena", "mark", "room"] (SPm K 3 S_again) := fits_ok (o_again T (g_marked T) (g_need_room T) (g_Split_ini T) (g_told_rows T)) fits_again
theorem g_again_rooms {P : Program} {w : World} {K : PySem.W.Frag} {mg : Str → Option Value} {base : Heap} {D : Dat} (T : Txt D K mg) : FnG P w K mg base 6 D.a_again_rooms D.d_again_rooms ["arena", "mark"] (SPm K 2 S_arooms) := fits_ok (o_again_rooms T (g_Split_ini T) (g_marked T)) fits_again_rooms
theorem g_Lright {P : Program} {w : World} {K : PySem.W.Frag} {mg : Str → Option Value} {base : Heap} {D : Dat} (T : Txt D K mg) : FnG P w K mg base 7 D.a_Lright D.d_Lright ["_law_arena_here"] (SPm K 1 S_right40) := fits_ok (o_Lright T (g_again_rooms T) (g_again T) (g_Lpaper_right T)) fits_Lright
theorem g_Lfar_right {P : Program} {w : World} {K : PySem.W.Frag} {mg : Str → Option Value} {base : Heap} {D : Dat} (T : Txt D K mg) : FnG P w K mg base 7 D.a_Lfar_right D.d_Lfar_right ["_law_draw"] (SPm K 1 r_Lfar_right) := o_Lfar_right T (g_Lnext T) (g_again T) (g_again_rooms T) (g_Lpaper_right T)
theorem g_LAW {P : Program} {w : World} {K : PySem.W.Frag} {mg : Str → Option Value} {base : Heap} {D : Dat} (T : Txt D K mg) : FnG P w K mg base 8 D.a_LAW D.d_LAW ["_law_script"] (SPm K 1 r_LAW) := o_LAW T (g_Lbegin T) (g_Larena T) (g_Lnext T) (g_Lright T) (g_Lwide T) (g_Lfar_right T)
theorem all_mk {P : Program} {w : World} {K : PySem.W.Frag} {h : Heap} {mg : Str → Option Value} {fa : Addr} (X : K.In h) (G : h.Ns mainGlobals mg) (hfa : mg "law" = some (.ref fa))
    {C_Forcing : Addr}
    {C_Split : Addr}
    {f0 : Addr} {oc0 kV0 dc0 pm0 cd0 ct0 : Value} {od0 an0 : Option Addr} {sl0 : Array (Option Value)}
    {f1 : Addr} {oc1 kV1 dc1 pm1 cd1 ct1 : Value} {od1 an1 : Option Addr} {sl1 : Array (Option Value)}
    {f2 : Addr} {oc2 kV2 dc2 pm2 cd2 ct2 : Value} {od2 an2 : Option Addr} {sl2 : Array (Option Value)}
    {f3 : Addr} {oc3 kV3 dc3 pm3 cd3 ct3 : Value} {od3 an3 : Option Addr} {sl3 : Array (Option Value)}
    {f4 : Addr} {oc4 kV4 dc4 pm4 cd4 ct4 : Value} {od4 an4 : Option Addr} {sl4 : Array (Option Value)}
    {f5 : Addr} {oc5 kV5 dc5 pm5 cd5 ct5 : Value} {od5 an5 : Option Addr} {sl5 : Array (Option Value)}
    {f6 : Addr} {oc6 kV6 dc6 pm6 cd6 ct6 : Value} {od6 an6 : Option Addr} {sl6 : Array (Option Value)}
    {f7 : Addr} {oc7 kV7 dc7 pm7 cd7 ct7 : Value} {od7 an7 : Option Addr} {sl7 : Array (Option Value)}
    {f8 : Addr} {oc8 kV8 dc8 pm8 cd8 ct8 : Value} {od8 an8 : Option Addr} {sl8 : Array (Option Value)}
    {f9 : Addr} {oc9 kV9 dc9 pm9 cd9 ct9 : Value} {od9 an9 : Option Addr} {sl9 : Array (Option Value)}
    {f10 : Addr} {oc10 kV10 dc10 pm10 cd10 ct10 : Value} {od10 an10 : Option Addr} {sl10 : Array (Option Value)}
    {f11 : Addr} {oc11 kV11 dc11 pm11 cd11 ct11 : Value} {od11 an11 : Option Addr} {sl11 : Array (Option Value)}
    {f12 : Addr} {oc12 kV12 dc12 pm12 cd12 ct12 : Value} {od12 an12 : Option Addr} {sl12 : Array (Option Value)}
    {f13 : Addr} {oc13 kV13 dc13 pm13 cd13 ct13 : Value} {od13 an13 : Option Addr} {sl13 : Array (Option Value)}
    {f14 : Addr} {oc14 kV14 dc14 pm14 cd14 ct14 : Value} {od14 an14 : Option Addr} {sl14 : Array (Option Value)}
    {f15 : Addr} {oc15 kV15 dc15 pm15 cd15 ct15 : Value} {od15 an15 : Option Addr} {sl15 : Array (Option Value)}
    {f16 : Addr} {oc16 kV16 dc16 pm16 cd16 ct16 : Value} {od16 an16 : Option Addr} {sl16 : Array (Option Value)}
    {f17 : Addr} {oc17 kV17 dc17 pm17 cd17 ct17 : Value} {od17 an17 : Option Addr} {sl17 : Array (Option Value)}
    {f18 : Addr} {oc18 kV18 dc18 pm18 cd18 ct18 : Value} {od18 an18 : Option Addr} {sl18 : Array (Option Value)}
    {f19 : Addr} {oc19 kV19 dc19 pm19 cd19 ct19 : Value} {od19 an19 : Option Addr} {sl19 : Array (Option Value)}
    {f20 : Addr} {oc20 kV20 dc20 pm20 cd20 ct20 : Value} {od20 an20 : Option Addr} {sl20 : Array (Option Value)}
    {f21 : Addr} {oc21 kV21 dc21 pm21 cd21 ct21 : Value} {od21 an21 : Option Addr} {sl21 : Array (Option Value)}
    {f22 : Addr} {oc22 kV22 dc22 pm22 cd22 ct22 : Value} {od22 an22 : Option Addr} {sl22 : Array (Option Value)}
    {f23 : Addr} {oc23 kV23 dc23 pm23 cd23 ct23 : Value} {od23 an23 : Option Addr} {sl23 : Array (Option Value)}
    {f24 : Addr} {oc24 kV24 dc24 pm24 cd24 ct24 : Value} {od24 an24 : Option Addr} {sl24 : Array (Option Value)}
    {f25 : Addr} {oc25 kV25 dc25 pm25 cd25 ct25 : Value} {od25 an25 : Option Addr} {sl25 : Array (Option Value)}
    {f26 : Addr} {oc26 kV26 dc26 pm26 cd26 ct26 : Value} {od26 an26 : Option Addr} {sl26 : Array (Option Value)}
    {C_BadMark : Addr}
    {C_BadRoom : Addr}
    (a_Forcing : PySem.W.nsIn K mainGlobals "Forcing" = some (some (.ref C_Forcing))) (g_Forcing : PySem.W.plainGet K C_Forcing Str.empty = true) (h_Forcing : PySem.W.hasDictIn K C_Forcing = true) (o_Forcing : PySem.W.plainOver K C_Forcing = true) (s_Forcing : PySem.W.findIn K (.ref C_Forcing) "__setattr__" = some (some (.builtin "object.__setattr__"))) (m_Forcing : PySem.W.makesIn K C_Forcing = true) (p_Forcing : PySem.W.keepIn K (.ref C_Forcing) = true)
    (n_Forcing_into : PySem.W.findIn K (.ref C_Forcing) "into" = some none)
    (n_Forcing_rooms : PySem.W.findIn K (.ref C_Forcing) "rooms" = some none)
    (a_Split : PySem.W.nsIn K mainGlobals "Split" = some (some (.ref C_Split))) (g_Split : PySem.W.plainGet K C_Split Str.empty = true) (h_Split : PySem.W.hasDictIn K C_Split = true) (o_Split : PySem.W.plainOver K C_Split = true) (s_Split : PySem.W.findIn K (.ref C_Split) "__setattr__" = some (some (.builtin "object.__setattr__"))) (m_Split : PySem.W.makesIn K C_Split = true) (p_Split : PySem.W.keepIn K (.ref C_Split) = true)
    (n_Split_forcing : PySem.W.findIn K (.ref C_Split) "forcing" = some none)
    (n_Split_mine : PySem.W.findIn K (.ref C_Split) "mine" = some none)
    (n_Split_noted : PySem.W.findIn K (.ref C_Split) "noted" = some none)
    (n_Split_others : PySem.W.findIn K (.ref C_Split) "others" = some none)
    (a0 : PySem.W.nsIn K mainGlobals "is_among" = some (some (.ref f0))) (l0 : K.lookup f0 = some ⟨oc0, od0, .func (PySem.W.fnOf "is_among" "is_among" (defArgs st_is_among) (defBody st_is_among) (defScope st_is_among) .none kV0 dc0 pm0 an0 cd0 ct0), sl0⟩) (c0 : PySem.W.codeIn K cd0 "is_among" = true) (k0 : PySem.W.keepIn K (.ref f0) = true)
    (a1 : PySem.W.nsIn K mainGlobals "marked" = some (some (.ref f1))) (l1 : K.lookup f1 = some ⟨oc1, od1, .func (PySem.W.fnOf "marked" "marked" (defArgs st_marked) (defBody st_marked) (defScope st_marked) .none kV1 dc1 pm1 an1 cd1 ct1), sl1⟩) (c1 : PySem.W.codeIn K cd1 "marked" = true) (k1 : PySem.W.keepIn K (.ref f1) = true)
    (a2 : PySem.W.nsIn K mainGlobals "moves_into" = some (some (.ref f2))) (l2 : K.lookup f2 = some ⟨oc2, od2, .func (PySem.W.fnOf "moves_into" "moves_into" (defArgs st_moves_into) (defBody st_moves_into) (defScope st_moves_into) .none kV2 dc2 pm2 an2 cd2 ct2), sl2⟩) (c2 : PySem.W.codeIn K cd2 "moves_into" = true) (k2 : PySem.W.keepIn K (.ref f2) = true)
    (a3 : PySem.W.nsIn K mainGlobals "told_rows" = some (some (.ref f3))) (l3 : K.lookup f3 = some ⟨oc3, od3, .func (PySem.W.fnOf "told_rows" "told_rows" (defArgs st_told_rows) (defBody st_told_rows) (defScope st_told_rows) .none kV3 dc3 pm3 an3 cd3 ct3), sl3⟩) (c3 : PySem.W.codeIn K cd3 "told_rows" = true) (k3 : PySem.W.keepIn K (.ref f3) = true)
    (a4 : PySem.W.nsIn K mainGlobals "_law_cell" = some (some (.ref f4))) (l4 : K.lookup f4 = some ⟨oc4, od4, .func (PySem.W.fnOf "_law_cell" "_law_cell" (defArgs st_Lcell) (defBody st_Lcell) (defScope st_Lcell) .none kV4 dc4 pm4 an4 cd4 ct4), sl4⟩) (c4 : PySem.W.codeIn K cd4 "_law_cell" = true) (k4 : PySem.W.keepIn K (.ref f4) = true)
    (a5 : PySem.W.nsIn K mainGlobals "_law_mixed" = some (some (.ref f5))) (l5 : K.lookup f5 = some ⟨oc5, od5, .func (PySem.W.fnOf "_law_mixed" "_law_mixed" (defArgs st_Lmixed) (defBody st_Lmixed) (defScope st_Lmixed) .none kV5 dc5 pm5 an5 cd5 ct5), sl5⟩) (c5 : PySem.W.codeIn K cd5 "_law_mixed" = true) (k5 : PySem.W.keepIn K (.ref f5) = true)
    (a6 : PySem.W.nsIn K mainGlobals "_law_begin" = some (some (.ref f6))) (l6 : K.lookup f6 = some ⟨oc6, od6, .func (PySem.W.fnOf "_law_begin" "_law_begin" (defArgs st_Lbegin) (defBody st_Lbegin) (defScope st_Lbegin) .none kV6 dc6 pm6 an6 cd6 ct6), sl6⟩) (c6 : PySem.W.codeIn K cd6 "_law_begin" = true) (k6 : PySem.W.keepIn K (.ref f6) = true)
    (a7 : PySem.W.nsIn K mainGlobals "_law_is_row" = some (some (.ref f7))) (l7 : K.lookup f7 = some ⟨oc7, od7, .func (PySem.W.fnOf "_law_is_row" "_law_is_row" (defArgs st_Lis_row) (defBody st_Lis_row) (defScope st_Lis_row) .none kV7 dc7 pm7 an7 cd7 ct7), sl7⟩) (c7 : PySem.W.codeIn K cd7 "_law_is_row" = true) (k7 : PySem.W.keepIn K (.ref f7) = true)
    (a8 : PySem.W.nsIn K mainGlobals "_law_led" = some (some (.ref f8))) (l8 : K.lookup f8 = some ⟨oc8, od8, .func (PySem.W.fnOf "_law_led" "_law_led" (defArgs st_Lled) (defBody st_Lled) (defScope st_Lled) .none kV8 dc8 pm8 an8 cd8 ct8), sl8⟩) (c8 : PySem.W.codeIn K cd8 "_law_led" = true) (k8 : PySem.W.keepIn K (.ref f8) = true)
    (a9 : PySem.W.findIn K (.ref C_Forcing) "first_within" = some (some (.ref f9))) (z9 : PySem.W.isFn K (.ref f9) = true) (l9 : K.lookup f9 = some ⟨oc9, od9, .func (PySem.W.fnOf "first_within" "Forcing.first_within" (defArgs st_Forcing_first_within) (defBody st_Forcing_first_within) (defScope st_Forcing_first_within) .none kV9 dc9 pm9 an9 cd9 ct9), sl9⟩) (c9 : PySem.W.codeIn K cd9 "Forcing.first_within" = true) (k9 : PySem.W.keepIn K (.ref f9) = true)
    (a10 : PySem.W.findIn K (.ref C_Forcing) "stays" = some (some (.ref f10))) (z10 : PySem.W.isFn K (.ref f10) = true) (l10 : K.lookup f10 = some ⟨oc10, od10, .func (PySem.W.fnOf "stays" "Forcing.stays" (defArgs st_Forcing_stays) (defBody st_Forcing_stays) (defScope st_Forcing_stays) .none kV10 dc10 pm10 an10 cd10 ct10), sl10⟩) (c10 : PySem.W.codeIn K cd10 "Forcing.stays" = true) (k10 : PySem.W.keepIn K (.ref f10) = true)
    (a11 : PySem.W.findIn K (.ref C_Forcing) "forced" = some (some (.ref f11))) (z11 : PySem.W.isFn K (.ref f11) = true) (l11 : K.lookup f11 = some ⟨oc11, od11, .func (PySem.W.fnOf "forced" "Forcing.forced" (defArgs st_Forcing_forced) (defBody st_Forcing_forced) (defScope st_Forcing_forced) .none kV11 dc11 pm11 an11 cd11 ct11), sl11⟩) (c11 : PySem.W.codeIn K cd11 "Forcing.forced" = true) (k11 : PySem.W.keepIn K (.ref f11) = true)
    (a12 : PySem.W.findIn K (.ref C_Split) "way_out" = some (some (.ref f12))) (z12 : PySem.W.isFn K (.ref f12) = true) (l12 : K.lookup f12 = some ⟨oc12, od12, .func (PySem.W.fnOf "way_out" "Split.way_out" (defArgs st_Split_way_out) (defBody st_Split_way_out) (defScope st_Split_way_out) .none kV12 dc12 pm12 an12 cd12 ct12), sl12⟩) (c12 : PySem.W.codeIn K cd12 "Split.way_out" = true) (k12 : PySem.W.keepIn K (.ref f12) = true)
    (a13 : PySem.W.nsIn K mainGlobals "need_room" = some (some (.ref f13))) (l13 : K.lookup f13 = some ⟨oc13, od13, .func (PySem.W.fnOf "need_room" "need_room" (defArgs st_need_room) (defBody st_need_room) (defScope st_need_room) .none kV13 dc13 pm13 an13 cd13 ct13), sl13⟩) (c13 : PySem.W.codeIn K cd13 "need_room" = true) (k13 : PySem.W.keepIn K (.ref f13) = true)
    (a14 : PySem.W.nsIn K mainGlobals "_law_next" = some (some (.ref f14))) (l14 : K.lookup f14 = some ⟨oc14, od14, .func (PySem.W.fnOf "_law_next" "_law_next" (defArgs st_Lnext) (defBody st_Lnext) (defScope st_Lnext) .none kV14 dc14 pm14 an14 cd14 ct14), sl14⟩) (c14 : PySem.W.codeIn K cd14 "_law_next" = true) (k14 : PySem.W.keepIn K (.ref f14) = true)
    (a15 : PySem.W.nsIn K mainGlobals "_law_paper_right" = some (some (.ref f15))) (l15 : K.lookup f15 = some ⟨oc15, od15, .func (PySem.W.fnOf "_law_paper_right" "_law_paper_right" (defArgs st_Lpaper_right) (defBody st_Lpaper_right) (defScope st_Lpaper_right) .none kV15 dc15 pm15 an15 cd15 ct15), sl15⟩) (c15 : PySem.W.codeIn K cd15 "_law_paper_right" = true) (k15 : PySem.W.keepIn K (.ref f15) = true)
    (a16 : PySem.W.findIn K (.ref C_Forcing) "__init__" = some (some (.ref f16))) (z16 : PySem.W.isFn K (.ref f16) = true) (l16 : K.lookup f16 = some ⟨oc16, od16, .func (PySem.W.fnOf "__init__" "Forcing.__init__" (defArgs st_Forcing_ini) (defBody st_Forcing_ini) (defScope st_Forcing_ini) .none kV16 dc16 pm16 an16 cd16 ct16), sl16⟩) (c16 : PySem.W.codeIn K cd16 "Forcing.__init__" = true) (k16 : PySem.W.keepIn K (.ref f16) = true)
    (a17 : PySem.W.findIn K (.ref C_Split) "put_out" = some (some (.ref f17))) (z17 : PySem.W.isFn K (.ref f17) = true) (l17 : K.lookup f17 = some ⟨oc17, od17, .func (PySem.W.fnOf "put_out" "Split.put_out" (defArgs st_Split_put_out) (defBody st_Split_put_out) (defScope st_Split_put_out) .none kV17 dc17 pm17 an17 cd17 ct17), sl17⟩) (c17 : PySem.W.codeIn K cd17 "Split.put_out" = true) (k17 : PySem.W.keepIn K (.ref f17) = true)
    (a18 : PySem.W.nsIn K mainGlobals "_law_move" = some (some (.ref f18))) (l18 : K.lookup f18 = some ⟨oc18, od18, .func (PySem.W.fnOf "_law_move" "_law_move" (defArgs st_Lmove) (defBody st_Lmove) (defScope st_Lmove) .none kV18 dc18 pm18 an18 cd18 ct18), sl18⟩) (c18 : PySem.W.codeIn K cd18 "_law_move" = true) (k18 : PySem.W.keepIn K (.ref f18) = true)
    (a19 : PySem.W.nsIn K mainGlobals "_law_wide" = some (some (.ref f19))) (l19 : K.lookup f19 = some ⟨oc19, od19, .func (PySem.W.fnOf "_law_wide" "_law_wide" (defArgs st_Lwide) (defBody st_Lwide) (defScope st_Lwide) .none kV19 dc19 pm19 an19 cd19 ct19), sl19⟩) (c19 : PySem.W.codeIn K cd19 "_law_wide" = true) (k19 : PySem.W.keepIn K (.ref f19) = true)
    (a20 : PySem.W.nsIn K mainGlobals "_law_arena" = some (some (.ref f20))) (l20 : K.lookup f20 = some ⟨oc20, od20, .func (PySem.W.fnOf "_law_arena" "_law_arena" (defArgs st_Larena) (defBody st_Larena) (defScope st_Larena) .none kV20 dc20 pm20 an20 cd20 ct20), sl20⟩) (c20 : PySem.W.codeIn K cd20 "_law_arena" = true) (k20 : PySem.W.keepIn K (.ref f20) = true)
    (a21 : PySem.W.findIn K (.ref C_Split) "__init__" = some (some (.ref f21))) (z21 : PySem.W.isFn K (.ref f21) = true) (l21 : K.lookup f21 = some ⟨oc21, od21, .func (PySem.W.fnOf "__init__" "Split.__init__" (defArgs st_Split_ini) (defBody st_Split_ini) (defScope st_Split_ini) .none kV21 dc21 pm21 an21 cd21 ct21), sl21⟩) (c21 : PySem.W.codeIn K cd21 "Split.__init__" = true) (k21 : PySem.W.keepIn K (.ref f21) = true)
    (a22 : PySem.W.nsIn K mainGlobals "again" = some (some (.ref f22))) (l22 : K.lookup f22 = some ⟨oc22, od22, .func (PySem.W.fnOf "again" "again" (defArgs st_again) (defBody st_again) (defScope st_again) .none kV22 dc22 pm22 an22 cd22 ct22), sl22⟩) (c22 : PySem.W.codeIn K cd22 "again" = true) (k22 : PySem.W.keepIn K (.ref f22) = true)
    (a23 : PySem.W.nsIn K mainGlobals "again_rooms" = some (some (.ref f23))) (l23 : K.lookup f23 = some ⟨oc23, od23, .func (PySem.W.fnOf "again_rooms" "again_rooms" (defArgs st_again_rooms) (defBody st_again_rooms) (defScope st_again_rooms) .none kV23 dc23 pm23 an23 cd23 ct23), sl23⟩) (c23 : PySem.W.codeIn K cd23 "again_rooms" = true) (k23 : PySem.W.keepIn K (.ref f23) = true)
    (a24 : PySem.W.nsIn K mainGlobals "_law_right" = some (some (.ref f24))) (l24 : K.lookup f24 = some ⟨oc24, od24, .func (PySem.W.fnOf "_law_right" "_law_right" (defArgs st_Lright) (defBody st_Lright) (defScope st_Lright) .none kV24 dc24 pm24 an24 cd24 ct24), sl24⟩) (c24 : PySem.W.codeIn K cd24 "_law_right" = true) (k24 : PySem.W.keepIn K (.ref f24) = true)
    (a25 : PySem.W.nsIn K mainGlobals "_law_far_right" = some (some (.ref f25))) (l25 : K.lookup f25 = some ⟨oc25, od25, .func (PySem.W.fnOf "_law_far_right" "_law_far_right" (defArgs st_Lfar_right) (defBody st_Lfar_right) (defScope st_Lfar_right) .none kV25 dc25 pm25 an25 cd25 ct25), sl25⟩) (c25 : PySem.W.codeIn K cd25 "_law_far_right" = true) (k25 : PySem.W.keepIn K (.ref f25) = true)
    (a26 : PySem.W.nsIn K mainGlobals "law" = some (some (.ref f26))) (l26 : K.lookup f26 = some ⟨oc26, od26, .func (PySem.W.fnOf "law" "law" (defArgs st_LAW) (defBody st_LAW) (defScope st_LAW) .none kV26 dc26 pm26 an26 cd26 ct26), sl26⟩) (c26 : PySem.W.codeIn K cd26 "law" = true) (k26 : PySem.W.keepIn K (.ref f26) = true)
    (a_BadMark : PySem.W.nsIn K mainGlobals "BadMark" = some (some (.ref C_BadMark)))
    (a_BadRoom : PySem.W.nsIn K mainGlobals "BadRoom" = some (some (.ref C_BadRoom)))
    (kp_BadMark : PySem.W.keepIn K (.ref C_BadMark) = true)
    (sb_BadMark : PySem.W.subIn K (.ref C_BadMark) (.type "BaseException") = some true)
    (ty_BadMark : PySem.W.typeIn K (.ref C_BadMark) = some (.type "type"))
    (xi_BadMark : PySem.W.excIn K C_BadMark [.type "ValueError", .type "Exception", .type "BaseException", .type "object"] "ValueError.__new__" = true)
    (kp_BadRoom : PySem.W.keepIn K (.ref C_BadRoom) = true)
    (sb_BadRoom : PySem.W.subIn K (.ref C_BadRoom) (.type "BaseException") = some true)
    (ty_BadRoom : PySem.W.typeIn K (.ref C_BadRoom) = some (.type "type"))
    (xi_BadRoom : PySem.W.excIn K C_BadRoom [.type "ValueError", .type "Exception", .type "BaseException", .type "object"] "ValueError.__new__" = true)
    (n_abs : PySem.W.nsIn K mainGlobals "abs" = some none)
    (n_bool : PySem.W.nsIn K mainGlobals "bool" = some none)
    (n_dict : PySem.W.nsIn K mainGlobals "dict" = some none)
    (n_enumerate : PySem.W.nsIn K mainGlobals "enumerate" = some none)
    (n_int : PySem.W.nsIn K mainGlobals "int" = some none)
    (n_isinstance : PySem.W.nsIn K mainGlobals "isinstance" = some none)
    (n_len : PySem.W.nsIn K mainGlobals "len" = some none)
    (n_list : PySem.W.nsIn K mainGlobals "list" = some none)
    (n_max : PySem.W.nsIn K mainGlobals "max" = some none)
    (n_min : PySem.W.nsIn K mainGlobals "min" = some none)
    (n_range : PySem.W.nsIn K mainGlobals "range" = some none)
    (n_repr : PySem.W.nsIn K mainGlobals "repr" = some none)
    (n_set : PySem.W.nsIn K mainGlobals "set" = some none)
    (n_sorted : PySem.W.nsIn K mainGlobals "sorted" = some none)
    (n_str : PySem.W.nsIn K mainGlobals "str" = some none)
    (n_tuple : PySem.W.nsIn K mainGlobals "tuple" = some none)
    (n_zip : PySem.W.nsIn K mainGlobals "zip" = some none) :
    ∃ fd : FuncData, (∀ (s : Shared) (u : Value), BindsTo s fd ⟨[u], []⟩ [("_law_script", u)]) ∧ ∀ base : Heap, K.In base → base.Ns mainGlobals mg → FnG P w K mg base 8 fa fd ["_law_script"] (SPm K 1 r_LAW) := by
  have e := hfa.symm.trans (PySem.W.mg_of X G a26)
  cases e
  let D : Dat := ⟨f0, (PySem.W.fnOf "is_among" "is_among" (defArgs st_is_among) (defBody st_is_among) (defScope st_is_among) .none kV0 dc0 pm0 an0 cd0 ct0), f1, (PySem.W.fnOf "marked" "marked" (defArgs st_marked) (defBody st_marked) (defScope st_marked) .none kV1 dc1 pm1 an1 cd1 ct1), f2, (PySem.W.fnOf "moves_into" "moves_into" (defArgs st_moves_into) (defBody st_moves_into) (defScope st_moves_into) .none kV2 dc2 pm2 an2 cd2 ct2), f3, (PySem.W.fnOf "told_rows" "told_rows" (defArgs st_told_rows) (defBody st_told_rows) (defScope st_told_rows) .none kV3 dc3 pm3 an3 cd3 ct3), f4, (PySem.W.fnOf "_law_cell" "_law_cell" (defArgs st_Lcell) (defBody st_Lcell) (defScope st_Lcell) .none kV4 dc4 pm4 an4 cd4 ct4), f5, (PySem.W.fnOf "_law_mixed" "_law_mixed" (defArgs st_Lmixed) (defBody st_Lmixed) (defScope st_Lmixed) .none kV5 dc5 pm5 an5 cd5 ct5), f6, (PySem.W.fnOf "_law_begin" "_law_begin" (defArgs st_Lbegin) (defBody st_Lbegin) (defScope st_Lbegin) .none kV6 dc6 pm6 an6 cd6 ct6), f7, (PySem.W.fnOf "_law_is_row" "_law_is_row" (defArgs st_Lis_row) (defBody st_Lis_row) (defScope st_Lis_row) .none kV7 dc7 pm7 an7 cd7 ct7), f8, (PySem.W.fnOf "_law_led" "_law_led" (defArgs st_Lled) (defBody st_Lled) (defScope st_Lled) .none kV8 dc8 pm8 an8 cd8 ct8), f9, (PySem.W.fnOf "first_within" "Forcing.first_within" (defArgs st_Forcing_first_within) (defBody st_Forcing_first_within) (defScope st_Forcing_first_within) .none kV9 dc9 pm9 an9 cd9 ct9), f10, (PySem.W.fnOf "stays" "Forcing.stays" (defArgs st_Forcing_stays) (defBody st_Forcing_stays) (defScope st_Forcing_stays) .none kV10 dc10 pm10 an10 cd10 ct10), f11, (PySem.W.fnOf "forced" "Forcing.forced" (defArgs st_Forcing_forced) (defBody st_Forcing_forced) (defScope st_Forcing_forced) .none kV11 dc11 pm11 an11 cd11 ct11), f12, (PySem.W.fnOf "way_out" "Split.way_out" (defArgs st_Split_way_out) (defBody st_Split_way_out) (defScope st_Split_way_out) .none kV12 dc12 pm12 an12 cd12 ct12), f13, (PySem.W.fnOf "need_room" "need_room" (defArgs st_need_room) (defBody st_need_room) (defScope st_need_room) .none kV13 dc13 pm13 an13 cd13 ct13), f14, (PySem.W.fnOf "_law_next" "_law_next" (defArgs st_Lnext) (defBody st_Lnext) (defScope st_Lnext) .none kV14 dc14 pm14 an14 cd14 ct14), f15, (PySem.W.fnOf "_law_paper_right" "_law_paper_right" (defArgs st_Lpaper_right) (defBody st_Lpaper_right) (defScope st_Lpaper_right) .none kV15 dc15 pm15 an15 cd15 ct15), f16, (PySem.W.fnOf "__init__" "Forcing.__init__" (defArgs st_Forcing_ini) (defBody st_Forcing_ini) (defScope st_Forcing_ini) .none kV16 dc16 pm16 an16 cd16 ct16), f17, (PySem.W.fnOf "put_out" "Split.put_out" (defArgs st_Split_put_out) (defBody st_Split_put_out) (defScope st_Split_put_out) .none kV17 dc17 pm17 an17 cd17 ct17), f18, (PySem.W.fnOf "_law_move" "_law_move" (defArgs st_Lmove) (defBody st_Lmove) (defScope st_Lmove) .none kV18 dc18 pm18 an18 cd18 ct18), f19, (PySem.W.fnOf "_law_wide" "_law_wide" (defArgs st_Lwide) (defBody st_Lwide) (defScope st_Lwide) .none kV19 dc19 pm19 an19 cd19 ct19), f20, (PySem.W.fnOf "_law_arena" "_law_arena" (defArgs st_Larena) (defBody st_Larena) (defScope st_Larena) .none kV20 dc20 pm20 an20 cd20 ct20), f21, (PySem.W.fnOf "__init__" "Split.__init__" (defArgs st_Split_ini) (defBody st_Split_ini) (defScope st_Split_ini) .none kV21 dc21 pm21 an21 cd21 ct21), f22, (PySem.W.fnOf "again" "again" (defArgs st_again) (defBody st_again) (defScope st_again) .none kV22 dc22 pm22 an22 cd22 ct22), f23, (PySem.W.fnOf "again_rooms" "again_rooms" (defArgs st_again_rooms) (defBody st_again_rooms) (defScope st_again_rooms) .none kV23 dc23 pm23 an23 cd23 ct23), f24, (PySem.W.fnOf "_law_right" "_law_right" (defArgs st_Lright) (defBody st_Lright) (defScope st_Lright) .none kV24 dc24 pm24 an24 cd24 ct24), f25, (PySem.W.fnOf "_law_far_right" "_law_far_right" (defArgs st_Lfar_right) (defBody st_Lfar_right) (defScope st_Lfar_right) .none kV25 dc25 pm25 an25 cd25 ct25), fa, (PySem.W.fnOf "law" "law" (defArgs st_LAW) (defBody st_LAW) (defScope st_LAW) .none kV26 dc26 pm26 an26 cd26 ct26), C_Forcing, C_Split⟩
  have T : Txt D K mg := {
    mg_Forcing := PySem.W.mg_of X G a_Forcing
    ns_Forcing := a_Forcing
    cl_Forcing := ⟨g_Forcing, h_Forcing, o_Forcing, s_Forcing⟩
    mk_Forcing := ⟨m_Forcing, a16, z16, p_Forcing⟩
    nf_Forcing_into := n_Forcing_into
    nf_Forcing_rooms := n_Forcing_rooms
    mg_Split := PySem.W.mg_of X G a_Split
    ns_Split := a_Split
    cl_Split := ⟨g_Split, h_Split, o_Split, s_Split⟩
    mk_Split := ⟨m_Split, a21, z21, p_Split⟩
    nf_Split_forcing := n_Split_forcing
    nf_Split_mine := n_Split_mine
    nf_Split_noted := n_Split_noted
    nf_Split_others := n_Split_others
    g_is_among := PySem.W.mg_of X G a0
    f_is_among := fun_mk l0 c0 k0
    b_is_among := Fun.binds (fun_mk (st := st_is_among) l0 c0 k0) (ps := ["thing", "least", "most"]) fun _ _ _ _ _ _ us hl => match us, hl with | [_, _, _], _ => rfl
    g_marked := PySem.W.mg_of X G a1
    f_marked := fun_mk l1 c1 k1
    b_marked := Fun.binds (fun_mk (st := st_marked) l1 c1 k1) (ps := ["arena", "name"]) fun _ _ _ _ _ _ us hl => match us, hl with | [_, _], _ => rfl
    g_moves_into := PySem.W.mg_of X G a2
    f_moves_into := fun_mk l2 c2 k2
    b_moves_into := Fun.binds (fun_mk (st := st_moves_into) l2 c2 k2) (ps := ["arena"]) fun _ _ _ _ _ _ us hl => match us, hl with | [_], _ => rfl
    g_told_rows := PySem.W.mg_of X G a3
    f_told_rows := fun_mk l3 c3 k3
    b_told_rows := Fun.binds (fun_mk (st := st_told_rows) l3 c3 k3) (ps := ["some"]) fun _ _ _ _ _ _ us hl => match us, hl with | [_], _ => rfl
    g_Lcell := PySem.W.mg_of X G a4
    f_Lcell := fun_mk l4 c4 k4
    b_Lcell := Fun.binds (fun_mk (st := st_Lcell) l4 c4 k4) (ps := ["_law_script", "_law_k"]) fun _ _ _ _ _ _ us hl => match us, hl with | [_, _], _ => rfl
    g_Lmixed := PySem.W.mg_of X G a5
    f_Lmixed := fun_mk l5 c5 k5
    b_Lmixed := Fun.binds (fun_mk (st := st_Lmixed) l5 c5 k5) (ps := ["_law_number", "_law_k"]) fun _ _ _ _ _ _ us hl => match us, hl with | [_, _], _ => rfl
    g_Lbegin := PySem.W.mg_of X G a6
    f_Lbegin := fun_mk l6 c6 k6
    b_Lbegin := Fun.binds (fun_mk (st := st_Lbegin) l6 c6 k6) (ps := ["_law_script"]) fun _ _ _ _ _ _ us hl => match us, hl with | [_], _ => rfl
    g_Lis_row := PySem.W.mg_of X G a7
    f_Lis_row := fun_mk l7 c7 k7
    b_Lis_row := Fun.binds (fun_mk (st := st_Lis_row) l7 c7 k7) (ps := ["_law_row", "_law_arena_here"]) fun _ _ _ _ _ _ us hl => match us, hl with | [_, _], _ => rfl
    g_Lled := PySem.W.mg_of X G a8
    f_Lled := fun_mk l8 c8 k8
    b_Lled := Fun.binds (fun_mk (st := st_Lled) l8 c8 k8) (ps := ["_law_arena_here", "_law_rows", "_law_owner"]) fun _ _ _ _ _ _ us hl => match us, hl with | [_, _, _], _ => rfl
    f_Forcing_first_within := fun_mk l9 c9 k9
    b_Forcing_first_within := Fun.binds (fun_mk (st := st_Forcing_first_within) l9 c9 k9) (ps := ["self", "room", "inside"]) fun _ _ _ _ _ _ us hl => match us, hl with | [_, _, _], _ => rfl
    mt_Forcing_first_within := ⟨a9, z9, k9⟩
    f_Forcing_stays := fun_mk l10 c10 k10
    b_Forcing_stays := Fun.binds (fun_mk (st := st_Forcing_stays) l10 c10 k10) (ps := ["self", "room", "inside"]) fun _ _ _ _ _ _ us hl => match us, hl with | [_, _, _], _ => rfl
    mt_Forcing_stays := ⟨a10, z10, k10⟩
    f_Forcing_forced := fun_mk l11 c11 k11
    b_Forcing_forced := Fun.binds (fun_mk (st := st_Forcing_forced) l11 c11 k11) (ps := ["self", "goals", "inside"]) fun _ _ _ _ _ _ us hl => match us, hl with | [_, _, _], _ => rfl
    mt_Forcing_forced := ⟨a11, z11, k11⟩
    f_Split_way_out := fun_mk l12 c12 k12
    b_Split_way_out := Fun.binds (fun_mk (st := st_Split_way_out) l12 c12 k12) (ps := ["self", "room", "inside", "found"]) fun _ _ _ _ _ _ us hl => match us, hl with | [_, _, _, _], _ => rfl
    mt_Split_way_out := ⟨a12, z12, k12⟩
    g_need_room := PySem.W.mg_of X G a13
    f_need_room := fun_mk l13 c13 k13
    b_need_room := Fun.binds (fun_mk (st := st_need_room) l13 c13 k13) (ps := ["arena", "thing"]) fun _ _ _ _ _ _ us hl => match us, hl with | [_, _], _ => rfl
    g_Lnext := PySem.W.mg_of X G a14
    f_Lnext := fun_mk l14 c14 k14
    b_Lnext := Fun.binds (fun_mk (st := st_Lnext) l14 c14 k14) (ps := ["_law_draw", "_law_many"]) fun _ _ _ _ _ _ us hl => match us, hl with | [_, _], _ => rfl
    g_Lpaper_right := PySem.W.mg_of X G a15
    f_Lpaper_right := fun_mk l15 c15 k15
    b_Lpaper_right := Fun.binds (fun_mk (st := st_Lpaper_right) l15 c15 k15) (ps := ["_law_arena_here", "_law_goal", "_law_room", "_law_told", "_law_answer"]) fun _ _ _ _ _ _ us hl => match us, hl with | [_, _, _, _, _], _ => rfl
    f_Forcing_ini := fun_mk l16 c16 k16
    b_Forcing_ini := Fun.binds (fun_mk (st := st_Forcing_ini) l16 c16 k16) (ps := ["self", "arena"]) fun _ _ _ _ _ _ us hl => match us, hl with | [_, _], _ => rfl
    f_Split_put_out := fun_mk l17 c17 k17
    b_Split_put_out := Fun.binds (fun_mk (st := st_Split_put_out) l17 c17 k17) (ps := ["self", "inside", "found", "layer"]) fun _ _ _ _ _ _ us hl => match us, hl with | [_, _, _, _], _ => rfl
    mt_Split_put_out := ⟨a17, z17, k17⟩
    g_Lmove := PySem.W.mg_of X G a18
    f_Lmove := fun_mk l18 c18 k18
    b_Lmove := Fun.binds (fun_mk (st := st_Lmove) l18 c18 k18) (ps := ["_law_draw", "_law_many"]) fun _ _ _ _ _ _ us hl => match us, hl with | [_, _], _ => rfl
    g_Lwide := PySem.W.mg_of X G a19
    f_Lwide := fun_mk l19 c19 k19
    b_Lwide := Fun.binds (fun_mk (st := st_Lwide) l19 c19 k19) (ps := ["_law_draw"]) fun _ _ _ _ _ _ us hl => match us, hl with | [_], _ => rfl
    g_Larena := PySem.W.mg_of X G a20
    f_Larena := fun_mk l20 c20 k20
    b_Larena := Fun.binds (fun_mk (st := st_Larena) l20 c20 k20) (ps := ["_law_draw", "_law_most"]) fun _ _ _ _ _ _ us hl => match us, hl with | [_, _], _ => rfl
    f_Split_ini := fun_mk l21 c21 k21
    b_Split_ini := Fun.binds (fun_mk (st := st_Split_ini) l21 c21 k21) (ps := ["self", "arena", "rooms"]) fun _ _ _ _ _ _ us hl => match us, hl with | [_, _, _], _ => rfl
    g_again := PySem.W.mg_of X G a22
    f_again := fun_mk l22 c22 k22
    b_again := Fun.binds (fun_mk (st := st_again) l22 c22 k22) (ps := ["arena", "mark", "room"]) fun _ _ _ _ _ _ us hl => match us, hl with | [_, _, _], _ => rfl
    g_again_rooms := PySem.W.mg_of X G a23
    f_again_rooms := fun_mk l23 c23 k23
    b_again_rooms := Fun.binds (fun_mk (st := st_again_rooms) l23 c23 k23) (ps := ["arena", "mark"]) fun _ _ _ _ _ _ us hl => match us, hl with | [_, _], _ => rfl
    g_Lright := PySem.W.mg_of X G a24
    f_Lright := fun_mk l24 c24 k24
    b_Lright := Fun.binds (fun_mk (st := st_Lright) l24 c24 k24) (ps := ["_law_arena_here"]) fun _ _ _ _ _ _ us hl => match us, hl with | [_], _ => rfl
    g_Lfar_right := PySem.W.mg_of X G a25
    f_Lfar_right := fun_mk l25 c25 k25
    b_Lfar_right := Fun.binds (fun_mk (st := st_Lfar_right) l25 c25 k25) (ps := ["_law_draw"]) fun _ _ _ _ _ _ us hl => match us, hl with | [_], _ => rfl
    g_LAW := PySem.W.mg_of X G a26
    f_LAW := fun_mk l26 c26 k26
    b_LAW := Fun.binds (fun_mk (st := st_LAW) l26 c26 k26) (ps := ["_law_script"]) fun _ _ _ _ _ _ us hl => match us, hl with | [_], _ => rfl
    e_BadMark := ⟨_, PySem.W.mg_of X G a_BadMark, a_BadMark, kp_BadMark, sb_BadMark, ty_BadMark, xi_BadMark⟩
    e_BadRoom := ⟨_, PySem.W.mg_of X G a_BadRoom, a_BadRoom, kp_BadRoom, sb_BadRoom, ty_BadRoom, xi_BadRoom⟩
    n_abs := PySem.W.mg_none_of X G n_abs
    n_bool := PySem.W.mg_none_of X G n_bool
    n_dict := PySem.W.mg_none_of X G n_dict
    n_enumerate := PySem.W.mg_none_of X G n_enumerate
    n_int := PySem.W.mg_none_of X G n_int
    n_isinstance := PySem.W.mg_none_of X G n_isinstance
    n_len := PySem.W.mg_none_of X G n_len
    n_list := PySem.W.mg_none_of X G n_list
    n_max := PySem.W.mg_none_of X G n_max
    n_min := PySem.W.mg_none_of X G n_min
    n_range := PySem.W.mg_none_of X G n_range
    n_repr := PySem.W.mg_none_of X G n_repr
    n_set := PySem.W.mg_none_of X G n_set
    n_sorted := PySem.W.mg_none_of X G n_sorted
    n_str := PySem.W.mg_none_of X G n_str
    n_tuple := PySem.W.mg_none_of X G n_tuple
    n_zip := PySem.W.mg_none_of X G n_zip }
  exact ⟨D.d_LAW, fun s u => .of_eq rfl, fun base _ _ => g_LAW T⟩

theorem head : PySem.Challenge.rw_waitduel_k40_whole_again_shown.Holds := by
  w_on; o_law; k_head; (case hw => w_witness2)
  k_fill
  refine walk_m (l := PySem.Challenge.rw_waitduel_k40_whole_again_shown) (k := 8) (x := "_law_script") (F := r_LAW) rfl rfl ⟨rfl, by decide, by decide⟩ (fun w h Y => PySem.W.kIn_of Y) law_ok ?F
  case F =>
    intro w mg fa h KX G hmg
    refine' all_mk KX G hmg ?a_Forcing ?g_Forcing ?h_Forcing ?o_Forcing ?s_Forcing ?m_Forcing ?p_Forcing ?n_Forcing_into ?n_Forcing_rooms ?a_Split ?g_Split ?h_Split ?o_Split ?s_Split ?m_Split ?p_Split ?n_Split_forcing ?n_Split_mine ?n_Split_noted ?n_Split_others ?a0 ?l0 ?c0 ?k0 ?a1 ?l1 ?c1 ?k1 ?a2 ?l2 ?c2 ?k2 ?a3 ?l3 ?c3 ?k3 ?a4 ?l4 ?c4 ?k4 ?a5 ?l5 ?c5 ?k5 ?a6 ?l6 ?c6 ?k6 ?a7 ?l7 ?c7 ?k7 ?a8 ?l8 ?c8 ?k8 ?a9 ?z9 ?l9 ?c9 ?k9 ?a10 ?z10 ?l10 ?c10 ?k10 ?a11 ?z11 ?l11 ?c11 ?k11 ?a12 ?z12 ?l12 ?c12 ?k12 ?a13 ?l13 ?c13 ?k13 ?a14 ?l14 ?c14 ?k14 ?a15 ?l15 ?c15 ?k15 ?a16 ?z16 ?l16 ?c16 ?k16 ?a17 ?z17 ?l17 ?c17 ?k17 ?a18 ?l18 ?c18 ?k18 ?a19 ?l19 ?c19 ?k19 ?a20 ?l20 ?c20 ?k20 ?a21 ?z21 ?l21 ?c21 ?k21 ?a22 ?l22 ?c22 ?k22 ?a23 ?l23 ?c23 ?k23 ?a24 ?l24 ?c24 ?k24 ?a25 ?l25 ?c25 ?k25 ?a26 ?l26 ?c26 ?k26 ?a_BadMark ?a_BadRoom ?kp_BadMark ?sb_BadMark ?ty_BadMark ?xi_BadMark ?kp_BadRoom ?sb_BadRoom ?ty_BadRoom ?xi_BadRoom ?n_abs ?n_bool ?n_dict ?n_enumerate ?n_int ?n_isinstance ?n_len ?n_list ?n_max ?n_min ?n_range ?n_repr ?n_set ?n_sorted ?n_str ?n_tuple ?n_zip
    (case a_Forcing => k_is)
    (case g_Forcing => k_is)
    (case h_Forcing => k_is)
    (case o_Forcing => k_is)
    (case s_Forcing => k_is)
    (case m_Forcing => k_is)
    (case p_Forcing => k_is)
    (case n_Forcing_into => k_is)
    (case n_Forcing_rooms => k_is)
    (case a_Split => k_is)
    (case g_Split => k_is)
    (case h_Split => k_is)
    (case o_Split => k_is)
    (case s_Split => k_is)
    (case m_Split => k_is)
    (case p_Split => k_is)
    (case n_Split_forcing => k_is)
    (case n_Split_mine => k_is)
    (case n_Split_noted => k_is)
    (case n_Split_others => k_is)
    (case a0 => k_is)
    (case l0 => k_is)
    (case c0 => k_is)
    (case k0 => k_is)
    (case a1 => k_is)
    (case l1 => k_is)
    (case c1 => k_is)
    (case k1 => k_is)
    (case a2 => k_is)
    (case l2 => k_is)
    (case c2 => k_is)
    (case k2 => k_is)
    (case a3 => k_is)
    (case l3 => k_is)
    (case c3 => k_is)
    (case k3 => k_is)
    (case a4 => k_is)
    (case l4 => k_is)
    (case c4 => k_is)
    (case k4 => k_is)
    (case a5 => k_is)
    (case l5 => k_is)
    (case c5 => k_is)
    (case k5 => k_is)
    (case a6 => k_is)
    (case l6 => k_is)
    (case c6 => k_is)
    (case k6 => k_is)
    (case a7 => k_is)
    (case l7 => k_is)
    (case c7 => k_is)
    (case k7 => k_is)
    (case a8 => k_is)
    (case l8 => k_is)
    (case c8 => k_is)
    (case k8 => k_is)
    (case a9 => k_is)
    (case z9 => k_is)
    (case l9 => k_is)
    (case c9 => k_is)
    (case k9 => k_is)
    (case a10 => k_is)
    (case z10 => k_is)
    (case l10 => k_is)
    (case c10 => k_is)
    (case k10 => k_is)
    (case a11 => k_is)
    (case z11 => k_is)
    (case l11 => k_is)
    (case c11 => k_is)
    (case k11 => k_is)
    (case a12 => k_is)
    (case z12 => k_is)
    (case l12 => k_is)
    (case c12 => k_is)
    (case k12 => k_is)
    (case a13 => k_is)
    (case l13 => k_is)
    (case c13 => k_is)
    (case k13 => k_is)
    (case a14 => k_is)
    (case l14 => k_is)
    (case c14 => k_is)
    (case k14 => k_is)
    (case a15 => k_is)
    (case l15 => k_is)
    (case c15 => k_is)
    (case k15 => k_is)
    (case a16 => k_is)
    (case z16 => k_is)
    (case l16 => k_is)
    (case c16 => k_is)
    (case k16 => k_is)
    (case a17 => k_is)
    (case z17 => k_is)
    (case l17 => k_is)
    (case c17 => k_is)
    (case k17 => k_is)
    (case a18 => k_is)
    (case l18 => k_is)
    (case c18 => k_is)
    (case k18 => k_is)
    (case a19 => k_is)
    (case l19 => k_is)
    (case c19 => k_is)
    (case k19 => k_is)
    (case a20 => k_is)
    (case l20 => k_is)
    (case c20 => k_is)
    (case k20 => k_is)
    (case a21 => k_is)
    (case z21 => k_is)
    (case l21 => k_is)
    (case c21 => k_is)
    (case k21 => k_is)
    (case a22 => k_is)
    (case l22 => k_is)
    (case c22 => k_is)
    (case k22 => k_is)
    (case a23 => k_is)
    (case l23 => k_is)
    (case c23 => k_is)
    (case k23 => k_is)
    (case a24 => k_is)
    (case l24 => k_is)
    (case c24 => k_is)
    (case k24 => k_is)
    (case a25 => k_is)
    (case l25 => k_is)
    (case c25 => k_is)
    (case k25 => k_is)
    (case a26 => k_is)
    (case l26 => k_is)
    (case c26 => k_is)
    (case k26 => k_is)
    (case a_BadMark => k_is)
    (case a_BadRoom => k_is)
    (case kp_BadMark => k_is)
    (case sb_BadMark => k_is)
    (case ty_BadMark => k_is)
    (case xi_BadMark => k_exc)
    (case kp_BadRoom => k_is)
    (case sb_BadRoom => k_is)
    (case ty_BadRoom => k_is)
    (case xi_BadRoom => k_exc)
    (case n_abs => k_is)
    (case n_bool => k_is)
    (case n_dict => k_is)
    (case n_enumerate => k_is)
    (case n_int => k_is)
    (case n_isinstance => k_is)
    (case n_len => k_is)
    (case n_list => k_is)
    (case n_max => k_is)
    (case n_min => k_is)
    (case n_range => k_is)
    (case n_repr => k_is)
    (case n_set => k_is)
    (case n_sorted => k_is)
    (case n_str => k_is)
    (case n_tuple => k_is)
    (case n_zip => k_is)
end Mir

theorem PySem.Challenge.cw_waitduel_k40_whole_again_shown_holds : PySem.Challenge.rw_waitduel_k40_whole_again_shown.Holds := by
  exact Mir.head
